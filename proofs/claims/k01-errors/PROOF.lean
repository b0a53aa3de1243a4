import PyProof.Rows.All
import HandS.ForMost
import HandS.Exc
import HandS.TryMany
import HandS.ExcField
import HandS.IsInst
import HandS.TupAny
import HandS.Wide
import HandS.Walk
import HandS.FStr
import HandS.Style
import HandS.Deep
import HandS.Flow
import HandS.TupLe
import HandS.Defaults
import HandS.TupMul
import HandS.ExcInit
import HandS.CallSlots
import HandS.ExcOwn
import HandS.HeadHook2
import HandS.Head0
import HandS.Head1
import HandS.Head2
import HandS.HeadEnd
import HandS.HeadHook1
import HandS.ExcIs
import KE.KExcIs
import PySem.Challenge.RW_calltrim_k01_errors
set_option Elab.async false
set_option linter.all false
set_option maxRecDepth 100000
set_option maxHeartbeats 2400000
/-! MP, part A: data, slots, the relation of data to the heap. -/
namespace MP
open L2 PyProof.Rows PySem PySem.Spec

abbrev Tx := List Nat
/-- a pure value; an instance has its fields in the order of its class's list of names -/
inductive D where
  | non | bl (b : Bool) | int (i : Int) | str (s : Tx) | tup (xs : List D) | lst (xs : List D) | ins (C : Tx) (fs : List D)
deriving Inhabited
structure Exn where
  cls : Tx
  fs : List D
/-- what a slot holds: a pure value, a list of its own, an error caught -/
inductive Val where
  | p (d : D) | ml (xs : List D) | x (e : Exn)
abbrev Env := List (Option Val)
inductive R (α : Type) where
  | ok (a : α) (env : Env) | ex (x : Exn) (env : Env) | bad
abbrev M (α : Type) := Env → R α
def M.bind {α β : Type} (m : M α) (f : α → M β) : M β := fun e => match m e with
  | .ok a e' => f a e'
  | .ex x e' => .ex x e'
  | .bad => .bad
instance : Monad M where
  pure a := fun e => .ok a e
  bind := M.bind
def bad {α : Type} : M α := fun _ => .bad
def lift {α : Type} : Option α → M α
  | some a => fun e => .ok a e
  | none => fun _ => .bad
theorem bind_eq {α β : Type} (m : M α) (f : α → M β) : (m >>= f) = M.bind m f := rfl

/-- what the relation leans on: the written part, where a class stands, the names of its fields -/
structure G where
  K : PySem.W.Frag
  ca : Tx → Addr
  fl : Tx → List Tx

def TxOk (s : Tx) : Prop := (∀ c ∈ s, c < 0x110000) ∧ s.length ≤ sizeLine
def PL (L : Addr → Prop) (H : Hp) (a : Addr) (vs : List V) : Prop := (Rd H a (.lst vs) ∧ ¬ L a) ∧ vs.length ≤ sizeLine
def PT (K : PySem.W.Frag) (L : Addr → Prop) (H : Hp) (a : Addr) (vs : List V) : Prop := ((Rd H a (.tup vs) ∧ ¬ L a) ∨ SqT K (fun _ => none) a vs) ∧ vs.length ≤ sizeLine
def FldOk (names : List Tx) (vs : List V) (vfs : List (Str × V)) : Prop := vs.length = names.length ∧ ∀ (i : Nat) (f : Tx), names[i]? = some f → ∃ v, vs[i]? = some v ∧ vfs.lookup (⟨f.toArray⟩ : Str) = some v

/-- an instance with these attributes: of a plain class, or an error with its dict -/
def InsR (K : PySem.W.Frag) (L : Addr → Prop) (H : Hp) (C a : Addr) (vfs : List (Str × V)) : Prop := ¬ L a ∧ ((Cls K C ∧ ∃ dx, H a = some (.ins C dx vfs)) ∨ (XfC K C ∧ ∃ d, H a = some (exo a C (some d)) ∧ H d = some (exd d vfs) ∧ ¬ L d))
mutual
def Rep (g : G) (L : Addr → Prop) (H : Hp) : D → V → Prop
  | .non, v => v = .non
  | .bl b, v => v = .bl b
  | .int i, v => v = .int i
  | .str s, v => v = .str ⟨s.toArray⟩ ∧ TxOk s
  | .tup xs, v => ∃ a vs, v = .ref a ∧ PT g.K L H a vs ∧ Reps g L H xs vs
  | .lst xs, v => ∃ a vs, v = .ref a ∧ PL L H a vs ∧ Reps g L H xs vs
  | .ins C fs, v => ∃ a vfs vs, v = .ref a ∧ InsR g.K L H (g.ca C) a vfs ∧ FldOk (g.fl C) vs vfs ∧ Reps g L H fs vs
def Reps (g : G) (L : Addr → Prop) (H : Hp) : List D → List V → Prop
  | [], vs => vs = []
  | d :: ds, vs => ∃ v r, vs = v :: r ∧ Rep g L H d v ∧ Reps g L H ds r
end

/-- what is tracked and not owned stays -/
def XT (L : Addr → Prop) (H : Hp) (L' : Addr → Prop) (H' : Hp) : Prop := ∀ a o, H a = some o → ¬ L a → H' a = some o ∧ ¬ L' a
section
variable {g : G} {L L' : Addr → Prop} {H H' : Hp}
theorem XT.rd {a : Addr} {u : HO} (x : XT L H L' H') (h : Rd H a u) (n : ¬ L a) : Rd H' a u ∧ ¬ L' a := by
  rcases h with h | ⟨o, h⟩
  · exact ⟨.inl (x a _ h n).1, (x a _ h n).2⟩
  · exact ⟨.inr ⟨o, (x a _ h n).1⟩, (x a _ h n).2⟩
theorem PL.mono {a : Addr} {vs : List V} (x : XT L H L' H') (h : PL L H a vs) : PL L' H' a vs := ⟨x.rd h.1.1 h.1.2, h.2⟩
theorem PT.mono {K : PySem.W.Frag} {a : Addr} {vs : List V} (x : XT L H L' H') (h : PT K L H a vs) : PT K L' H' a vs := by
  obtain ⟨h | h, z⟩ := h
  · exact ⟨.inl (x.rd h.1 h.2), z⟩
  · exact ⟨.inr h, z⟩
theorem PL.sq {K : PySem.W.Frag} {a : Addr} {vs : List V} (h : PL L H a vs) : SqL K H a vs := .inl h.1.1
theorem PT.sq {K : PySem.W.Frag} {a : Addr} {vs : List V} (h : PT K L H a vs) : SqT K H a vs := by
  obtain ⟨⟨h, _⟩ | h, _⟩ := h
  · exact .inl h
  · rcases h with (h | ⟨o, h⟩) | h
    · cases h
    · cases h
    · exact .inr h
theorem InsR.mono {K : PySem.W.Frag} {C a : Addr} {vfs : List (Str × V)} (x : XT L H L' H') (h : InsR K L H C a vfs) : InsR K L' H' C a vfs := by
  obtain ⟨n, ⟨c, dx, h⟩ | ⟨c, d, h, hd, nd⟩⟩ := h
  · exact ⟨(x a _ h n).2, .inl ⟨c, dx, (x a _ h n).1⟩⟩
  · exact ⟨(x a _ h n).2, .inr ⟨c, d, (x a _ h n).1, (x d _ hd nd).1, (x d _ hd nd).2⟩⟩
mutual
theorem Rep.mono (x : XT L H L' H') : ∀ (d : D) (v : V), Rep g L H d v → Rep g L' H' d v
  | .non, _, h => h
  | .bl _, _, h => h
  | .int _, _, h => h
  | .str _, _, h => h
  | .tup xs, v, h => by
    obtain ⟨a, vs, e, p, r⟩ := h
    exact ⟨a, vs, e, p.mono x, Reps.mono x xs vs r⟩
  | .lst xs, v, h => by
    obtain ⟨a, vs, e, p, r⟩ := h
    exact ⟨a, vs, e, p.mono x, Reps.mono x xs vs r⟩
  | .ins C fs, v, h => by
    obtain ⟨a, vfs, vs, e, p, f, r⟩ := h
    exact ⟨a, vfs, vs, e, p.mono x, f, Reps.mono x fs vs r⟩
theorem Reps.mono (x : XT L H L' H') : ∀ (ds : List D) (vs : List V), Reps g L H ds vs → Reps g L' H' ds vs
  | [], _, h => h
  | d :: ds, vs, h => by
    obtain ⟨v, r, e, h1, h2⟩ := h
    exact ⟨v, r, e, Rep.mono x d v h1, Reps.mono x ds r h2⟩
end
theorem Reps.length : ∀ {ds : List D} {vs : List V}, Reps g L H ds vs → ds.length = vs.length
  | [], vs, h => by
    have e : vs = [] := h
    subst e
    rfl
  | d :: ds, vs, h => by
    obtain ⟨v, r, rfl, _, h2⟩ := h
    rw [List.length_cons, List.length_cons, Reps.length h2]
theorem Reps.get : ∀ {ds : List D} {vs : List V} {i : Nat} {d : D}, Reps g L H ds vs → ds[i]? = some d → ∃ v, vs[i]? = some v ∧ Rep g L H d v
  | [], _, _, _, _, e => by simp at e
  | d :: ds, vs, 0, d', h, e => by
    obtain ⟨v, r, rfl, h1, _⟩ := h
    simp at e; subst e
    exact ⟨v, rfl, h1⟩
  | d :: ds, vs, i + 1, d', h, e => by
    obtain ⟨v, r, rfl, _, h2⟩ := h
    obtain ⟨u, e1, e2⟩ := Reps.get (i := i) (d := d') h2 (by simpa using e)
    exact ⟨u, by simpa using e1, e2⟩
theorem Reps.getV : ∀ {ds : List D} {vs : List V} {i : Nat} {v : V}, Reps g L H ds vs → vs[i]? = some v → ∃ d, ds[i]? = some d ∧ Rep g L H d v
  | [], vs, i, v, h, e => by rw [show vs = [] from h] at e; simp at e
  | d :: ds, vs, 0, v', h, e => by
    obtain ⟨v, r, rfl, h1, _⟩ := h
    simp at e; subst e
    exact ⟨d, rfl, h1⟩
  | d :: ds, vs, i + 1, v', h, e => by
    obtain ⟨v, r, rfl, _, h2⟩ := h
    obtain ⟨u, e1, e2⟩ := Reps.getV (i := i) (v := v') h2 (by simpa using e)
    exact ⟨u, by simpa using e1, e2⟩
theorem Reps.app : ∀ {ds es : List D} {vs us : List V}, Reps g L H ds vs → Reps g L H es us → Reps g L H (ds ++ es) (vs ++ us)
  | [], _, vs, _, h, k => by rw [show vs = [] from h]; exact k
  | d :: ds, es, vs, us, h, k => by
    obtain ⟨v, r, rfl, h1, h2⟩ := h
    exact ⟨v, r ++ us, rfl, h1, Reps.app h2 k⟩
theorem Reps.one {d : D} {v : V} (h : Rep g L H d v) : Reps g L H [d] [v] := ⟨v, [], rfl, h, rfl⟩
theorem Reps.take : ∀ {ds : List D} {vs : List V} (n : Nat), Reps g L H ds vs → Reps g L H (ds.take n) (vs.take n)
  | _, _, 0, _ => rfl
  | [], vs, n + 1, h => by rw [show vs = [] from h]; rfl
  | d :: ds, vs, n + 1, h => by
    obtain ⟨v, r, rfl, h1, h2⟩ := h
    exact ⟨v, r.take n, rfl, h1, Reps.take n h2⟩
theorem Reps.drop : ∀ {ds : List D} {vs : List V} (n : Nat), Reps g L H ds vs → Reps g L H (ds.drop n) (vs.drop n)
  | _, _, 0, h => h
  | [], vs, n + 1, h => by rw [show vs = [] from h]; rfl
  | d :: ds, vs, n + 1, h => by
    obtain ⟨v, r, rfl, h1, h2⟩ := h
    exact Reps.drop n h2
theorem Reps.set : ∀ {ds : List D} {vs : List V} {d : D} {v : V} (n : Nat), Reps g L H ds vs → Rep g L H d v → Reps g L H (ds.set n d) (vs.set n v)
  | [], vs, d, v, n, h, k => by rw [show vs = [] from h]; rfl
  | d' :: ds, vs, d, v, 0, h, k => by
    obtain ⟨v', r, rfl, h1, h2⟩ := h
    exact ⟨v, r, rfl, k, h2⟩
  | d' :: ds, vs, d, v, n + 1, h, k => by
    obtain ⟨v', r, rfl, h1, h2⟩ := h
    exact ⟨v', r.set n v, rfl, h1, Reps.set n h2 k⟩
theorem Reps.nil : Reps g L H [] [] := rfl
theorem Reps.cons {d : D} {v : V} {ds : List D} {vs : List V} (h : Rep g L H d v) (k : Reps g L H ds vs) : Reps g L H (d :: ds) (v :: vs) := ⟨v, vs, rfl, h, k⟩
theorem XT.same (h : Same H H') : XT L H L H' := fun a o e n => ⟨h a o e, n⟩
theorem XT.less (h : ∀ a, L' a → L a) : XT L H L' H := fun a o e n => ⟨e, fun z => n (h a z)⟩
/-- a new object -/
theorem XT.new {p : Addr} {o : HO} (h : H p = none) : XT L H (fun b => L b ∨ b = p) (upd H p o) := fun a u e n => by
  have ne : a ≠ p := fun z => by rw [z, h] at e; cases e
  exact ⟨by rw [upd_ne ne]; exact e, fun z => z.elim n ne⟩
theorem Same.new {p : Addr} {o : HO} (h : H p = none) : Same H (upd H p o) := fun a u e => by
  rw [upd_ne (ne_of_none e h)]; exact e
end

/-- as Rep, or a list that some slot owns, as it is now -/
def RepP (g : G) (L : Addr → Prop) (H : Hp) (d : D) (v : V) : Prop := Rep g L H d v ∨ ∃ xs a vs, d = .lst xs ∧ v = .ref a ∧ H a = some (.lst vs) ∧ vs.length ≤ sizeLine ∧ Reps g L H xs vs
theorem RepP.lst {g : G} {L : Addr → Prop} {H : Hp} {xs : List D} {v : V} (h : RepP g L H (.lst xs) v) : ∃ a vs, v = .ref a ∧ Rd H a (.lst vs) ∧ vs.length ≤ sizeLine ∧ Reps g L H xs vs := by
  rcases h with ⟨a, vs, e, p, r⟩ | ⟨xs', a, vs, e1, e2, h, z, r⟩
  · exact ⟨a, vs, e, p.1.1, p.2, r⟩
  · cases e1
    exact ⟨a, vs, e2, .inl h, z, r⟩
theorem RepP.rep {g : G} {L : Addr → Prop} {H : Hp} {d : D} {v : V} (h : RepP g L H d v) (n : ∀ xs, d ≠ .lst xs) : Rep g L H d v := by
  rcases h with h | ⟨xs', a, vs, e1, _⟩
  · exact h
  · exact absurd e1 (n _)

/-! ### slots -/
abbrev Own := Nat → Option Addr
abbrev XTab := Addr → Option (Value × Option Addr)
def LL (L0 : Addr → Prop) (O : Own) : Addr → Prop := fun a => L0 a ∨ ∃ i, O i = some a
def SR (g : G) (L : Addr → Prop) (xs : XTab) (H : Hp) (o : Option Addr) : Option (Option Val) → Option (Option V) → Prop
  | some (some (.p d)), sv => o = none ∧ ∃ v, sv = some (some v) ∧ Rep g L H d v
  | some (some (.ml ds)), sv => ∃ a vs, o = some a ∧ sv = some (some (.ref a)) ∧ H a = some (.lst vs) ∧ vs.length ≤ sizeLine ∧ Reps g L H ds vs
  | some (some (.x e)), sv => o = none ∧ ∃ a dd vfs vs, sv = some (some (.ref a)) ∧ xs a = some (.ref (g.ca e.cls), some dd) ∧ H dd = some (.xd vfs) ∧ ¬ L dd ∧ FldOk (g.fl e.cls) vs vfs ∧ Reps g L H e.fs vs
  | _, _ => o = none
/-- the frame: dm: what stood at the def's entry; rf: the slots of the arguments that may be changed in place -/
structure FRel (g : G) (rf : Nat → Bool) (dm L0 : Addr → Prop) (xs : XTab) (O : Own) (H : Hp) (σ : L2.St) (env : Env) : Prop where
  len : env.length = σ.length
  sl : ∀ i, SR g (LL L0 O) xs H (O i) env[i]? σ[i]?
  inj : ∀ i j a, O i = some a → O j = some a → i = j
  dis : ∀ i a, O i = some a → ¬ L0 a
  lok : ∀ a, L0 a → ∃ o, H a = some o
  dom : ∀ a, dm a → ∃ o, H a = some o
  own : ∀ i a, rf i = false → O i = some a → ¬ dm a
structure Ext (rf : Nat → Bool) (σ : L2.St) (O : Own) (H : Hp) (σ' : L2.St) (O' : Own) (H' : Hp) : Prop where
  keep : ∀ a o, H a = some o → (∀ i, O i ≠ some a) → H' a = some o ∧ ∀ i, O' i ≠ some a
  stab : ∀ i, rf i = true → σ'[i]? = σ[i]? ∧ (O' i = none ∨ O' i = O i)
  old : ∀ a o, H a = some o → ∃ o', H' a = some o'
section
variable {g : G} {rf : Nat → Bool} {dm L0 : Addr → Prop} {xs : XTab} {O O' O'' : Own} {H H' H'' : Hp} {σ σ' σ'' : L2.St} {env : Env}
theorem Ext.refl : Ext rf σ O H σ O H := ⟨fun _ _ h n => ⟨h, n⟩, fun _ _ => ⟨rfl, .inr rfl⟩, fun _ o h => ⟨o, h⟩⟩
theorem Ext.trans (a : Ext rf σ O H σ' O' H') (b : Ext rf σ' O' H' σ'' O'' H'') : Ext rf σ O H σ'' O'' H'' := by
  refine ⟨fun c o h n => ?_, fun i hi => ?_, fun c o h => ?_⟩
  · obtain ⟨h1, n1⟩ := a.keep c o h n
    exact b.keep c o h1 n1
  · obtain ⟨e1, o1⟩ := a.stab i hi
    obtain ⟨e2, o2⟩ := b.stab i hi
    refine ⟨e2.trans e1, ?_⟩
    rcases o2 with o2 | o2
    · exact .inl o2
    · rcases o1 with o1 | o1
      · exact .inl (o2.trans o1)
      · exact .inr (o2.trans o1)
  · obtain ⟨o1, h1⟩ := a.old c o h
    exact b.old c o1 h1
theorem Ext.xt (x : Ext rf σ O H σ' O' H') : XT (LL L0 O) H (LL L0 O') H' := fun a o h n => by
  obtain ⟨h1, n1⟩ := x.keep a o h fun i e => n (.inr ⟨i, e⟩)
  exact ⟨h1, fun z => z.elim (fun z => n (.inl z)) fun ⟨i, e⟩ => n1 i e⟩
theorem Ext.same (h : Same H H') : Ext rf σ O H σ O H' := ⟨fun a o e n => ⟨h a o e, n⟩, fun _ _ => ⟨rfl, .inr rfl⟩, fun a o e => ⟨o, h a o e⟩⟩
theorem SR.mono {L L' : Addr → Prop} {o : Option Addr} {ev : Option (Option Val)} {sv : Option (Option V)} (x : XT L H L' H') (k : ∀ a u, o = some a → H a = some u → H' a = some u) (h : SR g L xs H o ev sv) : SR g L' xs H' o ev sv := by
  match ev with
  | none => exact h
  | some none => exact h
  | some (some (.p d)) =>
    obtain ⟨e, v, e2, r⟩ := h
    exact ⟨e, v, e2, Rep.mono x d v r⟩
  | some (some (.ml ds)) =>
    obtain ⟨a, vs, e1, e2, h1, z, r⟩ := h
    exact ⟨a, vs, e1, e2, k a _ e1 h1, z, Reps.mono x ds vs r⟩
  | some (some (.x e)) =>
    obtain ⟨e0, a, dd, vfs, vs, e1, e2, h1, n, f, r⟩ := h
    exact ⟨e0, a, dd, vfs, vs, e1, e2, (x dd _ h1 n).1, (x dd _ h1 n).2, f, Reps.mono x _ vs r⟩
theorem FRel.same (F : FRel g rf dm L0 xs O H σ env) (h : Same H H') : FRel g rf dm L0 xs O H' σ env :=
  ⟨F.len, fun i => SR.mono (XT.same h) (fun a u _ e => h a u e) (F.sl i), F.inj, F.dis, fun a z => let ⟨o, e⟩ := F.lok a z; ⟨o, h a o e⟩, fun a z => let ⟨o, e⟩ := F.dom a z; ⟨o, h a o e⟩, F.own⟩
/-- what L forbids is tracked -/
theorem FRel.trk (F : FRel g rf dm L0 xs O H σ env) : ∀ a, LL L0 O a → ∃ o, H a = some o := fun a z => by
  rcases z with z | ⟨i, e⟩
  · exact F.lok a z
  · have s := F.sl i
    rw [e] at s
    match hq : env[i]? with
    | none => rw [hq] at s; cases s
    | some none => rw [hq] at s; cases s
    | some (some (.p d)) => rw [hq] at s; cases s.1
    | some (some (.ml ds)) =>
      rw [hq] at s
      obtain ⟨a', vs, e1, _, h1, _⟩ := s
      cases e1
      exact ⟨_, h1⟩
    | some (some (.x d)) => rw [hq] at s; cases s.1
theorem FRel.fresh (F : FRel g rf dm L0 xs O H σ env) {p : Addr} (h : H p = none) : ¬ LL L0 O p ∧ ¬ dm p := by
  refine ⟨fun z => ?_, fun z => ?_⟩
  · obtain ⟨o, e⟩ := F.trk p z
    rw [h] at e; cases e
  · obtain ⟨o, e⟩ := F.dom p z
    rw [h] at e; cases e
/-- one address more is forbidden -/
def LA (L0 : Addr → Prop) (a : Addr) : Addr → Prop := fun b => L0 b ∨ b = a
theorem LA.ll {a b : Addr} (h : LL L0 O b) : LL (LA L0 a) O b := h.elim (fun h => .inl (.inl h)) .inr
theorem LA.cases {a b : Addr} (h : LL (LA L0 a) O b) : LL L0 O b ∨ b = a := h.elim (fun h => h.elim (fun h => .inl (.inl h)) .inr) fun h => .inl (.inr h)
/-- a new object, that the slots don't know -/
theorem FRel.newA (F : FRel g rf dm L0 xs O H σ env) {a : Addr} {o : HO} (h : H a = none) (s : Same H H') (h' : H' a = some o) : FRel g rf dm (LA L0 a) xs O H' σ env := by
  have x : XT (LL L0 O) H (LL (LA L0 a) O) H' := fun b u e n => ⟨s b u e, fun z => (LA.cases z).elim n fun q => by rw [q, h] at e; cases e⟩
  refine ⟨F.len, fun i => SR.mono x (fun b u _ e => s b u e) (F.sl i), F.inj, fun i b e z => z.elim (F.dis i b e) fun q => ?_, fun b z => ?_, fun b z => let ⟨o, e⟩ := F.dom b z; ⟨o, s b o e⟩, F.own⟩
  · subst q
    obtain ⟨o, e2⟩ := F.trk b (.inr ⟨i, e⟩)
    rw [h] at e2; cases e2
  · rcases z with z | q
    · exact let ⟨o, e⟩ := F.lok b z; ⟨o, s b o e⟩
    · exact ⟨o, by rw [q]; exact h'⟩
theorem FRel.less {L1 : Addr → Prop} (F : FRel g rf dm L1 xs O H σ env) (h : ∀ a, L0 a → L1 a) : FRel g rf dm L0 xs O H σ env :=
  ⟨F.len, fun i => SR.mono (XT.less fun b z => z.elim (fun z => .inl (h b z)) .inr) (fun _ _ _ e => e) (F.sl i), F.inj, fun i a e z => F.dis i a e (h a z), fun a z => F.lok a (h a z), F.dom, F.own⟩
end
end MP

/-! MP, part B: what an expression does, as a reading; operators, names, tests. -/
namespace MP
open L2 PyProof.Rows PySem PySem.Spec

structure Cy where
  g : G
  rf : Nat → Bool
  dm : Addr → Prop
  xs : XTab
  W : WX
abbrev Cy.F (C : Cy) (L0 : Addr → Prop) (O : Own) (H : Hp) (σ : L2.St) (env : Env) : Prop := FRel C.g C.rf C.dm L0 C.xs O H σ env
/-- an error in flight -/
def XR (g : G) (L : Addr → Prop) (H : Hp) (x : Exn) (cls : Value) (d : Option Addr) : Prop :=
  cls = .ref (g.ca x.cls) ∧ ∃ dd vfs vs, d = some dd ∧ H dd = some (.xd vfs) ∧ ¬ L dd ∧ FldOk (g.fl x.cls) vs vfs ∧ Reps g L H x.fs vs
def Post (C : Cy) {α : Type} (L0 : Addr → Prop) (O : Own) (H : Hp) (σ : L2.St) (r : R α) (Φ : α → Env → Own → Hp → Prop) : Prop :=
  match r with
  | .ok a e => ∀ O' H', Ext C.rf σ O H σ O' H' → C.F L0 O' H' σ e → Φ a e O' H'
  | .ex x e => ∀ cls dd O' H', Ext C.rf σ O H σ O' H' → C.F L0 O' H' σ e → XR C.g (LL L0 O') H' x cls dd → C.W cls dd σ H'
  | .bad => False
section
variable {C : Cy} {L0 : Addr → Prop} {O O1 : Own} {H H1 : Hp} {σ : L2.St} {env : Env}
theorem Post.at {α : Type} {r : R α} {Φ : α → Env → Own → Hp → Prop} (h : Post C L0 O H σ r Φ) (x : Ext C.rf σ O H σ O1 H1) : Post C L0 O1 H1 σ r Φ := by
  cases r with
  | ok a e => exact fun O' H' y F => h O' H' (x.trans y) F
  | ex a e => exact fun c d O' H' y F k => h c d O' H' (x.trans y) F k
  | bad => exact h
theorem Post.imp {α : Type} {r : R α} {Φ Φ' : α → Env → Own → Hp → Prop} (h : Post C L0 O H σ r Φ) (k : ∀ a e O' H', Ext C.rf σ O H σ O' H' → C.F L0 O' H' σ e → Φ a e O' H' → Φ' a e O' H') : Post C L0 O H σ r Φ' := by
  cases r with
  | ok a e => exact fun O' H' y F => k a e O' H' y F (h O' H' y F)
  | ex a e => exact h
  | bad => exact h
theorem Post.bind {α β : Type} {m : M α} {f : α → M β} {Φ : β → Env → Own → Hp → Prop} (h : Post C L0 O H σ ((m >>= f) env) Φ) : Post C L0 O H σ (m env) (fun a e O' H' => Post C L0 O' H' σ (f a e) Φ) := by
  rw [bind_eq] at h
  unfold M.bind at h
  cases e : m env with
  | ok a e' => rw [e] at h; exact fun O' H' y F => Post.at h y
  | ex a e' => rw [e] at h; exact h
  | bad => rw [e] at h; exact h
theorem Post.here {α : Type} {a : α} {Φ : α → Env → Own → Hp → Prop} (h : Post C L0 O H σ (.ok a env) Φ) (F : C.F L0 O H σ env) : Φ a env O H := h O H Ext.refl F
end

def EvE (C : Cy) (m : M D) : TE := fun σ H Q => ∃ L0 O env, C.F L0 O H σ env ∧ Post C L0 O H σ (m env) fun d _ O' H' => ∀ v, Rep C.g (LL L0 O') H' d v → Q v H'
def EvP (C : Cy) (m : M D) : TE := fun σ H Q => ∃ L0 O env, C.F L0 O H σ env ∧ Post C L0 O H σ (m env) fun d _ O' H' => ∀ v, RepP C.g (LL L0 O') H' d v → Q v H'
def EvT (C : Cy) (m : M Bool) : TT := fun σ H Q => ∃ L0 O env, C.F L0 O H σ env ∧ Post C L0 O H σ (m env) fun b _ _ H' => Q b H'
def EvA (C : Cy) (m : M (List D)) : TA := fun σ H Q => ∃ L0 O env, C.F L0 O H σ env ∧ Post C L0 O H σ (m env) fun ds _ O' H' => ∀ vs, Reps C.g (LL L0 O') H' ds vs → Q vs H'
/-- a list just made, that nothing else knows -/
def EvF (C : Cy) (m : M (List D)) : TE := fun σ H Q => ∃ L0 O env, C.F L0 O H σ env ∧ Post C L0 O H σ (m env) fun ds e O' H' => ∀ a vs, H a = none → H' a = some (.lst vs) → C.F (LA L0 a) O' H' σ e → vs.length ≤ sizeLine →
  Reps C.g (LL (LA L0 a) O') H' ds vs → Q (.ref a) H'
theorem _root_.L2.PE.weak {X : Cx} {e : Expr} {t t' : TE} (h : PE X e t) (k : ∀ σ H Q, t' σ H Q → t σ H Q) : PE X e t' := ⟨fun pins s σ H Q I q => h.run pins s σ H Q I (k σ H Q q)⟩
theorem _root_.L2.PT.weak {X : Cx} {e : Expr} {t t' : TT} (h : L2.PT X e t) (k : ∀ σ H Q, t' σ H Q → t σ H Q) : L2.PT X e t' := ⟨fun pins s σ H Q I q => h.run pins s σ H Q I (k σ H Q q)⟩
theorem _root_.L2.PW.weak {X : Cx} {e : Expr} {t t' : TT} (h : PW X e t) (k : ∀ σ H Q, t' σ H Q → t σ H Q) : PW X e t' := ⟨fun w pins s σ H Q I q => h.run w pins s σ H Q I (k σ H Q q)⟩
theorem _root_.L2.PA.weak {X : Cx} {e : List Expr} {t t' : TA} (h : PA X e t) (k : ∀ σ H Q, t' σ H Q → t σ H Q) : PA X e t' := ⟨fun p pins s σ H Q I q => h.run p pins s σ H Q I (k σ H Q q)⟩
theorem EvE.toP {C : Cy} {m : M D} {X : Cx} {e : Expr} (h : PE X e (EvE C m)) : PE X e (EvP C m) := h.weak fun σ H Q ⟨L0, O, env, F, h⟩ => ⟨L0, O, env, F, h.imp fun d e O' H' _ _ k v r => k v (.inl r)⟩
theorem EvF.toE {C : Cy} {m : M (List D)} {X : Cx} {e : Expr} (h : PE X e (EvF C m)) : PE X e (EvE C (do let xs ← m; pure (.lst xs))) := h.weak fun σ H Q ⟨L0, O, env, F, h⟩ => by
  refine ⟨L0, O, env, F, (Post.bind h).imp fun ds e O' H' y F' k a vs h0 h1 FA z r => ?_⟩
  have n : ¬ LL L0 O' a := fun q => q.elim (fun q => (F.fresh h0).1 (.inl q)) fun ⟨i, e⟩ => FA.dis i a e (.inr rfl)
  exact k.here F' _ ⟨a, vs, rfl, ⟨⟨.inl h1, n⟩, z⟩, Reps.mono (XT.less fun b q => LA.ll q) ds vs r⟩

/-! ### names, constants -/
def mVar (i : Nat) : M D := fun e => match e[i]? with
  | some (some (.p d)) => .ok d e
  | some (some (.ml xs)) => .ok (.lst xs) (e.set i (some (.p (.lst xs))))
  | _ => .bad
def mPeek (i : Nat) : M D := fun e => match e[i]? with
  | some (some (.p d)) => .ok d e
  | some (some (.ml xs)) => .ok (.lst xs) e
  | _ => .bad
def mC (d : D) : M D := fun e => .ok d e
def offO (O : Own) (i : Nat) : Own := fun j => if j = i then none else O j
section
variable {g : G} {rf : Nat → Bool} {dm L0 : Addr → Prop} {xs : XTab} {O : Own} {H : Hp} {σ : L2.St} {env : Env}
theorem offO_same {i : Nat} : offO O i i = none := if_pos rfl
theorem offO_ne {i j : Nat} (h : j ≠ i) : offO O i j = O j := if_neg h
theorem offO_some {i j : Nat} {a : Addr} (h : offO O i j = some a) : j ≠ i ∧ O j = some a := by
  by_cases e : j = i
  · rw [e, offO_same] at h; cases h
  · rw [offO_ne e] at h; exact ⟨e, h⟩
theorem Ext.off {i : Nat} : Ext rf σ O H σ (offO O i) H := ⟨fun a o h n => ⟨h, fun j e => n j (offO_some e).2⟩, fun j _ => ⟨rfl, by
  by_cases e : j = i
  · exact .inl (by rw [e, offO_same])
  · exact .inr (offO_ne e)⟩, fun a o h => ⟨o, h⟩⟩
/-- a list that a slot owns becomes a value -/
theorem FRel.freeze {i : Nat} {ds : List D} (F : FRel g rf dm L0 xs O H σ env) (h : env[i]? = some (some (.ml ds))) :
    FRel g rf dm L0 xs (offO O i) H σ (env.set i (some (.p (.lst ds)))) ∧ ∃ v, σ[i]? = some (some v) ∧ Rep g (LL L0 (offO O i)) H (.lst ds) v := by
  have s := F.sl i
  rw [h] at s
  obtain ⟨a, vs, e1, e2, h1, z, r⟩ := s
  have hi : i < env.length := (List.getElem?_eq_some_iff.mp h).1
  have x : XT (LL L0 O) H (LL L0 (offO O i)) H := XT.less fun b q => q.elim .inl fun ⟨j, e⟩ => .inr ⟨j, (offO_some e).2⟩
  have n : ¬ LL L0 (offO O i) a := fun q => q.elim (F.dis i a e1) fun ⟨j, e⟩ => (offO_some e).1 (F.inj j i a (offO_some e).2 e1)
  have rep : Rep g (LL L0 (offO O i)) H (.lst ds) (.ref a) := ⟨a, vs, rfl, ⟨⟨.inl h1, n⟩, z⟩, Reps.mono x ds vs r⟩
  refine ⟨⟨by rw [List.length_set]; exact F.len, fun j => ?_, fun j k b p q => F.inj j k b (offO_some p).2 (offO_some q).2, fun j b p => F.dis j b (offO_some p).2, F.lok, F.dom, fun j b p q => F.own j b p (offO_some q).2⟩, .ref a, e2, rep⟩
  by_cases e : j = i
  · subst e
    rw [List.getElem?_set_self hi, offO_same]
    exact ⟨rfl, .ref a, e2, rep⟩
  · rw [List.getElem?_set_ne (Ne.symm e), offO_ne e]
    exact SR.mono x (fun _ _ _ q => q) (F.sl j)
theorem mPeek_ok {C : Cy} {i : Nat} {d : D} {e' : Env} (F : C.F L0 O H σ env) (h : mPeek i env = .ok d e') : e' = env ∧ ∃ v, σ[i]? = some (some v) ∧ RepP C.g (LL L0 O) H d v := by
  unfold mPeek at h
  have s := F.sl i
  split at h
  · rename_i d' hq
    rw [hq] at s
    cases h
    obtain ⟨_, v, e, r⟩ := s
    exact ⟨rfl, v, e, .inl r⟩
  · rename_i ds hq
    rw [hq] at s
    cases h
    obtain ⟨a, vs, e1, e2, h1, z, r⟩ := s
    exact ⟨rfl, .ref a, e2, .inr ⟨ds, a, vs, rfl, rfl, h1, z, r⟩⟩
  · cases h
end
section
variable {X : Cx} {C : Cy}
theorem pd_var {i : Nat} {x : Str} {pos : Pos} (hN : X.N[i]? = some x) (hv : Vis X.env.scope x) (hd : (x == ("__debug__" : Str)) = false) (hcd : (x == ("__classdict__" : Str)) = false) : PE X (.Name x pos) (EvE C (mVar i)) := by
  refine (pe_var hN hv hd hcd).weak fun σ H Q ⟨L0, O, env, F, h⟩ => ?_
  have s := F.sl i
  unfold mVar at h
  split at h
  · rename_i d hq
    rw [hq] at s
    obtain ⟨_, v, e, r⟩ := s
    exact ⟨v, e, h.here F v r⟩
  · rename_i ds hq
    obtain ⟨F', v, e, r⟩ := F.freeze hq
    exact ⟨v, e, h _ _ Ext.off F' v r⟩
  · exact h.elim
theorem pd_peek {i : Nat} {x : Str} {pos : Pos} (hN : X.N[i]? = some x) (hv : Vis X.env.scope x) (hd : (x == ("__debug__" : Str)) = false) (hcd : (x == ("__classdict__" : Str)) = false) : PE X (.Name x pos) (EvP C (mPeek i)) := by
  refine (pe_var hN hv hd hcd).weak fun σ H Q ⟨L0, O, env, F, h⟩ => ?_
  cases e : mPeek i env with
  | ok d e' =>
    obtain ⟨rfl, v, es, r⟩ := mPeek_ok F e
    rw [e] at h
    exact ⟨v, es, h.here F v r⟩
  | ex a b => unfold mPeek at e; split at e <;> cases e
  | bad => rw [e] at h; exact h.elim
theorem pd_c {e : Expr} {d : D} {v : V} (h : PE X e (tC v)) (r : ∀ L H, Rep C.g L H d v) : PE X e (EvE C (mC d)) :=
  h.weak fun σ H Q ⟨L0, O, env, F, h⟩ => h.here F v (r _ _)

/-! ### operations of two values -/
/-- r does what f tells, by values (a list that a slot owns may be read) -/
def OS2 (g : G) (r : R2) (f : D → D → Option D) : Prop := ∀ (L : Addr → Prop) (H : Hp) (d e k : D) (x y : V) (Q : VK), (∀ a, L a → ∃ o, H a = some o) → RepP g L H d x → RepP g L H e y → f d e = some k →
  (∀ v H', Same H H' → Rep g L H' k v → Q v H') → r x y H Q
theorem OS2.or {g : G} {r r' : R2} {f f' : D → D → Option D} (h : OS2 g r f) (h' : OS2 g r' f') : OS2 g (fun x y H Q => r x y H Q ∨ r' x y H Q) (fun d e => (f d e).orElse fun _ => f' d e) := by
  intro L H d e k x y Q hl rx ry hf q
  have hf : ((f d e).orElse fun _ => f' d e) = some k := hf
  cases ef : f d e with
  | some k' =>
    rw [ef] at hf
    cases hf
    exact .inl (h L H d e _ x y Q hl rx ry ef q)
  | none =>
    rw [ef] at hf
    exact .inr (h' L H d e k x y Q hl rx ry hf q)
def mBin (f : D → D → Option D) (a b : M D) : M D := do
  let x ← a
  let y ← b
  lift (f x y)
/-- the left one a name -/
def mBinL (f : D → D → Option D) (i : Nat) (b : M D) : M D := do
  let _ ← mPeek i
  let y ← b
  let x ← mPeek i
  lift (f x y)
theorem Rep.at {g : G} {rf : Nat → Bool} {L0 : Addr → Prop} {O O' : Own} {H H' : Hp} {σ σ' : L2.St} {d : D} {v : V} (r : Rep g (LL L0 O) H d v) (x : Ext rf σ O H σ' O' H') : Rep g (LL L0 O') H' d v := Rep.mono x.xt d v r
theorem Reps.at {g : G} {rf : Nat → Bool} {L0 : Addr → Prop} {O O' : Own} {H H' : Hp} {σ σ' : L2.St} {d : List D} {v : List V} (r : Reps g (LL L0 O) H d v) (x : Ext rf σ O H σ' O' H') : Reps g (LL L0 O') H' d v := Reps.mono x.xt d v r
theorem op_end {L0 : Addr → Prop} {O : Own} {H : Hp} {σ : L2.St} {env : Env} {r : R2} {f : D → D → Option D} {d e : D} {x y : V} {Q : VK} (os : OS2 C.g r f) (F : C.F L0 O H σ env) (rx : RepP C.g (LL L0 O) H d x) (ry : RepP C.g (LL L0 O) H e y)
    (h : Post C L0 O H σ (lift (f d e) env) fun k _ O' H' => ∀ v, Rep C.g (LL L0 O') H' k v → Q v H') : r x y H Q := by
  cases ef : f d e with
  | none => rw [ef] at h; exact h.elim
  | some k =>
    rw [ef] at h
    exact os _ H d e k x y Q F.trk rx ry ef fun v H' s rv => h O H' (Ext.same s) (F.same s) v rv
theorem bin_weak {r : R2} {f : D → D → Option D} {a b : M D} (os : OS2 C.g r f) (σ : L2.St) (H : Hp) (Q : VK) (h : EvE C (mBin f a b) σ H Q) : tOp r (EvE C a) (EvP C b) σ H Q := by
  obtain ⟨L0, O, env, F, h⟩ := h
  refine ⟨L0, O, env, F, (Post.bind h).imp fun d e1 O1 H1 x1 F1 h1 v rv => ?_⟩
  refine ⟨L0, O1, e1, F1, (Post.bind h1).imp fun d2 e2 O2 H2 x2 F2 h2 u ru => ?_⟩
  exact op_end os F2 (.inl (rv.at x2)) ru h2
theorem binL_weak {r : R2} {f : D → D → Option D} {i : Nat} {b : M D} (os : OS2 C.g r f) (σ : L2.St) (H : Hp) (Q : VK) (h : EvE C (mBinL f i b) σ H Q) : tOp r (tVar i) (EvP C b) σ H Q := by
  obtain ⟨L0, O, env, F, h⟩ := h
  have h := Post.bind h
  cases e : mPeek i env with
  | ok d e' =>
    obtain ⟨rfl, v, es, _⟩ := mPeek_ok F e
    rw [e] at h
    refine ⟨v, es, L0, O, e', F, (Post.bind (h.here F)).imp fun d2 e2 O2 H2 x2 F2 h2 u ru => ?_⟩
    have h2 := Post.bind h2
    cases ep : mPeek i e2 with
    | ok d3 e3 =>
      obtain ⟨rfl, v', es', rv⟩ := mPeek_ok F2 ep
      rw [es] at es'
      cases es'
      rw [ep] at h2
      exact op_end os F2 rv ru (h2.here F2)
    | ex p q => unfold mPeek at ep; split at ep <;> cases ep
    | bad => rw [ep] at h2; exact h2.elim
  | ex p q => unfold mPeek at e; split at e <;> cases e
  | bad => rw [e] at h; exact h.elim
theorem pd_op {op : Operator} {r : R2} {f : D → D → Option D} {a b : Expr} {ma mb : M D} {pos : Pos} (ho : OpR X (binaryOp op) r) (os : OS2 C.g r f) (ha : PE X a (EvE C ma)) (hb : PE X b (EvP C mb)) : PE X (.BinOp a op b pos) (EvE C (mBin f ma mb)) :=
  (pe_op ho ha hb).weak (bin_weak os)
theorem pd_opL {op : Operator} {r : R2} {f : D → D → Option D} {b : Expr} {i : Nat} {x : Str} {mb : M D} {p pos : Pos} (ho : OpR X (binaryOp op) r) (os : OS2 C.g r f) (ha : PE X (.Name x p) (tVar i)) (hb : PE X b (EvP C mb)) : PE X (.BinOp (.Name x p) op b pos) (EvE C (mBinL f i mb)) :=
  (pe_op ho ha hb).weak (binL_weak os)
theorem pd_cmp {op : CmpOp} {r : R2} {f : D → D → Option D} {a b : Expr} {ma mb : M D} {pos : Pos} (ho : OpR X (compareOp op) r) (os : OS2 C.g r f) (hm : behindInMarks op b = false) (ha : PE X a (EvE C ma)) (hb : PE X b (EvP C mb)) : PE X (.Compare a [op] [b] pos) (EvE C (mBin f ma mb)) :=
  (pe_cmpR ho ha hb hm).weak (bin_weak os)
theorem pd_cmpL {op : CmpOp} {r : R2} {f : D → D → Option D} {b : Expr} {i : Nat} {x : Str} {mb : M D} {p pos : Pos} (ho : OpR X (compareOp op) r) (os : OS2 C.g r f) (hm : behindInMarks op b = false) (ha : PE X (.Name x p) (tVar i)) (hb : PE X b (EvP C mb)) : PE X (.Compare (.Name x p) [op] [b] pos) (EvE C (mBinL f i mb)) :=
  (pe_cmpR ho ha hb hm).weak (binL_weak os)
theorem pd_ix {r : R2} {f : D → D → Option D} {a b : Expr} {ma mb : M D} {pos : Pos} (ho : IxR X r) (os : OS2 C.g r f) (hs : PlainIx b) (ha : PE X a (EvE C ma)) (hb : PE X b (EvP C mb)) : PE X (.Subscript a b pos) (EvE C (mBin f ma mb)) :=
  (pe_ix ho ha hb hs).weak (bin_weak os)
theorem pd_ixL {r : R2} {f : D → D → Option D} {b : Expr} {i : Nat} {x : Str} {mb : M D} {p pos : Pos} (ho : IxR X r) (os : OS2 C.g r f) (hs : PlainIx b) (ha : PE X (.Name x p) (tVar i)) (hb : PE X b (EvP C mb)) : PE X (.Subscript (.Name x p) b pos) (EvE C (mBinL f i mb)) :=
  (pe_ix ho ha hb hs).weak (binL_weak os)

/-! ### truth, tests -/
def truD : D → Option Bool
  | .non => some false
  | .bl b => some b
  | .int i => some (i != 0)
  | .str s => some (!s.isEmpty)
  | .tup xs => some (!xs.isEmpty)
  | .lst xs => some (!xs.isEmpty)
  | .ins _ _ => none
theorem isEmpty_reps {g : G} {L : Addr → Prop} {H : Hp} {xs : List D} {vs : List V} (r : Reps g L H xs vs) : xs.isEmpty = vs.isEmpty := by
  have h := r.length
  cases xs <;> cases vs <;> simp_all
theorem truV_of {g : G} {L : Addr → Prop} {H : Hp} {d : D} {v : V} {b : Bool} (r : RepP g L H d v) (h : truD d = some b) : TruV g.K v H b := by
  cases d with
  | lst xs =>
    obtain ⟨a, vs, rfl, s, _, rs⟩ := r.lst
    cases h
    exact .inl ⟨vs, .inl s, by rw [isEmpty_reps rs]⟩
  | non => cases h; have r := r.rep (by intro _ z; cases z); cases r; rfl
  | bl k => cases h; have r := r.rep (by intro _ z; cases z); cases r; rfl
  | int k => cases h; have r := r.rep (by intro _ z; cases z); cases r; rfl
  | str s =>
    have r := r.rep (by intro _ z; cases z)
    obtain ⟨rfl, ok⟩ := r
    cases h
    refine ⟨by show s.toArray.size ≤ _; simpa using ok.2, ?_⟩
    show (!s.isEmpty) = (((s.toArray.size : Nat) : Int) != 0)
    cases s with
    | nil => rfl
    | cons c l => simp; omega
  | tup xs =>
    have r := r.rep (by intro _ z; cases z)
    obtain ⟨a, vs, rfl, s, rs⟩ := r
    cases h
    exact .inr (.inl ⟨vs, s.sq, by rw [isEmpty_reps rs]⟩)
  | ins _ _ => cases h
def mTru (m : M D) : M Bool := do
  let d ← m
  lift (truD d)
theorem tru_weak {K : PySem.W.Frag} {m : M D} (hK : C.g.K = K) (σ : L2.St) (H : Hp) (Q : Bool → Hp → Prop) (h : EvT C (mTru m) σ H Q) : EvP C m σ H fun x H' => ∃ k, TruV K x H' k ∧ Q k H' := by
  obtain ⟨L0, O, env, F, h⟩ := h
  refine ⟨L0, O, env, F, (Post.bind h).imp fun d e1 O1 H1 x1 F1 h1 v rv => ?_⟩
  cases ef : truD d with
  | none => rw [ef] at h1; exact h1.elim
  | some b =>
    rw [ef] at h1
    exact ⟨b, by rw [← hK]; exact truV_of rv ef, h1.here F1⟩
theorem pt_tru {e : Expr} {m : M D} (hK : C.g.K = X.K) (he : PE X e (EvP C m)) (hp : ∀ whole, isTrue e X.env whole = (do let v ← whole; standAt e.pos; holding [v] (truthy v))) : L2.PT X e (EvT C (mTru m)) :=
  (pt_truth he hp).weak (tru_weak hK)
/-- a comparison as a test -/
def blD : D → Option Bool
  | .bl b => some b
  | _ => none
def mTest (m : M D) : M Bool := do
  let d ← m
  lift (blD d)
theorem test_weak {m : M D} (σ : L2.St) (H : Hp) (Q : Bool → Hp → Prop) (h : EvT C (mTest m) σ H Q) : EvE C m σ H fun x H' => ∃ k, x = .bl k ∧ Q k H' := by
  obtain ⟨L0, O, env, F, h⟩ := h
  refine ⟨L0, O, env, F, (Post.bind h).imp fun d e1 O1 H1 x1 F1 h1 v rv => ?_⟩
  cases d with
  | bl b => exact ⟨b, rv, h1.here F1⟩
  | _ => exact h1.elim
theorem pt_cmpD {op : CmpOp} {r : R2} {f : D → D → Option D} {a b : Expr} {ma mb : M D} {pos : Pos} (ho : OpR X (compareOp op) r) (os : OS2 C.g r f) (hm : behindInMarks op b = false) (ha : PE X a (EvE C ma)) (hb : PE X b (EvP C mb)) : L2.PT X (.Compare a [op] [b] pos) (EvT C (mTest (mBin f ma mb))) :=
  (pt_cmpR ho ha hb hm).weak fun σ H Q h => bin_weak os σ H _ (test_weak σ H Q h)
theorem pt_cmpDL {op : CmpOp} {r : R2} {f : D → D → Option D} {b : Expr} {i : Nat} {x : Str} {mb : M D} {p pos : Pos} (ho : OpR X (compareOp op) r) (os : OS2 C.g r f) (hm : behindInMarks op b = false) (ha : PE X (.Name x p) (tVar i)) (hb : PE X b (EvP C mb)) : L2.PT X (.Compare (.Name x p) [op] [b] pos) (EvT C (mTest (mBinL f i mb))) :=
  (pt_cmpR ho ha hb hm).weak fun σ H Q h => binL_weak os σ H _ (test_weak σ H Q h)
def mNotB (m : M Bool) : M Bool := do
  let b ← m
  pure (!b)
theorem pt_notD {a : Expr} {m : M Bool} {pos : Pos} (ha : L2.PT X a (EvT C m)) : L2.PT X (.UnaryOp .Not a pos) (EvT C (mNotB m)) := (pt_not ha).weak fun σ H Q ⟨L0, O, env, F, h⟩ =>
  ⟨L0, O, env, F, (Post.bind h).imp fun b e1 O1 H1 x1 F1 h1 => h1.here F1⟩
def mAndB (a b : M Bool) : M Bool := do
  let x ← a
  if x then b else pure false
def mOrB (a b : M Bool) : M Bool := do
  let x ← a
  if x then pure true else b
theorem pw_andD {a b : Expr} {rest : List Expr} {ma mb : M Bool} {pos : Pos} (ha : L2.PT X a (EvT C ma)) (hb : PW X (.BoolOp .And (b :: rest) pos) (EvT C mb)) : PW X (.BoolOp .And (a :: b :: rest) pos) (EvT C (mAndB ma mb)) :=
  (pw_and ha hb).weak fun σ H Q ⟨L0, O, env, F, h⟩ => ⟨L0, O, env, F, (Post.bind h).imp fun c e1 O1 H1 x1 F1 h1 => by
    cases c with
    | true => exact ⟨L0, O1, e1, F1, h1⟩
    | false => exact h1.here F1⟩
theorem pw_orD {a b : Expr} {rest : List Expr} {ma mb : M Bool} {pos : Pos} (ha : L2.PT X a (EvT C ma)) (hb : PW X (.BoolOp .Or (b :: rest) pos) (EvT C mb)) : PW X (.BoolOp .Or (a :: b :: rest) pos) (EvT C (mOrB ma mb)) :=
  (pw_or ha hb).weak fun σ H Q ⟨L0, O, env, F, h⟩ => ⟨L0, O, env, F, (Post.bind h).imp fun c e1 O1 H1 x1 F1 h1 => by
    cases c with
    | true => exact h1.here F1
    | false => exact ⟨L0, O1, e1, F1, h1⟩⟩
/-- as values -/
def mNot (m : M D) : M D := do
  let d ← m
  let b ← lift (truD d)
  pure (.bl (!b))
theorem pd_not {a : Expr} {m : M D} {pos : Pos} (hK : C.g.K = X.K) (ha : PE X a (EvP C m)) : PE X (.UnaryOp .Not a pos) (EvE C (mNot m)) := (pe_notT ha).weak fun σ H Q ⟨L0, O, env, F, h⟩ =>
  ⟨L0, O, env, F, (Post.bind h).imp fun d e1 O1 H1 x1 F1 h1 v rv => by
    have h1 := Post.bind h1
    cases ef : truD d with
    | none => rw [ef] at h1; exact h1.elim
    | some b =>
      rw [ef] at h1
      exact ⟨b, by rw [← hK]; exact truV_of rv ef, (h1.here F1).here F1 (.bl (!b)) rfl⟩⟩
def mAnd (a b : M D) : M D := do
  let x ← a
  let t ← lift (truD x)
  if t then b else pure x
def mOr (a b : M D) : M D := do
  let x ← a
  let t ← lift (truD x)
  if t then pure x else b
theorem pd_and {a b : Expr} {rest : List Expr} {ma mb : M D} {pos : Pos} (hK : C.g.K = X.K) (ha : PE X a (EvE C ma)) (hb : PE X (.BoolOp .And (b :: rest) pos) (EvE C mb)) : PE X (.BoolOp .And (a :: b :: rest) pos) (EvE C (mAnd ma mb)) :=
  (pe_andT ha hb).weak fun σ H Q ⟨L0, O, env, F, h⟩ => ⟨L0, O, env, F, (Post.bind h).imp fun d e1 O1 H1 x1 F1 h1 v rv => by
    have h1 := Post.bind h1
    cases ef : truD d with
    | none => rw [ef] at h1; exact h1.elim
    | some t =>
      rw [ef] at h1
      refine ⟨t, by rw [← hK]; exact truV_of (.inl rv) ef, ?_⟩
      have h2 := h1.here F1
      cases t with
      | true => exact ⟨L0, O1, e1, F1, h2⟩
      | false => exact h2.here F1 v rv⟩
theorem pd_or {a b : Expr} {rest : List Expr} {ma mb : M D} {pos : Pos} (hK : C.g.K = X.K) (ha : PE X a (EvE C ma)) (hb : PE X (.BoolOp .Or (b :: rest) pos) (EvE C mb)) : PE X (.BoolOp .Or (a :: b :: rest) pos) (EvE C (mOr ma mb)) :=
  (pe_orT ha hb).weak fun σ H Q ⟨L0, O, env, F, h⟩ => ⟨L0, O, env, F, (Post.bind h).imp fun d e1 O1 H1 x1 F1 h1 v rv => by
    have h1 := Post.bind h1
    cases ef : truD d with
    | none => rw [ef] at h1; exact h1.elim
    | some t =>
      rw [ef] at h1
      refine ⟨t, by rw [← hK]; exact truV_of (.inl rv) ef, ?_⟩
      have h2 := h1.here F1
      cases t with
      | true => exact h2.here F1 v rv
      | false => exact ⟨L0, O1, e1, F1, h2⟩⟩
def mIf (c : M Bool) (a b : M D) : M D := do
  let t ← c
  if t then a else b
theorem pd_if {c a b : Expr} {mc : M Bool} {ma mb : M D} {pos : Pos} (hc : L2.PT X c (EvT C mc)) (ha : PE X a (EvE C ma)) (hb : PE X b (EvE C mb)) : PE X (.IfExp c a b pos) (EvE C (mIf mc ma mb)) :=
  (pe_ifExp hc ha hb).weak fun σ H Q ⟨L0, O, env, F, h⟩ => ⟨L0, O, env, F, (Post.bind h).imp fun t e1 O1 H1 x1 F1 h1 => by
    cases t with
    | true => exact ⟨L0, O1, e1, F1, h1⟩
    | false => exact ⟨L0, O1, e1, F1, h1⟩⟩
/-- a < b < c -/
def mChain (f f' : D → D → Option D) (a b c : M D) : M D := do
  let x ← a
  let y ← b
  let z ← lift (f x y)
  let t ← lift (blD z)
  if t then (do let w ← c; lift (f' y w)) else pure (.bl false)
theorem chain_weak {r r' : R2} {f f' : D → D → Option D} {a b c : M D} (os : OS2 C.g r f) (os' : OS2 C.g r' f') (σ : L2.St) (H : Hp) (Q : VK) (h : EvE C (mChain f f' a b c) σ H Q) : tChain r r' (EvE C a) (EvE C b) (EvP C c) σ H Q := by
  obtain ⟨L0, O, env, F, h⟩ := h
  refine ⟨L0, O, env, F, (Post.bind h).imp fun d e1 O1 H1 x1 F1 h1 v rv => ?_⟩
  refine ⟨L0, O1, e1, F1, (Post.bind h1).imp fun d2 e2 O2 H2 x2 F2 h2 u ru => ?_⟩
  refine op_end (f := f) os F2 (.inl (rv.at x2)) (.inl ru) ((Post.bind h2).imp fun k e3 O3 H3 x3 F3 h3 z rz => ?_)
  have h3 := Post.bind h3
  cases k with
  | bl t =>
    refine ⟨t, rz, ?_⟩
    have h4 := h3.here F3
    cases t with
    | true => exact ⟨L0, O3, e3, F3, (Post.bind h4).imp fun d4 e4 O4 H4 x4 F4 h5 w rw' => op_end (f := f') os' F4 (.inl ((ru.at x3).at x4)) rw' h5⟩
    | false => exact h4.here F3 (.bl false) rfl
  | _ => exact h3.elim
theorem pd_chain {op op' : CmpOp} {r r' : R2} {f f' : D → D → Option D} {a b c : Expr} {ma mb mc : M D} {pos : Pos} (ho : OpR X (compareOp op) r) (ho' : OpR X (compareOp op') r') (os : OS2 C.g r f) (os' : OS2 C.g r' f') (ha : PE X a (EvE C ma)) (hb : PE X b (EvE C mb)) (hc : PE X c (EvP C mc))
    (hm : behindInMarks op' c = false) : PE X (.Compare a [op, op'] [b, c] pos) (EvE C (mChain f f' ma mb mc)) := (pe_chain ho ho' ha hb hc hm).weak (chain_weak os os')
theorem pt_chainD {op op' : CmpOp} {r r' : R2} {f f' : D → D → Option D} {a b c : Expr} {ma mb mc : M D} {pos : Pos} (ho : OpR X (compareOp op) r) (ho' : OpR X (compareOp op') r') (os : OS2 C.g r f) (os' : OS2 C.g r' f') (ha : PE X a (EvE C ma)) (hb : PE X b (EvE C mb)) (hc : PE X c (EvP C mc))
    (hm : behindInMarks op' c = false) : L2.PT X (.Compare a [op, op'] [b, c] pos) (EvT C (mTest (mChain f f' ma mb mc))) := (pt_chain ho ho' ha hb hc hm).weak fun σ H Q h => chain_weak os os' σ H _ (test_weak σ H Q h)
end
end MP

/-! MP, part C: the operators of data, and that the machine's do what they tell. -/
namespace MP
open L2 PyProof.Rows PySem PySem.Spec

/-! ### lists that are read, locked or not -/
section
variable {X : Cx} {pins : List (Addr × Obj)} {σ : L2.St} {H : Hp} {s : Shared}
theorem rdl (I : Inv X pins σ H s) {l : Addr} {xs : List V} (h : Rd H l (.lst xs)) : xs.length ≤ sizeLine ∧ ∃ (its : List Value) (n : Nat), Vals xs its ∧ xs.length = its.length ∧ s.heap.get? l = some { cls := .type "list", data := .seq its.toArray n } := by
  obtain ⟨z, its, n, r, e⟩ := h.ok I.hok
  exact ⟨z, its, n, r, r.length, e⟩
def rCatR : R2 := fun x y H Q => ∃ l b xs zs, x = .ref l ∧ y = .ref b ∧ Rd H l (.lst xs) ∧ Rd H b (.lst zs) ∧ xs.length + zs.length ≤ sizeLine ∧ ∀ p, H p = none → Q (.ref p) (upd H p (.lst (xs ++ zs)))
theorem op_catR : OpR X (binaryOp .Add) rCatR := by
  intro pins s σ H x y v u Q I rx ry h
  obtain ⟨l, b, xs, zs, rfl, rfl, hH, hB, hz, q⟩ := h
  cases rx
  cases ry
  obtain ⟨z, its, n, r, hl, e⟩ := rdl I hH
  obtain ⟨z2, its2, n2, r2, hl2, e2⟩ := rdl I hB
  refine PySem.P.add_list e e2 ?_ (by rw [List.size_toArray, List.size_toArray]; omega)
  have ea : its.toArray ++ its2.toArray = (its ++ its2).toArray := by simp
  rw [ea]
  exact ⟨.ref _, _, I.lnew (t' := s.toks) (r.append r2) (by rw [List.length_append]; omega), rfl, q _ I.fresh⟩
end

/-! ### + -/
def addD : D → D → Option D
  | .int i, .int j => some (.int (i + j))
  | .str s, .str t => if s.length + t.length ≤ 1000000 then some (.str (s ++ t)) else none
  | .tup xs, .tup ys => if xs.length + ys.length ≤ 1000000 then some (.tup (xs ++ ys)) else none
  | _, _ => none
/-- of lists: a new one -/
def catD : D → D → Option (List D)
  | .lst xs, .lst ys => if xs.length + ys.length ≤ 1000000 then some (xs ++ ys) else none
  | _, _ => none
/-- r makes the new list that f tells -/
def OSF2 (g : G) (r : R2) (f : D → D → Option (List D)) : Prop := ∀ (L : Addr → Prop) (H : Hp) (d e : D) (zs : List D) (x y : V) (Q : VK), (∀ a, L a → ∃ o, H a = some o) → RepP g L H d x → RepP g L H e y → f d e = some zs →
  (∀ a vs H', H a = none → Same H H' → H' a = some (.lst vs) → ¬ L a → vs.length ≤ sizeLine → Reps g (fun b => L b ∨ b = a) H' zs vs → Q (.ref a) H') → r x y H Q
def rAddU (K : PySem.W.Frag) : R2 := fun x y H Q => (rI0 fun i j => .int (i + j)) x y H Q ∨ (∃ i j, x = .str i ∧ y = .str j ∧ i.length + j.length ≤ sizeLine ∧ Q (.str (i ++ j)) H) ∨ rCatA K x y H Q
theorem op_addU {X : Cx} : OpR X (binaryOp .Add) (rAddU X.K) := op_add.or (op_add_str.or op_catA)
theorem big {n : Nat} (h : n ≤ 1000000) : n ≤ sizeLine := Nat.le_trans h (by rw [sizeLine_eq]; decide)
theorem str_app (s t : Tx) : (⟨s.toArray⟩ : Str) ++ ⟨t.toArray⟩ = ⟨(s ++ t).toArray⟩ := by
  show Str.append _ _ = _
  unfold Str.append
  simp
theorem str_len (s : Tx) : (⟨s.toArray⟩ : Str).length = s.length := by simp [Str.length]
theorem TxOk.app {s t : Tx} (hs : TxOk s) (ht : TxOk t) (z : s.length + t.length ≤ sizeLine) : TxOk (s ++ t) := ⟨fun c hc => (List.mem_append.mp hc).elim (hs.1 c) (ht.1 c), by rw [List.length_append]; exact z⟩
theorem new_tup {g : G} {L : Addr → Prop} {H : Hp} {p : Addr} {ds : List D} {vs : List V} (hl : ∀ a, L a → ∃ o, H a = some o) (hp : H p = none) (r : Reps g L H ds vs) (z : vs.length ≤ sizeLine) : Rep g L (upd H p (.tup vs)) (.tup ds) (.ref p) := by
  refine ⟨p, vs, rfl, ⟨.inl ⟨.inl upd_same, fun q => ?_⟩, z⟩, Reps.mono (XT.same (Same.new hp)) ds vs r⟩
  obtain ⟨o, e⟩ := hl p q
  rw [hp] at e; cases e
theorem os_add {g : G} {K : PySem.W.Frag} (hK : g.K = K) : OS2 g (rAddU K) addD := by
  subst hK
  intro L H d e k x y Q hl rx ry hf q
  unfold addD at hf
  split at hf
  · have rx := rx.rep (by intro _ z; cases z)
    have ry := ry.rep (by intro _ z; cases z)
    cases hf
    exact .inl ⟨_, _, rx, ry, q _ H (Same.refl H) rfl⟩
  · have rx := rx.rep (by intro _ z; cases z)
    have ry := ry.rep (by intro _ z; cases z)
    split at hf
    · rename_i hz
      cases hf
      have hz2 := big hz
      exact .inr (.inl ⟨_, _, rx.1, ry.1, by rw [str_len, str_len]; exact hz2, q _ H (Same.refl H) ⟨by rw [str_app], rx.2.app ry.2 hz2⟩⟩)
    · cases hf
  · have rx := rx.rep (by intro _ z; cases z)
    have ry := ry.rep (by intro _ z; cases z)
    split at hf
    · rename_i xs ys _ _ hz
      cases hf
      obtain ⟨a, vs, rfl, sa, ra⟩ := rx
      obtain ⟨b, us, rfl, sb, rb⟩ := ry
      have hz2 : vs.length + us.length ≤ sizeLine := by rw [← ra.length, ← rb.length]; exact big hz
      refine .inr (.inr ⟨a, b, vs, us, rfl, rfl, sa.sq, sb.sq, hz2, fun e => ?_, fun _ e => ?_, fun _ _ p hp => ?_⟩)
      · subst e
        have : xs = [] := List.length_eq_zero_iff.mp (by rw [ra.length]; rfl)
        subst this
        exact q _ H (Same.refl H) ⟨b, us, rfl, sb, rb⟩
      · subst e
        have : ys = [] := List.length_eq_zero_iff.mp (by rw [rb.length]; rfl)
        subst this
        exact q _ H (Same.refl H) ⟨a, vs, rfl, sa, by rw [List.append_nil]; exact ra⟩
      · exact q _ _ (Same.new hp) (new_tup hl hp (ra.app rb) (by rw [List.length_append]; exact hz2))
    · cases hf
  · cases hf
theorem new_lst {g : G} {L : Addr → Prop} {H : Hp} {p : Addr} {ds : List D} {vs : List V} (hl : ∀ a, L a → ∃ o, H a = some o) (hp : H p = none) (r : Reps g L H ds vs) : ¬ L p ∧ Reps g (fun b => L b ∨ b = p) (upd H p (.lst vs)) ds vs := by
  refine ⟨fun q => ?_, Reps.mono (XT.new hp) ds vs r⟩
  obtain ⟨o, e⟩ := hl p q
  rw [hp] at e; cases e
theorem osf_cat {g : G} : OSF2 g rCatR catD := by
  intro L H d e zs x y Q hl rx ry hf q
  unfold catD at hf
  split at hf
  · split at hf
    · rename_i xs ys hz
      cases hf
      obtain ⟨a, vs, rfl, sa, _, ra⟩ := rx.lst
      obtain ⟨b, us, rfl, sb, _, rb⟩ := ry.lst
      have hz2 : vs.length + us.length ≤ sizeLine := by rw [← ra.length, ← rb.length]; exact big hz
      refine ⟨a, b, vs, us, rfl, rfl, sa, sb, hz2, fun p hp => ?_⟩
      obtain ⟨n, r⟩ := new_lst hl hp (ra.app rb)
      exact q p _ _ hp (Same.new hp) upd_same n (by rw [List.length_append]; exact hz2) r
    · cases hf
  · cases hf

/-! ### ints -/
def subD : D → D → Option D
  | .int i, .int j => some (.int (i - j))
  | _, _ => none
def mulD : D → D → Option D
  | .int i, .int j => if i.natAbs < 18446744073709551616 ∨ j.natAbs < 18446744073709551616 then some (.int (i * j)) else none
  | _, _ => none
def fdivD : D → D → Option D
  | .int i, .int j => if 0 < j ∧ j < 1073741824 then some (.int (i / j)) else none
  | _, _ => none
def modD : D → D → Option D
  | .int i, .int j => if 0 < j then some (.int (i % j)) else none
  | _, _ => none
def powD : D → D → Option D
  | .int i, .int j => if 0 ≤ j ∧ j ≤ 1000000 ∧ i.natAbs < 18446744073709551616 then some (.int (i ^ j.toNat)) else none
  | _, _ => none
section
variable {g : G}
theorem os_sub : OS2 g (rI0 fun i j => .int (i - j)) subD := by
  intro L H d e k x y Q hl rx ry hf q
  unfold subD at hf
  split at hf
  · cases hf
    exact ⟨_, _, rx.rep (by intro _ z; cases z), ry.rep (by intro _ z; cases z), q _ H (Same.refl H) rfl⟩
  · cases hf
theorem os_mul : OS2 g (rI CMul fun i j => .int (i * j)) mulD := by
  intro L H d e k x y Q hl rx ry hf q
  unfold mulD at hf
  split at hf
  · split at hf
    · rename_i i j hc
      cases hf
      refine ⟨_, _, rx.rep (by intro _ z; cases z), ry.rep (by intro _ z; cases z), ?_, q _ H (Same.refl H) rfl⟩
      show ((-(2 ^ 64) < i ∧ i < 2 ^ 64) ∨ (-(2 ^ 64) < j ∧ j < 2 ^ 64))
      omega
    · cases hf
  · cases hf
theorem os_fdiv : OS2 g (rI CDiv fun i j => .int (i / j)) fdivD := by
  intro L H d e k x y Q hl rx ry hf q
  unfold fdivD at hf
  split at hf
  · split at hf
    · rename_i i j hc
      cases hf
      exact ⟨_, _, rx.rep (by intro _ z; cases z), ry.rep (by intro _ z; cases z), hc, q _ H (Same.refl H) rfl⟩
    · cases hf
  · cases hf
theorem os_mod : OS2 g (rI (fun _ j => 0 < j) fun i j => .int (i % j)) modD := by
  intro L H d e k x y Q hl rx ry hf q
  unfold modD at hf
  split at hf
  · split at hf
    · rename_i i j hc
      cases hf
      exact ⟨_, _, rx.rep (by intro _ z; cases z), ry.rep (by intro _ z; cases z), hc, q _ H (Same.refl H) rfl⟩
    · cases hf
  · cases hf
theorem os_pow : OS2 g (rI CPow fun i j => .int (i ^ j.toNat)) powD := by
  intro L H d e k x y Q hl rx ry hf q
  unfold powD at hf
  split at hf
  · split at hf
    · rename_i i j hc
      cases hf
      exact ⟨_, _, rx.rep (by intro _ z; cases z), ry.rep (by intro _ z; cases z), hc, q _ H (Same.refl H) rfl⟩
    · cases hf
  · cases hf
def cmpD (p : Int → Int → Bool) : D → D → Option D
  | .int i, .int j => some (.bl (p i j))
  | _, _ => none
theorem os_cmp {p : Int → Int → Bool} : OS2 g (rI0 fun i j => .bl (p i j)) (cmpD p) := by
  intro L H d e k x y Q hl rx ry hf q
  unfold cmpD at hf
  split at hf
  · cases hf
    exact ⟨_, _, rx.rep (by intro _ z; cases z), ry.rep (by intro _ z; cases z), q _ H (Same.refl H) rfl⟩
  · cases hf
end

/-! ### == -/
mutual
def toPy : D → PyData
  | .non => .none
  | .bl b => .bool b
  | .int i => .int i
  | .str s => .str ⟨s.toArray⟩
  | .tup xs => .tuple (toPys xs)
  | .lst xs => .list (toPys xs)
  | .ins _ _ => .none
def toPys : List D → List PyData
  | [] => []
  | x :: xs => toPy x :: toPys xs
end
mutual
/-- plain data, at most n deep -/
def lay : Nat → D → Bool
  | _, .non => true
  | _, .bl _ => true
  | _, .int _ => true
  | _, .str _ => true
  | n, .tup xs => (match n with
    | 0 => false
    | k + 1 => lays k xs)
  | n, .lst xs => (match n with
    | 0 => false
    | k + 1 => lays k xs)
  | _, .ins _ _ => false
def lays : Nat → List D → Bool
  | _, [] => true
  | n, x :: xs => lay n x && lays n xs
end
mutual
/-- == of plain data -/
def eqvD : D → D → Bool
  | .non, .non => true
  | .bl a, .bl b => a == b
  | .bl a, .int j => (if a then 1 else 0) == j
  | .int i, .bl b => i == (if b then 1 else 0)
  | .int i, .int j => i == j
  | .str x, .str y => x == y
  | .lst xs, .lst ys => eqvDs xs ys
  | .tup xs, .tup ys => eqvDs xs ys
  | _, _ => false
def eqvDs : List D → List D → Bool
  | [], [] => true
  | x :: xs, y :: ys => eqvD x y && eqvDs xs ys
  | _, _ => false
end
theorem str_beq (x y : Tx) : ((⟨x.toArray⟩ : Str) == ⟨y.toArray⟩) = (x == y) := by
  by_cases h : x = y
  · subst h; simp
  · have : ¬ (⟨x.toArray⟩ : Str) = ⟨y.toArray⟩ := fun z => h (by
      have z2 := congrArg Str.cps z
      simpa using z2)
    rw [beq_eq_false_iff_ne.mpr this, beq_eq_false_iff_ne.mpr h]
mutual
theorem eqv_py : ∀ (n m : Nat) (d e : D), lay n d = true → lay m e = true → PyData.eqv (toPy d) (toPy e) = eqvD d e
  | n, m, .non, e, hd, he => by cases e <;> simp_all [toPy, PyData.eqv, eqvD, lay]
  | n, m, .bl a, e, hd, he => by cases e <;> simp_all [toPy, PyData.eqv, eqvD, lay]
  | n, m, .int a, e, hd, he => by cases e <;> simp_all [toPy, PyData.eqv, eqvD, lay]
  | n, m, .str a, e, hd, he => by cases e <;> simp_all [toPy, PyData.eqv, eqvD, lay, str_beq]
  | n, m, .tup xs, e, hd, he => by
    cases e with
    | tup ys =>
      cases n with
      | zero => simp [lay] at hd
      | succ n =>
        cases m with
        | zero => simp [lay] at he
        | succ m =>
          simp only [toPy, PyData.eqv, eqvD]
          exact eqvs_py n m xs ys (by simpa [lay] using hd) (by simpa [lay] using he)
    | _ => simp_all [toPy, PyData.eqv, eqvD, lay]
  | n, m, .lst xs, e, hd, he => by
    cases e with
    | lst ys =>
      cases n with
      | zero => simp [lay] at hd
      | succ n =>
        cases m with
        | zero => simp [lay] at he
        | succ m =>
          simp only [toPy, PyData.eqv, eqvD]
          exact eqvs_py n m xs ys (by simpa [lay] using hd) (by simpa [lay] using he)
    | _ => simp_all [toPy, PyData.eqv, eqvD, lay]
  | n, m, .ins _ _, e, hd, he => by simp [lay] at hd
theorem eqvs_py : ∀ (n m : Nat) (d e : List D), lays n d = true → lays m e = true → PyData.eqvAll (toPys d) (toPys e) = eqvDs d e
  | n, m, [], [], _, _ => by simp [toPys, PyData.eqvAll, eqvDs]
  | n, m, [], y :: ys, _, _ => by simp [toPys, PyData.eqvAll, eqvDs]
  | n, m, x :: xs, [], _, _ => by simp [toPys, PyData.eqvAll, eqvDs]
  | n, m, x :: xs, y :: ys, hd, he => by
    simp only [lays, Bool.and_eq_true] at hd he
    simp only [toPys, PyData.eqvAll, eqvDs, eqv_py n m x y hd.1 he.1, eqvs_py n m xs ys hd.2 he.2]
end
section
variable {g : G} {L : Addr → Prop} {H : Hp}
theorem strOk_of {s : Tx} (h : TxOk s) : PyData.strOk ⟨s.toArray⟩ = true := by
  unfold PyData.strOk
  rw [Array.all_eq_true_iff_forall_mem]
  intro c hc
  have : c ∈ s := by simpa using hc
  simpa using h.1 c this
mutual
theorem dp_of : ∀ (n : Nat) (d : D) (v : V), lay n d = true → Rep g L H d v → Dp g.K H v (toPy d) ∧ (toPy d).canLay0 = true ∧ (toPy d).depth ≤ n
  | n, .non, v, h, r => by cases r; exact ⟨.non, rfl, by simp [toPy, PyData.depth]⟩
  | n, .bl b, v, h, r => by cases r; exact ⟨.bl b, rfl, by simp [toPy, PyData.depth]⟩
  | n, .int i, v, h, r => by cases r; exact ⟨.int i, rfl, by simp [toPy, PyData.depth]⟩
  | n, .str s, v, h, r => by
    obtain ⟨rfl, ok⟩ := r
    exact ⟨.str _, by simp only [toPy, PyData.canLay0]; exact strOk_of ok, by simp [toPy, PyData.depth]⟩
  | n, .tup xs, v, h, r => by
    cases n with
    | zero => simp [lay] at h
    | succ n =>
      obtain ⟨a, vs, rfl, p, rs⟩ := r
      obtain ⟨h1, h2, h3⟩ := dps_of n xs vs (by simpa [lay] using h) rs
      exact ⟨.tup p.sq h1, by simpa [toPy, PyData.canLay0] using h2, by simp only [toPy, PyData.depth]; omega⟩
  | n, .lst xs, v, h, r => by
    cases n with
    | zero => simp [lay] at h
    | succ n =>
      obtain ⟨a, vs, rfl, p, rs⟩ := r
      obtain ⟨h1, h2, h3⟩ := dps_of n xs vs (by simpa [lay] using h) rs
      exact ⟨.lst p.sq h1, by simpa [toPy, PyData.canLay0] using h2, by simp only [toPy, PyData.depth]; omega⟩
  | n, .ins _ _, v, h, r => by simp [lay] at h
theorem dps_of : ∀ (n : Nat) (d : List D) (v : List V), lays n d = true → Reps g L H d v → DpAll g.K H v (toPys d) ∧ PyData.canLayAll0 (toPys d) = true ∧ PyData.depthAll (toPys d) ≤ n
  | n, [], v, h, r => by
    have e : v = [] := r
    subst e
    exact ⟨.nil, rfl, by simp [toPys, PyData.depthAll]⟩
  | n, d :: ds, v, h, r => by
    obtain ⟨v, vs, rfl, r1, r2⟩ := r
    simp only [lays, Bool.and_eq_true] at h
    obtain ⟨a1, a2, a3⟩ := dp_of n d v h.1 r1
    obtain ⟨b1, b2, b3⟩ := dps_of n ds vs h.2 r2
    exact ⟨.cons a1 b1, by simp [toPys, PyData.canLayAll0, a2, b2], by simp only [toPys, PyData.depthAll]; omega⟩
end
theorem dpP {n : Nat} {d : D} {v : V} (h : lay n d = true) (r : RepP g L H d v) : Dp g.K H v (toPy d) ∧ (toPy d).canLay0 = true ∧ (toPy d).depth ≤ n := by
  rcases r with r | ⟨xs, a, vs, rfl, rfl, ha, z, rs⟩
  · exact dp_of n d v h r
  · cases n with
    | zero => simp [lay] at h
    | succ n =>
      obtain ⟨h1, h2, h3⟩ := dps_of n xs vs (by simpa [lay] using h) rs
      exact ⟨.lst (.inl (.inl ha)) h1, by simpa [toPy, PyData.canLay0] using h2, by simp only [toPy, PyData.depth]; omega⟩
theorem shaped_of' {p : PyData} (h1 : p.canLay0 = true) (h2 : p.depth ≤ 60) : SeqAt.shaped p = true := by
  unfold SeqAt.shaped
  rw [h1, decide_eq_true (by omega)]; rfl
def eqD (d e : D) : Option D := if lay 60 d = true ∧ lay 60 e = true then some (.bl (eqvD d e)) else none
def neD (d e : D) : Option D := if lay 60 d = true ∧ lay 60 e = true then some (.bl (!eqvD d e)) else none
theorem os_eq {K : PySem.W.Frag} (hK : g.K = K) : OS2 g (rEqD K) eqD := by
  subst hK
  intro L H d e k x y Q hl rx ry hf q
  unfold eqD at hf
  split at hf
  · rename_i h
    cases hf
    obtain ⟨a1, a2, a3⟩ := dpP h.1 rx
    obtain ⟨b1, b2, b3⟩ := dpP h.2 ry
    exact ⟨_, _, a1, b1, shaped_of' a2 a3, shaped_of' b2 b3, by rw [eqv_py 60 60 d e h.1 h.2]; exact q _ H (Same.refl H) rfl⟩
  · cases hf
theorem os_ne {K : PySem.W.Frag} (hK : g.K = K) : OS2 g (rNeD K) neD := by
  subst hK
  intro L H d e k x y Q hl rx ry hf q
  unfold neD at hf
  split at hf
  · rename_i h
    cases hf
    obtain ⟨a1, a2, a3⟩ := dpP h.1 rx
    obtain ⟨b1, b2, b3⟩ := dpP h.2 ry
    exact ⟨_, _, a1, b1, shaped_of' a2 a3, shaped_of' b2 b3, by rw [eqv_py 60 60 d e h.1 h.2]; exact q _ H (Same.refl H) rfl⟩
  · cases hf

/-! ### is -/
def isNonD (d : D) : Bool := match d with
  | .non => true
  | _ => false
def isD : D → D → Option D
  | d, .non => some (.bl (isNonD d))
  | .bl a, .bl b => some (.bl (a == b))
  | _, _ => none
def isNotD : D → D → Option D
  | d, .non => some (.bl (!isNonD d))
  | .bl a, .bl b => some (.bl (!(a == b)))
  | _, _ => none
theorem non_of {d : D} {v : V} (r : RepP g L H d v) : decide (v = .non) = isNonD d := by
  cases d with
  | lst xs => obtain ⟨a, vs, rfl, _⟩ := r.lst; rfl
  | non => have r := r.rep (by intro _ z; cases z); cases r; rfl
  | bl b => have r := r.rep (by intro _ z; cases z); cases r; rfl
  | int i => have r := r.rep (by intro _ z; cases z); cases r; rfl
  | str s => have r := r.rep (by intro _ z; cases z); obtain ⟨rfl, _⟩ := r; rfl
  | tup xs => have r := r.rep (by intro _ z; cases z); obtain ⟨a, vs, rfl, _⟩ := r; rfl
  | ins C fs => have r := r.rep (by intro _ z; cases z); obtain ⟨a, vfs, vs, rfl, _⟩ := r; rfl
def rIsU : R2 := fun x y H Q => (y = .non ∧ Q (.bl (decide (x = .non))) H) ∨ rIsB x y H Q
def rIsNotU : R2 := fun x y H Q => (y = .non ∧ Q (.bl (!decide (x = .non))) H) ∨ rNotB x y H Q
theorem op_isU {X : Cx} : OpR X (compareOp .Is) rIsU := op_isN.or op_isBl
theorem op_isNotU {X : Cx} : OpR X (compareOp .IsNot) rIsNotU := op_notN.or op_notBl
theorem os_is : OS2 g rIsU isD := by
  intro L H d e k x y Q hl rx ry hf q
  unfold isD at hf
  split at hf
  · cases hf
    exact .inl ⟨ry.rep (by intro _ z; cases z), by rw [non_of rx]; exact q _ H (Same.refl H) rfl⟩
  · cases hf
    refine .inr ⟨_, _, rx.rep (by intro _ z; cases z), ry.rep (by intro _ z; cases z), q _ H (Same.refl H) ?_⟩
    rw [Bool.beq_eq_decide_eq]; rfl
  · cases hf
theorem os_isNot : OS2 g rIsNotU isNotD := by
  intro L H d e k x y Q hl rx ry hf q
  unfold isNotD at hf
  split at hf
  · cases hf
    exact .inl ⟨ry.rep (by intro _ z; cases z), by rw [non_of rx]; exact q _ H (Same.refl H) rfl⟩
  · cases hf
    refine .inr ⟨_, _, rx.rep (by intro _ z; cases z), ry.rep (by intro _ z; cases z), q _ H (Same.refl H) ?_⟩
    rw [Bool.beq_eq_decide_eq]; rfl
  · cases hf
end
end MP

/-! MP, part D: in, places, slices, built-ins, methods of texts, displays. -/
namespace MP
open L2 PyProof.Rows PySem PySem.Spec

/-! ### in -/
def rInR (K : PySem.W.Frag) (neg : Bool) : R2 := fun x y H Q => (∃ d ds, Dp K H x d ∧ (Dp K H y (.list ds) ∨ Dp K H y (.tuple ds)) ∧ d.canLay0 = true ∧ PyData.canLayAll0 ds = true ∧ d.depth ≤ 60 ∧ Q (.bl (if neg then !ds.any fun z => PyData.eqv z d else ds.any fun z => PyData.eqv z d)) H) ∨
  (∃ (c : Nat) (z : Str), x = .str ⟨#[c]⟩ ∧ y = .str z ∧ Q (.bl (if neg then !decide (c ∈ z.cps.toList) else decide (c ∈ z.cps.toList))) H)
theorem op_inR {X : Cx} (hu : X.A.units + 64 < cLine) : OpR X (compareOp .In) (rInR X.K false) := by
  intro pins s σ H x y v u Q I rx ry h
  rcases h with ⟨d, ds, hd, he, cd, ce, dp, q⟩ | h
  · obtain ⟨as, r1⟩ := Dp.reads I d x v hd rx
    rcases he with he | he
    · obtain ⟨bs, r2⟩ := Dp.reads I (.list ds) y u he ry
      exact SeqAt.in_list_reads r2 r1 ce cd (by omega) ⟨.bl _, H, I, rfl, q⟩
    · obtain ⟨bs, r2⟩ := Dp.reads I (.tuple ds) y u he ry
      exact SeqAt.in_tuple_reads r2 r1 ce cd (by omega) ⟨.bl _, H, I, rfl, q⟩
  · exact op_in_sign pins s σ H x y v u Q I rx ry h
theorem op_notInR {X : Cx} (hu : X.A.units + 64 < cLine) : OpR X (compareOp .NotIn) (rInR X.K true) := by
  intro pins s σ H x y v u Q I rx ry h
  rcases h with ⟨d, ds, hd, he, cd, ce, dp, q⟩ | h
  · obtain ⟨as, r1⟩ := Dp.reads I d x v hd rx
    rcases he with he | he
    · obtain ⟨bs, r2⟩ := Dp.reads I (.list ds) y u he ry
      exact SeqAt.notIn_list_reads r2 r1 ce cd (by omega) ⟨.bl _, H, I, rfl, q⟩
    · obtain ⟨bs, r2⟩ := Dp.reads I (.tuple ds) y u he ry
      exact SeqAt.notIn_tuple_reads r2 r1 ce cd (by omega) ⟨.bl _, H, I, rfl, q⟩
  · exact op_notIn_sign pins s σ H x y v u Q I rx ry h
def anyEq (d : D) (xs : List D) : Bool := xs.any fun z => eqvD z d
def inB : D → D → Option Bool
  | d, .lst xs => if lay 60 d = true ∧ lays 60 xs = true then some (anyEq d xs) else none
  | d, .tup xs => if lay 60 d = true ∧ lays 60 xs = true then some (anyEq d xs) else none
  | .str [c], .str z => some (decide (c ∈ z))
  | _, _ => none
def inD (d e : D) : Option D := (inB d e).map .bl
def notInD (d e : D) : Option D := (inB d e).map fun b => .bl (!b)
theorem any_py (d : D) (hd : lay 60 d = true) : ∀ xs : List D, lays 60 xs = true → ((toPys xs).any fun z => PyData.eqv z (toPy d)) = anyEq d xs
  | [], _ => rfl
  | x :: xs, h => by
    simp only [lays, Bool.and_eq_true] at h
    simp only [toPys, List.any_cons, anyEq, eqv_py 60 60 x d h.1 hd]
    rw [any_py d hd xs h.2]; rfl
section
variable {g : G}
theorem inB_of {neg : Bool} {K : PySem.W.Frag} (hK : g.K = K) {L : Addr → Prop} {H : Hp} {d e : D} {b : Bool} {x y : V} {Q : VK} (rx : RepP g L H d x) (ry : RepP g L H e y) (hf : inB d e = some b) (q : Q (.bl (if neg then !b else b)) H) : rInR K neg x y H Q := by
  subst hK
  unfold inB at hf
  split at hf
  · split at hf
    · rename_i xs _ h
      cases hf
      obtain ⟨a1, a2, a3⟩ := dpP h.1 rx
      obtain ⟨a, vs, rfl, sa, _, ra⟩ := ry.lst
      obtain ⟨h1, h2, h3⟩ := dps_of 60 _ vs h.2 ra
      exact .inl ⟨_, _, a1, .inl (.lst (.inl sa) h1), a2, h2, a3, by rw [any_py d h.1 _ h.2]; exact q⟩
    · cases hf
  · split at hf
    · rename_i xs _ h
      cases hf
      obtain ⟨a1, a2, a3⟩ := dpP h.1 rx
      obtain ⟨a, vs, rfl, p, ra⟩ := ry.rep (by intro _ z; cases z)
      obtain ⟨h1, h2, h3⟩ := dps_of 60 _ vs h.2 ra
      exact .inl ⟨_, _, a1, .inr (.tup p.sq h1), a2, h2, a3, by rw [any_py d h.1 _ h.2]; exact q⟩
    · cases hf
  · rename_i c z
    cases hf
    have rx := rx.rep (by intro _ z; cases z)
    have ry := ry.rep (by intro _ z; cases z)
    exact .inr ⟨c, ⟨z.toArray⟩, rx.1, ry.1, q⟩
  · cases hf
theorem os_in {K : PySem.W.Frag} (hK : g.K = K) : OS2 g (rInR K false) inD := by
  intro L H d e k x y Q hl rx ry hf q
  unfold inD at hf
  cases eb : inB d e with
  | none => rw [eb] at hf; cases hf
  | some b =>
    rw [eb] at hf
    cases hf
    exact inB_of hK rx ry eb (q _ H (Same.refl H) rfl)
theorem os_notIn {K : PySem.W.Frag} (hK : g.K = K) : OS2 g (rInR K true) notInD := by
  intro L H d e k x y Q hl rx ry hf q
  unfold notInD at hf
  cases eb : inB d e with
  | none => rw [eb] at hf; cases hf
  | some b =>
    rw [eb] at hf
    cases hf
    exact inB_of hK rx ry eb (q _ H (Same.refl H) rfl)

/-! ### places -/
def ixD : D → D → Option D
  | .lst xs, .int i => atI xs i
  | .tup xs, .int i => atI xs i
  | .str s, .int i => (atI s i).map fun c => .str [c]
  | _, _ => none
theorem atI_reps {L : Addr → Prop} {H : Hp} {ds : List D} {vs : List V} {i : Int} {d : D} (r : Reps g L H ds vs) (h : atI ds i = some d) : ∃ v, atI vs i = some v ∧ Rep g L H d v := by
  unfold atI at h ⊢
  rw [← r.length]
  cases e : ixN ds.length i with
  | none => rw [e] at h; cases h
  | some j =>
    rw [e] at h
    exact r.get h
theorem mem_atI {α : Type} {xs : List α} {i : Int} {a : α} (h : atI xs i = some a) : a ∈ xs := by
  unfold atI at h
  cases e : ixN xs.length i with
  | none => rw [e] at h; cases h
  | some j => rw [e] at h; exact List.mem_of_getElem? h
theorem os_ix {K : PySem.W.Frag} (hK : g.K = K) : OS2 g (rIx K) ixD := by
  subst hK
  intro L H d e k x y Q hl rx ry hf q
  unfold ixD at hf
  split at hf
  · obtain ⟨a, vs, rfl, sa, _, ra⟩ := rx.lst
    obtain ⟨v, e, r⟩ := atI_reps ra hf
    exact .inl ⟨a, vs, _, v, rfl, ry.rep (by intro _ z; cases z), .inl sa, e, q _ H (Same.refl H) r⟩
  · obtain ⟨a, vs, rfl, p, ra⟩ := rx.rep (by intro _ z; cases z)
    obtain ⟨v, e, r⟩ := atI_reps ra hf
    exact .inr (.inl ⟨a, vs, _, v, rfl, ry.rep (by intro _ z; cases z), p.sq, e, q _ H (Same.refl H) r⟩)
  · rename_i s i
    obtain ⟨rfl, ok⟩ := rx.rep (by intro _ z; cases z)
    cases e : atI s i with
    | none => rw [e] at hf; cases hf
    | some c =>
      rw [e] at hf
      cases hf
      have hc := ok.1 c (mem_atI e)
      refine .inr (.inr ⟨_, _, c, rfl, ry.rep (by intro _ z; cases z), by rw [str_len]; exact ok.2, by simpa using e, q _ H (Same.refl H) ⟨rfl, fun c' h' => ?_, ?_⟩⟩)
      · have : c' = c := by simpa using h'
        rw [this]; exact hc
      · show 1 ≤ sizeLine
        rw [sizeLine_eq]; decide
  · cases hf

/-! ### slices -/
def cutL {α : Type} (xs : List α) (lo hi : Option Int) : List α := (xs.drop (HT.sIx xs.length 0 lo)).take (HT.sIx xs.length xs.length hi - HT.sIx xs.length 0 lo)
theorem cutL_le {α : Type} (xs : List α) (lo hi : Option Int) : (cutL xs lo hi).length ≤ xs.length := by
  unfold cutL
  rw [List.length_take, List.length_drop]
  omega
theorem cut_reps {L : Addr → Prop} {H : Hp} {ds : List D} {vs : List V} (r : Reps g L H ds vs) (lo hi : Option Int) : Reps g L H (cutL ds lo hi) (cutV vs lo hi) := by
  unfold cutL cutV
  rw [r.length]
  exact (r.drop _).take _
def slD : D → Option Int → Option Int → Option D
  | .tup xs, lo, hi => some (.tup (cutL xs lo hi))
  | .str s, lo, hi => some (.str (cutL s lo hi))
  | _, _, _ => none
def slF : D → Option Int → Option Int → Option (List D)
  | .lst xs, lo, hi => some (cutL xs lo hi)
  | _, _, _ => none
abbrev R3 := V → Option Int → Option Int → Hp → VK → Prop
def OSS (g : G) (r : R3) (f : D → Option Int → Option Int → Option D) : Prop := ∀ (L : Addr → Prop) (H : Hp) (d k : D) (lo hi : Option Int) (x : V) (Q : VK), (∀ a, L a → ∃ o, H a = some o) → RepP g L H d x → f d lo hi = some k →
  (∀ v H', Same H H' → Rep g L H' k v → Q v H') → r x lo hi H Q
def rSlU (K : PySem.W.Frag) : R3 := fun x lo hi H Q => rSlA K x lo hi H Q ∨ rSlS x lo hi H Q
theorem sl_U {X : Cx} : SlR X (rSlU X.K) := sl_tupA.or sl_str
theorem os_sl {K : PySem.W.Frag} (hK : g.K = K) : OSS g (rSlU K) slD := by
  subst hK
  intro L H d k lo hi x Q hl rx hf q
  cases d with
  | tup xs =>
    cases hf
    obtain ⟨a, vs, rfl, p, ra⟩ := rx.rep (by intro _ z; cases z)
    refine .inl ⟨a, vs, rfl, p.sq, fun w => ?_, fun _ b hb => ?_⟩
    · refine q _ H (Same.refl H) ⟨a, vs, rfl, p, ?_⟩
      have e : cutL xs lo hi = xs := by
        unfold cutL
        rw [← ra.length] at w
        rw [w.1, w.2, List.drop_zero, Nat.sub_zero, List.take_length]
      rw [e]; exact ra
    · exact q _ _ (Same.new hb) (new_tup hl hb (cut_reps ra lo hi) (Nat.le_trans (cutV_length vs lo hi) p.2))
  | str s =>
    cases hf
    obtain ⟨rfl, ok⟩ := rx.rep (by intro _ z; cases z)
    refine .inr ⟨_, rfl, by rw [str_len]; exact ok.2, q _ H (Same.refl H) ⟨?_, fun c hc => ok.1 c ?_, Nat.le_trans (cutL_le _ _ _) ok.2⟩⟩
    · unfold cutS cutL
      rw [str_len]
    · unfold cutL at hc
      exact List.mem_of_mem_drop (List.mem_of_mem_take hc)
  | _ => cases hf
def rSlLR : R3 := fun x lo hi H Q => ∃ a xs, x = .ref a ∧ Rd H a (.lst xs) ∧ ∀ p, H p = none → Q (.ref p) (upd H p (.lst (cutV xs lo hi)))
theorem sl_LR {X : Cx} : SlR X rSlLR := fun pins s σ H x v vl vu lo hi sl Q I rx hs pl pu ⟨a, xs, e, h, q⟩ => sl_list pins s σ H x v vl vu lo hi sl Q I rx hs pl pu ⟨a, xs, e, .inl h, q⟩
def OSSF (g : G) (r : R3) (f : D → Option Int → Option Int → Option (List D)) : Prop := ∀ (L : Addr → Prop) (H : Hp) (d : D) (zs : List D) (lo hi : Option Int) (x : V) (Q : VK), (∀ a, L a → ∃ o, H a = some o) → RepP g L H d x → f d lo hi = some zs →
  (∀ a vs H', H a = none → Same H H' → H' a = some (.lst vs) → ¬ L a → vs.length ≤ sizeLine → Reps g (fun b => L b ∨ b = a) H' zs vs → Q (.ref a) H') → r x lo hi H Q
theorem osf_sl : OSSF g rSlLR slF := by
  intro L H d zs lo hi x Q hl rx hf q
  unfold slF at hf
  split at hf
  · cases hf
    obtain ⟨a, vs, rfl, sa, z, ra⟩ := rx.lst
    refine ⟨a, vs, rfl, sa, fun p hp => ?_⟩
    obtain ⟨n, r⟩ := new_lst hl hp (cut_reps ra lo hi)
    exact q p _ _ hp (Same.new hp) upd_same n (Nat.le_trans (cutV_length vs lo hi) z) r
  · cases hf
end

/-! ### the parts of a slice -/
def EvO (C : Cy) (m : M (Option Int)) : TO := fun σ H Q => ∃ L0 O env, C.F L0 O H σ env ∧ Post C L0 O H σ (m env) fun o _ _ H' => Q o H'
def mNoPart : M (Option Int) := fun e => .ok none e
def intD : D → Option Int
  | .int i => some i
  | _ => none
def mPart (m : M D) : M (Option Int) := do
  let d ← m
  let i ← lift (intD d)
  pure (some i)
section
variable {X : Cx} {C : Cy}
theorem _root_.L2.PO.weak {e : Option Expr} {t t' : TO} (h : PO X e t) (k : ∀ σ H Q, t' σ H Q → t σ H Q) : PO X e t' := ⟨fun pins s σ H Q I q => h.run pins s σ H Q I (k σ H Q q)⟩
theorem pd_noPart : PO X none (EvO C mNoPart) := po_none.weak fun σ H Q ⟨L0, O, env, F, h⟩ => h.here F
theorem pd_part {e : Expr} {m : M D} (h : PE X e (EvE C m)) : PO X (some e) (EvO C (mPart m)) := (po_some h).weak fun σ H Q ⟨L0, O, env, F, h⟩ =>
  ⟨L0, O, env, F, (Post.bind h).imp fun d e1 O1 H1 x1 F1 h1 v rv => by
    have h1 := Post.bind h1
    cases d with
    | int i => exact ⟨i, rv, (h1.here F1).here F1⟩
    | _ => exact h1.elim⟩
def mSl {α : Type} (f : D → Option Int → Option Int → Option α) (a : M D) (lo hi : M (Option Int)) : M α := do
  let x ← a
  let l ← lo
  let h ← hi
  lift (f x l h)
def mSlL {α : Type} (f : D → Option Int → Option Int → Option α) (i : Nat) (lo hi : M (Option Int)) : M α := do
  let _ ← mPeek i
  let l ← lo
  let h ← hi
  let x ← mPeek i
  lift (f x l h)
theorem mPeek_cases {i : Nat} {env : Env} {P : Prop} (h1 : ∀ d, mPeek i env = .ok d env → P) (h2 : mPeek i env = .bad → P) : P := by
  cases e : mPeek i env with
  | ok d e' =>
    have e2 : e' = env := by
      unfold mPeek at e
      split at e <;> cases e <;> rfl
    subst e2
    exact h1 d e
  | ex x y => unfold mPeek at e; split at e <;> cases e
  | bad => exact h2 e
theorem ssf_end {L0 : Addr → Prop} {O : Own} {H H0 : Hp} {σ : L2.St} {env : Env} {r : R3} {f : D → Option Int → Option Int → Option (List D)} {d : D} {l h : Option Int} {x : V} {Q : VK} (os : OSSF C.g r f) (F : C.F L0 O H σ env) (rx : RepP C.g (LL L0 O) H d x)
    (hp : Post C L0 O H σ (lift (f d l h) env) fun ds e' O' H' => ∀ a vs, H0 a = none → H' a = some (.lst vs) → C.F (LA L0 a) O' H' σ e' → vs.length ≤ sizeLine → Reps C.g (LL (LA L0 a) O') H' ds vs → Q (.ref a) H') (h0 : ∀ a, H a = none → H0 a = none) : r x l h H Q := by
  cases ef : f d l h with
  | none => rw [ef] at hp; exact hp.elim
  | some k =>
    rw [ef] at hp
    exact os _ H d k l h x Q F.trk rx ef fun a vs H' n s e nl z rv => hp O H' (Ext.same s) (F.same s) a vs (h0 a n) e (F.newA n s e) z (Reps.mono (XT.less fun b q => LA.cases q) _ _ rv)
theorem ss_end {L0 : Addr → Prop} {O : Own} {H : Hp} {σ : L2.St} {env : Env} {r : R3} {f : D → Option Int → Option Int → Option D} {d : D} {l h : Option Int} {x : V} {Q : VK} (os : OSS C.g r f) (F : C.F L0 O H σ env) (rx : RepP C.g (LL L0 O) H d x)
    (hp : Post C L0 O H σ (lift (f d l h) env) fun k _ O' H' => ∀ v, Rep C.g (LL L0 O') H' k v → Q v H') : r x l h H Q := by
  cases ef : f d l h with
  | none => rw [ef] at hp; exact hp.elim
  | some k =>
    rw [ef] at hp
    exact os _ H d k l h x Q F.trk rx ef fun v H' s rv => hp O H' (Ext.same s) (F.same s) v rv
theorem Ext.none {rf : Nat → Bool} {σ σ' : L2.St} {O O' : Own} {H H' : Hp} {a : Addr} (x : Ext rf σ O H σ' O' H') (h : H' a = none) : H a = none := by
  cases e : H a with
  | none => rfl
  | some o =>
    obtain ⟨o', e'⟩ := x.old a o e
    rw [h] at e'; cases e'
theorem pd_sl {r : R3} {f : D → Option Int → Option Int → Option D} {a : Expr} {lo hi : Option Expr} {ma : M D} {ml mh : M (Option Int)} {p2 pos : Pos} (hr : SlR X r) (os : OSS C.g r f) (ha : PE X a (EvE C ma)) (hl : PO X lo (EvO C ml)) (hh : PO X hi (EvO C mh)) :
    PE X (.Subscript a (.Slice lo hi none p2) pos) (EvE C (mSl f ma ml mh)) := (pe_slice hr ha hl hh).weak fun σ H Q ⟨L0, O, env, F, h⟩ =>
  ⟨L0, O, env, F, (Post.bind h).imp fun d e1 O1 H1 x1 F1 h1 v rv => ⟨L0, O1, e1, F1, (Post.bind h1).imp fun l e2 O2 H2 x2 F2 h2 => ⟨L0, O2, e2, F2, (Post.bind h2).imp fun u e3 O3 H3 x3 F3 h3 => ss_end os F3 (.inl ((rv.at x2).at x3)) h3⟩⟩⟩
theorem pd_slL {r : R3} {f : D → Option Int → Option Int → Option D} {i : Nat} {x : Str} {lo hi : Option Expr} {ml mh : M (Option Int)} {p p2 pos : Pos} (hr : SlR X r) (os : OSS C.g r f) (ha : PE X (.Name x p) (tVar i)) (hl : PO X lo (EvO C ml)) (hh : PO X hi (EvO C mh)) :
    PE X (.Subscript (.Name x p) (.Slice lo hi none p2) pos) (EvE C (mSlL f i ml mh)) := (pe_slice hr ha hl hh).weak fun σ H Q ⟨L0, O, env, F, h⟩ => by
  have h := Post.bind h
  refine mPeek_cases (i := i) (env := env) (fun d e => ?_) (fun e => by rw [e] at h; exact h.elim)
  obtain ⟨_, v, es, _⟩ := mPeek_ok F e
  rw [e] at h
  refine ⟨v, es, L0, O, env, F, (Post.bind (h.here F)).imp fun l e2 O2 H2 x2 F2 h2 => ⟨L0, O2, e2, F2, (Post.bind h2).imp fun u e3 O3 H3 x3 F3 h3 => ?_⟩⟩
  have h3 := Post.bind h3
  refine mPeek_cases (i := i) (env := e3) (fun d3 ep => ?_) (fun e => by rw [e] at h3; exact h3.elim)
  obtain ⟨_, v', es', rv⟩ := mPeek_ok F3 ep
  rw [es] at es'
  cases es'
  rw [ep] at h3
  exact ss_end os F3 rv (h3.here F3)
theorem pd_slF {r : R3} {f : D → Option Int → Option Int → Option (List D)} {a : Expr} {lo hi : Option Expr} {ma : M D} {ml mh : M (Option Int)} {p2 pos : Pos} (hr : SlR X r) (os : OSSF C.g r f) (ha : PE X a (EvE C ma)) (hl : PO X lo (EvO C ml)) (hh : PO X hi (EvO C mh)) :
    PE X (.Subscript a (.Slice lo hi none p2) pos) (EvF C (mSl f ma ml mh)) := (pe_slice hr ha hl hh).weak fun σ H Q ⟨L0, O, env, F, h⟩ =>
  ⟨L0, O, env, F, (Post.bind h).imp fun d e1 O1 H1 x1 F1 h1 v rv => ⟨L0, O1, e1, F1, (Post.bind h1).imp fun l e2 O2 H2 x2 F2 h2 => ⟨L0, O2, e2, F2, (Post.bind h2).imp fun u e3 O3 H3 x3 F3 h3 => ssf_end os F3 (.inl ((rv.at x2).at x3)) h3 fun a n => x1.none (x2.none (x3.none n))⟩⟩⟩
theorem pd_slFL {r : R3} {f : D → Option Int → Option Int → Option (List D)} {i : Nat} {x : Str} {lo hi : Option Expr} {ml mh : M (Option Int)} {p p2 pos : Pos} (hr : SlR X r) (os : OSSF C.g r f) (ha : PE X (.Name x p) (tVar i)) (hl : PO X lo (EvO C ml)) (hh : PO X hi (EvO C mh)) :
    PE X (.Subscript (.Name x p) (.Slice lo hi none p2) pos) (EvF C (mSlL f i ml mh)) := (pe_slice hr ha hl hh).weak fun σ H Q ⟨L0, O, env, F, h⟩ => by
  have h := Post.bind h
  refine mPeek_cases (i := i) (env := env) (fun d e => ?_) (fun e => by rw [e] at h; exact h.elim)
  obtain ⟨_, v, es, _⟩ := mPeek_ok F e
  rw [e] at h
  refine ⟨v, es, L0, O, env, F, (Post.bind (h.here F)).imp fun l e2 O2 H2 x2 F2 h2 => ⟨L0, O2, e2, F2, (Post.bind h2).imp fun u e3 O3 H3 x3 F3 h3 => ?_⟩⟩
  have h3 := Post.bind h3
  refine mPeek_cases (i := i) (env := e3) (fun d3 ep => ?_) (fun e => by rw [e] at h3; exact h3.elim)
  obtain ⟨_, v', es', rv⟩ := mPeek_ok F3 ep
  rw [es] at es'
  cases es'
  rw [ep] at h3
  exact ssf_end os F3 rv (h3.here F3) fun a n => x2.none (x3.none n)

/-! ### binary operators that make a list -/
def mBinF (f : D → D → Option (List D)) (a b : M D) : M (List D) := do
  let x ← a
  let y ← b
  lift (f x y)
def mBinFL (f : D → D → Option (List D)) (i : Nat) (b : M D) : M (List D) := do
  let _ ← mPeek i
  let y ← b
  let x ← mPeek i
  lift (f x y)
theorem of_end {L0 : Addr → Prop} {O : Own} {H H0 : Hp} {σ : L2.St} {env : Env} {r : R2} {f : D → D → Option (List D)} {d e : D} {x y : V} {Q : VK} (os : OSF2 C.g r f) (F : C.F L0 O H σ env) (rx : RepP C.g (LL L0 O) H d x) (ry : RepP C.g (LL L0 O) H e y)
    (hp : Post C L0 O H σ (lift (f d e) env) fun ds e' O' H' => ∀ a vs, H0 a = none → H' a = some (.lst vs) → C.F (LA L0 a) O' H' σ e' → vs.length ≤ sizeLine → Reps C.g (LL (LA L0 a) O') H' ds vs → Q (.ref a) H') (h0 : ∀ a, H a = none → H0 a = none) : r x y H Q := by
  cases ef : f d e with
  | none => rw [ef] at hp; exact hp.elim
  | some k =>
    rw [ef] at hp
    exact os _ H d e k x y Q F.trk rx ry ef fun a vs H' n s e nl z rv => hp O H' (Ext.same s) (F.same s) a vs (h0 a n) e (F.newA n s e) z (Reps.mono (XT.less fun b q => LA.cases q) _ _ rv)
theorem pd_opF {op : Operator} {r : R2} {f : D → D → Option (List D)} {a b : Expr} {ma mb : M D} {pos : Pos} (ho : OpR X (binaryOp op) r) (os : OSF2 C.g r f) (ha : PE X a (EvE C ma)) (hb : PE X b (EvP C mb)) : PE X (.BinOp a op b pos) (EvF C (mBinF f ma mb)) :=
  (pe_op ho ha hb).weak fun σ H Q ⟨L0, O, env, F, h⟩ => ⟨L0, O, env, F, (Post.bind h).imp fun d e1 O1 H1 x1 F1 h1 v rv => ⟨L0, O1, e1, F1, (Post.bind h1).imp fun d2 e2 O2 H2 x2 F2 h2 u ru => of_end os F2 (.inl (rv.at x2)) ru h2 fun a n => x1.none (x2.none n)⟩⟩
theorem pd_opFL {op : Operator} {r : R2} {f : D → D → Option (List D)} {b : Expr} {i : Nat} {x : Str} {mb : M D} {p pos : Pos} (ho : OpR X (binaryOp op) r) (os : OSF2 C.g r f) (ha : PE X (.Name x p) (tVar i)) (hb : PE X b (EvP C mb)) : PE X (.BinOp (.Name x p) op b pos) (EvF C (mBinFL f i mb)) :=
  (pe_op ho ha hb).weak fun σ H Q ⟨L0, O, env, F, h⟩ => by
    have h := Post.bind h
    refine mPeek_cases (i := i) (env := env) (fun d e => ?_) (fun e => by rw [e] at h; exact h.elim)
    obtain ⟨_, v, es, _⟩ := mPeek_ok F e
    rw [e] at h
    refine ⟨v, es, L0, O, env, F, (Post.bind (h.here F)).imp fun d2 e2 O2 H2 x2 F2 h2 u ru => ?_⟩
    have h2 := Post.bind h2
    refine mPeek_cases (i := i) (env := e2) (fun d3 ep => ?_) (fun e => by rw [e] at h2; exact h2.elim)
    obtain ⟨_, v', es', rv⟩ := mPeek_ok F2 ep
    rw [es] at es'
    cases es'
    rw [ep] at h2
    exact of_end os F2 rv ru (h2.here F2) fun a n => x2.none n

/-! ### arguments, displays -/
def notStar : Expr → Bool
  | .Starred .. => false
  | _ => true
theorem starEach_cons {e : Expr} {es : List Expr} {env : PySem.Env} (h : notStar e = true) : starEach (e :: es) env = (false, eval e env) :: starEach es env := by
  cases e <;> first | rfl | (simp [notStar] at h)
theorem starEach_all {env : PySem.Env} : ∀ {es : List Expr}, es.all notStar = true → starEach es env = es.map fun e => (false, eval e env)
  | [], _ => rfl
  | e :: es, h => by
    rw [List.all_cons, Bool.and_eq_true] at h
    rw [starEach_cons h.1, starEach_all h.2]; rfl
theorem plain_all {env : PySem.Env} {pos : Pos} {es : List Expr} (h : es.all notStar = true) : (backTo pos (starEach es env)).any (·.1) = false := by
  rw [starEach_all h]
  unfold backTo
  simp
def mNil : M (List D) := fun e => .ok [] e
def mCons (a : M D) (r : M (List D)) : M (List D) := do
  let x ← a
  let xs ← r
  pure (x :: xs)
theorem pa_nilD : PA X [] (EvA C mNil) := pa_nil.weak fun σ H Q ⟨L0, O, env, F, h⟩ => h.here F [] rfl
theorem pa_consD {e : Expr} {es : List Expr} {m : M D} {r : M (List D)} (hn : notStar e = true) (he : PE X e (EvE C m)) (hr : PA X es (EvA C r)) : PA X (e :: es) (EvA C (mCons m r)) :=
  (pa_cons he hr (starEach_cons hn)).weak fun σ H Q ⟨L0, O, env, F, h⟩ => ⟨L0, O, env, F, (Post.bind h).imp fun d e1 O1 H1 x1 F1 h1 v rv => ⟨L0, O1, e1, F1, (Post.bind h1).imp fun ds e2 O2 H2 x2 F2 h2 vs rs => h2.here F2 _ (.cons (rv.at x2) rs)⟩⟩
def mTup (r : M (List D)) : M D := do
  let xs ← r
  if xs.length ≤ 1000000 then pure (.tup xs) else bad
theorem pd_tup {es : List Expr} {r : M (List D)} {k pos} (hr : PA X es (EvA C r)) : PE X (.Tuple es k pos) (EvE C (mTup r)) := (pe_tup hr).weak fun σ H Q ⟨L0, O, env, F, h⟩ =>
  ⟨L0, O, env, F, (Post.bind h).imp fun ds e1 O1 H1 x1 F1 h1 vs rs => by
    by_cases hz : ds.length ≤ 1000000
    · rw [if_pos hz] at h1
      have hz2 : vs.length ≤ sizeLine := by rw [← rs.length]; exact big hz
      exact ⟨hz2, fun p hp => h1 _ _ (Ext.same (Same.new hp)) (F1.same (Same.new hp)) _ (new_tup F1.trk hp rs hz2)⟩
    · rw [if_neg hz] at h1; exact h1.elim⟩
def mLst (r : M (List D)) : M (List D) := do
  let xs ← r
  if xs.length ≤ 1000000 then pure xs else bad
theorem pd_lst {es : List Expr} {r : M (List D)} {pos} (hr : PA X es (EvA C r)) : PE X (.List es pos) (EvF C (mLst r)) := (pe_lst hr).weak fun σ H Q ⟨L0, O, env, F, h⟩ =>
  ⟨L0, O, env, F, (Post.bind h).imp fun ds e1 O1 H1 x1 F1 h1 vs rs => by
    by_cases hz : ds.length ≤ 1000000
    · rw [if_pos hz] at h1
      have hz2 : vs.length ≤ sizeLine := by rw [← rs.length]; exact big hz
      refine ⟨hz2, fun p hp => ?_⟩
      obtain ⟨n, r⟩ := new_lst F1.trk hp rs
      exact h1 _ _ (Ext.same (Same.new hp)) (F1.same (Same.new hp)) p vs (x1.none hp) upd_same (F1.newA hp (Same.new hp) upd_same) hz2 (Reps.mono (XT.less fun b q => LA.cases q) _ _ r)
    · rw [if_neg hz] at h1; exact h1.elim⟩

/-! ### built-ins of one value -/
def OC1 (g : G) (r : List V → Hp → VK → Prop) (f : D → Option D) : Prop := ∀ (L : Addr → Prop) (H : Hp) (d k : D) (x : V) (Q : VK), (∀ a, L a → ∃ o, H a = some o) → RepP g L H d x → f d = some k → (∀ v H', Same H H' → Rep g L H' k v → Q v H') → r [x] H Q
def OCF1 (g : G) (r : List V → Hp → VK → Prop) (f : D → Option (List D)) : Prop := ∀ (L : Addr → Prop) (H : Hp) (d : D) (zs : List D) (x : V) (Q : VK), (∀ a, L a → ∃ o, H a = some o) → RepP g L H d x → f d = some zs →
  (∀ a vs H', H a = none → Same H H' → H' a = some (.lst vs) → ¬ L a → vs.length ≤ sizeLine → Reps g (fun b => L b ∨ b = a) H' zs vs → Q (.ref a) H') → r [x] H Q
def OCN (g : G) (r : List V → Hp → VK → Prop) (f : List D → Option D) : Prop := ∀ (L : Addr → Prop) (H : Hp) (ds : List D) (k : D) (vs : List V) (Q : VK), (∀ a, L a → ∃ o, H a = some o) → Reps g L H ds vs → f ds = some k → (∀ v H', Same H H' → Rep g L H' k v → Q v H') → r vs H Q
def mUn {α : Type} (f : D → Option α) (a : M D) : M α := do
  let x ← a
  lift (f x)
theorem cb1_weak {r : List V → Hp → VK → Prop} {f : D → Option D} {m : M D} (os : OC1 C.g r f) (σ : L2.St) (H : Hp) (Q : VK) (h : EvE C (mUn f m) σ H Q) : tCB r (tCons (EvP C m) tNil) σ H Q := by
  obtain ⟨L0, O, env, F, h⟩ := h
  refine ⟨L0, O, env, F, (Post.bind h).imp fun d e1 O1 H1 x1 F1 h1 v rv => ?_⟩
  cases ef : f d with
  | none => rw [ef] at h1; exact h1.elim
  | some k =>
    rw [ef] at h1
    exact os _ H1 d k v Q F1.trk rv ef fun v H' s rv => h1 O1 H' (Ext.same s) (F1.same s) v rv
theorem cbF1_weak {r : List V → Hp → VK → Prop} {f : D → Option (List D)} {m : M D} (os : OCF1 C.g r f) (σ : L2.St) (H : Hp) (Q : VK) (h : EvF C (mUn f m) σ H Q) : tCB r (tCons (EvP C m) tNil) σ H Q := by
  obtain ⟨L0, O, env, F, h⟩ := h
  refine ⟨L0, O, env, F, (Post.bind h).imp fun d e1 O1 H1 x1 F1 h1 v rv => ?_⟩
  cases ef : f d with
  | none => rw [ef] at h1; exact h1.elim
  | some k =>
    rw [ef] at h1
    exact os _ H1 d k v Q F1.trk rv ef fun a vs H' n s e nl z rv => h1 O1 H' (Ext.same s) (F1.same s) a vs (x1.none n) e (F1.newA n s e) z (Reps.mono (XT.less fun b q => LA.cases q) _ _ rv)
theorem cbN_weak {r : List V → Hp → VK → Prop} {f : List D → Option D} {m : M (List D)} (os : OCN C.g r f) (σ : L2.St) (H : Hp) (Q : VK) (h : EvE C (do let xs ← m; lift (f xs)) σ H Q) : tCB r (EvA C m) σ H Q := by
  obtain ⟨L0, O, env, F, h⟩ := h
  refine ⟨L0, O, env, F, (Post.bind h).imp fun d e1 O1 H1 x1 F1 h1 v rv => ?_⟩
  cases ef : f d with
  | none => rw [ef] at h1; exact h1.elim
  | some k =>
    rw [ef] at h1
    exact os _ H1 d k v Q F1.trk rv ef fun v H' s rv => h1 O1 H' (Ext.same s) (F1.same s) v rv
end
end MP

/-! MP, part E: calls of the text's own defs. -/
namespace MP
open L2 PyProof.Rows PySem PySem.Spec

inductive FR where
  | ok (d : D) (outs : List Val) | ex (x : Exn) (outs : List Val) | bad
abbrev Fn := List Val → FR
def noX : XTab := fun _ => none
def domH (H : Hp) : Addr → Prop := fun a => ∃ o, H a = some o
/-- an argument: a value, a slot handed on as it is, a list just made -/
inductive Arg where
  | e (m : M D) | r (j : Nat) | f (m : M (List D))
inductive AV where
  | v (d : D) | s | l (xs : List D)
/-- what comes back; fresh: a list that nothing else knows -/
def retOk (g : G) (rf : Nat → Bool) (fresh : Bool) (L0 : Addr → Prop) (A : Own) (H : Hp) (vs : List V) (outs : List Val) (d : D) (Q : VK) : Prop :=
  match fresh, d with
  | true, .lst xs => ∀ a us A' H', Ext (fun _ => true) [] A H [] A' H' → FRel g rf (domH H) (LA L0 a) noX A' H' (vs.map some) (outs.map some) → H a = none → H' a = some (.lst us) → us.length ≤ sizeLine → Reps g (LL (LA L0 a) A') H' xs us → Q (.ref a) H'
  | _, d => ∀ v A' H', Ext (fun _ => true) [] A H [] A' H' → FRel g rf (domH H) L0 noX A' H' (vs.map some) (outs.map some) → Rep g (LL L0 A') H' d v → Q v H'
/-- THE PROMISE of a def: F is what it does -/
def spF (g : G) (n : Nat) (rf : Nat → Bool) (fresh : Bool) (F : Fn) : Sp := fun vs H Q E => ∃ (L0 : Addr → Prop) (A : Own) (vals : List Val), vs.length = n ∧ FRel g rf (domH H) L0 noX A H (vs.map some) (vals.map some) ∧
  match F vals with
  | .ok d outs => retOk g rf fresh L0 A H vs outs d Q
  | .ex x outs => ∀ cls dd A' H', Ext (fun _ => true) [] A H [] A' H' → FRel g rf (domH H) L0 noX A' H' (vs.map some) (outs.map some) → XR g (LL L0 A') H' x cls dd → E cls dd H'
  | .bad => False

def chk (j : Nat) : M Unit := fun e => match e[j]? with
  | some (some (.p _)) => .ok () e
  | some (some (.ml _)) => .ok () e
  | _ => .bad
def evArgs : List Arg → M (List AV)
  | [] => fun e => .ok [] e
  | .e m :: r => do
    let d ← m
    let ds ← evArgs r
    pure (.v d :: ds)
  | .r j :: r => do
    chk j
    let ds ← evArgs r
    pure (.s :: ds)
  | .f m :: r => do
    let xs ← m
    let ds ← evArgs r
    pure (.l xs :: ds)
def gather : List Arg → List AV → Env → Option (List Val)
  | [], [], _ => some []
  | .e _ :: r, .v d :: ds, e => (gather r ds e).map (Val.p d :: ·)
  | .r j :: r, .s :: ds, e => (match e[j]? with
    | some (some (.p d)) => (gather r ds e).map (Val.p d :: ·)
    | some (some (.ml xs)) => (gather r ds e).map (Val.ml xs :: ·)
    | _ => none)
  | .f _ :: r, .l xs :: ds, e => (gather r ds e).map (Val.ml xs :: ·)
  | _, _, _ => none
def back : List Arg → List Val → Env → Env
  | .r j :: r, v :: vs, e => back r vs (e.set j (some v))
  | .e _ :: r, _ :: vs, e => back r vs e
  | .f _ :: r, _ :: vs, e => back r vs e
  | _, _, e => e
def after {α : Type} (F : Fn) (args : List Arg) (h : D → Option α) : Option (List Val) → Env → R α
  | none, _ => .bad
  | some vals, e => (match F vals with
    | .ok d outs => lift (h d) (back args outs e)
    | .ex x outs => .ex x (back args outs e)
    | .bad => .bad)
def mCall (F : Fn) (args : List Arg) : M D := do
  let ds ← evArgs args
  fun e => after F args some (gather args ds e) e
def lstD : D → Option (List D)
  | .lst xs => some xs
  | _ => none
def mCallF (F : Fn) (args : List Arg) : M (List D) := do
  let ds ← evArgs args
  fun e => after F args lstD (gather args ds e) e
/-- the lists just made stand forbidden -/
def LT (L0 : Addr → Prop) (ts : List (Option Addr)) : Addr → Prop := fun b => L0 b ∨ some b ∈ ts
def AR (g : G) (L : Addr → Prop) (H : Hp) (σ : L2.St) : List Arg → List AV → List V → List (Option Addr) → Prop
  | [], [], vs, ts => vs = [] ∧ ts = []
  | .e _ :: r, .v d :: ds, vs, ts => ∃ v t tr, vs = v :: t ∧ ts = none :: tr ∧ Rep g L H d v ∧ AR g L H σ r ds t tr
  | .r j :: r, .s :: ds, vs, ts => ∃ v t tr, vs = v :: t ∧ ts = none :: tr ∧ σ[j]? = some (some v) ∧ AR g L H σ r ds t tr
  | .f _ :: r, .l xs :: ds, vs, ts => ∃ a us t tr, vs = .ref a :: t ∧ ts = some a :: tr ∧ H a = some (.lst us) ∧ us.length ≤ sizeLine ∧ Reps g L H xs us ∧ AR g L H σ r ds t tr
  | _, _, _, _ => False
/-- new, none twice -/
def Nw (H : Hp) (ts : List (Option Addr)) : Prop := (∀ b, some b ∈ ts → H b = none) ∧ ∀ (i j : Nat) (b : Addr), ts[i]? = some (some b) → ts[j]? = some (some b) → i = j
def EvAr (C : Cy) (args : List Arg) : TA := fun σ H Q => ∃ L0 O env, C.F L0 O H σ env ∧ Post C L0 O H σ (evArgs args env) fun ds e O' H' => ∀ vs ts, Nw H ts → C.F (LT L0 ts) O' H' σ e → AR C.g (LL (LT L0 ts) O') H' σ args ds vs ts → Q vs H'
section
variable {X : Cx} {C : Cy} {L0 : Addr → Prop} {O : Own} {H H' : Hp} {σ : L2.St}
theorem Post.more {α : Type} {r : R α} {Φ : α → Env → Own → Hp → Prop} {a : Addr} (h : Post C L0 O H σ r Φ) : Post C (LA L0 a) O H σ r Φ := by
  cases r with
  | ok x e => exact fun O' H' y F => h O' H' y (FRel.less F fun b z => .inl z)
  | ex x e => exact fun c d O' H' y F ⟨e1, dd, vfs, vs, e2, h1, nl, fo, r⟩ => h c d O' H' y (FRel.less F fun b z => .inl z) ⟨e1, dd, vfs, vs, e2, h1, fun z => nl (LA.ll z), fo, Reps.mono (XT.less fun b z => LA.ll z) _ _ r⟩
  | bad => exact h
/-- the end of a part, told of the whole's start -/
theorem Post.bind0 {α β : Type} {m : M α} {f : α → M β} {env : Env} {Φ : β → Env → Own → Hp → Prop} (h : Post C L0 O H σ ((m >>= f) env) Φ) : Post C L0 O H σ (m env) (fun a e O' H' => Post C L0 O H σ (f a e) Φ) := by
  rw [bind_eq] at h
  unfold M.bind at h
  cases e : m env with
  | ok a e' => rw [e] at h; exact fun O' H' y F => h
  | ex a e' => rw [e] at h; exact h
  | bad => rw [e] at h; exact h
theorem LT.none {ts : List (Option Addr)} : LT L0 (none :: ts) = LT L0 ts := funext fun b => propext ⟨fun h => h.imp id fun h => by simpa using h, fun h => h.imp id fun h => by simpa using h⟩
theorem LT.some {a : Addr} {ts : List (Option Addr)} : LT L0 (some a :: ts) = LT (LA L0 a) ts := funext fun b => propext ⟨fun h => h.elim (fun h => .inl (.inl h)) fun h => by
    rcases List.mem_cons.mp h with e | e
    · cases e; exact .inl (.inr rfl)
    · exact .inr e, fun h => h.elim (fun h => h.elim .inl fun e => .inr (by rw [e]; exact List.mem_cons_self)) fun h => .inr (List.mem_cons_of_mem _ h)⟩
theorem LT.nil : LT L0 [] = L0 := funext fun b => propext ⟨fun h => h.elim id fun h => (by cases h), .inl⟩
theorem Nw.tail {o : Option Addr} {ts : List (Option Addr)} (h : Nw H (o :: ts)) : Nw H ts := ⟨fun b hb => h.1 b (List.mem_cons_of_mem _ hb), fun i j b e e' => by
  have := h.2 (i + 1) (j + 1) b (by simpa using e) (by simpa using e')
  omega⟩
theorem XT.temps {ts : List (Option Addr)} {O' : Own} {rf : Nat → Bool} (x : Ext rf σ O H σ O' H') (n : ∀ b, some b ∈ ts → H b = none) : XT (LL L0 O) H (LL (LT L0 ts) O') H' := fun b o e nn => by
  obtain ⟨e1, n1⟩ := (x.xt (L0 := L0)) b o e nn
  refine ⟨e1, fun z => ?_⟩
  rcases z with (z | z) | z
  · exact n1 (.inl z)
  · rw [n b z] at e; cases e
  · exact n1 (.inr z)
theorem pr_nil : PA X [] (EvAr C []) := pa_nil.weak fun σ H Q ⟨L0, O, env, F, h⟩ => h.here F [] [] ⟨fun b z => (by cases z), fun i j b e => (by simp at e)⟩ (by rw [LT.nil]; exact F) ⟨rfl, rfl⟩
theorem pr_e {e : Expr} {es : List Expr} {m : M D} {r : List Arg} (hn : notStar e = true) (he : PE X e (EvE C m)) (hr : PA X es (EvAr C r)) : PA X (e :: es) (EvAr C (.e m :: r)) :=
  (pa_cons he hr (starEach_cons hn)).weak fun σ H Q ⟨L0, O, env, F, h⟩ => ⟨L0, O, env, F, (Post.bind h).imp fun d e1 O1 H1 x1 F1 h1 v rv => ⟨L0, O1, e1, F1, (Post.bind h1).imp fun ds e2 O2 H2 x2 F2 h2 vs ts nw FT rs => by
    have nb : ∀ b, some b ∈ ts → H b = none := fun b hb => x1.none (nw.1 b hb)
    refine h2.here F2 _ (none :: ts) ⟨fun b hb => nb b (by simpa using hb), fun i j b e e' => ?_⟩ (by rw [LT.none]; exact FT) ⟨v, vs, ts, rfl, rfl, ?_, by rw [LT.none]; exact rs⟩
    · cases i with
      | zero => simp at e
      | succ i =>
        cases j with
        | zero => simp at e'
        | succ j => rw [nw.2 i j b (by simpa using e) (by simpa using e')]
    · rw [LT.none]
      exact Rep.mono (XT.temps x2 nw.1) d v rv⟩⟩
theorem pr_r {x : Str} {p : Pos} {es : List Expr} {j : Nat} {r : List Arg} (he : PE X (.Name x p) (tVar j)) (hr : PA X es (EvAr C r)) : PA X (.Name x p :: es) (EvAr C (.r j :: r)) :=
  (pa_cons he hr rfl).weak fun σ H Q ⟨L0, O, env, F, h⟩ => by
    have h := Post.bind h
    have s := F.sl j
    have go : ∀ (v : V), σ[j]? = some (some v) → Post C L0 O H σ ((evArgs r >>= fun ds => pure (.s :: ds)) env) (fun ds e O' H' => ∀ vs ts, Nw H ts → C.F (LT L0 ts) O' H' σ e → AR C.g (LL (LT L0 ts) O') H' σ (.r j :: r) ds vs ts → Q vs H') →
        EvAr C r σ H fun vs H' => Q (v :: vs) H' := fun v e hp => ⟨L0, O, env, F, (Post.bind hp).imp fun ds e2 O2 H2 x2 F2 h2 vs ts nw FT rs => by
      refine h2.here F2 _ (none :: ts) ⟨fun b hb => nw.1 b (by simpa using hb), fun i j b e e' => ?_⟩ (by rw [LT.none]; exact FT) ⟨v, vs, ts, rfl, rfl, e, by rw [LT.none]; exact rs⟩
      cases i with
      | zero => simp at e
      | succ i =>
        cases j with
        | zero => simp at e'
        | succ j => rw [nw.2 i j b (by simpa using e) (by simpa using e')]⟩
    unfold chk at h
    split at h
    · rename_i d hq
      rw [hq] at s
      obtain ⟨_, v, e, _⟩ := s
      exact ⟨v, e, go v e (h.here F)⟩
    · rename_i d hq
      rw [hq] at s
      obtain ⟨a, us, _, e, _⟩ := s
      exact ⟨.ref a, e, go (.ref a) e (h.here F)⟩
    · exact h.elim
theorem pr_f {e : Expr} {es : List Expr} {m : M (List D)} {r : List Arg} (hn : notStar e = true) (he : PE X e (EvF C m)) (hr : PA X es (EvAr C r)) : PA X (e :: es) (EvAr C (.f m :: r)) :=
  (pa_cons he hr (starEach_cons hn)).weak fun σ H Q ⟨L0, O, env, F, h⟩ => ⟨L0, O, env, F, (Post.bind h).imp fun xs e1 O1 H1 x1 F1 h1 a us h0 ha FA z rr => ⟨LA L0 a, O1, e1, FA, Post.more ((Post.bind h1).imp fun ds e2 O2 H2 x2 F2 h2 vs ts nw FT rs => by
    have ha2 : H2 a = some (.lst us) := (x2.keep a _ ha fun i q => FA.dis i a q (.inr rfl)).1
    have na : some a ∉ ts := fun q => by rw [nw.1 a q] at ha; cases ha
    refine h2.here F2 _ (some a :: ts) ⟨fun b hb => ?_, fun i j b e e' => ?_⟩ (by rw [LT.some]; exact FT) ⟨a, us, vs, ts, rfl, rfl, ha2, z, ?_, by rw [LT.some]; exact rs⟩
    · rcases List.mem_cons.mp hb with q | q
      · cases q; exact h0
      · exact x1.none (nw.1 b q)
    · cases i with
      | zero =>
        have ea : a = b := by simpa using e
        subst ea
        cases j with
        | zero => rfl
        | succ j => exact absurd (List.mem_of_getElem? (by simpa using e')) na
      | succ i =>
        cases j with
        | zero =>
          have ea : a = b := by simpa using e'
          subst ea
          exact absurd (List.mem_of_getElem? (by simpa using e)) na
        | succ j => rw [nw.2 i j b (by simpa using e) (by simpa using e')]
    · rw [LT.some]
      exact Reps.mono (XT.temps x2 nw.1) xs us rr)⟩⟩
end

/-! ### the callee's frame -/
def ValsOk (g : G) (L : Addr → Prop) (H : Hp) (σ : L2.St) (env : Env) (args : List Arg) (vals : List Val) (vs : List V) (ts : List (Option Addr)) : Prop := vals.length = args.length ∧ vs.length = args.length ∧ ts.length = args.length ∧ ∀ (k : Nat), (∀ m, args[k]? = some (.e m) → ∃ d v, vals[k]? = some (.p d) ∧ vs[k]? = some v ∧ Rep g L H d v ∧ ts[k]? = some none) ∧
      (∀ j, args[k]? = some (.r j) → ∃ w v, vals[k]? = some w ∧ env[j]? = some (some w) ∧ (∀ e, w ≠ .x e) ∧ vs[k]? = some v ∧ σ[j]? = some (some v) ∧ ts[k]? = some none) ∧
      (∀ m, args[k]? = some (.f m) → ∃ xs a us, vals[k]? = some (.ml xs) ∧ vs[k]? = some (.ref a) ∧ H a = some (.lst us) ∧ us.length ≤ sizeLine ∧ Reps g L H xs us ∧ ts[k]? = some (some a))
theorem AR.vals {g : G} {L : Addr → Prop} {H : Hp} {σ : L2.St} {env : Env} : ∀ {args : List Arg} {ds : List AV} {vs : List V} {ts : List (Option Addr)} {vals : List Val}, AR g L H σ args ds vs ts → gather args ds env = some vals → ValsOk g L H σ env args vals vs ts
  | [], [], vs, ts, vals, h, hg => by
    cases hg
    obtain ⟨rfl, rfl⟩ := h
    exact ⟨rfl, rfl, rfl, fun k => ⟨fun m e => by simp at e, fun j e => by simp at e, fun m e => by simp at e⟩⟩
  | .e m0 :: r, .v d :: ds, vs, ts, vals, h, hg => by
    obtain ⟨v, t, tr, rfl, rfl, rv, ht⟩ := h
    have hg : (gather r ds env).map (Val.p d :: ·) = some vals := hg
    obtain ⟨vals', hg', rfl⟩ := Option.map_eq_some_iff.mp hg
    obtain ⟨l1, l2, l3, ih⟩ := AR.vals ht hg'
    refine ⟨by simp [l1], by simp [l2], by simp [l3], fun k => ?_⟩
    cases k with
    | zero => exact ⟨fun m e => ⟨d, v, rfl, rfl, rv, rfl⟩, fun j e => by simp at e, fun j e => by simp at e⟩
    | succ k => exact ⟨fun m e => by simpa using (ih k).1 m (by simpa using e), fun j e => by simpa using (ih k).2.1 j (by simpa using e), fun j e => by simpa using (ih k).2.2 j (by simpa using e)⟩
  | .f m0 :: r, .l xs :: ds, vs, ts, vals, h, hg => by
    obtain ⟨a, us, t, tr, rfl, rfl, ha, z, rr, ht⟩ := h
    have hg : (gather r ds env).map (Val.ml xs :: ·) = some vals := hg
    obtain ⟨vals', hg', rfl⟩ := Option.map_eq_some_iff.mp hg
    obtain ⟨l1, l2, l3, ih⟩ := AR.vals ht hg'
    refine ⟨by simp [l1], by simp [l2], by simp [l3], fun k => ?_⟩
    cases k with
    | zero => exact ⟨fun m e => by simp at e, fun j e => by simp at e, fun j e => ⟨xs, a, us, rfl, rfl, ha, z, rr, rfl⟩⟩
    | succ k => exact ⟨fun m e => by simpa using (ih k).1 m (by simpa using e), fun j e => by simpa using (ih k).2.1 j (by simpa using e), fun j e => by simpa using (ih k).2.2 j (by simpa using e)⟩
  | .r j0 :: r, .s :: ds, vs, ts, vals, h, hg => by
    obtain ⟨v, t, tr, rfl, rfl, hv, ht⟩ := h
    have go : ∀ (w : Val) (vals' : List Val), env[j0]? = some (some w) → (∀ e, w ≠ .x e) → gather r ds env = some vals' → ValsOk g L H σ env (Arg.r j0 :: r) (w :: vals') (v :: t) (none :: tr) := fun w vals' hq hx hg' => by
      obtain ⟨l1, l2, l3, ih⟩ := AR.vals ht hg'
      refine ⟨by simp [l1], by simp [l2], by simp [l3], fun k => ?_⟩
      cases k with
      | zero => exact ⟨fun m e => by simp at e, fun j e => by
          have ej : j0 = j := by simpa using e
          subst ej
          exact ⟨w, v, rfl, hq, hx, rfl, hv, rfl⟩, fun j e => by simp at e⟩
      | succ k => exact ⟨fun m e => by simpa using (ih k).1 m (by simpa using e), fun j e => by simpa using (ih k).2.1 j (by simpa using e), fun j e => by simpa using (ih k).2.2 j (by simpa using e)⟩
    unfold gather at hg
    split at hg
    · rename_i d hq
      obtain ⟨vals', hg', rfl⟩ := Option.map_eq_some_iff.mp hg
      exact go _ _ hq (fun e z => by cases z) hg'
    · rename_i d hq
      obtain ⟨vals', hg', rfl⟩ := Option.map_eq_some_iff.mp hg
      exact go _ _ hq (fun e z => by cases z) hg'
    · cases hg
  | [], _ :: _, _, _, _, h, _ => h.elim
  | .e _ :: _, [], _, _, _, h, _ => h.elim
  | .e _ :: _, .s :: _, _, _, _, h, _ => h.elim
  | .e _ :: _, .l _ :: _, _, _, _, h, _ => h.elim
  | .r _ :: _, [], _, _, _, h, _ => h.elim
  | .r _ :: _, .v _ :: _, _, _, _, h, _ => h.elim
  | .r _ :: _, .l _ :: _, _, _, _, h, _ => h.elim
  | .f _ :: _, [], _, _, _, h, _ => h.elim
  | .f _ :: _, .v _ :: _, _, _, _, h, _ => h.elim
  | .f _ :: _, .s :: _, _, _, _, h, _ => h.elim
theorem back_len : ∀ (args : List Arg) (outs : List Val) (env : Env), (back args outs env).length = env.length
  | [], _, _ => rfl
  | .e _ :: _, [], _ => rfl
  | .r _ :: _, [], _ => rfl
  | .f _ :: _, [], _ => rfl
  | .e _ :: r, _ :: vs, env => back_len r vs env
  | .f _ :: r, _ :: vs, env => back_len r vs env
  | .r j :: r, v :: vs, env => by
    show (back r vs (env.set j (some v))).length = _
    rw [back_len r vs, List.length_set]
theorem back_ne {j : Nat} : ∀ (args : List Arg) (outs : List Val) (env : Env), (∀ k : Nat, args[k]? ≠ some (Arg.r j)) → (back args outs env)[j]? = env[j]?
  | [], _, _, _ => rfl
  | .e _ :: _, [], _, _ => rfl
  | .r _ :: _, [], _, _ => rfl
  | .f _ :: _, [], _, _ => rfl
  | .e _ :: r, _ :: vs, env, h => back_ne r vs env fun k => by simpa using h (k + 1)
  | .f _ :: r, _ :: vs, env, h => back_ne r vs env fun k => by simpa using h (k + 1)
  | .r i :: r, v :: vs, env, h => by
    show (back r vs (env.set i (some v)))[j]? = _
    rw [back_ne r vs _ fun k => by simpa using h (k + 1)]
    have : i ≠ j := fun e => h 0 (by simp [e])
    rw [List.getElem?_set_ne this]
def OneRaw (args : List Arg) : Prop := ∀ (k k' : Nat) (j : Nat), args[k]? = some (.r j) → args[k']? = some (.r j) → k = k'
theorem OneRaw.tail {a : Arg} {args : List Arg} (h : OneRaw (a :: args)) : OneRaw args := fun k k' j e e' => by
  have := h (k + 1) (k' + 1) j (by simpa using e) (by simpa using e')
  omega
theorem back_at {j k : Nat} {w : Val} : ∀ (args : List Arg) (outs : List Val) (env : Env), OneRaw args → args[k]? = some (.r j) → outs[k]? = some w → j < env.length → (back args outs env)[j]? = some (some w) := by
  intro args
  induction args generalizing k with
  | nil => intro _ _ _ h; simp at h
  | cons a args ih =>
    intro outs env one h ho hj
    cases outs with
    | nil => simp at ho
    | cons o outs =>
      cases k with
      | zero =>
        have ea : a = .r j := by simpa using h
        subst ea
        have eo : o = w := by simpa using ho
        subst eo
        show (back args outs (env.set j (some o)))[j]? = _
        rw [back_ne args outs _ fun k e => by
          have := one 0 (k + 1) j (by simp) (by simpa using e)
          omega]
        rw [List.getElem?_set_self hj]
      | succ k =>
        cases a with
        | e m => exact ih outs env one.tail (by simpa using h) (by simpa using ho) hj
        | f m => exact ih outs env one.tail (by simpa using h) (by simpa using ho) hj
        | r i => exact ih outs (env.set i (some o)) one.tail (by simpa using h) (by simpa using ho) (by simpa using hj)
/-- the callee's own addresses, the caller's forbidden ones -/
def ownA (args : List Arg) (ts : List (Option Addr)) (O : Own) : Own := fun k => match args[k]? with
  | some (.r j) => O j
  | some (.f _) => (ts[k]?).getD none
  | _ => none
def forbA (args : List Arg) (L0 : Addr → Prop) (O : Own) : Addr → Prop := fun a => LL L0 O a ∧ ∀ (k j : Nat), args[k]? = some (.r j) → O j ≠ some a
open Classical in
/-- the caller's addresses behind the call -/
noncomputable def ownB (args : List Arg) (O A' : Own) : Own := fun j => if h : ∃ k : Nat, args[k]? = some (Arg.r j) then A' h.choose else O j
/-- an argument that the callee may change -/
def rawA (args : List Arg) (k : Nat) : Prop := (∃ j, args[k]? = some (.r j)) ∨ ∃ m, args[k]? = some (.f m)
section
variable {g : G} {rf rfc : Nat → Bool} {dm L0 : Addr → Prop} {xs : XTab} {O0 O A' : Own} {H0 H H' : Hp} {σ : L2.St} {env : Env} {args : List Arg} {ds : List AV} {vs : List V} {ts : List (Option Addr)} {vals outs : List Val}
theorem ownA_r {k j : Nat} (h : args[k]? = some (.r j)) : ownA args ts O k = O j := by unfold ownA; rw [h]
theorem ownA_some {k : Nat} {a : Addr} (h : ownA args ts O k = some a) : (∃ j, args[k]? = some (.r j) ∧ O j = some a) ∨ ((∃ m, args[k]? = some (.f m)) ∧ ts[k]? = some (some a)) := by
  unfold ownA at h
  split at h
  · rename_i j e; exact .inl ⟨j, e, h⟩
  · rename_i m e
    refine .inr ⟨⟨m, e⟩, ?_⟩
    cases q : ts[k]? with
    | none => rw [q] at h; cases h
    | some o => rw [q] at h; exact congrArg some h
  · cases h
theorem ownB_r {k j : Nat} (one : OneRaw args) (h : args[k]? = some (.r j)) : ownB args O A' j = A' k := by
  unfold ownB
  have hx : ∃ k : Nat, args[k]? = some (Arg.r j) := ⟨k, h⟩
  rw [dif_pos hx]
  rw [one _ _ j hx.choose_spec h]
theorem ownB_n {j : Nat} (h : ∀ k : Nat, args[k]? ≠ some (Arg.r j)) : ownB args O A' j = O j := dif_neg fun ⟨k, e⟩ => h k e
theorem forb_sub {a : Addr} (h : LL (forbA args L0 O) (ownA args ts O) a) : LL (LT L0 ts) O a := by
  rcases h with h | ⟨k, h⟩
  · exact h.1.elim (fun h => .inl (.inl h)) .inr
  · rcases ownA_some h with ⟨j, _, e⟩ | ⟨_, e⟩
    · exact .inr ⟨j, e⟩
    · exact .inl (.inr (List.mem_of_getElem? e))
theorem callee_frame (F : FRel g rf dm (LT L0 ts) xs O H σ env) (nT : ∀ b, some b ∈ ts → ¬ L0 b) (nw : ∀ (i j : Nat) (b : Addr), ts[i]? = some (some b) → ts[j]? = some (some b) → i = j) (one : OneRaw args) (hr : ∀ k, rawA args k → rfc k = true) (h : AR g (LL (LT L0 ts) O) H σ args ds vs ts) (hg : gather args ds env = some vals) :
    FRel g rfc (domH H) (forbA args L0 O) noX (ownA args ts O) H (vs.map some) (vals.map some) := by
  obtain ⟨l1, l2, l3, hk⟩ := AR.vals h hg
  have less : XT (LL (LT L0 ts) O) H (LL (forbA args L0 O) (ownA args ts O)) H := XT.less fun a z => forb_sub z
  have F0 : FRel g rf dm L0 xs O H σ env := F.less fun a z => .inl z
  refine ⟨by rw [List.length_map, List.length_map, l1, l2], fun k => ?_, fun i j a hi hj => ?_, fun k a hk' q => ?_, fun a z => F0.trk a z.1, fun a z => z, fun k a hf ho => ?_⟩
  · cases e : args[k]? with
    | none =>
      have hlen : args.length ≤ k := by simpa using e
      have n1 : (vals.map some)[k]? = none := by simp [l1, hlen]
      rw [n1]
      show ownA args ts O k = none
      unfold ownA
      rw [e]
    | some a =>
      cases a with
      | e m =>
        obtain ⟨d, v, h1, h2, r, _⟩ := (hk k).1 m e
        rw [List.getElem?_map, List.getElem?_map, h1, h2]
        refine ⟨?_, v, rfl, Rep.mono less d v r⟩
        unfold ownA
        rw [e]
      | f m =>
        obtain ⟨zs, a, us, h1, h2, ha, z, rr, ht⟩ := (hk k).2.2 m e
        rw [List.getElem?_map, List.getElem?_map, h1, h2]
        refine ⟨a, us, ?_, rfl, ha, z, Reps.mono less zs us rr⟩
        unfold ownA
        rw [e, ht]; rfl
      | r j =>
        obtain ⟨w, v, h1, h2, hx, h3, h4, _⟩ := (hk k).2.1 j e
        rw [List.getElem?_map, List.getElem?_map, h1, h3, ownA_r e]
        have s := F.sl j
        rw [h2, h4] at s
        cases w with
        | p d =>
          obtain ⟨e0, v', ev, r⟩ := s
          cases ev
          exact ⟨e0, v, rfl, Rep.mono less d v r⟩
        | ml ds =>
          obtain ⟨a, us, e0, ev, ha, z, r⟩ := s
          cases ev
          exact ⟨a, us, e0, rfl, ha, z, Reps.mono less ds us r⟩
        | x e => exact absurd rfl (hx e)
  · rcases ownA_some hi with ⟨j1, e1, o1⟩ | ⟨⟨m1, e1⟩, o1⟩
    · rcases ownA_some hj with ⟨j2, e2, o2⟩ | ⟨⟨m2, e2⟩, o2⟩
      · have := F.inj j1 j2 a o1 o2
        subst this
        exact one i j j1 e1 e2
      · exact absurd (.inr (List.mem_of_getElem? o2)) (F.dis j1 a o1)
    · rcases ownA_some hj with ⟨j2, e2, o2⟩ | ⟨⟨m2, e2⟩, o2⟩
      · exact absurd (.inr (List.mem_of_getElem? o1)) (F.dis j2 a o2)
      · exact nw i j a o1 o2
  · rcases ownA_some hk' with ⟨j, e, o⟩ | ⟨_, e⟩
    · exact q.2 k j e o
    · have m := List.mem_of_getElem? e
      rcases q.1 with z | ⟨i, z⟩
      · exact nT a m z
      · exact F.dis i a z (.inr m)
  · rcases ownA_some ho with ⟨j, e, o⟩ | ⟨⟨m, e⟩, _⟩
    · rw [hr k (.inl ⟨j, e⟩)] at hf
      cases hf
    · rw [hr k (.inr ⟨m, e⟩)] at hf
      cases hf
/-- behind the call, told of the start ahead of the arguments -/
theorem caller_frame (x0 : Ext rf σ O0 H0 σ O H) (F : FRel g rf dm (LT L0 ts) xs O H σ env) (nT : ∀ b, some b ∈ ts → H0 b = none) (one : OneRaw args) (h : AR g (LL (LT L0 ts) O) H σ args ds vs ts) (hg : gather args ds env = some vals)
    (x : Ext (fun _ => true) [] (ownA args ts O) H [] A' H') {Y : Addr → Prop} (hY : ∀ a, Y a → H a = none) (F' : FRel g rfc (domH H) (fun a => forbA args L0 O a ∨ Y a) noX A' H' (vs.map some) (outs.map some)) (nT0 : ∀ b, some b ∈ ts → ¬ L0 b) :
    Ext rf σ O0 H0 σ (ownB args O A') H' ∧ FRel g rf dm (fun a => L0 a ∨ Y a) xs (ownB args O A') H' σ (back args outs env) ∧ (∀ a, LL (fun a => L0 a ∨ Y a) (ownB args O A') a → LL (fun a => forbA args L0 O a ∨ Y a) A' a) := by
  obtain ⟨l1, l2, l3, hk⟩ := AR.vals h hg
  have F0 : FRel g rf dm L0 xs O H σ env := F.less fun a z => .inl z
  have sub : ∀ j, ownB args O A' j = none ∨ ownB args O A' j = O j := fun j => by
    by_cases hx : ∃ k : Nat, args[k]? = some (Arg.r j)
    · obtain ⟨k, e⟩ := hx
      rw [ownB_r one e]
      rcases (x.stab k rfl).2 with z | z
      · exact .inl z
      · exact .inr (by rw [z, ownA_r e])
    · exact .inr (ownB_n fun k e => hx ⟨k, e⟩)
  have subO : ∀ j a, ownB args O A' j = some a → O j = some a := fun j a e => by
    rcases sub j with z | z
    · rw [z] at e; cases e
    · rw [← z]; exact e
  have keep : ∀ a o, H a = some o → some a ∉ ts → (∀ (k j : Nat), args[k]? = some (Arg.r j) → O j ≠ some a) → H' a = some o := fun a o e nt n => (x.keep a o e fun k z => by
    rcases ownA_some z with ⟨j, e1, e2⟩ | ⟨_, e2⟩
    · exact n k j e1 e2
    · exact nt (List.mem_of_getElem? e2)).1
  have forb : ∀ a, LL (fun a => L0 a ∨ Y a) (ownB args O A') a → LL (fun a => forbA args L0 O a ∨ Y a) A' a := fun a z => by
    rcases z with (z | z) | ⟨j, e⟩
    · exact .inl (.inl ⟨.inl z, fun k j e o => F0.dis j a o z⟩)
    · exact .inl (.inr z)
    · by_cases hx : ∃ k : Nat, args[k]? = some (Arg.r j)
      · obtain ⟨k, e1⟩ := hx
        rw [ownB_r one e1] at e
        exact .inr ⟨k, e⟩
      · have e1 := e
        rw [ownB_n fun k e => hx ⟨k, e⟩] at e1
        refine .inl (.inl ⟨.inr ⟨j, e1⟩, fun k j' e2 o => ?_⟩)
        have := F.inj j j' a e1 o
        subst this
        exact hx ⟨k, e2⟩
  have notT : ∀ j a, O j = some a → some a ∉ ts := fun j a e m => F.dis j a e (.inr m)
  have ext : Ext rf σ O0 H0 σ (ownB args O A') H' := ⟨fun a o e n => by
      obtain ⟨e1, n1⟩ := x0.keep a o e n
      exact ⟨keep a o e1 (fun m => by rw [nT a m] at e; cases e) fun k j _ z => n1 j z, fun j z => n1 j (subO j a z)⟩, fun j hj => ⟨rfl, by
      rcases sub j with z | z
      · exact .inl z
      · rw [z]; exact (x0.stab j hj).2⟩, fun a o e => by
      obtain ⟨o1, e1⟩ := x0.old a o e
      exact x.old a o1 e1⟩
  refine ⟨ext, ⟨by rw [back_len]; exact F.len, fun j => ?_, fun i j a hi hj => F.inj i j a (subO i a hi) (subO j a hj), fun j a e z => z.elim (F0.dis j a (subO j a e)) fun z => ?_, fun a z => ?_, fun a z => ?_, fun j a hf e => F.own j a hf (subO j a e)⟩, forb⟩
  · by_cases hx : ∃ k : Nat, args[k]? = some (Arg.r j)
    · obtain ⟨k, e⟩ := hx
      obtain ⟨w, v, h1, h2, hx, h3, h4, _⟩ := (hk k).2.1 j e
      have hj : j < env.length := (List.getElem?_eq_some_iff.mp h2).1
      have lo : outs.length = vs.length := by simpa using F'.len
      have hkv : k < vs.length := (List.getElem?_eq_some_iff.mp h3).1
      have ho : outs[k]? = some outs[k] := List.getElem?_eq_getElem (by omega)
      rw [back_at args outs env one e ho hj, ownB_r one e, h4]
      have s := F'.sl k
      rw [List.getElem?_map, List.getElem?_map, h3, ho] at s
      have less : XT (LL (fun a => forbA args L0 O a ∨ Y a) A') H' (LL (fun a => L0 a ∨ Y a) (ownB args O A')) H' := XT.less forb
      generalize outs[k] = w' at s
      cases w' with
      | p d =>
        obtain ⟨e0, v', ev, r⟩ := s
        exact ⟨e0, v', ev, Rep.mono less d v' r⟩
      | ml ds =>
        obtain ⟨a, us, e0, ev, ha, z, r⟩ := s
        exact ⟨a, us, e0, ev, ha, z, Reps.mono less ds us r⟩
      | x e =>
        obtain ⟨e0, a, dd, vfs, us, ev, hh, _⟩ := s
        cases hh
    · have hn : ∀ k : Nat, args[k]? ≠ some (Arg.r j) := fun k e => hx ⟨k, e⟩
      rw [back_ne args outs env hn, ownB_n hn]
      have xt : XT (LL (LT L0 ts) O) H (LL (fun a => L0 a ∨ Y a) (ownB args O A')) H' := fun b u e n => by
        have nt : some b ∉ ts := fun m => n (.inl (.inr m))
        have nO : ∀ i, O i ≠ some b := fun i q => n (.inr ⟨i, q⟩)
        refine ⟨keep b u e nt fun k j _ z => nO j z, fun z => ?_⟩
        rcases z with (z | z) | ⟨i, z⟩
        · exact n (.inl (.inl z))
        · rw [hY b z] at e; cases e
        · exact nO i (subO i b z)
      refine SR.mono xt (fun a u e ha => ?_) (F.sl j)
      refine keep a u ha (notT j a e) fun k j' e1 o => ?_
      have := F.inj j j' a e o
      subst this
      exact hn k e1
  · obtain ⟨o, e⟩ := F0.trk a (.inr ⟨j, subO j a e⟩)
    rw [hY a z] at e; cases e
  · rcases z with z | z
    · obtain ⟨o, e⟩ := F0.lok a z
      exact ⟨o, keep a o e (fun m => nT0 a m z) fun k j _ q => F0.dis j a q z⟩
    · exact F'.lok a (.inr z)
  · obtain ⟨o, e⟩ := F.dom a z
    exact x.old a o e
end
section
variable {X : Cx} {C : Cy} {k n : Nat} {f : Addr} {fd : FuncData} {ps : List Str} {x : Str} {p pos : Pos} {e : Expr} {es : List Expr} {args : List Arg} {F : Fn} {rfc : Nat → Bool} {fresh : Bool}
theorem no_more {L : Addr → Prop} : (fun a => L a ∨ False) = L := funext fun a => propext ⟨fun h => h.elim id False.elim, .inl⟩
theorem call_ex {L0 : Addr → Prop} {O0 O A' : Own} {H0 H H' : Hp} {σ : L2.St} {env : Env} {ds : List AV} {vs : List V} {ts : List (Option Addr)} {vals outs : List Val} (one : OneRaw args) (x0 : Ext C.rf σ O0 H0 σ O H) (F0 : C.F (LT L0 ts) O H σ env) (nT : ∀ b, some b ∈ ts → H0 b = none) (nT0 : ∀ b, some b ∈ ts → ¬ L0 b) (ar : AR C.g (LL (LT L0 ts) O) H σ args ds vs ts) (hg : gather args ds env = some vals)
    (x' : Ext (fun _ => true) [] (ownA args ts O) H [] A' H') (F' : FRel C.g rfc (domH H) (forbA args L0 O) noX A' H' (vs.map some) (outs.map some)) :
    Ext C.rf σ O0 H0 σ (ownB args O A') H' ∧ C.F L0 (ownB args O A') H' σ (back args outs env) ∧ (∀ a, LL L0 (ownB args O A') a → LL (forbA args L0 O) A' a) := by
  have F2 : FRel C.g rfc (domH H) (fun a => forbA args L0 O a ∨ False) noX A' H' (vs.map some) (outs.map some) := by rw [no_more]; exact F'
  have h := caller_frame x0 F0 nT one ar hg x' (Y := fun _ => False) (fun a z => z.elim) F2 nT0
  rw [no_more, no_more] at h
  exact h
/-- the promise asked at a call whose end is not a new list -/
theorem call_end {L0 : Addr → Prop} {O0 O : Own} {H0 H : Hp} {σ : L2.St} {env : Env} {ds : List AV} {vs : List V} {ts : List (Option Addr)} {Q : VK} (one : OneRaw args) (hr : ∀ k, rawA args k → rfc k = true) (hn : args.length = n) (x0 : Ext C.rf σ O0 H0 σ O H) (nw : Nw H0 ts) (nT0 : ∀ b, some b ∈ ts → ¬ L0 b)
    (F0 : C.F (LT L0 ts) O H σ env) (ar : AR C.g (LL (LT L0 ts) O) H σ args ds vs ts) (hp : Post C L0 O0 H0 σ (after F args some (gather args ds env) env) fun d _ O' H' => ∀ v, Rep C.g (LL L0 O') H' d v → Q v H') :
    spF C.g n rfc fresh F vs H Q (fun cls d H' => C.W cls d σ H') := by
  cases hg : gather args ds env with
  | none => rw [hg] at hp; exact hp.elim
  | some vals =>
    rw [hg] at hp
    unfold after at hp
    dsimp only at hp
    have cf := callee_frame F0 nT0 nw.2 one hr ar hg
    obtain ⟨l1, l2, l3, hk⟩ := AR.vals ar hg
    refine ⟨forbA args L0 O, ownA args ts O, vals, by rw [l2, hn], cf, ?_⟩
    cases hF : F vals with
    | bad => rw [hF] at hp; exact hp.elim
    | ex y outs =>
      rw [hF] at hp
      intro cls dd A' H' x' F' xr
      obtain ⟨ext, F2, sub⟩ := call_ex one x0 F0 nw.1 nT0 ar hg x' F'
      refine hp cls dd _ H' ext F2 ?_
      obtain ⟨e1, dd', vfs, us, e2, h1, nl, fo, r⟩ := xr
      exact ⟨e1, dd', vfs, us, e2, h1, fun z => nl (sub _ z), fo, Reps.mono (XT.less sub) _ _ r⟩
    | ok d outs =>
      rw [hF] at hp
      dsimp only at hp
      have nrm : ∀ v A' H', Ext (fun _ => true) [] (ownA args ts O) H [] A' H' → FRel C.g rfc (domH H) (forbA args L0 O) noX A' H' (vs.map some) (outs.map some) → Rep C.g (LL (forbA args L0 O) A') H' d v → Q v H' := fun v A' H' x' F' res => by
        obtain ⟨ext, F2, sub⟩ := call_ex one x0 F0 nw.1 nT0 ar hg x' F'
        exact hp _ H' ext F2 v (Rep.mono (XT.less sub) d v res)
      show retOk C.g rfc fresh (forbA args L0 O) (ownA args ts O) H vs outs d Q
      cases fresh with
      | false => exact nrm
      | true =>
        cases d with
        | lst xs =>
          intro a us A' H' x' FA h0 h1 z r
          have F' := FA.less (L0 := forbA args L0 O) fun b z => .inl z
          have n : ¬ LL (forbA args L0 O) A' a := fun q => q.elim (fun q => (cf.fresh h0).1 (.inl q)) fun ⟨i, e⟩ => FA.dis i a e (.inr rfl)
          exact nrm (.ref a) A' H' x' F' ⟨a, us, rfl, ⟨⟨.inl h1, n⟩, z⟩, Reps.mono (XT.less fun b q => LA.ll q) xs us r⟩
        | _ => exact nrm
/-- .. whose end is a new list -/
theorem call_endF {L0 : Addr → Prop} {O0 O : Own} {H0 H : Hp} {σ : L2.St} {env : Env} {ds : List AV} {vs : List V} {ts : List (Option Addr)} {Q : VK} (one : OneRaw args) (hr : ∀ k, rawA args k → rfc k = true) (hn : args.length = n) (x0 : Ext C.rf σ O0 H0 σ O H) (nw : Nw H0 ts) (nT0 : ∀ b, some b ∈ ts → ¬ L0 b)
    (F0 : C.F (LT L0 ts) O H σ env) (ar : AR C.g (LL (LT L0 ts) O) H σ args ds vs ts)
    (hp : Post C L0 O0 H0 σ (after F args lstD (gather args ds env) env) fun ds e O' H' => ∀ a vs, H0 a = none → H' a = some (.lst vs) → C.F (LA L0 a) O' H' σ e → vs.length ≤ sizeLine → Reps C.g (LL (LA L0 a) O') H' ds vs → Q (.ref a) H') :
    spF C.g n rfc true F vs H Q (fun cls d H' => C.W cls d σ H') := by
  cases hg : gather args ds env with
  | none => rw [hg] at hp; exact hp.elim
  | some vals =>
    rw [hg] at hp
    unfold after at hp
    dsimp only at hp
    have cf := callee_frame F0 nT0 nw.2 one hr ar hg
    obtain ⟨l1, l2, l3, hk⟩ := AR.vals ar hg
    refine ⟨forbA args L0 O, ownA args ts O, vals, by rw [l2, hn], cf, ?_⟩
    cases hF : F vals with
    | bad => rw [hF] at hp; exact hp.elim
    | ex y outs =>
      rw [hF] at hp
      intro cls dd A' H' x' F' xr
      obtain ⟨ext, F2, sub⟩ := call_ex one x0 F0 nw.1 nT0 ar hg x' F'
      refine hp cls dd _ H' ext F2 ?_
      obtain ⟨e1, dd', vfs, us, e2, h1, nl, fo, r⟩ := xr
      exact ⟨e1, dd', vfs, us, e2, h1, fun z => nl (sub _ z), fo, Reps.mono (XT.less sub) _ _ r⟩
    | ok d outs =>
      rw [hF] at hp
      dsimp only at hp
      show retOk C.g rfc true (forbA args L0 O) (ownA args ts O) H vs outs d Q
      cases d with
      | lst xs =>
        intro a us A' H' x' FA h0 h1 z r
        have F' := FA.less (L0 := forbA args L0 O) fun b z => .inl z
        obtain ⟨ext, F2, _⟩ := call_ex one x0 F0 nw.1 nT0 ar hg x' F'
        obtain ⟨_, F3, sub⟩ := caller_frame x0 F0 nw.1 one ar hg x' (Y := fun b => b = a) (fun b z => by rw [z]; exact h0) FA nT0
        exact hp _ H' ext F2 a us (x0.none h0) h1 F3 z (Reps.mono (XT.less sub) xs us r)
      | _ => exact hp.elim
theorem temps_new {L0 : Addr → Prop} {O : Own} {H : Hp} {σ : L2.St} {env : Env} {ts : List (Option Addr)} (F : C.F L0 O H σ env) (nw : Nw H ts) : ∀ b, some b ∈ ts → ¬ L0 b := fun b hb z => by
  obtain ⟨o, e⟩ := FRel.lok F b z
  rw [nw.1 b hb] at e; cases e
theorem pd_call (G : FnOk X.prog X.w X.K X.mg X.base (L2.CX X.prog X.w) k f fd ps (spF C.g n rfc fresh F)) (hr : Room k X.A) (hg : Gl X x) (hm : X.mg x = some (.ref f)) (hk : PySem.W.keepIn X.K (.ref f) = true) (hb : Binds X.K fd ps []) (tk : Takes X C.W)
    (hd : (x == ("__debug__" : Str)) = false) (hs : (e :: es).all notStar = true) (one : OneRaw args) (hrf : ∀ k, rawA args k → rfc k = true) (hn : args.length = n) (ha : PA X (e :: es) (EvAr C args)) :
    PE X (.Call (.Name x p) (e :: es) [] pos) (EvE C (mCall F args)) := by
  have hs2 := hs
  rw [List.all_cons, Bool.and_eq_true] at hs2
  refine (pe_callS (E := fun σ cls d H => C.W cls d σ H) G hr hg hm hk hb (fun σ => passAt tk σ) ha hd (starEach_cons hs2.1) (plain_all hs2.2)).weak fun σ H Q ⟨L0, O, env, F0, h⟩ => ?_
  exact ⟨L0, O, env, F0, (Post.bind0 h).imp fun ds e1 O1 H1 x1 F1 h1 vs ts nw FT ar => call_end one hrf hn x1 nw (temps_new F0 nw) FT ar h1⟩
theorem pd_callF (G : FnOk X.prog X.w X.K X.mg X.base (L2.CX X.prog X.w) k f fd ps (spF C.g n rfc true F)) (hr : Room k X.A) (hg : Gl X x) (hm : X.mg x = some (.ref f)) (hk : PySem.W.keepIn X.K (.ref f) = true) (hb : Binds X.K fd ps []) (tk : Takes X C.W)
    (hd : (x == ("__debug__" : Str)) = false) (hs : (e :: es).all notStar = true) (one : OneRaw args) (hrf : ∀ k, rawA args k → rfc k = true) (hn : args.length = n) (ha : PA X (e :: es) (EvAr C args)) :
    PE X (.Call (.Name x p) (e :: es) [] pos) (EvF C (mCallF F args)) := by
  have hs2 := hs
  rw [List.all_cons, Bool.and_eq_true] at hs2
  refine (pe_callS (E := fun σ cls d H => C.W cls d σ H) G hr hg hm hk hb (fun σ => passAt tk σ) ha hd (starEach_cons hs2.1) (plain_all hs2.2)).weak fun σ H Q ⟨L0, O, env, F0, h⟩ => ?_
  exact ⟨L0, O, env, F0, (Post.bind0 h).imp fun ds e1 O1 H1 x1 F1 h1 vs ts nw FT ar => call_endF one hrf hn x1 nw (temps_new F0 nw) FT ar h1⟩
end
end MP

/-! MP, part F: statements, loops, comprehensions. -/
namespace MP
open L2 PyProof.Rows PySem PySem.Spec

/-- how a statement ends; rtf: a list just made comes back; rtx: the list that a slot owns -/
inductive Fl where
  | nx | rt (d : D) | rtf (xs : List D) | rtx (i : Nat) (xs : List D) | bk | ct
abbrev MS := Env → R Fl
def FlOk (C : Cy) (L0 : Addr → Prop) (O : Own) (H : Hp) (σ : L2.St) (e : Env) (D : Ends) : Fl → Prop
  | .nx => D.nx σ H
  | .bk => D.bk σ H
  | .ct => D.ct σ H
  | .rt d => ∀ v, Rep C.g (LL L0 O) H d v → D.rt v H
  | .rtf xs => ∀ a vs, ¬ C.dm a → H a = some (.lst vs) → C.F (LA L0 a) O H σ e → vs.length ≤ sizeLine → Reps C.g (LL (LA L0 a) O) H xs vs → D.rt (.ref a) H
  | .rtx i xs => ∀ a vs, C.rf i = false → O i = some a → H a = some (.lst vs) → vs.length ≤ sizeLine → Reps C.g (LL L0 O) H xs vs → D.rt (.ref a) H
def PostS (C : Cy) (L0 : Addr → Prop) (O : Own) (H : Hp) (σ : L2.St) (r : R Fl) (D : Ends) : Prop :=
  match r with
  | .ok fl e => ∀ σ' O' H', Ext C.rf σ O H σ' O' H' → C.F L0 O' H' σ' e → FlOk C L0 O' H' σ' e D fl
  | .ex x e => ∀ cls dd σ' O' H', Ext C.rf σ O H σ' O' H' → C.F L0 O' H' σ' e → XR C.g (LL L0 O') H' x cls dd → C.W cls dd σ' H'
  | .bad => False
def EvS (C : Cy) (m : MS) : TS := fun D σ H => ∃ L0 O env, C.F L0 O H σ env ∧ PostS C L0 O H σ (m env) D
theorem _root_.L2.PS.weak {X : Cx} {s : Stmt} {t t' : TS} (h : PS X s t) (k : ∀ D σ H, t' D σ H → t D σ H) : PS X s t' := ⟨fun pins s σ H D I q => h.run pins s σ H D I (k D σ H q)⟩
theorem _root_.L2.PSs.weak {X : Cx} {s : List Stmt} {t t' : TS} (h : PSs X s t) (k : ∀ D σ H, t' D σ H → t D σ H) : PSs X s t' := ⟨fun pins s σ H D I q => h.run pins s σ H D I (k D σ H q)⟩
section
variable {C : Cy} {L0 : Addr → Prop} {O O1 : Own} {H H1 : Hp} {σ σ1 : L2.St} {env : Env} {D : Ends}
theorem PostS.at {r : R Fl} (h : PostS C L0 O H σ r D) (x : Ext C.rf σ O H σ1 O1 H1) : PostS C L0 O1 H1 σ1 r D := by
  cases r with
  | ok a e => exact fun σ' O' H' y F => h σ' O' H' (x.trans y) F
  | ex a e => exact fun c d σ' O' H' y F k => h c d σ' O' H' (x.trans y) F k
  | bad => exact h
theorem PostS.here {fl : Fl} (h : PostS C L0 O H σ (.ok fl env) D) (F : C.F L0 O H σ env) : FlOk C L0 O H σ env D fl := h σ O H Ext.refl F
/-- an expression, then a statement -/
def sE {α : Type} (m : M α) (f : α → MS) : MS := fun e => match m e with
  | .ok a e' => f a e'
  | .ex x e' => .ex x e'
  | .bad => .bad
theorem PostS.bindE {α : Type} {m : M α} {f : α → MS} (h : PostS C L0 O H σ (sE m f env) D) : Post C L0 O H σ (m env) fun a e O' H' => PostS C L0 O' H' σ (f a e) D := by
  unfold sE at h
  cases e : m env with
  | ok a e' => rw [e] at h; exact fun O' H' y F => PostS.at h y
  | ex a e' => rw [e] at h; exact fun c d O' H' y F k => h c d σ O' H' y F k
  | bad => rw [e] at h; exact h
end
def sNx : MS := fun e => .ok .nx e
def sSeq (a b : MS) : MS := fun e => match a e with
  | .ok .nx e' => b e'
  | .ok fl e' => .ok fl e'
  | .ex x e' => .ex x e'
  | .bad => .bad
def sIf (c : M Bool) (a b : MS) : MS := sE c fun t => if t then a else b
def sBk : MS := fun e => .ok .bk e
def sCt : MS := fun e => .ok .ct e
def sRet (m : M D) : MS := sE m fun d e => .ok (.rt d) e
def sRetN : MS := fun e => .ok (.rt .non) e
def sDrop (m : M D) : MS := sE m fun _ => sNx
section
variable {X : Cx} {C : Cy} {pos : Pos}
theorem qs_nil : PSs X [] (EvS C sNx) := pss_nil.weak fun D σ H ⟨L0, O, env, F, h⟩ => h.here F
theorem qs_one {s : Stmt} {m : MS} (h : PS X s (EvS C m)) : PSs X [s] (EvS C m) := pss_one h
theorem qs_cons {s : Stmt} {ss : List Stmt} {a b : MS} (h1 : PS X s (EvS C a)) (h2 : PSs X ss (EvS C b)) : PSs X (s :: ss) (EvS C (sSeq a b)) := (pss_cons h1 h2).weak fun D σ H ⟨L0, O, env, F, h⟩ => by
  refine ⟨L0, O, env, F, ?_⟩
  unfold sSeq at h
  cases e : a env with
  | ok fl e' =>
    rw [e] at h
    intro σ' O' H' x F'
    cases fl with
    | nx => exact ⟨L0, O', e', F', PostS.at h x⟩
    | rt d => exact h σ' O' H' x F'
    | rtf d => exact h σ' O' H' x F'
    | rtx i d => exact h σ' O' H' x F'
    | bk => exact h σ' O' H' x F'
    | ct => exact h σ' O' H' x F'
  | ex y e' => rw [e] at h; exact h
  | bad => rw [e] at h; exact h
theorem qs_pass : PS X (.Pass pos) (EvS C sNx) := ps_pass.weak fun D σ H ⟨L0, O, env, F, h⟩ => h.here F
theorem qs_doc {x j pos'} : PS X (.Expr (.Constant (.str x) j pos) pos') (EvS C sNx) := ps_doc.weak fun D σ H ⟨L0, O, env, F, h⟩ => h.here F
theorem qs_break : PS X (.Break pos) (EvS C sBk) := ps_break.weak fun D σ H ⟨L0, O, env, F, h⟩ => h.here F
theorem qs_continue : PS X (.Continue pos) (EvS C sCt) := ps_continue.weak fun D σ H ⟨L0, O, env, F, h⟩ => h.here F
theorem qs_if {c : Expr} {a b : List Stmt} {mc : M Bool} {ma mb : MS} (hc : L2.PT X c (EvT C mc)) (ha : PSs X a (EvS C ma)) (hb : PSs X b (EvS C mb)) : PS X (.If c a b pos) (EvS C (sIf mc ma mb)) := (ps_if hc ha hb).weak fun D σ H ⟨L0, O, env, F, h⟩ =>
  ⟨L0, O, env, F, (PostS.bindE h).imp fun t e1 O1 H1 x1 F1 h1 => by
    cases t with
    | true => exact ⟨L0, O1, e1, F1, h1⟩
    | false => exact ⟨L0, O1, e1, F1, h1⟩⟩
theorem qs_ret {e : Expr} {m : M D} (he : PE X e (EvE C m)) : PS X (.Return (some e) pos) (EvS C (sRet m)) := (ps_ret he).weak fun D σ H ⟨L0, O, env, F, h⟩ =>
  ⟨L0, O, env, F, (PostS.bindE h).imp fun d e1 O1 H1 x1 F1 h1 => h1.here F1⟩
theorem qs_retN : PS X (.Return none pos) (EvS C sRetN) := ps_retN.weak fun D σ H ⟨L0, O, env, F, h⟩ => h.here F .non rfl
def notComp : Expr → Bool
  | .ListComp .. => false
  | .SetComp .. => false
  | .DictComp .. => false
  | _ => true
theorem swaps_no {e : Expr} {t : Option Expr} {l : Nat} {env : PySem.Env} (h : notComp e = true) : swapsWith e t l env = pure false := by
  unfold swapsWith
  cases e <;> first | rfl | (simp [notComp] at h)
theorem qs_drop {e : Expr} {m : M D} (hc : notComp e = true) (he : PE X e (EvE C m)) : PS X (.Expr e pos) (EvS C (sDrop m)) := (ps_expr he (swaps_no hc)).weak fun D σ H ⟨L0, O, env, F, h⟩ =>
  ⟨L0, O, env, F, (PostS.bindE h).imp fun d e1 O1 H1 x1 F1 h1 v _ => h1.here F1⟩
end

/-! ### stores to a name -/
section
variable {g : G} {rf : Nat → Bool} {dm L0 : Addr → Prop} {xs : XTab} {O : Own} {H : Hp} {σ : L2.St} {env : Env}
theorem Ext.set {i : Nat} {v : Option V} (hi : rf i = false) : Ext rf σ O H (σ.set i v) (offO O i) H := ⟨fun a o h n => ⟨h, fun j e => n j (offO_some e).2⟩, fun j hj => by
  have ne : j ≠ i := fun e => by rw [e, hi] at hj; cases hj
  exact ⟨List.getElem?_set_ne (Ne.symm ne), .inr (offO_ne ne)⟩, fun a o h => ⟨o, h⟩⟩
theorem offO_less {i : Nat} {a : Addr} (h : LL L0 (offO O i) a) : LL L0 O a := h.elim .inl fun ⟨j, e⟩ => .inr ⟨j, (offO_some e).2⟩
theorem FRel.set {i : Nat} {d : D} {v : V} (F : FRel g rf dm L0 xs O H σ env) (r : Rep g (LL L0 O) H d v) : FRel g rf dm L0 xs (offO O i) H (σ.set i (some v)) (env.set i (some (.p d))) := by
  have less : XT (LL L0 O) H (LL L0 (offO O i)) H := XT.less fun a z => offO_less z
  refine ⟨by rw [List.length_set, List.length_set]; exact F.len, fun j => ?_, fun j k b p q => F.inj j k b (offO_some p).2 (offO_some q).2, fun j b p => F.dis j b (offO_some p).2, F.lok, F.dom, fun j b p q => F.own j b p (offO_some q).2⟩
  by_cases e : j = i
  · subst e
    rw [offO_same]
    by_cases hl : j < env.length
    · rw [List.getElem?_set_self hl, List.getElem?_set_self (by rw [← F.len]; exact hl)]
      exact ⟨rfl, v, rfl, Rep.mono less d v r⟩
    · rw [List.getElem?_eq_none (by simpa using hl)]
      rfl
  · rw [List.getElem?_set_ne (Ne.symm e), List.getElem?_set_ne (Ne.symm e), offO_ne e]
    exact SR.mono less (fun _ _ _ q => q) (F.sl j)
theorem FRel.setNone {i : Nat} (F : FRel g rf dm L0 xs O H σ env) : FRel g rf dm L0 xs (offO O i) H (σ.set i none) (env.set i none) := by
  have less : XT (LL L0 O) H (LL L0 (offO O i)) H := XT.less fun a z => offO_less z
  refine ⟨by rw [List.length_set, List.length_set]; exact F.len, fun j => ?_, fun j k b p q => F.inj j k b (offO_some p).2 (offO_some q).2, fun j b p => F.dis j b (offO_some p).2, F.lok, F.dom, fun j b p q => F.own j b p (offO_some q).2⟩
  by_cases e : j = i
  · subst e
    rw [offO_same]
    by_cases hl : j < env.length
    · rw [List.getElem?_set_self hl]
      rfl
    · rw [List.getElem?_eq_none (by simpa using hl)]
      rfl
  · rw [List.getElem?_set_ne (Ne.symm e), List.getElem?_set_ne (Ne.symm e), offO_ne e]
    exact SR.mono less (fun _ _ _ q => q) (F.sl j)
def onO (O : Own) (i : Nat) (a : Addr) : Own := fun j => if j = i then some a else O j
theorem onO_some {i j : Nat} {a b : Addr} (h : onO O i a j = some b) : (j = i ∧ b = a) ∨ (j ≠ i ∧ O j = some b) := by
  unfold onO at h
  by_cases e : j = i
  · rw [if_pos e] at h; cases h; exact .inl ⟨e, rfl⟩
  · rw [if_neg e] at h; exact .inr ⟨e, h⟩
/-- a new list comes to be a slot's own -/
theorem FRel.setF {i : Nat} {ds : List D} {a : Addr} {vs : List V} (F : FRel g rf dm (LA L0 a) xs O H σ env) (hi : i < env.length) (h : H a = some (.lst vs)) (n0 : ¬ L0 a) (nd : ¬ dm a) (z : vs.length ≤ sizeLine) (r : Reps g (LL (LA L0 a) O) H ds vs) :
    FRel g rf dm L0 xs (onO O i a) H (σ.set i (some (.ref a))) (env.set i (some (.ml ds))) := by
  have sub : ∀ b, LL L0 (onO O i a) b → LL (LA L0 a) O b := fun b q => by
    rcases q with q | ⟨j, e⟩
    · exact .inl (.inl q)
    · rcases onO_some e with ⟨_, e⟩ | ⟨_, e⟩
      · exact .inl (.inr e)
      · exact .inr ⟨j, e⟩
  have less : XT (LL (LA L0 a) O) H (LL L0 (onO O i a)) H := XT.less sub
  refine ⟨by rw [List.length_set, List.length_set]; exact F.len, fun j => ?_, fun j k b p q => ?_, fun j b p => ?_, fun b q => F.lok b (.inl q), F.dom, fun j b p q => ?_⟩
  · by_cases e : j = i
    · subst e
      rw [List.getElem?_set_self hi, List.getElem?_set_self (by rw [← F.len]; exact hi)]
      exact ⟨a, vs, if_pos rfl, rfl, h, z, Reps.mono less ds vs r⟩
    · rw [List.getElem?_set_ne (Ne.symm e), List.getElem?_set_ne (Ne.symm e)]
      have eo : onO O i a j = O j := if_neg e
      rw [eo]
      exact SR.mono less (fun _ _ _ q => q) (F.sl j)
  · rcases onO_some p with ⟨p1, p2⟩ | ⟨p1, p2⟩
    · rcases onO_some q with ⟨q1, q2⟩ | ⟨q1, q2⟩
      · rw [p1, q1]
      · exact absurd (.inr p2) (F.dis k b q2)
    · rcases onO_some q with ⟨q1, q2⟩ | ⟨q1, q2⟩
      · exact absurd (.inr q2) (F.dis j b p2)
      · exact F.inj j k b p2 q2
  · rcases onO_some p with ⟨_, p2⟩ | ⟨_, p2⟩
    · rw [p2]; exact n0
    · exact fun z => F.dis j b p2 (.inl z)
  · rcases onO_some q with ⟨_, p2⟩ | ⟨_, p2⟩
    · rw [p2]; exact nd
    · exact F.own j b p p2
end
def sSet (i : Nat) (m : M D) : MS := sE m fun d e => .ok .nx (e.set i (some (.p d)))
def sSetF (i : Nat) (m : M (List D)) : MS := sE m fun ds e => if i < e.length then .ok .nx (e.set i (some (.ml ds))) else .bad
section
variable {X : Cx} {C : Cy} {pos : Pos}
theorem qs_set {i : Nat} {x : Str} {e : Expr} {m : M D} {pos' : Pos} (hN : X.N.Nodup) (hi : X.N[i]? = some x) (hx : Loc X.env.scope x) (hc : notComp e = true) (hf : X.fn x = true ∨ X.env.scope.names.lookup x = some .local) (hr : C.rf i = false) (he : PE X e (EvE C m)) :
    PS X (.Assign [.Name x pos'] e pos) (EvS C (sSet i m)) := (ps_set hN hi hx he (swaps_no hc) hf).weak fun D σ H ⟨L0, O, env, F, h⟩ =>
  ⟨L0, O, env, F, (PostS.bindE h).imp fun d e1 O1 H1 x1 F1 h1 v rv => h1 _ _ _ (Ext.set hr) (F1.set rv)⟩
theorem setF_end {i : Nat} {L0 : Addr → Prop} {O O1 : Own} {H H1 : Hp} {σ : L2.St} {env e1 : Env} {En : Ends} {ds : List D} {a : Addr} {vs : List V} (hr : C.rf i = false) (F : C.F L0 O H σ env) (x1 : Ext C.rf σ O H σ O1 H1) (F1 : C.F L0 O1 H1 σ e1)
    (h1 : PostS C L0 O H σ (if i < e1.length then .ok .nx (e1.set i (some (.ml ds))) else .bad) En) (h0 : H a = none) (ha : H1 a = some (.lst vs)) (FA : C.F (LA L0 a) O1 H1 σ e1) (z : vs.length ≤ sizeLine) (r : Reps C.g (LL (LA L0 a) O1) H1 ds vs) : En.nx (σ.set i (some (.ref a))) H1 := by
  by_cases hi : i < e1.length
  · rw [if_pos hi] at h1
    have n := F.fresh h0
    have F2 := FA.setF hi ha (fun q => n.1 (.inl q)) n.2 z r
    refine h1 _ _ _ ⟨fun b o e nb => ?_, fun j hj => ?_, fun b o e => x1.old b o e⟩ F2
    · obtain ⟨e2, n2⟩ := x1.keep b o e nb
      refine ⟨e2, fun j q => ?_⟩
      rcases onO_some q with ⟨_, q⟩ | ⟨_, q⟩
      · rw [q, h0] at e; cases e
      · exact n2 j q
    · have ne : j ≠ i := fun e => by rw [e, hr] at hj; cases hj
      refine ⟨List.getElem?_set_ne (Ne.symm ne), ?_⟩
      have eo : onO O1 i a j = O1 j := if_neg ne
      rw [eo]
      exact (x1.stab j hj).2
  · rw [if_neg hi] at h1; exact h1.elim
/-- the end of an expression, told of its start (a new list is new to the start) -/
theorem PostS.bindF {L0 : Addr → Prop} {O : Own} {H : Hp} {σ : L2.St} {env : Env} {D : Ends} {α : Type} {m : M α} {f : α → MS} (h : PostS C L0 O H σ (sE m f env) D) :
    Post C L0 O H σ (m env) fun a e O' H' => PostS C L0 O H σ (f a e) D := by
  unfold sE at h
  cases e : m env with
  | ok a e' => rw [e] at h; exact fun O' H' y F => h
  | ex a e' => rw [e] at h; exact fun c d O' H' y F k => h c d σ O' H' y F k
  | bad => rw [e] at h; exact h
theorem qs_setF {i : Nat} {x : Str} {e : Expr} {m : M (List D)} {pos' : Pos} (hN : X.N.Nodup) (hi : X.N[i]? = some x) (hx : Loc X.env.scope x) (hc : notComp e = true) (hf : X.fn x = true ∨ X.env.scope.names.lookup x = some .local) (hr : C.rf i = false) (he : PE X e (EvF C m)) :
    PS X (.Assign [.Name x pos'] e pos) (EvS C (sSetF i m)) := (ps_set hN hi hx he (swaps_no hc) hf).weak fun D σ H ⟨L0, O, env, F, h⟩ =>
  ⟨L0, O, env, F, (PostS.bindF h).imp fun ds e1 O1 H1 x1 F1 h1 a vs h0 ha FA z r => setF_end hr F x1 F1 h1 h0 ha FA z r⟩
end

/-! ### changes of a list that a slot owns -/
def ownD (i : Nat) (e : Env) : Option (List D) := match e[i]? with
  | some (some (.ml xs)) => some xs
  | _ => none
section
variable {g : G} {rf : Nat → Bool} {dm L0 : Addr → Prop} {xs : XTab} {O : Own} {H : Hp} {σ : L2.St} {env : Env}
theorem FRel.ownd {i : Nat} {ds : List D} (F : FRel g rf dm L0 xs O H σ env) (h : ownD i env = some ds) : ∃ a vs, O i = some a ∧ σ[i]? = some (some (.ref a)) ∧ H a = some (.lst vs) ∧ vs.length ≤ sizeLine ∧ Reps g (LL L0 O) H ds vs ∧ i < env.length := by
  unfold ownD at h
  split at h
  · rename_i ds' hq
    cases h
    have s := F.sl i
    rw [hq] at s
    obtain ⟨a, vs, e1, e2, h1, z, r⟩ := s
    exact ⟨a, vs, e1, e2, h1, z, r, (List.getElem?_eq_some_iff.mp hq).1⟩
  · cases h
/-- the owned list becomes another -/
theorem FRel.wr {i : Nat} {ds : List D} {a : Addr} {us : List V} (F : FRel g rf dm L0 xs O H σ env) (hO : O i = some a) (hi : i < env.length) (hσ : σ[i]? = some (some (.ref a))) (z : us.length ≤ sizeLine) (r : Reps g (LL L0 O) H ds us) :
    Ext rf σ O H σ O (upd H a (.lst us)) ∧ FRel g rf dm L0 xs O (upd H a (.lst us)) σ (env.set i (some (.ml ds))) := by
  have nL : LL L0 O a := .inr ⟨i, hO⟩
  have x : XT (LL L0 O) H (LL L0 O) (upd H a (.lst us)) := fun b o e n => by
    have ne : b ≠ a := fun q => n (by rw [q]; exact nL)
    exact ⟨by rw [upd_ne ne]; exact e, n⟩
  have ex : ∀ b o, H b = some o → ∃ o', upd H a (.lst us) b = some o' := fun b o e => by
    by_cases q : b = a
    · exact ⟨_, by rw [q]; exact upd_same⟩
    · exact ⟨o, by rw [upd_ne q]; exact e⟩
  refine ⟨⟨fun b o e n => ⟨by rw [upd_ne (fun q => n i (by rw [q]; exact hO))]; exact e, n⟩, fun j _ => ⟨rfl, .inr rfl⟩, ex⟩, ⟨by rw [List.length_set]; exact F.len, fun j => ?_, F.inj, F.dis, fun b q => let ⟨o, e⟩ := F.lok b q; ex b o e, fun b q => let ⟨o, e⟩ := F.dom b q; ex b o e, F.own⟩⟩
  · by_cases e : j = i
    · subst e
      rw [List.getElem?_set_self hi]
      exact ⟨a, us, hO, hσ, upd_same, z, Reps.mono x ds us r⟩
    · rw [List.getElem?_set_ne (Ne.symm e)]
      refine SR.mono x (fun b u ho hb => ?_) (F.sl j)
      have ne : b ≠ a := fun q => by rw [q] at ho; exact e (F.inj j i a ho hO)
      rw [upd_ne ne]; exact hb
end
/-- the slot's list, changed by f, which tells a value, too -/
def mOwn (i : Nat) (f : List D → Option (D × List D)) : M D := fun e => match ownD i e with
  | none => .bad
  | some xs => (match f xs with
    | none => .bad
    | some (d, ys) => .ok d (e.set i (some (.ml ys))))
def chkO (i : Nat) : M Unit := fun e => match e[i]? with
  | some (some (.ml _)) => .ok () e
  | _ => .bad
def mOwn1 (i : Nat) (f : D → List D → Option (D × List D)) (m : M D) : M D := do
  chkO i
  let x ← m
  mOwn i (f x)
/-- r changes a list as f tells -/
def OM0 (g : G) (r : V → List V → Hp → VK → Prop) (f : List D → Option (D × List D)) : Prop := ∀ (L : Addr → Prop) (H : Hp) (ds ys : List D) (d : D) (a : Addr) (vs : List V) (Q : VK), H a = some (.lst vs) → vs.length ≤ sizeLine → Reps g L H ds vs → f ds = some (d, ys) →
  (∀ v us, us.length ≤ sizeLine → Reps g L H ys us → Rep g L H d v → Q v (upd H a (.lst us))) → r (.ref a) [] H Q
def OM1 (g : G) (r : V → List V → Hp → VK → Prop) (f : D → List D → Option (D × List D)) : Prop := ∀ (L : Addr → Prop) (H : Hp) (ds ys : List D) (x d : D) (a : Addr) (vs : List V) (w : V) (Q : VK), H a = some (.lst vs) → vs.length ≤ sizeLine → Reps g L H ds vs → Rep g L H x w → f x ds = some (d, ys) →
  (∀ v us, us.length ≤ sizeLine → Reps g L H ys us → Rep g L H d v → Q v (upd H a (.lst us))) → r (.ref a) [w] H Q
section
variable {X : Cx} {C : Cy}
theorem own_end {i : Nat} {L0 : Addr → Prop} {O : Own} {H : Hp} {σ : L2.St} {env : Env} {f : List D → Option (D × List D)} {Q : VK} {P : Prop} {a : Addr} (F : C.F L0 O H σ env) (h : Post C L0 O H σ (mOwn i f env) fun d _ O' H' => ∀ v, Rep C.g (LL L0 O') H' d v → Q v H')
    (hσ : σ[i]? = some (some (.ref a))) (k : ∀ vs ds ys d, H a = some (.lst vs) → vs.length ≤ sizeLine → Reps C.g (LL L0 O) H ds vs → f ds = some (d, ys) → (∀ v us, us.length ≤ sizeLine → Reps C.g (LL L0 O) H ys us → Rep C.g (LL L0 O) H d v → Q v (upd H a (.lst us))) → P) : P := by
  unfold mOwn at h
  cases eo : ownD i env with
  | none => rw [eo] at h; exact h.elim
  | some xs =>
    rw [eo] at h
    obtain ⟨b, vs, hO, hσ', hb, z, r, hi⟩ := F.ownd eo
    rw [hσ] at hσ'
    cases hσ'
    dsimp only at h
    cases ef : f xs with
    | none => rw [ef] at h; exact h.elim
    | some p =>
      obtain ⟨d, ys⟩ := p
      rw [ef] at h
      refine k vs xs ys d hb z r ef fun v us hz rs rv => ?_
      obtain ⟨ex, F2⟩ := F.wr hO hi hσ hz rs
      exact h _ _ ex F2 v (rv.at ex)
theorem tyl {K : PySem.W.Frag} {H : Hp} {a : Addr} {vs : List V} (h : H a = some (.lst vs)) : tyV K "list" (.ref a) H := .inl ⟨rfl, vs, SqL.of h⟩
theorem bm0_weak {i : Nat} {K : PySem.W.Frag} {r : V → List V → Hp → VK → Prop} {f : List D → Option (D × List D)} (os : OM0 C.g r f) (σ : L2.St) (H : Hp) (Q : VK) (h : EvE C (mOwn i f) σ H Q) : tBM0 K "list" r (tVar i) σ H Q := by
  obtain ⟨L0, O, env, F, h⟩ := h
  have h2 := h
  unfold mOwn at h2
  cases eo : ownD i env with
  | none => rw [eo] at h2; exact h2.elim
  | some xs =>
    obtain ⟨a, vs, hO, hσ, hb, z, r, hi⟩ := F.ownd eo
    exact ⟨.ref a, hσ, tyl hb, own_end F h hσ fun vs ds ys d h1 h2 h3 h4 h5 => os _ H ds ys d a vs Q h1 h2 h3 h4 h5⟩
theorem bm1_weak {i : Nat} {K : PySem.W.Frag} {r : V → List V → Hp → VK → Prop} {f : D → List D → Option (D × List D)} {m : M D} (os : OM1 C.g r f) (σ : L2.St) (H : Hp) (Q : VK) (h : EvE C (mOwn1 i f m) σ H Q) : tBM K "list" r (tVar i) (tCons (EvE C m) tNil) σ H Q := by
  obtain ⟨L0, O, env, F, h⟩ := h
  have h := Post.bind h
  have s := F.sl i
  unfold chkO at h
  split at h
  · rename_i ds hq
    rw [hq] at s
    obtain ⟨a, vs, hO, hσ, hb, z, r⟩ := s
    refine ⟨.ref a, hσ, tyl hb, L0, O, env, F, (Post.bind (h.here F)).imp fun x e1 O1 H1 x1 F1 h1 w rw' => ?_⟩
    exact own_end F1 h1 hσ fun vs ds ys d h1 h2 h3 h4 h5 => os _ H1 ds ys x d a vs w Q h1 h2 h3 rw' h4 h5
  · exact h.elim
end
end MP

/-! MP, part G: targets, for, comprehensions. -/
namespace MP
open L2 PyProof.Rows PySem PySem.Spec

inductive Tg where
  | nm (i : Nat) | tp (is : List Nat)
def Tg.ix : Tg → List Nat
  | .nm i => [i]
  | .tp is => is
def setAll : List Nat → List D → Env → Option Env
  | [], [], e => some e
  | i :: is, d :: ds, e => setAll is ds (e.set i (some (.p d)))
  | _, _, _ => none
def bindTg : Tg → D → Env → Option Env
  | .nm i, d, e => some (e.set i (some (.p d)))
  | .tp is, .tup ds, e => setAll is ds e
  | _, _, _ => none
/-- what a store to a target is asked: its end -/
def tgEnd (C : Cy) (L0 : Addr → Prop) (O : Own) (H : Hp) (σ : L2.St) (is : List Nat) (Q : L2.St → Hp → Prop) : Option Env → Prop
  | none => False
  | some e' => ∀ σ' O', Ext C.rf σ O H σ' O' H → C.F L0 O' H σ' e' → σ'.length = σ.length → (∀ j, j ∉ is → σ'[j]? = σ[j]?) → Q σ' H
def EvG (C : Cy) (tg : Tg) : TG := fun v σ H Q => ∃ L0 O env d, C.F L0 O H σ env ∧ Rep C.g (LL L0 O) H d v ∧ tgEnd C L0 O H σ tg.ix Q (bindTg tg d env)
def gsN : List Nat → TGs
  | [] => gNil
  | i :: is => gCons (gName i) (gsN is)
theorem _root_.L2.PG.weak {X : Cx} {e : Expr} {t t' : TG} (h : PG X e t) (k : ∀ v σ H Q, t' v σ H Q → t v σ H Q) : PG X e t' := ⟨fun pins s σ H v u Q I r q => h.run pins s σ H v u Q I r (k v σ H Q q)⟩
section
variable {X : Cx} {C : Cy} {pos : Pos}
theorem gsN_run {L0 : Addr → Prop} {H : Hp} {Q : L2.St → Hp → Prop} : ∀ {is : List Nat} {ds : List D} {vs : List V} {σ : L2.St} {O : Own} {env : Env}, (∀ i ∈ is, C.rf i = false) → C.F L0 O H σ env → Reps C.g (LL L0 O) H ds vs → tgEnd C L0 O H σ is Q (setAll is ds env) → gsN is vs σ H Q
  | [], [], vs, σ, O, env, _, F, r, h => by
    have e : vs = [] := r
    exact ⟨e, h σ O Ext.refl F rfl fun _ _ => rfl⟩
  | i :: is, d :: ds, vs, σ, O, env, hr, F, r, h => by
    obtain ⟨v, t, rfl, rv, rt⟩ := r
    refine ⟨v, t, rfl, ?_⟩
    have x : Ext C.rf σ O H (σ.set i (some v)) (offO O i) H := Ext.set (hr i List.mem_cons_self)
    refine gsN_run (is := is) (ds := ds) (fun j hj => hr j (List.mem_cons_of_mem _ hj)) (F.set rv) (rt.at x) ?_
    have h : tgEnd C L0 O H σ (i :: is) Q (setAll is ds (env.set i (some (.p d)))) := h
    cases e : setAll is ds (env.set i (some (.p d))) with
    | none => rw [e] at h; exact h.elim
    | some e' =>
      rw [e] at h
      intro σ' O' x' F' hl hk
      refine h σ' O' (x.trans x') F' (by rw [hl, List.length_set]) fun j hj => ?_
      rw [hk j fun z => hj (List.mem_cons_of_mem _ z), List.getElem?_set_ne (fun z => hj (by rw [z]; exact List.mem_cons_self))]
  | [], _ :: _, _, _, _, _, _, _, _, h => h.elim
  | _ :: _, [], _, _, _, _, _, _, _, h => h.elim
theorem pg_nmD {i : Nat} {x : Str} (hN : X.N.Nodup) (hi : X.N[i]? = some x) (hx : Loc X.env.scope x) (hf : X.fn x = true ∨ X.env.scope.names.lookup x = some .local) (hr : C.rf i = false) : PG X (.Name x pos) (EvG C (.nm i)) :=
  (pg_name hN hi hx hf).weak fun v σ H Q ⟨L0, O, env, d, F, r, h⟩ => h _ _ (Ext.set hr) (F.set r) (by rw [List.length_set]) fun j hj => List.getElem?_set_ne (fun z => hj (by rw [z]; exact List.mem_singleton.mpr rfl))
theorem pg_tpD {es : List Expr} {k : Nat} {is : List Nat} (hK : C.g.K = X.K) (hc : X.calm = true) (h : PGs X es (gsN is)) (hr : ∀ i ∈ is, C.rf i = false) (hn : (assignEach es X.env).length = is.length) (hst : (assignEach es X.env).findIdx? (·.1) = none) :
    PG X (.Tuple es k pos) (EvG C (.tp is)) := (pg_tup hc h hn hst).weak fun v σ H Q ⟨L0, O, env, d, F, r, h⟩ => by
  cases d with
  | tup ds =>
    obtain ⟨a, vs, rfl, p, rs⟩ := r
    have hl : vs.length = is.length := by
      rw [← rs.length]
      have h : tgEnd C L0 O H σ is Q (setAll is ds env) := h
      clear hn hst hr rs p F
      have : ∀ (is : List Nat) (ds : List D) (env : Env), setAll is ds env ≠ none → ds.length = is.length := by
        intro is
        induction is with
        | nil => intro ds env hh; cases ds with
          | nil => rfl
          | cons d ds => exact absurd rfl hh
        | cons i is ih => intro ds env hh; cases ds with
          | nil => exact absurd rfl hh
          | cons d ds => exact congrArg Nat.succ (ih ds _ hh)
      refine this is ds env fun e => ?_
      rw [e] at h; exact h
    rw [← hK]
    exact ⟨a, vs, rfl, p.sq, hl, gsN_run hr F rs h⟩
  | _ => exact h.elim
/-- a, b = e -/
def sAsg (tg : Tg) (m : M D) : MS := sE m fun d e => match bindTg tg d e with
  | none => .bad
  | some e' => .ok .nx e'
theorem qs_asg {tge e : Expr} {tg : Tg} {m : M D} (he : PE X e (EvE C m)) (hg : PG X tge (EvG C tg)) (hs : swapsWithSole [tge] e pos.line X.env = pure false) (hw : swappedStores [tge] e X.env = pure none) (h1 : (assignEach [tge] X.env).map (·.2) = [assign tge X.env]) :
    PS X (.Assign [tge] e pos) (EvS C (sAsg tg m)) := (ps_asg he hg hs hw h1).weak fun D σ H ⟨L0, O, env, F, h⟩ =>
  ⟨L0, O, env, F, (PostS.bindE h).imp fun d e1 O1 H1 x1 F1 h1 v rv => ⟨L0, O1, e1, d, F1, rv, by
    cases eb : bindTg tg d e1 with
    | none => rw [eb] at h1; exact h1.elim
    | some e' =>
      rw [eb] at h1
      exact fun σ' O' x' F' _ _ => h1 σ' O' H1 x' F'⟩⟩
end

/-! ### what is walked -/
def Wk (g : G) (L : Addr → Prop) (H : Hp) (J : It) (ds : List D) : Prop := ∃ (G : Hp → Prop) (Y : Nat → Hp → V → Hp → Prop), Walk J ds.length G Y ∧ (∀ L' H', XT L H L' H' → G H') ∧
  ∀ (i : Nat) (d : D) (L' : Addr → Prop) (H' : Hp) (x : V) (H'' : Hp), XT L H L' H' → (∀ a, L' a → ∃ o, H' a = some o) → ds[i]? = some d → Y i H' x H'' → Same H' H'' ∧ Rep g L' H'' d x
def EvI (C : Cy) (src : M (List D)) : TI := fun σ H R => ∃ L0 O env, C.F L0 O H σ env ∧ Post C L0 O H σ (src env) fun ds _ O' H' => ∀ J, Wk C.g (LL L0 O') H' J ds → R J H'
theorem Wk.mono {g : G} {L L' : Addr → Prop} {H H' : Hp} {J : It} {ds : List D} (x : XT L H L' H') (h : Wk g L H J ds) : Wk g L' H' J ds := by
  obtain ⟨G, Y, w, h1, h2⟩ := h
  have t : ∀ {L2 H2}, XT L' H' L2 H2 → XT L H L2 H2 := fun y a o e n => let ⟨e1, n1⟩ := x a o e n; y a o e1 n1
  exact ⟨G, Y, w, fun L2 H2 y => h1 L2 H2 (t y), fun i d L2 H2 v H3 y => h2 i d L2 H2 v H3 (t y)⟩
def itD : D → Option (List D)
  | .lst xs => some xs
  | .tup xs => some xs
  | .str s => some (s.map fun c => .str [c])
  | _ => none
theorem _root_.L2.PI.weak {X : Cx} {tg e : Expr} {t t' : TI} (h : PI X tg e t) (k : ∀ σ H R, t' σ H R → t σ H R) : PI X tg e t' := ⟨fun pins s σ H R I q => h.run pins s σ H R I (k σ H R q)⟩
def iAny (K : PySem.W.Frag) (te : TE) : TI := fun σ H R => te σ H fun x H1 => (∃ a, x = .ref a ∧ (∃ xs, SqL K H1 a xs) ∧ R (Itl K a) H1) ∨ (∃ a, x = .ref a ∧ (∃ xs, SqT K H1 a xs) ∧ R (Itt K a) H1) ∨ ∃ z, x = .str z ∧ R (Its z) H1
theorem pi_any {X : Cx} {tg e : Expr} {te : TE} (he : PE X e te) : PI X tg e (iAny X.K te) := by
  refine ⟨fun pins s σ H R I h => ?_⟩
  refine thn (he.run pins s σ H _ I h) fun v s1 ⟨x, H1, I1, r1, q1⟩ => ?_
  rcases q1 with q1 | q1 | q1
  · obtain ⟨a, e, ⟨xs, hq⟩, q⟩ := q1
    subst e
    cases r1
    obtain ⟨its, rv, p, hz⟩ := I1.list hq
    refine wpAny_pyIter_list p.isList ?_
    refine ⟨s1.heap.objs.size, [s1.heap.objs.size], _, _, H1, rfl, I1.kept (t' := s1.toks) fun b o e => Heap.get?_push_of_some _ e, turn_list a _, ⟨_, Heap.get?_push_size _ rfl, rfl, rfl⟩, fun b hb => ?_, q⟩
    have e : b = s1.heap.objs.size := by simpa using hb
    subst e
    exact I1.fpOk (Nat.le_refl _) (I1.hok.fresh (Nat.le_refl _))
  · obtain ⟨a, e, ⟨xs, hq⟩, q⟩ := q1
    subst e
    cases r1
    obtain ⟨its, rv, p, hz⟩ := I1.tuple hq
    refine wpAny_pyIter_tuple (show s1.heap.IsTuple a its.toArray from p) ?_
    refine ⟨s1.heap.objs.size, [s1.heap.objs.size], _, _, H1, rfl, I1.kept (t' := s1.toks) fun b o e => Heap.get?_push_of_some _ e, turn_tuple a _, ⟨_, Heap.get?_push_size _ rfl, rfl, rfl⟩, fun b hb => ?_, q⟩
    have e : b = s1.heap.objs.size := by simpa using hb
    subst e
    exact I1.fpOk (Nat.le_refl _) (I1.hok.fresh (Nat.le_refl _))
  · obtain ⟨x, ex, q⟩ := q1
    subst ex
    obtain ⟨t, rfl⟩ := r1
    cases ha : x.cps.all (· < 128)
    · exact wpAny_pyIter_wide ha (pi_one (tk := s1.toks) I1 _ (turn_str _ x t "str_iterator" (.inr rfl)) ⟨_, Heap.get?_push_size _ rfl, rfl, rfl⟩ q)
    · exact wpAny_pyIter_ascii ha (pi_one (tk := s1.toks) I1 _ (turn_str _ x t "str_ascii_iterator" (.inl rfl)) ⟨_, Heap.get?_push_size _ rfl, rfl, rfl⟩ q)
section
variable {g : G} {L : Addr → Prop} {H : Hp}
theorem wk_list {a : Addr} {vs : List V} {ds : List D} (p : PL L H a vs) (r : Reps g L H ds vs) : Wk g L H (Itl g.K a) ds := by
  refine ⟨fun H => SqL g.K H a vs, YAt vs, by rw [r.length]; exact walk_list, fun L' H' x => (p.mono x).sq, fun i d L' H' v H'' x hl e y => ?_⟩
  obtain ⟨rfl, y⟩ := y
  obtain ⟨u, e2, ru⟩ := (Reps.mono x ds vs r).get e
  rw [y] at e2
  cases e2
  exact ⟨Same.refl _, ru⟩
theorem wk_tup {a : Addr} {vs : List V} {ds : List D} (p : PT g.K L H a vs) (r : Reps g L H ds vs) : Wk g L H (Itt g.K a) ds := by
  refine ⟨fun H => SqT g.K H a vs, YAt vs, by rw [r.length]; exact walk_tup, fun L' H' x => (p.mono x).sq, fun i d L' H' v H'' x hl e y => ?_⟩
  obtain ⟨rfl, y⟩ := y
  obtain ⟨u, e2, ru⟩ := (Reps.mono x ds vs r).get e
  rw [y] at e2
  cases e2
  exact ⟨Same.refl _, ru⟩
theorem wk_str {s : Tx} (ok : TxOk s) : Wk g L H (Its ⟨s.toArray⟩) (s.map fun c => .str [c]) := by
  refine ⟨fun _ => True, _, by
    have w := walk_str (z := ⟨s.toArray⟩)
    have e : (s.map fun c => D.str [c]).length = (⟨s.toArray⟩ : Str).cps.size := by simp
    rw [e]; exact w, fun _ _ _ => trivial, fun i d L' H' v H'' x hl e y => ?_⟩
  obtain ⟨rfl, c, hc, rfl⟩ := y
  have hc : s[i]? = some c := by simpa using hc
  rw [List.getElem?_map, hc] at e
  cases e
  refine ⟨Same.refl _, rfl, fun k hk => ?_, ?_⟩
  · have : k = c := by simpa using hk
    rw [this]
    exact ok.1 c (List.mem_of_getElem? hc)
  · show 1 ≤ sizeLine
    rw [sizeLine_eq]; decide
theorem wk_fn {lo : Int} {n : Nat} : Wk g L H (Itr lo n) ((List.range n).map fun (i : Nat) => .int (lo + i)) := by
  refine ⟨fun _ => True, _, by rw [List.length_map, List.length_range]; exact walk_range, fun _ _ _ => trivial, fun i d L' H' v H'' x hl e y => ?_⟩
  obtain ⟨rfl, rfl⟩ := y
  have hi : i < n := by
    have := (List.getElem?_eq_some_iff.mp e).1
    simpa using this
  rw [List.getElem?_map, List.getElem?_range hi] at e
  cases e
  exact ⟨Same.refl _, rfl⟩
/-- i, x for each -/
def enumG : Nat → List D → List D
  | _, [] => []
  | i, x :: xs => .tup [.int i, x] :: enumG (i + 1) xs
theorem enumG_get : ∀ (xs : List D) (k i : Nat), (enumG k xs)[i]? = xs[i]?.map fun x => .tup [.int ((k + i : Nat) : Int), x]
  | [], k, i => by simp [enumG]
  | x :: xs, k, 0 => by simp [enumG]
  | x :: xs, k, i + 1 => by
    simp only [enumG, List.getElem?_cons_succ]
    rw [enumG_get xs (k + 1) i]
    have : k + 1 + i = k + (i + 1) := by omega
    rw [this]
theorem enumG_len : ∀ (xs : List D) (k : Nat), (enumG k xs).length = xs.length
  | [], _ => rfl
  | x :: xs, k => by simp [enumG, enumG_len xs (k + 1)]
theorem wk_enum {a : Addr} {vs : List V} {ds : List D} (p : PL L H a vs) (r : Reps g L H ds vs) : Wk g L H (Ite g.K a) (enumG 0 ds) := by
  refine ⟨fun H => SqL g.K H a vs, _, by rw [enumG_len, r.length]; exact walk_enum, fun L' H' x => (p.mono x).sq, fun i d L' H' v H'' x hl e y => ?_⟩
  obtain ⟨T, x1, x2, rfl, hT, rfl, e1, e2⟩ := y
  cases e1
  rw [enumG_get] at e
  obtain ⟨d', hd, rfl⟩ := Option.map_eq_some_iff.mp e
  obtain ⟨u, e3, ru⟩ := (Reps.mono x ds vs r).get hd
  have e2 : vs[i]? = some x2 := e2
  rw [e2] at e3
  cases e3
  refine ⟨Same.new hT, ?_⟩
  have rr : Reps g L' H' [.int ((0 + i : Nat) : Int), d'] [.int (i : Nat), x2] := .cons (by show V.int _ = V.int _; congr 1; simp) (.cons ru .nil)
  exact new_tup hl hT rr (by show 2 ≤ sizeLine; rw [sizeLine_eq]; decide)
end
section
variable {X : Cx} {C : Cy} {tg : Expr}
def mIter (m : M D) : M (List D) := do
  let d ← m
  lift (itD d)
theorem pi_val {e : Expr} {m : M D} (hK : C.g.K = X.K) (he : PE X e (EvE C m)) : PI X tg e (EvI C (mIter m)) := (pi_any he).weak fun σ H R ⟨L0, O, env, F, h⟩ =>
  ⟨L0, O, env, F, (Post.bind h).imp fun d e1 O1 H1 x1 F1 h1 v rv => by
    cases d with
    | lst xs =>
      obtain ⟨a, vs, rfl, p, rs⟩ := rv
      rw [← hK]
      exact .inl ⟨a, rfl, ⟨vs, p.sq⟩, h1.here F1 _ (wk_list p rs)⟩
    | tup xs =>
      obtain ⟨a, vs, rfl, p, rs⟩ := rv
      rw [← hK]
      exact .inr (.inl ⟨a, rfl, ⟨vs, p.sq⟩, h1.here F1 _ (wk_tup p rs)⟩)
    | str s =>
      obtain ⟨rfl, ok⟩ := rv
      exact .inr (.inr ⟨_, rfl, h1.here F1 _ (wk_str ok)⟩)
    | _ => exact h1.elim⟩
def rng (lo : Int) (n : Nat) : List D := (List.range n).map fun (i : Nat) => .int (lo + i)
def rngD1 : List D → Option (List D)
  | [.int j] => if -4611686018427387904 ≤ j ∧ j < 4611686018427387904 then some (rng 0 j.toNat) else none
  | _ => none
def rngD2 : List D → Option (List D)
  | [.int i, .int j] => if (-4611686018427387904 ≤ i ∧ i < 4611686018427387904) ∧ -4611686018427387904 ≤ j ∧ j < 4611686018427387904 then some (rng i (j - i).toNat) else none
  | _ => none
def mArgs {α : Type} (f : List D → Option α) (m : M (List D)) : M α := do
  let ds ← m
  lift (f ds)
theorem reps1 {g : G} {L : Addr → Prop} {H : Hp} {d : D} {vs : List V} (r : Reps g L H [d] vs) : ∃ v, vs = [v] ∧ Rep g L H d v := by
  obtain ⟨v, t, rfl, rv, rt⟩ := r
  have e : t = [] := rt
  subst e
  exact ⟨v, rfl, rv⟩
theorem reps2 {g : G} {L : Addr → Prop} {H : Hp} {d e : D} {vs : List V} (r : Reps g L H [d, e] vs) : ∃ v w, vs = [v, w] ∧ Rep g L H d v ∧ Rep g L H e w := by
  obtain ⟨v, t, rfl, rv, rt⟩ := r
  obtain ⟨w, rfl, rw'⟩ := reps1 rt
  exact ⟨v, w, rfl, rv, rw'⟩
theorem pi_rng1 {a : Expr} {m : M (List D)} {p pos : Pos} (hg : Gl X "range") (hm : X.mg "range" = none) (ha : PA X [a] (EvA C m)) (hs : starEach [a] X.env = [(false, eval a X.env)]) : PI X tg (.Call (.Name "range" p) [a] [] pos) (EvI C (mArgs rngD1 m)) :=
  (pi_range1 hg hm ha hs).weak fun σ H R ⟨L0, O, env, F, h⟩ => ⟨L0, O, env, F, (Post.bind h).imp fun ds e1 O1 H1 x1 F1 h1 vs rs => by
    cases ef : rngD1 ds with
    | none => rw [ef] at h1; exact h1.elim
    | some zs =>
      rw [ef] at h1
      unfold rngD1 at ef
      split at ef
      · split at ef
        · rename_i j hj
          cases ef
          obtain ⟨v, rfl, rv⟩ := reps1 rs
          have rv : v = .int j := rv
          subst rv
          exact ⟨j, rfl, by omega, by omega, h1.here F1 _ wk_fn⟩
        · cases ef
      · cases ef⟩
theorem pi_rng2 {a b : Expr} {m : M (List D)} {p pos : Pos} (hg : Gl X "range") (hm : X.mg "range" = none) (ha : PA X [a, b] (EvA C m)) (hs : starEach [a, b] X.env = [(false, eval a X.env), (false, eval b X.env)]) (hs2 : starEach [b] X.env = [(false, eval b X.env)]) :
    PI X tg (.Call (.Name "range" p) [a, b] [] pos) (EvI C (mArgs rngD2 m)) :=
  (pi_range2 hg hm ha hs hs2).weak fun σ H R ⟨L0, O, env, F, h⟩ => ⟨L0, O, env, F, (Post.bind h).imp fun ds e1 O1 H1 x1 F1 h1 vs rs => by
    cases ef : rngD2 ds with
    | none => rw [ef] at h1; exact h1.elim
    | some zs =>
      rw [ef] at h1
      unfold rngD2 at ef
      split at ef
      · split at ef
        · rename_i i j hj
          cases ef
          obtain ⟨v, w, rfl, rv, rw'⟩ := reps2 rs
          have rv : v = .int i := rv
          have rw' : w = .int j := rw'
          subst rv
          subst rw'
          exact ⟨i, j, rfl, by omega, h1.here F1 _ wk_fn⟩
        · cases ef
      · cases ef⟩
def enumD : List D → Option (List D)
  | [.lst xs] => some (enumG 0 xs)
  | _ => none
theorem pi_enumD {e : Expr} {m : M (List D)} {p pos tpos : Pos} {elts : List Expr} {kk : Nat} (hK : C.g.K = X.K) (hg : Gl X "enumerate") (hm : X.mg "enumerate" = none) (ha : PA X [e] (EvA C m)) (hs : starEach [e] X.env = [(false, eval e X.env)]) :
    PI X (.Tuple elts kk tpos) (.Call (.Name "enumerate" p) [e] [] pos) (EvI C (mArgs enumD m)) :=
  (pi_enum hg hm ha hs).weak fun σ H R ⟨L0, O, env, F, h⟩ => ⟨L0, O, env, F, (Post.bind h).imp fun ds e1 O1 H1 x1 F1 h1 vs rs => by
    cases ef : enumD ds with
    | none => rw [ef] at h1; exact h1.elim
    | some zs =>
      rw [ef] at h1
      unfold enumD at ef
      split at ef
      · cases ef
        obtain ⟨v, rfl, rv⟩ := reps1 rs
        obtain ⟨a, us, rfl, p, ru⟩ := rv
        rw [← hK]
        exact ⟨a, us, rfl, p.sq, h1.here F1 _ (wk_enum p ru)⟩
      · cases ef⟩
end

/-! ### for -/
def loopD (tg : Tg) (body : MS) : List D → MS
  | [] => sNx
  | d :: ds => fun e => match bindTg tg d e with
    | none => .bad
    | some e1 => (match body e1 with
      | .ok .nx e2 => loopD tg body ds e2
      | .ok .ct e2 => loopD tg body ds e2
      | .ok .bk e2 => .ok .nx e2
      | .ok fl e2 => .ok fl e2
      | .ex x e2 => .ex x e2
      | .bad => .bad)
def sFor (src : M (List D)) (tg : Tg) (body : MS) : MS := sE src fun ds => loopD tg body ds
section
variable {X : Cx} {C : Cy} {pos : Pos}
theorem qs_for {tge iter : Expr} {body : List Stmt} {src : M (List D)} {tg : Tg} {mb : MS} (hp : PassesOwn (model X.prog X.w) X.A X.env X.xe) (hc : X.calm = true) (hi : PI X tge iter (EvI C src)) (hg : PG X tge (EvG C tg)) (hb : PSs X body (EvS C mb))
    (hs : ∀ x, foldedSetIterable iter X.env x = pure x) : PS X (.For tge iter body [] pos) (EvS C (sFor src tg mb)) := (ps_for hp hc hi hg hb hs).weak fun D σ H ⟨L0, O, env, F, h⟩ => by
  refine ⟨L0, O, env, F, (PostS.bindE h).imp fun ds e1 O1 H1 x1 F1 h1 J ⟨G, Y, w, hG, hY⟩ => ?_⟩
  refine for_it w (fun i σ' H' => ∃ O' e', Ext C.rf σ O1 H1 σ' O' H' ∧ C.F L0 O' H' σ' e' ∧ PostS C L0 O' H' σ' (loopD tg mb (ds.drop i) e') D) ⟨O1, e1, Ext.refl, F1, h1⟩ (fun i σ' H' _ ⟨O', e', x, F', _⟩ => hG _ _ x.xt) ?_ ?_
  · rintro i v σ' H' H'' hi ⟨O', e', x, F', hp⟩ hy
    obtain ⟨s, rv⟩ := hY i ds[i] _ H' v H'' x.xt F'.trk (List.getElem?_eq_getElem hi) hy
    rw [List.drop_eq_getElem_cons hi] at hp
    unfold loopD at hp
    refine ⟨L0, O', e', ds[i], F'.same s, rv, ?_⟩
    cases eb : bindTg tg ds[i] e' with
    | none => rw [eb] at hp; exact hp.elim
    | some e2 =>
      rw [eb] at hp
      dsimp only at hp
      intro σ2 O2 x2 F2 _ _
      have xx : Ext C.rf σ' O' H' σ2 O2 H'' := (Ext.same s).trans x2 |> fun y => y
      refine ⟨L0, O2, e2, F2, ?_⟩
      have hp2 := PostS.at hp xx
      have xt : Ext C.rf σ O1 H1 σ2 O2 H'' := x.trans xx
      cases em : mb e2 with
      | bad => rw [em] at hp2; exact hp2.elim
      | ex y e3 => rw [em] at hp2; exact hp2
      | ok fl e3 =>
        rw [em] at hp2
        intro σ3 O3 H3 x3 F3
        cases fl with
        | nx => exact ⟨O3, e3, xt.trans x3, F3, PostS.at hp2 x3⟩
        | ct => exact ⟨O3, e3, xt.trans x3, F3, PostS.at hp2 x3⟩
        | bk => exact hp2 σ3 O3 H3 x3 F3
        | rt d => exact hp2 σ3 O3 H3 x3 F3
        | rtf d => exact hp2 σ3 O3 H3 x3 F3
        | rtx k d => exact hp2 σ3 O3 H3 x3 F3
  · rintro σ' H' ⟨O', e', x, F', hp⟩
    rw [List.drop_length] at hp
    exact PostS.here (fl := .nx) hp F'
end
end MP

/-! MP, part H: comprehensions. -/
namespace MP
open L2 PyProof.Rows PySem PySem.Spec

def WF : WX := fun _ _ _ _ => False
/-- the block's own reading: no error leaves it -/
def Cy.blk (C : Cy) : Cy := { C with W := WF }
def nox {α : Type} (m : M α) : M α := fun e => match m e with
  | .ok a e' => .ok a e'
  | _ => .bad
def wipeE (e : Env) : List Nat → Env
  | [] => e
  | v :: vs => (wipeE e vs).set v none
/-- lists that those slots own become values -/
def frz (e : Env) : List Nat → Env
  | [] => e
  | v :: vs => (match (frz e vs)[v]? with
    | some (some (.ml xs)) => (frz e vs).set v (some (.p (.lst xs)))
    | _ => frz e vs)
/-- the slots vs as in e0, all others as in e -/
def back0 (e0 e : Env) : List Nat → Env
  | [] => e
  | v :: vs => (back0 e0 e vs).set v (e0[v]?.getD none)
/-- the block's turns, each from an env whose own slots are empty -/
def lcD (own : List Nat) (tg : Tg) (tst : M Bool) (elt : M D) : List D → M (List D)
  | [] => fun e => .ok [] e
  | d :: ds => fun e => match bindTg tg d e with
    | none => .bad
    | some e1 => (match tst e1 with
      | .ok true e2 => (match elt e2 with
        | .ok y e3 => (match lcD own tg tst elt ds (wipeE e3 own) with
          | .ok ys e4 => .ok (y :: ys) e4
          | _ => .bad)
        | _ => .bad)
      | .ok false e2 => lcD own tg tst elt ds (wipeE e2 own)
      | _ => .bad)
def mLc (own : List Nat) (src : M (List D)) (tg : Tg) (tst : M Bool) (elt : M D) : M (List D) := do
  let ds ← src
  fun e => if ds.length ≤ 1000000 then (match lcD own tg tst elt ds (wipeE (frz e own) own) with
    | .ok ys e' => .ok ys (back0 (frz e own) e' own)
    | _ => .bad) else .bad
section
variable {g : G} {rf : Nat → Bool} {dm L0 : Addr → Prop} {xs : XTab} {O O' : Own} {H H' : Hp} {σ : L2.St} {env e' : Env}
theorem frz_frel : ∀ {own : List Nat} {O : Own}, FRel g rf dm L0 xs O H σ env → ∃ O', Ext rf σ O H σ O' H ∧ FRel g rf dm L0 xs O' H σ (frz env own) ∧ (∀ v ∈ own, O' v = none)
  | [], O, F => ⟨O, Ext.refl, F, fun _ h => by cases h⟩
  | v :: vs, O, F => by
    obtain ⟨O1, x1, F1, n1⟩ := frz_frel (own := vs) F
    unfold frz
    have s := F1.sl v
    split
    · rename_i ds hq
      obtain ⟨F2, _⟩ := F1.freeze hq
      refine ⟨offO O1 v, x1.trans Ext.off, F2, fun w hw => ?_⟩
      by_cases e : w = v
      · rw [e]; exact offO_same
      · rw [offO_ne e]
        exact n1 w ((List.mem_cons.mp hw).resolve_left e)
    · rename_i hn
      refine ⟨O1, x1, F1, fun w hw => ?_⟩
      rcases List.mem_cons.mp hw with e | e
      · rw [e]
        match hq : (frz env vs)[v]? with
        | none => rw [hq] at s; exact s
        | some none => rw [hq] at s; exact s
        | some (some (.p d)) => rw [hq] at s; exact s.1
        | some (some (.ml ds)) => exact absurd hq (hn ds)
        | some (some (.x d)) => rw [hq] at s; exact s.1
      · exact n1 w e
/-- within: the own slots are empty -/
theorem wipe_frel (F : FRel g rf dm L0 xs O H σ env) : ∀ {own : List Nat}, (∀ v ∈ own, O v = none) → FRel g rf dm L0 xs O H (wipe σ own) (wipeE env own)
  | [], _ => F
  | v :: vs, n => by
    have F1 := wipe_frel F (own := vs) fun w hw => n w (List.mem_cons_of_mem _ hw)
    have F2 := F1.setNone (i := v)
    have e : offO O v = O := funext fun j => by
      by_cases q : j = v
      · rw [q, offO_same]; exact (n v List.mem_cons_self).symm
      · exact offO_ne q
    rw [e] at F2
    exact F2
/-- the own slots empty again -/
theorem wipe_again {σ2 : L2.St} (F : FRel g rf dm L0 xs O H σ2 env) : ∀ {own : List Nat}, (∀ v ∈ own, rf v = false) → ∃ O', Ext rf σ2 O H (wipe σ2 own) O' H ∧ FRel g rf dm L0 xs O' H (wipe σ2 own) (wipeE env own)
  | [], _ => ⟨O, Ext.refl, F⟩
  | v :: vs, hr => by
    obtain ⟨O1, x1, F1⟩ := wipe_again F (own := vs) fun w hw => hr w (List.mem_cons_of_mem _ hw)
    exact ⟨offO O1 v, x1.trans (Ext.set (hr v List.mem_cons_self)), F1.setNone⟩
theorem wipe_ext {own : List Nat} (hr : ∀ v ∈ own, rf v = false) : Ext rf σ O H (wipe σ own) O H := ⟨fun a o h n => ⟨h, n⟩, fun i hi => ⟨by
  rw [wipe_out fun z => by rw [hr i z] at hi; cases hi], .inr rfl⟩, fun a o h => ⟨o, h⟩⟩
theorem back0_len : ∀ (own : List Nat) (e0 e : Env), (back0 e0 e own).length = e.length
  | [], _, _ => rfl
  | v :: vs, e0, e => by
    show ((back0 e0 e vs).set v _).length = _
    rw [List.length_set, back0_len vs]
theorem back0_in {e0 e : Env} (hl : e0.length = e.length) : ∀ {own : List Nat} {j : Nat}, j ∈ own → (back0 e0 e own)[j]? = e0[j]?
  | v :: vs, j, h => by
    unfold back0
    by_cases q : v = j
    · subst q
      by_cases hj : v < e0.length
      · rw [List.getElem?_set_self (by rw [back0_len]; omega), List.getElem?_eq_getElem hj]
        rfl
      · rw [List.getElem?_eq_none (by rw [List.length_set, back0_len]; omega), List.getElem?_eq_none (by omega)]
    · rw [List.getElem?_set_ne q]
      exact back0_in hl ((List.mem_cons.mp h).resolve_left (Ne.symm q))
theorem back0_out {e0 e : Env} : ∀ {own : List Nat} {j : Nat}, j ∉ own → (back0 e0 e own)[j]? = e[j]?
  | [], j, h => rfl
  | v :: vs, j, h => by
    unfold back0
    have q : v ≠ j := fun z => h (by rw [z]; exact List.mem_cons_self)
    rw [List.getElem?_set_ne q]
    exact back0_out fun z => h (List.mem_cons_of_mem _ z)
/-- behind it: the own slots as ahead of it -/
theorem unwipe {own : List Nat} {L1 : Addr → Prop} (n : ∀ v ∈ own, O v = none) (F : FRel g rf dm L0 xs O H σ env) (x : Ext rf (wipe σ own) O H (wipe σ own) O' H') (F' : FRel g rf dm L1 xs O' H' (wipe σ own) e') (hL : ∀ a o, H a = some o → L1 a → L0 a) (n' : ∀ v ∈ own, O' v = none) :
    Ext rf σ O H σ O' H' ∧ FRel g rf dm L1 xs O' H' σ (back0 env e' own) := by
  refine ⟨⟨x.keep, fun i hi => ⟨rfl, (x.stab i hi).2⟩, x.old⟩, ⟨?_, fun j => ?_, F'.inj, F'.dis, F'.lok, F'.dom, F'.own⟩⟩
  · rw [back0_len, F'.len, wipe_length]
  · have hl : env.length = e'.length := by rw [F.len, F'.len, wipe_length]
    by_cases hj : j ∈ own
    · rw [back0_in hl hj]
      have s := F.sl j
      rw [n j hj] at s
      rw [n' j hj]
      have xt : XT (LL L0 O) H (LL L1 O') H' := fun a o h nn => by
        obtain ⟨h1, n1⟩ := x.keep a o h fun i e => nn (.inr ⟨i, e⟩)
        exact ⟨h1, fun z => z.elim (fun z => nn (.inl (hL a o h z))) fun ⟨i, e⟩ => n1 i e⟩
      exact SR.mono xt (fun a u e _ => by cases e) s
    · rw [back0_out hj]
      have s := F'.sl j
      rw [wipe_out hj] at s
      exact s
theorem none_wiped {own : List Nat} (F : FRel g rf dm L0 xs O H (wipe σ own) env) (h : ∀ v ∈ own, env[v]? = some none ∨ env[v]? = none) : ∀ v ∈ own, O v = none := fun v hv => by
  have s := F.sl v
  rcases h v hv with e | e
  · rw [e] at s; exact s
  · rw [e] at s; exact s
theorem wipeE_len : ∀ (own : List Nat) (e : Env), (wipeE e own).length = e.length
  | [], _ => rfl
  | v :: vs, e => by
    show ((wipeE e vs).set v none).length = _
    rw [List.length_set, wipeE_len vs]
theorem wipeE_in {e : Env} : ∀ {own : List Nat} {j : Nat}, j ∈ own → (wipeE e own)[j]? = some none ∨ (wipeE e own)[j]? = none
  | v :: vs, j, h => by
    unfold wipeE
    by_cases q : v = j
    · subst q
      by_cases hj : v < (wipeE e vs).length
      · exact .inl (List.getElem?_set_self hj)
      · exact .inr (List.getElem?_eq_none (by rw [List.length_set]; omega))
    · rw [List.getElem?_set_ne q]
      exact wipeE_in ((List.mem_cons.mp h).resolve_left (Ne.symm q))
theorem wipe_wipe {own : List Nat} {σ σ2 : L2.St} (hl : σ2.length = σ.length) (h : ∀ j, j ∉ own → σ2[j]? = (wipe σ own)[j]?) : wipe σ2 own = wipe σ own := by
  refine List.ext_getElem? fun j => ?_
  by_cases hj : j ∈ own
  · have a : ∀ (τ : L2.St), (wipe τ own)[j]? = if j < τ.length then some none else none := fun τ => by
      have : ∀ {vs : List Nat}, j ∈ vs → (wipe τ vs)[j]? = if j < τ.length then some none else none := by
        intro vs
        induction vs with
        | nil => intro h; cases h
        | cons v vs ih =>
          intro h
          unfold wipe
          by_cases q : v = j
          · subst q
            by_cases hv : v < τ.length
            · rw [if_pos hv, List.getElem?_set_self (by rw [wipe_length]; exact hv)]
            · rw [if_neg hv, List.getElem?_eq_none (by rw [List.length_set, wipe_length]; omega)]
          · rw [List.getElem?_set_ne q]
            exact ih ((List.mem_cons.mp h).resolve_left (Ne.symm q))
      exact this hj
    rw [a, a, hl]
  · rw [wipe_out hj, wipe_out hj, h j hj, wipe_out hj]
/-- an item comes to the list under way -/
theorem FRel.wrA {a : Addr} {us : List V} {o : HO} (F : FRel g rf dm (LA L0 a) xs O H σ env) (ha : H a = some o) : FRel g rf dm (LA L0 a) xs O (upd H a (.lst us)) σ env ∧ XT (LL (LA L0 a) O) H (LL (LA L0 a) O) (upd H a (.lst us)) := by
  have x : XT (LL (LA L0 a) O) H (LL (LA L0 a) O) (upd H a (.lst us)) := fun b u e n => ⟨by
    have ne : b ≠ a := fun z => n (.inl (.inr z))
    rw [upd_ne ne]; exact e, n⟩
  have old : ∀ b o, H b = some o → ∃ o', upd H a (.lst us) b = some o' := fun b o e => by
    by_cases q : b = a
    · exact ⟨_, by rw [q]; exact upd_same⟩
    · exact ⟨o, by rw [upd_ne q]; exact e⟩
  refine ⟨⟨F.len, fun i => SR.mono x (fun b u e hb => ?_) (F.sl i), F.inj, F.dis, fun b z => let ⟨o, e⟩ := F.lok b z; old b o e, fun b z => let ⟨o, e⟩ := F.dom b z; old b o e, F.own⟩, x⟩
  have ne : b ≠ a := fun z => F.dis i b e (.inr z)
  rw [upd_ne ne]; exact hb
end
section
variable {X : Cx} {C : Cy}
def mYes : M Bool := fun e => .ok true e
theorem pts_yes : PTs X [] (EvT C mYes) := ⟨fun pins s σ H Q I ⟨L0, O, env, F, h⟩ => pts_nil.run pins s σ H Q I (h.here F)⟩
theorem pts_if {c : Expr} {m : M Bool} (h : L2.PT X c (EvT C m)) : PTs X [c] (EvT C m) := pts_one h
theorem lc_weak {own : List Nat} {src : M (List D)} {tg : Tg} {tst : M Bool} {elt : M D} (hr : ∀ v ∈ own, C.rf v = false) (ht : ∀ i ∈ tg.ix, i ∈ own) (σ : L2.St) (H : Hp) (Q : VK) (h : EvF C (mLc own src tg tst elt) σ H Q) :
    tLc (EvI C src) (EvG C.blk tg) (EvT C.blk tst) (EvE C.blk elt) own σ H Q := by
  obtain ⟨L0, O, env, F, h⟩ := h
  refine ⟨L0, O, env, F, (Post.bind h).imp fun ds e1 O1 H1 x1 F1 h1 J ⟨G, Y, w, hG, hY⟩ D hD => ?_⟩
  rcases Nat.lt_or_ge 1000000 ds.length with hz | hz
  · rw [if_neg (Nat.not_le_of_gt hz)] at h1; exact h1.elim
  rw [if_pos hz] at h1
  obtain ⟨O2, x2, F2, n2⟩ := frz_frel (own := own) F1
  -- the block's frame
  have F3 := wipe_frel F2 n2
  have F4 : C.F (LA L0 D) O2 (upd H1 D (.lst [])) (wipe σ own) (wipeE (frz e1 own) own) := F3.newA hD (Same.new hD) upd_same
  cases er : lcD own tg tst elt ds (wipeE (frz e1 own) own) with
  | ex a b => rw [er] at h1; exact h1.elim
  | bad => rw [er] at h1; exact h1.elim
  | ok zs ez =>
    rw [er] at h1
    have nD : ∀ {H'} {O'}, Ext C.rf (wipe σ own) O2 H1 (wipe σ own) O' H' → XT (LL L0 O1) H1 (LL (LA L0 D) O') H' := fun {H' O'} x a o e n => by
      obtain ⟨e2, n2'⟩ := (x2.xt (L0 := L0)) a o e n
      obtain ⟨e3, n3⟩ := (x.xt (L0 := L0)) a o e2 n2'
      refine ⟨e3, fun z => (LA.cases z).elim n3 fun q => ?_⟩
      rw [q, hD] at e; cases e
    refine lc_it w (D := D) (σ := σ) (vs := own) (fun i H' => ∃ O' e' acc done, Ext C.rf (wipe σ own) O2 H1 (wipe σ own) O' H' ∧ C.F (LA L0 D) O' H' (wipe σ own) e' ∧ H' D = some (.lst acc) ∧ Reps C.g (LL (LA L0 D) O') H' done acc ∧ done.length ≤ i ∧
      (∀ v ∈ own, O' v = none) ∧ ∃ rest, lcD own tg tst elt (ds.drop i) e' = .ok rest ez ∧ zs = done ++ rest) ?_ ?_ ?_ ?_
    · exact ⟨O2, _, [], [], ⟨fun a o e n => ⟨by rw [upd_ne (fun q => by rw [q, hD] at e; cases e)]; exact e, n⟩, fun _ _ => ⟨rfl, .inr rfl⟩, fun a o e => ⟨o, by rw [upd_ne (fun q => by rw [q, hD] at e; cases e)]; exact e⟩⟩, F4, upd_same, .nil, Nat.zero_le _, n2, zs, er, rfl⟩
    · rintro i H' _ ⟨O', e', acc, done, x, F', _⟩
      exact hG _ _ (nD x)
    · rintro i v H' H'' hi ⟨O', e', acc, done, x, F', hacc, rd, hdl, nO, rest, hl, hzs⟩ hy
      obtain ⟨s, rv⟩ := hY i ds[i] _ H' v H'' (nD x) F'.trk (List.getElem?_eq_getElem hi) hy
      rw [List.drop_eq_getElem_cons hi] at hl
      unfold lcD at hl
      refine ⟨LA L0 D, O', e', ds[i], F'.same s, rv, ?_⟩
      cases eb : bindTg tg ds[i] e' with
      | none => rw [eb] at hl; cases hl
      | some e2 =>
        rw [eb] at hl
        dsimp only at hl
        intro σ2 O3 x3 F5 hl2 hk2
        have hw : wipe σ2 own = wipe σ own := wipe_wipe (by rw [hl2, wipe_length]) fun j hj => hk2 j fun z => hj (ht j z)
        refine ⟨hw, LA L0 D, O3, e2, F5, ?_⟩
        have xs : Ext C.rf (wipe σ own) O2 H1 σ2 O3 H'' := (x.trans (Ext.same s)).trans x3
        have hD2 : H'' D = some (.lst acc) := s D _ hacc
        have rd2 : Reps C.g (LL (LA L0 D) O3) H'' done acc := rd.at ((Ext.same s).trans x3)
        -- D stays through an expression of the block
        have keepD : ∀ {O4 H4}, Ext C.rf σ2 O3 H'' σ2 O4 H4 → H4 D = some (.lst acc) := fun {O4 H4} y => (y.keep D _ hD2 fun i q => F5.dis i D q (.inr rfl)).1
        cases et : tst e2 with
        | ex a b => rw [et] at hl; cases hl
        | bad => rw [et] at hl; cases hl
        | ok b e3 =>
          rw [et] at hl
          intro O4 H4 x4 F6
          cases b with
          | false =>
            obtain ⟨O5, x5, F7⟩ := wipe_again F6 (own := own) hr
            have xx : Ext C.rf (wipe σ own) O2 H1 (wipe σ own) O5 H4 := by
              have y := (xs.trans x4).trans x5
              rw [hw] at y
              exact y
            rw [hw] at F7
            refine (if_neg Bool.false_ne_true).mpr ⟨O5, _, acc, done, xx, F7, keepD x4, (rd2.at x4).at x5, Nat.le_succ_of_le hdl, none_wiped F7 (fun v hv => wipeE_in hv), rest, hl, hzs⟩
          | true =>
            dsimp only at hl
            refine (if_pos rfl).mpr ⟨LA L0 D, O4, e3, F6, ?_⟩
            cases ee : elt e3 with
            | ex a b => rw [ee] at hl; cases hl
            | bad => rw [ee] at hl; cases hl
            | ok y e4 =>
              rw [ee] at hl
              dsimp only at hl
              cases en : lcD own tg tst elt (ds.drop (i + 1)) (wipeE e4 own) with
              | ex a b => rw [en] at hl; cases hl
              | bad => rw [en] at hl; cases hl
              | ok ys e5 =>
                rw [en] at hl
                cases hl
                intro O5 H5 x5 F7 yv ry
                have hD5 : H5 D = some (.lst acc) := keepD (x4.trans x5)
                have ra : Reps C.g (LL (LA L0 D) O5) H5 done acc := (rd2.at x4).at x5
                refine ⟨acc, hD5, ?_, ?_⟩
                · rw [← ra.length]
                  have : i < 1000000 := by omega
                  have h3 := big (n := 1000000) (Nat.le_refl _)
                  omega
                · obtain ⟨F8, xw⟩ := F7.wrA (us := acc ++ [yv]) hD5
                  obtain ⟨O6, x6, F9⟩ := wipe_again F8 (own := own) hr
                  have xx : Ext C.rf (wipe σ own) O2 H1 (wipe σ own) O6 (upd H5 D (.lst (acc ++ [yv]))) := by
                    have y := (xs.trans x4).trans x5
                    have z : Ext C.rf (wipe σ own) O2 H1 σ2 O5 (upd H5 D (.lst (acc ++ [yv]))) := ⟨fun a o e n => by
                        obtain ⟨e2, n2⟩ := y.keep a o e n
                        exact ⟨by rw [upd_ne (fun q => by rw [q, hD] at e; cases e)]; exact e2, n2⟩, y.stab, fun a o e => by
                        obtain ⟨o2, e2⟩ := y.old a o e
                        exact ⟨o2, by rw [upd_ne (fun q => by rw [q, hD] at e; cases e)]; exact e2⟩⟩
                    have q := z.trans x6
                    rw [hw] at q
                    exact q
                  rw [hw] at F9
                  exact ⟨O6, _, acc ++ [yv], done ++ [y], xx, F9, upd_same, (Reps.mono xw _ _ (ra.app (.one ry))).at x6, by rw [List.length_append]; simp; omega, none_wiped F9 (fun v hv => wipeE_in hv), ys, en, by rw [hzs, List.append_assoc]; rfl⟩
    · rintro H' ⟨O', e', acc, done, x, F', hacc, rd, hdl, nO, rest, hl, hzs⟩
      rw [List.drop_length] at hl
      cases hl
      rw [List.append_nil] at hzs
      subst hzs
      obtain ⟨x3, F5⟩ := unwipe n2 F2 x F' (fun a o e z => z.elim id fun q => by rw [q, hD] at e; cases e) nO
      have hlen : acc.length ≤ sizeLine := by
        rw [← rd.length]
        have : zs.length ≤ 1000000 := by omega
        exact big this
      exact h1 O' H' (x2.trans x3) (F5.less fun a z => .inl z) D acc (x1.none hD) hacc F5 hlen rd
theorem pd_lc {elt tge iter : Expr} {ifs : List Expr} {scope : Scope} {own : List (Str × Nat)} {pos : Pos} {src : M (List D)} {tg : Tg} {tst : M Bool} {me : M D} (hr : ∀ v ∈ own.map (·.2), C.rf v = false) (ht' : ∀ i ∈ tg.ix, i ∈ own.map (·.2)) (hc : X.calm = true) (hN : X.N.Nodup) (hi : PI X tge iter (EvI C src)) (ok : BlkOk X.N X.env.scope scope own)
    (hg : ∀ (s : Shared) (H : Hp) (C' : Addr) (cl : List (Str × Addr)) (fp : List Addr), PG (X.blk s H scope (compEnvC scope cl C' X.env) fp) tge (EvG C.blk tg)) (ht : ∀ (s : Shared) (H : Hp) (C' : Addr) (cl : List (Str × Addr)) (fp : List Addr), PTs (X.blk s H scope (compEnvC scope cl C' X.env) fp) ifs (EvT C.blk tst))
    (he : ∀ (s : Shared) (H : Hp) (C' : Addr) (cl : List (Str × Addr)) (fp : List Addr), PE (X.blk s H scope (compEnvC scope cl C' X.env) fp) elt (EvE C.blk me)) (hs : ∀ x, foldedSetIterable iter X.env x = pure x) :
    PE X (.ListComp elt [⟨tge, iter, ifs, 0⟩] scope pos) (EvF C (mLc (own.map (·.2)) src tg tst me)) := (pe_lc hc hN hi ok hg ht he hs).weak (lc_weak hr ht')
/-- name = [..], on one line -/
theorem qs_setLc {i : Nat} {y : Str} {py : Pos} {elt tge iter : Expr} {ifs : List Expr} {scope : Scope} {own : List (Str × Nat)} {pos spos : Pos} {src : M (List D)} {tg : Tg} {tst : M Bool} {me : M D} (hri : C.rf i = false) (hr : ∀ v ∈ own.map (·.2), C.rf v = false) (ht' : ∀ i ∈ tg.ix, i ∈ own.map (·.2)) (hc : X.calm = true) (hN : X.N.Nodup) (hy : X.N[i]? = some y) (hyl : X.env.scope.names.lookup y = some .local)
    (hsw : swapsWith (.ListComp elt [⟨tge, iter, ifs, 0⟩] scope pos) (some (.Name y py)) spos.line X.env = pure true) (hi : PI X tge iter (EvI C src)) (ok : BlkOk X.N X.env.scope scope own)
    (hg : ∀ (s : Shared) (H : Hp) (C' : Addr) (cl : List (Str × Addr)) (fp : List Addr), PG (X.blk s H scope (compEnvC scope cl C' X.env) fp) tge (EvG C.blk tg)) (ht : ∀ (s : Shared) (H : Hp) (C' : Addr) (cl : List (Str × Addr)) (fp : List Addr), PTs (X.blk s H scope (compEnvC scope cl C' X.env) fp) ifs (EvT C.blk tst))
    (he : ∀ (s : Shared) (H : Hp) (C' : Addr) (cl : List (Str × Addr)) (fp : List Addr), PE (X.blk s H scope (compEnvC scope cl C' X.env) fp) elt (EvE C.blk me)) (hs : ∀ x, foldedSetIterable iter X.env x = pure x) :
    PS X (.Assign [.Name y py] (.ListComp elt [⟨tge, iter, ifs, 0⟩] scope pos) spos) (EvS C (sSetF i (mLc (own.map (·.2)) src tg tst me))) := (ps_setLc hc hN hy hyl hsw hi ok hg ht he hs).weak fun D σ H ⟨L0, O, env, F, h⟩ => by
  refine lc_weak hr ht' σ H _ ⟨L0, O, env, F, (PostS.bindF h).imp fun ds e1 O1 H1 x1 F1 h1 a vs h0 ha FA z r => setF_end hri F x1 F1 h1 h0 ha FA z r⟩
end
end MP

/-! MP, part I: built-ins, methods of texts, f-strings. -/
namespace MP
open L2 PyProof.Rows PySem PySem.Spec

/-! ### types -/
def tyD : D → Option String
  | .non => some "NoneType"
  | .bl _ => some "bool"
  | .int _ => some "int"
  | .str _ => some "str"
  | .tup _ => some "tuple"
  | .lst _ => some "list"
  | .ins _ _ => none
theorem ty_of {g : G} {L : Addr → Prop} {H : Hp} {d : D} {v : V} {t : String} (r : RepP g L H d v) (h : tyD d = some t) : TyX g.K H v (.type t) := by
  cases d with
  | lst xs =>
    cases h
    obtain ⟨a, vs, rfl, s, _⟩ := r.lst
    rcases s with s | ⟨o, s⟩
    · exact .base (.lst s)
    · exact .base (.frz s)
  | non => cases h; have r := r.rep (by intro _ z; cases z); cases r; exact .base .non
  | bl b => cases h; have r := r.rep (by intro _ z; cases z); cases r; exact .base (.bl b)
  | int b => cases h; have r := r.rep (by intro _ z; cases z); cases r; exact .base (.int b)
  | str b => cases h; obtain ⟨rfl, _⟩ := r.rep (by intro _ z; cases z); exact .base (.str _)
  | tup xs =>
    cases h
    obtain ⟨a, vs, rfl, p, _⟩ := r.rep (by intro _ z; cases z)
    rcases p.sq with (s | ⟨o, s⟩) | ⟨o, its, n, e, c, _⟩
    · exact .base (.tup s)
    · exact .fTuple s
    · exact .kTuple e c
  | ins C fs => cases h
/-- is a value of one built-in type of another -/
def isiB (T : String) (d : D) : Option D := match tyD d with
  | some t => (kitB t T).map .bl
  | none => none
section
variable {X : Cx} {C : Cy}
theorem pd_isi {e : Expr} {m : M D} {y : Str} {p p2 pos : Pos} {T : String} (hK : C.g.K = X.K) (hg : Gl X "isinstance") (hm : X.mg "isinstance" = none) (he : PE X e (EvP C m)) (hy : PE X (.Name y p2) (tC (.ty T))) (hs : notStar e = true) :
    PE X (.Call (.Name "isinstance" p) [e, .Name y p2] [] pos) (EvE C (mUn (isiB T) m)) :=
  (pe_callB (call_isi (X := X)) hg hm boot_isinstance (pa_cons he (pa_cons hy pa_nil) (starEach_cons hs)) (by decide) (by decide) (starEach_cons hs) (plain_all (by rfl))).weak fun σ H Q ⟨L0, O, env, F, h⟩ =>
    ⟨L0, O, env, F, (Post.bind h).imp fun d e1 O1 H1 x1 F1 h1 v rv => by
      unfold isiB at h1
      cases et : tyD d with
      | none => rw [et] at h1; exact h1.elim
      | some t =>
        rw [et] at h1
        dsimp only at h1
        cases ek : kitB t T with
        | none => rw [ek] at h1; exact h1.elim
        | some b =>
          rw [ek] at h1
          refine ⟨v, .ty T, .type t, .type T, b, rfl, .ty T, ?_, kit_ty ek, h1.here F1 (.bl b) rfl⟩
          rw [← hK]
          exact ty_of rv et⟩
/-! ### built-ins of one value -/
theorem pd_cb1 {x : Str} {id : String} {e : Expr} {r : List V → Hp → VK → Prop} {f : D → Option D} {m : M D} {p pos : Pos} (hc : CallR X (.builtin id) r) (os : OC1 C.g r f) (hg : Gl X x) (hm : X.mg x = none) (hv : bootBuiltins x = some (.builtin id)) (hn : x ≠ "__name__") (hdb : (x == ("__debug__" : Str)) = false)
    (hs : notStar e = true) (he : PE X e (EvP C m)) : PE X (.Call (.Name x p) [e] [] pos) (EvE C (mUn f m)) :=
  (pe_callB hc hg hm hv (pa_cons he pa_nil (starEach_cons hs)) hn hdb (starEach_cons hs) (plain_all rfl)).weak (cb1_weak os)
theorem pd_ct1 {x : Str} {T : String} {e : Expr} {r : List V → Hp → VK → Prop} {f : D → Option D} {m : M D} {p pos : Pos} (hc : CallR X (.type T) r) (os : OC1 C.g r f) (hg : Gl X x) (hm : X.mg x = none) (hv : bootBuiltins x = some (.type T)) (hn : x ≠ "__name__") (hdb : (x == ("__debug__" : Str)) = false)
    (hs : notStar e = true) (he : PE X e (EvP C m)) : PE X (.Call (.Name x p) [e] [] pos) (EvE C (mUn f m)) :=
  (pe_callTy hc hg hm hv (pa_cons he pa_nil (starEach_cons hs)) hn hdb (starEach_cons hs) (plain_all rfl)).weak (cb1_weak os)
theorem pd_cbF1 {x : Str} {id : String} {e : Expr} {r : List V → Hp → VK → Prop} {f : D → Option (List D)} {m : M D} {p pos : Pos} (hc : CallR X (.builtin id) r) (os : OCF1 C.g r f) (hg : Gl X x) (hm : X.mg x = none) (hv : bootBuiltins x = some (.builtin id)) (hn : x ≠ "__name__") (hdb : (x == ("__debug__" : Str)) = false)
    (hs : notStar e = true) (he : PE X e (EvP C m)) : PE X (.Call (.Name x p) [e] [] pos) (EvF C (mUn f m)) :=
  (pe_callB hc hg hm hv (pa_cons he pa_nil (starEach_cons hs)) hn hdb (starEach_cons hs) (plain_all rfl)).weak (cbF1_weak os)
theorem pd_ctF1 {x : Str} {T : String} {e : Expr} {r : List V → Hp → VK → Prop} {f : D → Option (List D)} {m : M D} {p pos : Pos} (hc : CallR X (.type T) r) (os : OCF1 C.g r f) (hg : Gl X x) (hm : X.mg x = none) (hv : bootBuiltins x = some (.type T)) (hn : x ≠ "__name__") (hdb : (x == ("__debug__" : Str)) = false)
    (hs : notStar e = true) (he : PE X e (EvP C m)) : PE X (.Call (.Name x p) [e] [] pos) (EvF C (mUn f m)) :=
  (pe_callTy hc hg hm hv (pa_cons he pa_nil (starEach_cons hs)) hn hdb (starEach_cons hs) (plain_all rfl)).weak (cbF1_weak os)
theorem pd_cbN {x : Str} {id : String} {e : Expr} {es : List Expr} {r : List V → Hp → VK → Prop} {f : List D → Option D} {m : M (List D)} {p pos : Pos} (hc : CallR X (.builtin id) r) (os : OCN C.g r f) (hg : Gl X x) (hm : X.mg x = none) (hv : bootBuiltins x = some (.builtin id)) (hn : x ≠ "__name__") (hdb : (x == ("__debug__" : Str)) = false)
    (hs : (e :: es).all notStar = true) (ha : PA X (e :: es) (EvA C m)) : PE X (.Call (.Name x p) (e :: es) [] pos) (EvE C (mArgs f m)) := by
  have hs2 := hs
  rw [List.all_cons, Bool.and_eq_true] at hs2
  exact (pe_callB hc hg hm hv ha hn hdb (starEach_cons hs2.1) (plain_all hs2.2)).weak (cbN_weak os)
end
section
variable {g : G}
def lenD : D → Option D
  | .str s => some (.int s.length)
  | .tup xs => some (.int xs.length)
  | .lst xs => some (.int xs.length)
  | _ => none
def rLenU (K : PySem.W.Frag) : List V → Hp → VK → Prop := fun xs H Q => ∃ x n, xs = [x] ∧ LenV K x H n ∧ Q (.int n) H
theorem oc_len {K : PySem.W.Frag} (hK : g.K = K) : OC1 g (rLenU K) lenD := by
  subst hK
  intro L H d k x Q hl rx hf q
  unfold lenD at hf
  split at hf
  · cases hf
    obtain ⟨rfl, ok⟩ := rx.rep (by intro _ z; cases z)
    exact ⟨_, _, rfl, ⟨by rw [str_len]; exact ok.2, rfl⟩, by rw [str_len]; exact q _ H (Same.refl H) rfl⟩
  · cases hf
    obtain ⟨a, vs, rfl, p, r⟩ := rx.rep (by intro _ z; cases z)
    exact ⟨_, vs.length, rfl, .inr ⟨vs, p.sq, rfl⟩, by rw [← r.length]; exact q _ H (Same.refl H) rfl⟩
  · cases hf
    obtain ⟨a, vs, rfl, s, _, r⟩ := rx.lst
    exact ⟨_, vs.length, rfl, .inl ⟨vs, .inl s, rfl⟩, by rw [← r.length]; exact q _ H (Same.refl H) rfl⟩
  · cases hf
def tupD : D → Option D
  | .tup xs => some (.tup xs)
  | .lst xs => some (.tup xs)
  | _ => none
def rTupU (K : PySem.W.Frag) : List V → Hp → VK → Prop := fun xs H Q => ∃ p ys, xs = [.ref p] ∧ ((SqL K H p ys ∧ ∀ l, H l = none → Q (.ref l) (upd H l (.tup ys))) ∨ (SqT K H p ys ∧ Q (.ref p) H))
theorem oc_tup {K : PySem.W.Frag} (hK : g.K = K) : OC1 g (rTupU K) tupD := by
  subst hK
  intro L H d k x Q hl rx hf q
  unfold tupD at hf
  split at hf
  · cases hf
    obtain ⟨a, vs, rfl, p, r⟩ := rx.rep (by intro _ z; cases z)
    exact ⟨a, vs, rfl, .inr ⟨p.sq, q _ H (Same.refl H) ⟨a, vs, rfl, p, r⟩⟩⟩
  · cases hf
    obtain ⟨a, vs, rfl, s, z, r⟩ := rx.lst
    exact ⟨a, vs, rfl, .inl ⟨.inl s, fun l hl' => q _ _ (Same.new hl') (new_tup hl hl' r z)⟩⟩
  · cases hf
def lstF : D → Option (List D)
  | .tup xs => some xs
  | .lst xs => some xs
  | _ => none
def rLstU (K : PySem.W.Frag) : List V → Hp → VK → Prop := fun xs H Q => ∃ p ys, xs = [.ref p] ∧ (SqL K H p ys ∨ SqT K H p ys) ∧ ∀ l, H l = none → Q (.ref l) (upd H l (.lst ys))
theorem oc_lst {K : PySem.W.Frag} (hK : g.K = K) : OCF1 g (rLstU K) lstF := by
  subst hK
  intro L H d zs x Q hl rx hf q
  unfold lstF at hf
  split at hf
  · cases hf
    obtain ⟨a, vs, rfl, p, r⟩ := rx.rep (by intro _ z; cases z)
    refine ⟨a, vs, rfl, .inr p.sq, fun l hl' => ?_⟩
    obtain ⟨n, r2⟩ := new_lst hl hl' r
    exact q l vs _ hl' (Same.new hl') upd_same n p.2 r2
  · cases hf
    obtain ⟨a, vs, rfl, s, z, r⟩ := rx.lst
    refine ⟨a, vs, rfl, .inl (.inl s), fun l hl' => ?_⟩
    obtain ⟨n, r2⟩ := new_lst hl hl' r
    exact q l vs _ hl' (Same.new hl') upd_same n z r2
  · cases hf
def intF : D → Option D
  | .int i => some (.int i)
  | .bl b => some (.int (if b then 1 else 0))
  | .str s => if s.length ≤ 640 then (PySem.intText? ⟨s.toArray⟩).map .int else none
  | _ => none
def rIntU : List V → Hp → VK → Prop := fun xs H Q => ((∃ i, xs = [.int i] ∧ Q (.int i) H) ∨ ∃ k, xs = [.bl k] ∧ Q (.int (if k then 1 else 0)) H) ∨ (∃ a n, xs = [.str a] ∧ PySem.intText? a = some n ∧ a.length ≤ 640 ∧ Q (.int n) H)
theorem cr_intU {X : Cx} : CallR X (.type "int") rIntU := call_int1.or call_int_str
theorem oc_int : OC1 g rIntU intF := by
  intro L H d k x Q hl rx hf q
  unfold intF at hf
  split at hf
  · cases hf
    have rx := rx.rep (by intro _ z; cases z)
    cases rx
    exact .inl (.inl ⟨_, rfl, q _ H (Same.refl H) rfl⟩)
  · cases hf
    have rx := rx.rep (by intro _ z; cases z)
    cases rx
    exact .inl (.inr ⟨_, rfl, q _ H (Same.refl H) rfl⟩)
  · split at hf
    · rename_i s hs
      obtain ⟨rfl, ok⟩ := rx.rep (by intro _ z; cases z)
      obtain ⟨n, en, rfl⟩ := Option.map_eq_some_iff.mp hf
      exact .inr ⟨_, n, rfl, en, by rw [str_len]; exact hs, q _ H (Same.refl H) rfl⟩
    · cases hf
  · cases hf
/-- the digits -/
def digs (i : Int) : Tx := (Str.ofString (toString i)).cps.toList
theorem digs_eq (i : Int) : (⟨(digs i).toArray⟩ : Str) = Str.ofString (toString i) := by
  unfold digs
  simp
theorem digs_asc (i : Int) : ∀ c ∈ digs i, c < 0x110000 := fun c hc => by
  have h : digs i = (toString i).toList.map Char.toNat := PyProof.Rows.signs_ofString _
  rw [h] at hc
  obtain ⟨ch, _, rfl⟩ := List.mem_map.mp hc
  have := ch.valid
  have h3 : ch.toNat = ch.val.toNat := rfl
  rw [h3]
  rcases this with h | h
  · have : ch.val.toNat < 0xd800 := h
    omega
  · have : ch.val.toNat < 0x110000 := h.2
    omega
theorem digs_ok {i : Int} (h : i.natAbs.log2 < 1920) : TxOk (digs i) := ⟨digs_asc i, by
  have h2 : (toString i : Str).length ≤ sizeLine := int_text_fits h
  have e : (digs i).length = (Str.ofString (toString i)).length := by unfold digs; simp [Str.length]
  rw [e]; exact h2⟩
def strF : D → Option D
  | .int i => if i.natAbs.log2 < 1920 then some (.str (digs i)) else none
  | _ => none
def rStrU : List V → Hp → VK → Prop := fun xs H Q => ∃ i, xs = [.int i] ∧ i.natAbs.log2 < 1920 ∧ Q (.str (toString i)) H
theorem oc_str : OC1 g rStrU strF := by
  intro L H d k x Q hl rx hf q
  unfold strF at hf
  split at hf
  · split at hf
    · rename_i i hi
      cases hf
      have rx := rx.rep (by intro _ z; cases z)
      cases rx
      refine ⟨i, rfl, hi, q _ H (Same.refl H) ⟨?_, digs_ok hi⟩⟩
      rw [digs_eq]
    · cases hf
  · cases hf
def absF : D → Option D
  | .int i => some (.int (if i < 0 then -i else i))
  | _ => none
def rAbsU : List V → Hp → VK → Prop := fun xs H Q => ∃ i, xs = [.int i] ∧ Q (.int (if i < 0 then -i else i)) H
theorem oc_abs : OC1 g rAbsU absF := by
  intro L H d k x Q hl rx hf q
  unfold absF at hf
  split at hf
  · cases hf
    have rx := rx.rep (by intro _ z; cases z)
    cases rx
    exact ⟨_, rfl, q _ H (Same.refl H) rfl⟩
  · cases hf
def max2F : List D → Option D
  | [.int i, .int j] => some (.int (if j > i then j else i))
  | _ => none
def min2F : List D → Option D
  | [.int i, .int j] => some (.int (if j < i then j else i))
  | _ => none
def rMax2U : List V → Hp → VK → Prop := fun xs H Q => ∃ i j, xs = [.int i, .int j] ∧ Q (.int (if j > i then j else i)) H
def rMin2U : List V → Hp → VK → Prop := fun xs H Q => ∃ i j, xs = [.int i, .int j] ∧ Q (.int (if j < i then j else i)) H
theorem oc_max2 : OCN g rMax2U max2F := by
  intro L H ds k vs Q hl rs hf q
  unfold max2F at hf
  split at hf
  · cases hf
    obtain ⟨v, w, rfl, rv, rw'⟩ := reps2 rs
    cases rv; cases rw'
    exact ⟨_, _, rfl, q _ H (Same.refl H) rfl⟩
  · cases hf
theorem oc_min2 : OCN g rMin2U min2F := by
  intro L H ds k vs Q hl rs hf q
  unfold min2F at hf
  split at hf
  · cases hf
    obtain ⟨v, w, rfl, rv, rw'⟩ := reps2 rs
    cases rv; cases rw'
    exact ⟨_, _, rfl, q _ H (Same.refl H) rfl⟩
  · cases hf
/-- bools only -/
def blsOf : List D → Option (List Bool)
  | [] => some []
  | .bl b :: r => (blsOf r).map (b :: ·)
  | _ => none
def intsOf : List D → Option (List Int)
  | [] => some []
  | .int b :: r => (intsOf r).map (b :: ·)
  | _ => none
theorem bls_reps {L : Addr → Prop} {H : Hp} : ∀ {ds : List D} {vs : List V} {bs : List Bool}, Reps g L H ds vs → blsOf ds = some bs → vs = bs.map V.bl
  | [], vs, bs, r, h => by cases h; exact r
  | d :: ds, vs, bs, r, h => by
    obtain ⟨v, t, rfl, rv, rt⟩ := r
    cases d with
    | bl b =>
      obtain ⟨bs', h', rfl⟩ := Option.map_eq_some_iff.mp (show (blsOf ds).map (b :: ·) = some bs from h)
      have rv : v = .bl b := rv
      rw [rv, bls_reps rt h', List.map_cons]
    | _ => cases h
theorem ints_reps {L : Addr → Prop} {H : Hp} : ∀ {ds : List D} {vs : List V} {bs : List Int}, Reps g L H ds vs → intsOf ds = some bs → vs = bs.map V.int
  | [], vs, bs, r, h => by cases h; exact r
  | d :: ds, vs, bs, r, h => by
    obtain ⟨v, t, rfl, rv, rt⟩ := r
    cases d with
    | int b =>
      obtain ⟨bs', h', rfl⟩ := Option.map_eq_some_iff.mp (show (intsOf ds).map (b :: ·) = some bs from h)
      have rv : v = .int b := rv
      rw [rv, ints_reps rt h', List.map_cons]
    | _ => cases h
def allF : D → Option D
  | .lst xs => (blsOf xs).map fun bs => .bl (bs.all id)
  | _ => none
def anyF : D → Option D
  | .lst xs => (blsOf xs).map fun bs => .bl (bs.any id)
  | _ => none
theorem oc_all {K : PySem.W.Frag} (hK : g.K = K) : OC1 g (rAll K) allF := by
  subst hK
  intro L H d k x Q hl rx hf q
  unfold allF at hf
  split at hf
  · obtain ⟨bs, hb, rfl⟩ := Option.map_eq_some_iff.mp hf
    obtain ⟨a, vs, rfl, s, _, r⟩ := rx.lst
    exact ⟨a, bs, rfl, by rw [← bls_reps r hb]; exact .inl s, q _ H (Same.refl H) rfl⟩
  · cases hf
theorem oc_any {K : PySem.W.Frag} (hK : g.K = K) : OC1 g (rAny K) anyF := by
  subst hK
  intro L H d k x Q hl rx hf q
  unfold anyF at hf
  split at hf
  · obtain ⟨bs, hb, rfl⟩ := Option.map_eq_some_iff.mp hf
    obtain ⟨a, vs, rfl, s, _, r⟩ := rx.lst
    exact ⟨a, bs, rfl, by rw [← bls_reps r hb]; exact .inl s, q _ H (Same.refl H) rfl⟩
  · cases hf
def sumF : D → Option D
  | .lst xs => (intsOf xs).map fun bs => .int bs.sum
  | _ => none
theorem oc_sum {K : PySem.W.Frag} (hK : g.K = K) : OC1 g (rSum K) sumF := by
  subst hK
  intro L H d k x Q hl rx hf q
  unfold sumF at hf
  split at hf
  · obtain ⟨bs, hb, rfl⟩ := Option.map_eq_some_iff.mp hf
    obtain ⟨a, vs, rfl, s, _, r⟩ := rx.lst
    exact ⟨a, bs, rfl, by rw [← ints_reps r hb]; exact .inl s, q _ H (Same.refl H) rfl⟩
  · cases hf
def mxL : Int → List Int → Int
  | a, [] => a
  | a, b :: r => mxL (if b > a then b else a) r
def mnL : Int → List Int → Int
  | a, [] => a
  | a, b :: r => mnL (if b < a then b else a) r
theorem mxL_ge : ∀ (r : List Int) (a : Int), a ≤ mxL a r ∧ (∀ y ∈ r, y ≤ mxL a r) ∧ (mxL a r = a ∨ mxL a r ∈ r)
  | [], a => ⟨Int.le_refl _, fun _ h => by (cases h), .inl rfl⟩
  | b :: r, a => by
    obtain ⟨h1, h2, h3⟩ := mxL_ge r (if b > a then b else a)
    unfold mxL
    have ha : a ≤ (if b > a then b else a) := by split <;> omega
    have hb : b ≤ (if b > a then b else a) := by split <;> omega
    refine ⟨Int.le_trans ha h1, fun y hy => ?_, ?_⟩
    · rcases List.mem_cons.mp hy with e | e
      · rw [e]; exact Int.le_trans hb h1
      · exact h2 y e
    · rcases h3 with h | h
      · rw [h]
        split
        · exact .inr List.mem_cons_self
        · exact .inl rfl
      · exact .inr (List.mem_cons_of_mem _ h)
theorem mnL_le : ∀ (r : List Int) (a : Int), mnL a r ≤ a ∧ (∀ y ∈ r, mnL a r ≤ y) ∧ (mnL a r = a ∨ mnL a r ∈ r)
  | [], a => ⟨Int.le_refl _, fun _ h => by (cases h), .inl rfl⟩
  | b :: r, a => by
    obtain ⟨h1, h2, h3⟩ := mnL_le r (if b < a then b else a)
    unfold mnL
    have ha : (if b < a then b else a) ≤ a := by split <;> omega
    have hb : (if b < a then b else a) ≤ b := by split <;> omega
    refine ⟨Int.le_trans h1 ha, fun y hy => ?_, ?_⟩
    · rcases List.mem_cons.mp hy with e | e
      · rw [e]; exact Int.le_trans h1 hb
      · exact h2 y e
    · rcases h3 with h | h
      · rw [h]
        split
        · exact .inr List.mem_cons_self
        · exact .inl rfl
      · exact .inr (List.mem_cons_of_mem _ h)
def maxF : D → Option D
  | .lst xs => (match intsOf xs with
    | some (a :: r) => some (.int (mxL a r))
    | _ => none)
  | _ => none
def minF : D → Option D
  | .lst xs => (match intsOf xs with
    | some (a :: r) => some (.int (mnL a r))
    | _ => none)
  | _ => none
theorem oc_max {K : PySem.W.Frag} (hK : g.K = K) : OC1 g (rMax K) maxF := by
  subst hK
  intro L H d k x Q hl rx hf q
  unfold maxF at hf
  split at hf
  · split at hf
    · rename_i a0 r0 hb
      cases hf
      obtain ⟨a, vs, rfl, s, _, r⟩ := rx.lst
      refine ⟨a, a0 :: r0, rfl, by rw [← ints_reps r hb]; exact .inl s, by simp, fun m hm hy => ?_⟩
      obtain ⟨h1, h2, h3⟩ := mxL_ge r0 a0
      have e : m = mxL a0 r0 := by
        have e1 : mxL a0 r0 ≤ m := by
          rcases h3 with h | h
          · rw [h]; exact hy _ List.mem_cons_self
          · exact hy _ (List.mem_cons_of_mem _ h)
        have e2 : m ≤ mxL a0 r0 := by
          rcases List.mem_cons.mp hm with h | h
          · rw [h]; exact h1
          · exact h2 m h
        omega
      exact q _ H (Same.refl H) (by show V.int m = V.int _; rw [e])
    · cases hf
  · cases hf
theorem oc_min {K : PySem.W.Frag} (hK : g.K = K) : OC1 g (rMin K) minF := by
  subst hK
  intro L H d k x Q hl rx hf q
  unfold minF at hf
  split at hf
  · split at hf
    · rename_i a0 r0 hb
      cases hf
      obtain ⟨a, vs, rfl, s, _, r⟩ := rx.lst
      refine ⟨a, a0 :: r0, rfl, by rw [← ints_reps r hb]; exact .inl s, by simp, fun m hm hy => ?_⟩
      obtain ⟨h1, h2, h3⟩ := mnL_le r0 a0
      have e : m = mnL a0 r0 := by
        have e1 : m ≤ mnL a0 r0 := by
          rcases h3 with h | h
          · rw [h]; exact hy _ List.mem_cons_self
          · exact hy _ (List.mem_cons_of_mem _ h)
        have e2 : mnL a0 r0 ≤ m := by
          rcases List.mem_cons.mp hm with h | h
          · rw [h]; exact h1
          · exact h2 m h
        omega
      exact q _ H (Same.refl H) (by show V.int m = V.int _; rw [e])
    · cases hf
  · cases hf
end

/-! ### methods of texts -/
section
variable {X : Cx} {C : Cy} {o e : Expr} {mo me : M D} {apos pos : Pos}
theorem spl_in (S : List Nat) : ∀ (l : List Nat) (k : Nat) (acc p : List Nat), p ∈ TL.spl S k acc l → (∀ c ∈ p, c ∈ acc ∨ c ∈ l) ∧ p.length ≤ acc.length + l.length
  | [], k, acc, p, h => by
    rw [TL.spl_nil] at h
    have e : p = acc := by simpa using h
    rw [e]
    exact ⟨fun c hc => .inl hc, by omega⟩
  | c :: r, 0, acc, p, h => by
    have h : p ∈ (if TL.pre S (c :: r) = true then acc :: TL.spl S (S.length - 1) [] r else TL.spl S 0 (acc ++ [c]) r) := h
    split at h
    · rcases List.mem_cons.mp h with e | e
      · rw [e]
        exact ⟨fun c hc => .inl hc, by omega⟩
      · obtain ⟨h1, h2⟩ := spl_in S r _ [] p e
        exact ⟨fun c hc => (h1 c hc).elim (fun z => by cases z) fun z => .inr (List.mem_cons_of_mem _ z), by simp at h2 ⊢; omega⟩
    · obtain ⟨h1, h2⟩ := spl_in S r 0 (acc ++ [c]) p h
      refine ⟨fun d hd => ?_, by simp at h2 ⊢; omega⟩
      rcases h1 d hd with z | z
      · rcases List.mem_append.mp z with z | z
        · exact .inl z
        · have : d = c := by simpa using z
          exact .inr (by rw [this]; exact List.mem_cons_self)
      · exact .inr (List.mem_cons_of_mem _ z)
  | c :: r, k + 1, acc, p, h => by
    obtain ⟨h1, h2⟩ := spl_in S r k acc p h
    exact ⟨fun d hd => (h1 d hd).elim .inl fun z => .inr (List.mem_cons_of_mem _ z), by simp; omega⟩
def strOf : D → Option Tx
  | .str s => some s
  | _ => none
/-- a text's method of one value -/
def mMs {α : Type} (f : Tx → D → Option α) (a b : M D) : M α := do
  let x ← a
  let s ← lift (strOf x)
  let y ← b
  lift (f s y)
def OMS (g : G) (r : V → List V → Hp → VK → Prop) (f : Tx → D → Option D) : Prop := ∀ (L : Addr → Prop) (H : Hp) (s : Tx) (e k : D) (y : V) (Q : VK), (∀ a, L a → ∃ o, H a = some o) → TxOk s → Rep g L H e y → f s e = some k → (∀ v H', Same H H' → Rep g L H' k v → Q v H') → r (.str ⟨s.toArray⟩) [y] H Q
def OMSF (g : G) (r : V → List V → Hp → VK → Prop) (f : Tx → D → Option (List D)) : Prop := ∀ (L : Addr → Prop) (H : Hp) (s : Tx) (e : D) (zs : List D) (y : V) (Q : VK), (∀ a, L a → ∃ o, H a = some o) → TxOk s → Rep g L H e y → f s e = some zs →
  (∀ a vs H', H a = none → Same H H' → H' a = some (.lst vs) → ¬ L a → vs.length ≤ sizeLine → Reps g (fun b => L b ∨ b = a) H' zs vs → Q (.ref a) H') → r (.str ⟨s.toArray⟩) [y] H Q
theorem m1_weak {r : V → List V → Hp → VK → Prop} {f : Tx → D → Option D} (os : OMS C.g r f) (σ : L2.St) (H : Hp) (Q : VK) (h : EvE C (mMs f mo me) σ H Q) : tM1 r (EvP C mo) (EvE C me) σ H Q := by
  obtain ⟨L0, O, env, F, h⟩ := h
  refine ⟨L0, O, env, F, (Post.bind h).imp fun d e1 O1 H1 x1 F1 h1 v rv => ?_⟩
  have h1 := Post.bind h1
  cases d with
  | str s =>
    obtain ⟨rfl, ok⟩ := rv.rep (by intro _ z; cases z)
    refine ⟨⟨_, rfl⟩, L0, O1, e1, F1, (Post.bind (h1.here F1)).imp fun d2 e2 O2 H2 x2 F2 h2 u ru => ?_⟩
    cases ef : f s d2 with
    | none => rw [ef] at h2; exact h2.elim
    | some k =>
      rw [ef] at h2
      exact os _ H2 s d2 k u Q F2.trk ok ru ef fun v H' s' rv => h2 O2 H' (Ext.same s') (F2.same s') v rv
  | _ => exact h1.elim
theorem m1F_weak {r : V → List V → Hp → VK → Prop} {f : Tx → D → Option (List D)} (os : OMSF C.g r f) (σ : L2.St) (H : Hp) (Q : VK) (h : EvF C (mMs f mo me) σ H Q) : tM1 r (EvP C mo) (EvE C me) σ H Q := by
  obtain ⟨L0, O, env, F, h⟩ := h
  refine ⟨L0, O, env, F, (Post.bind h).imp fun d e1 O1 H1 x1 F1 h1 v rv => ?_⟩
  have h1 := Post.bind h1
  cases d with
  | str s =>
    obtain ⟨rfl, ok⟩ := rv.rep (by intro _ z; cases z)
    refine ⟨⟨_, rfl⟩, L0, O1, e1, F1, (Post.bind (h1.here F1)).imp fun d2 e2 O2 H2 x2 F2 h2 u ru => ?_⟩
    cases ef : f s d2 with
    | none => rw [ef] at h2; exact h2.elim
    | some k =>
      rw [ef] at h2
      exact os _ H2 s d2 k u Q F2.trk ok ru ef fun a vs H' n s' e nl z rv => h2 O2 H' (Ext.same s') (F2.same s') a vs (x1.none (x2.none n)) e (F2.newA n s' e) z (Reps.mono (XT.less fun b q => LA.cases q) _ _ rv)
  | _ => exact h1.elim
def splitF : Tx → D → Option (List D)
  | s, .str [c] => if s.length ≤ 1000000 ∧ c < 256 then some ((TL.spl [c] 0 [] s).map .str) else none
  | _, _ => none
theorem split_tx (s : Tx) (c : Nat) (hc : c < 256) : (Txt.split ⟨s.toArray⟩ ⟨#[c]⟩).map V.str = (TL.spl [c] 0 [] s).map fun t => V.str ⟨t.toArray⟩ := by
  have h := TL.split_spl ⟨s.toArray⟩ ⟨#[c]⟩ (by simp [TL.tl]) (TL.kind_ok (by simpa using hc))
  have e : TL.tl ⟨#[c]⟩ = [c] := rfl
  have e2 : TL.tl ⟨s.toArray⟩ = s := rfl
  rw [e, e2] at h
  rw [← h, List.map_map]
  refine List.map_congr_left fun z _ => ?_
  show V.str z = V.str ⟨(TL.tl z).toArray⟩
  rw [TL.mk_tl]
theorem reps_strs {g : G} {L : Addr → Prop} {H : Hp} : ∀ {ts : List Tx}, (∀ t ∈ ts, TxOk t) → Reps g L H (ts.map .str) (ts.map fun t => V.str ⟨t.toArray⟩)
  | [], _ => rfl
  | t :: ts, h => .cons ⟨rfl, h t List.mem_cons_self⟩ (reps_strs fun u hu => h u (List.mem_cons_of_mem _ hu))
theorem spl_len (S : List Nat) : ∀ (l : List Nat) (k : Nat) (acc : List Nat), (TL.spl S k acc l).length ≤ l.length + 1
  | [], k, acc => by rw [TL.spl_nil]; simp
  | c :: r, 0, acc => by
    show (if TL.pre S (c :: r) = true then acc :: TL.spl S (S.length - 1) [] r else TL.spl S 0 (acc ++ [c]) r).length ≤ _
    split
    · have := spl_len S r (S.length - 1) []
      simp; omega
    · have := spl_len S r 0 (acc ++ [c])
      simp; omega
  | c :: r, k + 1, acc => by
    have := spl_len S r k acc
    show (TL.spl S k acc r).length ≤ _
    simp; omega
def rSplit : V → List V → Hp → VK → Prop := fun x xs H Q => ∃ a b, x = .str a ∧ xs = [.str b] ∧ (b.length == 0) = false ∧ a.length + 2 ≤ sizeLine ∧ rNewStrs (Txt.split a b) H Q
theorem om_split {g : G} : OMSF g rSplit splitF := by
  intro L H s d zs y Q hl ok ry ef q
  unfold splitF at ef
  split at ef
  · rename_i c
    split at ef
    · rename_i hc
      cases ef
      obtain ⟨rfl, ok2⟩ := ry
      have hb := big hc.1
      have h24 : 1000000 + 2 ≤ sizeLine := by rw [sizeLine_eq]; decide
      refine ⟨_, _, rfl, rfl, rfl, by rw [str_len]; omega, fun p hp => ?_⟩
      have hz : ((TL.spl [c] 0 [] s).map fun t => V.str ⟨t.toArray⟩).length ≤ sizeLine := by
        rw [List.length_map]
        have := spl_len [c] s 0 []
        omega
      have et : (Txt.split ⟨s.toArray⟩ ⟨#[c]⟩).map V.str = _ := split_tx s c hc.2
      show Q (.ref p) (upd H p (.lst ((Txt.split ⟨s.toArray⟩ ⟨#[c]⟩).map V.str)))
      rw [et]
      have rr : Reps g L H ((TL.spl [c] 0 [] s).map .str) ((TL.spl [c] 0 [] s).map fun t => V.str ⟨t.toArray⟩) := reps_strs fun t ht => by
        obtain ⟨a1, a2⟩ := spl_in [c] s 0 [] t ht
        exact ⟨fun k hk => (a1 k hk).elim (fun z => by cases z) fun z => ok.1 k z, by simp at a2; omega⟩
      obtain ⟨n, r2⟩ := new_lst hl hp rr
      exact q p _ _ hp (Same.new hp) upd_same n hz r2
    · cases ef
  · cases ef
theorem pd_split (ho : PE X o (EvP C mo)) (he : PE X e (EvE C me)) (hs : starEach [e] X.env = [(false, eval e X.env)]) (hbase : attributeBase o "split" X.env (eval o X.env) = eval o X.env) (hline : (apos.endLine == pos.line) = true) :
    PE X (.Call (.Attribute o "split" apos) [e] [] pos) (EvF C (mMs splitF mo me)) := (pe_split ho he hs hbase hline).weak (m1F_weak om_split)
/-- texts only -/
def strsOf : List D → Option (List Tx)
  | [] => some []
  | .str s :: r => (strsOf r).map (s :: ·)
  | _ => none
theorem strs_reps {g : G} {L : Addr → Prop} {H : Hp} : ∀ {ds : List D} {vs : List V} {bs : List Tx}, Reps g L H ds vs → strsOf ds = some bs → vs = (bs.map fun t => (⟨t.toArray⟩ : Str)).map V.str ∧ ∀ t ∈ bs, TxOk t
  | [], vs, bs, r, h => by cases h; exact ⟨r, fun t ht => by cases ht⟩
  | d :: ds, vs, bs, r, h => by
    obtain ⟨v, t, rfl, rv, rt⟩ := r
    cases d with
    | str b =>
      obtain ⟨bs', h', rfl⟩ := Option.map_eq_some_iff.mp (show (strsOf ds).map (b :: ·) = some bs from h)
      obtain ⟨rfl, ok⟩ := rv
      obtain ⟨e, ok2⟩ := strs_reps rt h'
      exact ⟨by rw [e]; rfl, fun u hu => (List.mem_cons.mp hu).elim (fun z => by rw [z]; exact ok) (ok2 u)⟩
    | _ => cases h
def seqOf : D → Option (List D)
  | .lst xs => some xs
  | .tup xs => some xs
  | _ => none
def joinF (s : Tx) (d : D) : Option D := match seqOf d with
    | none => none
    | some xs => (match strsOf xs with
      | none => none
      | some ts => if (ts.map (·.length)).sum + ts.length * s.length ≤ 16777216 ∧ (TL.joinL s ts).length ≤ 1000000 then some (.str (TL.joinL s ts)) else none)
def rJoin (K : PySem.W.Frag) : V → List V → Hp → VK → Prop := fun x xs H Q => ∃ a p, ∃ ys : List Str, x = .str a ∧ xs = [.ref p] ∧ (SqL K H p (ys.map V.str) ∨ SqT K H p (ys.map V.str)) ∧ (ys.map (·.length)).sum + ys.length * a.length ≤ 16777216 ∧ Q (.str (Txt.join a ys)) H
theorem joinL_in (s : Tx) : ∀ (ts : List Tx) (c : Nat), c ∈ TL.joinL s ts → c ∈ s ∨ ∃ t ∈ ts, c ∈ t
  | [], c, h => by cases h
  | [p], c, h => .inr ⟨p, List.mem_cons_self, h⟩
  | p :: q :: r, c, h => by
    have h : c ∈ p ++ (s ++ TL.joinL s (q :: r)) := h
    rcases List.mem_append.mp h with h | h
    · exact .inr ⟨p, List.mem_cons_self, h⟩
    · rcases List.mem_append.mp h with h | h
      · exact .inl h
      · rcases joinL_in s (q :: r) c h with z | ⟨t, z1, z2⟩
        · exact .inl z
        · exact .inr ⟨t, List.mem_cons_of_mem _ z1, z2⟩
theorem om_join {g : G} {K : PySem.W.Frag} (hK : g.K = K) : OMS g (rJoin K) joinF := by
  subst hK
  intro L H s d k y Q hl ok ry ef q
  unfold joinF at ef
  have key : ∀ (xs : List D) (vs : List V) (a : Addr), y = .ref a → (SqL g.K H a vs ∨ SqT g.K H a vs) → Reps g L H xs vs → seqOf d = some xs → rJoin g.K (.str ⟨s.toArray⟩) [y] H Q := fun xs vs a ey sq rs es => by
    rw [es] at ef
    dsimp only at ef
    cases et : strsOf xs with
    | none => rw [et] at ef; cases ef
    | some ts =>
      rw [et] at ef
      dsimp only at ef
      split at ef
      · rename_i hz
        cases ef
        obtain ⟨e, ok2⟩ := strs_reps rs et
        have ej : Txt.join ⟨s.toArray⟩ (ts.map fun t => (⟨t.toArray⟩ : Str)) = ⟨(TL.joinL s ts).toArray⟩ := by
          rw [TL.join_eq]
          refine TL.ext_tl ?_
          rw [TL.tl_join]
          have e1 : ((ts.map fun t => (⟨t.toArray⟩ : Str)).map TL.tl) = ts := by
            rw [List.map_map]
            exact List.map_id'' (fun _ => rfl) _
          rw [e1] <;> rfl
        refine ⟨_, a, ts.map fun t => (⟨t.toArray⟩ : Str), rfl, by rw [ey], by rw [← e]; exact sq, ?_, ?_⟩
        · have e1 : ((ts.map fun t => (⟨t.toArray⟩ : Str)).map (·.length)) = ts.map (·.length) := by
            rw [List.map_map]
            exact List.map_congr_left fun t _ => str_len t
          rw [e1, List.length_map, str_len]
          exact hz.1
        · rw [ej]
          refine q _ H (Same.refl H) ⟨rfl, fun c hc => ?_, big hz.2⟩
          rcases joinL_in s ts c hc with z | ⟨t, z1, z2⟩
          · exact ok.1 c z
          · exact (ok2 t z1).1 c z2
      · cases ef
  cases d with
  | lst xs =>
    obtain ⟨a, vs, rfl, p, rs⟩ := ry
    exact key xs vs a rfl (.inl p.sq) rs rfl
  | tup xs =>
    obtain ⟨a, vs, rfl, p, rs⟩ := ry
    exact key xs vs a rfl (.inr p.sq) rs rfl
  | _ => cases ef
theorem pd_join (hK : C.g.K = X.K) (ho : PE X o (EvP C mo)) (he : PE X e (EvE C me)) (hs : starEach [e] X.env = [(false, eval e X.env)]) (hbase : attributeBase o "join" X.env (eval o X.env) = eval o X.env) (hline : (apos.endLine == pos.line) = true) :
    PE X (.Call (.Attribute o "join" apos) [e] [] pos) (EvE C (mMs joinF mo me)) := (pe_join ho he hs hbase hline).weak (m1_weak (om_join hK))
def findF : Tx → D → Option D
  | s, .str t => some (.int (Txt.find ⟨s.toArray⟩ ⟨t.toArray⟩))
  | _, _ => none
def rFind : V → List V → Hp → VK → Prop := fun x xs H Q => ∃ a b, x = .str a ∧ xs = [.str b] ∧ Q (.int (Txt.find a b)) H
theorem om_find {g : G} : OMS g rFind findF := by
  intro L H s d k y Q hl ok ry ef q
  unfold findF at ef
  split at ef
  · cases ef
    obtain ⟨rfl, _⟩ := ry
    exact ⟨_, _, rfl, rfl, q _ H (Same.refl H) rfl⟩
  · cases ef
theorem pd_find (ho : PE X o (EvP C mo)) (he : PE X e (EvE C me)) (hs : starEach [e] X.env = [(false, eval e X.env)]) (hbase : attributeBase o "find" X.env (eval o X.env) = eval o X.env) (hline : (apos.endLine == pos.line) = true) :
    PE X (.Call (.Attribute o "find" apos) [e] [] pos) (EvE C (mMs findF mo me)) := (pe_m1 F.slot_str_find F.type_str_find mt_find ho he hs hbase hline).weak (m1_weak om_find)

/-! ### f-strings -/
def fmtF : D → Option D
  | .str s => some (.str s)
  | .int i => if i.natAbs.log2 < 1920 then some (.str (digs i)) else none
  | _ => none
theorem pd_fmt (he : PE X e (EvE C me)) : PE X (.FormattedValue e (-1) none pos) (EvE C (mUn fmtF me)) := (pe_fmt he).weak fun σ H Q ⟨L0, O, env, F, h⟩ =>
  ⟨L0, O, env, F, (Post.bind h).imp fun d e1 O1 H1 x1 F1 h1 v rv => by
    cases d with
    | str s =>
      obtain ⟨rfl, ok⟩ := rv
      exact .inl ⟨_, rfl, by rw [str_len]; exact ok.2, h1.here F1 _ ⟨rfl, ok⟩⟩
    | int i =>
      have rv : v = .int i := rv
      subst rv
      have h1 : Post C L0 O1 H1 σ (lift (if i.natAbs.log2 < 1920 then some (.str (digs i)) else none) e1) (fun d _ O' H' => ∀ v, Rep C.g (LL L0 O') H' d v → Q v H') := h1
      by_cases hi : i.natAbs.log2 < 1920
      · rw [if_pos hi] at h1
        refine .inr ⟨i, rfl, hi, h1.here F1 _ ⟨?_, digs_ok hi⟩⟩
        rw [digs_eq]
      · rw [if_neg hi] at h1; exact h1.elim
    | _ => exact h1.elim⟩
def mJs : List (M D) → Tx → M D
  | [], acc => fun e => .ok (.str acc) e
  | m :: ms, acc => do
    let d ← m
    let s ← lift (strOf d)
    if acc.length + s.length ≤ 1000000 then mJs ms (acc ++ s) else bad
inductive Pjs (X : Cx) (C : Cy) : List Expr → List (M D) → Prop where
  | nil : Pjs X C [] []
  | cons {e : Expr} {m : M D} {es : List Expr} {ms : List (M D)} (h : PE X e (EvE C m)) (r : Pjs X C es ms) : Pjs X C (e :: es) (m :: ms)
theorem Pjs.pj {es : List Expr} {ms : List (M D)} (h : Pjs X C es ms) : PJ X es (ms.map (EvE C)) := by
  induction h with
  | nil => exact .nil
  | cons h r ih => exact .cons h ih
theorem js_run {Q : VK} {σ : L2.St} {L0 : Addr → Prop} : ∀ (ms : List (M D)) (acc : Tx) (O : Own) (H : Hp) (env : Env), TxOk acc → C.F L0 O H σ env → Post C L0 O H σ (mJs ms acc env) (fun d _ O' H' => ∀ v, Rep C.g (LL L0 O') H' d v → Q v H') →
    tJs (ms.map (EvE C)) ⟨acc.toArray⟩ σ H fun out H1 => Q (.str out) H1
  | [], acc, O, H, env, ok, F, h => h.here F _ ⟨rfl, ok⟩
  | m :: ms, acc, O, H, env, ok, F, h => by
    refine ⟨L0, O, env, F, (Post.bind h).imp fun d e1 O1 H1 x1 F1 h1 v rv => ?_⟩
    have h1 := Post.bind h1
    cases d with
    | str s =>
      obtain ⟨rfl, ok2⟩ := rv
      have h1 := h1.here F1
      by_cases hz : acc.length + s.length ≤ 1000000
      · rw [if_pos hz] at h1
        refine ⟨_, rfl, by rw [str_app, str_len, List.length_append]; exact big hz, ?_⟩
        rw [str_app]
        exact js_run ms (acc ++ s) O1 H1 e1 (ok.app ok2 (big hz)) F1 h1
      · rw [if_neg hz] at h1; exact h1.elim
    | _ => exact h1.elim
theorem pd_joined {v1 v2 : Expr} {rest : List Expr} {ms : List (M D)} (h : Pjs X C (v1 :: v2 :: rest) ms) : PE X (.JoinedStr (v1 :: v2 :: rest) pos) (EvE C (mJs ms [])) := (pe_joined h.pj).weak fun σ H Q ⟨L0, O, env, F, h⟩ =>
  js_run ms [] O H env ⟨fun c hc => (by cases hc), Nat.zero_le _⟩ F h
theorem pd_joined1 (he : PE X e (EvE C me)) : PE X (.JoinedStr [e] pos) (EvE C me) := pe_joined1 he
end

/-! ### constants -/
section
variable {X : Cx} {C : Cy}
theorem pd_int {i : Int} {j pos} : PE X (.Constant (.int i) j pos) (EvE C (mC (.int i))) := pd_c pe_int fun _ _ => rfl
theorem pd_bl {b j pos} : PE X (.Constant (.bool b) j pos) (EvE C (mC (.bl b))) := pd_c pe_bl fun _ _ => rfl
theorem pd_non {j pos} : PE X (.Constant .none j pos) (EvE C (mC .non)) := pd_c pe_non fun _ _ => rfl
def okT (s : Tx) : Bool := s.all (· < 0x110000) && decide (s.length ≤ 1000000)
theorem okT_ok {s : Tx} (h : okT s = true) : TxOk s := by
  unfold okT at h
  rw [Bool.and_eq_true] at h
  exact ⟨fun c hc => by simpa using List.all_eq_true.mp h.1 c hc, big (of_decide_eq_true h.2)⟩
theorem pd_str {x : Str} {s : Tx} {j pos} (hs : x = ⟨s.toArray⟩) (h : okT s = true) : PE X (.Constant (.str x) j pos) (EvE C (mC (.str s))) := pd_c pe_str fun _ _ => ⟨by rw [hs], okT_ok h⟩
/-- -n -/
theorem pd_neg {i : Int} {j : Nat} {p pos : Pos} : PE X (.UnaryOp .USub (.Constant (.int i) j p) pos) (EvE C (mC (.int (-i)))) := by
  refine pd_c (v := .int (-i)) ?_ fun _ _ => rfl
  exact (pe_un un_neg (pe_int (i := i))).weak fun σ H Q h => ⟨i, rfl, h⟩
/-- a text of the module -/
theorem pd_globS {x : Str} {s : Tx} {u : Value} {pos : Pos} (hg : Gl X x) (hm : X.mg x = some u) (r : RelV (.str ⟨s.toArray⟩) u) (h : okT s = true) (hd : (x == ("__debug__" : Str)) = false) : PE X (.Name x pos) (EvE C (mC (.str s))) := pd_c (pe_glob hg hm r hd) fun _ _ => ⟨rfl, okT_ok h⟩
theorem pd_globI {x : Str} {i : Int} {u : Value} {pos : Pos} (hg : Gl X x) (hm : X.mg x = some u) (r : RelV (.int i) u) (hd : (x == ("__debug__" : Str)) = false) : PE X (.Name x pos) (EvE C (mC (.int i))) := pd_c (pe_glob hg hm r hd) fun _ _ => rfl
/-- flat data, as a value that needs no heap -/
inductive Flat : D → V → Prop where
  | non : Flat .non .non
  | bl (b : Bool) : Flat (.bl b) (.bl b)
  | int (i : Int) : Flat (.int i) (.int i)
  | str {s : Tx} (h : okT s = true) : Flat (.str s) (.str ⟨s.toArray⟩)
inductive Flats : List D → List V → Prop where
  | nil : Flats [] []
  | cons {d : D} {v : V} {ds : List D} {vs : List V} (h : Flat d v) (r : Flats ds vs) : Flats (d :: ds) (v :: vs)
theorem Flat.rep {g : G} {L : Addr → Prop} {H : Hp} {d : D} {v : V} (h : Flat d v) : Rep g L H d v := by
  cases h with
  | str h => exact ⟨rfl, okT_ok h⟩
  | _ => rfl
theorem Flats.reps {g : G} {L : Addr → Prop} {H : Hp} {ds : List D} {vs : List V} (h : Flats ds vs) : Reps g L H ds vs := by
  induction h with
  | nil => rfl
  | cons h r ih => exact .cons h.rep ih
/-- a tuple of the module -/
theorem pd_globT {x : Str} {a : Addr} {ds : List D} {vs : List V} {pos : Pos} (hK : C.g.K = X.K) (hg : Gl X x) (hm : X.mg x = some (.ref a)) (ht : SqT X.K (fun _ => none) a vs) (hz : vs.length ≤ sizeLine) (fl : Flats ds vs) (hd : (x == ("__debug__" : Str)) = false) : PE X (.Name x pos) (EvE C (mC (.tup ds))) :=
  pd_c (pe_glob (v := .ref a) hg hm rfl hd) fun _ _ => ⟨a, vs, rfl, ⟨.inr (by rw [hK]; exact ht), hz⟩, fl.reps⟩
end
end MP

/-! MP, part J: stores to places, returns, raise, try, the def rule. -/
namespace MP
open L2 PyProof.Rows PySem PySem.Spec

/-! ### x[i] = e, x a slot's own list -/
def setIx (k : D) (d : D) (xs : List D) : Option (List D) := match k with
  | .int j => (ixN xs.length j).map fun p => xs.set p d
  | _ => none
def sIx (i : Nat) (mi me : M D) : MS := sE me fun d => sE (chkO i) fun _ => sE mi fun k => fun e => match ownD i e with
  | none => .bad
  | some xs => (match setIx k d xs with
    | none => .bad
    | some ys => .ok .nx (e.set i (some (.ml ys))))
section
variable {X : Cx} {C : Cy} {pos : Pos}
theorem qs_ix {i : Nat} {x : Str} {p p2 : Pos} {ei e : Expr} {mi me : M D} (hx : PE X (.Name x p) (tVar i)) (hi : PE X ei (EvE C mi)) (he : PE X e (EvE C me)) (ha : ∀ v, assign (.Subscript (.Name x p) ei p2) X.env v = (do
      let ov ← holding [v] (eval (.Name x p) X.env)
      let iv ← holding [v, ov] (eval ei X.env)
      standAt p2
      holding [v, ov, iv] (setItem ov iv v)
      release [v, ov, iv] [])) (hs : swapsWithSole [.Subscript (.Name x p) ei p2] e pos.line X.env = pure false) (hw : swappedStores [.Subscript (.Name x p) ei p2] e X.env = pure none)
    (h1 : (assignEach [.Subscript (.Name x p) ei p2] X.env).map (·.2) = [assign (.Subscript (.Name x p) ei p2) X.env]) : PS X (.Assign [.Subscript (.Name x p) ei p2] e pos) (EvS C (sIx i mi me)) :=
  (ps_asg he (pg_sub hx hi set_list ha) hs hw h1).weak fun D σ H ⟨L0, O, env, F, h⟩ => by
    refine ⟨L0, O, env, F, (PostS.bindE h).imp fun d e1 O1 H1 x1 F1 h1 v rv => ?_⟩
    have h1 := PostS.bindE h1
    have s := F1.sl i
    unfold chkO at h1
    split at h1
    · rename_i ds hq
      rw [hq] at s
      obtain ⟨a, vs, hO, hσ, hb, z, r⟩ := s
      refine ⟨.ref a, hσ, L0, O1, e1, F1, (PostS.bindE (h1.here F1)).imp fun k e2 O2 H2 x2 F2 h2 w rw' => ?_⟩
      cases eo : ownD i e2 with
      | none => rw [eo] at h2; exact h2.elim
      | some xs =>
        rw [eo] at h2
        dsimp only at h2
        obtain ⟨b, us, hO2, hσ2, hb2, z2, r2, hi2⟩ := F2.ownd eo
        rw [hσ] at hσ2
        cases hσ2
        unfold setIx at h2
        split at h2
        · exact h2.elim
        · rename_i ys ey
          split at ey
          · rename_i j
            obtain ⟨q, eq, rfl⟩ := Option.map_eq_some_iff.mp ey
            have rw' : w = .int j := rw'
            subst rw'
            refine ⟨a, us, j, q, rfl, rfl, hb2, by rw [← r2.length]; exact eq, ?_⟩
            obtain ⟨ex, F3⟩ := F2.wr (us := us.set q v) (ds := xs.set q d) hO2 hi2 hσ (by rw [List.length_set]; exact z2) (r2.set q (rv.at x2))
            exact h2 σ O2 _ ex F3
          · cases ey
    · exact h1.elim
/-- return x, x a local name -/
def sRetX (i : Nat) : MS := fun e => match e[i]? with
  | some (some (.p d)) => .ok (.rt d) e
  | some (some (.ml xs)) => .ok (.rtx i xs) e
  | _ => .bad
theorem qs_retX {i : Nat} {x : Str} {p : Pos} (hr : C.rf i = false) (hx : PE X (.Name x p) (tVar i)) : PS X (.Return (some (.Name x p)) pos) (EvS C (sRetX i)) := (ps_ret hx).weak fun D σ H ⟨L0, O, env, F, h⟩ => by
  have s := F.sl i
  unfold sRetX at h
  split at h
  · rename_i d hq
    rw [hq] at s
    obtain ⟨_, v, e, r⟩ := s
    exact ⟨v, e, h.here F v r⟩
  · rename_i ds hq
    rw [hq] at s
    obtain ⟨a, vs, hO, hσ, hb, z, r⟩ := s
    exact ⟨.ref a, hσ, h.here F a vs hr hO hb z r⟩
  · exact h.elim
/-- return a list just made -/
def sRetF (m : M (List D)) : MS := sE m fun ds e => .ok (.rtf ds) e
theorem qs_retF {e : Expr} {m : M (List D)} (he : PE X e (EvF C m)) : PS X (.Return (some e) pos) (EvS C (sRetF m)) := (ps_ret he).weak fun D σ H ⟨L0, O, env, F, h⟩ =>
  ⟨L0, O, env, F, (PostS.bindE h).imp fun ds e1 O1 H1 x1 F1 h1 a vs h0 ha FA z r => h1.here F1 a vs (F.fresh h0).2 ha FA z r⟩
/-- a call (or another expression that makes a list) whose value is dropped -/
def sDropF (m : M (List D)) : MS := sE m fun _ => sNx
theorem qs_dropF {e : Expr} {m : M (List D)} (hc : notComp e = true) (he : PE X e (EvF C m)) : PS X (.Expr e pos) (EvS C (sDropF m)) := (ps_expr he (swaps_no hc)).weak fun D σ H ⟨L0, O, env, F, h⟩ =>
  ⟨L0, O, env, F, (PostS.bindE h).imp fun d e1 O1 H1 x1 F1 h1 a vs _ _ _ _ _ => h1.here F1⟩
end

/-! ### raise C(..), C an own class over ValueError -/
/-- the promise of such a class's __init__: its fields are what it is made with -/
def spIni (K : PySem.W.Frag) (C : Addr) (names : List Tx) : Sp := fun vs H Q _ => ∃ (a : Addr) (ws : List V), vs = .ref a :: ws ∧ ws.length = names.length ∧ OexC K C ∧ H a = some (exo a C none) ∧
  ∀ (dx : Addr) (fs : List (Str × V)), H dx = none → dx ≠ a → FldOk names ws fs → Q .non (upd (upd H dx (exd dx fs)) a (exo a C (some dx)))
def sRaise (cls : Tx) (k : Nat) (m : M (List D)) : MS := sE m fun ds e => if ds.length = k then .ex ⟨cls, ds⟩ e else .bad
section
variable {X : Cx} {C : Cy} {pos : Pos}
theorem FldOk.nil {names : List Tx} {ws : List V} {fs : List (Str × V)} (h : FldOk names ws fs) : ws.length = names.length := h.1
theorem qs_raise {x : Str} {cls : Tx} {fI : Addr} {k : Nat} {fd : FuncData} {ps : List Str} {e : Expr} {es : List Expr} {m : M (List D)} {p cpos : Pos} (hc : X.calm = true) (tk : Takes X C.W) (hK : C.g.K = X.K) (T : OexC X.K (C.g.ca cls)) (iC : PySem.W.findIn X.K (.ref (C.g.ca cls)) "__init__" = some (some (.ref fI))) (tI : PySem.W.typeIn X.K (.ref fI) = some (.type "function"))
    (F1 : FnOk X.prog X.w X.K X.mg X.base CX0 k fI fd ps (spIni X.K (C.g.ca cls) (C.g.fl cls))) (hr : Room (k + 1) X.A) (hb : Binds X.K fd ps []) (hg : Gl X x) (hm : X.mg x = some (.ref (C.g.ca cls))) (ha : PA X (e :: es) (EvA C m)) (hdb : (x == ("__debug__" : Str)) = false) (hs : (e :: es).all notStar = true)
    (hsmall : (C.g.fl cls).length ≤ 900) : PS X (.Raise (some (.Call (.Name x p) (e :: es) [] cpos)) none pos) (EvS C (sRaise cls (C.g.fl cls).length m)) := by
  have hs2 := hs
  rw [List.all_cons, Bool.and_eq_true] at hs2
  refine (ps_raise hc tk (pmk_oex (pos := cpos) T iC tI F1 hr hb .nil pass0 hg hm ha hdb (starEach_cons hs2.1) (plain_all hs2.2))).weak fun D σ H ⟨L0, O, env, F, h⟩ => ?_
  refine ⟨L0, O, env, F, (PostS.bindE h).imp fun ds e1 O1 H1 x1 F1 h1 vs rs => ?_⟩
  by_cases hk : ds.length = (C.g.fl cls).length
  · rw [if_pos hk] at h1
    have hl : vs.length = (C.g.fl cls).length := by rw [← rs.length]; exact hk
    refine ⟨by omega, fun a hn => ⟨a, vs, by rw [List.append_nil], hl, T, upd_same, fun dx fs hdx hne fo => ⟨rfl, dx, fs, upd_same, by rw [upd_ne hne]; exact upd_same, ?_, ?_⟩⟩⟩
    · rw [upd_ne hne] at hdx; exact hdx
    · have hdx1 : H1 dx = none := by rw [upd_ne hne] at hdx; exact hdx
      have s : Same H1 (upd (del (upd (upd (upd H1 a (exo a (C.g.ca cls) none)) dx (exd dx fs)) a (exo a (C.g.ca cls) (some dx))) a) dx (.xd fs)) := fun b o eb => by
        have nb1 : b ≠ dx := fun q => by rw [q, hdx1] at eb; cases eb
        have nb2 : b ≠ a := fun q => by rw [q, hn] at eb; cases eb
        rw [upd_ne nb1, del_ne nb2, upd_ne nb2, upd_ne nb1, upd_ne nb2]
        exact eb
      refine h1 _ _ σ O1 _ (Ext.same s) (F1.same s) ⟨rfl, dx, fs, vs, rfl, upd_same, fun q => ?_, fo, Reps.mono (XT.same s) ds vs rs⟩
      obtain ⟨o, eo⟩ := F1.trk dx q
      rw [hdx1] at eo; cases eo
  · rw [if_neg hk] at h1; exact h1.elim
end

/-! ### try .. except C as e -/
def calmE (e : Env) : Bool := e.all fun v => match v with
  | some (.x _) => false
  | _ => true
def okFl (i : Nat) : Fl → Bool
  | .rtx k _ => k != i
  | _ => true
def sTryAs (i : Nat) (hit : Tx → Option Bool) (body suite : MS) : MS := fun e => match body e with
  | .ok fl e' => .ok fl e'
  | .ex x e' => (match hit x.cls with
    | some true => if calmE e' && decide (i < e'.length) then (match suite (e'.set i (some (.x x))) with
      | .ok fl e2 => if calmE (e2.set i none) && okFl i fl then .ok fl (e2.set i none) else .bad
      | _ => .bad) else .bad
    | some false => .ex x e'
    | none => .bad)
  | .bad => .bad
def Cy.su (C : Cy) (a : Addr) (cls : Value) (d : Option Addr) : Cy := { C with W := WF, xs := fun b => if b = a then some (cls, d) else none }
section
variable {g : G} {rf : Nat → Bool} {dm L0 : Addr → Prop} {xs xs' : XTab} {O : Own} {H : Hp} {σ : L2.St} {env : Env}
theorem calmE_get {e : Env} (h : calmE e = true) {i : Nat} {x : Exn} (q : e[i]? = some (some (.x x))) : False := by
  unfold calmE at h
  have := List.all_eq_true.mp h _ (List.mem_of_getElem? q)
  simp at this
theorem FRel.tab (F : FRel g rf dm L0 xs O H σ env) (h : calmE env = true) : FRel g rf dm L0 xs' O H σ env := by
  refine ⟨F.len, fun i => ?_, F.inj, F.dis, F.lok, F.dom, F.own⟩
  have s := F.sl i
  match hq : env[i]? with
  | none => rw [hq] at s; exact s
  | some none => rw [hq] at s; exact s
  | some (some (.p d)) => rw [hq] at s; exact s
  | some (some (.ml ds)) => rw [hq] at s; exact s
  | some (some (.x d)) => exact (calmE_get h hq).elim
theorem FRel.setX {i : Nat} {x : Exn} {a : Addr} {dd : Addr} {vfs : List (Str × V)} {vs : List V} (F : FRel g rf dm L0 xs O H σ env) (hi : i < env.length) (hx : xs a = some (.ref (g.ca x.cls), some dd)) (h : H dd = some (.xd vfs)) (nl : ¬ LL L0 O dd) (fo : FldOk (g.fl x.cls) vs vfs) (r : Reps g (LL L0 O) H x.fs vs) :
    FRel g rf dm L0 xs (offO O i) H (σ.set i (some (.ref a))) (env.set i (some (.x x))) := by
  have less : XT (LL L0 O) H (LL L0 (offO O i)) H := XT.less fun a z => offO_less z
  refine ⟨by rw [List.length_set, List.length_set]; exact F.len, fun j => ?_, fun j k b p q => F.inj j k b (offO_some p).2 (offO_some q).2, fun j b p => F.dis j b (offO_some p).2, F.lok, F.dom, fun j b p q => F.own j b p (offO_some q).2⟩
  by_cases e : j = i
  · subst e
    rw [offO_same, List.getElem?_set_self hi, List.getElem?_set_self (by rw [← F.len]; exact hi)]
    exact ⟨rfl, a, dd, vfs, vs, rfl, hx, h, fun z => nl (offO_less z), fo, Reps.mono less _ vs r⟩
  · rw [List.getElem?_set_ne (Ne.symm e), List.getElem?_set_ne (Ne.symm e), offO_ne e]
    exact SR.mono less (fun _ _ _ q => q) (F.sl j)
end
section
variable {X : Cx} {C : Cy} {x n : Str} {c : Value} {i : Nat} {body suite : List Stmt} {b₀ : Stmt} {np pos pos' : Pos} {mb ms : MS} {hit : Tx → Option Bool}
theorem qs_try_as (hK : C.g.K = X.K) (hri : C.rf i = false) (hs : X.stack = X.env :: X.outer) (hf : X.env.frame = some X.env.locals) (hN : X.N.Nodup) (hi : X.N[i]? = some n) (hln : X.env.kindOf n = some .local) (hc : Names X x c) (tk : Takes X C.W) (hh : ∀ cl b, hit cl = some b → PySem.W.exmOne X.K (.ref (C.g.ca cl)) c = some b)
    (hb : ∀ (W : WX) (pn : List (Addr × Obj)) (xe : Value → Shared → Prop), Takes (X.tr pn xe) W → PassesOwn (model X.prog X.w) X.A X.env xe → PSs (X.tr pn xe) body (EvS { C with W := W } mb))
    (hsu : ∀ (a : Addr) (oe : Obj) (cls : Value) (d : Option Addr) (pn : List (Addr × Obj)), Zc cls d oe → (∃ vs, oe.data = .fields vs) → PSs (X.suite a ((a, oe) :: pn)) (b₀ :: suite) (EvS (C.su a cls d) ms)) :
    PS X (.Try body [.ExceptHandler (some (.Name x np)) (some n) (b₀ :: suite) pos'] [] [] pos) (EvS C (sTryAs i hit mb ms)) :=
  (ps_try_as (tb := fun W => EvS { C with W := W } mb) (ts := fun a cls d => EvS (C.su a cls d) ms) (Wout := C.W) hs hf hN hi hln hc tk hb hsu).weak fun D σ H ⟨L0, O, env, F, h⟩ => by
    refine ⟨L0, O, env, F, ?_⟩
    unfold sTryAs at h
    cases em : mb env with
    | bad => rw [em] at h; exact h.elim
    | ok fl e1 =>
      rw [em] at h
      intro σ' O' H' x' F'
      have h' := h σ' O' H' x' F'
      cases fl <;> exact h'
    | ex y e1 =>
      rw [em] at h
      dsimp only at h
      intro cls dd σ' O' H' x' F' xr
      cases eh : hit y.cls with
      | none => rw [eh] at h; exact h.elim
      | some b =>
        rw [eh] at h
        have ecls : cls = .ref (C.g.ca y.cls) := xr.1
        refine ⟨b, by rw [ecls]; exact hh _ _ eh, fun hbt a ha => ?_, fun hbf => ?_⟩
        · subst hbt
          dsimp only at h
          split at h
          · rename_i hnx
            rw [Bool.and_eq_true] at hnx
            have hil : i < e1.length := of_decide_eq_true hnx.2
            obtain ⟨e1', d', vfs, vs, e2, hd, nl, fo, r⟩ := xr
            have F0 : FRel C.g C.rf C.dm L0 C.xs O' H' σ' e1 := F'
            have F2 := (F0.tab (xs' := (C.su a cls dd).xs) hnx.1).setX (i := i) (x := y) (a := a) (dd := d') (vfs := vfs) (vs := vs) hil (by show (if a = a then some (cls, dd) else none) = _; rw [if_pos rfl, ecls, e2]) hd nl fo r
            refine ⟨L0, offO O' i, _, F2, ?_⟩
            cases es : ms (e1.set i (some (.x y))) with
            | bad => rw [es] at h; exact h.elim
            | ex z e3 => rw [es] at h; exact h.elim
            | ok fl e3 =>
              rw [es] at h
              dsimp only at h
              split at h
              · rename_i hnx2'
                rw [Bool.and_eq_true] at hnx2'
                have hnx2 := hnx2'.1
                intro σ3 O3 H3 x3 F3
                have x4 : Ext C.rf σ O H (σ3.set i none) (offO O3 i) H3 := ((x'.trans (Ext.set hri)).trans x3).trans (Ext.set hri)
                have F4 : C.F L0 (offO O3 i) H3 (σ3.set i none) (e3.set i none) := by
                  have F3' : FRel C.g C.rf C.dm L0 (C.su a cls dd).xs O3 H3 σ3 e3 := F3
                  exact (F3'.setNone (i := i)).tab hnx2
                have hfin := h _ _ _ x4 F4
                have less : ∀ b, LL L0 (offO O3 i) b → LL L0 O3 b := fun b z => offO_less z
                cases fl with
                | nx => exact hfin
                | bk => exact hfin
                | ct => exact hfin
                | rt d => exact fun v rv => hfin v (Rep.mono (XT.less less) d v rv)
                | rtf zs =>
                  intro b us nb hb' FA z rr
                  have FA' : FRel C.g C.rf C.dm (LA L0 b) (C.su a cls dd).xs O3 H3 σ3 e3 := FA
                  have less2 : ∀ q, LL (LA L0 b) (offO O3 i) q → LL (LA L0 b) O3 q := fun q z => offO_less z
                  exact hfin b us nb hb' ((FA'.setNone (i := i)).tab hnx2) z (Reps.mono (XT.less less2) _ _ rr)
                | rtx k zs =>
                  intro b us hrk hOk hb' z rr
                  by_cases hki : k = i
                  · have hok : (k != i) = true := hnx2'.2
                    rw [hki] at hok
                    simp at hok
                  · exact hfin b us hrk (by rw [offO_ne hki]; exact hOk) hb' z (Reps.mono (XT.less less) _ _ rr)
              · exact h.elim
          · exact h.elim
        · subst hbf
          exact h cls dd σ' O' H' x' F' xr
end
end MP

/-! MP, part K: fields of an error, the def rule, __init__ of error classes. -/
namespace MP
open L2 PyProof.Rows PySem PySem.Spec

/-! ### e.f in a suite -/
def mXf (i : Nat) (cls : Tx) (k : Nat) : M D := fun e => match e[i]? with
  | some (some (.x x)) => if x.cls = cls then (match x.fs[k]? with
    | some d => .ok d e
    | none => .bad) else .bad
  | _ => .bad
section
variable {X : Cx} {C : Cy}
theorem pd_xf {i k : Nat} {cls f : Tx} {a : Addr} {oe : Obj} {cl : Value} {d : Option Addr} {pn : List (Addr × Obj)} {x n : Str} {p pos : Pos} (T : XfC X.K (C.g.ca cls)) (hno : PySem.W.findIn X.K (.ref (C.g.ca cls)) n = some none) (hz : Zc cl d oe) (hf : ∃ vs, oe.data = .fields vs) (he : PE (X.suite a ((a, oe) :: pn)) (.Name x p) (tVar i))
    (hk : (C.g.fl cls)[k]? = some f) (hn : n = ⟨f.toArray⟩) (hb : attributeBase (.Name x p) n X.env (eval (.Name x p) X.env) = eval (.Name x p) X.env) : PE (X.suite a ((a, oe) :: pn)) (.Attribute (.Name x p) n pos) (EvE (C.su a cl d) (mXf i cls k)) :=
  (pe_xf T hno hz hf he hb).weak fun σ H Q ⟨L0, O, env, F, h⟩ => by
    have F0 : FRel C.g C.rf C.dm L0 (C.su a cl d).xs O H σ env := F
    have s := F0.sl i
    unfold mXf at h
    split at h
    · rename_i x hq
      rw [hq] at s
      obtain ⟨_, a', dd, vfs, vs, e1, e2, e3, _, fo, r⟩ := s
      by_cases hc : x.cls = cls
      · rw [if_pos hc] at h
        have e2 : (if a' = a then some (cl, d) else none) = some (.ref (C.g.ca x.cls), some dd) := e2
        by_cases ha : a' = a
        · rw [if_pos ha] at e2
          cases e2
          subst ha
          cases eg : x.fs[k]? with
          | none => rw [eg] at h; exact h.elim
          | some y =>
            rw [eg] at h
            obtain ⟨v, ev, rv⟩ := r.get eg
            rw [hc] at fo
            obtain ⟨v', ev', lk⟩ := fo.2 k f hk
            rw [ev] at ev'
            cases ev'
            refine ⟨.ref a', e1, rfl, by rw [hc], dd, vfs, v, rfl, e3, by rw [hn]; exact lk, ?_⟩
            exact Post.here (C := C.su a' (.ref (C.g.ca x.cls)) (some dd)) h F v rv
        · rw [if_neg ha] at e2; cases e2
      · rw [if_neg hc] at h; exact h.elim
    · exact h.elim
end

/-! ### the def rule -/
def outsG (rf : Nat → Bool) : Nat → List Val → Env → Option (List Val)
  | _, [], _ => some []
  | i, v :: vs, e => (match rf i with
    | true => (match e[i]? with
      | some (some (.p d)) => (outsG rf (i + 1) vs e).map (Val.p d :: ·)
      | some (some (.ml xs)) => (outsG rf (i + 1) vs e).map (Val.ml xs :: ·)
      | _ => none)
    | false => (match v with
      | .p d => (outsG rf (i + 1) vs e).map (Val.p d :: ·)
      | _ => none))
def isL : D → Bool
  | .lst _ => true
  | _ => false
def finR (rf : Nat → Bool) (fresh : Bool) (vals : List Val) : R Fl → FR
  | .ok fl e => (match outsG rf 0 vals e with
    | none => .bad
    | some outs => (match fl with
      | .nx => .ok .non outs
      | .rt d => if fresh && isL d then .bad else .ok d outs
      | .rtf xs => .ok (.lst xs) outs
      | .rtx _ xs => .ok (.lst xs) outs
      | _ => .bad))
  | .ex x e => (match outsG rf 0 vals e with
    | none => .bad
    | some outs => .ex x outs)
  | .bad => .bad
def runF (n N : Nat) (rf : Nat → Bool) (fresh : Bool) (mb : MS) : Fn := fun vals => if vals.length = n then finR rf fresh vals (mb (vals.map some ++ List.replicate (N - n) none)) else .bad
theorem outsG_len {rf : Nat → Bool} : ∀ {vals : List Val} {i : Nat} {e : Env} {outs : List Val}, outsG rf i vals e = some outs → outs.length = vals.length
  | [], i, e, outs, h => by cases h; rfl
  | v :: vs, i, e, outs, h => by
    unfold outsG at h
    split at h
    · split at h
      · obtain ⟨o, ho, rfl⟩ := Option.map_eq_some_iff.mp h
        simp [outsG_len ho]
      · obtain ⟨o, ho, rfl⟩ := Option.map_eq_some_iff.mp h
        simp [outsG_len ho]
      · cases h
    · split at h
      · obtain ⟨o, ho, rfl⟩ := Option.map_eq_some_iff.mp h
        simp [outsG_len ho]
      · cases h
theorem outsG_get {rf : Nat → Bool} : ∀ {vals : List Val} {i : Nat} {e : Env} {outs : List Val}, outsG rf i vals e = some outs → ∀ k, k < vals.length → ∃ w, outs[k]? = some w ∧ (rf (i + k) = true → e[i + k]? = some (some w) ∧ ∀ x, w ≠ .x x) ∧ (rf (i + k) = false → ∃ d, w = .p d ∧ vals[k]? = some (.p d))
  | [], i, e, outs, h, k, hk => by simp at hk
  | v :: vs, i, e, outs, h, k, hk => by
    unfold outsG at h
    have step : ∀ w o, outsG rf (i + 1) vs e = some o → outs = w :: o → ((rf i = true → e[i]? = some (some w) ∧ ∀ x, w ≠ .x x) ∧ (rf i = false → ∃ d, w = .p d ∧ v = .p d)) → ∃ w', outs[k]? = some w' ∧ (rf (i + k) = true → e[i + k]? = some (some w') ∧ ∀ x, w' ≠ .x x) ∧ (rf (i + k) = false → ∃ d, w' = .p d ∧ (v :: vs)[k]? = some (.p d)) := by
      intro w o ho eo hw
      subst eo
      cases k with
      | zero => exact ⟨w, rfl, hw.1, fun q => by
          obtain ⟨d, e1, e2⟩ := hw.2 q
          exact ⟨d, e1, by rw [e2]; rfl⟩⟩
      | succ k =>
        have ih := outsG_get ho k (by simpa using hk)
        have e1 : i + 1 + k = i + (k + 1) := by omega
        rw [e1] at ih
        simpa using ih
    split at h
    · rename_i hr
      split at h
      · rename_i d hq
        obtain ⟨o, ho, rfl⟩ := Option.map_eq_some_iff.mp h
        exact step _ o ho rfl ⟨fun _ => ⟨hq, fun x z => (by cases z)⟩, fun q => (by rw [hr] at q; cases q)⟩
      · rename_i d hq
        obtain ⟨o, ho, rfl⟩ := Option.map_eq_some_iff.mp h
        exact step _ o ho rfl ⟨fun _ => ⟨hq, fun x z => (by cases z)⟩, fun q => (by rw [hr] at q; cases q)⟩
      · cases h
    · rename_i hr
      split at h
      · obtain ⟨o, ho, rfl⟩ := Option.map_eq_some_iff.mp h
        exact step _ o ho rfl ⟨fun q => by (rw [hr] at q; cases q), fun _ => ⟨_, rfl, rfl⟩⟩
      · cases h
/-- the reading's data of a def's body -/
def Cd (g : G) (n : Nat) (rf : Nat → Bool) (H : Hp) (E : XK) : Cy := ⟨g, fun i => decide (i < n) && rf i, domH H, noX, fun cls d _ H => E cls d H⟩
section
variable {g : G} {n : Nat} {rf : Nat → Bool} {L0 L1 Lz : Addr → Prop} {A O' : Own} {H H' : Hp} {vs : List V} {vals outs : List Val} {σ' : _root_.L2.St} {e : Env} {N : List Str} {E : XK}
def outA (n : Nat) (rf : Nat → Bool) (O' : Own) : Own := fun i => if (decide (i < n) && rf i) = true then O' i else none
theorem outA_some {i : Nat} {a : Addr} (h : outA n rf O' i = some a) : (decide (i < n) && rf i) = true ∧ O' i = some a := by
  unfold outA at h
  split at h
  · rename_i q; exact ⟨q, h⟩
  · cases h
theorem out_ext (x : Ext (Cd g n rf H E).rf (_root_.L2.start N vs) A H σ' O' H') : Ext (fun _ => true) [] A H [] (outA n rf O') H' := by
  refine ⟨fun a o e k => ?_, fun i _ => ⟨rfl, ?_⟩, x.old⟩
  · obtain ⟨e1, k1⟩ := x.keep a o e k
    exact ⟨e1, fun i z => k1 i (outA_some z).2⟩
  · unfold outA
    split
    · rename_i q
      exact (x.stab i q).2
    · exact .inl rfl
theorem start_get (hv : vs.length = n) {i : Nat} (hi : i < n) : (_root_.L2.start N vs)[i]? = (vs.map some)[i]? := by
  unfold _root_.L2.start
  rw [List.getElem?_append_left (by rw [List.length_map]; omega)]
theorem out_frame (hv : vs.length = n) (F : FRel g rf (domH H) L0 noX A H (vs.map some) (vals.map some)) (x : Ext (Cd g n rf H E).rf (_root_.L2.start N vs) A H σ' O' H') (F' : (Cd g n rf H E).F L1 O' H' σ' e) (ho : outsG rf 0 vals e = some outs)
    (sub : ∀ b, LL Lz (outA n rf O') b → LL L1 O' b) (lok : ∀ a, Lz a → ∃ o, H' a = some o) (dis : ∀ i a, outA n rf O' i = some a → ¬ Lz a) (hL : ∀ b o, H b = some o → Lz b → LL L0 A b) :
    FRel g rf (domH H) Lz noX (outA n rf O') H' (vs.map some) (outs.map some) := by
  have hvl : vals.length = n := by have := F.len; simp at this; omega
  have x2 := out_ext (N := N) x
  have xt : XT (LL L0 A) H (LL Lz (outA n rf O')) H' := fun a o e k => by
    obtain ⟨e1, k1⟩ := x2.keep a o e fun i z => k (.inr ⟨i, z⟩)
    exact ⟨e1, fun z => z.elim (fun z => k (hL a o e z)) fun ⟨i, z⟩ => k1 i z⟩
  refine ⟨by rw [List.length_map, List.length_map, outsG_len ho, hvl, hv], fun i => ?_, fun i j a p q => F'.inj i j a (outA_some p).2 (outA_some q).2, dis, lok, fun a z => let ⟨o, e⟩ := z; x.old a o e, fun i a hf p => ?_⟩
  · by_cases hi : i < n
    · obtain ⟨w, hw, h1, h2⟩ := outsG_get ho i (by omega)
      rw [Nat.zero_add] at h1 h2
      rw [List.getElem?_map, hw]
      cases hr : rf i with
      | true =>
        obtain ⟨he, hx⟩ := h1 hr
        have hd : (decide (i < n) && rf i) = true := by rw [hr, decide_eq_true hi]; rfl
        have s := F'.sl i
        have eO : outA n rf O' i = O' i := by unfold outA; rw [if_pos hd]
        rw [he] at s
        have eσ : σ'[i]? = (vs.map some)[i]? := ((x.stab i hd).1).trans (start_get hv hi)
        rw [eσ] at s
        rw [eO]
        have less : XT (LL L1 O') H' (LL Lz (outA n rf O')) H' := XT.less sub
        exact SR.mono less (fun _ _ _ q => q) s
      | false =>
        obtain ⟨d, rfl, hvd⟩ := h2 hr
        have s := F.sl i
        rw [List.getElem?_map, hvd] at s
        have eO : outA n rf O' i = none := by unfold outA; rw [if_neg (by rw [hr]; simp)]
        rw [eO]
        obtain ⟨_, v, ev, rv⟩ := s
        exact ⟨rfl, v, ev, Rep.mono xt d v rv⟩
    · rw [List.getElem?_eq_none (by rw [List.length_map, outsG_len ho, hvl]; omega)]
      show outA n rf O' i = none
      unfold outA
      rw [if_neg (by simp [hi])]
  · have := (outA_some p).1
    rw [hf] at this
    simp at this
theorem body_ok {fresh : Bool} {mb : MS} {Q : VK} (hn : n ≤ N.length) (h : spF g n rf fresh (runF n N.length rf fresh mb) vs H Q E) : EvS (Cd g n rf H E) mb { nx := fun _ H' => Q .non H', rt := Q } (_root_.L2.start N vs) H := by
  obtain ⟨L0, A, vals, hv, F, hm⟩ := h
  have hvl : vals.length = n := by have := F.len; simp at this; omega
  refine ⟨L0, A, vals.map some ++ List.replicate (N.length - n) none, ?_, ?_⟩
  · refine ⟨?_, fun i => ?_, F.inj, F.dis, F.lok, F.dom, fun i a hf ho => ?_⟩
    · unfold _root_.L2.start
      simp [hv, hvl]
    · have s := F.sl i
      by_cases hi : i < n
      · rw [start_get hv hi, List.getElem?_append_left (by rw [List.length_map]; omega)]
        exact s
      · rw [List.getElem?_eq_none (by rw [List.length_map]; omega)] at s
        have s : A i = none := s
        by_cases hi2 : i < N.length
        · rw [List.getElem?_append_right (by rw [List.length_map]; omega), List.getElem?_replicate, if_pos (by rw [List.length_map]; omega)]
          exact s
        · rw [List.getElem?_eq_none (by rw [List.length_append, List.length_map, List.length_replicate]; omega)]
          exact s
    · by_cases hi : i < n
      · exact F.own i a (by have : (decide (i < n) && rf i) = false := hf; rw [decide_eq_true hi] at this; simpa using this) ho
      · have s := F.sl i
        rw [List.getElem?_eq_none (by rw [List.length_map]; omega)] at s
        have s : A i = none := s
        rw [s] at ho; cases ho
  · unfold runF at hm
    rw [if_pos hvl] at hm
    cases em : mb (vals.map some ++ List.replicate (N.length - n) none) with
    | bad => rw [em] at hm; exact hm.elim
    | ex y e =>
      rw [em] at hm
      unfold finR at hm
      dsimp only at hm
      cases ho : outsG rf 0 vals e with
      | none => rw [ho] at hm; exact hm.elim
      | some outs =>
        rw [ho] at hm
        intro cls dd σ' O' H' x F' xr
        have sub : ∀ b, LL L0 (outA n rf O') b → LL L0 O' b := fun b z => z.elim .inl fun ⟨i, z⟩ => .inr ⟨i, (outA_some z).2⟩
        obtain ⟨e1, d', vfs, us, e2, hd, nl, fo, r⟩ := xr
        refine hm cls dd _ H' (out_ext x) (out_frame hv F x F' ho sub F'.lok (fun i a z => F'.dis i a (outA_some z).2) fun b o _ z => .inl z) ⟨e1, d', vfs, us, e2, hd, fun z => nl (sub _ z), fo, Reps.mono (XT.less sub) _ _ r⟩
    | ok fl e =>
      rw [em] at hm
      unfold finR at hm
      dsimp only at hm
      cases ho : outsG rf 0 vals e with
      | none => rw [ho] at hm; exact hm.elim
      | some outs =>
        rw [ho] at hm
        intro σ' O' H' x F'
        have sub : ∀ b, LL L0 (outA n rf O') b → LL L0 O' b := fun b z => z.elim .inl fun ⟨i, z⟩ => .inr ⟨i, (outA_some z).2⟩
        have fr := out_frame hv F x F' ho sub F'.lok (fun i a z => F'.dis i a (outA_some z).2) fun b o _ z => .inl z
        have nrm : ∀ d, retOk g rf fresh L0 A H vs outs d Q → (fresh = true → isL d = false) → ∀ v, Rep g (LL L0 O') H' d v → Q v H' := fun d hq hf v rv => by
          have rv2 := Rep.mono (XT.less sub) d v rv
          cases fresh with
          | false => exact hq v _ H' (out_ext x) fr rv2
          | true =>
            cases d with
            | lst xs => have := hf rfl; cases this
            | _ => exact hq v _ H' (out_ext x) fr rv2
        have lstL : ∀ (L1 : Addr → Prop) (xs : List D) (a : Addr) (us : List V), (∀ b, LL (LA L0 a) (outA n rf O') b → LL L1 O' b) → (Cd g n rf H E).F L1 O' H' σ' e → ¬ domH H a → H' a = some (.lst us) → (∀ i, outA n rf O' i ≠ some a) → ¬ L0 a → us.length ≤ sizeLine → Reps g (LL L1 O') H' xs us →
            retOk g rf fresh L0 A H vs outs (.lst xs) Q → Q (.ref a) H' := fun L1 xs a us sub2 F1 nd ha na nL z r hq => by
          have h0 : H a = none := by
            cases e : H a with
            | none => rfl
            | some o => exact absurd ⟨o, e⟩ nd
          have lokA : ∀ b, LA L0 a b → ∃ o, H' b = some o := fun b q => q.elim (F'.lok b) fun q => ⟨.lst us, by rw [q]; exact ha⟩
          have disA : ∀ i b, outA n rf O' i = some b → ¬ LA L0 a b := fun i b z q => q.elim (F'.dis i b (outA_some z).2) fun q => na i (by rw [← q]; exact z)
          have hLA : ∀ b o, H b = some o → LA L0 a b → LL L0 A b := fun b o e q => q.elim .inl fun q => by rw [q, h0] at e; cases e
          cases fresh with
          | false =>
            have n2 : ¬ LL L0 (outA n rf O') a := fun q => q.elim nL fun ⟨i, q⟩ => na i q
            exact hq (.ref a) _ H' (out_ext x) fr ⟨a, us, rfl, ⟨⟨.inl ha, n2⟩, z⟩, Reps.mono (XT.less fun b q => sub2 b (LA.ll q)) _ _ r⟩
          | true => exact hq a us _ H' (out_ext x) (out_frame hv F x F1 ho sub2 lokA disA hLA) h0 ha z (Reps.mono (XT.less sub2) _ _ r)
        cases fl with
        | nx => exact nrm .non hm (fun _ => rfl) .non rfl
        | bk => exact hm.elim
        | ct => exact hm.elim
        | rt d =>
          dsimp only at hm
          cases hf : (fresh && isL d) with
          | true => rw [hf] at hm; exact hm.elim
          | false =>
            rw [hf] at hm
            exact fun v rv => nrm d hm (fun q => by rw [q] at hf; simpa using hf) v rv
        | rtf xs =>
          intro a us nd ha FA z r
          refine lstL (LA L0 a) xs a us (fun b q => q.elim .inl fun ⟨i, q⟩ => .inr ⟨i, (outA_some q).2⟩) FA nd ha (fun i q => FA.dis i a (outA_some q).2 (.inr rfl)) (fun q => ?_) z r hm
          obtain ⟨o, e0⟩ := F.lok a q
          exact nd ⟨o, e0⟩
        | rtx i xs =>
          intro a us hri hO ha z r
          refine lstL L0 xs a us (fun b q => ?_) F' (F'.own i a hri hO) ha (fun j q => ?_) (F'.dis i a hO) z r hm
          · rcases q with (q | q) | ⟨j, q⟩
            · exact .inl q
            · exact .inr ⟨i, by rw [q]; exact hO⟩
            · exact .inr ⟨j, (outA_some q).2⟩
          · obtain ⟨q1, q2⟩ := outA_some q
            have := F'.inj i j a hO q2
            subst this
            have hri : (decide (i < n) && rf i) = false := hri
            rw [q1] at hri; cases hri
end
section
variable {P : Program} {w : World} {K : PySem.W.Frag} {mg : Str → Option Value} {base : Heap} {x qual : Str} {params : Arguments} {body : List Stmt} {scope : Scope} {dvs : List V} {kws : List (Str × V)} {f : Addr} {fd : FuncData}
theorem fn_ok {N ps : List Str} {g : G} {n k : Nat} {rf : Nat → Bool} {fresh : Bool} {mb : MS} (F : FunD K x qual params body scope dvs kws f fd) (S : FnScope N ps scope) (hps : ps.length = n) (hn : n ≤ N.length)
    (hb : ∀ (cdv : Value) (A : Around) (outer : List PySem.Env) (s : Shared) (H : Hp) (E : XK), Room k (A.deeper (envOfC qual scope s.heap.objs.size f cdv)) → PSs (cxOf (_root_.L2.CX P w) P w K mg base N qual scope f cdv A outer s H E) body (EvS (Cd g n rf H E) mb)) :
    FnOk P w K mg base (_root_.L2.CX P w) (k + 1) f fd ps (spF g n rf fresh (runF n N.length rf fresh mb)) :=
  F.ok S (fun vs H Q E h => by
    obtain ⟨_, _, _, hv, _⟩ := h
    rw [hv, hps]) fun cdv A outer s H vs Q E hr h => ⟨EvS (Cd g n rf H E) mb, hb cdv A outer s H E hr, body_ok hn h⟩
/-- in a def's body: what goes out is taken -/
theorem takes_body {N : List Str} {g : G} {n : Nat} {rf : Nat → Bool} {cdv : Value} {A : Around} {outer : List PySem.Env} {s : Shared} {H : Hp} {E : XK} : Takes (cxOf (_root_.L2.CX P w) P w K mg base N qual scope f cdv A outer s H E) (Cd g n rf H E).W := takes_of rfl rfl rfl rfl
end

/-! ### an error class's __init__ -/
def tIni (K : PySem.W.Frag) : List Str → Nat → TS
  | [], _ => tNext
  | f :: r, j => tSeq (tOst K f (tVar 0) (tVar j)) (tIni K r (j + 1))
def addF : List Str → List V → List (Str × V) → List (Str × V)
  | f :: fs, w :: ws, acc => addF fs ws ((f, w) :: acc)
  | _, _, acc => acc
theorem addF_out {g : Str} : ∀ {fs : List Str} {ws : List V} {acc : List (Str × V)}, g ∉ fs → (addF fs ws acc).lookup g = acc.lookup g
  | [], _, _, _ => rfl
  | _ :: _, [], _, _ => rfl
  | f :: fs, w :: ws, acc, h => by
    show (addF fs ws ((f, w) :: acc)).lookup g = _
    rw [addF_out fun z => h (List.mem_cons_of_mem _ z), lookup_put, if_neg fun z => h (by rw [z]; exact List.mem_cons_self)]
theorem addF_in : ∀ {fs : List Str} {ws : List V} {acc : List (Str × V)} {i : Nat} {g : Str}, fs.Nodup → fs.length = ws.length → fs[i]? = some g → ∃ w, ws[i]? = some w ∧ (addF fs ws acc).lookup g = some w
  | [], _, _, _, _, _, _, h => by simp at h
  | _ :: _, [], _, _, _, _, h, _ => by simp at h
  | f :: fs, w :: ws, acc, 0, g, nd, hl, h => by
    simp at h; subst h
    refine ⟨w, rfl, ?_⟩
    show (addF fs ws ((f, w) :: acc)).lookup f = _
    rw [addF_out (List.nodup_cons.mp nd).1, lookup_put, if_pos rfl]
  | f :: fs, w :: ws, acc, i + 1, g, nd, hl, h => by
    obtain ⟨w', e1, e2⟩ := addF_in (acc := (f, w) :: acc) (List.nodup_cons.mp nd).2 (by simpa using hl) (by simpa using h)
    exact ⟨w', by simpa using e1, e2⟩
theorem ini_go {K : PySem.W.Frag} {D : Ends} {H : Hp} {σ : _root_.L2.St} {a C dx : Addr} (T : OexC K C) (hne : dx ≠ a) (h0 : σ[0]? = some (some (.ref a))) : ∀ (fs : List Str) (ws : List V) (j : Nat) (acc : List (Str × V)), fs.length = ws.length → acc.length + fs.length ≤ 900 →
    (∀ m w, ws[m]? = some w → σ[j + m]? = some (some w)) → (∀ f ∈ fs, PySem.W.findIn K (.ref C) f = some none) → D.nx σ (upd (upd H dx (exd dx (addF fs ws acc))) a (exo a C (some dx))) → tIni K fs j D σ (upd (upd H dx (exd dx acc)) a (exo a C (some dx)))
  | [], ws, j, acc, _, _, _, _, h => h
  | f :: fs, [], j, acc, hl, _, _, _, _ => by simp at hl
  | f :: fs, w :: ws, j, acc, hl, hz, hs, hno, h => by
    refine ⟨w, hs 0 w rfl, .ref a, h0, a, C, rfl, T, hno f List.mem_cons_self, .inr ⟨dx, acc, upd_same, by rw [upd_ne hne]; exact upd_same, by simp at hz; omega, ?_⟩⟩
    have e : upd (upd (upd H dx (exd dx acc)) a (exo a C (some dx))) dx (exd dx ((f, w) :: acc)) = upd (upd H dx (exd dx ((f, w) :: acc))) a (exo a C (some dx)) := by
      funext b
      by_cases hb : b = dx
      · rw [hb, upd_same, upd_ne hne, upd_same]
      · rw [upd_ne hb]
        by_cases hba : b = a
        · rw [hba, upd_same, upd_same]
        · rw [upd_ne hba, upd_ne hba, upd_ne hb, upd_ne hb]
    show tIni K fs (j + 1) D σ (upd (upd (upd H dx (exd dx acc)) a (exo a C (some dx))) dx (exd dx ((f, w) :: acc)))
    rw [e]
    refine ini_go T hne h0 fs ws (j + 1) ((f, w) :: acc) (by simpa using hl) (by simp at hz ⊢; omega) (fun m w' hm => ?_) (fun g hg => hno g (List.mem_cons_of_mem _ hg)) h
    have := hs (m + 1) w' (by simpa using hm)
    rw [← this]
    congr 1
    omega
theorem ini_pure {K : PySem.W.Frag} {C : Addr} {names : List Tx} {N : List Str} {vs : List V} {H : Hp} {Q : VK} {E : XK} {f : Str} {fs : List Str} (hn : (names.map fun t => (⟨t.toArray⟩ : Str)) = f :: fs) (nd : (f :: fs).Nodup) (hz : names.length ≤ 900) (hno : ∀ g ∈ f :: fs, PySem.W.findIn K (.ref C) g = some none)
    (h : spIni K C names vs H Q E) : tIni K (f :: fs) 1 { nx := fun _ H' => Q .non H', rt := Q } (_root_.L2.start N vs) H := by
  obtain ⟨a, ws, rfl, hl, T, ha, k⟩ := h
  have hnl : names.length = (f :: fs).length := by rw [← hn, List.length_map]
  have hst : ∀ m w, ws[m]? = some w → (_root_.L2.start N (.ref a :: ws))[1 + m]? = some (some w) := fun m w hm => by
    unfold _root_.L2.start
    have hlt : m < ws.length := (List.getElem?_eq_some_iff.mp hm).1
    rw [List.getElem?_append_left (by simp; omega), List.getElem?_map, Nat.add_comm 1 m, List.getElem?_cons_succ, hm]
    rfl
  cases ws with
  | nil => rw [hnl] at hl; simp at hl
  | cons w ws =>
    refine ⟨w, hst 0 w rfl, .ref a, rfl, a, C, rfl, T, hno f List.mem_cons_self, .inl ⟨ha, fun dx hdx hne => ?_⟩⟩
    refine ini_go T hne rfl fs ws 2 [(f, w)] (by simp at hl hnl; omega) (by simp at hnl ⊢; omega) (fun m w' hm => ?_) (fun g hg => hno g (List.mem_cons_of_mem _ hg)) ?_
    · have := hst (m + 1) w' (by simpa using hm)
      rw [← this]
      congr 1
      omega
    · refine k dx _ hdx hne ⟨hl, fun i t ht => ?_⟩
      have e1 : (f :: fs)[i]? = some (⟨t.toArray⟩ : Str) := by rw [← hn, List.getElem?_map, ht]; rfl
      exact addF_in (fs := f :: fs) (ws := w :: ws) (acc := []) nd (by rw [← hnl]; exact hl.symm) e1
section
variable {P : Program} {w : World} {K : PySem.W.Frag} {mg : Str → Option Value} {base : Heap} {x qual : Str} {params : Arguments} {body : List Stmt} {scope : Scope} {dvs : List V} {kws : List (Str × V)} {f : Addr} {fd : FuncData}
theorem ini_ok {N ps : List Str} {C : Addr} {names : List Tx} {k : Nat} {g : Str} {gs : List Str} (F : FunD K x qual params body scope dvs kws f fd) (S : FnScope N ps scope) (hps : ps.length = names.length + 1) (hn : (names.map fun t => (⟨t.toArray⟩ : Str)) = g :: gs) (nd : (g :: gs).Nodup) (hz : names.length ≤ 900)
    (hno : ∀ y ∈ g :: gs, PySem.W.findIn K (.ref C) y = some none) (hb : ∀ (cdv : Value) (A : Around) (outer : List PySem.Env) (s : Shared) (H : Hp) (E : XK), PSs (cxOf CX0 P w K mg base N qual scope f cdv A outer s H E) body (tIni K (g :: gs) 1)) :
    FnOk P w K mg base CX0 (k + 1) f fd ps (spIni K C names) :=
  F.ok S (fun vs H Q E h => by
    obtain ⟨a, ws, rfl, hl, _⟩ := h
    simp [hl, hps]) fun cdv A outer s H vs Q E hr h => ⟨tIni K (g :: gs) 1, hb cdv A outer s H E, ini_pure hn nd hz hno h⟩
end
/-- what the written part says of an error class over ValueError -/
def oexB (K : PySem.W.Frag) (C : Addr) : Bool := (match K.lookup C with
  | some ⟨.type "type", _, .cls cd, sl⟩ => (match cd.mro, sl.toList with
    | .ref C' :: bm, [_, _, _, _, some (.builtin n), _] => (C' == C && n == "ValueError.__new__" && !cd.hasDel && cd.hasDict && PySem.HandSPX.refsVE bm)
    | _, _ => false)
  | _ => false) && (decide (PySem.W.findIn K (.ref C) "__setattr__" = some (some (.builtin "object.__setattr__"))) && (decide (PySem.W.subIn K (.ref C) (.type "BaseException") = some true) && (decide (PySem.W.typeIn K (.ref C) = some (.type "type")) && PySem.W.keepIn K (.ref C))))
theorem oexB_ok {K : PySem.W.Frag} {C : Addr} (h : oexB K C = true) : OexC K C := by
  unfold oexB at h
  rw [Bool.and_eq_true] at h
  obtain ⟨h1, h2⟩ := h
  rw [Bool.and_eq_true] at h2
  obtain ⟨h2, h3⟩ := h2
  rw [Bool.and_eq_true] at h3
  obtain ⟨h3, h4⟩ := h3
  rw [Bool.and_eq_true] at h4
  obtain ⟨h4, h5⟩ := h4
  refine ⟨?_, of_decide_eq_true h2, of_decide_eq_true h3, of_decide_eq_true h4, h5⟩
  split at h1
  · rename_i dd cd sl ho
    split at h1
    · rename_i C' bm k0 k1 k2 k3 n k5 hm hs
      simp only [Bool.and_eq_true, beq_iff_eq, Bool.not_eq_true'] at h1
      obtain ⟨⟨⟨⟨e1, e2⟩, e3⟩, e4⟩, e5⟩ := h1
      subst e1
      subst e2
      obtain ⟨nm, bs, mro, ns, qn, hd, sn, sb, ab, col, del⟩ := cd
      dsimp only at hm e3 e4
      subst hm
      subst e3
      subst e4
      have es : sl = #[k0, k1, k2, k3, some (.builtin "ValueError.__new__"), k5] := by
        rw [← Array.toArray_toList (xs := sl), hs]
      rw [es] at ho
      exact ⟨nm, qn, ns, bs, bm, sn, sb, ab, col, dd, k0, k1, k2, k3, k5, ho, e5⟩
    · cases h1
  · cases h1
end MP

/-! MP, part L: bundles for the printed walks, the head's hook. -/
namespace MP
open L2 PyProof.Rows PySem PySem.Spec

/-- a def of the text that may be called by its name -/
def Cal (P : Program) (w : World) (K : PySem.W.Frag) (mg : Str → Option Value) (base : Heap) (g : G) (x : Str) (k n : Nat) (rf : Nat → Bool) (fresh : Bool) (F : Fn) : Prop :=
  ∃ (f : Addr) (fd : FuncData) (ps : List Str), mg x = some (.ref f) ∧ PySem.W.keepIn K (.ref f) = true ∧ Binds K fd ps [] ∧ FnOk P w K mg base (L2.CX P w) k f fd ps (spF g n rf fresh F)
/-- an error class of the text -/
def Exk (P : Program) (w : World) (K : PySem.W.Frag) (mg : Str → Option Value) (base : Heap) (g : G) (x : Str) (cls : Tx) (k : Nat) : Prop :=
  mg x = some (.ref (g.ca cls)) ∧ OexC K (g.ca cls) ∧ ∃ (fI : Addr) (fd : FuncData) (ps : List Str), PySem.W.findIn K (.ref (g.ca cls)) "__init__" = some (some (.ref fI)) ∧ PySem.W.typeIn K (.ref fI) = some (.type "function") ∧ Binds K fd ps [] ∧
    FnOk P w K mg base CX0 k fI fd ps (spIni K (g.ca cls) (g.fl cls))
def mFE (m : M (List D)) : M D := do
  let xs ← m
  pure (.lst xs)
/-- no slot is handed on twice -/
def oneRaw : List Arg → List Nat → Bool
  | [], _ => true
  | .e _ :: r, s => oneRaw r s
  | .f _ :: r, s => oneRaw r s
  | .r j :: r, s => !s.contains j && oneRaw r (j :: s)
theorem oneRaw_ok' : ∀ {args : List Arg} {s : List Nat}, oneRaw args s = true → (∀ j ∈ s, ∀ k : Nat, args[k]? ≠ some (.r j)) ∧ OneRaw args
  | [], s, h => ⟨fun j _ k e => by simp at e, fun k k' j e => by simp at e⟩
  | .f m :: r, s, h => by
    obtain ⟨h1, h2⟩ := oneRaw_ok' (args := r) (s := s) h
    refine ⟨fun j hj k e => ?_, fun k k' j e e' => ?_⟩
    · cases k with
      | zero => simp at e
      | succ k => exact h1 j hj k (by simpa using e)
    · cases k with
      | zero => simp at e
      | succ k =>
        cases k' with
        | zero => simp at e'
        | succ k' => rw [h2 k k' j (by simpa using e) (by simpa using e')]
  | .e m :: r, s, h => by
    obtain ⟨h1, h2⟩ := oneRaw_ok' (args := r) (s := s) h
    refine ⟨fun j hj k e => ?_, fun k k' j e e' => ?_⟩
    · cases k with
      | zero => simp at e
      | succ k => exact h1 j hj k (by simpa using e)
    · cases k with
      | zero => simp at e
      | succ k =>
        cases k' with
        | zero => simp at e'
        | succ k' => rw [h2 k k' j (by simpa using e) (by simpa using e')]
  | .r i :: r, s, h => by
    have h : (!s.contains i && oneRaw r (i :: s)) = true := h
    rw [Bool.and_eq_true] at h
    obtain ⟨h1, h2⟩ := oneRaw_ok' (args := r) (s := i :: s) h.2
    have hi : i ∉ s := by simpa using h.1
    refine ⟨fun j hj k e => ?_, fun k k' j e e' => ?_⟩
    · cases k with
      | zero =>
        have : i = j := by simpa using e
        rw [this] at hi
        exact hi hj
      | succ k => exact h1 j (List.mem_cons_of_mem _ hj) k (by simpa using e)
    · cases k with
      | zero =>
        have ei : i = j := by simpa using e
        subst ei
        cases k' with
        | zero => rfl
        | succ k' => exact absurd (by simpa using e') (h1 i List.mem_cons_self k')
      | succ k =>
        cases k' with
        | zero =>
          have ei : i = j := by simpa using e'
          subst ei
          exact absurd (by simpa using e) (h1 i List.mem_cons_self k)
        | succ k' => rw [h2 k k' j (by simpa using e) (by simpa using e')]
theorem oneRaw_ok {args : List Arg} (h : oneRaw args [] = true) : OneRaw args := (oneRaw_ok' h).2
def rawOk (rf : Nat → Bool) : Nat → List Arg → Bool
  | _, [] => true
  | i, .e _ :: r => rawOk rf (i + 1) r
  | i, .r _ :: r => rf i && rawOk rf (i + 1) r
  | i, .f _ :: r => rf i && rawOk rf (i + 1) r
theorem rawOk_ok {rf : Nat → Bool} : ∀ {args : List Arg} {i : Nat}, rawOk rf i args = true → ∀ (k : Nat), rawA args k → rf (i + k) = true
  | [], i, h, k, e => by
    rcases e with ⟨j, e⟩ | ⟨j, e⟩ <;> simp at e
  | .e m :: r, i, h, k, e => by
    cases k with
    | zero => rcases e with ⟨j, e⟩ | ⟨j, e⟩ <;> simp at e
    | succ k =>
      have := rawOk_ok (args := r) (i := i + 1) h k (e.imp (fun ⟨j, e⟩ => ⟨j, by simpa using e⟩) fun ⟨j, e⟩ => ⟨j, by simpa using e⟩)
      rw [← this]; congr 1; omega
  | .r m :: r, i, h, k, e => by
    have h : (rf i && rawOk rf (i + 1) r) = true := h
    rw [Bool.and_eq_true] at h
    cases k with
    | zero => exact h.1
    | succ k =>
      have := rawOk_ok (args := r) (i := i + 1) h.2 k (e.imp (fun ⟨j, e⟩ => ⟨j, by simpa using e⟩) fun ⟨j, e⟩ => ⟨j, by simpa using e⟩)
      rw [← this]; congr 1; omega
  | .f m :: r, i, h, k, e => by
    have h : (rf i && rawOk rf (i + 1) r) = true := h
    rw [Bool.and_eq_true] at h
    cases k with
    | zero => exact h.1
    | succ k =>
      have := rawOk_ok (args := r) (i := i + 1) h.2 k (e.imp (fun ⟨j, e⟩ => ⟨j, by simpa using e⟩) fun ⟨j, e⟩ => ⟨j, by simpa using e⟩)
      rw [← this]; congr 1; omega
section
variable {X : Cx} {C : Cy} {k k' n : Nat} {x : Str} {p pos : Pos} {e : Expr} {es : List Expr} {args : List Arg} {F : Fn} {rfc : Nat → Bool} {fresh : Bool}
theorem pd_callC (G : Cal X.prog X.w X.K X.mg X.base C.g x k n rfc fresh F) (hr : Room k' X.A) (hk : k ≤ k') (hg : Gl X x) (tk : Takes X C.W) (hd : (x == ("__debug__" : Str)) = false) (hs : (e :: es).all notStar = true) (one : oneRaw args [] = true) (hrf : rawOk rfc 0 args = true) (hn : args.length = n) (ha : PA X (e :: es) (EvAr C args)) :
    PE X (.Call (.Name x p) (e :: es) [] pos) (EvE C (mCall F args)) := by
  obtain ⟨f, fd, ps, h1, h2, h3, h4⟩ := G
  exact pd_call h4 (hr.mono hk) hg h1 h2 h3 tk hd hs (oneRaw_ok one) (fun k e => by have := rawOk_ok hrf k e; rwa [Nat.zero_add] at this) hn ha
theorem pd_callFC (G : Cal X.prog X.w X.K X.mg X.base C.g x k n rfc true F) (hr : Room k' X.A) (hk : k ≤ k') (hg : Gl X x) (tk : Takes X C.W) (hd : (x == ("__debug__" : Str)) = false) (hs : (e :: es).all notStar = true) (one : oneRaw args [] = true) (hrf : rawOk rfc 0 args = true) (hn : args.length = n) (ha : PA X (e :: es) (EvAr C args)) :
    PE X (.Call (.Name x p) (e :: es) [] pos) (EvF C (mCallF F args)) := by
  obtain ⟨f, fd, ps, h1, h2, h3, h4⟩ := G
  exact pd_callF h4 (hr.mono hk) hg h1 h2 h3 tk hd hs (oneRaw_ok one) (fun k e => by have := rawOk_ok hrf k e; rwa [Nat.zero_add] at this) hn ha
theorem qs_raiseC {cls : Tx} {m : M (List D)} {cpos : Pos} {q : Nat} (G : Exk X.prog X.w X.K X.mg X.base C.g x cls k) (hr : Room k' X.A) (hk : k + 1 ≤ k') (hc : X.calm = true) (tk : Takes X C.W) (hK : C.g.K = X.K) (hg : Gl X x) (ha : PA X (e :: es) (EvA C m)) (hdb : (x == ("__debug__" : Str)) = false) (hs : (e :: es).all notStar = true)
    (hq : (C.g.fl cls).length = q) (hsmall : q ≤ 900) : PS X (.Raise (some (.Call (.Name x p) (e :: es) [] cpos)) none pos) (EvS C (sRaise cls q m)) := by
  obtain ⟨h1, h2, fI, fd, ps, h3, h4, h5, h6⟩ := G
  subst hq
  exact qs_raise hc tk hK h2 h3 h4 h6 (hr.mono hk) h5 hg h1 ha hdb hs hsmall
end

/-! ### the head's hook: facts, defs, checks of one's own -/
abbrev AlM : Type := He.AlD × Bool
def obsM (fa : List He.Fa) (fn : List He.DefD) (ck : List (PySem.W.Frag → Bool)) (K : PySem.W.Frag) : AlM := (He.obsD fa fn K, ck.all fun c => c K)
def SaysM (fa : List He.Fa) (fn : List He.DefD) (ck : List (PySem.W.Frag → Bool)) (K : PySem.W.Frag) : Prop := obsM fa fn ck K = (He.valD fn, true)
def obsMG (n : Nat) (fa : List He.Fa) (fn : List He.DefD) (ck : List (PySem.W.Frag → Bool)) (g : Addr → Option Obj) : AlM := obsM fa fn ck (He.frG g (He.asD g n))
def hookM (n : Nat) (fa : List He.Fa) (fn : List He.DefD) (ck : List (PySem.W.Frag → Bool)) : PySem.W.Hook where
  α := AlM
  obs := fun s => obsMG n fa fn ck s.heap.get?
  val := fun _ => (He.valD fn, true)
  says := fun _ h => ∃ K : PySem.W.Frag, K.In h ∧ SaysM fa fn ck K
  of := fun _ _ e => ⟨_, He.frG_in, e⟩
  keeps := fun _ _ _ ⟨K, hK, c⟩ k => ⟨K, PySem.W.Frag.In.keeps hK k, c⟩
theorem obsMG_eq {n : Nat} {fa : List He.Fa} {fn : List He.DefD} {ck : List (PySem.W.Frag → Bool)} {g : Addr → Option Obj} {s : Shared} (h : ∀ a, g a = s.heap.get? a) : obsMG n fa fn ck g = (hookM n fa fn ck).obs s := by
  have e : g = s.heap.get? := funext h
  rw [e] <;> rfl
section
variable {fa : List He.Fa} {fn : List He.DefD} {ck : List (PySem.W.Frag → Bool)} {K : PySem.W.Frag}
theorem SaysM.toD (c : SaysM fa fn ck K) : He.SaysD fa fn K := congrArg (fun z : AlM => z.1) c
theorem SaysM.chk (c : SaysM fa fn ck K) (i : Nat) {f : PySem.W.Frag → Bool} (h : ck[i]? = some f) : f K = true :=
  List.all_eq_true.mp (show (ck.all fun c => c K) = true from congrArg (fun z : AlM => z.2) c) f (List.mem_of_getElem? h)
end
/-- the class named x, as the relation's data has it -/
def caK (K : PySem.W.Frag) (cls : Tx) : Addr := He.ga K ⟨cls.toArray⟩
def flT : List (Tx × List Tx) → Tx → List Tx
  | [], _ => []
  | (c, fs) :: r, x => if x = c then fs else flT r x
def gOf (tab : List (Tx × List Tx)) (K : PySem.W.Frag) : G := ⟨K, caK K, flT tab⟩
end MP

/-! MP, part M: short words for the printed walks. -/
namespace MP
open L2 PyProof.Rows PySem PySem.Spec

section
variable {X : Cx} {C : Cy} {x : Str} {pos : Pos}
theorem nv (i : Nat) (hN : X.N[i]? = some x := by rfl) (hv : Vis X.env.scope x := by first | exact Or.inl rfl | exact Or.inr (Or.inl rfl) | exact Or.inr (Or.inr rfl)) (hd : (x == ("__debug__" : Str)) = false := by decide) (hcd : (x == ("__classdict__" : Str)) = false := by decide) : PE X (.Name x pos) (EvE C (mVar i)) := pd_var hN hv hd hcd
theorem np (i : Nat) (hN : X.N[i]? = some x := by rfl) (hv : Vis X.env.scope x := by first | exact Or.inl rfl | exact Or.inr (Or.inl rfl) | exact Or.inr (Or.inr rfl)) (hd : (x == ("__debug__" : Str)) = false := by decide) (hcd : (x == ("__classdict__" : Str)) = false := by decide) : PE X (.Name x pos) (EvP C (mPeek i)) := pd_peek hN hv hd hcd
theorem gn (i : Nat) (hN : X.N.Nodup) (hi : X.N[i]? = some x := by rfl) (hx : Loc X.env.scope x := by first | exact Or.inl rfl | exact Or.inr rfl) (hf : X.fn x = true ∨ X.env.scope.names.lookup x = some .local := by first | exact Or.inl rfl | exact Or.inr rfl) (hr : C.rf i = false := by rfl) : PG X (.Name x pos) (EvG C (.nm i)) := pg_nmD hN hi hx hf hr
theorem gs {es : List Expr} {is : List Nat} (i : Nat) (hN : X.N.Nodup) (h : PGs X es (gsN is)) (hi : X.N[i]? = some x := by rfl) (hx : Loc X.env.scope x := by first | exact Or.inl rfl | exact Or.inr rfl) (hf : X.fn x = true ∨ X.env.scope.names.lookup x = some .local := by first | exact Or.inl rfl | exact Or.inr rfl)
    (hs : (assignEach (.Name x pos :: es) X.env).map (·.2) = assign (.Name x pos) X.env :: (assignEach es X.env).map (·.2) := by rfl) : PGs X (.Name x pos :: es) (gsN (i :: is)) := pgs_cons (pg_name hN hi hx hf) h hs
theorem se {e : Expr} {m : M D} {p2 : Pos} (i : Nat) (hN : X.N.Nodup) (he : PE X e (EvE C m)) (hi : X.N[i]? = some x := by rfl) (hx : Loc X.env.scope x := by first | exact Or.inl rfl | exact Or.inr rfl) (hc : notComp e = true := by rfl) (hf : X.fn x = true ∨ X.env.scope.names.lookup x = some .local := by first | exact Or.inl rfl | exact Or.inr rfl) (hr : C.rf i = false := by rfl) :
    PS X (.Assign [.Name x pos] e p2) (EvS C (sSet i m)) := qs_set hN hi hx hc hf hr he
theorem sf {e : Expr} {m : M (List D)} {p2 : Pos} (i : Nat) (hN : X.N.Nodup) (he : PE X e (EvF C m)) (hi : X.N[i]? = some x := by rfl) (hx : Loc X.env.scope x := by first | exact Or.inl rfl | exact Or.inr rfl) (hc : notComp e = true := by rfl) (hf : X.fn x = true ∨ X.env.scope.names.lookup x = some .local := by first | exact Or.inl rfl | exact Or.inr rfl) (hr : C.rf i = false := by rfl) :
    PS X (.Assign [.Name x pos] e p2) (EvS C (sSetF i m)) := qs_setF hN hi hx hc hf hr he
/-- a constant of the module -/
def KC (mg : Str → Option Value) (K : PySem.W.Frag) (x : Str) (d : D) : Prop := ∃ (v : V) (u : Value), mg x = some u ∧ RelV v u ∧ ∀ (g : G) (L : Addr → Prop) (H : Hp), g.K = K → Rep g L H d v
theorem pd_const {d : D} (h : KC X.mg X.K x d) (hK : C.g.K = X.K) (hg : Gl X x) (hd : (x == ("__debug__" : Str)) = false) : PE X (.Name x pos) (EvE C (mC d)) := by
  obtain ⟨v, u, h1, h2, h3⟩ := h
  exact pd_c (pe_glob hg h1 h2 hd) fun L H => h3 C.g L H hK
end
theorem kc_str {mg : Str → Option Value} {K : PySem.W.Frag} {h : Heap} {x z : Str} {s : Tx} (X : K.In h) (G : h.Ns mainGlobals mg) (c : (He.Fa.str x z).ok K = true) (e : z = ⟨s.toArray⟩) (ok : okT s = true) : KC mg K x (.str s) := by
  obtain ⟨t, h1⟩ := He.str_ok X G c
  exact ⟨.str z, _, h1, ⟨t, rfl⟩, fun g L H _ => ⟨by rw [e], okT_ok ok⟩⟩
theorem kc_int {mg : Str → Option Value} {K : PySem.W.Frag} {h : Heap} {x : Str} {i : Int} (X : K.In h) (G : h.Ns mainGlobals mg) (c : (He.Fa.int x i).ok K = true) : KC mg K x (.int i) := by
  obtain ⟨t, h1⟩ := He.int_ok X G c
  exact ⟨.int i, _, h1, ⟨t, rfl⟩, fun g L H _ => rfl⟩
/-- flat tuples of the module -/
def dvD : D → He.Dv
  | .bl b => .bl b
  | .int i => .int i
  | .str s => .str ⟨s.toArray⟩
  | _ => .non
def flatB : List D → Bool
  | [] => true
  | .non :: r => flatB r
  | .bl _ :: r => flatB r
  | .int _ :: r => flatB r
  | .str s :: r => okT s && flatB r
  | _ => false
theorem flats_of {K : PySem.W.Frag} : ∀ {ds : List D}, flatB ds = true → Flats ds ((ds.map dvD).map (He.Dv.v K))
  | [], _ => .nil
  | .non :: r, h => .cons .non (flats_of h)
  | .bl b :: r, h => .cons (.bl b) (flats_of h)
  | .int i :: r, h => .cons (.int i) (flats_of h)
  | .str s :: r, h => by
    have h : (okT s && flatB r) = true := h
    rw [Bool.and_eq_true] at h
    exact .cons (.str h.1) (flats_of h.2)
  | .tup _ :: _, h => by cases h
  | .lst _ :: _, h => by cases h
  | .ins _ _ :: _, h => by cases h
theorem kc_tup {mg : Str → Option Value} {K : PySem.W.Frag} {h : Heap} {x : Str} {ds : List D} (X : K.In h) (G : h.Ns mainGlobals mg) (c : (He.Fa.glo x).ok K = true) (t : He.tupB K x (ds.map dvD) = true) (fl : flatB ds = true) (hz : ds.length ≤ 1000000) : KC mg K x (.tup ds) :=
  ⟨.ref (He.ga K x), _, He.glo_ok X G c, rfl, fun g L H hK => ⟨He.ga K x, _, rfl, ⟨.inr (by rw [hK]; exact He.tupB_ok t _), by rw [List.length_map, List.length_map]; exact big hz⟩, (flats_of fl).reps⟩⟩
/-- an error class, caught: its fields can be read -/
def Xk (mg : Str → Option Value) (K : PySem.W.Frag) (x : Str) (cls : Tx) (fs : List Str) : Prop := mg x = some (.ref (caK K cls)) ∧ XfC K (caK K cls) ∧ ∀ n ∈ fs, PySem.W.findIn K (.ref (caK K cls)) n = some none
section
variable {P : Program} {w : World} {K : PySem.W.Frag} {mg : Str → Option Value} {base : Heap} {x qual : Str} {params : Arguments} {body : List Stmt} {scope : Scope} {dvs : List V} {kws : List (Str × V)} {f : Addr} {fd : FuncData}
theorem fn_ok2 {N ps : List Str} {g : G} {n m k : Nat} {rf : Nat → Bool} {fresh : Bool} {mb : MS} (F : FunD K x qual params body scope dvs kws f fd) (S : FnScope N ps scope) (hm : N.length = m) (hps : ps.length = n) (hn : n ≤ m)
    (hb : ∀ (cdv : Value) (A : Around) (outer : List PySem.Env) (s : Shared) (H : Hp) (E : XK), Room k (A.deeper (envOfC qual scope s.heap.objs.size f cdv)) → PSs (cxOf (L2.CX P w) P w K mg base N qual scope f cdv A outer s H E) body (EvS (Cd g n rf H E) mb)) :
    FnOk P w K mg base (L2.CX P w) (k + 1) f fd ps (spF g n rf fresh (runF n m rf fresh mb)) := by
  subst hm
  exact fn_ok F S hps hn hb
end
theorem rfB {rf : Nat → Bool} {vs : List Nat} (h : (vs.all fun v => !rf v) = true) : ∀ v ∈ vs, rf v = false := fun v hv => by
  have := List.all_eq_true.mp h v hv
  simpa using this
end MP

/-! MP, part N: the head's hook over a part without lists; the law's end. -/
namespace MP
open L2 PyProof.Rows PySem PySem.Spec

def isLst (o : Obj) : Bool := match o.cls with
  | .type n => n == "list"
  | _ => false
def noL (K : PySem.W.Frag) : PySem.W.Frag := K.filter fun p => !isLst p.2
theorem lookup_mem {α : Type} {a : Addr} {o : α} : ∀ {l : List (Addr × α)}, l.lookup a = some o → (a, o) ∈ l
  | [], h => by cases h
  | (b, u) :: r, h => by
    rw [List.lookup_cons] at h
    cases q : (a == b) with
    | true =>
      rw [q] at h
      cases h
      rw [beq_iff_eq.mp q]
      exact List.mem_cons_self
    | false =>
      rw [q] at h
      exact List.mem_cons_of_mem _ (lookup_mem h)
theorem noL_in {as : List Addr} {h : Heap} : (noL (He.frG h.get? as)).In h := fun a o e => by
  have m := lookup_mem e
  have m2 := (List.mem_filter.mp m).1
  obtain ⟨b, _, hb⟩ := List.mem_filterMap.mp m2
  cases q : h.get? b with
  | none => rw [q] at hb; cases hb
  | some u =>
    rw [q] at hb
    cases hb
    exact q
theorem noL_no {K : PySem.W.Frag} {a : Addr} {o : Obj} (e : (noL K).lookup a = some o) : isLst o = false := by
  have m := (List.mem_filter.mp (lookup_mem e)).2
  simpa using m
def NoLists (K : PySem.W.Frag) : Prop := ∀ a o, K.lookup a = some o → isLst o = false
def obsNG (n : Nat) (fa : List He.Fa) (fn : List He.DefD) (ck : List (PySem.W.Frag → Bool)) (g : Addr → Option Obj) : AlM := obsM fa fn ck (noL (He.frG g (He.asD g n)))
def hookN (n : Nat) (fa : List He.Fa) (fn : List He.DefD) (ck : List (PySem.W.Frag → Bool)) : PySem.W.Hook where
  α := AlM
  obs := fun s => obsNG n fa fn ck s.heap.get?
  val := fun _ => (He.valD fn, true)
  says := fun _ h => ∃ K : PySem.W.Frag, K.In h ∧ NoLists K ∧ SaysM fa fn ck K
  of := fun _ _ e => ⟨_, noL_in, fun _ _ => noL_no, e⟩
  keeps := fun _ _ _ ⟨K, hK, nl, c⟩ k => ⟨K, PySem.W.Frag.In.keeps hK k, nl, c⟩
theorem obsNG_eq {n : Nat} {fa : List He.Fa} {fn : List He.DefD} {ck : List (PySem.W.Frag → Bool)} {g : Addr → Option Obj} {s : Shared} (h : ∀ a, g a = s.heap.get? a) : obsNG n fa fn ck g = (hookN n fa fn ck).obs s := by
  have e : g = s.heap.get? := funext h
  rw [e] <;> rfl
theorem rd_of {K : PySem.W.Frag} {H : Hp} {a : Addr} {vs : List V} (nl : NoLists K) (h : SqL K H a vs) : Rd H a (.lst vs) := by
  rcases h with h | ⟨o, its, n, e, c, _⟩
  · exact h
  · have := nl a o e
    unfold isLst at this
    rw [c] at this
    simp at this
theorem ints_rep {g : G} {L : Addr → Prop} {H : Hp} : ∀ ns : List Int, Reps g L H (ns.map D.int) (ns.map V.int)
  | [] => rfl
  | n :: ns => .cons rfl (ints_rep ns)
/-- the law's promise, from what its combinator tells -/
theorem sp_law {g : G} {rf : Nat → Bool} {F : Fn} {H : Hp} {a : Addr} {ns : List Int} (hr : rf 0 = false) (h : Rd H a (.lst (ns.map V.int))) (hl : ns.length ≤ 63) (hF : ∃ outs, F [.p (.lst (ns.map D.int))] = .ok (.bl true) outs) :
    spF g 1 rf false F [.ref a] H (fun v _ => v = .bl true) (fun _ _ _ => False) := by
  obtain ⟨outs, hF⟩ := hF
  have nL : ∀ b, ¬ LL (fun _ => False) (fun _ => none) b := fun b z => z.elim id fun ⟨i, e⟩ => (by cases e)
  refine ⟨fun _ => False, fun _ => none, [.p (.lst (ns.map D.int))], rfl, ⟨rfl, fun i => ?_, fun i j b e => (by cases e), fun i b e => (by cases e), fun b z => False.elim z, fun b z => z, fun i b _ e => (by cases e)⟩, ?_⟩
  · cases i with
    | zero => exact ⟨rfl, .ref a, rfl, a, ns.map V.int, rfl, ⟨⟨h, nL a⟩, by rw [List.length_map]; exact Nat.le_trans hl (by rw [sizeLine_eq]; decide)⟩, ints_rep ns⟩
    | succ i => show (none : Option Addr) = none; rfl
  · rw [hF]
    exact fun v A' H' _ _ r => r
theorem cx_no {P : Program} {w : World} (H : Hp) (s : Shared) (e : Value) (s' : Shared) (h : L2.CX P w [] H s (fun _ _ _ => False) e s') : False := by
  unfold L2.CX at h
  obtain ⟨a, B, H', cls, d, h⟩ := h
  obtain ⟨_, _, _, _, _, _, _, h⟩ := h
  exact h
def CXa (P : Program) : CXT := fun outer H s E u s' => ∃ w, L2.CX P w outer H s E u s'
theorem cxa_no {P : Program} (H : Hp) (s : Shared) (e : Value) (s' : Shared) (h : CXa P [] H s (fun _ _ _ => False) e s') : False := let ⟨_, h⟩ := h; cx_no H s e s' h
theorem anyW {P : Program} {w : World} {K : PySem.W.Frag} {mg : Str → Option Value} {base : Heap} {k : Nat} {f : Addr} {fd : FuncData} {ps : List Str} {sp : Sp} (F : FnOk P w K mg base (L2.CX P w) k f fd ps sp) : FnOk P w K mg base (CXa P) k f fd ps sp :=
  ⟨F.len, fun A outer s H args us vs Q E hr he hb hv hs => codeAny_mono (F.run A outer s H args us vs Q E hr he hb hv hs) fun r s' h => by
    cases r with
    | error e => exact ⟨w, h⟩
    | ok fl => cases fl <;> exact h⟩
/-! ### facts of an error class -/
def exB (x : Str) (fs : List Str) (K : PySem.W.Frag) : Bool := oexB K (He.ga K x) && (He.eqO (PySem.W.findIn K (.ref (He.ga K x)) "__init__") (some (some (.ref (He.ma K (He.ga K x) "__init__")))) && (decide (PySem.W.typeIn K (.ref (He.ma K (He.ga K x) "__init__")) = some (.type "function")) &&
  ((fs.all fun f => He.eqO (PySem.W.findIn K (.ref (He.ga K x)) f) (some none)) && xfB K (He.ga K x))))
structure ExF (K : PySem.W.Frag) (x : Str) (fs : List Str) (C : Addr) : Prop where
  oex : OexC K C
  ini : PySem.W.findIn K (.ref C) "__init__" = some (some (.ref (He.ma K (He.ga K x) "__init__")))
  typ : PySem.W.typeIn K (.ref (He.ma K (He.ga K x) "__init__")) = some (.type "function")
  no : ∀ f ∈ fs, PySem.W.findIn K (.ref C) f = some none
  xf : XfC K C
theorem exB_ok {x : Str} {fs : List Str} {K : PySem.W.Frag} (h : exB x fs K = true) {cls : Tx} (e : (⟨cls.toArray⟩ : Str) = x) : ExF K x fs (caK K cls) := by
  have ec : caK K cls = He.ga K x := congrArg (He.ga K) e
  rw [ec]
  unfold exB at h
  obtain ⟨h1, h⟩ := Bool.and_eq_true_iff.mp h
  obtain ⟨h2, h⟩ := Bool.and_eq_true_iff.mp h
  obtain ⟨h3, h⟩ := Bool.and_eq_true_iff.mp h
  obtain ⟨h4, h5⟩ := Bool.and_eq_true_iff.mp h
  exact ⟨oexB_ok h1, He.eqO_ok h2, of_decide_eq_true h3, fun f hf => He.eqO_ok (List.all_eq_true.mp h4 f hf), xfB_ok h5⟩
theorem caK_eq {K : PySem.W.Frag} {cls : Tx} {x : Str} (e : (⟨cls.toArray⟩ : Str) = x) : caK K cls = He.ga K x := congrArg (He.ga K) e
theorem glo_ca {K : PySem.W.Frag} {h : Heap} {mg : Str → Option Value} (X : K.In h) (G : h.Ns mainGlobals mg) {x : Str} (c : (He.Fa.glo x).ok K = true) {cls : Tx} (e : (⟨cls.toArray⟩ : Str) = x) : mg x = some (.ref (caK K cls)) := by
  rw [caK_eq e]
  exact He.glo_ok X G c
def hitT : List (Tx × Bool) → Tx → Option Bool
  | [], _ => none
  | (t, b) :: r, c => if c = t then some b else hitT r c
theorem hit_nil {K : PySem.W.Frag} {c : Value} : ∀ cl b, hitT [] cl = some b → PySem.W.exmOne K (.ref (caK K cl)) c = some b := fun _ _ h => by cases h
theorem hit_cons {K : PySem.W.Frag} {t u : Tx} {x y : Str} {b0 : Bool} {r : List (Tx × Bool)} (et : (⟨t.toArray⟩ : Str) = x) (eu : (⟨u.toArray⟩ : Str) = y) (h : (He.Fa.exm x y b0).ok K = true) (hr : ∀ cl b, hitT r cl = some b → PySem.W.exmOne K (.ref (caK K cl)) (.ref (caK K u)) = some b) :
    ∀ cl b, hitT ((t, b0) :: r) cl = some b → PySem.W.exmOne K (.ref (caK K cl)) (.ref (caK K u)) = some b := fun cl b q => by
  have q : (if cl = t then some b0 else hitT r cl) = some b := q
  by_cases e : cl = t
  · rw [if_pos e] at q
    cases q
    rw [e, caK_eq et, caK_eq eu]
    exact He.exm_ok h
  · rw [if_neg e] at q
    exact hr cl b q
end MP

/-! MP, part X: what combinators tell, plainly. -/
namespace MP
open L2 PyProof.Rows PySem PySem.Spec

section
variable {α β : Type} {e e' : Env}
@[simp] theorem bnd (m : M α) (f : α → M β) : (m >>= f) e = (match m e with
  | .ok a e' => f a e'
  | .ex x e' => .ex x e'
  | .bad => .bad) := rfl
@[simp] theorem bnd2 (m : M α) (f : α → M β) : M.bind m f e = (match m e with
  | .ok a e' => f a e'
  | .ex x e' => .ex x e'
  | .bad => .bad) := rfl
@[simp] theorem pur (a : α) : (pure a : M α) e = .ok a e := rfl
@[simp] theorem lift_s (a : α) : (lift (some a) : M α) e = .ok a e := rfl
@[simp] theorem lift_n : (lift none : M α) e = .bad := rfl
@[simp] theorem bad_e : (bad : M α) e = .bad := rfl
@[simp] theorem mC_e (d : D) : mC d e = .ok d e := rfl
@[simp] theorem mVar_e (i : Nat) : mVar i e = (match e[i]? with
  | some (some (.p d)) => .ok d e
  | some (some (.ml xs)) => .ok (.lst xs) (e.set i (some (.p (.lst xs))))
  | _ => .bad) := rfl
@[simp] theorem mPeek_e (i : Nat) : mPeek i e = (match e[i]? with
  | some (some (.p d)) => .ok d e
  | some (some (.ml xs)) => .ok (.lst xs) e
  | _ => .bad) := rfl
@[simp] theorem mYes_e : mYes e = .ok true e := rfl
@[simp] theorem mNil_e : mNil e = .ok [] e := rfl
@[simp] theorem mNoPart_e : mNoPart e = .ok none e := rfl
@[simp] theorem sE_e (m : M α) (f : α → MS) : sE m f e = (match m e with
  | .ok a e' => f a e'
  | .ex x e' => .ex x e'
  | .bad => .bad) := rfl
@[simp] theorem sNx_e : sNx e = .ok .nx e := rfl
@[simp] theorem sSeq_e (a b : MS) : sSeq a b e = (match a e with
  | .ok .nx e' => b e'
  | .ok fl e' => .ok fl e'
  | .ex x e' => .ex x e'
  | .bad => .bad) := rfl
/-- a comprehension over pure parts, its own slot i -/
theorem lc_run {i : Nat} {e0 : Env} (h0 : e0.set i none = e0) {tst : M Bool} {elt : M D} {p : D → Bool} {f : D → D} : ∀ {ds : List D}, (∀ d ∈ ds, tst (e0.set i (some (.p d))) = .ok (p d) (e0.set i (some (.p d)))) → (∀ d ∈ ds, p d = true → elt (e0.set i (some (.p d))) = .ok (f d) (e0.set i (some (.p d)))) →
    lcD [i] (.nm i) tst elt ds e0 = .ok ((ds.filter p).map f) e0
  | [], _, _ => rfl
  | d :: ds, ht, hf => by
    have ih := lc_run h0 (fun x hx => ht x (List.mem_cons_of_mem _ hx)) (fun x hx => hf x (List.mem_cons_of_mem _ hx))
    have w : wipeE (e0.set i (some (.p d))) [i] = e0 := by
      show (e0.set i _).set i none = e0
      rw [List.set_set, h0]
    unfold lcD
    show (match tst (e0.set i (some (.p d))) with
      | .ok true e2 => _
      | .ok false e2 => _
      | _ => _) = _
    rw [ht d List.mem_cons_self]
    cases hp : p d with
    | false =>
      dsimp only
      rw [w, ih, List.filter_cons_of_neg (by rw [hp]; simp)]
    | true =>
      dsimp only
      rw [hf d List.mem_cons_self hp]
      dsimp only
      rw [w, ih, List.filter_cons_of_pos hp, List.map_cons]
theorem lc_map {i : Nat} {e0 : Env} (h0 : e0.set i none = e0) {elt : M D} {f : D → D} {ds : List D} (hf : ∀ d ∈ ds, elt (e0.set i (some (.p d))) = .ok (f d) (e0.set i (some (.p d)))) : lcD [i] (.nm i) mYes elt ds e0 = .ok (ds.map f) e0 := by
  have h := lc_run h0 (tst := mYes) (elt := elt) (p := fun _ => true) (f := f) (ds := ds) (fun _ _ => rfl) fun d hd _ => hf d hd
  rw [h]
  congr 2
  rw [List.filter_eq_self.mpr fun _ _ => rfl]
end
theorem bls_map (bs : List Bool) : blsOf (bs.map D.bl) = some bs := by
  induction bs with
  | nil => rfl
  | cons b bs ih => show (blsOf (bs.map D.bl)).map (b :: ·) = _; rw [ih]; rfl
theorem strs_map (ts : List Tx) : strsOf (ts.map D.str) = some ts := by
  induction ts with
  | nil => rfl
  | cons b bs ih => show (strsOf (bs.map D.str)).map (b :: ·) = _; rw [ih]; rfl
theorem ints_map (ts : List Int) : intsOf (ts.map D.int) = some ts := by
  induction ts with
  | nil => rfl
  | cons b bs ih => show (intsOf (bs.map D.int)).map (b :: ·) = _; rw [ih]; rfl
theorem atI_zero {α : Type} (x : α) (xs : List α) : atI (x :: xs) 0 = some x := by
  unfold atI ixN
  rw [if_pos (by omega), if_pos (by simp)]
  rfl
theorem atI_nat {α : Type} (xs : List α) (k : Nat) : atI xs (k : Int) = xs[k]? := by
  unfold atI ixN
  rw [if_pos (by omega)]
  by_cases h : k < xs.length
  · rw [if_pos (by omega)]
    simp
  · rw [if_neg (by omega)]
    simp; omega
theorem cutL_tail {α : Type} (x : α) (xs : List α) : cutL (x :: xs) (some 1) none = xs := by
  unfold cutL
  simp [HT.sIx]
@[simp] theorem bls_comp {α : Type} (f : α → Bool) (xs : List α) : blsOf (xs.map (D.bl ∘ f)) = some (xs.map f) := by
  rw [← bls_map (xs.map f), List.map_map]
@[simp] theorem strs_comp {α : Type} (f : α → Tx) (xs : List α) : strsOf (xs.map (D.str ∘ f)) = some (xs.map f) := by
  rw [← strs_map (xs.map f), List.map_map]
@[simp] theorem strs_fun {α : Type} (f : α → Tx) (xs : List α) : strsOf (xs.map fun x => D.str (f x)) = some (xs.map f) := strs_comp f xs
@[simp] theorem bls_fun {α : Type} (f : α → Bool) (xs : List α) : blsOf (xs.map fun x => D.bl (f x)) = some (xs.map f) := bls_comp f xs
@[simp] theorem all_id' {α : Type} (f : α → Bool) (xs : List α) : (xs.map f).all id = xs.all f := by
  induction xs with
  | nil => rfl
  | cons x xs ih => simp
theorem spl_ne (S : List Nat) : ∀ (l : List Nat) (k : Nat) (acc : List Nat), TL.spl S k acc l ≠ []
  | [], k, acc => by rw [TL.spl_nil]; simp
  | c :: r, 0, acc => by
    show (if TL.pre S (c :: r) = true then acc :: TL.spl S (S.length - 1) [] r else TL.spl S 0 (acc ++ [c]) r) ≠ []
    split
    · simp
    · exact spl_ne S r 0 _
  | c :: r, k + 1, acc => spl_ne S r k acc
theorem spl_cons (S : List Nat) (l : List Nat) : ∃ h t, TL.spl S 0 [] l = h :: t := by
  cases e : TL.spl S 0 [] l with
  | nil => exact absurd e (spl_ne S l 0 [])
  | cons h t => exact ⟨h, t, rfl⟩
theorem spl_le {S : List Nat} {l : List Nat} {p : Tx} (h : p ∈ TL.spl S 0 [] l) : p.length ≤ l.length := by
  have := (spl_in S l 0 [] p h).2
  simpa using this
theorem spl_many {S : List Nat} {l h : List Nat} {t : List Tx} (e : TL.spl S 0 [] l = h :: t) : t.length ≤ l.length := by
  have := spl_len S l 0 []
  rw [e] at this
  simpa using this
theorem splitF_e {s : Tx} {c : Nat} (h : s.length ≤ 1000000) (hc : c < 256) : splitF s (.str [c]) = some ((TL.spl [c] 0 [] s).map .str) := if_pos ⟨h, hc⟩
theorem peek_set {i : Nat} {e : Env} {d : D} (h : i < e.length) : (e.set i (some (.p d)))[i]? = some (some (.p d)) := List.getElem?_set_self h
theorem binL_set {f : D → D → Option D} {i : Nat} {e : Env} {d c k : D} (h : i < e.length) (hf : f d c = some k) : mBinL f i (mC c) (e.set i (some (.p d))) = .ok k (e.set i (some (.p d))) := by
  unfold mBinL
  simp [peek_set h, hf]
theorem un_set {f : D → Option D} {i : Nat} {e : Env} {d k : D} (h : i < e.length) (hf : f d = some k) : mUn f (mPeek i) (e.set i (some (.p d))) = .ok k (e.set i (some (.p d))) := by
  unfold mUn
  simp [peek_set h, hf]
section
variable {e : Env} {α : Type}
@[simp] theorem u_mBin (f a b) : mBin f a b e = (a >>= fun x => b >>= fun y => lift (f x y)) e := rfl
@[simp] theorem u_mBinL (f i b) : mBinL f i b e = (mPeek i >>= fun _ => b >>= fun y => mPeek i >>= fun x => lift (f x y)) e := rfl
@[simp] theorem u_mBinF (f a b) : mBinF f a b e = (a >>= fun x => b >>= fun y => lift (f x y)) e := rfl
@[simp] theorem u_mBinFL (f i b) : mBinFL f i b e = (mPeek i >>= fun _ => b >>= fun y => mPeek i >>= fun x => lift (f x y)) e := rfl
@[simp] theorem u_mUn (f : D → Option α) (a) : mUn f a e = (a >>= fun x => lift (f x)) e := rfl
@[simp] theorem u_mMs (f : Tx → D → Option α) (a b) : mMs f a b e = (a >>= fun x => lift (MP.strOf x) >>= fun s => b >>= fun y => lift (f s y)) e := rfl
@[simp] theorem u_mSl (f : D → Option Int → Option Int → Option α) (a l h) : mSl f a l h e = (a >>= fun x => l >>= fun l => h >>= fun h => lift (f x l h)) e := rfl
@[simp] theorem u_mSlL (f : D → Option Int → Option Int → Option α) (i l h) : mSlL f i l h e = (mPeek i >>= fun _ => l >>= fun l => h >>= fun h => mPeek i >>= fun x => lift (f x l h)) e := rfl
@[simp] theorem u_mPart (m) : mPart m e = (m >>= fun d => lift (MP.intD d) >>= fun i => pure (some i)) e := rfl
@[simp] theorem u_mTest (m) : mTest m e = (m >>= fun d => lift (blD d)) e := rfl
@[simp] theorem u_mTru (m) : mTru m e = (m >>= fun d => lift (truD d)) e := rfl
@[simp] theorem u_mNotB (m) : mNotB m e = (m >>= fun b => pure (!b)) e := rfl
@[simp] theorem u_mNot (m) : mNot m e = (m >>= fun d => lift (truD d) >>= fun b => pure (.bl (!b))) e := rfl
@[simp] theorem u_mAnd (a b) : mAnd a b e = (a >>= fun x => lift (truD x) >>= fun t => if t then b else pure x) e := rfl
@[simp] theorem u_mOr (a b) : mOr a b e = (a >>= fun x => lift (truD x) >>= fun t => if t then pure x else b) e := rfl
@[simp] theorem u_mIf (c a b) : mIf c a b e = (c >>= fun t => if t then a else b) e := rfl
@[simp] theorem u_mAndB (a b) : mAndB a b e = (a >>= fun x => if x then b else pure false) e := rfl
@[simp] theorem u_mOrB (a b) : mOrB a b e = (a >>= fun x => if x then pure true else b) e := rfl
@[simp] theorem u_mChain (f f' a b c) : mChain f f' a b c e = (a >>= fun x => b >>= fun y => lift (f x y) >>= fun z => lift (blD z) >>= fun t => if t then (c >>= fun w => lift (f' y w)) else pure (.bl false)) e := rfl
@[simp] theorem u_mTup (r) : mTup r e = (r >>= fun xs => if xs.length ≤ 1000000 then pure (.tup xs) else bad) e := rfl
@[simp] theorem u_mLst (r) : mLst r e = (r >>= fun xs => if xs.length ≤ 1000000 then pure xs else bad) e := rfl
@[simp] theorem u_mCons (a r) : mCons a r e = (a >>= fun x => r >>= fun xs => pure (x :: xs)) e := rfl
@[simp] theorem u_mFE (m) : mFE m e = (m >>= fun xs => pure (.lst xs)) e := rfl
@[simp] theorem u_mIter (m) : mIter m e = (m >>= fun d => lift (itD d)) e := rfl
@[simp] theorem u_mArgs (f : List D → Option α) (m) : mArgs f m e = (m >>= fun ds => lift (f ds)) e := rfl
@[simp] theorem u_ifM (c : Bool) (a b : M α) : (if c = true then a else b) e = if c = true then a e else b e := by cases c <;> rfl
@[simp] theorem u_mLc (own src tg tst elt) : mLc own src tg tst elt e = (src >>= fun ds => fun e => if ds.length ≤ 1000000 then (match lcD own tg tst elt ds (wipeE (frz e own) own) with
    | .ok ys e' => .ok ys (back0 (frz e own) e' own)
    | _ => .bad) else .bad) e := rfl
@[simp] theorem u_mCall (F args) : mCall F args e = (evArgs args >>= fun ds => fun e => after F args some (gather args ds e) e) e := rfl
@[simp] theorem u_mCallF (F args) : mCallF F args e = (evArgs args >>= fun ds => fun e => after F args lstD (gather args ds e) e) e := rfl
@[simp] theorem u_ea0 : evArgs [] e = .ok [] e := rfl
@[simp] theorem u_ea1 (m r) : evArgs (.e m :: r) e = (m >>= fun d => evArgs r >>= fun ds => pure (AV.v d :: ds)) e := rfl
@[simp] theorem u_ea2 (j r) : evArgs (.r j :: r) e = (chk j >>= fun _ => evArgs r >>= fun ds => pure (AV.s :: ds)) e := rfl
@[simp] theorem u_ea3 (m r) : evArgs (.f m :: r) e = (m >>= fun d => evArgs r >>= fun ds => pure (AV.l d :: ds)) e := rfl
@[simp] theorem u_chk (j) : chk j e = (match e[j]? with
  | some (some (.p _)) => .ok () e
  | some (some (.ml _)) => .ok () e
  | _ => .bad) := rfl
@[simp] theorem u_sIf (c a b) : sIf c a b e = sE c (fun t => if t then a else b) e := rfl
@[simp] theorem u_ifS (c : Bool) (a b : MS) : (if c = true then a else b) e = if c = true then a e else b e := by cases c <;> rfl
@[simp] theorem u_sSet (i m) : sSet i m e = sE m (fun d e => .ok .nx (e.set i (some (.p d)))) e := rfl
@[simp] theorem u_sSetF (i m) : sSetF i m e = sE m (fun ds e => if i < e.length then .ok .nx (e.set i (some (.ml ds))) else .bad) e := rfl
@[simp] theorem u_sRet (m) : sRet m e = sE m (fun d e => .ok (.rt d) e) e := rfl
@[simp] theorem u_sRetF (m) : sRetF m e = sE m (fun d e => .ok (.rtf d) e) e := rfl
@[simp] theorem u_sRetN : sRetN e = .ok (.rt .non) e := rfl
@[simp] theorem u_sRetX (i) : sRetX i e = (match e[i]? with
  | some (some (.p d)) => .ok (.rt d) e
  | some (some (.ml xs)) => .ok (.rtx i xs) e
  | _ => .bad) := rfl
@[simp] theorem u_sDrop (m) : sDrop m e = sE m (fun _ => sNx) e := rfl
@[simp] theorem u_sDropF (m) : sDropF m e = sE m (fun _ => sNx) e := rfl
end
@[simp] theorem i_str_non : isiB "str" .non = some (.bl false) := rfl
@[simp] theorem i_str_bl (b : Bool) : isiB "str" (.bl b) = some (.bl false) := rfl
@[simp] theorem i_str_int (i : Int) : isiB "str" (.int i) = some (.bl false) := rfl
@[simp] theorem i_str_str (s : Tx) : isiB "str" (.str s) = some (.bl true) := rfl
@[simp] theorem i_str_tup (xs : List D) : isiB "str" (.tup xs) = some (.bl false) := rfl
@[simp] theorem i_str_lst (xs : List D) : isiB "str" (.lst xs) = some (.bl false) := rfl
@[simp] theorem i_tuple_non : isiB "tuple" .non = some (.bl false) := rfl
@[simp] theorem i_tuple_bl (b : Bool) : isiB "tuple" (.bl b) = some (.bl false) := rfl
@[simp] theorem i_tuple_int (i : Int) : isiB "tuple" (.int i) = some (.bl false) := rfl
@[simp] theorem i_tuple_str (s : Tx) : isiB "tuple" (.str s) = some (.bl false) := rfl
@[simp] theorem i_tuple_tup (xs : List D) : isiB "tuple" (.tup xs) = some (.bl true) := rfl
@[simp] theorem i_tuple_lst (xs : List D) : isiB "tuple" (.lst xs) = some (.bl false) := rfl
@[simp] theorem i_int_non : isiB "int" .non = some (.bl false) := rfl
@[simp] theorem i_int_bl (b : Bool) : isiB "int" (.bl b) = some (.bl true) := rfl
@[simp] theorem i_int_int (i : Int) : isiB "int" (.int i) = some (.bl true) := rfl
@[simp] theorem i_int_str (s : Tx) : isiB "int" (.str s) = some (.bl false) := rfl
@[simp] theorem i_int_tup (xs : List D) : isiB "int" (.tup xs) = some (.bl false) := rfl
@[simp] theorem i_int_lst (xs : List D) : isiB "int" (.lst xs) = some (.bl false) := rfl
@[simp] theorem i_bool_non : isiB "bool" .non = some (.bl false) := rfl
@[simp] theorem i_bool_bl (b : Bool) : isiB "bool" (.bl b) = some (.bl true) := rfl
@[simp] theorem i_bool_int (i : Int) : isiB "bool" (.int i) = some (.bl false) := rfl
@[simp] theorem i_bool_str (s : Tx) : isiB "bool" (.str s) = some (.bl false) := rfl
@[simp] theorem i_bool_tup (xs : List D) : isiB "bool" (.tup xs) = some (.bl false) := rfl
@[simp] theorem i_bool_lst (xs : List D) : isiB "bool" (.lst xs) = some (.bl false) := rfl
@[simp] theorem i_list_non : isiB "list" .non = some (.bl false) := rfl
@[simp] theorem i_list_bl (b : Bool) : isiB "list" (.bl b) = some (.bl false) := rfl
@[simp] theorem i_list_int (i : Int) : isiB "list" (.int i) = some (.bl false) := rfl
@[simp] theorem i_list_str (s : Tx) : isiB "list" (.str s) = some (.bl false) := rfl
@[simp] theorem i_list_tup (xs : List D) : isiB "list" (.tup xs) = some (.bl false) := rfl
@[simp] theorem i_list_lst (xs : List D) : isiB "list" (.lst xs) = some (.bl true) := rfl
end MP

/-! MP, part O: methods of owned lists, recursion. -/
namespace MP
open L2 PyProof.Rows PySem PySem.Spec

def appF (d : D) (xs : List D) : Option (D × List D) := if xs.length < 1000000 then some (.non, xs ++ [d]) else none
theorem om_app {g : G} : OM1 g rAppend appF := by
  intro L H ds ys x d a vs w Q ha z r rx hf q
  unfold appF at hf
  split at hf
  · rename_i hz
    cases hf
    have hz2 : vs.length < sizeLine := by
      have h1 := big (n := 1000000) (Nat.le_refl _)
      rw [← r.length]; omega
    exact ⟨a, vs, w, rfl, rfl, ha, hz2, q .non _ (by rw [List.length_append]; exact hz2) (r.app (.one rx)) rfl⟩
  · cases hf
def popF (xs : List D) : Option (D × List D) := match xs.getLast? with
  | some d => some (d, xs.dropLast)
  | none => none
section
variable {X : Cx} {C : Cy} {i : Nat} {x : Str} {p apos cpos : Pos} {e : Expr} {m : M D}
theorem pd_app (hx : PE X (.Name x p) (tVar i)) (he : PE X e (EvE C m)) (hn : notStar e = true) (hbase : attributeBase (.Name x p) "append" X.env (eval (.Name x p) X.env) = eval (.Name x p) X.env)
    (hfew : ((backTo cpos (starEach [e] X.env)).all (fun x => !x.1) && (backToKw cpos (keywordEach [] X.env)).all (fun x => x.1.isSome) && decide ([e].length + ([] : List Keyword).length + (if ([] : List Keyword).isEmpty then 0 else 1) < 30)) = true)
    (hline : (apos.endLine == cpos.line) = true) : PE X (.Call (.Attribute (.Name x p) "append" apos) [e] [] cpos) (EvE C (mOwn1 i appF m)) :=
  (pe_bm (id := "list.append") F.plainAttrs_list F.slot_list_append F.type_list_append mt_append hx (pa_cons he pa_nil (starEach_cons hn)) hbase hfew hline (starEach_cons hn) (plain_all rfl)).weak fun σ H Q h => bm1_weak om_app σ H Q h
end
/-- a promise that is never asked -/
theorem cal_bad {P : Program} {w : World} {K : PySem.W.Frag} {mg : Str → Option Value} {base : Heap} {g : G} {k n : Nat} {rf : Nat → Bool} {fresh : Bool} {f : Addr} {fd : FuncData} {ps : List Str} : FnOk P w K mg base (L2.CX P w) k f fd ps (spF g n rf fresh fun _ => .bad) :=
  ⟨fun vs H Q E h => by
    obtain ⟨_, _, _, _, _, h⟩ := h
    exact h.elim, fun A outer s H args us vs Q E hr e0 hb hv h => by
    obtain ⟨_, _, _, _, _, h⟩ := h
    exact h.elim⟩
end MP

/-! MP, part P: range with a step. -/
namespace MP
open L2 PyProof.Rows PySem PySem.Spec
section
variable {g : G} {L : Addr → Prop} {H : Hp}
theorem wk_fnC {lo c : Int} {n : Nat} : Wk g L H (Itc lo c n) ((List.range n).map fun (i : Nat) => .int (lo + i * c)) := by
  refine ⟨fun _ => True, _, by rw [List.length_map, List.length_range]; exact walk_rangeC, fun _ _ _ => trivial, fun i d L' H' v H'' x hl e y => ?_⟩
  obtain ⟨rfl, rfl⟩ := y
  have hi : i < n := by
    have := (List.getElem?_eq_some_iff.mp e).1
    simpa using this
  rw [List.getElem?_map, List.getElem?_range hi] at e
  cases e
  exact ⟨Same.refl _, rfl⟩
end
/-- down by one: i, i - 1, .. above j -/
def rngDn (i : Int) (n : Nat) : List D := (List.range n).map fun (k : Nat) => .int (i + k * (-1))
def rngD3 : List D → Option (List D)
  | [.int i, .int j, .int c] => if c = -1 ∧ (-4611686018427387904 ≤ i ∧ i < 4611686018427387904) ∧ -4611686018427387904 ≤ j ∧ j < 4611686018427387904 then some (rngDn i (i - j).toNat) else none
  | _ => none
theorem reps3 {g : G} {L : Addr → Prop} {H : Hp} {d e f : D} {vs : List V} (r : Reps g L H [d, e, f] vs) : ∃ v w x, vs = [v, w, x] ∧ Rep g L H d v ∧ Rep g L H e w ∧ Rep g L H f x := by
  obtain ⟨v, t, rfl, rv, rt⟩ := r
  obtain ⟨w, x, rfl, rw', rx⟩ := reps2 rt
  exact ⟨v, w, x, rfl, rv, rw', rx⟩
section
variable {X : Cx} {C : Cy} {tg : Expr}
theorem pi_rng3 {a b c : Expr} {m : M (List D)} {p pos : Pos} (hg : Gl X "range") (hm : X.mg "range" = none) (ha : PA X [a, b, c] (EvA C m)) (hs : starEach [a, b, c] X.env = (false, eval a X.env) :: starEach [b, c] X.env) (hpl : (backTo pos (starEach [b, c] X.env)).any (·.1) = false) :
    PI X tg (.Call (.Name "range" p) [a, b, c] [] pos) (EvI C (mArgs rngD3 m)) :=
  (pi_range3 hg hm ha hs hpl).weak fun σ H R ⟨L0, O, env, F, h⟩ => ⟨L0, O, env, F, (Post.bind h).imp fun ds e1 O1 H1 x1 F1 h1 vs rs => by
    cases ef : rngD3 ds with
    | none => rw [ef] at h1; exact h1.elim
    | some zs =>
      rw [ef] at h1
      unfold rngD3 at ef
      split at ef
      · split at ef
        · rename_i i j c hj
          cases ef
          obtain ⟨hc, hi, hj⟩ := hj
          subst hc
          obtain ⟨v, w, x, rfl, rv, rw', rx⟩ := reps3 rs
          have rv : v = .int i := rv
          have rw' : w = .int j := rw'
          have rx : x = .int (-1) := rx
          subst rv
          subst rw'
          subst rx
          exact ⟨i, j, -1, _, rfl, RgC.neg (by omega) (by omega) (by omega) (by omega), h1.here F1 _ wk_fnC⟩
        · cases ef
      · cases ef⟩
end
end MP

/-! MP, part Q: while, by fuel. -/
namespace MP
open L2 PyProof.Rows PySem PySem.Spec
def whileB (body rest : MS) : MS := fun e => match body e with
  | .ok .nx e2 => rest e2
  | .ok .ct e2 => rest e2
  | .ok .bk e2 => .ok .nx e2
  | .ok fl e2 => .ok fl e2
  | .ex x e2 => .ex x e2
  | .bad => .bad
def whileD (c : M Bool) (body : MS) : Nat → MS
  | 0 => fun _ => .bad
  | n + 1 => sE c fun b => if b = true then whileB body (whileD c body n) else sNx
section
variable {X : Cx} {C : Cy} {pos : Pos}
theorem qs_while {c : Expr} {body : List Stmt} {mc : M Bool} {mb : MS} (n : Nat) (hp : PassesOwn (model X.prog X.w) X.A X.env X.xe) (hc : L2.PT X c (EvT C mc)) (hb : PSs X body (EvS C mb)) : PS X (.While c body [] pos) (EvS C (whileD mc mb n)) := (ps_while hp hc hb).weak fun D σ H ⟨L0, O, env, F, h⟩ => by
  refine ⟨fun m σ' H' => ∃ O' e', Ext C.rf σ O H σ' O' H' ∧ C.F L0 O' H' σ' e' ∧ PostS C L0 O' H' σ' (whileD mc mb m e') D, ⟨n, O, env, Ext.refl, F, h⟩, ?_⟩
  rintro m σ' H' ⟨O', e', x, F', hq⟩
  cases m with
  | zero => exact hq.elim
  | succ m =>
    refine ⟨L0, O', e', F', (PostS.bindE hq).imp fun t e1 O1 H1 x1 F1 h1 => ?_⟩
    cases t with
    | false => exact PostS.here (fl := .nx) h1 F1
    | true =>
      rw [if_pos rfl]
      rw [if_pos rfl] at h1
      refine ⟨fun σ2 H2 => ∃ O2 e2, Ext C.rf σ O H σ2 O2 H2 ∧ C.F L0 O2 H2 σ2 e2 ∧ PostS C L0 O2 H2 σ2 (whileD mc mb m e2) D, fun σ2 H2 q => ⟨m, Nat.lt_succ_self m, q⟩, L0, O1, e1, F1, ?_⟩
      unfold whileB at h1
      cases em : mb e1 with
      | bad => rw [em] at h1; exact h1.elim
      | ex y e3 => rw [em] at h1; exact h1
      | ok fl e3 =>
        rw [em] at h1
        intro σ3 O3 H3 x3 F3
        cases fl with
        | nx => exact ⟨O3, e3, (x.trans x1).trans x3, F3, PostS.at h1 x3⟩
        | ct => exact ⟨O3, e3, (x.trans x1).trans x3, F3, PostS.at h1 x3⟩
        | bk => exact h1 σ3 O3 H3 x3 F3
        | rt d => exact h1 σ3 O3 H3 x3 F3
        | rtf d => exact h1 σ3 O3 H3 x3 F3
        | rtx k d => exact h1 σ3 O3 H3 x3 F3
end
end MP

/-! MP, part R: x += e of whole numbers. -/
namespace MP
open L2 PyProof.Rows PySem PySem.Spec
def sAug (i : Nat) (f : Int → Int → Int) (m : M D) : MS := fun e => match e[i]? with
  | some (some (.p (.int a))) => sE m (fun d e1 => match d with
    | .int b => .ok .nx (e1.set i (some (.p (.int (f a b)))))
    | _ => .bad) e
  | _ => .bad
section
variable {X : Cx} {C : Cy} {pos : Pos}
theorem qs_aug {i : Nat} {x : Str} {e : Expr} {m : M D} {f : Int → Int → Int} {op : Operator} {pos' : Pos} (hN : X.N.Nodup) (hi : X.N[i]? = some x) (hx : Loc X.env.scope x) (hf : X.fn x = true ∨ X.env.scope.names.lookup x = some .local) (hr : C.rf i = false) (he : PE X e (EvE C m)) (ho : PIp X op (ipI f)) :
    PS X (.AugAssign (.Name x pos') op e pos) (EvS C (sAug i f m)) := (ps_aug hN hi hx he ho hf).weak fun D σ H ⟨L0, O, env, F, h⟩ => by
  unfold sAug at h
  split at h
  · rename_i a ea
    have s := F.sl i
    rw [ea] at s
    obtain ⟨_, v, ev, rv⟩ := s
    have rv : v = .int a := rv
    subst rv
    refine ⟨.int a, ev, L0, O, env, F, (PostS.bindE h).imp fun d e1 O1 H1 x1 F1 h1 w rw' => ?_⟩
    cases d with
    | int b =>
      have rw' : w = .int b := rw'
      subst rw'
      exact ⟨a, b, rfl, rfl, h1 _ _ _ (Ext.set hr) (F1.set (d := .int (f a b)) rfl)⟩
    | _ => exact h1.elim
  · exact h.elim
theorem sg {x : Str} {op : Operator} {pos' : Pos} {e : Expr} {m : M D} {f : Int → Int → Int} (i : Nat) (hN : X.N.Nodup) (he : PE X e (EvE C m)) (ho : PIp X op (ipI f)) (hi : X.N[i]? = some x := by rfl) (hx : Loc X.env.scope x := by first | exact Or.inl rfl | exact Or.inr rfl) (hf : X.fn x = true ∨ X.env.scope.names.lookup x = some .local := by first | exact Or.inl rfl | exact Or.inr rfl) (hr : C.rf i = false := by rfl) :
    PS X (.AugAssign (.Name x pos') op e pos) (EvS C (sAug i f m)) := qs_aug hN hi hx hf hr he ho
end
end MP

/-! MP, part S: pop of an owned list. -/
namespace MP
open L2 PyProof.Rows PySem PySem.Spec
def popD : List D → Option (D × List D)
  | [] => none
  | xs => xs[xs.length - 1]?.map fun d => (d, xs.dropLast)
theorem reps_drop {g : G} {L : Addr → Prop} {H : Hp} : ∀ {ds : List D} {vs : List V}, Reps g L H ds vs → Reps g L H ds.dropLast vs.dropLast
  | [], _, r => by
    have e : _ = [] := r
    subst e
    rfl
  | [d], vs, r => by
    obtain ⟨v, rfl, _⟩ := reps1 r
    rfl
  | d :: e :: ds, vs, r => by
    obtain ⟨v, t, rfl, rv, rt⟩ := r
    have ih := reps_drop rt
    obtain ⟨w, t2, rfl, rw', rt2⟩ := rt
    exact ⟨v, _, rfl, rv, ih⟩
theorem reps_get {g : G} {L : Addr → Prop} {H : Hp} : ∀ {ds : List D} {vs : List V} {i : Nat} {d : D}, Reps g L H ds vs → ds[i]? = some d → ∃ v, vs[i]? = some v ∧ Rep g L H d v
  | [], _, _, _, _, h => by cases h
  | x :: xs, vs, 0, d, r, h => by
    obtain ⟨v, t, rfl, rv, rt⟩ := r
    cases h
    exact ⟨v, rfl, rv⟩
  | x :: xs, vs, i + 1, d, r, h => by
    obtain ⟨v, t, rfl, rv, rt⟩ := r
    exact reps_get (i := i) rt h
theorem om_popD {g : G} : OM0 g rPop popD := by
  intro L H ds ys d a vs Q ha z r hf q
  unfold popD at hf
  split at hf
  · cases hf
  · obtain ⟨x, hx, e⟩ := Option.map_eq_some_iff.mp hf
    cases e
    obtain ⟨v, hv, rv⟩ := reps_get r hx
    rw [r.length] at hv
    exact ⟨a, vs, v, rfl, rfl, ha, hv, q v _ (by rw [List.length_dropLast]; omega) (reps_drop r) rv⟩
section
variable {X : Cx} {C : Cy} {i : Nat} {x : Str} {p apos cpos : Pos}
theorem pd_pop (hx : PE X (.Name x p) (tVar i)) (hbase : attributeBase (.Name x p) "pop" X.env (eval (.Name x p) X.env) = eval (.Name x p) X.env) (hline : (apos.endLine == cpos.line) = true) : PE X (.Call (.Attribute (.Name x p) "pop" apos) [] [] cpos) (EvE C (mOwn i popD)) :=
  (pe_bm0 (id := "list.pop") F.plainAttrs_list F.slot_list_pop F.type_list_pop mt_pop hx hbase hline).weak fun σ H Q h => bm0_weak om_popD σ H Q h
end
end MP

/-! MP, part U: errors as values: made, their fields, isinstance of them. -/
namespace MP
open L2 PyProof.Rows PySem PySem.Spec

/-! ### C(e, ..) as an expression, C an own error class -/
def tMkE (C : Addr) (sp : Sp) (ta : TA) : TE := fun σ H Q => ta σ H fun vs H1 => vs.length ≤ 1000 ∧ ∀ a, H1 a = none → sp (.ref a :: vs) (upd H1 a (exo a C none)) (fun v H2 => v = .non ∧ Q (.ref a) H2) (fun _ _ _ => False)
section
variable {X : Cx} {e : Expr} {es : List Expr} {ta : TA} {p pos : Pos}
theorem pe_mkE {CX : CXT} {x : Str} {C fI : Addr} {k : Nat} {fd : FuncData} {ps : List Str} {sp : Sp} (T : OexC X.K C) (iC : PySem.W.findIn X.K (.ref C) "__init__" = some (some (.ref fI))) (tI : PySem.W.typeIn X.K (.ref fI) = some (.type "function"))
    (F1 : FnOk X.prog X.w X.K X.mg X.base CX k fI fd ps sp) (hr : Room (k + 1) X.A) (hb : Binds X.K fd ps []) (hx : Passes CX X (fun _ _ _ => False)) (hg : Gl X x) (hm : X.mg x = some (.ref C)) (ha : PA X (e :: es) ta)
    (hdb : (x == ("__debug__" : Str)) = false) (he : starEach (e :: es) X.env = (false, eval e X.env) :: starEach es X.env) (hpl : (backTo pos (starEach es X.env)).any (·.1) = false) :
    PE X (.Call (.Name x p) (e :: es) [] pos) (tMkE C sp ta) := by
  refine ⟨fun pins s σ H Q I h => ?_⟩
  obtain ⟨nm, q, N, bs, bm, sn, sub, ab, col, dd, k0, k1, k2, k3, k5, hC, hbm⟩ := T.cls
  refine wpAny_Call_Name_kw (ld_glob I hg hm ?_ hdb)
  refine PySem.W.callWith_K (h₀ := X.base) I.ok.mod.kin T.kC (thn (ha.run pos pins s σ H _ I h) fun us s1 hh => ?_) he hpl
  obtain ⟨vs, H1, I1, r1, hz, q1⟩ := hh
  refine ⟨I1.kIn, ?_⟩
  show wpAny _ _ (call (.ref C) us) _ _ _
  obtain ⟨g0, gn, dr, tk, os⟩ := s1
  have le1 : g0.objs.size ≤ g0.objs.size + 1 := Nat.le_succ _
  have nw : H1 (g0.objs.size + 1) = none := I1.hok.fresh le1
  have qq := q1 (g0.objs.size + 1) nw
  have up : ∀ b o, g0.get? b = some o → ((g0.push (PySem.W.kdv_tup us)).push (PySem.HandSPX.excO C g0.objs.size)).get? b = some o := fun b o z => Heap.get?_push_of_some _ (Heap.get?_push_of_some _ z)
  have gx : ((g0.push (PySem.W.kdv_tup us)).push (PySem.HandSPX.excO C g0.objs.size)).get? (g0.objs.size + 1) = some (PySem.HandSPX.excO C g0.objs.size) := by heap_get
  have I2 : Inv X pins σ (upd H1 (g0.objs.size + 1) (exo (g0.objs.size + 1) C none)) ⟨(g0.push (PySem.W.kdv_tup us)).push (PySem.HandSPX.excO C g0.objs.size), gn, dr, tk, os⟩ :=
    I1.laid (t' := tk) (a := g0.objs.size + 1) (o := exo (g0.objs.size + 1) C none) (h' := (g0.push (PySem.W.kdv_tup us)).push (PySem.HandSPX.excO C g0.objs.size)) up le1 (exo_ok gx)
  have r2 : Vals (V.ref (g0.objs.size + 1) :: vs) (Value.ref (g0.objs.size + 1) :: us) := .cons rfl r1
  have hl : (Value.ref (g0.objs.size + 1) :: us).length = ps.length := by
    have l2 := r2.length
    rw [F1.len _ _ _ _ qq] at l2
    exact l2.symm
  have hus : us.length ≤ sizeLine := by
    rw [← Paired.length r1, sizeLine_eq]; omega
  refine wpAny_call (PySem.HandSPX.call_own F.excBase_ValueError (fun Y => PySem.HandSPX.refsVE_contains Y bm hbm) (I1.kIn _ _ hC) (PySem.W.looks_findIn I1.kIn iC) (fun self => PySem.W.bind_fn I1.kIn self tI) hus (codeAny_mono (F1.run _ X.stack _ _ ⟨Value.ref (g0.objs.size + 1) :: us, []⟩ (Value.ref (g0.objs.size + 1) :: us) _ _ (fun _ _ _ => False) (hr.make C us []) (I2.env0.make C us []) (by
    have := hb ⟨(g0.push (PySem.W.kdv_tup us)).push (PySem.HandSPX.excO C g0.objs.size), gn, dr, tk, os⟩ (Value.ref (g0.objs.size + 1) :: us) I2.kIn (by rw [List.append_nil]; exact hl)
    rwa [List.append_nil] at this) r2 qq) fun r s' hq => ?_))
  cases r with
  | error er => exact hx pins σ _ _ er s' I2 hq
  | ok fl =>
    cases fl with
    | ret u =>
      obtain ⟨v, H3, I3, rv, ev, q3⟩ := I2.after hq
      subst ev
      exact ⟨rv, ⟨V.ref (g0.objs.size + 1), H3, I3, rfl, q3⟩⟩
    | next => exact False.elim hq
    | brk => exact False.elim hq
    | cont => exact False.elim hq
end

/-! ### e.f of an error -/
def tXo (K : PySem.W.Frag) (te : TE) (f : Str) : TE := fun σ H Q => te σ H fun x H1 => ∃ a C vfs v, x = .ref a ∧ ((Cls K C ∧ ∃ dx, H1 a = some (.ins C dx vfs)) ∨ (XfC K C ∧ ∃ d, H1 a = some (exo a C (some d)) ∧ H1 d = some (exd d vfs))) ∧ PySem.W.findIn K (.ref C) f = some none ∧ vfs.lookup f = some v ∧ Q v H1
theorem inst_exo {X : Cx} {pins : List (Addr × Obj)} {σ : L2.St} {H : Hp} {s : Shared} {a C d : Addr} {vfs : List (Str × V)} (I : Inv X pins σ H s) (ea : H a = some (exo a C (some d))) (ed : H d = some (exd d vfs)) :
    ∃ ox od, PySem.W.InstAt s.heap a ox C (some od) ∧ ∀ n v, vfs.lookup n = some v → ∃ u, PySem.W.lookIn n od = some (some u) ∧ RelV v u := by
  obtain ⟨t1, ho⟩ := exo_at I.hok ea
  obtain ⟨mA, hns, rel⟩ := exd_at I.hok ed
  obtain ⟨od, hd, hl⟩ := lookIn_ns hns
  refine ⟨{ cls := .ref C, dict := some d, data := .fields #[.ref t1, .none, .none, .none, .bool false, .none] }, od, ⟨ho, rfl, rfl, hd⟩, fun n v l => ?_⟩
  obtain ⟨u, hu, ru⟩ := RelO.some_of (v := v) (o := mA n) (by rw [← l]; exact rel n)
  exact ⟨u, by rw [hl, hu], ru⟩
theorem pe_xo {X : Cx} {e : Expr} {te : TE} {pos : Pos} {n : Str} (he : PE X e te) (hb : attributeBase e n X.env (eval e X.env) = eval e X.env) : PE X (.Attribute e n pos) (tXo X.K te n) := by
  refine ⟨fun pins s σ H Q I h => ?_⟩
  refine attr_of hb (thn (he.run pins s σ H _ I h) fun u s1 hh => ?_)
  obtain ⟨x, H1, I1, rx, a, C, vfs, v, ex, kind, hno, l, q⟩ := hh
  subst ex
  obtain rfl : u = Value.ref a := rx
  rcases kind with ⟨c, dx, ea⟩ | ⟨T, d, ea, ed⟩
  · exact getattr_ok I1 ea c hno l fun u' s2 I2 ru => ⟨v, H1, I2, ru, q⟩
  · obtain ⟨ox, od, J, hl⟩ := inst_exo I1 ea ed
    obtain ⟨u, hu, ru⟩ := hl n v l
    exact HandSPX.exc_get I1.kIn J T.ga T.gg T.exC (PySem.W.findObj_own T.hdC hno rfl hu) (handed_of ru) ⟨v, H1, I1.tok _, ru, q⟩

/-! ### isinstance(e, C) -/
/-- what isinstance asks of a class whose instances are looked at -/
structure IsK (K : PySem.W.Frag) (D : Addr) : Prop where
  ha : PySem.W.findIn K (.ref D) "__class__" = some (some (.builtin "object.__class__"))
  hn : PySem.W.specialIn K (.builtin "object.__class__") "__get__" = some (some (.builtin "getset_descriptor.__get__"))
  ht : PySem.W.takesIn K (.builtin "object.__class__") = some true
  hm : PySem.W.mroIn K D (.type "object") = some true
  hc : (PySem.W.clsIn K D).isSome = true
def isKB (K : PySem.W.Frag) (D : Addr) : Bool := decide (PySem.W.findIn K (.ref D) "__class__" = some (some (.builtin "object.__class__"))) && (decide (PySem.W.specialIn K (.builtin "object.__class__") "__get__" = some (some (.builtin "getset_descriptor.__get__"))) &&
  (decide (PySem.W.takesIn K (.builtin "object.__class__") = some true) && (decide (PySem.W.mroIn K D (.type "object") = some true) && (PySem.W.clsIn K D).isSome)))
theorem isKB_ok {K : PySem.W.Frag} {D : Addr} (h : isKB K D = true) : IsK K D := by
  unfold isKB at h
  obtain ⟨h1, h⟩ := Bool.and_eq_true_iff.mp h
  obtain ⟨h2, h⟩ := Bool.and_eq_true_iff.mp h
  obtain ⟨h3, h⟩ := Bool.and_eq_true_iff.mp h
  obtain ⟨h4, h5⟩ := Bool.and_eq_true_iff.mp h
  exact ⟨of_decide_eq_true h1, of_decide_eq_true h2, of_decide_eq_true h3, of_decide_eq_true h4, h5⟩
def rIsX (K : PySem.W.Frag) : List V → Hp → VK → Prop := fun xs H Q => ∃ (a D : Addr) (vfs : List (Str × V)) (c : V) (u : Value) (b : Bool), xs = [.ref a, c] ∧ ((Cls K D ∧ ∃ dx, H a = some (.ins D dx vfs)) ∨ (XfC K D ∧ ∃ d, H a = some (exo a D (some d)) ∧ H d = some (exd d vfs))) ∧ IsK K D ∧ ClsV c u ∧ PySem.W.kitOne K (.ref D) u = some b ∧ Q (.bl b) H
theorem call_isX {X : Cx} : CallR X (.builtin "isinstance") (rIsX X.K) := by
  intro pins s σ H xs us Q I r h
  obtain ⟨a, D, vfs, c, u, b, rfl, kind, ik, cv, e, q⟩ := h
  obtain ⟨u1, u2, rfl, r1, r2⟩ := vals2 r
  have e2 := cv.eq r2
  subst e2
  rcases kind with ⟨cl, dx, ea⟩ | ⟨T, d, ea, ed⟩
  · obtain ⟨P, Z, p, hx⟩ := kit_of I r1 (.base (.ins ea cl ik.ha ik.hn ik.ht ik.hm))
    exact PySem.W.kia_one Z I.kIn p e hx fun tk => ⟨.bl b, H, I.tok tk, rfl, q⟩
  · obtain rfl : u1 = Value.ref a := r1
    obtain ⟨ox, od, J, _⟩ := inst_exo I ea ed
    exact PySem.W.kia_one (PySem.W.kitx_exc ik.hc T.ga T.gg T.exC ik.ha ik.hn ik.ht ik.hm) I.kIn J e (fun z => nomatch z) fun tk => ⟨.bl b, H, I.tok tk, rfl, q⟩

/-! ### in MP -/
def mMk (cls : Tx) (k : Nat) (m : M (List D)) : M D := do
  let ds ← m
  if ds.length = k then pure (.ins cls ds) else bad
def fldF (ft : Tx → Option Nat) : D → Option D
  | .ins c fs => (match ft c with
    | some i => fs[i]?
    | none => none)
  | _ => none
def isF (h : Tx → Option Bool) : D → Option D
  | .ins c _ => (h c).map .bl
  | _ => none
section
variable {X : Cx} {C : Cy} {pos : Pos}
theorem pd_mk {x : Str} {cls : Tx} {fI : Addr} {k : Nat} {fd : FuncData} {ps : List Str} {e : Expr} {es : List Expr} {m : M (List D)} {p : Pos} (hK : C.g.K = X.K) (T : OexC X.K (C.g.ca cls)) (xf : XfC X.K (C.g.ca cls)) (iC : PySem.W.findIn X.K (.ref (C.g.ca cls)) "__init__" = some (some (.ref fI))) (tI : PySem.W.typeIn X.K (.ref fI) = some (.type "function"))
    (F1 : FnOk X.prog X.w X.K X.mg X.base CX0 k fI fd ps (spIni X.K (C.g.ca cls) (C.g.fl cls))) (hr : Room (k + 1) X.A) (hb : Binds X.K fd ps []) (hg : Gl X x) (hm : X.mg x = some (.ref (C.g.ca cls))) (ha : PA X (e :: es) (EvA C m)) (hdb : (x == ("__debug__" : Str)) = false) (hs : (e :: es).all notStar = true)
    (hsmall : (C.g.fl cls).length ≤ 900) : PE X (.Call (.Name x p) (e :: es) [] pos) (EvE C (mMk cls (C.g.fl cls).length m)) := by
  have hs2 := hs
  rw [List.all_cons, Bool.and_eq_true] at hs2
  refine (pe_mkE T iC tI F1 hr hb pass0 hg hm ha hdb (starEach_cons hs2.1) (plain_all hs2.2)).weak fun σ H Q ⟨L0, O, env, F, h⟩ => ?_
  refine ⟨L0, O, env, F, (Post.bind h).imp fun ds e1 O1 H1 x1 F1 h1 vs rs => ?_⟩
  by_cases hk : ds.length = (C.g.fl cls).length
  · rw [if_pos hk] at h1
    have hl : vs.length = (C.g.fl cls).length := by rw [← rs.length]; exact hk
    refine ⟨by omega, fun a hn => ⟨a, vs, rfl, hl, T, upd_same, fun dx fs hdx hne fo => ⟨rfl, ?_⟩⟩⟩
    have hdx1 : H1 dx = none := by rw [upd_ne hne] at hdx; exact hdx
    have s : Same H1 (upd (upd (upd H1 a (exo a (C.g.ca cls) none)) dx (exd dx fs)) a (exo a (C.g.ca cls) (some dx))) := fun b o eb => by
      have nb1 : b ≠ dx := fun q => by rw [q, hdx1] at eb; cases eb
      have nb2 : b ≠ a := fun q => by rw [q, hn] at eb; cases eb
      rw [upd_ne nb2, upd_ne nb1, upd_ne nb2]
      exact eb
    have nl : ∀ b, H1 b = none → ¬ LL L0 O1 b := fun b hb0 q => by
      obtain ⟨o, eo⟩ := F1.trk b q
      rw [hb0] at eo; cases eo
    refine h1 O1 _ (Ext.same s) (F1.same s) _ ⟨a, fs, vs, rfl, ⟨nl a hn, .inr ⟨by rw [hK]; exact xf, dx, upd_same, by rw [upd_ne hne]; exact upd_same, nl dx hdx1⟩⟩, fo, Reps.mono (XT.same s) ds vs rs⟩
  · rw [if_neg hk] at h1; exact h1.elim
theorem ins_kind {g : G} {L : Addr → Prop} {H : Hp} {c a : Addr} {vfs : List (Str × V)} (h : InsR g.K L H c a vfs) : (Cls g.K c ∧ ∃ dx, H a = some (.ins c dx vfs)) ∨ (XfC g.K c ∧ ∃ d, H a = some (exo a c (some d)) ∧ H d = some (exd d vfs)) := by
  rcases h.2 with h | ⟨T, d, h1, h2, _⟩
  · exact .inl h
  · exact .inr ⟨T, d, h1, h2⟩
/-- the classes that have the field -/
def FdOk (g : G) (n : Str) (ft : Tx → Option Nat) : Prop := ∀ c i, ft c = some i → PySem.W.findIn g.K (.ref (g.ca c)) n = some none ∧ ∃ f, (g.fl c)[i]? = some f ∧ n = ⟨f.toArray⟩
theorem pd_fldX {n : Str} {ft : Tx → Option Nat} {e : Expr} {m : M D} (hK : C.g.K = X.K) (hf : FdOk C.g n ft) (he : PE X e (EvP C m)) (hb : attributeBase e n X.env (eval e X.env) = eval e X.env) : PE X (.Attribute e n pos) (EvE C (mUn (fldF ft) m)) :=
  (pe_xo he hb).weak fun σ H Q ⟨L0, O, env, F, h⟩ => ⟨L0, O, env, F, (Post.bind h).imp fun d e1 O1 H1 x1 F1 h1 v rv => by
    cases d with
    | ins c fs =>
      obtain ⟨a, vfs, vs, rfl, p, fo, rs⟩ := rv.rep (by intro _ z; cases z)
      unfold fldF at h1
      dsimp only at h1
      cases ec : ft c with
      | none => rw [ec] at h1; exact h1.elim
      | some i =>
        rw [ec] at h1
        dsimp only at h1
        cases ei : fs[i]? with
        | none => rw [ei] at h1; exact h1.elim
        | some y =>
          rw [ei] at h1
          obtain ⟨hno, f, hfi, rfl⟩ := hf c i ec
          obtain ⟨w, ew, rw'⟩ := rs.get ei
          obtain ⟨w', ew', lk⟩ := fo.2 i f hfi
          rw [ew] at ew'
          cases ew'
          rw [← hK]
          exact ⟨a, C.g.ca c, vfs, w, rfl, ins_kind p, hno, lk, h1.here F1 w rw'⟩
    | _ => exact h1.elim⟩
theorem pd_isX {e cE : Expr} {c : V} {u : Value} {h : Tx → Option Bool} {m : M D} {p : Pos} (hK : C.g.K = X.K) (hg : Gl X "isinstance") (hm : X.mg "isinstance" = none) (hc : ClsV c u) (hh : ∀ cl b, h cl = some b → IsK X.K (C.g.ca cl) ∧ PySem.W.kitOne X.K (.ref (C.g.ca cl)) u = some b)
    (he : PE X e (EvP C m)) (hy : PE X cE (tC c)) (hs : notStar e = true) (hs2 : notStar cE = true) :
    PE X (.Call (.Name "isinstance" p) [e, cE] [] pos) (EvE C (mUn (isF h) m)) :=
  (pe_callB (call_isX (X := X)) hg hm boot_isinstance (pa_cons he (pa_cons hy pa_nil (starEach_cons hs2)) (starEach_cons hs)) (by decide) (by decide) (starEach_cons hs) (plain_all (by rw [List.all_cons, hs2]; rfl))).weak fun σ H Q ⟨L0, O, env, F, hq⟩ =>
    ⟨L0, O, env, F, (Post.bind hq).imp fun d e1 O1 H1 x1 F1 h1 v rv => by
      cases d with
      | ins c fs =>
        obtain ⟨a, vfs, vs, rfl, p, fo, rs⟩ := rv.rep (by intro _ z; cases z)
        unfold isF at h1
        dsimp only at h1
        cases ec : h c with
        | none => rw [ec] at h1; exact h1.elim
        | some b =>
          rw [ec] at h1
          obtain ⟨ik, ko⟩ := hh c b ec
          have kd := ins_kind p
          rw [hK] at kd
          exact ⟨a, C.g.ca c, vfs, _, u, b, rfl, kd, ik, hc, ko, h1.here F1 (.bl b) rfl⟩
      | _ => exact h1.elim⟩
end
section
variable {X : Cx} {C : Cy} {k k' : Nat} {x : Str} {p pos : Pos} {e : Expr} {es : List Expr}
theorem pd_mkC {cls : Tx} {m : M (List D)} {q : Nat} (G : Exk X.prog X.w X.K X.mg X.base C.g x cls k) (xf : XfC X.K (C.g.ca cls)) (hr : Room k' X.A) (hk : k + 1 ≤ k') (hK : C.g.K = X.K) (hg : Gl X x) (ha : PA X (e :: es) (EvA C m)) (hdb : (x == ("__debug__" : Str)) = false) (hs : (e :: es).all notStar = true)
    (hq : (C.g.fl cls).length = q) (hsmall : q ≤ 900) : PE X (.Call (.Name x p) (e :: es) [] pos) (EvE C (mMk cls q m)) := by
  obtain ⟨h1, h2, fI, fd, ps, h3, h4, h5, h6⟩ := G
  subst hq
  exact pd_mk hK h2 xf h3 h4 h6 (hr.mono hk) h5 hg h1 ha hdb hs hsmall
end
def fdT : List (Tx × Nat) → Tx → Option Nat
  | [], _ => none
  | (t, i) :: r, c => if c = t then some i else fdT r c
theorem fd_nil {g : G} {n : Str} : FdOk g n (fdT []) := fun _ _ h => by cases h
theorem fd_cons {g : G} {n : Str} {c f : Tx} {i : Nat} {r : List (Tx × Nat)} (h1 : PySem.W.findIn g.K (.ref (g.ca c)) n = some none) (h2 : (g.fl c)[i]? = some f) (h3 : n = ⟨f.toArray⟩) (h : FdOk g n (fdT r)) : FdOk g n (fdT ((c, i) :: r)) := fun c' j q => by
  have q : (if c' = c then some i else fdT r c') = some j := q
  by_cases e : c' = c
  · rw [if_pos e] at q
    cases q
    rw [e]
    exact ⟨h1, f, h2, h3⟩
  · rw [if_neg e] at q
    exact h c' j q
def ikA (names : List Tx) (K : PySem.W.Frag) : Bool := names.all fun c => isKB K (caK K c)
def ikB (tbl : List (Tx × Bool)) (u : PySem.W.Frag → Value) (K : PySem.W.Frag) : Bool := tbl.all fun p => decide (PySem.W.kitOne K (.ref (caK K p.1)) (u K) = some p.2)
def IkOk (K : PySem.W.Frag) (h : Tx → Option Bool) (u : Value) : Prop := ∀ cl b, h cl = some b → IsK K (caK K cl) ∧ PySem.W.kitOne K (.ref (caK K cl)) u = some b
theorem hitT_mem : ∀ {l : List (Tx × Bool)} {c : Tx} {b : Bool}, hitT l c = some b → (c, b) ∈ l
  | [], _, _, h => by cases h
  | (t, b0) :: r, c, b, h => by
    have h : (if c = t then some b0 else hitT r c) = some b := h
    by_cases e : c = t
    · rw [if_pos e] at h
      cases h
      rw [e]
      exact List.mem_cons_self
    · rw [if_neg e] at h
      exact List.mem_cons_of_mem _ (hitT_mem h)
theorem ik_ok {K : PySem.W.Frag} {names : List Tx} {tbl : List (Tx × Bool)} {u : PySem.W.Frag → Value} (ha : ikA names K = true) (hb : ikB tbl u K = true) (hn : tbl.map (·.1) = names) : IkOk K (hitT tbl) (u K) := fun cl b h => by
  have m := hitT_mem h
  refine ⟨isKB_ok (List.all_eq_true.mp ha cl (by rw [← hn]; exact List.mem_map_of_mem (f := (·.1)) m)), of_decide_eq_true (List.all_eq_true.mp hb _ m)⟩
theorem pe_gcls {X : Cx} {x : Str} {a : Addr} {pos : Pos} (hg : Gl X x) (hm : X.mg x = some (.ref a)) (hd : (x == ("__debug__" : Str)) = false) : PE X (.Name x pos) (tC (.ref a)) := pe_glob hg hm rfl hd
end MP

/-! MP, part V: for over a list that a slot owns and keeps. -/
namespace MP
open L2 PyProof.Rows PySem PySem.Spec

def bodyO (tg : Tg) (body : MS) (d : D) (rest : MS) : MS := fun e => match bindTg tg d e with
  | none => .bad
  | some e1 => whileB body rest e1
def loopO (i : Nat) (tg : Tg) (body : MS) (n : Nat) : Nat → MS
  | 0 => fun e => match ownD i e with
    | some xs => if xs.length = n then .ok .nx e else .bad
    | none => .bad
  | r + 1 => fun e => match ownD i e with
    | some xs => if xs.length = n then (match xs[n - (r + 1)]? with
      | some d => bodyO tg body d (loopO i tg body n r) e
      | none => .bad) else .bad
    | none => .bad
def sForO (i : Nat) (tg : Tg) (body : MS) : MS := fun e => match ownD i e with
  | some xs => loopO i tg body xs.length xs.length e
  | none => .bad
/-- slot i is not stored to -/
def Cy.lock (C : Cy) (i : Nat) : Cy := { C with rf := fun j => C.rf j || j == i }
section
variable {C : Cy} {i : Nat} {L0 : Addr → Prop} {O O' : Own} {H H' : Hp} {σ σ' : L2.St} {e e' : Env} {D : Ends}
theorem lock_ext (x : Ext (C.lock i).rf σ O H σ' O' H') : Ext C.rf σ O H σ' O' H' := ⟨x.keep, fun j hj => x.stab j (by show (C.rf j || j == i) = true; rw [hj]; rfl), x.old⟩
theorem lock_in (F : C.F L0 O H σ e) : (C.lock i).F L0 O H σ e := by
  have F : FRel C.g C.rf C.dm L0 C.xs O H σ e := F
  have K : FRel C.g (C.lock i).rf C.dm L0 C.xs O H σ e := ⟨F.len, F.sl, F.inj, F.dis, F.lok, F.dom, fun j a hj => F.own j a (by
    have hj : (C.rf j || j == i) = false := hj
    exact (Bool.or_eq_false_iff.mp hj).1)⟩
  exact K
theorem lock_out (hd : C.rf i = false → ∀ a, O i = some a → ¬ C.dm a) (x : Ext (C.lock i).rf σ O H σ' O' H') (F : (C.lock i).F L0 O' H' σ' e) : C.F L0 O' H' σ' e := by
  have F : FRel C.g (C.lock i).rf C.dm L0 C.xs O' H' σ' e := F
  have K : FRel C.g C.rf C.dm L0 C.xs O' H' σ' e := ⟨F.len, F.sl, F.inj, F.dis, F.lok, F.dom, fun j a hj e2 => by
    by_cases q : j = i
    · subst q
      rcases (x.stab j (by show (C.rf j || j == j) = true; simp)).2 with z | z
      · rw [z] at e2; cases e2
      · rw [z] at e2
        exact hd hj a e2
    · exact F.own j a (by show (C.rf j || j == i) = false; rw [hj]; simpa using q) e2⟩
  exact K
theorem lock_post {r : R Fl} (hd : C.rf i = false → ∀ a, O i = some a → ¬ C.dm a) (h : PostS C L0 O H σ r D) : PostS (C.lock i) L0 O H σ r D := by
  cases r with
  | bad => exact h
  | ex y e1 => exact fun c d σ1 O1 H1 x F k => h c d σ1 O1 H1 (lock_ext x) (lock_out hd x F) k
  | ok fl e1 =>
    intro σ1 O1 H1 x F
    have F2 : C.F L0 O1 H1 σ1 e1 := lock_out hd x F
    have q := h σ1 O1 H1 (lock_ext x) F2
    cases fl with
    | nx => exact q
    | bk => exact q
    | ct => exact q
    | rt d => exact q
    | rtf xs => exact fun a vs nd ha FA z rr => q a vs nd ha (by
        have FA : FRel C.g (C.lock i).rf C.dm (LA L0 a) C.xs O1 H1 σ1 e1 := FA
        have F2 : FRel C.g C.rf C.dm L0 C.xs O1 H1 σ1 e1 := F2
        have K : FRel C.g C.rf C.dm (LA L0 a) C.xs O1 H1 σ1 e1 := ⟨FA.len, FA.sl, FA.inj, FA.dis, FA.lok, FA.dom, F2.own⟩
        exact K) z rr
    | rtx k xs => exact fun a vs hk ho ha z rr => q a vs (by
        have hk : (C.rf k || k == i) = false := hk
        exact (Bool.or_eq_false_iff.mp hk).1) ho ha z rr
theorem lock_F0 {Lz : Addr → Prop} (F : C.F Lz O H σ e) : C.rf i = false → ∀ a, O i = some a → ¬ C.dm a := fun hr a ho => by
  have F : FRel C.g C.rf C.dm Lz C.xs O H σ e := F
  exact F.own i a hr ho
end
theorem walk_own {K : PySem.W.Frag} {a : Addr} {n : Nat} : Walk (Itl K a) n (fun H => ∃ vs, H a = some (.lst vs) ∧ vs.length = n) (fun i H x H' => H' = H ∧ ∀ vs, H a = some (.lst vs) → vs[i]? = some x) :=
  ⟨fun i H hi ⟨vs, h, hl⟩ => ⟨vs, vs[i]'(by omega), .inl (.inl h), by rw [List.getElem?_eq_getElem (by omega)]⟩, fun H ⟨vs, h, hl⟩ => ⟨vs, .inl (.inl h), by omega⟩, fun i H x H' hi _ y => ⟨y.1, fun vs h => y.2 vs (.inl (.inl h))⟩⟩
def iName (K : PySem.W.Frag) (i : Nat) : TI := fun σ H R => ∃ a vs, σ[i]? = some (some (.ref a)) ∧ H a = some (.lst vs) ∧ R (Itl K a) H
section
variable {X : Cx} {C : Cy} {pos : Pos}
theorem pi_name {tg : Expr} {x : Str} {p : Pos} {i : Nat} (he : PE X (.Name x p) (tVar i)) : PI X tg (.Name x p) (iName X.K i) :=
  (pi_any he).weak fun σ H R ⟨a, vs, e1, e2, r⟩ => ⟨.ref a, e1, .inl ⟨a, rfl, ⟨vs, .inl (.inl e2)⟩, r⟩⟩
theorem qs_forO {tge : Expr} {x : Str} {p : Pos} {body : List Stmt} {i : Nat} {tg : Tg} {mb : MS} (hp : PassesOwn (model X.prog X.w) X.A X.env X.xe) (hc : X.calm = true) (he : PE X (.Name x p) (tVar i)) (hg : PG X tge (EvG (C.lock i) tg)) (hb : PSs X body (EvS (C.lock i) mb))
    (hs : ∀ y, foldedSetIterable (.Name x p) X.env y = pure y) : PS X (.For tge (.Name x p) body [] pos) (EvS C (sForO i tg mb)) := (ps_for hp hc (pi_name he) hg hb hs).weak fun D σ H ⟨L0, O, env, F, h⟩ => by
  unfold sForO at h
  cases eo : ownD i env with
  | none => rw [eo] at h; exact h.elim
  | some xs =>
    rw [eo] at h
    dsimp only at h
    obtain ⟨a, vs, hO, hσ, ha, hz, hr, hi⟩ := FRel.ownd F eo
    refine ⟨a, vs, hσ, ha, ?_⟩
    have nd := lock_F0 (i := i) F
    have h0 := lock_post nd h
    refine for_it (walk_own (n := xs.length)) (fun k σ' H' => ∃ O' e', Ext (C.lock i).rf σ O H σ' O' H' ∧ (C.lock i).F L0 O' H' σ' e' ∧ PostS (C.lock i) L0 O' H' σ' (loopO i tg mb xs.length (xs.length - k) e') D) ⟨O, env, Ext.refl, lock_in F, h0⟩ (fun k σ' H' hk ⟨O', e', x1, F', hq⟩ => ?_) ?_ ?_
    · have own : ∃ ys, ownD i e' = some ys ∧ ys.length = xs.length := by
        cases r : xs.length - k with
        | zero =>
          rw [r] at hq
          unfold loopO at hq
          cases e2 : ownD i e' with
          | none => rw [e2] at hq; exact hq.elim
          | some ys =>
            rw [e2] at hq
            dsimp only at hq
            by_cases l : ys.length = xs.length
            · exact ⟨ys, rfl, l⟩
            · rw [if_neg l] at hq; exact hq.elim
        | succ r =>
          rw [r] at hq
          unfold loopO at hq
          cases e2 : ownD i e' with
          | none => rw [e2] at hq; exact hq.elim
          | some ys =>
            rw [e2] at hq
            dsimp only at hq
            by_cases l : ys.length = xs.length
            · exact ⟨ys, rfl, l⟩
            · rw [if_neg l] at hq; exact hq.elim
      obtain ⟨ys, e2, l⟩ := own
      obtain ⟨a', us, hO', hσ', ha', _, rr, _⟩ := FRel.ownd F' e2
      have st := (x1.stab i (by show (C.rf i || i == i) = true; simp)).1
      rw [hσ', hσ] at st
      cases st
      exact ⟨us, ha', by rw [← rr.length, l]⟩
    · rintro k v σ' H' H'' hk ⟨O', e', x1, F', hq⟩ ⟨rfl, hy⟩
      obtain ⟨r, hr2⟩ : ∃ r, xs.length - k = r + 1 := ⟨xs.length - k - 1, by omega⟩
      rw [hr2] at hq
      unfold loopO at hq
      cases e2 : ownD i e' with
      | none => rw [e2] at hq; exact hq.elim
      | some ys =>
        rw [e2] at hq
        dsimp only at hq
        by_cases l : ys.length = xs.length
        · rw [if_pos l] at hq
          have ek : xs.length - (r + 1) = k := by omega
          rw [ek] at hq
          cases eg : ys[k]? with
          | none => rw [eg] at hq; exact hq.elim
          | some d =>
            rw [eg] at hq
            dsimp only at hq
            obtain ⟨a', us, hO', hσ', ha', _, rr, _⟩ := FRel.ownd F' e2
            have st := (x1.stab i (by show (C.rf i || i == i) = true; simp)).1
            rw [hσ', hσ] at st
            cases st
            obtain ⟨w, ew, rw'⟩ := rr.get eg
            have ev := hy us ha'
            rw [ew] at ev
            cases ev
            unfold bodyO at hq
            refine ⟨L0, O', e', d, F', rw', ?_⟩
            cases eb : bindTg tg d e' with
            | none => rw [eb] at hq; exact hq.elim
            | some e3 =>
              rw [eb] at hq
              dsimp only at hq
              intro σ2 O2 x2 F2 _ _
              refine ⟨L0, O2, e3, F2, ?_⟩
              have hq2 := PostS.at hq x2
              have xt := x1.trans x2
              unfold whileB at hq2
              have er : xs.length - (k + 1) = r := by omega
              cases em : mb e3 with
              | bad => rw [em] at hq2; exact hq2.elim
              | ex y e4 => rw [em] at hq2; exact hq2
              | ok fl e4 =>
                rw [em] at hq2
                intro σ3 O3 H3 x3 F3
                cases fl with
                | nx => exact ⟨O3, e4, xt.trans x3, F3, by rw [er]; exact PostS.at hq2 x3⟩
                | ct => exact ⟨O3, e4, xt.trans x3, F3, by rw [er]; exact PostS.at hq2 x3⟩
                | bk => exact hq2 σ3 O3 H3 x3 F3
                | rt d => exact hq2 σ3 O3 H3 x3 F3
                | rtf d => exact hq2 σ3 O3 H3 x3 F3
                | rtx k2 d => exact hq2 σ3 O3 H3 x3 F3
        · rw [if_neg l] at hq; exact hq.elim
    · rintro σ' H' ⟨O', e', x1, F', hq⟩
      rw [Nat.sub_self] at hq
      unfold loopO at hq
      cases e2 : ownD i e' with
      | none => rw [e2] at hq; exact hq.elim
      | some ys =>
        rw [e2] at hq
        dsimp only at hq
        by_cases l : ys.length = xs.length
        · rw [if_pos l] at hq
          exact PostS.here (fl := .nx) hq F'
        · rw [if_neg l] at hq; exact hq.elim
end
end MP

namespace LW
open MP L2 PyProof.Rows PySem PySem.Spec
def it_Endless : List (Tx × Bool) := [([73, 110, 118, 97, 108, 105, 100, 78, 117, 109, 98, 101, 114], false), ([73, 110, 118, 97, 108, 105, 100, 87, 111, 114, 100], false), ([73, 110, 118, 97, 108, 105, 100, 76, 105, 110, 101], false), ([73, 110, 118, 97, 108, 105, 100, 67, 111, 100, 101], false), ([69, 110, 100, 108, 101, 115, 115], true), ([84, 111, 111, 76, 111, 110, 103], false), ([84, 111, 111, 76, 97, 114, 103, 101], false), ([73, 110, 118, 97, 108, 105, 100, 82, 111, 119], false), ([73, 110, 118, 97, 108, 105, 100, 77, 111, 118, 101, 115], false), ([73, 110, 118, 97, 108, 105, 100, 84, 101, 120, 116], false), ([73, 110, 118, 97, 108, 105, 100, 70, 111, 114, 109], false), ([73, 110, 118, 97, 108, 105, 100, 69, 110, 116, 114, 105, 101, 115], false), ([73, 110, 118, 97, 108, 105, 100, 67, 117, 116], false), ([73, 110, 118, 97, 108, 105, 100, 84, 97, 98, 108, 101, 115], false), ([73, 110, 118, 97, 108, 105, 100, 87, 111, 114, 100, 115], false), ([73, 110, 118, 97, 108, 105, 100, 73, 109, 97, 103, 101], false), ([73, 110, 118, 97, 108, 105, 100, 80, 108, 97, 110], false), ([85, 110, 115, 101, 116], false), ([73, 110, 118, 97, 108, 105, 100, 80, 108, 97, 99, 101, 109, 101, 110, 116], false), ([73, 110, 118, 97, 108, 105, 100, 83, 97, 118, 101, 115], false), ([73, 110, 118, 97, 108, 105, 100, 83, 108, 111, 116], false), ([73, 110, 118, 97, 108, 105, 100, 81, 117, 101, 115, 116, 105, 111, 110], false), ([73, 110, 118, 97, 108, 105, 100, 67, 108, 97, 105, 109], false), ([85, 110, 100, 101, 102, 105, 110, 101, 100], false), ([78, 111, 116, 104, 105, 110, 103, 84, 111, 85, 110, 100, 111], false)]
def is_Endless : Tx → Option Bool := hitT it_Endless
def it_InvalidClaim : List (Tx × Bool) := [([73, 110, 118, 97, 108, 105, 100, 78, 117, 109, 98, 101, 114], false), ([73, 110, 118, 97, 108, 105, 100, 87, 111, 114, 100], false), ([73, 110, 118, 97, 108, 105, 100, 76, 105, 110, 101], false), ([73, 110, 118, 97, 108, 105, 100, 67, 111, 100, 101], false), ([69, 110, 100, 108, 101, 115, 115], false), ([84, 111, 111, 76, 111, 110, 103], false), ([84, 111, 111, 76, 97, 114, 103, 101], false), ([73, 110, 118, 97, 108, 105, 100, 82, 111, 119], false), ([73, 110, 118, 97, 108, 105, 100, 77, 111, 118, 101, 115], false), ([73, 110, 118, 97, 108, 105, 100, 84, 101, 120, 116], false), ([73, 110, 118, 97, 108, 105, 100, 70, 111, 114, 109], false), ([73, 110, 118, 97, 108, 105, 100, 69, 110, 116, 114, 105, 101, 115], false), ([73, 110, 118, 97, 108, 105, 100, 67, 117, 116], false), ([73, 110, 118, 97, 108, 105, 100, 84, 97, 98, 108, 101, 115], false), ([73, 110, 118, 97, 108, 105, 100, 87, 111, 114, 100, 115], false), ([73, 110, 118, 97, 108, 105, 100, 73, 109, 97, 103, 101], false), ([73, 110, 118, 97, 108, 105, 100, 80, 108, 97, 110], false), ([85, 110, 115, 101, 116], false), ([73, 110, 118, 97, 108, 105, 100, 80, 108, 97, 99, 101, 109, 101, 110, 116], false), ([73, 110, 118, 97, 108, 105, 100, 83, 97, 118, 101, 115], false), ([73, 110, 118, 97, 108, 105, 100, 83, 108, 111, 116], false), ([73, 110, 118, 97, 108, 105, 100, 81, 117, 101, 115, 116, 105, 111, 110], false), ([73, 110, 118, 97, 108, 105, 100, 67, 108, 97, 105, 109], true), ([85, 110, 100, 101, 102, 105, 110, 101, 100], false), ([78, 111, 116, 104, 105, 110, 103, 84, 111, 85, 110, 100, 111], false)]
def is_InvalidClaim : Tx → Option Bool := hitT it_InvalidClaim
def it_InvalidCode : List (Tx × Bool) := [([73, 110, 118, 97, 108, 105, 100, 78, 117, 109, 98, 101, 114], false), ([73, 110, 118, 97, 108, 105, 100, 87, 111, 114, 100], false), ([73, 110, 118, 97, 108, 105, 100, 76, 105, 110, 101], false), ([73, 110, 118, 97, 108, 105, 100, 67, 111, 100, 101], true), ([69, 110, 100, 108, 101, 115, 115], false), ([84, 111, 111, 76, 111, 110, 103], false), ([84, 111, 111, 76, 97, 114, 103, 101], false), ([73, 110, 118, 97, 108, 105, 100, 82, 111, 119], false), ([73, 110, 118, 97, 108, 105, 100, 77, 111, 118, 101, 115], false), ([73, 110, 118, 97, 108, 105, 100, 84, 101, 120, 116], false), ([73, 110, 118, 97, 108, 105, 100, 70, 111, 114, 109], false), ([73, 110, 118, 97, 108, 105, 100, 69, 110, 116, 114, 105, 101, 115], false), ([73, 110, 118, 97, 108, 105, 100, 67, 117, 116], false), ([73, 110, 118, 97, 108, 105, 100, 84, 97, 98, 108, 101, 115], false), ([73, 110, 118, 97, 108, 105, 100, 87, 111, 114, 100, 115], false), ([73, 110, 118, 97, 108, 105, 100, 73, 109, 97, 103, 101], false), ([73, 110, 118, 97, 108, 105, 100, 80, 108, 97, 110], false), ([85, 110, 115, 101, 116], false), ([73, 110, 118, 97, 108, 105, 100, 80, 108, 97, 99, 101, 109, 101, 110, 116], false), ([73, 110, 118, 97, 108, 105, 100, 83, 97, 118, 101, 115], false), ([73, 110, 118, 97, 108, 105, 100, 83, 108, 111, 116], false), ([73, 110, 118, 97, 108, 105, 100, 81, 117, 101, 115, 116, 105, 111, 110], false), ([73, 110, 118, 97, 108, 105, 100, 67, 108, 97, 105, 109], false), ([85, 110, 100, 101, 102, 105, 110, 101, 100], false), ([78, 111, 116, 104, 105, 110, 103, 84, 111, 85, 110, 100, 111], false)]
def is_InvalidCode : Tx → Option Bool := hitT it_InvalidCode
def it_InvalidCut : List (Tx × Bool) := [([73, 110, 118, 97, 108, 105, 100, 78, 117, 109, 98, 101, 114], false), ([73, 110, 118, 97, 108, 105, 100, 87, 111, 114, 100], false), ([73, 110, 118, 97, 108, 105, 100, 76, 105, 110, 101], false), ([73, 110, 118, 97, 108, 105, 100, 67, 111, 100, 101], false), ([69, 110, 100, 108, 101, 115, 115], false), ([84, 111, 111, 76, 111, 110, 103], false), ([84, 111, 111, 76, 97, 114, 103, 101], false), ([73, 110, 118, 97, 108, 105, 100, 82, 111, 119], false), ([73, 110, 118, 97, 108, 105, 100, 77, 111, 118, 101, 115], false), ([73, 110, 118, 97, 108, 105, 100, 84, 101, 120, 116], false), ([73, 110, 118, 97, 108, 105, 100, 70, 111, 114, 109], false), ([73, 110, 118, 97, 108, 105, 100, 69, 110, 116, 114, 105, 101, 115], false), ([73, 110, 118, 97, 108, 105, 100, 67, 117, 116], true), ([73, 110, 118, 97, 108, 105, 100, 84, 97, 98, 108, 101, 115], false), ([73, 110, 118, 97, 108, 105, 100, 87, 111, 114, 100, 115], false), ([73, 110, 118, 97, 108, 105, 100, 73, 109, 97, 103, 101], false), ([73, 110, 118, 97, 108, 105, 100, 80, 108, 97, 110], false), ([85, 110, 115, 101, 116], false), ([73, 110, 118, 97, 108, 105, 100, 80, 108, 97, 99, 101, 109, 101, 110, 116], false), ([73, 110, 118, 97, 108, 105, 100, 83, 97, 118, 101, 115], false), ([73, 110, 118, 97, 108, 105, 100, 83, 108, 111, 116], false), ([73, 110, 118, 97, 108, 105, 100, 81, 117, 101, 115, 116, 105, 111, 110], false), ([73, 110, 118, 97, 108, 105, 100, 67, 108, 97, 105, 109], false), ([85, 110, 100, 101, 102, 105, 110, 101, 100], false), ([78, 111, 116, 104, 105, 110, 103, 84, 111, 85, 110, 100, 111], false)]
def is_InvalidCut : Tx → Option Bool := hitT it_InvalidCut
def it_InvalidEntries : List (Tx × Bool) := [([73, 110, 118, 97, 108, 105, 100, 78, 117, 109, 98, 101, 114], false), ([73, 110, 118, 97, 108, 105, 100, 87, 111, 114, 100], false), ([73, 110, 118, 97, 108, 105, 100, 76, 105, 110, 101], false), ([73, 110, 118, 97, 108, 105, 100, 67, 111, 100, 101], false), ([69, 110, 100, 108, 101, 115, 115], false), ([84, 111, 111, 76, 111, 110, 103], false), ([84, 111, 111, 76, 97, 114, 103, 101], false), ([73, 110, 118, 97, 108, 105, 100, 82, 111, 119], false), ([73, 110, 118, 97, 108, 105, 100, 77, 111, 118, 101, 115], false), ([73, 110, 118, 97, 108, 105, 100, 84, 101, 120, 116], false), ([73, 110, 118, 97, 108, 105, 100, 70, 111, 114, 109], false), ([73, 110, 118, 97, 108, 105, 100, 69, 110, 116, 114, 105, 101, 115], true), ([73, 110, 118, 97, 108, 105, 100, 67, 117, 116], false), ([73, 110, 118, 97, 108, 105, 100, 84, 97, 98, 108, 101, 115], false), ([73, 110, 118, 97, 108, 105, 100, 87, 111, 114, 100, 115], false), ([73, 110, 118, 97, 108, 105, 100, 73, 109, 97, 103, 101], false), ([73, 110, 118, 97, 108, 105, 100, 80, 108, 97, 110], false), ([85, 110, 115, 101, 116], false), ([73, 110, 118, 97, 108, 105, 100, 80, 108, 97, 99, 101, 109, 101, 110, 116], false), ([73, 110, 118, 97, 108, 105, 100, 83, 97, 118, 101, 115], false), ([73, 110, 118, 97, 108, 105, 100, 83, 108, 111, 116], false), ([73, 110, 118, 97, 108, 105, 100, 81, 117, 101, 115, 116, 105, 111, 110], false), ([73, 110, 118, 97, 108, 105, 100, 67, 108, 97, 105, 109], false), ([85, 110, 100, 101, 102, 105, 110, 101, 100], false), ([78, 111, 116, 104, 105, 110, 103, 84, 111, 85, 110, 100, 111], false)]
def is_InvalidEntries : Tx → Option Bool := hitT it_InvalidEntries
def it_InvalidForm : List (Tx × Bool) := [([73, 110, 118, 97, 108, 105, 100, 78, 117, 109, 98, 101, 114], false), ([73, 110, 118, 97, 108, 105, 100, 87, 111, 114, 100], false), ([73, 110, 118, 97, 108, 105, 100, 76, 105, 110, 101], false), ([73, 110, 118, 97, 108, 105, 100, 67, 111, 100, 101], false), ([69, 110, 100, 108, 101, 115, 115], false), ([84, 111, 111, 76, 111, 110, 103], false), ([84, 111, 111, 76, 97, 114, 103, 101], false), ([73, 110, 118, 97, 108, 105, 100, 82, 111, 119], false), ([73, 110, 118, 97, 108, 105, 100, 77, 111, 118, 101, 115], false), ([73, 110, 118, 97, 108, 105, 100, 84, 101, 120, 116], false), ([73, 110, 118, 97, 108, 105, 100, 70, 111, 114, 109], true), ([73, 110, 118, 97, 108, 105, 100, 69, 110, 116, 114, 105, 101, 115], false), ([73, 110, 118, 97, 108, 105, 100, 67, 117, 116], false), ([73, 110, 118, 97, 108, 105, 100, 84, 97, 98, 108, 101, 115], false), ([73, 110, 118, 97, 108, 105, 100, 87, 111, 114, 100, 115], false), ([73, 110, 118, 97, 108, 105, 100, 73, 109, 97, 103, 101], false), ([73, 110, 118, 97, 108, 105, 100, 80, 108, 97, 110], false), ([85, 110, 115, 101, 116], false), ([73, 110, 118, 97, 108, 105, 100, 80, 108, 97, 99, 101, 109, 101, 110, 116], false), ([73, 110, 118, 97, 108, 105, 100, 83, 97, 118, 101, 115], false), ([73, 110, 118, 97, 108, 105, 100, 83, 108, 111, 116], false), ([73, 110, 118, 97, 108, 105, 100, 81, 117, 101, 115, 116, 105, 111, 110], false), ([73, 110, 118, 97, 108, 105, 100, 67, 108, 97, 105, 109], false), ([85, 110, 100, 101, 102, 105, 110, 101, 100], false), ([78, 111, 116, 104, 105, 110, 103, 84, 111, 85, 110, 100, 111], false)]
def is_InvalidForm : Tx → Option Bool := hitT it_InvalidForm
def it_InvalidImage : List (Tx × Bool) := [([73, 110, 118, 97, 108, 105, 100, 78, 117, 109, 98, 101, 114], false), ([73, 110, 118, 97, 108, 105, 100, 87, 111, 114, 100], false), ([73, 110, 118, 97, 108, 105, 100, 76, 105, 110, 101], false), ([73, 110, 118, 97, 108, 105, 100, 67, 111, 100, 101], false), ([69, 110, 100, 108, 101, 115, 115], false), ([84, 111, 111, 76, 111, 110, 103], false), ([84, 111, 111, 76, 97, 114, 103, 101], false), ([73, 110, 118, 97, 108, 105, 100, 82, 111, 119], false), ([73, 110, 118, 97, 108, 105, 100, 77, 111, 118, 101, 115], false), ([73, 110, 118, 97, 108, 105, 100, 84, 101, 120, 116], false), ([73, 110, 118, 97, 108, 105, 100, 70, 111, 114, 109], false), ([73, 110, 118, 97, 108, 105, 100, 69, 110, 116, 114, 105, 101, 115], false), ([73, 110, 118, 97, 108, 105, 100, 67, 117, 116], false), ([73, 110, 118, 97, 108, 105, 100, 84, 97, 98, 108, 101, 115], false), ([73, 110, 118, 97, 108, 105, 100, 87, 111, 114, 100, 115], false), ([73, 110, 118, 97, 108, 105, 100, 73, 109, 97, 103, 101], true), ([73, 110, 118, 97, 108, 105, 100, 80, 108, 97, 110], false), ([85, 110, 115, 101, 116], false), ([73, 110, 118, 97, 108, 105, 100, 80, 108, 97, 99, 101, 109, 101, 110, 116], false), ([73, 110, 118, 97, 108, 105, 100, 83, 97, 118, 101, 115], false), ([73, 110, 118, 97, 108, 105, 100, 83, 108, 111, 116], false), ([73, 110, 118, 97, 108, 105, 100, 81, 117, 101, 115, 116, 105, 111, 110], false), ([73, 110, 118, 97, 108, 105, 100, 67, 108, 97, 105, 109], false), ([85, 110, 100, 101, 102, 105, 110, 101, 100], false), ([78, 111, 116, 104, 105, 110, 103, 84, 111, 85, 110, 100, 111], false)]
def is_InvalidImage : Tx → Option Bool := hitT it_InvalidImage
def it_InvalidLine : List (Tx × Bool) := [([73, 110, 118, 97, 108, 105, 100, 78, 117, 109, 98, 101, 114], false), ([73, 110, 118, 97, 108, 105, 100, 87, 111, 114, 100], false), ([73, 110, 118, 97, 108, 105, 100, 76, 105, 110, 101], true), ([73, 110, 118, 97, 108, 105, 100, 67, 111, 100, 101], false), ([69, 110, 100, 108, 101, 115, 115], false), ([84, 111, 111, 76, 111, 110, 103], false), ([84, 111, 111, 76, 97, 114, 103, 101], false), ([73, 110, 118, 97, 108, 105, 100, 82, 111, 119], false), ([73, 110, 118, 97, 108, 105, 100, 77, 111, 118, 101, 115], false), ([73, 110, 118, 97, 108, 105, 100, 84, 101, 120, 116], false), ([73, 110, 118, 97, 108, 105, 100, 70, 111, 114, 109], false), ([73, 110, 118, 97, 108, 105, 100, 69, 110, 116, 114, 105, 101, 115], false), ([73, 110, 118, 97, 108, 105, 100, 67, 117, 116], false), ([73, 110, 118, 97, 108, 105, 100, 84, 97, 98, 108, 101, 115], false), ([73, 110, 118, 97, 108, 105, 100, 87, 111, 114, 100, 115], false), ([73, 110, 118, 97, 108, 105, 100, 73, 109, 97, 103, 101], false), ([73, 110, 118, 97, 108, 105, 100, 80, 108, 97, 110], false), ([85, 110, 115, 101, 116], false), ([73, 110, 118, 97, 108, 105, 100, 80, 108, 97, 99, 101, 109, 101, 110, 116], false), ([73, 110, 118, 97, 108, 105, 100, 83, 97, 118, 101, 115], false), ([73, 110, 118, 97, 108, 105, 100, 83, 108, 111, 116], false), ([73, 110, 118, 97, 108, 105, 100, 81, 117, 101, 115, 116, 105, 111, 110], false), ([73, 110, 118, 97, 108, 105, 100, 67, 108, 97, 105, 109], false), ([85, 110, 100, 101, 102, 105, 110, 101, 100], false), ([78, 111, 116, 104, 105, 110, 103, 84, 111, 85, 110, 100, 111], false)]
def is_InvalidLine : Tx → Option Bool := hitT it_InvalidLine
def it_InvalidMoves : List (Tx × Bool) := [([73, 110, 118, 97, 108, 105, 100, 78, 117, 109, 98, 101, 114], false), ([73, 110, 118, 97, 108, 105, 100, 87, 111, 114, 100], false), ([73, 110, 118, 97, 108, 105, 100, 76, 105, 110, 101], false), ([73, 110, 118, 97, 108, 105, 100, 67, 111, 100, 101], false), ([69, 110, 100, 108, 101, 115, 115], false), ([84, 111, 111, 76, 111, 110, 103], false), ([84, 111, 111, 76, 97, 114, 103, 101], false), ([73, 110, 118, 97, 108, 105, 100, 82, 111, 119], false), ([73, 110, 118, 97, 108, 105, 100, 77, 111, 118, 101, 115], true), ([73, 110, 118, 97, 108, 105, 100, 84, 101, 120, 116], false), ([73, 110, 118, 97, 108, 105, 100, 70, 111, 114, 109], false), ([73, 110, 118, 97, 108, 105, 100, 69, 110, 116, 114, 105, 101, 115], false), ([73, 110, 118, 97, 108, 105, 100, 67, 117, 116], false), ([73, 110, 118, 97, 108, 105, 100, 84, 97, 98, 108, 101, 115], false), ([73, 110, 118, 97, 108, 105, 100, 87, 111, 114, 100, 115], false), ([73, 110, 118, 97, 108, 105, 100, 73, 109, 97, 103, 101], false), ([73, 110, 118, 97, 108, 105, 100, 80, 108, 97, 110], false), ([85, 110, 115, 101, 116], false), ([73, 110, 118, 97, 108, 105, 100, 80, 108, 97, 99, 101, 109, 101, 110, 116], false), ([73, 110, 118, 97, 108, 105, 100, 83, 97, 118, 101, 115], false), ([73, 110, 118, 97, 108, 105, 100, 83, 108, 111, 116], false), ([73, 110, 118, 97, 108, 105, 100, 81, 117, 101, 115, 116, 105, 111, 110], false), ([73, 110, 118, 97, 108, 105, 100, 67, 108, 97, 105, 109], false), ([85, 110, 100, 101, 102, 105, 110, 101, 100], false), ([78, 111, 116, 104, 105, 110, 103, 84, 111, 85, 110, 100, 111], false)]
def is_InvalidMoves : Tx → Option Bool := hitT it_InvalidMoves
def it_InvalidNumber : List (Tx × Bool) := [([73, 110, 118, 97, 108, 105, 100, 78, 117, 109, 98, 101, 114], true), ([73, 110, 118, 97, 108, 105, 100, 87, 111, 114, 100], false), ([73, 110, 118, 97, 108, 105, 100, 76, 105, 110, 101], false), ([73, 110, 118, 97, 108, 105, 100, 67, 111, 100, 101], false), ([69, 110, 100, 108, 101, 115, 115], false), ([84, 111, 111, 76, 111, 110, 103], false), ([84, 111, 111, 76, 97, 114, 103, 101], false), ([73, 110, 118, 97, 108, 105, 100, 82, 111, 119], false), ([73, 110, 118, 97, 108, 105, 100, 77, 111, 118, 101, 115], false), ([73, 110, 118, 97, 108, 105, 100, 84, 101, 120, 116], false), ([73, 110, 118, 97, 108, 105, 100, 70, 111, 114, 109], false), ([73, 110, 118, 97, 108, 105, 100, 69, 110, 116, 114, 105, 101, 115], false), ([73, 110, 118, 97, 108, 105, 100, 67, 117, 116], false), ([73, 110, 118, 97, 108, 105, 100, 84, 97, 98, 108, 101, 115], false), ([73, 110, 118, 97, 108, 105, 100, 87, 111, 114, 100, 115], false), ([73, 110, 118, 97, 108, 105, 100, 73, 109, 97, 103, 101], false), ([73, 110, 118, 97, 108, 105, 100, 80, 108, 97, 110], false), ([85, 110, 115, 101, 116], false), ([73, 110, 118, 97, 108, 105, 100, 80, 108, 97, 99, 101, 109, 101, 110, 116], false), ([73, 110, 118, 97, 108, 105, 100, 83, 97, 118, 101, 115], false), ([73, 110, 118, 97, 108, 105, 100, 83, 108, 111, 116], false), ([73, 110, 118, 97, 108, 105, 100, 81, 117, 101, 115, 116, 105, 111, 110], false), ([73, 110, 118, 97, 108, 105, 100, 67, 108, 97, 105, 109], false), ([85, 110, 100, 101, 102, 105, 110, 101, 100], false), ([78, 111, 116, 104, 105, 110, 103, 84, 111, 85, 110, 100, 111], false)]
def is_InvalidNumber : Tx → Option Bool := hitT it_InvalidNumber
def it_InvalidPlacement : List (Tx × Bool) := [([73, 110, 118, 97, 108, 105, 100, 78, 117, 109, 98, 101, 114], false), ([73, 110, 118, 97, 108, 105, 100, 87, 111, 114, 100], false), ([73, 110, 118, 97, 108, 105, 100, 76, 105, 110, 101], false), ([73, 110, 118, 97, 108, 105, 100, 67, 111, 100, 101], false), ([69, 110, 100, 108, 101, 115, 115], false), ([84, 111, 111, 76, 111, 110, 103], false), ([84, 111, 111, 76, 97, 114, 103, 101], false), ([73, 110, 118, 97, 108, 105, 100, 82, 111, 119], false), ([73, 110, 118, 97, 108, 105, 100, 77, 111, 118, 101, 115], false), ([73, 110, 118, 97, 108, 105, 100, 84, 101, 120, 116], false), ([73, 110, 118, 97, 108, 105, 100, 70, 111, 114, 109], false), ([73, 110, 118, 97, 108, 105, 100, 69, 110, 116, 114, 105, 101, 115], false), ([73, 110, 118, 97, 108, 105, 100, 67, 117, 116], false), ([73, 110, 118, 97, 108, 105, 100, 84, 97, 98, 108, 101, 115], false), ([73, 110, 118, 97, 108, 105, 100, 87, 111, 114, 100, 115], false), ([73, 110, 118, 97, 108, 105, 100, 73, 109, 97, 103, 101], false), ([73, 110, 118, 97, 108, 105, 100, 80, 108, 97, 110], false), ([85, 110, 115, 101, 116], false), ([73, 110, 118, 97, 108, 105, 100, 80, 108, 97, 99, 101, 109, 101, 110, 116], true), ([73, 110, 118, 97, 108, 105, 100, 83, 97, 118, 101, 115], false), ([73, 110, 118, 97, 108, 105, 100, 83, 108, 111, 116], false), ([73, 110, 118, 97, 108, 105, 100, 81, 117, 101, 115, 116, 105, 111, 110], false), ([73, 110, 118, 97, 108, 105, 100, 67, 108, 97, 105, 109], false), ([85, 110, 100, 101, 102, 105, 110, 101, 100], false), ([78, 111, 116, 104, 105, 110, 103, 84, 111, 85, 110, 100, 111], false)]
def is_InvalidPlacement : Tx → Option Bool := hitT it_InvalidPlacement
def it_InvalidPlan : List (Tx × Bool) := [([73, 110, 118, 97, 108, 105, 100, 78, 117, 109, 98, 101, 114], false), ([73, 110, 118, 97, 108, 105, 100, 87, 111, 114, 100], false), ([73, 110, 118, 97, 108, 105, 100, 76, 105, 110, 101], false), ([73, 110, 118, 97, 108, 105, 100, 67, 111, 100, 101], false), ([69, 110, 100, 108, 101, 115, 115], false), ([84, 111, 111, 76, 111, 110, 103], false), ([84, 111, 111, 76, 97, 114, 103, 101], false), ([73, 110, 118, 97, 108, 105, 100, 82, 111, 119], false), ([73, 110, 118, 97, 108, 105, 100, 77, 111, 118, 101, 115], false), ([73, 110, 118, 97, 108, 105, 100, 84, 101, 120, 116], false), ([73, 110, 118, 97, 108, 105, 100, 70, 111, 114, 109], false), ([73, 110, 118, 97, 108, 105, 100, 69, 110, 116, 114, 105, 101, 115], false), ([73, 110, 118, 97, 108, 105, 100, 67, 117, 116], false), ([73, 110, 118, 97, 108, 105, 100, 84, 97, 98, 108, 101, 115], false), ([73, 110, 118, 97, 108, 105, 100, 87, 111, 114, 100, 115], false), ([73, 110, 118, 97, 108, 105, 100, 73, 109, 97, 103, 101], false), ([73, 110, 118, 97, 108, 105, 100, 80, 108, 97, 110], true), ([85, 110, 115, 101, 116], false), ([73, 110, 118, 97, 108, 105, 100, 80, 108, 97, 99, 101, 109, 101, 110, 116], false), ([73, 110, 118, 97, 108, 105, 100, 83, 97, 118, 101, 115], false), ([73, 110, 118, 97, 108, 105, 100, 83, 108, 111, 116], false), ([73, 110, 118, 97, 108, 105, 100, 81, 117, 101, 115, 116, 105, 111, 110], false), ([73, 110, 118, 97, 108, 105, 100, 67, 108, 97, 105, 109], false), ([85, 110, 100, 101, 102, 105, 110, 101, 100], false), ([78, 111, 116, 104, 105, 110, 103, 84, 111, 85, 110, 100, 111], false)]
def is_InvalidPlan : Tx → Option Bool := hitT it_InvalidPlan
def it_InvalidQuestion : List (Tx × Bool) := [([73, 110, 118, 97, 108, 105, 100, 78, 117, 109, 98, 101, 114], false), ([73, 110, 118, 97, 108, 105, 100, 87, 111, 114, 100], false), ([73, 110, 118, 97, 108, 105, 100, 76, 105, 110, 101], false), ([73, 110, 118, 97, 108, 105, 100, 67, 111, 100, 101], false), ([69, 110, 100, 108, 101, 115, 115], false), ([84, 111, 111, 76, 111, 110, 103], false), ([84, 111, 111, 76, 97, 114, 103, 101], false), ([73, 110, 118, 97, 108, 105, 100, 82, 111, 119], false), ([73, 110, 118, 97, 108, 105, 100, 77, 111, 118, 101, 115], false), ([73, 110, 118, 97, 108, 105, 100, 84, 101, 120, 116], false), ([73, 110, 118, 97, 108, 105, 100, 70, 111, 114, 109], false), ([73, 110, 118, 97, 108, 105, 100, 69, 110, 116, 114, 105, 101, 115], false), ([73, 110, 118, 97, 108, 105, 100, 67, 117, 116], false), ([73, 110, 118, 97, 108, 105, 100, 84, 97, 98, 108, 101, 115], false), ([73, 110, 118, 97, 108, 105, 100, 87, 111, 114, 100, 115], false), ([73, 110, 118, 97, 108, 105, 100, 73, 109, 97, 103, 101], false), ([73, 110, 118, 97, 108, 105, 100, 80, 108, 97, 110], false), ([85, 110, 115, 101, 116], false), ([73, 110, 118, 97, 108, 105, 100, 80, 108, 97, 99, 101, 109, 101, 110, 116], false), ([73, 110, 118, 97, 108, 105, 100, 83, 97, 118, 101, 115], false), ([73, 110, 118, 97, 108, 105, 100, 83, 108, 111, 116], false), ([73, 110, 118, 97, 108, 105, 100, 81, 117, 101, 115, 116, 105, 111, 110], true), ([73, 110, 118, 97, 108, 105, 100, 67, 108, 97, 105, 109], false), ([85, 110, 100, 101, 102, 105, 110, 101, 100], false), ([78, 111, 116, 104, 105, 110, 103, 84, 111, 85, 110, 100, 111], false)]
def is_InvalidQuestion : Tx → Option Bool := hitT it_InvalidQuestion
def it_InvalidRow : List (Tx × Bool) := [([73, 110, 118, 97, 108, 105, 100, 78, 117, 109, 98, 101, 114], false), ([73, 110, 118, 97, 108, 105, 100, 87, 111, 114, 100], false), ([73, 110, 118, 97, 108, 105, 100, 76, 105, 110, 101], false), ([73, 110, 118, 97, 108, 105, 100, 67, 111, 100, 101], false), ([69, 110, 100, 108, 101, 115, 115], false), ([84, 111, 111, 76, 111, 110, 103], false), ([84, 111, 111, 76, 97, 114, 103, 101], false), ([73, 110, 118, 97, 108, 105, 100, 82, 111, 119], true), ([73, 110, 118, 97, 108, 105, 100, 77, 111, 118, 101, 115], false), ([73, 110, 118, 97, 108, 105, 100, 84, 101, 120, 116], false), ([73, 110, 118, 97, 108, 105, 100, 70, 111, 114, 109], false), ([73, 110, 118, 97, 108, 105, 100, 69, 110, 116, 114, 105, 101, 115], false), ([73, 110, 118, 97, 108, 105, 100, 67, 117, 116], false), ([73, 110, 118, 97, 108, 105, 100, 84, 97, 98, 108, 101, 115], false), ([73, 110, 118, 97, 108, 105, 100, 87, 111, 114, 100, 115], false), ([73, 110, 118, 97, 108, 105, 100, 73, 109, 97, 103, 101], false), ([73, 110, 118, 97, 108, 105, 100, 80, 108, 97, 110], false), ([85, 110, 115, 101, 116], false), ([73, 110, 118, 97, 108, 105, 100, 80, 108, 97, 99, 101, 109, 101, 110, 116], false), ([73, 110, 118, 97, 108, 105, 100, 83, 97, 118, 101, 115], false), ([73, 110, 118, 97, 108, 105, 100, 83, 108, 111, 116], false), ([73, 110, 118, 97, 108, 105, 100, 81, 117, 101, 115, 116, 105, 111, 110], false), ([73, 110, 118, 97, 108, 105, 100, 67, 108, 97, 105, 109], false), ([85, 110, 100, 101, 102, 105, 110, 101, 100], false), ([78, 111, 116, 104, 105, 110, 103, 84, 111, 85, 110, 100, 111], false)]
def is_InvalidRow : Tx → Option Bool := hitT it_InvalidRow
def it_InvalidSaves : List (Tx × Bool) := [([73, 110, 118, 97, 108, 105, 100, 78, 117, 109, 98, 101, 114], false), ([73, 110, 118, 97, 108, 105, 100, 87, 111, 114, 100], false), ([73, 110, 118, 97, 108, 105, 100, 76, 105, 110, 101], false), ([73, 110, 118, 97, 108, 105, 100, 67, 111, 100, 101], false), ([69, 110, 100, 108, 101, 115, 115], false), ([84, 111, 111, 76, 111, 110, 103], false), ([84, 111, 111, 76, 97, 114, 103, 101], false), ([73, 110, 118, 97, 108, 105, 100, 82, 111, 119], false), ([73, 110, 118, 97, 108, 105, 100, 77, 111, 118, 101, 115], false), ([73, 110, 118, 97, 108, 105, 100, 84, 101, 120, 116], false), ([73, 110, 118, 97, 108, 105, 100, 70, 111, 114, 109], false), ([73, 110, 118, 97, 108, 105, 100, 69, 110, 116, 114, 105, 101, 115], false), ([73, 110, 118, 97, 108, 105, 100, 67, 117, 116], false), ([73, 110, 118, 97, 108, 105, 100, 84, 97, 98, 108, 101, 115], false), ([73, 110, 118, 97, 108, 105, 100, 87, 111, 114, 100, 115], false), ([73, 110, 118, 97, 108, 105, 100, 73, 109, 97, 103, 101], false), ([73, 110, 118, 97, 108, 105, 100, 80, 108, 97, 110], false), ([85, 110, 115, 101, 116], false), ([73, 110, 118, 97, 108, 105, 100, 80, 108, 97, 99, 101, 109, 101, 110, 116], false), ([73, 110, 118, 97, 108, 105, 100, 83, 97, 118, 101, 115], true), ([73, 110, 118, 97, 108, 105, 100, 83, 108, 111, 116], false), ([73, 110, 118, 97, 108, 105, 100, 81, 117, 101, 115, 116, 105, 111, 110], false), ([73, 110, 118, 97, 108, 105, 100, 67, 108, 97, 105, 109], false), ([85, 110, 100, 101, 102, 105, 110, 101, 100], false), ([78, 111, 116, 104, 105, 110, 103, 84, 111, 85, 110, 100, 111], false)]
def is_InvalidSaves : Tx → Option Bool := hitT it_InvalidSaves
def it_InvalidSlot : List (Tx × Bool) := [([73, 110, 118, 97, 108, 105, 100, 78, 117, 109, 98, 101, 114], false), ([73, 110, 118, 97, 108, 105, 100, 87, 111, 114, 100], false), ([73, 110, 118, 97, 108, 105, 100, 76, 105, 110, 101], false), ([73, 110, 118, 97, 108, 105, 100, 67, 111, 100, 101], false), ([69, 110, 100, 108, 101, 115, 115], false), ([84, 111, 111, 76, 111, 110, 103], false), ([84, 111, 111, 76, 97, 114, 103, 101], false), ([73, 110, 118, 97, 108, 105, 100, 82, 111, 119], false), ([73, 110, 118, 97, 108, 105, 100, 77, 111, 118, 101, 115], false), ([73, 110, 118, 97, 108, 105, 100, 84, 101, 120, 116], false), ([73, 110, 118, 97, 108, 105, 100, 70, 111, 114, 109], false), ([73, 110, 118, 97, 108, 105, 100, 69, 110, 116, 114, 105, 101, 115], false), ([73, 110, 118, 97, 108, 105, 100, 67, 117, 116], false), ([73, 110, 118, 97, 108, 105, 100, 84, 97, 98, 108, 101, 115], false), ([73, 110, 118, 97, 108, 105, 100, 87, 111, 114, 100, 115], false), ([73, 110, 118, 97, 108, 105, 100, 73, 109, 97, 103, 101], false), ([73, 110, 118, 97, 108, 105, 100, 80, 108, 97, 110], false), ([85, 110, 115, 101, 116], false), ([73, 110, 118, 97, 108, 105, 100, 80, 108, 97, 99, 101, 109, 101, 110, 116], false), ([73, 110, 118, 97, 108, 105, 100, 83, 97, 118, 101, 115], false), ([73, 110, 118, 97, 108, 105, 100, 83, 108, 111, 116], true), ([73, 110, 118, 97, 108, 105, 100, 81, 117, 101, 115, 116, 105, 111, 110], false), ([73, 110, 118, 97, 108, 105, 100, 67, 108, 97, 105, 109], false), ([85, 110, 100, 101, 102, 105, 110, 101, 100], false), ([78, 111, 116, 104, 105, 110, 103, 84, 111, 85, 110, 100, 111], false)]
def is_InvalidSlot : Tx → Option Bool := hitT it_InvalidSlot
def it_InvalidTables : List (Tx × Bool) := [([73, 110, 118, 97, 108, 105, 100, 78, 117, 109, 98, 101, 114], false), ([73, 110, 118, 97, 108, 105, 100, 87, 111, 114, 100], false), ([73, 110, 118, 97, 108, 105, 100, 76, 105, 110, 101], false), ([73, 110, 118, 97, 108, 105, 100, 67, 111, 100, 101], false), ([69, 110, 100, 108, 101, 115, 115], false), ([84, 111, 111, 76, 111, 110, 103], false), ([84, 111, 111, 76, 97, 114, 103, 101], false), ([73, 110, 118, 97, 108, 105, 100, 82, 111, 119], false), ([73, 110, 118, 97, 108, 105, 100, 77, 111, 118, 101, 115], false), ([73, 110, 118, 97, 108, 105, 100, 84, 101, 120, 116], false), ([73, 110, 118, 97, 108, 105, 100, 70, 111, 114, 109], false), ([73, 110, 118, 97, 108, 105, 100, 69, 110, 116, 114, 105, 101, 115], false), ([73, 110, 118, 97, 108, 105, 100, 67, 117, 116], false), ([73, 110, 118, 97, 108, 105, 100, 84, 97, 98, 108, 101, 115], true), ([73, 110, 118, 97, 108, 105, 100, 87, 111, 114, 100, 115], false), ([73, 110, 118, 97, 108, 105, 100, 73, 109, 97, 103, 101], false), ([73, 110, 118, 97, 108, 105, 100, 80, 108, 97, 110], false), ([85, 110, 115, 101, 116], false), ([73, 110, 118, 97, 108, 105, 100, 80, 108, 97, 99, 101, 109, 101, 110, 116], false), ([73, 110, 118, 97, 108, 105, 100, 83, 97, 118, 101, 115], false), ([73, 110, 118, 97, 108, 105, 100, 83, 108, 111, 116], false), ([73, 110, 118, 97, 108, 105, 100, 81, 117, 101, 115, 116, 105, 111, 110], false), ([73, 110, 118, 97, 108, 105, 100, 67, 108, 97, 105, 109], false), ([85, 110, 100, 101, 102, 105, 110, 101, 100], false), ([78, 111, 116, 104, 105, 110, 103, 84, 111, 85, 110, 100, 111], false)]
def is_InvalidTables : Tx → Option Bool := hitT it_InvalidTables
def it_InvalidText : List (Tx × Bool) := [([73, 110, 118, 97, 108, 105, 100, 78, 117, 109, 98, 101, 114], false), ([73, 110, 118, 97, 108, 105, 100, 87, 111, 114, 100], false), ([73, 110, 118, 97, 108, 105, 100, 76, 105, 110, 101], false), ([73, 110, 118, 97, 108, 105, 100, 67, 111, 100, 101], false), ([69, 110, 100, 108, 101, 115, 115], false), ([84, 111, 111, 76, 111, 110, 103], false), ([84, 111, 111, 76, 97, 114, 103, 101], false), ([73, 110, 118, 97, 108, 105, 100, 82, 111, 119], false), ([73, 110, 118, 97, 108, 105, 100, 77, 111, 118, 101, 115], false), ([73, 110, 118, 97, 108, 105, 100, 84, 101, 120, 116], true), ([73, 110, 118, 97, 108, 105, 100, 70, 111, 114, 109], false), ([73, 110, 118, 97, 108, 105, 100, 69, 110, 116, 114, 105, 101, 115], false), ([73, 110, 118, 97, 108, 105, 100, 67, 117, 116], false), ([73, 110, 118, 97, 108, 105, 100, 84, 97, 98, 108, 101, 115], false), ([73, 110, 118, 97, 108, 105, 100, 87, 111, 114, 100, 115], false), ([73, 110, 118, 97, 108, 105, 100, 73, 109, 97, 103, 101], false), ([73, 110, 118, 97, 108, 105, 100, 80, 108, 97, 110], false), ([85, 110, 115, 101, 116], false), ([73, 110, 118, 97, 108, 105, 100, 80, 108, 97, 99, 101, 109, 101, 110, 116], false), ([73, 110, 118, 97, 108, 105, 100, 83, 97, 118, 101, 115], false), ([73, 110, 118, 97, 108, 105, 100, 83, 108, 111, 116], false), ([73, 110, 118, 97, 108, 105, 100, 81, 117, 101, 115, 116, 105, 111, 110], false), ([73, 110, 118, 97, 108, 105, 100, 67, 108, 97, 105, 109], false), ([85, 110, 100, 101, 102, 105, 110, 101, 100], false), ([78, 111, 116, 104, 105, 110, 103, 84, 111, 85, 110, 100, 111], false)]
def is_InvalidText : Tx → Option Bool := hitT it_InvalidText
def it_InvalidWord : List (Tx × Bool) := [([73, 110, 118, 97, 108, 105, 100, 78, 117, 109, 98, 101, 114], false), ([73, 110, 118, 97, 108, 105, 100, 87, 111, 114, 100], true), ([73, 110, 118, 97, 108, 105, 100, 76, 105, 110, 101], false), ([73, 110, 118, 97, 108, 105, 100, 67, 111, 100, 101], false), ([69, 110, 100, 108, 101, 115, 115], false), ([84, 111, 111, 76, 111, 110, 103], false), ([84, 111, 111, 76, 97, 114, 103, 101], false), ([73, 110, 118, 97, 108, 105, 100, 82, 111, 119], false), ([73, 110, 118, 97, 108, 105, 100, 77, 111, 118, 101, 115], false), ([73, 110, 118, 97, 108, 105, 100, 84, 101, 120, 116], false), ([73, 110, 118, 97, 108, 105, 100, 70, 111, 114, 109], false), ([73, 110, 118, 97, 108, 105, 100, 69, 110, 116, 114, 105, 101, 115], false), ([73, 110, 118, 97, 108, 105, 100, 67, 117, 116], false), ([73, 110, 118, 97, 108, 105, 100, 84, 97, 98, 108, 101, 115], false), ([73, 110, 118, 97, 108, 105, 100, 87, 111, 114, 100, 115], false), ([73, 110, 118, 97, 108, 105, 100, 73, 109, 97, 103, 101], false), ([73, 110, 118, 97, 108, 105, 100, 80, 108, 97, 110], false), ([85, 110, 115, 101, 116], false), ([73, 110, 118, 97, 108, 105, 100, 80, 108, 97, 99, 101, 109, 101, 110, 116], false), ([73, 110, 118, 97, 108, 105, 100, 83, 97, 118, 101, 115], false), ([73, 110, 118, 97, 108, 105, 100, 83, 108, 111, 116], false), ([73, 110, 118, 97, 108, 105, 100, 81, 117, 101, 115, 116, 105, 111, 110], false), ([73, 110, 118, 97, 108, 105, 100, 67, 108, 97, 105, 109], false), ([85, 110, 100, 101, 102, 105, 110, 101, 100], false), ([78, 111, 116, 104, 105, 110, 103, 84, 111, 85, 110, 100, 111], false)]
def is_InvalidWord : Tx → Option Bool := hitT it_InvalidWord
def it_InvalidWords : List (Tx × Bool) := [([73, 110, 118, 97, 108, 105, 100, 78, 117, 109, 98, 101, 114], false), ([73, 110, 118, 97, 108, 105, 100, 87, 111, 114, 100], false), ([73, 110, 118, 97, 108, 105, 100, 76, 105, 110, 101], false), ([73, 110, 118, 97, 108, 105, 100, 67, 111, 100, 101], false), ([69, 110, 100, 108, 101, 115, 115], false), ([84, 111, 111, 76, 111, 110, 103], false), ([84, 111, 111, 76, 97, 114, 103, 101], false), ([73, 110, 118, 97, 108, 105, 100, 82, 111, 119], false), ([73, 110, 118, 97, 108, 105, 100, 77, 111, 118, 101, 115], false), ([73, 110, 118, 97, 108, 105, 100, 84, 101, 120, 116], false), ([73, 110, 118, 97, 108, 105, 100, 70, 111, 114, 109], false), ([73, 110, 118, 97, 108, 105, 100, 69, 110, 116, 114, 105, 101, 115], false), ([73, 110, 118, 97, 108, 105, 100, 67, 117, 116], false), ([73, 110, 118, 97, 108, 105, 100, 84, 97, 98, 108, 101, 115], false), ([73, 110, 118, 97, 108, 105, 100, 87, 111, 114, 100, 115], true), ([73, 110, 118, 97, 108, 105, 100, 73, 109, 97, 103, 101], false), ([73, 110, 118, 97, 108, 105, 100, 80, 108, 97, 110], false), ([85, 110, 115, 101, 116], false), ([73, 110, 118, 97, 108, 105, 100, 80, 108, 97, 99, 101, 109, 101, 110, 116], false), ([73, 110, 118, 97, 108, 105, 100, 83, 97, 118, 101, 115], false), ([73, 110, 118, 97, 108, 105, 100, 83, 108, 111, 116], false), ([73, 110, 118, 97, 108, 105, 100, 81, 117, 101, 115, 116, 105, 111, 110], false), ([73, 110, 118, 97, 108, 105, 100, 67, 108, 97, 105, 109], false), ([85, 110, 100, 101, 102, 105, 110, 101, 100], false), ([78, 111, 116, 104, 105, 110, 103, 84, 111, 85, 110, 100, 111], false)]
def is_InvalidWords : Tx → Option Bool := hitT it_InvalidWords
def it_NothingToUndo : List (Tx × Bool) := [([73, 110, 118, 97, 108, 105, 100, 78, 117, 109, 98, 101, 114], false), ([73, 110, 118, 97, 108, 105, 100, 87, 111, 114, 100], false), ([73, 110, 118, 97, 108, 105, 100, 76, 105, 110, 101], false), ([73, 110, 118, 97, 108, 105, 100, 67, 111, 100, 101], false), ([69, 110, 100, 108, 101, 115, 115], false), ([84, 111, 111, 76, 111, 110, 103], false), ([84, 111, 111, 76, 97, 114, 103, 101], false), ([73, 110, 118, 97, 108, 105, 100, 82, 111, 119], false), ([73, 110, 118, 97, 108, 105, 100, 77, 111, 118, 101, 115], false), ([73, 110, 118, 97, 108, 105, 100, 84, 101, 120, 116], false), ([73, 110, 118, 97, 108, 105, 100, 70, 111, 114, 109], false), ([73, 110, 118, 97, 108, 105, 100, 69, 110, 116, 114, 105, 101, 115], false), ([73, 110, 118, 97, 108, 105, 100, 67, 117, 116], false), ([73, 110, 118, 97, 108, 105, 100, 84, 97, 98, 108, 101, 115], false), ([73, 110, 118, 97, 108, 105, 100, 87, 111, 114, 100, 115], false), ([73, 110, 118, 97, 108, 105, 100, 73, 109, 97, 103, 101], false), ([73, 110, 118, 97, 108, 105, 100, 80, 108, 97, 110], false), ([85, 110, 115, 101, 116], false), ([73, 110, 118, 97, 108, 105, 100, 80, 108, 97, 99, 101, 109, 101, 110, 116], false), ([73, 110, 118, 97, 108, 105, 100, 83, 97, 118, 101, 115], false), ([73, 110, 118, 97, 108, 105, 100, 83, 108, 111, 116], false), ([73, 110, 118, 97, 108, 105, 100, 81, 117, 101, 115, 116, 105, 111, 110], false), ([73, 110, 118, 97, 108, 105, 100, 67, 108, 97, 105, 109], false), ([85, 110, 100, 101, 102, 105, 110, 101, 100], false), ([78, 111, 116, 104, 105, 110, 103, 84, 111, 85, 110, 100, 111], true)]
def is_NothingToUndo : Tx → Option Bool := hitT it_NothingToUndo
def it_TooLarge : List (Tx × Bool) := [([73, 110, 118, 97, 108, 105, 100, 78, 117, 109, 98, 101, 114], false), ([73, 110, 118, 97, 108, 105, 100, 87, 111, 114, 100], false), ([73, 110, 118, 97, 108, 105, 100, 76, 105, 110, 101], false), ([73, 110, 118, 97, 108, 105, 100, 67, 111, 100, 101], false), ([69, 110, 100, 108, 101, 115, 115], false), ([84, 111, 111, 76, 111, 110, 103], false), ([84, 111, 111, 76, 97, 114, 103, 101], true), ([73, 110, 118, 97, 108, 105, 100, 82, 111, 119], false), ([73, 110, 118, 97, 108, 105, 100, 77, 111, 118, 101, 115], false), ([73, 110, 118, 97, 108, 105, 100, 84, 101, 120, 116], false), ([73, 110, 118, 97, 108, 105, 100, 70, 111, 114, 109], false), ([73, 110, 118, 97, 108, 105, 100, 69, 110, 116, 114, 105, 101, 115], false), ([73, 110, 118, 97, 108, 105, 100, 67, 117, 116], false), ([73, 110, 118, 97, 108, 105, 100, 84, 97, 98, 108, 101, 115], false), ([73, 110, 118, 97, 108, 105, 100, 87, 111, 114, 100, 115], false), ([73, 110, 118, 97, 108, 105, 100, 73, 109, 97, 103, 101], false), ([73, 110, 118, 97, 108, 105, 100, 80, 108, 97, 110], false), ([85, 110, 115, 101, 116], false), ([73, 110, 118, 97, 108, 105, 100, 80, 108, 97, 99, 101, 109, 101, 110, 116], false), ([73, 110, 118, 97, 108, 105, 100, 83, 97, 118, 101, 115], false), ([73, 110, 118, 97, 108, 105, 100, 83, 108, 111, 116], false), ([73, 110, 118, 97, 108, 105, 100, 81, 117, 101, 115, 116, 105, 111, 110], false), ([73, 110, 118, 97, 108, 105, 100, 67, 108, 97, 105, 109], false), ([85, 110, 100, 101, 102, 105, 110, 101, 100], false), ([78, 111, 116, 104, 105, 110, 103, 84, 111, 85, 110, 100, 111], false)]
def is_TooLarge : Tx → Option Bool := hitT it_TooLarge
def it_TooLong : List (Tx × Bool) := [([73, 110, 118, 97, 108, 105, 100, 78, 117, 109, 98, 101, 114], false), ([73, 110, 118, 97, 108, 105, 100, 87, 111, 114, 100], false), ([73, 110, 118, 97, 108, 105, 100, 76, 105, 110, 101], false), ([73, 110, 118, 97, 108, 105, 100, 67, 111, 100, 101], false), ([69, 110, 100, 108, 101, 115, 115], false), ([84, 111, 111, 76, 111, 110, 103], true), ([84, 111, 111, 76, 97, 114, 103, 101], false), ([73, 110, 118, 97, 108, 105, 100, 82, 111, 119], false), ([73, 110, 118, 97, 108, 105, 100, 77, 111, 118, 101, 115], false), ([73, 110, 118, 97, 108, 105, 100, 84, 101, 120, 116], false), ([73, 110, 118, 97, 108, 105, 100, 70, 111, 114, 109], false), ([73, 110, 118, 97, 108, 105, 100, 69, 110, 116, 114, 105, 101, 115], false), ([73, 110, 118, 97, 108, 105, 100, 67, 117, 116], false), ([73, 110, 118, 97, 108, 105, 100, 84, 97, 98, 108, 101, 115], false), ([73, 110, 118, 97, 108, 105, 100, 87, 111, 114, 100, 115], false), ([73, 110, 118, 97, 108, 105, 100, 73, 109, 97, 103, 101], false), ([73, 110, 118, 97, 108, 105, 100, 80, 108, 97, 110], false), ([85, 110, 115, 101, 116], false), ([73, 110, 118, 97, 108, 105, 100, 80, 108, 97, 99, 101, 109, 101, 110, 116], false), ([73, 110, 118, 97, 108, 105, 100, 83, 97, 118, 101, 115], false), ([73, 110, 118, 97, 108, 105, 100, 83, 108, 111, 116], false), ([73, 110, 118, 97, 108, 105, 100, 81, 117, 101, 115, 116, 105, 111, 110], false), ([73, 110, 118, 97, 108, 105, 100, 67, 108, 97, 105, 109], false), ([85, 110, 100, 101, 102, 105, 110, 101, 100], false), ([78, 111, 116, 104, 105, 110, 103, 84, 111, 85, 110, 100, 111], false)]
def is_TooLong : Tx → Option Bool := hitT it_TooLong
def it_TrimError : List (Tx × Bool) := [([73, 110, 118, 97, 108, 105, 100, 78, 117, 109, 98, 101, 114], true), ([73, 110, 118, 97, 108, 105, 100, 87, 111, 114, 100], true), ([73, 110, 118, 97, 108, 105, 100, 76, 105, 110, 101], true), ([73, 110, 118, 97, 108, 105, 100, 67, 111, 100, 101], true), ([69, 110, 100, 108, 101, 115, 115], true), ([84, 111, 111, 76, 111, 110, 103], true), ([84, 111, 111, 76, 97, 114, 103, 101], true), ([73, 110, 118, 97, 108, 105, 100, 82, 111, 119], true), ([73, 110, 118, 97, 108, 105, 100, 77, 111, 118, 101, 115], true), ([73, 110, 118, 97, 108, 105, 100, 84, 101, 120, 116], true), ([73, 110, 118, 97, 108, 105, 100, 70, 111, 114, 109], true), ([73, 110, 118, 97, 108, 105, 100, 69, 110, 116, 114, 105, 101, 115], true), ([73, 110, 118, 97, 108, 105, 100, 67, 117, 116], true), ([73, 110, 118, 97, 108, 105, 100, 84, 97, 98, 108, 101, 115], true), ([73, 110, 118, 97, 108, 105, 100, 87, 111, 114, 100, 115], true), ([73, 110, 118, 97, 108, 105, 100, 73, 109, 97, 103, 101], true), ([73, 110, 118, 97, 108, 105, 100, 80, 108, 97, 110], true), ([85, 110, 115, 101, 116], true), ([73, 110, 118, 97, 108, 105, 100, 80, 108, 97, 99, 101, 109, 101, 110, 116], true), ([73, 110, 118, 97, 108, 105, 100, 83, 97, 118, 101, 115], true), ([73, 110, 118, 97, 108, 105, 100, 83, 108, 111, 116], true), ([73, 110, 118, 97, 108, 105, 100, 81, 117, 101, 115, 116, 105, 111, 110], true), ([73, 110, 118, 97, 108, 105, 100, 67, 108, 97, 105, 109], true), ([85, 110, 100, 101, 102, 105, 110, 101, 100], true), ([78, 111, 116, 104, 105, 110, 103, 84, 111, 85, 110, 100, 111], true)]
def is_TrimError : Tx → Option Bool := hitT it_TrimError
def it_Undefined : List (Tx × Bool) := [([73, 110, 118, 97, 108, 105, 100, 78, 117, 109, 98, 101, 114], false), ([73, 110, 118, 97, 108, 105, 100, 87, 111, 114, 100], false), ([73, 110, 118, 97, 108, 105, 100, 76, 105, 110, 101], false), ([73, 110, 118, 97, 108, 105, 100, 67, 111, 100, 101], false), ([69, 110, 100, 108, 101, 115, 115], false), ([84, 111, 111, 76, 111, 110, 103], false), ([84, 111, 111, 76, 97, 114, 103, 101], false), ([73, 110, 118, 97, 108, 105, 100, 82, 111, 119], false), ([73, 110, 118, 97, 108, 105, 100, 77, 111, 118, 101, 115], false), ([73, 110, 118, 97, 108, 105, 100, 84, 101, 120, 116], false), ([73, 110, 118, 97, 108, 105, 100, 70, 111, 114, 109], false), ([73, 110, 118, 97, 108, 105, 100, 69, 110, 116, 114, 105, 101, 115], false), ([73, 110, 118, 97, 108, 105, 100, 67, 117, 116], false), ([73, 110, 118, 97, 108, 105, 100, 84, 97, 98, 108, 101, 115], false), ([73, 110, 118, 97, 108, 105, 100, 87, 111, 114, 100, 115], false), ([73, 110, 118, 97, 108, 105, 100, 73, 109, 97, 103, 101], false), ([73, 110, 118, 97, 108, 105, 100, 80, 108, 97, 110], false), ([85, 110, 115, 101, 116], false), ([73, 110, 118, 97, 108, 105, 100, 80, 108, 97, 99, 101, 109, 101, 110, 116], false), ([73, 110, 118, 97, 108, 105, 100, 83, 97, 118, 101, 115], false), ([73, 110, 118, 97, 108, 105, 100, 83, 108, 111, 116], false), ([73, 110, 118, 97, 108, 105, 100, 81, 117, 101, 115, 116, 105, 111, 110], false), ([73, 110, 118, 97, 108, 105, 100, 67, 108, 97, 105, 109], false), ([85, 110, 100, 101, 102, 105, 110, 101, 100], true), ([78, 111, 116, 104, 105, 110, 103, 84, 111, 85, 110, 100, 111], false)]
def is_Undefined : Tx → Option Bool := hitT it_Undefined
def it_Unset : List (Tx × Bool) := [([73, 110, 118, 97, 108, 105, 100, 78, 117, 109, 98, 101, 114], false), ([73, 110, 118, 97, 108, 105, 100, 87, 111, 114, 100], false), ([73, 110, 118, 97, 108, 105, 100, 76, 105, 110, 101], false), ([73, 110, 118, 97, 108, 105, 100, 67, 111, 100, 101], false), ([69, 110, 100, 108, 101, 115, 115], false), ([84, 111, 111, 76, 111, 110, 103], false), ([84, 111, 111, 76, 97, 114, 103, 101], false), ([73, 110, 118, 97, 108, 105, 100, 82, 111, 119], false), ([73, 110, 118, 97, 108, 105, 100, 77, 111, 118, 101, 115], false), ([73, 110, 118, 97, 108, 105, 100, 84, 101, 120, 116], false), ([73, 110, 118, 97, 108, 105, 100, 70, 111, 114, 109], false), ([73, 110, 118, 97, 108, 105, 100, 69, 110, 116, 114, 105, 101, 115], false), ([73, 110, 118, 97, 108, 105, 100, 67, 117, 116], false), ([73, 110, 118, 97, 108, 105, 100, 84, 97, 98, 108, 101, 115], false), ([73, 110, 118, 97, 108, 105, 100, 87, 111, 114, 100, 115], false), ([73, 110, 118, 97, 108, 105, 100, 73, 109, 97, 103, 101], false), ([73, 110, 118, 97, 108, 105, 100, 80, 108, 97, 110], false), ([85, 110, 115, 101, 116], true), ([73, 110, 118, 97, 108, 105, 100, 80, 108, 97, 99, 101, 109, 101, 110, 116], false), ([73, 110, 118, 97, 108, 105, 100, 83, 97, 118, 101, 115], false), ([73, 110, 118, 97, 108, 105, 100, 83, 108, 111, 116], false), ([73, 110, 118, 97, 108, 105, 100, 81, 117, 101, 115, 116, 105, 111, 110], false), ([73, 110, 118, 97, 108, 105, 100, 67, 108, 97, 105, 109], false), ([85, 110, 100, 101, 102, 105, 110, 101, 100], false), ([78, 111, 116, 104, 105, 110, 103, 84, 111, 85, 110, 100, 111], false)]
def is_Unset : Tx → Option Bool := hitT it_Unset
def it_ValueError : List (Tx × Bool) := [([73, 110, 118, 97, 108, 105, 100, 78, 117, 109, 98, 101, 114], true), ([73, 110, 118, 97, 108, 105, 100, 87, 111, 114, 100], true), ([73, 110, 118, 97, 108, 105, 100, 76, 105, 110, 101], true), ([73, 110, 118, 97, 108, 105, 100, 67, 111, 100, 101], true), ([69, 110, 100, 108, 101, 115, 115], true), ([84, 111, 111, 76, 111, 110, 103], true), ([84, 111, 111, 76, 97, 114, 103, 101], true), ([73, 110, 118, 97, 108, 105, 100, 82, 111, 119], true), ([73, 110, 118, 97, 108, 105, 100, 77, 111, 118, 101, 115], true), ([73, 110, 118, 97, 108, 105, 100, 84, 101, 120, 116], true), ([73, 110, 118, 97, 108, 105, 100, 70, 111, 114, 109], true), ([73, 110, 118, 97, 108, 105, 100, 69, 110, 116, 114, 105, 101, 115], true), ([73, 110, 118, 97, 108, 105, 100, 67, 117, 116], true), ([73, 110, 118, 97, 108, 105, 100, 84, 97, 98, 108, 101, 115], true), ([73, 110, 118, 97, 108, 105, 100, 87, 111, 114, 100, 115], true), ([73, 110, 118, 97, 108, 105, 100, 73, 109, 97, 103, 101], true), ([73, 110, 118, 97, 108, 105, 100, 80, 108, 97, 110], true), ([85, 110, 115, 101, 116], true), ([73, 110, 118, 97, 108, 105, 100, 80, 108, 97, 99, 101, 109, 101, 110, 116], true), ([73, 110, 118, 97, 108, 105, 100, 83, 97, 118, 101, 115], true), ([73, 110, 118, 97, 108, 105, 100, 83, 108, 111, 116], true), ([73, 110, 118, 97, 108, 105, 100, 81, 117, 101, 115, 116, 105, 111, 110], true), ([73, 110, 118, 97, 108, 105, 100, 67, 108, 97, 105, 109], true), ([85, 110, 100, 101, 102, 105, 110, 101, 100], true), ([78, 111, 116, 104, 105, 110, 103, 84, 111, 85, 110, 100, 111], true)]
def is_ValueError : Tx → Option Bool := hitT it_ValueError
def ft_at : Tx → Option Nat := fdT [([73, 110, 118, 97, 108, 105, 100, 84, 101, 120, 116], 1), ([73, 110, 118, 97, 108, 105, 100, 73, 109, 97, 103, 101], 0)]
def ft_line : Tx → Option Nat := fdT [([73, 110, 118, 97, 108, 105, 100, 76, 105, 110, 101], 0)]
def ft_many : Tx → Option Nat := fdT [([84, 111, 111, 76, 97, 114, 103, 101], 0)]
def ft_place : Tx → Option Nat := fdT [([69, 110, 100, 108, 101, 115, 115], 0), ([84, 111, 111, 76, 111, 110, 103], 0), ([85, 110, 115, 101, 116], 0)]
def ft_slot : Tx → Option Nat := fdT [([85, 110, 115, 101, 116], 1)]
def ft_text : Tx → Option Nat := fdT [([73, 110, 118, 97, 108, 105, 100, 84, 101, 120, 116], 0)]
def ft_value : Tx → Option Nat := fdT [([73, 110, 118, 97, 108, 105, 100, 78, 117, 109, 98, 101, 114], 0), ([73, 110, 118, 97, 108, 105, 100, 87, 111, 114, 100], 0), ([73, 110, 118, 97, 108, 105, 100, 67, 111, 100, 101], 0), ([73, 110, 118, 97, 108, 105, 100, 82, 111, 119], 0), ([73, 110, 118, 97, 108, 105, 100, 77, 111, 118, 101, 115], 0), ([73, 110, 118, 97, 108, 105, 100, 70, 111, 114, 109], 0), ([73, 110, 118, 97, 108, 105, 100, 69, 110, 116, 114, 105, 101, 115], 0), ([73, 110, 118, 97, 108, 105, 100, 67, 117, 116], 0), ([73, 110, 118, 97, 108, 105, 100, 84, 97, 98, 108, 101, 115], 0), ([73, 110, 118, 97, 108, 105, 100, 87, 111, 114, 100, 115], 0), ([73, 110, 118, 97, 108, 105, 100, 80, 108, 97, 110], 0), ([73, 110, 118, 97, 108, 105, 100, 80, 108, 97, 99, 101, 109, 101, 110, 116], 0), ([73, 110, 118, 97, 108, 105, 100, 83, 97, 118, 101, 115], 0), ([73, 110, 118, 97, 108, 105, 100, 83, 108, 111, 116], 0), ([73, 110, 118, 97, 108, 105, 100, 81, 117, 101, 115, 116, 105, 111, 110], 0), ([73, 110, 118, 97, 108, 105, 100, 67, 108, 97, 105, 109], 0)]
def ft_what : Tx → Option Nat := fdT [([85, 110, 100, 101, 102, 105, 110, 101, 100], 0)]
def ft_word : Tx → Option Nat := fdT [([78, 111, 116, 104, 105, 110, 103, 84, 111, 85, 110, 100, 111], 0)]
/- _law_box -/
def m__law_box : MS := (sSeq (sSet 2 (mBin addD (mBin mulD (mC (.int 7919)) (mPeek 1)) (mC (.int 101)))) (sSeq (sIf (mTest (mBinL (cmpD fun i j => decide (i < j)) 1 (mUn lenD (mPeek 0)))) (sSet 2 (mUn absF (mBinL ixD 0 (mPeek 1)))) (sIf (mTest (mBin (cmpD fun i j => decide (j < i)) (mUn lenD (mPeek 0)) (mC (.int 0)))) (sSet 2 (mBin addD (mBin mulD (mBin modD (mUn intF (mUn absF (mBinL ixD 0 (mBin modD (mUn intF (mPeek 1)) (mUn lenD (mPeek 0)))))) (mC (.int 1000000007))) (mC (.int 31))) (mBin mulD (mC (.int 7919)) (mPeek 1)))) sNx)) (sSeq (sSet 3 (mBin ixD (mFE (mLst (mCons (mC (.int 0)) (mCons (mVar 2) mNil)))) (mUn intF (mBinL (cmpD fun i j => decide (j ≤ i)) 2 (mBin powD (mC (.int 10)) (mC (.int 18))))))) (sRetF (mLst (mCons (mVar 3) (mCons (mBin addD (mBin modD (mUn intF (mBin addD (mBin mulD (mBin modD (mUn intF (mPeek 2)) (mC (.int 1000000007))) (mC (.int 48271))) (mBin mulD (mC (.int 613)) (mPeek 1)))) (mC (.int 2147483647))) (mC (.int 1))) mNil)))))))
def r__law_box : Nat → Bool := fun i => false
def F__law_box : Fn := runF 2 4 r__law_box true m__law_box
/- _law_take -/
def m__law_take : MS := (sSeq (sIf (mTest (mBin (cmpD fun i j => decide (j < i)) (mBinL ixD 0 (mC (.int 0))) (mC (.int 0)))) (sSeq (sSet 2 (mBin modD (mUn intF (mBinL ixD 0 (mC (.int 0)))) (mPeek 1))) (sSeq (sIx 0 (mC (.int 0)) (mBin fdivD (mBinL ixD 0 (mC (.int 0))) (mPeek 1))) (sRetX 2))) sNx) (sSeq (sIx 0 (mC (.int 1)) (mBin modD (mUn intF (mBin addD (mBin mulD (mBinL ixD 0 (mC (.int 1))) (mC (.int 39373))) (mC (.int 69621)))) (mC (.int 2147483647)))) (sRet (mBin modD (mUn intF (mBin fdivD (mBinL ixD 0 (mC (.int 1))) (mC (.int 8191)))) (mPeek 1)))))
def r__law_take : Nat → Bool := fun i => i == 0
def F__law_take : Fn := runF 2 3 r__law_take false m__law_take
/- _law_kinds -/
def m__law_kinds : MS := (sSeq (sSetF 1 (mLst (mCons (mUn (isF is_InvalidNumber) (mPeek 0)) (mCons (mUn (isF is_InvalidWord) (mPeek 0)) (mCons (mUn (isF is_InvalidCode) (mPeek 0)) (mCons (mUn (isF is_InvalidRow) (mPeek 0)) mNil)))))) (sSeq (sSetF 1 (mBinFL catD 1 (mFE (mLst (mCons (mUn (isF is_InvalidMoves) (mPeek 0)) (mCons (mUn (isF is_InvalidForm) (mPeek 0)) (mCons (mUn (isF is_InvalidEntries) (mPeek 0)) (mCons (mUn (isF is_InvalidCut) (mPeek 0)) mNil)))))))) (sSeq (sSetF 1 (mBinFL catD 1 (mFE (mLst (mCons (mUn (isF is_InvalidTables) (mPeek 0)) (mCons (mUn (isF is_InvalidWords) (mPeek 0)) (mCons (mUn (isF is_InvalidPlan) (mPeek 0)) (mCons (mUn (isF is_InvalidPlacement) (mPeek 0)) mNil)))))))) (sSeq (sSetF 1 (mBinFL catD 1 (mFE (mLst (mCons (mUn (isF is_InvalidSaves) (mPeek 0)) (mCons (mUn (isF is_InvalidSlot) (mPeek 0)) (mCons (mUn (isF is_InvalidQuestion) (mPeek 0)) (mCons (mUn (isF is_InvalidClaim) (mPeek 0)) mNil)))))))) (sSeq (sSetF 1 (mBinFL catD 1 (mFE (mLst (mCons (mUn (isF is_InvalidLine) (mPeek 0)) (mCons (mUn (isF is_Endless) (mPeek 0)) (mCons (mUn (isF is_TooLong) (mPeek 0)) (mCons (mUn (isF is_TooLarge) (mPeek 0)) mNil)))))))) (sSeq (sSetF 1 (mBinFL catD 1 (mFE (mLst (mCons (mUn (isF is_InvalidText) (mPeek 0)) (mCons (mUn (isF is_InvalidImage) (mPeek 0)) (mCons (mUn (isF is_Unset) (mPeek 0)) (mCons (mUn (isF is_Undefined) (mPeek 0)) mNil)))))))) (sRetF (mBinFL catD 1 (mFE (mLst (mCons (mUn (isF is_NothingToUndo) (mPeek 0)) (mCons (mUn (isF is_TrimError) (mPeek 0)) (mCons (mUn (isF is_ValueError) (mPeek 0)) mNil)))))))))))))
def r__law_kinds : Nat → Bool := fun i => false
def F__law_kinds : Fn := runF 1 2 r__law_kinds true m__law_kinds
/- _law_pick -/
def m__law_pick : MS := (sRet (mBinL ixD 1 (mCall F__law_take [.r 0, .e (mUn lenD (mPeek 1))])))
def r__law_pick : Nat → Bool := fun i => i == 0
def F__law_pick : Fn := runF 2 2 r__law_pick false m__law_pick
/- _law_ones -/
def m__law_ones : MS := (sSeq (sSetF 1 (mLst (mCons (mMk [73, 110, 118, 97, 108, 105, 100, 78, 117, 109, 98, 101, 114] 1 (mCons (mVar 0) mNil)) (mCons (mMk [73, 110, 118, 97, 108, 105, 100, 87, 111, 114, 100] 1 (mCons (mVar 0) mNil)) (mCons (mMk [73, 110, 118, 97, 108, 105, 100, 67, 111, 100, 101] 1 (mCons (mVar 0) mNil)) (mCons (mMk [73, 110, 118, 97, 108, 105, 100, 82, 111, 119] 1 (mCons (mVar 0) mNil)) (mCons (mMk [73, 110, 118, 97, 108, 105, 100, 77, 111, 118, 101, 115] 1 (mCons (mVar 0) mNil)) (mCons (mMk [73, 110, 118, 97, 108, 105, 100, 70, 111, 114, 109] 1 (mCons (mVar 0) mNil)) mNil)))))))) (sSeq (sSetF 1 (mBinFL catD 1 (mFE (mLst (mCons (mMk [73, 110, 118, 97, 108, 105, 100, 69, 110, 116, 114, 105, 101, 115] 1 (mCons (mVar 0) mNil)) (mCons (mMk [73, 110, 118, 97, 108, 105, 100, 67, 117, 116] 1 (mCons (mVar 0) mNil)) (mCons (mMk [73, 110, 118, 97, 108, 105, 100, 84, 97, 98, 108, 101, 115] 1 (mCons (mVar 0) mNil)) (mCons (mMk [73, 110, 118, 97, 108, 105, 100, 87, 111, 114, 100, 115] 1 (mCons (mVar 0) mNil)) (mCons (mMk [73, 110, 118, 97, 108, 105, 100, 80, 108, 97, 110] 1 (mCons (mVar 0) mNil)) mNil))))))))) (sRetF (mBinFL catD 1 (mFE (mLst (mCons (mMk [73, 110, 118, 97, 108, 105, 100, 80, 108, 97, 99, 101, 109, 101, 110, 116] 1 (mCons (mVar 0) mNil)) (mCons (mMk [73, 110, 118, 97, 108, 105, 100, 83, 97, 118, 101, 115] 1 (mCons (mVar 0) mNil)) (mCons (mMk [73, 110, 118, 97, 108, 105, 100, 83, 108, 111, 116] 1 (mCons (mVar 0) mNil)) (mCons (mMk [73, 110, 118, 97, 108, 105, 100, 81, 117, 101, 115, 116, 105, 111, 110] 1 (mCons (mVar 0) mNil)) (mCons (mMk [73, 110, 118, 97, 108, 105, 100, 67, 108, 97, 105, 109] 1 (mCons (mVar 0) mNil)) mNil)))))))))))
def r__law_ones : Nat → Bool := fun i => false
def F__law_ones : Fn := runF 1 2 r__law_ones true m__law_ones
/- _law_others -/
def m__law_others : MS := (sSeq (sAsg (.tp [2, 3, 4, 5]) (mTup (mCons (mMk [73, 110, 118, 97, 108, 105, 100, 76, 105, 110, 101] 1 (mCons (mVar 0) mNil)) (mCons (mMk [69, 110, 100, 108, 101, 115, 115] 1 (mCons (mVar 0) mNil)) (mCons (mMk [84, 111, 111, 76, 111, 110, 103] 1 (mCons (mVar 0) mNil)) (mCons (mMk [84, 111, 111, 76, 97, 114, 103, 101] 1 (mCons (mVar 0) mNil)) mNil)))))) (sSeq (sAsg (.tp [6, 7, 8, 9, 10]) (mTup (mCons (mMk [73, 110, 118, 97, 108, 105, 100, 84, 101, 120, 116] 2 (mCons (mVar 0) (mCons (mVar 1) mNil))) (mCons (mMk [73, 110, 118, 97, 108, 105, 100, 73, 109, 97, 103, 101] 1 (mCons (mVar 0) mNil)) (mCons (mMk [85, 110, 115, 101, 116] 2 (mCons (mVar 0) (mCons (mVar 1) mNil))) (mCons (mMk [85, 110, 100, 101, 102, 105, 110, 101, 100] 1 (mCons (mVar 0) mNil)) (mCons (mMk [78, 111, 116, 104, 105, 110, 103, 84, 111, 85, 110, 100, 111] 1 (mCons (mVar 0) mNil)) mNil))))))) (sSeq (sSetF 11 (mLst (mCons (mTup (mCons (mVar 2) (mCons (mFE (mLst (mCons (mTup (mCons (mUn (fldF ft_line) (mPeek 2)) (mCons (mVar 0) mNil))) mNil))) mNil))) (mCons (mTup (mCons (mVar 3) (mCons (mFE (mLst (mCons (mTup (mCons (mUn (fldF ft_place) (mPeek 3)) (mCons (mVar 0) mNil))) mNil))) mNil))) (mCons (mTup (mCons (mVar 4) (mCons (mFE (mLst (mCons (mTup (mCons (mUn (fldF ft_place) (mPeek 4)) (mCons (mVar 0) mNil))) mNil))) mNil))) (mCons (mTup (mCons (mVar 5) (mCons (mFE (mLst (mCons (mTup (mCons (mUn (fldF ft_many) (mPeek 5)) (mCons (mVar 0) mNil))) mNil))) mNil))) (mCons (mTup (mCons (mVar 6) (mCons (mFE (mLst (mCons (mTup (mCons (mUn (fldF ft_text) (mPeek 6)) (mCons (mVar 0) mNil))) (mCons (mTup (mCons (mUn (fldF ft_at) (mPeek 6)) (mCons (mVar 1) mNil))) mNil)))) mNil))) mNil))))))) (sRetF (mBinFL catD 11 (mFE (mLst (mCons (mTup (mCons (mVar 7) (mCons (mFE (mLst (mCons (mTup (mCons (mUn (fldF ft_at) (mPeek 7)) (mCons (mVar 0) mNil))) mNil))) mNil))) (mCons (mTup (mCons (mVar 8) (mCons (mFE (mLst (mCons (mTup (mCons (mUn (fldF ft_place) (mPeek 8)) (mCons (mVar 0) mNil))) (mCons (mTup (mCons (mUn (fldF ft_slot) (mPeek 8)) (mCons (mVar 1) mNil))) mNil)))) mNil))) (mCons (mTup (mCons (mVar 9) (mCons (mFE (mLst (mCons (mTup (mCons (mUn (fldF ft_what) (mPeek 9)) (mCons (mVar 0) mNil))) mNil))) mNil))) (mCons (mTup (mCons (mVar 10) (mCons (mFE (mLst (mCons (mTup (mCons (mUn (fldF ft_word) (mPeek 10)) (mCons (mVar 0) mNil))) mNil))) mNil))) mNil)))))))))))
def r__law_others : Nat → Bool := fun i => false
def F__law_others : Fn := runF 2 12 r__law_others true m__law_others
/- law -/
def m_law : MS := (sSeq (sSetF 1 (mCallF F__law_box [.e (mVar 0), .e (mC (.int 0))])) (sSeq (sSetF 2 (mLst (mCons (mBin subD (mCall F__law_take [.r 1, .e (mBin powD (mC (.int 10)) (mC (.int 6)))]) (mC (.int 500000))) (mCons (mBin addD (mC (.str [116, 101, 120, 116, 32])) (mUn strF (mCall F__law_take [.r 1, .e (mC (.int 99))]))) (mCons (mTup (mCons (mC (.int 1)) (mCons (mCall F__law_take [.r 1, .e (mC (.int 9))]) mNil))) mNil))))) (sSeq (sSetF 2 (mBinFL catD 2 (mFE (mLst (mCons (mFE (mLst (mCons (mCall F__law_take [.r 1, .e (mC (.int 9))]) mNil))) (mCons (mC .non) (mCons (mC (.bl true)) (mCons (mTup mNil) mNil)))))))) (sSeq (sSet 3 (mCall F__law_pick [.r 1, .e (mVar 2)])) (sSeq (sSet 4 (mCall F__law_pick [.r 1, .e (mVar 2)])) (sSeq (sSetF 5 (mCallF F__law_ones [.e (mVar 3)])) (sSeq (sForO 5 (.nm 6) (sIf (mTest (mBin neD (mUn (fldF ft_value) (mPeek 6)) (mPeek 3))) (sRet (mC (.bl false))) sNx)) (sSeq (sFor (mIter (mFE (mCallF F__law_others [.e (mVar 3), .e (mVar 4)]))) (.nm 7) (sSeq (sDrop (mOwn1 5 appF (mBinL ixD 7 (mC (.int 0))))) (sFor (mIter (mBinL ixD 7 (mC (.int 1)))) (.nm 8) (sIf (mTest (mBin neD (mBinL ixD 8 (mC (.int 0))) (mBinL ixD 8 (mC (.int 1))))) (sRet (mC (.bl false))) sNx)))) (sSeq (sFor (mArgs rngD1 (mCons (mUn lenD (mPeek 5)) mNil)) (.nm 9) (sIf (mTest (mBin neD (mFE (mCallF F__law_kinds [.e (mBinL ixD 5 (mPeek 9))])) (mFE (mLc [10] (mArgs rngD1 (mCons (mBin addD (mUn lenD (mPeek 5)) (mC (.int 2))) mNil)) (.nm 10) mYes (mOr (mBinL eqD 10 (mPeek 9)) (mBinL (cmpD fun i j => decide (j ≤ i)) 10 (mUn lenD (mPeek 5)))))))) (sRet (mC (.bl false))) sNx)) (sRet (mC (.bl true))))))))))))
def r_law : Nat → Bool := fun i => false
def F_law : Fn := runF 1 11 r_law false m_law
end LW

namespace LW
open MP L2 PyProof.Rows PySem PySem.Spec
def top (i : Nat) : Stmt := PySem.Challenge.pw_calltrim_k01_errors.main.body.getD i (.Pass ⟨0, 0, 0, 0⟩)
def cb : Stmt → List Stmt
  | .ClassDef (body := b) .. => b
  | _ => []
abbrev FnP (K : PySem.W.Frag) (x : Str) (st : Stmt) (f : Addr) (fd : FuncData) : Prop := FunD K x x (defArgs st) (defBody st) (defScope st) [] [] f fd
def tab : List (Tx × List Tx) := [([73, 110, 118, 97, 108, 105, 100, 78, 117, 109, 98, 101, 114], [[118, 97, 108, 117, 101]]), ([73, 110, 118, 97, 108, 105, 100, 87, 111, 114, 100], [[118, 97, 108, 117, 101]]), ([73, 110, 118, 97, 108, 105, 100, 76, 105, 110, 101], [[108, 105, 110, 101]]), ([73, 110, 118, 97, 108, 105, 100, 67, 111, 100, 101], [[118, 97, 108, 117, 101]]), ([69, 110, 100, 108, 101, 115, 115], [[112, 108, 97, 99, 101]]), ([84, 111, 111, 76, 111, 110, 103], [[112, 108, 97, 99, 101]]), ([84, 111, 111, 76, 97, 114, 103, 101], [[109, 97, 110, 121]]), ([73, 110, 118, 97, 108, 105, 100, 82, 111, 119], [[118, 97, 108, 117, 101]]), ([73, 110, 118, 97, 108, 105, 100, 77, 111, 118, 101, 115], [[118, 97, 108, 117, 101]]), ([73, 110, 118, 97, 108, 105, 100, 84, 101, 120, 116], [[116, 101, 120, 116], [97, 116]]), ([73, 110, 118, 97, 108, 105, 100, 70, 111, 114, 109], [[118, 97, 108, 117, 101]]), ([73, 110, 118, 97, 108, 105, 100, 69, 110, 116, 114, 105, 101, 115], [[118, 97, 108, 117, 101]]), ([73, 110, 118, 97, 108, 105, 100, 67, 117, 116], [[118, 97, 108, 117, 101]]), ([73, 110, 118, 97, 108, 105, 100, 84, 97, 98, 108, 101, 115], [[118, 97, 108, 117, 101]]), ([73, 110, 118, 97, 108, 105, 100, 87, 111, 114, 100, 115], [[118, 97, 108, 117, 101]]), ([73, 110, 118, 97, 108, 105, 100, 73, 109, 97, 103, 101], [[97, 116]]), ([73, 110, 118, 97, 108, 105, 100, 80, 108, 97, 110], [[118, 97, 108, 117, 101]]), ([85, 110, 115, 101, 116], [[112, 108, 97, 99, 101], [115, 108, 111, 116]]), ([73, 110, 118, 97, 108, 105, 100, 80, 108, 97, 99, 101, 109, 101, 110, 116], [[118, 97, 108, 117, 101]]), ([73, 110, 118, 97, 108, 105, 100, 83, 97, 118, 101, 115], [[118, 97, 108, 117, 101]]), ([73, 110, 118, 97, 108, 105, 100, 83, 108, 111, 116], [[118, 97, 108, 117, 101]]), ([73, 110, 118, 97, 108, 105, 100, 81, 117, 101, 115, 116, 105, 111, 110], [[118, 97, 108, 117, 101]]), ([73, 110, 118, 97, 108, 105, 100, 67, 108, 97, 105, 109], [[118, 97, 108, 117, 101]]), ([85, 110, 100, 101, 102, 105, 110, 101, 100], [[119, 104, 97, 116]]), ([78, 111, 116, 104, 105, 110, 103, 84, 111, 85, 110, 100, 111], [[119, 111, 114, 100]])]
abbrev gg (K : PySem.W.Frag) : G := gOf tab K
structure Bt (mg : Str → Option Value) (K : PySem.W.Frag) : Prop where
  ValueError_ : mg "ValueError" = none
  abs_ : mg "abs" = none
  int_ : mg "int" = none
  isinstance_ : mg "isinstance" = none
  len_ : mg "len" = none
  range_ : mg "range" = none
  str_ : mg "str" = none
structure Hit (K : PySem.W.Frag) : Prop where
  x : True
structure Ik (mg : Str → Option Value) (K : PySem.W.Frag) : Prop where
  Endless : IkOk K is_Endless (.ref (caK K [69, 110, 100, 108, 101, 115, 115]))
  m_Endless : mg "Endless" = some (.ref (caK K [69, 110, 100, 108, 101, 115, 115]))
  InvalidClaim : IkOk K is_InvalidClaim (.ref (caK K [73, 110, 118, 97, 108, 105, 100, 67, 108, 97, 105, 109]))
  m_InvalidClaim : mg "InvalidClaim" = some (.ref (caK K [73, 110, 118, 97, 108, 105, 100, 67, 108, 97, 105, 109]))
  InvalidCode : IkOk K is_InvalidCode (.ref (caK K [73, 110, 118, 97, 108, 105, 100, 67, 111, 100, 101]))
  m_InvalidCode : mg "InvalidCode" = some (.ref (caK K [73, 110, 118, 97, 108, 105, 100, 67, 111, 100, 101]))
  InvalidCut : IkOk K is_InvalidCut (.ref (caK K [73, 110, 118, 97, 108, 105, 100, 67, 117, 116]))
  m_InvalidCut : mg "InvalidCut" = some (.ref (caK K [73, 110, 118, 97, 108, 105, 100, 67, 117, 116]))
  InvalidEntries : IkOk K is_InvalidEntries (.ref (caK K [73, 110, 118, 97, 108, 105, 100, 69, 110, 116, 114, 105, 101, 115]))
  m_InvalidEntries : mg "InvalidEntries" = some (.ref (caK K [73, 110, 118, 97, 108, 105, 100, 69, 110, 116, 114, 105, 101, 115]))
  InvalidForm : IkOk K is_InvalidForm (.ref (caK K [73, 110, 118, 97, 108, 105, 100, 70, 111, 114, 109]))
  m_InvalidForm : mg "InvalidForm" = some (.ref (caK K [73, 110, 118, 97, 108, 105, 100, 70, 111, 114, 109]))
  InvalidImage : IkOk K is_InvalidImage (.ref (caK K [73, 110, 118, 97, 108, 105, 100, 73, 109, 97, 103, 101]))
  m_InvalidImage : mg "InvalidImage" = some (.ref (caK K [73, 110, 118, 97, 108, 105, 100, 73, 109, 97, 103, 101]))
  InvalidLine : IkOk K is_InvalidLine (.ref (caK K [73, 110, 118, 97, 108, 105, 100, 76, 105, 110, 101]))
  m_InvalidLine : mg "InvalidLine" = some (.ref (caK K [73, 110, 118, 97, 108, 105, 100, 76, 105, 110, 101]))
  InvalidMoves : IkOk K is_InvalidMoves (.ref (caK K [73, 110, 118, 97, 108, 105, 100, 77, 111, 118, 101, 115]))
  m_InvalidMoves : mg "InvalidMoves" = some (.ref (caK K [73, 110, 118, 97, 108, 105, 100, 77, 111, 118, 101, 115]))
  InvalidNumber : IkOk K is_InvalidNumber (.ref (caK K [73, 110, 118, 97, 108, 105, 100, 78, 117, 109, 98, 101, 114]))
  m_InvalidNumber : mg "InvalidNumber" = some (.ref (caK K [73, 110, 118, 97, 108, 105, 100, 78, 117, 109, 98, 101, 114]))
  InvalidPlacement : IkOk K is_InvalidPlacement (.ref (caK K [73, 110, 118, 97, 108, 105, 100, 80, 108, 97, 99, 101, 109, 101, 110, 116]))
  m_InvalidPlacement : mg "InvalidPlacement" = some (.ref (caK K [73, 110, 118, 97, 108, 105, 100, 80, 108, 97, 99, 101, 109, 101, 110, 116]))
  InvalidPlan : IkOk K is_InvalidPlan (.ref (caK K [73, 110, 118, 97, 108, 105, 100, 80, 108, 97, 110]))
  m_InvalidPlan : mg "InvalidPlan" = some (.ref (caK K [73, 110, 118, 97, 108, 105, 100, 80, 108, 97, 110]))
  InvalidQuestion : IkOk K is_InvalidQuestion (.ref (caK K [73, 110, 118, 97, 108, 105, 100, 81, 117, 101, 115, 116, 105, 111, 110]))
  m_InvalidQuestion : mg "InvalidQuestion" = some (.ref (caK K [73, 110, 118, 97, 108, 105, 100, 81, 117, 101, 115, 116, 105, 111, 110]))
  InvalidRow : IkOk K is_InvalidRow (.ref (caK K [73, 110, 118, 97, 108, 105, 100, 82, 111, 119]))
  m_InvalidRow : mg "InvalidRow" = some (.ref (caK K [73, 110, 118, 97, 108, 105, 100, 82, 111, 119]))
  InvalidSaves : IkOk K is_InvalidSaves (.ref (caK K [73, 110, 118, 97, 108, 105, 100, 83, 97, 118, 101, 115]))
  m_InvalidSaves : mg "InvalidSaves" = some (.ref (caK K [73, 110, 118, 97, 108, 105, 100, 83, 97, 118, 101, 115]))
  InvalidSlot : IkOk K is_InvalidSlot (.ref (caK K [73, 110, 118, 97, 108, 105, 100, 83, 108, 111, 116]))
  m_InvalidSlot : mg "InvalidSlot" = some (.ref (caK K [73, 110, 118, 97, 108, 105, 100, 83, 108, 111, 116]))
  InvalidTables : IkOk K is_InvalidTables (.ref (caK K [73, 110, 118, 97, 108, 105, 100, 84, 97, 98, 108, 101, 115]))
  m_InvalidTables : mg "InvalidTables" = some (.ref (caK K [73, 110, 118, 97, 108, 105, 100, 84, 97, 98, 108, 101, 115]))
  InvalidText : IkOk K is_InvalidText (.ref (caK K [73, 110, 118, 97, 108, 105, 100, 84, 101, 120, 116]))
  m_InvalidText : mg "InvalidText" = some (.ref (caK K [73, 110, 118, 97, 108, 105, 100, 84, 101, 120, 116]))
  InvalidWord : IkOk K is_InvalidWord (.ref (caK K [73, 110, 118, 97, 108, 105, 100, 87, 111, 114, 100]))
  m_InvalidWord : mg "InvalidWord" = some (.ref (caK K [73, 110, 118, 97, 108, 105, 100, 87, 111, 114, 100]))
  InvalidWords : IkOk K is_InvalidWords (.ref (caK K [73, 110, 118, 97, 108, 105, 100, 87, 111, 114, 100, 115]))
  m_InvalidWords : mg "InvalidWords" = some (.ref (caK K [73, 110, 118, 97, 108, 105, 100, 87, 111, 114, 100, 115]))
  NothingToUndo : IkOk K is_NothingToUndo (.ref (caK K [78, 111, 116, 104, 105, 110, 103, 84, 111, 85, 110, 100, 111]))
  m_NothingToUndo : mg "NothingToUndo" = some (.ref (caK K [78, 111, 116, 104, 105, 110, 103, 84, 111, 85, 110, 100, 111]))
  TooLarge : IkOk K is_TooLarge (.ref (caK K [84, 111, 111, 76, 97, 114, 103, 101]))
  m_TooLarge : mg "TooLarge" = some (.ref (caK K [84, 111, 111, 76, 97, 114, 103, 101]))
  TooLong : IkOk K is_TooLong (.ref (caK K [84, 111, 111, 76, 111, 110, 103]))
  m_TooLong : mg "TooLong" = some (.ref (caK K [84, 111, 111, 76, 111, 110, 103]))
  TrimError : IkOk K is_TrimError (.ref (caK K [84, 114, 105, 109, 69, 114, 114, 111, 114]))
  m_TrimError : mg "TrimError" = some (.ref (caK K [84, 114, 105, 109, 69, 114, 114, 111, 114]))
  Undefined : IkOk K is_Undefined (.ref (caK K [85, 110, 100, 101, 102, 105, 110, 101, 100]))
  m_Undefined : mg "Undefined" = some (.ref (caK K [85, 110, 100, 101, 102, 105, 110, 101, 100]))
  Unset : IkOk K is_Unset (.ref (caK K [85, 110, 115, 101, 116]))
  m_Unset : mg "Unset" = some (.ref (caK K [85, 110, 115, 101, 116]))
  ValueError : IkOk K is_ValueError (.type "ValueError")
structure Fdk (K : PySem.W.Frag) : Prop where
  f_at : FdOk (gg K) "at" ft_at
  f_line : FdOk (gg K) "line" ft_line
  f_many : FdOk (gg K) "many" ft_many
  f_place : FdOk (gg K) "place" ft_place
  f_slot : FdOk (gg K) "slot" ft_slot
  f_text : FdOk (gg K) "text" ft_text
  f_value : FdOk (gg K) "value" ft_value
  f_what : FdOk (gg K) "what" ft_what
  f_word : FdOk (gg K) "word" ft_word
section
variable {P : Program} {w : World} {K : PySem.W.Frag} {mg : Str → Option Value} {base : Heap} {f : Addr} {fd : FuncData}
abbrev s_InvalidNumber : Stmt := (cb (top 2)).getD 0 (.Pass ⟨0, 0, 0, 0⟩)
theorem sc_InvalidNumber : FnScope ["self", "value"] ["self", "value"] (defScope s_InvalidNumber) := ⟨rfl, rfl, rfl, by decide +kernel, rfl, by decide +kernel, by decide +kernel⟩
theorem e_InvalidNumber_ok (F : FunD K "__init__" "InvalidNumber.__init__" (defArgs s_InvalidNumber) (defBody s_InvalidNumber) (defScope s_InvalidNumber) [] [] f fd) (hm : mg "InvalidNumber" = some (.ref (caK K [73, 110, 118, 97, 108, 105, 100, 78, 117, 109, 98, 101, 114]))) (T : OexC K (caK K [73, 110, 118, 97, 108, 105, 100, 78, 117, 109, 98, 101, 114])) (hi : PySem.W.findIn K (.ref (caK K [73, 110, 118, 97, 108, 105, 100, 78, 117, 109, 98, 101, 114])) "__init__" = some (some (.ref f))) (ht : PySem.W.typeIn K (.ref f) = some (.type "function")) (hno : ∀ y ∈ (["value"] : List Str), PySem.W.findIn K (.ref (caK K [73, 110, 118, 97, 108, 105, 100, 78, 117, 109, 98, 101, 114])) y = some none) :
    Exk P w K mg base (gg K) "InvalidNumber" [73, 110, 118, 97, 108, 105, 100, 78, 117, 109, 98, 101, 114] 2 :=
  ⟨hm, T, f, fd, ["self", "value"], hi, ht, FunD.bindsN F (fun _ _ _ _ _ _ us hl => match us, hl with | [_, _], _ => rfl), ini_ok (k := 1) (names := [[118, 97, 108, 117, 101]]) (g := "value") (gs := []) F sc_InvalidNumber rfl (by decide +kernel) (by decide +kernel) (by decide) hno fun cdv A outer s H E => (pss_cons (ps_ost (pv 0) (pv 1)) pss_nil)⟩
abbrev s_InvalidWord : Stmt := (cb (top 3)).getD 0 (.Pass ⟨0, 0, 0, 0⟩)
theorem sc_InvalidWord : FnScope ["self", "value"] ["self", "value"] (defScope s_InvalidWord) := ⟨rfl, rfl, rfl, by decide +kernel, rfl, by decide +kernel, by decide +kernel⟩
theorem e_InvalidWord_ok (F : FunD K "__init__" "InvalidWord.__init__" (defArgs s_InvalidWord) (defBody s_InvalidWord) (defScope s_InvalidWord) [] [] f fd) (hm : mg "InvalidWord" = some (.ref (caK K [73, 110, 118, 97, 108, 105, 100, 87, 111, 114, 100]))) (T : OexC K (caK K [73, 110, 118, 97, 108, 105, 100, 87, 111, 114, 100])) (hi : PySem.W.findIn K (.ref (caK K [73, 110, 118, 97, 108, 105, 100, 87, 111, 114, 100])) "__init__" = some (some (.ref f))) (ht : PySem.W.typeIn K (.ref f) = some (.type "function")) (hno : ∀ y ∈ (["value"] : List Str), PySem.W.findIn K (.ref (caK K [73, 110, 118, 97, 108, 105, 100, 87, 111, 114, 100])) y = some none) :
    Exk P w K mg base (gg K) "InvalidWord" [73, 110, 118, 97, 108, 105, 100, 87, 111, 114, 100] 2 :=
  ⟨hm, T, f, fd, ["self", "value"], hi, ht, FunD.bindsN F (fun _ _ _ _ _ _ us hl => match us, hl with | [_, _], _ => rfl), ini_ok (k := 1) (names := [[118, 97, 108, 117, 101]]) (g := "value") (gs := []) F sc_InvalidWord rfl (by decide +kernel) (by decide +kernel) (by decide) hno fun cdv A outer s H E => (pss_cons (ps_ost (pv 0) (pv 1)) pss_nil)⟩
abbrev s_InvalidLine : Stmt := (cb (top 4)).getD 0 (.Pass ⟨0, 0, 0, 0⟩)
theorem sc_InvalidLine : FnScope ["self", "line"] ["self", "line"] (defScope s_InvalidLine) := ⟨rfl, rfl, rfl, by decide +kernel, rfl, by decide +kernel, by decide +kernel⟩
theorem e_InvalidLine_ok (F : FunD K "__init__" "InvalidLine.__init__" (defArgs s_InvalidLine) (defBody s_InvalidLine) (defScope s_InvalidLine) [] [] f fd) (hm : mg "InvalidLine" = some (.ref (caK K [73, 110, 118, 97, 108, 105, 100, 76, 105, 110, 101]))) (T : OexC K (caK K [73, 110, 118, 97, 108, 105, 100, 76, 105, 110, 101])) (hi : PySem.W.findIn K (.ref (caK K [73, 110, 118, 97, 108, 105, 100, 76, 105, 110, 101])) "__init__" = some (some (.ref f))) (ht : PySem.W.typeIn K (.ref f) = some (.type "function")) (hno : ∀ y ∈ (["line"] : List Str), PySem.W.findIn K (.ref (caK K [73, 110, 118, 97, 108, 105, 100, 76, 105, 110, 101])) y = some none) :
    Exk P w K mg base (gg K) "InvalidLine" [73, 110, 118, 97, 108, 105, 100, 76, 105, 110, 101] 2 :=
  ⟨hm, T, f, fd, ["self", "line"], hi, ht, FunD.bindsN F (fun _ _ _ _ _ _ us hl => match us, hl with | [_, _], _ => rfl), ini_ok (k := 1) (names := [[108, 105, 110, 101]]) (g := "line") (gs := []) F sc_InvalidLine rfl (by decide +kernel) (by decide +kernel) (by decide) hno fun cdv A outer s H E => (pss_cons (ps_ost (pv 0) (pv 1)) pss_nil)⟩
abbrev s_InvalidCode : Stmt := (cb (top 5)).getD 0 (.Pass ⟨0, 0, 0, 0⟩)
theorem sc_InvalidCode : FnScope ["self", "value"] ["self", "value"] (defScope s_InvalidCode) := ⟨rfl, rfl, rfl, by decide +kernel, rfl, by decide +kernel, by decide +kernel⟩
theorem e_InvalidCode_ok (F : FunD K "__init__" "InvalidCode.__init__" (defArgs s_InvalidCode) (defBody s_InvalidCode) (defScope s_InvalidCode) [] [] f fd) (hm : mg "InvalidCode" = some (.ref (caK K [73, 110, 118, 97, 108, 105, 100, 67, 111, 100, 101]))) (T : OexC K (caK K [73, 110, 118, 97, 108, 105, 100, 67, 111, 100, 101])) (hi : PySem.W.findIn K (.ref (caK K [73, 110, 118, 97, 108, 105, 100, 67, 111, 100, 101])) "__init__" = some (some (.ref f))) (ht : PySem.W.typeIn K (.ref f) = some (.type "function")) (hno : ∀ y ∈ (["value"] : List Str), PySem.W.findIn K (.ref (caK K [73, 110, 118, 97, 108, 105, 100, 67, 111, 100, 101])) y = some none) :
    Exk P w K mg base (gg K) "InvalidCode" [73, 110, 118, 97, 108, 105, 100, 67, 111, 100, 101] 2 :=
  ⟨hm, T, f, fd, ["self", "value"], hi, ht, FunD.bindsN F (fun _ _ _ _ _ _ us hl => match us, hl with | [_, _], _ => rfl), ini_ok (k := 1) (names := [[118, 97, 108, 117, 101]]) (g := "value") (gs := []) F sc_InvalidCode rfl (by decide +kernel) (by decide +kernel) (by decide) hno fun cdv A outer s H E => (pss_cons (ps_ost (pv 0) (pv 1)) pss_nil)⟩
abbrev s_Endless : Stmt := (cb (top 6)).getD 0 (.Pass ⟨0, 0, 0, 0⟩)
theorem sc_Endless : FnScope ["self", "place"] ["self", "place"] (defScope s_Endless) := ⟨rfl, rfl, rfl, by decide +kernel, rfl, by decide +kernel, by decide +kernel⟩
theorem e_Endless_ok (F : FunD K "__init__" "Endless.__init__" (defArgs s_Endless) (defBody s_Endless) (defScope s_Endless) [] [] f fd) (hm : mg "Endless" = some (.ref (caK K [69, 110, 100, 108, 101, 115, 115]))) (T : OexC K (caK K [69, 110, 100, 108, 101, 115, 115])) (hi : PySem.W.findIn K (.ref (caK K [69, 110, 100, 108, 101, 115, 115])) "__init__" = some (some (.ref f))) (ht : PySem.W.typeIn K (.ref f) = some (.type "function")) (hno : ∀ y ∈ (["place"] : List Str), PySem.W.findIn K (.ref (caK K [69, 110, 100, 108, 101, 115, 115])) y = some none) :
    Exk P w K mg base (gg K) "Endless" [69, 110, 100, 108, 101, 115, 115] 2 :=
  ⟨hm, T, f, fd, ["self", "place"], hi, ht, FunD.bindsN F (fun _ _ _ _ _ _ us hl => match us, hl with | [_, _], _ => rfl), ini_ok (k := 1) (names := [[112, 108, 97, 99, 101]]) (g := "place") (gs := []) F sc_Endless rfl (by decide +kernel) (by decide +kernel) (by decide) hno fun cdv A outer s H E => (pss_cons (ps_ost (pv 0) (pv 1)) pss_nil)⟩
abbrev s_TooLong : Stmt := (cb (top 7)).getD 0 (.Pass ⟨0, 0, 0, 0⟩)
theorem sc_TooLong : FnScope ["self", "place"] ["self", "place"] (defScope s_TooLong) := ⟨rfl, rfl, rfl, by decide +kernel, rfl, by decide +kernel, by decide +kernel⟩
theorem e_TooLong_ok (F : FunD K "__init__" "TooLong.__init__" (defArgs s_TooLong) (defBody s_TooLong) (defScope s_TooLong) [] [] f fd) (hm : mg "TooLong" = some (.ref (caK K [84, 111, 111, 76, 111, 110, 103]))) (T : OexC K (caK K [84, 111, 111, 76, 111, 110, 103])) (hi : PySem.W.findIn K (.ref (caK K [84, 111, 111, 76, 111, 110, 103])) "__init__" = some (some (.ref f))) (ht : PySem.W.typeIn K (.ref f) = some (.type "function")) (hno : ∀ y ∈ (["place"] : List Str), PySem.W.findIn K (.ref (caK K [84, 111, 111, 76, 111, 110, 103])) y = some none) :
    Exk P w K mg base (gg K) "TooLong" [84, 111, 111, 76, 111, 110, 103] 2 :=
  ⟨hm, T, f, fd, ["self", "place"], hi, ht, FunD.bindsN F (fun _ _ _ _ _ _ us hl => match us, hl with | [_, _], _ => rfl), ini_ok (k := 1) (names := [[112, 108, 97, 99, 101]]) (g := "place") (gs := []) F sc_TooLong rfl (by decide +kernel) (by decide +kernel) (by decide) hno fun cdv A outer s H E => (pss_cons (ps_ost (pv 0) (pv 1)) pss_nil)⟩
abbrev s_TooLarge : Stmt := (cb (top 8)).getD 0 (.Pass ⟨0, 0, 0, 0⟩)
theorem sc_TooLarge : FnScope ["self", "many"] ["self", "many"] (defScope s_TooLarge) := ⟨rfl, rfl, rfl, by decide +kernel, rfl, by decide +kernel, by decide +kernel⟩
theorem e_TooLarge_ok (F : FunD K "__init__" "TooLarge.__init__" (defArgs s_TooLarge) (defBody s_TooLarge) (defScope s_TooLarge) [] [] f fd) (hm : mg "TooLarge" = some (.ref (caK K [84, 111, 111, 76, 97, 114, 103, 101]))) (T : OexC K (caK K [84, 111, 111, 76, 97, 114, 103, 101])) (hi : PySem.W.findIn K (.ref (caK K [84, 111, 111, 76, 97, 114, 103, 101])) "__init__" = some (some (.ref f))) (ht : PySem.W.typeIn K (.ref f) = some (.type "function")) (hno : ∀ y ∈ (["many"] : List Str), PySem.W.findIn K (.ref (caK K [84, 111, 111, 76, 97, 114, 103, 101])) y = some none) :
    Exk P w K mg base (gg K) "TooLarge" [84, 111, 111, 76, 97, 114, 103, 101] 2 :=
  ⟨hm, T, f, fd, ["self", "many"], hi, ht, FunD.bindsN F (fun _ _ _ _ _ _ us hl => match us, hl with | [_, _], _ => rfl), ini_ok (k := 1) (names := [[109, 97, 110, 121]]) (g := "many") (gs := []) F sc_TooLarge rfl (by decide +kernel) (by decide +kernel) (by decide) hno fun cdv A outer s H E => (pss_cons (ps_ost (pv 0) (pv 1)) pss_nil)⟩
abbrev s_InvalidRow : Stmt := (cb (top 9)).getD 0 (.Pass ⟨0, 0, 0, 0⟩)
theorem sc_InvalidRow : FnScope ["self", "value"] ["self", "value"] (defScope s_InvalidRow) := ⟨rfl, rfl, rfl, by decide +kernel, rfl, by decide +kernel, by decide +kernel⟩
theorem e_InvalidRow_ok (F : FunD K "__init__" "InvalidRow.__init__" (defArgs s_InvalidRow) (defBody s_InvalidRow) (defScope s_InvalidRow) [] [] f fd) (hm : mg "InvalidRow" = some (.ref (caK K [73, 110, 118, 97, 108, 105, 100, 82, 111, 119]))) (T : OexC K (caK K [73, 110, 118, 97, 108, 105, 100, 82, 111, 119])) (hi : PySem.W.findIn K (.ref (caK K [73, 110, 118, 97, 108, 105, 100, 82, 111, 119])) "__init__" = some (some (.ref f))) (ht : PySem.W.typeIn K (.ref f) = some (.type "function")) (hno : ∀ y ∈ (["value"] : List Str), PySem.W.findIn K (.ref (caK K [73, 110, 118, 97, 108, 105, 100, 82, 111, 119])) y = some none) :
    Exk P w K mg base (gg K) "InvalidRow" [73, 110, 118, 97, 108, 105, 100, 82, 111, 119] 2 :=
  ⟨hm, T, f, fd, ["self", "value"], hi, ht, FunD.bindsN F (fun _ _ _ _ _ _ us hl => match us, hl with | [_, _], _ => rfl), ini_ok (k := 1) (names := [[118, 97, 108, 117, 101]]) (g := "value") (gs := []) F sc_InvalidRow rfl (by decide +kernel) (by decide +kernel) (by decide) hno fun cdv A outer s H E => (pss_cons (ps_ost (pv 0) (pv 1)) pss_nil)⟩
abbrev s_InvalidMoves : Stmt := (cb (top 10)).getD 0 (.Pass ⟨0, 0, 0, 0⟩)
theorem sc_InvalidMoves : FnScope ["self", "value"] ["self", "value"] (defScope s_InvalidMoves) := ⟨rfl, rfl, rfl, by decide +kernel, rfl, by decide +kernel, by decide +kernel⟩
theorem e_InvalidMoves_ok (F : FunD K "__init__" "InvalidMoves.__init__" (defArgs s_InvalidMoves) (defBody s_InvalidMoves) (defScope s_InvalidMoves) [] [] f fd) (hm : mg "InvalidMoves" = some (.ref (caK K [73, 110, 118, 97, 108, 105, 100, 77, 111, 118, 101, 115]))) (T : OexC K (caK K [73, 110, 118, 97, 108, 105, 100, 77, 111, 118, 101, 115])) (hi : PySem.W.findIn K (.ref (caK K [73, 110, 118, 97, 108, 105, 100, 77, 111, 118, 101, 115])) "__init__" = some (some (.ref f))) (ht : PySem.W.typeIn K (.ref f) = some (.type "function")) (hno : ∀ y ∈ (["value"] : List Str), PySem.W.findIn K (.ref (caK K [73, 110, 118, 97, 108, 105, 100, 77, 111, 118, 101, 115])) y = some none) :
    Exk P w K mg base (gg K) "InvalidMoves" [73, 110, 118, 97, 108, 105, 100, 77, 111, 118, 101, 115] 2 :=
  ⟨hm, T, f, fd, ["self", "value"], hi, ht, FunD.bindsN F (fun _ _ _ _ _ _ us hl => match us, hl with | [_, _], _ => rfl), ini_ok (k := 1) (names := [[118, 97, 108, 117, 101]]) (g := "value") (gs := []) F sc_InvalidMoves rfl (by decide +kernel) (by decide +kernel) (by decide) hno fun cdv A outer s H E => (pss_cons (ps_ost (pv 0) (pv 1)) pss_nil)⟩
abbrev s_InvalidText : Stmt := (cb (top 11)).getD 0 (.Pass ⟨0, 0, 0, 0⟩)
theorem sc_InvalidText : FnScope ["self", "text", "at"] ["self", "text", "at"] (defScope s_InvalidText) := ⟨rfl, rfl, rfl, by decide +kernel, rfl, by decide +kernel, by decide +kernel⟩
theorem e_InvalidText_ok (F : FunD K "__init__" "InvalidText.__init__" (defArgs s_InvalidText) (defBody s_InvalidText) (defScope s_InvalidText) [] [] f fd) (hm : mg "InvalidText" = some (.ref (caK K [73, 110, 118, 97, 108, 105, 100, 84, 101, 120, 116]))) (T : OexC K (caK K [73, 110, 118, 97, 108, 105, 100, 84, 101, 120, 116])) (hi : PySem.W.findIn K (.ref (caK K [73, 110, 118, 97, 108, 105, 100, 84, 101, 120, 116])) "__init__" = some (some (.ref f))) (ht : PySem.W.typeIn K (.ref f) = some (.type "function")) (hno : ∀ y ∈ (["text", "at"] : List Str), PySem.W.findIn K (.ref (caK K [73, 110, 118, 97, 108, 105, 100, 84, 101, 120, 116])) y = some none) :
    Exk P w K mg base (gg K) "InvalidText" [73, 110, 118, 97, 108, 105, 100, 84, 101, 120, 116] 2 :=
  ⟨hm, T, f, fd, ["self", "text", "at"], hi, ht, FunD.bindsN F (fun _ _ _ _ _ _ us hl => match us, hl with | [_, _, _], _ => rfl), ini_ok (k := 1) (names := [[116, 101, 120, 116], [97, 116]]) (g := "text") (gs := ["at"]) F sc_InvalidText rfl (by decide +kernel) (by decide +kernel) (by decide) hno fun cdv A outer s H E => (pss_cons (ps_ost (pv 0) (pv 1)) (pss_cons (ps_ost (pv 0) (pv 2)) pss_nil))⟩
abbrev s_InvalidForm : Stmt := (cb (top 12)).getD 0 (.Pass ⟨0, 0, 0, 0⟩)
theorem sc_InvalidForm : FnScope ["self", "value"] ["self", "value"] (defScope s_InvalidForm) := ⟨rfl, rfl, rfl, by decide +kernel, rfl, by decide +kernel, by decide +kernel⟩
theorem e_InvalidForm_ok (F : FunD K "__init__" "InvalidForm.__init__" (defArgs s_InvalidForm) (defBody s_InvalidForm) (defScope s_InvalidForm) [] [] f fd) (hm : mg "InvalidForm" = some (.ref (caK K [73, 110, 118, 97, 108, 105, 100, 70, 111, 114, 109]))) (T : OexC K (caK K [73, 110, 118, 97, 108, 105, 100, 70, 111, 114, 109])) (hi : PySem.W.findIn K (.ref (caK K [73, 110, 118, 97, 108, 105, 100, 70, 111, 114, 109])) "__init__" = some (some (.ref f))) (ht : PySem.W.typeIn K (.ref f) = some (.type "function")) (hno : ∀ y ∈ (["value"] : List Str), PySem.W.findIn K (.ref (caK K [73, 110, 118, 97, 108, 105, 100, 70, 111, 114, 109])) y = some none) :
    Exk P w K mg base (gg K) "InvalidForm" [73, 110, 118, 97, 108, 105, 100, 70, 111, 114, 109] 2 :=
  ⟨hm, T, f, fd, ["self", "value"], hi, ht, FunD.bindsN F (fun _ _ _ _ _ _ us hl => match us, hl with | [_, _], _ => rfl), ini_ok (k := 1) (names := [[118, 97, 108, 117, 101]]) (g := "value") (gs := []) F sc_InvalidForm rfl (by decide +kernel) (by decide +kernel) (by decide) hno fun cdv A outer s H E => (pss_cons (ps_ost (pv 0) (pv 1)) pss_nil)⟩
abbrev s_InvalidEntries : Stmt := (cb (top 13)).getD 0 (.Pass ⟨0, 0, 0, 0⟩)
theorem sc_InvalidEntries : FnScope ["self", "value"] ["self", "value"] (defScope s_InvalidEntries) := ⟨rfl, rfl, rfl, by decide +kernel, rfl, by decide +kernel, by decide +kernel⟩
theorem e_InvalidEntries_ok (F : FunD K "__init__" "InvalidEntries.__init__" (defArgs s_InvalidEntries) (defBody s_InvalidEntries) (defScope s_InvalidEntries) [] [] f fd) (hm : mg "InvalidEntries" = some (.ref (caK K [73, 110, 118, 97, 108, 105, 100, 69, 110, 116, 114, 105, 101, 115]))) (T : OexC K (caK K [73, 110, 118, 97, 108, 105, 100, 69, 110, 116, 114, 105, 101, 115])) (hi : PySem.W.findIn K (.ref (caK K [73, 110, 118, 97, 108, 105, 100, 69, 110, 116, 114, 105, 101, 115])) "__init__" = some (some (.ref f))) (ht : PySem.W.typeIn K (.ref f) = some (.type "function")) (hno : ∀ y ∈ (["value"] : List Str), PySem.W.findIn K (.ref (caK K [73, 110, 118, 97, 108, 105, 100, 69, 110, 116, 114, 105, 101, 115])) y = some none) :
    Exk P w K mg base (gg K) "InvalidEntries" [73, 110, 118, 97, 108, 105, 100, 69, 110, 116, 114, 105, 101, 115] 2 :=
  ⟨hm, T, f, fd, ["self", "value"], hi, ht, FunD.bindsN F (fun _ _ _ _ _ _ us hl => match us, hl with | [_, _], _ => rfl), ini_ok (k := 1) (names := [[118, 97, 108, 117, 101]]) (g := "value") (gs := []) F sc_InvalidEntries rfl (by decide +kernel) (by decide +kernel) (by decide) hno fun cdv A outer s H E => (pss_cons (ps_ost (pv 0) (pv 1)) pss_nil)⟩
abbrev s_InvalidCut : Stmt := (cb (top 14)).getD 0 (.Pass ⟨0, 0, 0, 0⟩)
theorem sc_InvalidCut : FnScope ["self", "value"] ["self", "value"] (defScope s_InvalidCut) := ⟨rfl, rfl, rfl, by decide +kernel, rfl, by decide +kernel, by decide +kernel⟩
theorem e_InvalidCut_ok (F : FunD K "__init__" "InvalidCut.__init__" (defArgs s_InvalidCut) (defBody s_InvalidCut) (defScope s_InvalidCut) [] [] f fd) (hm : mg "InvalidCut" = some (.ref (caK K [73, 110, 118, 97, 108, 105, 100, 67, 117, 116]))) (T : OexC K (caK K [73, 110, 118, 97, 108, 105, 100, 67, 117, 116])) (hi : PySem.W.findIn K (.ref (caK K [73, 110, 118, 97, 108, 105, 100, 67, 117, 116])) "__init__" = some (some (.ref f))) (ht : PySem.W.typeIn K (.ref f) = some (.type "function")) (hno : ∀ y ∈ (["value"] : List Str), PySem.W.findIn K (.ref (caK K [73, 110, 118, 97, 108, 105, 100, 67, 117, 116])) y = some none) :
    Exk P w K mg base (gg K) "InvalidCut" [73, 110, 118, 97, 108, 105, 100, 67, 117, 116] 2 :=
  ⟨hm, T, f, fd, ["self", "value"], hi, ht, FunD.bindsN F (fun _ _ _ _ _ _ us hl => match us, hl with | [_, _], _ => rfl), ini_ok (k := 1) (names := [[118, 97, 108, 117, 101]]) (g := "value") (gs := []) F sc_InvalidCut rfl (by decide +kernel) (by decide +kernel) (by decide) hno fun cdv A outer s H E => (pss_cons (ps_ost (pv 0) (pv 1)) pss_nil)⟩
abbrev s_InvalidTables : Stmt := (cb (top 15)).getD 0 (.Pass ⟨0, 0, 0, 0⟩)
theorem sc_InvalidTables : FnScope ["self", "value"] ["self", "value"] (defScope s_InvalidTables) := ⟨rfl, rfl, rfl, by decide +kernel, rfl, by decide +kernel, by decide +kernel⟩
theorem e_InvalidTables_ok (F : FunD K "__init__" "InvalidTables.__init__" (defArgs s_InvalidTables) (defBody s_InvalidTables) (defScope s_InvalidTables) [] [] f fd) (hm : mg "InvalidTables" = some (.ref (caK K [73, 110, 118, 97, 108, 105, 100, 84, 97, 98, 108, 101, 115]))) (T : OexC K (caK K [73, 110, 118, 97, 108, 105, 100, 84, 97, 98, 108, 101, 115])) (hi : PySem.W.findIn K (.ref (caK K [73, 110, 118, 97, 108, 105, 100, 84, 97, 98, 108, 101, 115])) "__init__" = some (some (.ref f))) (ht : PySem.W.typeIn K (.ref f) = some (.type "function")) (hno : ∀ y ∈ (["value"] : List Str), PySem.W.findIn K (.ref (caK K [73, 110, 118, 97, 108, 105, 100, 84, 97, 98, 108, 101, 115])) y = some none) :
    Exk P w K mg base (gg K) "InvalidTables" [73, 110, 118, 97, 108, 105, 100, 84, 97, 98, 108, 101, 115] 2 :=
  ⟨hm, T, f, fd, ["self", "value"], hi, ht, FunD.bindsN F (fun _ _ _ _ _ _ us hl => match us, hl with | [_, _], _ => rfl), ini_ok (k := 1) (names := [[118, 97, 108, 117, 101]]) (g := "value") (gs := []) F sc_InvalidTables rfl (by decide +kernel) (by decide +kernel) (by decide) hno fun cdv A outer s H E => (pss_cons (ps_ost (pv 0) (pv 1)) pss_nil)⟩
abbrev s_InvalidWords : Stmt := (cb (top 16)).getD 0 (.Pass ⟨0, 0, 0, 0⟩)
theorem sc_InvalidWords : FnScope ["self", "value"] ["self", "value"] (defScope s_InvalidWords) := ⟨rfl, rfl, rfl, by decide +kernel, rfl, by decide +kernel, by decide +kernel⟩
theorem e_InvalidWords_ok (F : FunD K "__init__" "InvalidWords.__init__" (defArgs s_InvalidWords) (defBody s_InvalidWords) (defScope s_InvalidWords) [] [] f fd) (hm : mg "InvalidWords" = some (.ref (caK K [73, 110, 118, 97, 108, 105, 100, 87, 111, 114, 100, 115]))) (T : OexC K (caK K [73, 110, 118, 97, 108, 105, 100, 87, 111, 114, 100, 115])) (hi : PySem.W.findIn K (.ref (caK K [73, 110, 118, 97, 108, 105, 100, 87, 111, 114, 100, 115])) "__init__" = some (some (.ref f))) (ht : PySem.W.typeIn K (.ref f) = some (.type "function")) (hno : ∀ y ∈ (["value"] : List Str), PySem.W.findIn K (.ref (caK K [73, 110, 118, 97, 108, 105, 100, 87, 111, 114, 100, 115])) y = some none) :
    Exk P w K mg base (gg K) "InvalidWords" [73, 110, 118, 97, 108, 105, 100, 87, 111, 114, 100, 115] 2 :=
  ⟨hm, T, f, fd, ["self", "value"], hi, ht, FunD.bindsN F (fun _ _ _ _ _ _ us hl => match us, hl with | [_, _], _ => rfl), ini_ok (k := 1) (names := [[118, 97, 108, 117, 101]]) (g := "value") (gs := []) F sc_InvalidWords rfl (by decide +kernel) (by decide +kernel) (by decide) hno fun cdv A outer s H E => (pss_cons (ps_ost (pv 0) (pv 1)) pss_nil)⟩
abbrev s_InvalidImage : Stmt := (cb (top 17)).getD 0 (.Pass ⟨0, 0, 0, 0⟩)
theorem sc_InvalidImage : FnScope ["self", "at"] ["self", "at"] (defScope s_InvalidImage) := ⟨rfl, rfl, rfl, by decide +kernel, rfl, by decide +kernel, by decide +kernel⟩
theorem e_InvalidImage_ok (F : FunD K "__init__" "InvalidImage.__init__" (defArgs s_InvalidImage) (defBody s_InvalidImage) (defScope s_InvalidImage) [] [] f fd) (hm : mg "InvalidImage" = some (.ref (caK K [73, 110, 118, 97, 108, 105, 100, 73, 109, 97, 103, 101]))) (T : OexC K (caK K [73, 110, 118, 97, 108, 105, 100, 73, 109, 97, 103, 101])) (hi : PySem.W.findIn K (.ref (caK K [73, 110, 118, 97, 108, 105, 100, 73, 109, 97, 103, 101])) "__init__" = some (some (.ref f))) (ht : PySem.W.typeIn K (.ref f) = some (.type "function")) (hno : ∀ y ∈ (["at"] : List Str), PySem.W.findIn K (.ref (caK K [73, 110, 118, 97, 108, 105, 100, 73, 109, 97, 103, 101])) y = some none) :
    Exk P w K mg base (gg K) "InvalidImage" [73, 110, 118, 97, 108, 105, 100, 73, 109, 97, 103, 101] 2 :=
  ⟨hm, T, f, fd, ["self", "at"], hi, ht, FunD.bindsN F (fun _ _ _ _ _ _ us hl => match us, hl with | [_, _], _ => rfl), ini_ok (k := 1) (names := [[97, 116]]) (g := "at") (gs := []) F sc_InvalidImage rfl (by decide +kernel) (by decide +kernel) (by decide) hno fun cdv A outer s H E => (pss_cons (ps_ost (pv 0) (pv 1)) pss_nil)⟩
abbrev s_InvalidPlan : Stmt := (cb (top 18)).getD 0 (.Pass ⟨0, 0, 0, 0⟩)
theorem sc_InvalidPlan : FnScope ["self", "value"] ["self", "value"] (defScope s_InvalidPlan) := ⟨rfl, rfl, rfl, by decide +kernel, rfl, by decide +kernel, by decide +kernel⟩
theorem e_InvalidPlan_ok (F : FunD K "__init__" "InvalidPlan.__init__" (defArgs s_InvalidPlan) (defBody s_InvalidPlan) (defScope s_InvalidPlan) [] [] f fd) (hm : mg "InvalidPlan" = some (.ref (caK K [73, 110, 118, 97, 108, 105, 100, 80, 108, 97, 110]))) (T : OexC K (caK K [73, 110, 118, 97, 108, 105, 100, 80, 108, 97, 110])) (hi : PySem.W.findIn K (.ref (caK K [73, 110, 118, 97, 108, 105, 100, 80, 108, 97, 110])) "__init__" = some (some (.ref f))) (ht : PySem.W.typeIn K (.ref f) = some (.type "function")) (hno : ∀ y ∈ (["value"] : List Str), PySem.W.findIn K (.ref (caK K [73, 110, 118, 97, 108, 105, 100, 80, 108, 97, 110])) y = some none) :
    Exk P w K mg base (gg K) "InvalidPlan" [73, 110, 118, 97, 108, 105, 100, 80, 108, 97, 110] 2 :=
  ⟨hm, T, f, fd, ["self", "value"], hi, ht, FunD.bindsN F (fun _ _ _ _ _ _ us hl => match us, hl with | [_, _], _ => rfl), ini_ok (k := 1) (names := [[118, 97, 108, 117, 101]]) (g := "value") (gs := []) F sc_InvalidPlan rfl (by decide +kernel) (by decide +kernel) (by decide) hno fun cdv A outer s H E => (pss_cons (ps_ost (pv 0) (pv 1)) pss_nil)⟩
abbrev s_Unset : Stmt := (cb (top 19)).getD 0 (.Pass ⟨0, 0, 0, 0⟩)
theorem sc_Unset : FnScope ["self", "place", "slot"] ["self", "place", "slot"] (defScope s_Unset) := ⟨rfl, rfl, rfl, by decide +kernel, rfl, by decide +kernel, by decide +kernel⟩
theorem e_Unset_ok (F : FunD K "__init__" "Unset.__init__" (defArgs s_Unset) (defBody s_Unset) (defScope s_Unset) [] [] f fd) (hm : mg "Unset" = some (.ref (caK K [85, 110, 115, 101, 116]))) (T : OexC K (caK K [85, 110, 115, 101, 116])) (hi : PySem.W.findIn K (.ref (caK K [85, 110, 115, 101, 116])) "__init__" = some (some (.ref f))) (ht : PySem.W.typeIn K (.ref f) = some (.type "function")) (hno : ∀ y ∈ (["place", "slot"] : List Str), PySem.W.findIn K (.ref (caK K [85, 110, 115, 101, 116])) y = some none) :
    Exk P w K mg base (gg K) "Unset" [85, 110, 115, 101, 116] 2 :=
  ⟨hm, T, f, fd, ["self", "place", "slot"], hi, ht, FunD.bindsN F (fun _ _ _ _ _ _ us hl => match us, hl with | [_, _, _], _ => rfl), ini_ok (k := 1) (names := [[112, 108, 97, 99, 101], [115, 108, 111, 116]]) (g := "place") (gs := ["slot"]) F sc_Unset rfl (by decide +kernel) (by decide +kernel) (by decide) hno fun cdv A outer s H E => (pss_cons (ps_ost (pv 0) (pv 1)) (pss_cons (ps_ost (pv 0) (pv 2)) pss_nil))⟩
abbrev s_InvalidPlacement : Stmt := (cb (top 20)).getD 0 (.Pass ⟨0, 0, 0, 0⟩)
theorem sc_InvalidPlacement : FnScope ["self", "value"] ["self", "value"] (defScope s_InvalidPlacement) := ⟨rfl, rfl, rfl, by decide +kernel, rfl, by decide +kernel, by decide +kernel⟩
theorem e_InvalidPlacement_ok (F : FunD K "__init__" "InvalidPlacement.__init__" (defArgs s_InvalidPlacement) (defBody s_InvalidPlacement) (defScope s_InvalidPlacement) [] [] f fd) (hm : mg "InvalidPlacement" = some (.ref (caK K [73, 110, 118, 97, 108, 105, 100, 80, 108, 97, 99, 101, 109, 101, 110, 116]))) (T : OexC K (caK K [73, 110, 118, 97, 108, 105, 100, 80, 108, 97, 99, 101, 109, 101, 110, 116])) (hi : PySem.W.findIn K (.ref (caK K [73, 110, 118, 97, 108, 105, 100, 80, 108, 97, 99, 101, 109, 101, 110, 116])) "__init__" = some (some (.ref f))) (ht : PySem.W.typeIn K (.ref f) = some (.type "function")) (hno : ∀ y ∈ (["value"] : List Str), PySem.W.findIn K (.ref (caK K [73, 110, 118, 97, 108, 105, 100, 80, 108, 97, 99, 101, 109, 101, 110, 116])) y = some none) :
    Exk P w K mg base (gg K) "InvalidPlacement" [73, 110, 118, 97, 108, 105, 100, 80, 108, 97, 99, 101, 109, 101, 110, 116] 2 :=
  ⟨hm, T, f, fd, ["self", "value"], hi, ht, FunD.bindsN F (fun _ _ _ _ _ _ us hl => match us, hl with | [_, _], _ => rfl), ini_ok (k := 1) (names := [[118, 97, 108, 117, 101]]) (g := "value") (gs := []) F sc_InvalidPlacement rfl (by decide +kernel) (by decide +kernel) (by decide) hno fun cdv A outer s H E => (pss_cons (ps_ost (pv 0) (pv 1)) pss_nil)⟩
abbrev s_InvalidSaves : Stmt := (cb (top 21)).getD 0 (.Pass ⟨0, 0, 0, 0⟩)
theorem sc_InvalidSaves : FnScope ["self", "value"] ["self", "value"] (defScope s_InvalidSaves) := ⟨rfl, rfl, rfl, by decide +kernel, rfl, by decide +kernel, by decide +kernel⟩
theorem e_InvalidSaves_ok (F : FunD K "__init__" "InvalidSaves.__init__" (defArgs s_InvalidSaves) (defBody s_InvalidSaves) (defScope s_InvalidSaves) [] [] f fd) (hm : mg "InvalidSaves" = some (.ref (caK K [73, 110, 118, 97, 108, 105, 100, 83, 97, 118, 101, 115]))) (T : OexC K (caK K [73, 110, 118, 97, 108, 105, 100, 83, 97, 118, 101, 115])) (hi : PySem.W.findIn K (.ref (caK K [73, 110, 118, 97, 108, 105, 100, 83, 97, 118, 101, 115])) "__init__" = some (some (.ref f))) (ht : PySem.W.typeIn K (.ref f) = some (.type "function")) (hno : ∀ y ∈ (["value"] : List Str), PySem.W.findIn K (.ref (caK K [73, 110, 118, 97, 108, 105, 100, 83, 97, 118, 101, 115])) y = some none) :
    Exk P w K mg base (gg K) "InvalidSaves" [73, 110, 118, 97, 108, 105, 100, 83, 97, 118, 101, 115] 2 :=
  ⟨hm, T, f, fd, ["self", "value"], hi, ht, FunD.bindsN F (fun _ _ _ _ _ _ us hl => match us, hl with | [_, _], _ => rfl), ini_ok (k := 1) (names := [[118, 97, 108, 117, 101]]) (g := "value") (gs := []) F sc_InvalidSaves rfl (by decide +kernel) (by decide +kernel) (by decide) hno fun cdv A outer s H E => (pss_cons (ps_ost (pv 0) (pv 1)) pss_nil)⟩
abbrev s_InvalidSlot : Stmt := (cb (top 22)).getD 0 (.Pass ⟨0, 0, 0, 0⟩)
theorem sc_InvalidSlot : FnScope ["self", "value"] ["self", "value"] (defScope s_InvalidSlot) := ⟨rfl, rfl, rfl, by decide +kernel, rfl, by decide +kernel, by decide +kernel⟩
theorem e_InvalidSlot_ok (F : FunD K "__init__" "InvalidSlot.__init__" (defArgs s_InvalidSlot) (defBody s_InvalidSlot) (defScope s_InvalidSlot) [] [] f fd) (hm : mg "InvalidSlot" = some (.ref (caK K [73, 110, 118, 97, 108, 105, 100, 83, 108, 111, 116]))) (T : OexC K (caK K [73, 110, 118, 97, 108, 105, 100, 83, 108, 111, 116])) (hi : PySem.W.findIn K (.ref (caK K [73, 110, 118, 97, 108, 105, 100, 83, 108, 111, 116])) "__init__" = some (some (.ref f))) (ht : PySem.W.typeIn K (.ref f) = some (.type "function")) (hno : ∀ y ∈ (["value"] : List Str), PySem.W.findIn K (.ref (caK K [73, 110, 118, 97, 108, 105, 100, 83, 108, 111, 116])) y = some none) :
    Exk P w K mg base (gg K) "InvalidSlot" [73, 110, 118, 97, 108, 105, 100, 83, 108, 111, 116] 2 :=
  ⟨hm, T, f, fd, ["self", "value"], hi, ht, FunD.bindsN F (fun _ _ _ _ _ _ us hl => match us, hl with | [_, _], _ => rfl), ini_ok (k := 1) (names := [[118, 97, 108, 117, 101]]) (g := "value") (gs := []) F sc_InvalidSlot rfl (by decide +kernel) (by decide +kernel) (by decide) hno fun cdv A outer s H E => (pss_cons (ps_ost (pv 0) (pv 1)) pss_nil)⟩
abbrev s_InvalidQuestion : Stmt := (cb (top 23)).getD 0 (.Pass ⟨0, 0, 0, 0⟩)
theorem sc_InvalidQuestion : FnScope ["self", "value"] ["self", "value"] (defScope s_InvalidQuestion) := ⟨rfl, rfl, rfl, by decide +kernel, rfl, by decide +kernel, by decide +kernel⟩
theorem e_InvalidQuestion_ok (F : FunD K "__init__" "InvalidQuestion.__init__" (defArgs s_InvalidQuestion) (defBody s_InvalidQuestion) (defScope s_InvalidQuestion) [] [] f fd) (hm : mg "InvalidQuestion" = some (.ref (caK K [73, 110, 118, 97, 108, 105, 100, 81, 117, 101, 115, 116, 105, 111, 110]))) (T : OexC K (caK K [73, 110, 118, 97, 108, 105, 100, 81, 117, 101, 115, 116, 105, 111, 110])) (hi : PySem.W.findIn K (.ref (caK K [73, 110, 118, 97, 108, 105, 100, 81, 117, 101, 115, 116, 105, 111, 110])) "__init__" = some (some (.ref f))) (ht : PySem.W.typeIn K (.ref f) = some (.type "function")) (hno : ∀ y ∈ (["value"] : List Str), PySem.W.findIn K (.ref (caK K [73, 110, 118, 97, 108, 105, 100, 81, 117, 101, 115, 116, 105, 111, 110])) y = some none) :
    Exk P w K mg base (gg K) "InvalidQuestion" [73, 110, 118, 97, 108, 105, 100, 81, 117, 101, 115, 116, 105, 111, 110] 2 :=
  ⟨hm, T, f, fd, ["self", "value"], hi, ht, FunD.bindsN F (fun _ _ _ _ _ _ us hl => match us, hl with | [_, _], _ => rfl), ini_ok (k := 1) (names := [[118, 97, 108, 117, 101]]) (g := "value") (gs := []) F sc_InvalidQuestion rfl (by decide +kernel) (by decide +kernel) (by decide) hno fun cdv A outer s H E => (pss_cons (ps_ost (pv 0) (pv 1)) pss_nil)⟩
abbrev s_InvalidClaim : Stmt := (cb (top 24)).getD 0 (.Pass ⟨0, 0, 0, 0⟩)
theorem sc_InvalidClaim : FnScope ["self", "value"] ["self", "value"] (defScope s_InvalidClaim) := ⟨rfl, rfl, rfl, by decide +kernel, rfl, by decide +kernel, by decide +kernel⟩
theorem e_InvalidClaim_ok (F : FunD K "__init__" "InvalidClaim.__init__" (defArgs s_InvalidClaim) (defBody s_InvalidClaim) (defScope s_InvalidClaim) [] [] f fd) (hm : mg "InvalidClaim" = some (.ref (caK K [73, 110, 118, 97, 108, 105, 100, 67, 108, 97, 105, 109]))) (T : OexC K (caK K [73, 110, 118, 97, 108, 105, 100, 67, 108, 97, 105, 109])) (hi : PySem.W.findIn K (.ref (caK K [73, 110, 118, 97, 108, 105, 100, 67, 108, 97, 105, 109])) "__init__" = some (some (.ref f))) (ht : PySem.W.typeIn K (.ref f) = some (.type "function")) (hno : ∀ y ∈ (["value"] : List Str), PySem.W.findIn K (.ref (caK K [73, 110, 118, 97, 108, 105, 100, 67, 108, 97, 105, 109])) y = some none) :
    Exk P w K mg base (gg K) "InvalidClaim" [73, 110, 118, 97, 108, 105, 100, 67, 108, 97, 105, 109] 2 :=
  ⟨hm, T, f, fd, ["self", "value"], hi, ht, FunD.bindsN F (fun _ _ _ _ _ _ us hl => match us, hl with | [_, _], _ => rfl), ini_ok (k := 1) (names := [[118, 97, 108, 117, 101]]) (g := "value") (gs := []) F sc_InvalidClaim rfl (by decide +kernel) (by decide +kernel) (by decide) hno fun cdv A outer s H E => (pss_cons (ps_ost (pv 0) (pv 1)) pss_nil)⟩
abbrev s_Undefined : Stmt := (cb (top 25)).getD 0 (.Pass ⟨0, 0, 0, 0⟩)
theorem sc_Undefined : FnScope ["self", "what"] ["self", "what"] (defScope s_Undefined) := ⟨rfl, rfl, rfl, by decide +kernel, rfl, by decide +kernel, by decide +kernel⟩
theorem e_Undefined_ok (F : FunD K "__init__" "Undefined.__init__" (defArgs s_Undefined) (defBody s_Undefined) (defScope s_Undefined) [] [] f fd) (hm : mg "Undefined" = some (.ref (caK K [85, 110, 100, 101, 102, 105, 110, 101, 100]))) (T : OexC K (caK K [85, 110, 100, 101, 102, 105, 110, 101, 100])) (hi : PySem.W.findIn K (.ref (caK K [85, 110, 100, 101, 102, 105, 110, 101, 100])) "__init__" = some (some (.ref f))) (ht : PySem.W.typeIn K (.ref f) = some (.type "function")) (hno : ∀ y ∈ (["what"] : List Str), PySem.W.findIn K (.ref (caK K [85, 110, 100, 101, 102, 105, 110, 101, 100])) y = some none) :
    Exk P w K mg base (gg K) "Undefined" [85, 110, 100, 101, 102, 105, 110, 101, 100] 2 :=
  ⟨hm, T, f, fd, ["self", "what"], hi, ht, FunD.bindsN F (fun _ _ _ _ _ _ us hl => match us, hl with | [_, _], _ => rfl), ini_ok (k := 1) (names := [[119, 104, 97, 116]]) (g := "what") (gs := []) F sc_Undefined rfl (by decide +kernel) (by decide +kernel) (by decide) hno fun cdv A outer s H E => (pss_cons (ps_ost (pv 0) (pv 1)) pss_nil)⟩
abbrev s_NothingToUndo : Stmt := (cb (top 26)).getD 0 (.Pass ⟨0, 0, 0, 0⟩)
theorem sc_NothingToUndo : FnScope ["self", "word"] ["self", "word"] (defScope s_NothingToUndo) := ⟨rfl, rfl, rfl, by decide +kernel, rfl, by decide +kernel, by decide +kernel⟩
theorem e_NothingToUndo_ok (F : FunD K "__init__" "NothingToUndo.__init__" (defArgs s_NothingToUndo) (defBody s_NothingToUndo) (defScope s_NothingToUndo) [] [] f fd) (hm : mg "NothingToUndo" = some (.ref (caK K [78, 111, 116, 104, 105, 110, 103, 84, 111, 85, 110, 100, 111]))) (T : OexC K (caK K [78, 111, 116, 104, 105, 110, 103, 84, 111, 85, 110, 100, 111])) (hi : PySem.W.findIn K (.ref (caK K [78, 111, 116, 104, 105, 110, 103, 84, 111, 85, 110, 100, 111])) "__init__" = some (some (.ref f))) (ht : PySem.W.typeIn K (.ref f) = some (.type "function")) (hno : ∀ y ∈ (["word"] : List Str), PySem.W.findIn K (.ref (caK K [78, 111, 116, 104, 105, 110, 103, 84, 111, 85, 110, 100, 111])) y = some none) :
    Exk P w K mg base (gg K) "NothingToUndo" [78, 111, 116, 104, 105, 110, 103, 84, 111, 85, 110, 100, 111] 2 :=
  ⟨hm, T, f, fd, ["self", "word"], hi, ht, FunD.bindsN F (fun _ _ _ _ _ _ us hl => match us, hl with | [_, _], _ => rfl), ini_ok (k := 1) (names := [[119, 111, 114, 100]]) (g := "word") (gs := []) F sc_NothingToUndo rfl (by decide +kernel) (by decide +kernel) (by decide) hno fun cdv A outer s H E => (pss_cons (ps_ost (pv 0) (pv 1)) pss_nil)⟩
abbrev s__law_box : Stmt := top 28
theorem sc__law_box : FnScope ["script", "k", "cell", "great"] ["script", "k"] (defScope s__law_box) := ⟨rfl, rfl, rfl, by decide +kernel, rfl, by decide +kernel, by decide +kernel⟩
theorem w__law_box (F : FnP K "_law_box" s__law_box f fd) (hm : mg "_law_box" = some (.ref f)) (bt : Bt mg K) :
    Cal P w K mg base (gg K) "_law_box" 1 2 r__law_box true F__law_box := ⟨f, fd, ["script", "k"], hm, F.kp, FunD.bindsN F (fun _ _ _ _ _ _ us hl => match us, hl with | [_, _], _ => rfl), fn_ok2 (k := 0) (mb := m__law_box) F sc__law_box rfl rfl (by decide) fun cdv A outer s H E hr => by
  have nd := sc__law_box.nd
  exact (qs_cons (se 2 nd (pd_op op_addU (os_add rfl) (pd_op op_mul os_mul pd_int (np 1)) (EvE.toP pd_int)))
  (qs_cons (qs_if (pt_cmpDL op_lt os_cmp rfl (pv 1) (EvE.toP (pd_cb1 call_len (oc_len rfl) rfl bt.len_ boot_len (by decide) (by decide) rfl (np 0)))) (qs_one (se 2 nd (pd_cb1 call_abs oc_abs rfl bt.abs_ boot_abs (by decide) (by decide) rfl (EvE.toP (pd_ixL ix_seq (os_ix rfl) (by intro _ _; rfl) (pv 0) (np 1)))))) (qs_one (qs_if (pt_cmpD op_gt os_cmp rfl (pd_cb1 call_len (oc_len rfl) rfl bt.len_ boot_len (by decide) (by decide) rfl (np 0)) (EvE.toP pd_int)) (qs_one (se 2 nd (pd_op op_addU (os_add rfl) (pd_op op_mul os_mul (pd_op op_mod os_mod (pd_ct1 cr_intU oc_int rfl bt.int_ boot_int (by decide) (by decide) rfl (EvE.toP (pd_cb1 call_abs oc_abs rfl bt.abs_ boot_abs (by decide) (by decide) rfl (EvE.toP (pd_ixL ix_seq (os_ix rfl) (by intro _ _; rfl) (pv 0) (EvE.toP (pd_op op_mod os_mod (pd_ct1 cr_intU oc_int rfl bt.int_ boot_int (by decide) (by decide) rfl (np 1)) (EvE.toP (pd_cb1 call_len (oc_len rfl) rfl bt.len_ boot_len (by decide) (by decide) rfl (np 0)))))))))) (EvE.toP pd_int)) (EvE.toP pd_int)) (EvE.toP (pd_op op_mul os_mul pd_int (np 1)))))) qs_nil)))
  (qs_cons (se 3 nd (pd_ix ix_seq (os_ix rfl) (by intro _ _; rfl) (EvF.toE (pd_lst (pa_consD rfl pd_int (pa_consD rfl (nv 2) pa_nilD)))) (EvE.toP (pd_ct1 cr_intU oc_int rfl bt.int_ boot_int (by decide) (by decide) rfl (EvE.toP (pd_cmpL op_ge os_cmp rfl (pv 2) (EvE.toP (pd_op op_pow os_pow pd_int (EvE.toP pd_int)))))))))
  (qs_one (qs_retF (pd_lst (pa_consD rfl (nv 3) (pa_consD rfl (pd_op op_addU (os_add rfl) (pd_op op_mod os_mod (pd_ct1 cr_intU oc_int rfl bt.int_ boot_int (by decide) (by decide) rfl (EvE.toP (pd_op op_addU (os_add rfl) (pd_op op_mul os_mul (pd_op op_mod os_mod (pd_ct1 cr_intU oc_int rfl bt.int_ boot_int (by decide) (by decide) rfl (np 2)) (EvE.toP pd_int)) (EvE.toP pd_int)) (EvE.toP (pd_op op_mul os_mul pd_int (np 1)))))) (EvE.toP pd_int)) (EvE.toP pd_int)) pa_nilD))))))))⟩
abbrev s__law_take : Stmt := top 29
theorem sc__law_take : FnScope ["box", "many", "got"] ["box", "many"] (defScope s__law_take) := ⟨rfl, rfl, rfl, by decide +kernel, rfl, by decide +kernel, by decide +kernel⟩
theorem w__law_take (F : FnP K "_law_take" s__law_take f fd) (hm : mg "_law_take" = some (.ref f)) (bt : Bt mg K) :
    Cal P w K mg base (gg K) "_law_take" 1 2 r__law_take false F__law_take := ⟨f, fd, ["box", "many"], hm, F.kp, FunD.bindsN F (fun _ _ _ _ _ _ us hl => match us, hl with | [_, _], _ => rfl), fn_ok2 (k := 0) (mb := m__law_take) F sc__law_take rfl rfl (by decide) fun cdv A outer s H E hr => by
  have nd := sc__law_take.nd
  exact (qs_cons (qs_if (pt_cmpD op_gt os_cmp rfl (pd_ixL ix_seq (os_ix rfl) (by intro _ _; rfl) (pv 0) (EvE.toP pd_int)) (EvE.toP pd_int)) (qs_cons (se 2 nd (pd_op op_mod os_mod (pd_ct1 cr_intU oc_int rfl bt.int_ boot_int (by decide) (by decide) rfl (EvE.toP (pd_ixL ix_seq (os_ix rfl) (by intro _ _; rfl) (pv 0) (EvE.toP pd_int)))) (np 1)))
  (qs_cons (qs_ix (pv 0) pd_int (pd_op op_fdiv os_fdiv (pd_ixL ix_seq (os_ix rfl) (by intro _ _; rfl) (pv 0) (EvE.toP pd_int)) (np 1)) (by intro _; rfl) rfl rfl rfl)
  (qs_one (qs_retX rfl (pv 2))))) qs_nil)
  (qs_cons (qs_ix (pv 0) pd_int (pd_op op_mod os_mod (pd_ct1 cr_intU oc_int rfl bt.int_ boot_int (by decide) (by decide) rfl (EvE.toP (pd_op op_addU (os_add rfl) (pd_op op_mul os_mul (pd_ixL ix_seq (os_ix rfl) (by intro _ _; rfl) (pv 0) (EvE.toP pd_int)) (EvE.toP pd_int)) (EvE.toP pd_int)))) (EvE.toP pd_int)) (by intro _; rfl) rfl rfl rfl)
  (qs_one (qs_ret (pd_op op_mod os_mod (pd_ct1 cr_intU oc_int rfl bt.int_ boot_int (by decide) (by decide) rfl (EvE.toP (pd_op op_fdiv os_fdiv (pd_ixL ix_seq (os_ix rfl) (by intro _ _; rfl) (pv 0) (EvE.toP pd_int)) (EvE.toP pd_int)))) (np 1))))))⟩
abbrev s__law_kinds : Stmt := top 33
theorem sc__law_kinds : FnScope ["e", "found"] ["e"] (defScope s__law_kinds) := ⟨rfl, rfl, rfl, by decide +kernel, rfl, by decide +kernel, by decide +kernel⟩
theorem w__law_kinds (F : FnP K "_law_kinds" s__law_kinds f fd) (hm : mg "_law_kinds" = some (.ref f)) (bt : Bt mg K) (ik : Ik mg K) :
    Cal P w K mg base (gg K) "_law_kinds" 1 1 r__law_kinds true F__law_kinds := ⟨f, fd, ["e"], hm, F.kp, FunD.bindsN F (fun _ _ _ _ _ _ us hl => match us, hl with | [_], _ => rfl), fn_ok2 (k := 0) (mb := m__law_kinds) F sc__law_kinds rfl rfl (by decide) fun cdv A outer s H E hr => by
  have nd := sc__law_kinds.nd
  exact (qs_cons (sf 1 nd (pd_lst (pa_consD rfl (pd_isX rfl rfl bt.isinstance_ (.own _) ik.InvalidNumber (np 0) (pe_gcls rfl ik.m_InvalidNumber rfl) rfl rfl) (pa_consD rfl (pd_isX rfl rfl bt.isinstance_ (.own _) ik.InvalidWord (np 0) (pe_gcls rfl ik.m_InvalidWord rfl) rfl rfl) (pa_consD rfl (pd_isX rfl rfl bt.isinstance_ (.own _) ik.InvalidCode (np 0) (pe_gcls rfl ik.m_InvalidCode rfl) rfl rfl) (pa_consD rfl (pd_isX rfl rfl bt.isinstance_ (.own _) ik.InvalidRow (np 0) (pe_gcls rfl ik.m_InvalidRow rfl) rfl rfl) pa_nilD))))))
  (qs_cons (sf 1 nd (pd_opFL op_catR osf_cat (pv 1) (EvE.toP (EvF.toE (pd_lst (pa_consD rfl (pd_isX rfl rfl bt.isinstance_ (.own _) ik.InvalidMoves (np 0) (pe_gcls rfl ik.m_InvalidMoves rfl) rfl rfl) (pa_consD rfl (pd_isX rfl rfl bt.isinstance_ (.own _) ik.InvalidForm (np 0) (pe_gcls rfl ik.m_InvalidForm rfl) rfl rfl) (pa_consD rfl (pd_isX rfl rfl bt.isinstance_ (.own _) ik.InvalidEntries (np 0) (pe_gcls rfl ik.m_InvalidEntries rfl) rfl rfl) (pa_consD rfl (pd_isX rfl rfl bt.isinstance_ (.own _) ik.InvalidCut (np 0) (pe_gcls rfl ik.m_InvalidCut rfl) rfl rfl) pa_nilD)))))))))
  (qs_cons (sf 1 nd (pd_opFL op_catR osf_cat (pv 1) (EvE.toP (EvF.toE (pd_lst (pa_consD rfl (pd_isX rfl rfl bt.isinstance_ (.own _) ik.InvalidTables (np 0) (pe_gcls rfl ik.m_InvalidTables rfl) rfl rfl) (pa_consD rfl (pd_isX rfl rfl bt.isinstance_ (.own _) ik.InvalidWords (np 0) (pe_gcls rfl ik.m_InvalidWords rfl) rfl rfl) (pa_consD rfl (pd_isX rfl rfl bt.isinstance_ (.own _) ik.InvalidPlan (np 0) (pe_gcls rfl ik.m_InvalidPlan rfl) rfl rfl) (pa_consD rfl (pd_isX rfl rfl bt.isinstance_ (.own _) ik.InvalidPlacement (np 0) (pe_gcls rfl ik.m_InvalidPlacement rfl) rfl rfl) pa_nilD)))))))))
  (qs_cons (sf 1 nd (pd_opFL op_catR osf_cat (pv 1) (EvE.toP (EvF.toE (pd_lst (pa_consD rfl (pd_isX rfl rfl bt.isinstance_ (.own _) ik.InvalidSaves (np 0) (pe_gcls rfl ik.m_InvalidSaves rfl) rfl rfl) (pa_consD rfl (pd_isX rfl rfl bt.isinstance_ (.own _) ik.InvalidSlot (np 0) (pe_gcls rfl ik.m_InvalidSlot rfl) rfl rfl) (pa_consD rfl (pd_isX rfl rfl bt.isinstance_ (.own _) ik.InvalidQuestion (np 0) (pe_gcls rfl ik.m_InvalidQuestion rfl) rfl rfl) (pa_consD rfl (pd_isX rfl rfl bt.isinstance_ (.own _) ik.InvalidClaim (np 0) (pe_gcls rfl ik.m_InvalidClaim rfl) rfl rfl) pa_nilD)))))))))
  (qs_cons (sf 1 nd (pd_opFL op_catR osf_cat (pv 1) (EvE.toP (EvF.toE (pd_lst (pa_consD rfl (pd_isX rfl rfl bt.isinstance_ (.own _) ik.InvalidLine (np 0) (pe_gcls rfl ik.m_InvalidLine rfl) rfl rfl) (pa_consD rfl (pd_isX rfl rfl bt.isinstance_ (.own _) ik.Endless (np 0) (pe_gcls rfl ik.m_Endless rfl) rfl rfl) (pa_consD rfl (pd_isX rfl rfl bt.isinstance_ (.own _) ik.TooLong (np 0) (pe_gcls rfl ik.m_TooLong rfl) rfl rfl) (pa_consD rfl (pd_isX rfl rfl bt.isinstance_ (.own _) ik.TooLarge (np 0) (pe_gcls rfl ik.m_TooLarge rfl) rfl rfl) pa_nilD)))))))))
  (qs_cons (sf 1 nd (pd_opFL op_catR osf_cat (pv 1) (EvE.toP (EvF.toE (pd_lst (pa_consD rfl (pd_isX rfl rfl bt.isinstance_ (.own _) ik.InvalidText (np 0) (pe_gcls rfl ik.m_InvalidText rfl) rfl rfl) (pa_consD rfl (pd_isX rfl rfl bt.isinstance_ (.own _) ik.InvalidImage (np 0) (pe_gcls rfl ik.m_InvalidImage rfl) rfl rfl) (pa_consD rfl (pd_isX rfl rfl bt.isinstance_ (.own _) ik.Unset (np 0) (pe_gcls rfl ik.m_Unset rfl) rfl rfl) (pa_consD rfl (pd_isX rfl rfl bt.isinstance_ (.own _) ik.Undefined (np 0) (pe_gcls rfl ik.m_Undefined rfl) rfl rfl) pa_nilD)))))))))
  (qs_one (qs_retF (pd_opFL op_catR osf_cat (pv 1) (EvE.toP (EvF.toE (pd_lst (pa_consD rfl (pd_isX rfl rfl bt.isinstance_ (.own _) ik.NothingToUndo (np 0) (pe_gcls rfl ik.m_NothingToUndo rfl) rfl rfl) (pa_consD rfl (pd_isX rfl rfl bt.isinstance_ (.own _) ik.TrimError (np 0) (pe_gcls rfl ik.m_TrimError rfl) rfl rfl) (pa_consD rfl (pd_isX rfl rfl bt.isinstance_ (.ty "ValueError") ik.ValueError (np 0) (pe_bltn rfl bt.ValueError_ PyProof.Rows.Boot.«ValueError» rfl) rfl rfl) pa_nilD)))))))))))))))⟩
abbrev s__law_pick : Stmt := top 30
theorem sc__law_pick : FnScope ["box", "some"] ["box", "some"] (defScope s__law_pick) := ⟨rfl, rfl, rfl, by decide +kernel, rfl, by decide +kernel, by decide +kernel⟩
theorem w__law_pick (F : FnP K "_law_pick" s__law_pick f fd) (hm : mg "_law_pick" = some (.ref f)) (bt : Bt mg K) (g__law_take : Cal P w K mg base (gg K) "_law_take" 1 2 r__law_take false F__law_take) :
    Cal P w K mg base (gg K) "_law_pick" 2 2 r__law_pick false F__law_pick := ⟨f, fd, ["box", "some"], hm, F.kp, FunD.bindsN F (fun _ _ _ _ _ _ us hl => match us, hl with | [_, _], _ => rfl), fn_ok2 (k := 1) (mb := m__law_pick) F sc__law_pick rfl rfl (by decide) fun cdv A outer s H E hr => by
  have nd := sc__law_pick.nd
  exact (qs_one (qs_ret (pd_ixL ix_seq (os_ix rfl) (by intro _ _; rfl) (pv 1) (EvE.toP (pd_callC g__law_take hr (by decide) rfl takes_body (by decide) rfl rfl rfl rfl (pr_r (pv 0) (pr_e rfl (pd_cb1 call_len (oc_len rfl) rfl bt.len_ boot_len (by decide) (by decide) rfl (np 1)) pr_nil)))))))⟩
abbrev s__law_ones : Stmt := top 31
theorem sc__law_ones : FnScope ["v", "found"] ["v"] (defScope s__law_ones) := ⟨rfl, rfl, rfl, by decide +kernel, rfl, by decide +kernel, by decide +kernel⟩
theorem w__law_ones (F : FnP K "_law_ones" s__law_ones f fd) (hm : mg "_law_ones" = some (.ref f)) (xf_InvalidClaim : XfC K (caK K [73, 110, 118, 97, 108, 105, 100, 67, 108, 97, 105, 109])) (e_InvalidClaim : Exk P w K mg base (gg K) "InvalidClaim" [73, 110, 118, 97, 108, 105, 100, 67, 108, 97, 105, 109] 2) (xf_InvalidCode : XfC K (caK K [73, 110, 118, 97, 108, 105, 100, 67, 111, 100, 101])) (e_InvalidCode : Exk P w K mg base (gg K) "InvalidCode" [73, 110, 118, 97, 108, 105, 100, 67, 111, 100, 101] 2) (xf_InvalidCut : XfC K (caK K [73, 110, 118, 97, 108, 105, 100, 67, 117, 116])) (e_InvalidCut : Exk P w K mg base (gg K) "InvalidCut" [73, 110, 118, 97, 108, 105, 100, 67, 117, 116] 2) (xf_InvalidEntries : XfC K (caK K [73, 110, 118, 97, 108, 105, 100, 69, 110, 116, 114, 105, 101, 115])) (e_InvalidEntries : Exk P w K mg base (gg K) "InvalidEntries" [73, 110, 118, 97, 108, 105, 100, 69, 110, 116, 114, 105, 101, 115] 2) (xf_InvalidForm : XfC K (caK K [73, 110, 118, 97, 108, 105, 100, 70, 111, 114, 109])) (e_InvalidForm : Exk P w K mg base (gg K) "InvalidForm" [73, 110, 118, 97, 108, 105, 100, 70, 111, 114, 109] 2) (xf_InvalidMoves : XfC K (caK K [73, 110, 118, 97, 108, 105, 100, 77, 111, 118, 101, 115])) (e_InvalidMoves : Exk P w K mg base (gg K) "InvalidMoves" [73, 110, 118, 97, 108, 105, 100, 77, 111, 118, 101, 115] 2) (xf_InvalidNumber : XfC K (caK K [73, 110, 118, 97, 108, 105, 100, 78, 117, 109, 98, 101, 114])) (e_InvalidNumber : Exk P w K mg base (gg K) "InvalidNumber" [73, 110, 118, 97, 108, 105, 100, 78, 117, 109, 98, 101, 114] 2) (xf_InvalidPlacement : XfC K (caK K [73, 110, 118, 97, 108, 105, 100, 80, 108, 97, 99, 101, 109, 101, 110, 116])) (e_InvalidPlacement : Exk P w K mg base (gg K) "InvalidPlacement" [73, 110, 118, 97, 108, 105, 100, 80, 108, 97, 99, 101, 109, 101, 110, 116] 2) (xf_InvalidPlan : XfC K (caK K [73, 110, 118, 97, 108, 105, 100, 80, 108, 97, 110])) (e_InvalidPlan : Exk P w K mg base (gg K) "InvalidPlan" [73, 110, 118, 97, 108, 105, 100, 80, 108, 97, 110] 2) (xf_InvalidQuestion : XfC K (caK K [73, 110, 118, 97, 108, 105, 100, 81, 117, 101, 115, 116, 105, 111, 110])) (e_InvalidQuestion : Exk P w K mg base (gg K) "InvalidQuestion" [73, 110, 118, 97, 108, 105, 100, 81, 117, 101, 115, 116, 105, 111, 110] 2) (xf_InvalidRow : XfC K (caK K [73, 110, 118, 97, 108, 105, 100, 82, 111, 119])) (e_InvalidRow : Exk P w K mg base (gg K) "InvalidRow" [73, 110, 118, 97, 108, 105, 100, 82, 111, 119] 2) (xf_InvalidSaves : XfC K (caK K [73, 110, 118, 97, 108, 105, 100, 83, 97, 118, 101, 115])) (e_InvalidSaves : Exk P w K mg base (gg K) "InvalidSaves" [73, 110, 118, 97, 108, 105, 100, 83, 97, 118, 101, 115] 2) (xf_InvalidSlot : XfC K (caK K [73, 110, 118, 97, 108, 105, 100, 83, 108, 111, 116])) (e_InvalidSlot : Exk P w K mg base (gg K) "InvalidSlot" [73, 110, 118, 97, 108, 105, 100, 83, 108, 111, 116] 2) (xf_InvalidTables : XfC K (caK K [73, 110, 118, 97, 108, 105, 100, 84, 97, 98, 108, 101, 115])) (e_InvalidTables : Exk P w K mg base (gg K) "InvalidTables" [73, 110, 118, 97, 108, 105, 100, 84, 97, 98, 108, 101, 115] 2) (xf_InvalidWord : XfC K (caK K [73, 110, 118, 97, 108, 105, 100, 87, 111, 114, 100])) (e_InvalidWord : Exk P w K mg base (gg K) "InvalidWord" [73, 110, 118, 97, 108, 105, 100, 87, 111, 114, 100] 2) (xf_InvalidWords : XfC K (caK K [73, 110, 118, 97, 108, 105, 100, 87, 111, 114, 100, 115])) (e_InvalidWords : Exk P w K mg base (gg K) "InvalidWords" [73, 110, 118, 97, 108, 105, 100, 87, 111, 114, 100, 115] 2) :
    Cal P w K mg base (gg K) "_law_ones" 4 1 r__law_ones true F__law_ones := ⟨f, fd, ["v"], hm, F.kp, FunD.bindsN F (fun _ _ _ _ _ _ us hl => match us, hl with | [_], _ => rfl), fn_ok2 (k := 3) (mb := m__law_ones) F sc__law_ones rfl rfl (by decide) fun cdv A outer s H E hr => by
  have nd := sc__law_ones.nd
  exact (qs_cons (sf 1 nd (pd_lst (pa_consD rfl (pd_mkC (cls := [73, 110, 118, 97, 108, 105, 100, 78, 117, 109, 98, 101, 114]) e_InvalidNumber xf_InvalidNumber hr (by decide) rfl rfl (pa_consD rfl (nv 0) pa_nilD) rfl rfl rfl (by decide)) (pa_consD rfl (pd_mkC (cls := [73, 110, 118, 97, 108, 105, 100, 87, 111, 114, 100]) e_InvalidWord xf_InvalidWord hr (by decide) rfl rfl (pa_consD rfl (nv 0) pa_nilD) rfl rfl rfl (by decide)) (pa_consD rfl (pd_mkC (cls := [73, 110, 118, 97, 108, 105, 100, 67, 111, 100, 101]) e_InvalidCode xf_InvalidCode hr (by decide) rfl rfl (pa_consD rfl (nv 0) pa_nilD) rfl rfl rfl (by decide)) (pa_consD rfl (pd_mkC (cls := [73, 110, 118, 97, 108, 105, 100, 82, 111, 119]) e_InvalidRow xf_InvalidRow hr (by decide) rfl rfl (pa_consD rfl (nv 0) pa_nilD) rfl rfl rfl (by decide)) (pa_consD rfl (pd_mkC (cls := [73, 110, 118, 97, 108, 105, 100, 77, 111, 118, 101, 115]) e_InvalidMoves xf_InvalidMoves hr (by decide) rfl rfl (pa_consD rfl (nv 0) pa_nilD) rfl rfl rfl (by decide)) (pa_consD rfl (pd_mkC (cls := [73, 110, 118, 97, 108, 105, 100, 70, 111, 114, 109]) e_InvalidForm xf_InvalidForm hr (by decide) rfl rfl (pa_consD rfl (nv 0) pa_nilD) rfl rfl rfl (by decide)) pa_nilD))))))))
  (qs_cons (sf 1 nd (pd_opFL op_catR osf_cat (pv 1) (EvE.toP (EvF.toE (pd_lst (pa_consD rfl (pd_mkC (cls := [73, 110, 118, 97, 108, 105, 100, 69, 110, 116, 114, 105, 101, 115]) e_InvalidEntries xf_InvalidEntries hr (by decide) rfl rfl (pa_consD rfl (nv 0) pa_nilD) rfl rfl rfl (by decide)) (pa_consD rfl (pd_mkC (cls := [73, 110, 118, 97, 108, 105, 100, 67, 117, 116]) e_InvalidCut xf_InvalidCut hr (by decide) rfl rfl (pa_consD rfl (nv 0) pa_nilD) rfl rfl rfl (by decide)) (pa_consD rfl (pd_mkC (cls := [73, 110, 118, 97, 108, 105, 100, 84, 97, 98, 108, 101, 115]) e_InvalidTables xf_InvalidTables hr (by decide) rfl rfl (pa_consD rfl (nv 0) pa_nilD) rfl rfl rfl (by decide)) (pa_consD rfl (pd_mkC (cls := [73, 110, 118, 97, 108, 105, 100, 87, 111, 114, 100, 115]) e_InvalidWords xf_InvalidWords hr (by decide) rfl rfl (pa_consD rfl (nv 0) pa_nilD) rfl rfl rfl (by decide)) (pa_consD rfl (pd_mkC (cls := [73, 110, 118, 97, 108, 105, 100, 80, 108, 97, 110]) e_InvalidPlan xf_InvalidPlan hr (by decide) rfl rfl (pa_consD rfl (nv 0) pa_nilD) rfl rfl rfl (by decide)) pa_nilD))))))))))
  (qs_one (qs_retF (pd_opFL op_catR osf_cat (pv 1) (EvE.toP (EvF.toE (pd_lst (pa_consD rfl (pd_mkC (cls := [73, 110, 118, 97, 108, 105, 100, 80, 108, 97, 99, 101, 109, 101, 110, 116]) e_InvalidPlacement xf_InvalidPlacement hr (by decide) rfl rfl (pa_consD rfl (nv 0) pa_nilD) rfl rfl rfl (by decide)) (pa_consD rfl (pd_mkC (cls := [73, 110, 118, 97, 108, 105, 100, 83, 97, 118, 101, 115]) e_InvalidSaves xf_InvalidSaves hr (by decide) rfl rfl (pa_consD rfl (nv 0) pa_nilD) rfl rfl rfl (by decide)) (pa_consD rfl (pd_mkC (cls := [73, 110, 118, 97, 108, 105, 100, 83, 108, 111, 116]) e_InvalidSlot xf_InvalidSlot hr (by decide) rfl rfl (pa_consD rfl (nv 0) pa_nilD) rfl rfl rfl (by decide)) (pa_consD rfl (pd_mkC (cls := [73, 110, 118, 97, 108, 105, 100, 81, 117, 101, 115, 116, 105, 111, 110]) e_InvalidQuestion xf_InvalidQuestion hr (by decide) rfl rfl (pa_consD rfl (nv 0) pa_nilD) rfl rfl rfl (by decide)) (pa_consD rfl (pd_mkC (cls := [73, 110, 118, 97, 108, 105, 100, 67, 108, 97, 105, 109]) e_InvalidClaim xf_InvalidClaim hr (by decide) rfl rfl (pa_consD rfl (nv 0) pa_nilD) rfl rfl rfl (by decide)) pa_nilD)))))))))))))⟩
abbrev s__law_others : Stmt := top 32
theorem sc__law_others : FnScope ["v", "w", "a", "b", "c", "d", "e", "f", "g", "h", "i", "found"] ["v", "w"] (defScope s__law_others) := ⟨rfl, rfl, rfl, by decide +kernel, rfl, by decide +kernel, by decide +kernel⟩
theorem w__law_others (F : FnP K "_law_others" s__law_others f fd) (hm : mg "_law_others" = some (.ref f)) (xf_Endless : XfC K (caK K [69, 110, 100, 108, 101, 115, 115])) (e_Endless : Exk P w K mg base (gg K) "Endless" [69, 110, 100, 108, 101, 115, 115] 2) (xf_InvalidImage : XfC K (caK K [73, 110, 118, 97, 108, 105, 100, 73, 109, 97, 103, 101])) (e_InvalidImage : Exk P w K mg base (gg K) "InvalidImage" [73, 110, 118, 97, 108, 105, 100, 73, 109, 97, 103, 101] 2) (xf_InvalidLine : XfC K (caK K [73, 110, 118, 97, 108, 105, 100, 76, 105, 110, 101])) (e_InvalidLine : Exk P w K mg base (gg K) "InvalidLine" [73, 110, 118, 97, 108, 105, 100, 76, 105, 110, 101] 2) (xf_InvalidText : XfC K (caK K [73, 110, 118, 97, 108, 105, 100, 84, 101, 120, 116])) (e_InvalidText : Exk P w K mg base (gg K) "InvalidText" [73, 110, 118, 97, 108, 105, 100, 84, 101, 120, 116] 2) (xf_NothingToUndo : XfC K (caK K [78, 111, 116, 104, 105, 110, 103, 84, 111, 85, 110, 100, 111])) (e_NothingToUndo : Exk P w K mg base (gg K) "NothingToUndo" [78, 111, 116, 104, 105, 110, 103, 84, 111, 85, 110, 100, 111] 2) (xf_TooLarge : XfC K (caK K [84, 111, 111, 76, 97, 114, 103, 101])) (e_TooLarge : Exk P w K mg base (gg K) "TooLarge" [84, 111, 111, 76, 97, 114, 103, 101] 2) (xf_TooLong : XfC K (caK K [84, 111, 111, 76, 111, 110, 103])) (e_TooLong : Exk P w K mg base (gg K) "TooLong" [84, 111, 111, 76, 111, 110, 103] 2) (xf_Undefined : XfC K (caK K [85, 110, 100, 101, 102, 105, 110, 101, 100])) (e_Undefined : Exk P w K mg base (gg K) "Undefined" [85, 110, 100, 101, 102, 105, 110, 101, 100] 2) (xf_Unset : XfC K (caK K [85, 110, 115, 101, 116])) (e_Unset : Exk P w K mg base (gg K) "Unset" [85, 110, 115, 101, 116] 2) (fdk : Fdk K) :
    Cal P w K mg base (gg K) "_law_others" 4 2 r__law_others true F__law_others := ⟨f, fd, ["v", "w"], hm, F.kp, FunD.bindsN F (fun _ _ _ _ _ _ us hl => match us, hl with | [_, _], _ => rfl), fn_ok2 (k := 3) (mb := m__law_others) F sc__law_others rfl rfl (by decide) fun cdv A outer s H E hr => by
  have nd := sc__law_others.nd
  exact (qs_cons (qs_asg (pd_tup (pa_consD rfl (pd_mkC (cls := [73, 110, 118, 97, 108, 105, 100, 76, 105, 110, 101]) e_InvalidLine xf_InvalidLine hr (by decide) rfl rfl (pa_consD rfl (nv 0) pa_nilD) rfl rfl rfl (by decide)) (pa_consD rfl (pd_mkC (cls := [69, 110, 100, 108, 101, 115, 115]) e_Endless xf_Endless hr (by decide) rfl rfl (pa_consD rfl (nv 0) pa_nilD) rfl rfl rfl (by decide)) (pa_consD rfl (pd_mkC (cls := [84, 111, 111, 76, 111, 110, 103]) e_TooLong xf_TooLong hr (by decide) rfl rfl (pa_consD rfl (nv 0) pa_nilD) rfl rfl rfl (by decide)) (pa_consD rfl (pd_mkC (cls := [84, 111, 111, 76, 97, 114, 103, 101]) e_TooLarge xf_TooLarge hr (by decide) rfl rfl (pa_consD rfl (nv 0) pa_nilD) rfl rfl rfl (by decide)) pa_nilD))))) (pg_tpD (is := [2, 3, 4, 5]) rfl rfl (gs 2 nd (gs 3 nd (gs 4 nd (gs 5 nd pgs_nil)))) (rfB (by kernel_rfl)) rfl rfl) rfl rfl rfl)
  (qs_cons (qs_asg (pd_tup (pa_consD rfl (pd_mkC (cls := [73, 110, 118, 97, 108, 105, 100, 84, 101, 120, 116]) e_InvalidText xf_InvalidText hr (by decide) rfl rfl (pa_consD rfl (nv 0) (pa_consD rfl (nv 1) pa_nilD)) rfl rfl rfl (by decide)) (pa_consD rfl (pd_mkC (cls := [73, 110, 118, 97, 108, 105, 100, 73, 109, 97, 103, 101]) e_InvalidImage xf_InvalidImage hr (by decide) rfl rfl (pa_consD rfl (nv 0) pa_nilD) rfl rfl rfl (by decide)) (pa_consD rfl (pd_mkC (cls := [85, 110, 115, 101, 116]) e_Unset xf_Unset hr (by decide) rfl rfl (pa_consD rfl (nv 0) (pa_consD rfl (nv 1) pa_nilD)) rfl rfl rfl (by decide)) (pa_consD rfl (pd_mkC (cls := [85, 110, 100, 101, 102, 105, 110, 101, 100]) e_Undefined xf_Undefined hr (by decide) rfl rfl (pa_consD rfl (nv 0) pa_nilD) rfl rfl rfl (by decide)) (pa_consD rfl (pd_mkC (cls := [78, 111, 116, 104, 105, 110, 103, 84, 111, 85, 110, 100, 111]) e_NothingToUndo xf_NothingToUndo hr (by decide) rfl rfl (pa_consD rfl (nv 0) pa_nilD) rfl rfl rfl (by decide)) pa_nilD)))))) (pg_tpD (is := [6, 7, 8, 9, 10]) rfl rfl (gs 6 nd (gs 7 nd (gs 8 nd (gs 9 nd (gs 10 nd pgs_nil))))) (rfB (by kernel_rfl)) rfl rfl) rfl rfl rfl)
  (qs_cons (sf 11 nd (pd_lst (pa_consD rfl (pd_tup (pa_consD rfl (nv 2) (pa_consD rfl (EvF.toE (pd_lst (pa_consD rfl (pd_tup (pa_consD rfl (pd_fldX rfl fdk.f_line (np 2) rfl) (pa_consD rfl (nv 0) pa_nilD))) pa_nilD))) pa_nilD))) (pa_consD rfl (pd_tup (pa_consD rfl (nv 3) (pa_consD rfl (EvF.toE (pd_lst (pa_consD rfl (pd_tup (pa_consD rfl (pd_fldX rfl fdk.f_place (np 3) rfl) (pa_consD rfl (nv 0) pa_nilD))) pa_nilD))) pa_nilD))) (pa_consD rfl (pd_tup (pa_consD rfl (nv 4) (pa_consD rfl (EvF.toE (pd_lst (pa_consD rfl (pd_tup (pa_consD rfl (pd_fldX rfl fdk.f_place (np 4) rfl) (pa_consD rfl (nv 0) pa_nilD))) pa_nilD))) pa_nilD))) (pa_consD rfl (pd_tup (pa_consD rfl (nv 5) (pa_consD rfl (EvF.toE (pd_lst (pa_consD rfl (pd_tup (pa_consD rfl (pd_fldX rfl fdk.f_many (np 5) rfl) (pa_consD rfl (nv 0) pa_nilD))) pa_nilD))) pa_nilD))) (pa_consD rfl (pd_tup (pa_consD rfl (nv 6) (pa_consD rfl (EvF.toE (pd_lst (pa_consD rfl (pd_tup (pa_consD rfl (pd_fldX rfl fdk.f_text (np 6) rfl) (pa_consD rfl (nv 0) pa_nilD))) (pa_consD rfl (pd_tup (pa_consD rfl (pd_fldX rfl fdk.f_at (np 6) rfl) (pa_consD rfl (nv 1) pa_nilD))) pa_nilD)))) pa_nilD))) pa_nilD)))))))
  (qs_one (qs_retF (pd_opFL op_catR osf_cat (pv 11) (EvE.toP (EvF.toE (pd_lst (pa_consD rfl (pd_tup (pa_consD rfl (nv 7) (pa_consD rfl (EvF.toE (pd_lst (pa_consD rfl (pd_tup (pa_consD rfl (pd_fldX rfl fdk.f_at (np 7) rfl) (pa_consD rfl (nv 0) pa_nilD))) pa_nilD))) pa_nilD))) (pa_consD rfl (pd_tup (pa_consD rfl (nv 8) (pa_consD rfl (EvF.toE (pd_lst (pa_consD rfl (pd_tup (pa_consD rfl (pd_fldX rfl fdk.f_place (np 8) rfl) (pa_consD rfl (nv 0) pa_nilD))) (pa_consD rfl (pd_tup (pa_consD rfl (pd_fldX rfl fdk.f_slot (np 8) rfl) (pa_consD rfl (nv 1) pa_nilD))) pa_nilD)))) pa_nilD))) (pa_consD rfl (pd_tup (pa_consD rfl (nv 9) (pa_consD rfl (EvF.toE (pd_lst (pa_consD rfl (pd_tup (pa_consD rfl (pd_fldX rfl fdk.f_what (np 9) rfl) (pa_consD rfl (nv 0) pa_nilD))) pa_nilD))) pa_nilD))) (pa_consD rfl (pd_tup (pa_consD rfl (nv 10) (pa_consD rfl (EvF.toE (pd_lst (pa_consD rfl (pd_tup (pa_consD rfl (pd_fldX rfl fdk.f_word (np 10) rfl) (pa_consD rfl (nv 0) pa_nilD))) pa_nilD))) pa_nilD))) pa_nilD)))))))))))))⟩
abbrev s_law : Stmt := top 34
theorem sc_law : FnScope ["script", "box", "some", "v", "w", "errors", "one", "pair", "found", "k", "j"] ["script"] (defScope s_law) := ⟨rfl, rfl, rfl, by decide +kernel, rfl, by decide +kernel, by decide +kernel⟩
theorem w_law (F : FnP K "law" s_law f fd) (bt : Bt mg K) (g__law_box : Cal P w K mg base (gg K) "_law_box" 1 2 r__law_box true F__law_box) (g__law_kinds : Cal P w K mg base (gg K) "_law_kinds" 1 1 r__law_kinds true F__law_kinds) (g__law_ones : Cal P w K mg base (gg K) "_law_ones" 4 1 r__law_ones true F__law_ones) (g__law_others : Cal P w K mg base (gg K) "_law_others" 4 2 r__law_others true F__law_others) (g__law_pick : Cal P w K mg base (gg K) "_law_pick" 2 2 r__law_pick false F__law_pick) (g__law_take : Cal P w K mg base (gg K) "_law_take" 1 2 r__law_take false F__law_take) (fdk : Fdk K) :
    FnOk P w K mg base (L2.CX P w) 5 f fd ["script"] (spF (gg K) 1 r_law false F_law) := fn_ok2 (k := 4) (mb := m_law) F sc_law rfl rfl (by decide) fun cdv A outer s H E hr => by
  have nd := sc_law.nd
  exact (qs_cons (sf 1 nd (pd_callFC g__law_box hr (by decide) rfl takes_body (by decide) rfl rfl rfl rfl (pr_e rfl (nv 0) (pr_e rfl pd_int pr_nil))))
  (qs_cons (sf 2 nd (pd_lst (pa_consD rfl (pd_op op_sub os_sub (pd_callC g__law_take hr (by decide) rfl takes_body (by decide) rfl rfl rfl rfl (pr_r (pv 1) (pr_e rfl (pd_op op_pow os_pow pd_int (EvE.toP pd_int)) pr_nil))) (EvE.toP pd_int)) (pa_consD rfl (pd_op op_addU (os_add rfl) (pd_str (s := [116, 101, 120, 116, 32]) (by decide +kernel) rfl) (EvE.toP (pd_ct1 call_str_int oc_str rfl bt.str_ boot_str (by decide) (by decide) rfl (EvE.toP (pd_callC g__law_take hr (by decide) rfl takes_body (by decide) rfl rfl rfl rfl (pr_r (pv 1) (pr_e rfl pd_int pr_nil))))))) (pa_consD rfl (pd_tup (pa_consD rfl pd_int (pa_consD rfl (pd_callC g__law_take hr (by decide) rfl takes_body (by decide) rfl rfl rfl rfl (pr_r (pv 1) (pr_e rfl pd_int pr_nil))) pa_nilD))) pa_nilD)))))
  (qs_cons (sf 2 nd (pd_opFL op_catR osf_cat (pv 2) (EvE.toP (EvF.toE (pd_lst (pa_consD rfl (EvF.toE (pd_lst (pa_consD rfl (pd_callC g__law_take hr (by decide) rfl takes_body (by decide) rfl rfl rfl rfl (pr_r (pv 1) (pr_e rfl pd_int pr_nil))) pa_nilD))) (pa_consD rfl pd_non (pa_consD rfl pd_bl (pa_consD rfl (pd_tup pa_nilD) pa_nilD)))))))))
  (qs_cons (se 3 nd (pd_callC g__law_pick hr (by decide) rfl takes_body (by decide) rfl rfl rfl rfl (pr_r (pv 1) (pr_e rfl (nv 2) pr_nil))))
  (qs_cons (se 4 nd (pd_callC g__law_pick hr (by decide) rfl takes_body (by decide) rfl rfl rfl rfl (pr_r (pv 1) (pr_e rfl (nv 2) pr_nil))))
  (qs_cons (sf 5 nd (pd_callFC g__law_ones hr (by decide) rfl takes_body (by decide) rfl rfl rfl rfl (pr_e rfl (nv 3) pr_nil)))
  (qs_cons (qs_forO (passes_of rfl) rfl (pv 5) (gn 6 nd) (qs_one (qs_if (pt_cmpD (op_neD hr.units) (os_ne rfl) rfl (pd_fldX rfl fdk.f_value (np 6) rfl) (np 3)) (qs_one (qs_ret pd_bl)) qs_nil)) (by intro _; rfl))
  (qs_cons (qs_for (passes_of rfl) rfl (pi_val rfl (EvF.toE (pd_callFC g__law_others hr (by decide) rfl takes_body (by decide) rfl rfl rfl rfl (pr_e rfl (nv 3) (pr_e rfl (nv 4) pr_nil))))) (gn 7 nd) (qs_cons (qs_drop rfl (pd_app (pv 5) (pd_ixL ix_seq (os_ix rfl) (by intro _ _; rfl) (pv 7) (EvE.toP pd_int)) rfl rfl rfl rfl))
  (qs_one (qs_for (passes_of rfl) rfl (pi_val rfl (pd_ixL ix_seq (os_ix rfl) (by intro _ _; rfl) (pv 7) (EvE.toP pd_int))) (gn 8 nd) (qs_one (qs_if (pt_cmpD (op_neD hr.units) (os_ne rfl) rfl (pd_ixL ix_seq (os_ix rfl) (by intro _ _; rfl) (pv 8) (EvE.toP pd_int)) (EvE.toP (pd_ixL ix_seq (os_ix rfl) (by intro _ _; rfl) (pv 8) (EvE.toP pd_int)))) (qs_one (qs_ret pd_bl)) qs_nil)) (by intro _; rfl)))) (by intro _; rfl))
  (qs_cons (qs_for (passes_of rfl) rfl (pi_rng1 rfl bt.range_ (pa_consD rfl (pd_cb1 call_len (oc_len rfl) rfl bt.len_ boot_len (by decide) (by decide) rfl (np 5)) pa_nilD) rfl) (gn 9 nd) (qs_one (qs_if (pt_cmpD (op_neD hr.units) (os_ne rfl) rfl (EvF.toE (pd_callFC g__law_kinds hr (by decide) rfl takes_body (by decide) rfl rfl rfl rfl (pr_e rfl (pd_ixL ix_seq (os_ix rfl) (by intro _ _; rfl) (pv 5) (np 9)) pr_nil))) (EvE.toP (EvF.toE (pd_lc (own := [("j", 10)]) (rfB (by kernel_rfl)) (by decide) rfl nd (pi_rng1 rfl bt.range_ (pa_consD rfl (pd_op op_addU (os_add rfl) (pd_cb1 call_len (oc_len rfl) rfl bt.len_ boot_len (by decide) (by decide) rfl (np 5)) (EvE.toP pd_int)) pa_nilD) rfl) (blkOk_by (by kernel_rfl)) (fun _ _ _ _ _ => (gn 10 nd)) (fun _ _ _ _ _ => pts_yes) (fun _ _ _ _ _ => (pd_or rfl (pd_cmpL (op_eqD hr.units) (os_eq rfl) rfl (pv 10) (np 9)) (pe_one (pd_cmpL op_ge os_cmp rfl (pv 10) (EvE.toP (pd_cb1 call_len (oc_len rfl) rfl bt.len_ boot_len (by decide) (by decide) rfl (np 5))))))) (by intro _; rfl))))) (qs_one (qs_ret pd_bl)) qs_nil)) (by intro _; rfl))
  (qs_one (qs_ret pd_bl)))))))))))
end
end LW

namespace LW
open MP L2 PyProof.Rows PySem PySem.Spec
def d__law_box : He.DefD := ⟨("_law_box", none), "_law_box", "_law_box", defArgs s__law_box, defBody s__law_box, defScope s__law_box, [], []⟩
def d__law_take : He.DefD := ⟨("_law_take", none), "_law_take", "_law_take", defArgs s__law_take, defBody s__law_take, defScope s__law_take, [], []⟩
def d__law_kinds : He.DefD := ⟨("_law_kinds", none), "_law_kinds", "_law_kinds", defArgs s__law_kinds, defBody s__law_kinds, defScope s__law_kinds, [], []⟩
def d__law_pick : He.DefD := ⟨("_law_pick", none), "_law_pick", "_law_pick", defArgs s__law_pick, defBody s__law_pick, defScope s__law_pick, [], []⟩
def d__law_ones : He.DefD := ⟨("_law_ones", none), "_law_ones", "_law_ones", defArgs s__law_ones, defBody s__law_ones, defScope s__law_ones, [], []⟩
def d__law_others : He.DefD := ⟨("_law_others", none), "_law_others", "_law_others", defArgs s__law_others, defBody s__law_others, defScope s__law_others, [], []⟩
def d_law : He.DefD := ⟨("law", none), "law", "law", defArgs s_law, defBody s_law, defScope s_law, [], []⟩
def d_InvalidNumber : He.DefD := ⟨("InvalidNumber", some "__init__"), "__init__", "InvalidNumber.__init__", defArgs s_InvalidNumber, defBody s_InvalidNumber, defScope s_InvalidNumber, [], []⟩
def d_InvalidWord : He.DefD := ⟨("InvalidWord", some "__init__"), "__init__", "InvalidWord.__init__", defArgs s_InvalidWord, defBody s_InvalidWord, defScope s_InvalidWord, [], []⟩
def d_InvalidLine : He.DefD := ⟨("InvalidLine", some "__init__"), "__init__", "InvalidLine.__init__", defArgs s_InvalidLine, defBody s_InvalidLine, defScope s_InvalidLine, [], []⟩
def d_InvalidCode : He.DefD := ⟨("InvalidCode", some "__init__"), "__init__", "InvalidCode.__init__", defArgs s_InvalidCode, defBody s_InvalidCode, defScope s_InvalidCode, [], []⟩
def d_Endless : He.DefD := ⟨("Endless", some "__init__"), "__init__", "Endless.__init__", defArgs s_Endless, defBody s_Endless, defScope s_Endless, [], []⟩
def d_TooLong : He.DefD := ⟨("TooLong", some "__init__"), "__init__", "TooLong.__init__", defArgs s_TooLong, defBody s_TooLong, defScope s_TooLong, [], []⟩
def d_TooLarge : He.DefD := ⟨("TooLarge", some "__init__"), "__init__", "TooLarge.__init__", defArgs s_TooLarge, defBody s_TooLarge, defScope s_TooLarge, [], []⟩
def d_InvalidRow : He.DefD := ⟨("InvalidRow", some "__init__"), "__init__", "InvalidRow.__init__", defArgs s_InvalidRow, defBody s_InvalidRow, defScope s_InvalidRow, [], []⟩
def d_InvalidMoves : He.DefD := ⟨("InvalidMoves", some "__init__"), "__init__", "InvalidMoves.__init__", defArgs s_InvalidMoves, defBody s_InvalidMoves, defScope s_InvalidMoves, [], []⟩
def d_InvalidText : He.DefD := ⟨("InvalidText", some "__init__"), "__init__", "InvalidText.__init__", defArgs s_InvalidText, defBody s_InvalidText, defScope s_InvalidText, [], []⟩
def d_InvalidForm : He.DefD := ⟨("InvalidForm", some "__init__"), "__init__", "InvalidForm.__init__", defArgs s_InvalidForm, defBody s_InvalidForm, defScope s_InvalidForm, [], []⟩
def d_InvalidEntries : He.DefD := ⟨("InvalidEntries", some "__init__"), "__init__", "InvalidEntries.__init__", defArgs s_InvalidEntries, defBody s_InvalidEntries, defScope s_InvalidEntries, [], []⟩
def d_InvalidCut : He.DefD := ⟨("InvalidCut", some "__init__"), "__init__", "InvalidCut.__init__", defArgs s_InvalidCut, defBody s_InvalidCut, defScope s_InvalidCut, [], []⟩
def d_InvalidTables : He.DefD := ⟨("InvalidTables", some "__init__"), "__init__", "InvalidTables.__init__", defArgs s_InvalidTables, defBody s_InvalidTables, defScope s_InvalidTables, [], []⟩
def d_InvalidWords : He.DefD := ⟨("InvalidWords", some "__init__"), "__init__", "InvalidWords.__init__", defArgs s_InvalidWords, defBody s_InvalidWords, defScope s_InvalidWords, [], []⟩
def d_InvalidImage : He.DefD := ⟨("InvalidImage", some "__init__"), "__init__", "InvalidImage.__init__", defArgs s_InvalidImage, defBody s_InvalidImage, defScope s_InvalidImage, [], []⟩
def d_InvalidPlan : He.DefD := ⟨("InvalidPlan", some "__init__"), "__init__", "InvalidPlan.__init__", defArgs s_InvalidPlan, defBody s_InvalidPlan, defScope s_InvalidPlan, [], []⟩
def d_Unset : He.DefD := ⟨("Unset", some "__init__"), "__init__", "Unset.__init__", defArgs s_Unset, defBody s_Unset, defScope s_Unset, [], []⟩
def d_InvalidPlacement : He.DefD := ⟨("InvalidPlacement", some "__init__"), "__init__", "InvalidPlacement.__init__", defArgs s_InvalidPlacement, defBody s_InvalidPlacement, defScope s_InvalidPlacement, [], []⟩
def d_InvalidSaves : He.DefD := ⟨("InvalidSaves", some "__init__"), "__init__", "InvalidSaves.__init__", defArgs s_InvalidSaves, defBody s_InvalidSaves, defScope s_InvalidSaves, [], []⟩
def d_InvalidSlot : He.DefD := ⟨("InvalidSlot", some "__init__"), "__init__", "InvalidSlot.__init__", defArgs s_InvalidSlot, defBody s_InvalidSlot, defScope s_InvalidSlot, [], []⟩
def d_InvalidQuestion : He.DefD := ⟨("InvalidQuestion", some "__init__"), "__init__", "InvalidQuestion.__init__", defArgs s_InvalidQuestion, defBody s_InvalidQuestion, defScope s_InvalidQuestion, [], []⟩
def d_InvalidClaim : He.DefD := ⟨("InvalidClaim", some "__init__"), "__init__", "InvalidClaim.__init__", defArgs s_InvalidClaim, defBody s_InvalidClaim, defScope s_InvalidClaim, [], []⟩
def d_Undefined : He.DefD := ⟨("Undefined", some "__init__"), "__init__", "Undefined.__init__", defArgs s_Undefined, defBody s_Undefined, defScope s_Undefined, [], []⟩
def d_NothingToUndo : He.DefD := ⟨("NothingToUndo", some "__init__"), "__init__", "NothingToUndo.__init__", defArgs s_NothingToUndo, defBody s_NothingToUndo, defScope s_NothingToUndo, [], []⟩
def fns : List He.DefD := [d__law_box, d__law_take, d__law_kinds, d__law_pick, d__law_ones, d__law_others, d_law, d_InvalidNumber, d_InvalidWord, d_InvalidLine, d_InvalidCode, d_Endless, d_TooLong, d_TooLarge, d_InvalidRow, d_InvalidMoves, d_InvalidText, d_InvalidForm, d_InvalidEntries, d_InvalidCut, d_InvalidTables, d_InvalidWords, d_InvalidImage, d_InvalidPlan, d_Unset, d_InvalidPlacement, d_InvalidSaves, d_InvalidSlot, d_InvalidQuestion, d_InvalidClaim, d_Undefined, d_NothingToUndo]
def fas : List He.Fa := [.glo "_law_box", .glo "_law_take", .glo "_law_kinds", .glo "_law_pick", .glo "_law_ones", .glo "_law_others", .glo "law", .glo "InvalidNumber", .glo "InvalidWord", .glo "InvalidLine", .glo "InvalidCode", .glo "Endless", .glo "TooLong", .glo "TooLarge", .glo "InvalidRow", .glo "InvalidMoves", .glo "InvalidText", .glo "InvalidForm", .glo "InvalidEntries", .glo "InvalidCut", .glo "InvalidTables", .glo "InvalidWords", .glo "InvalidImage", .glo "InvalidPlan", .glo "Unset", .glo "InvalidPlacement", .glo "InvalidSaves", .glo "InvalidSlot", .glo "InvalidQuestion", .glo "InvalidClaim", .glo "Undefined", .glo "NothingToUndo", .free "ValueError", .free "abs", .free "int", .free "isinstance", .free "len", .free "range", .free "str", .glo "TrimError"]
def cks : List (PySem.W.Frag → Bool) := [exB "InvalidNumber" ["value"], exB "InvalidWord" ["value"], exB "InvalidLine" ["line"], exB "InvalidCode" ["value"], exB "Endless" ["place"], exB "TooLong" ["place"], exB "TooLarge" ["many"], exB "InvalidRow" ["value"], exB "InvalidMoves" ["value"], exB "InvalidText" ["text", "at"], exB "InvalidForm" ["value"], exB "InvalidEntries" ["value"], exB "InvalidCut" ["value"], exB "InvalidTables" ["value"], exB "InvalidWords" ["value"], exB "InvalidImage" ["at"], exB "InvalidPlan" ["value"], exB "Unset" ["place", "slot"], exB "InvalidPlacement" ["value"], exB "InvalidSaves" ["value"], exB "InvalidSlot" ["value"], exB "InvalidQuestion" ["value"], exB "InvalidClaim" ["value"], exB "Undefined" ["what"], exB "NothingToUndo" ["word"], ikA (tab.map (·.1)), ikB it_Endless (fun K => .ref (caK K [69, 110, 100, 108, 101, 115, 115])), ikB it_InvalidClaim (fun K => .ref (caK K [73, 110, 118, 97, 108, 105, 100, 67, 108, 97, 105, 109])), ikB it_InvalidCode (fun K => .ref (caK K [73, 110, 118, 97, 108, 105, 100, 67, 111, 100, 101])), ikB it_InvalidCut (fun K => .ref (caK K [73, 110, 118, 97, 108, 105, 100, 67, 117, 116])), ikB it_InvalidEntries (fun K => .ref (caK K [73, 110, 118, 97, 108, 105, 100, 69, 110, 116, 114, 105, 101, 115])), ikB it_InvalidForm (fun K => .ref (caK K [73, 110, 118, 97, 108, 105, 100, 70, 111, 114, 109])), ikB it_InvalidImage (fun K => .ref (caK K [73, 110, 118, 97, 108, 105, 100, 73, 109, 97, 103, 101])), ikB it_InvalidLine (fun K => .ref (caK K [73, 110, 118, 97, 108, 105, 100, 76, 105, 110, 101])), ikB it_InvalidMoves (fun K => .ref (caK K [73, 110, 118, 97, 108, 105, 100, 77, 111, 118, 101, 115])), ikB it_InvalidNumber (fun K => .ref (caK K [73, 110, 118, 97, 108, 105, 100, 78, 117, 109, 98, 101, 114])), ikB it_InvalidPlacement (fun K => .ref (caK K [73, 110, 118, 97, 108, 105, 100, 80, 108, 97, 99, 101, 109, 101, 110, 116])), ikB it_InvalidPlan (fun K => .ref (caK K [73, 110, 118, 97, 108, 105, 100, 80, 108, 97, 110])), ikB it_InvalidQuestion (fun K => .ref (caK K [73, 110, 118, 97, 108, 105, 100, 81, 117, 101, 115, 116, 105, 111, 110])), ikB it_InvalidRow (fun K => .ref (caK K [73, 110, 118, 97, 108, 105, 100, 82, 111, 119])), ikB it_InvalidSaves (fun K => .ref (caK K [73, 110, 118, 97, 108, 105, 100, 83, 97, 118, 101, 115])), ikB it_InvalidSlot (fun K => .ref (caK K [73, 110, 118, 97, 108, 105, 100, 83, 108, 111, 116])), ikB it_InvalidTables (fun K => .ref (caK K [73, 110, 118, 97, 108, 105, 100, 84, 97, 98, 108, 101, 115])), ikB it_InvalidText (fun K => .ref (caK K [73, 110, 118, 97, 108, 105, 100, 84, 101, 120, 116])), ikB it_InvalidWord (fun K => .ref (caK K [73, 110, 118, 97, 108, 105, 100, 87, 111, 114, 100])), ikB it_InvalidWords (fun K => .ref (caK K [73, 110, 118, 97, 108, 105, 100, 87, 111, 114, 100, 115])), ikB it_NothingToUndo (fun K => .ref (caK K [78, 111, 116, 104, 105, 110, 103, 84, 111, 85, 110, 100, 111])), ikB it_TooLarge (fun K => .ref (caK K [84, 111, 111, 76, 97, 114, 103, 101])), ikB it_TooLong (fun K => .ref (caK K [84, 111, 111, 76, 111, 110, 103])), ikB it_TrimError (fun K => .ref (caK K [84, 114, 105, 109, 69, 114, 114, 111, 114])), ikB it_Undefined (fun K => .ref (caK K [85, 110, 100, 101, 102, 105, 110, 101, 100])), ikB it_Unset (fun K => .ref (caK K [85, 110, 115, 101, 116])), ikB it_ValueError (fun _ => .type "ValueError")]
def loose0 : List PySem.Str := ["TrimError", "InvalidNumber", "InvalidWord", "InvalidLine", "InvalidCode", "Endless", "TooLong", "TooLarge", "InvalidRow", "InvalidMoves", "InvalidText", "InvalidForm", "InvalidEntries", "InvalidCut", "InvalidTables", "InvalidWords", "InvalidImage", "InvalidPlan", "Unset", "InvalidPlacement", "InvalidSaves", "InvalidSlot", "InvalidQuestion", "InvalidClaim", "Undefined", "NothingToUndo", "_law_box", "_law_take", "_law_pick", "_law_ones"]
def loose1 : List PySem.Str := ["_law_others", "_law_kinds"]
def loose : List PySem.Str := loose0 ++ loose1
abbrev RR : PySem.W.OpenRow := PySem.W.OpenLaw.row PySem.Challenge.rw_calltrim_k01_errors
abbrev hkk : PySem.W.Hook := hookN 5 fas fns cks
def ob (s : PySem.W.SharedT) : AlM := obsNG 5 fas fns cks (HandSHeadRun.getT s)
theorem ob_eq (s : PySem.W.SharedT) : ob s = hkk.obs s.abs := obsNG_eq (HandSHeadRun.getT_eq s)
theorem run (w : World) : HandSHeadRun.RunEq RR (PySem.W.view RR.prog [34]) hkk ob 9000 loose w := by
  intro os
  kernel_rfl
theorem facts {P : Program} {w : World} {K : PySem.W.Frag} {h : Heap} {mg : Str → Option Value} {f : Addr} (X : K.In h) (G : h.Ns mainGlobals mg) (hfa : mg ("law" : Str) = some (.ref f)) (c : SaysM fas fns cks K) :
    ∃ fd : FuncData, (∀ (s : Shared) (v : Value), BindsTo s fd ⟨[v], []⟩ [("script", v)]) ∧ ∀ base : Heap, FnOk P w K mg base (L2.CX P w) 5 f fd ["script"] (spF (gg K) 1 r_law false F_law) := by
  have bt : Bt mg K := ⟨He.free_ok X G (c.toD.fact 32 (f := .free "ValueError") rfl), He.free_ok X G (c.toD.fact 33 (f := .free "abs") rfl), He.free_ok X G (c.toD.fact 34 (f := .free "int") rfl), He.free_ok X G (c.toD.fact 35 (f := .free "isinstance") rfl), He.free_ok X G (c.toD.fact 36 (f := .free "len") rfl), He.free_ok X G (c.toD.fact 37 (f := .free "range") rfl), He.free_ok X G (c.toD.fact 38 (f := .free "str") rfl)⟩
  have hit : Hit K := ⟨trivial⟩
  have xx_InvalidNumber := exB_ok (cls := [73, 110, 118, 97, 108, 105, 100, 78, 117, 109, 98, 101, 114]) (c.chk 0 (f := exB "InvalidNumber" ["value"]) rfl) (by decide +kernel)
  have xm_InvalidNumber := glo_ca (cls := [73, 110, 118, 97, 108, 105, 100, 78, 117, 109, 98, 101, 114]) X G (c.toD.fact 7 (f := .glo "InvalidNumber") rfl) (by decide +kernel)
  have x_InvalidNumber : Xk mg K "InvalidNumber" [73, 110, 118, 97, 108, 105, 100, 78, 117, 109, 98, 101, 114] ["value"] := ⟨xm_InvalidNumber, xx_InvalidNumber.xf, xx_InvalidNumber.no⟩
  have xx_InvalidWord := exB_ok (cls := [73, 110, 118, 97, 108, 105, 100, 87, 111, 114, 100]) (c.chk 1 (f := exB "InvalidWord" ["value"]) rfl) (by decide +kernel)
  have xm_InvalidWord := glo_ca (cls := [73, 110, 118, 97, 108, 105, 100, 87, 111, 114, 100]) X G (c.toD.fact 8 (f := .glo "InvalidWord") rfl) (by decide +kernel)
  have x_InvalidWord : Xk mg K "InvalidWord" [73, 110, 118, 97, 108, 105, 100, 87, 111, 114, 100] ["value"] := ⟨xm_InvalidWord, xx_InvalidWord.xf, xx_InvalidWord.no⟩
  have xx_InvalidLine := exB_ok (cls := [73, 110, 118, 97, 108, 105, 100, 76, 105, 110, 101]) (c.chk 2 (f := exB "InvalidLine" ["line"]) rfl) (by decide +kernel)
  have xm_InvalidLine := glo_ca (cls := [73, 110, 118, 97, 108, 105, 100, 76, 105, 110, 101]) X G (c.toD.fact 9 (f := .glo "InvalidLine") rfl) (by decide +kernel)
  have x_InvalidLine : Xk mg K "InvalidLine" [73, 110, 118, 97, 108, 105, 100, 76, 105, 110, 101] ["line"] := ⟨xm_InvalidLine, xx_InvalidLine.xf, xx_InvalidLine.no⟩
  have xx_InvalidCode := exB_ok (cls := [73, 110, 118, 97, 108, 105, 100, 67, 111, 100, 101]) (c.chk 3 (f := exB "InvalidCode" ["value"]) rfl) (by decide +kernel)
  have xm_InvalidCode := glo_ca (cls := [73, 110, 118, 97, 108, 105, 100, 67, 111, 100, 101]) X G (c.toD.fact 10 (f := .glo "InvalidCode") rfl) (by decide +kernel)
  have x_InvalidCode : Xk mg K "InvalidCode" [73, 110, 118, 97, 108, 105, 100, 67, 111, 100, 101] ["value"] := ⟨xm_InvalidCode, xx_InvalidCode.xf, xx_InvalidCode.no⟩
  have xx_Endless := exB_ok (cls := [69, 110, 100, 108, 101, 115, 115]) (c.chk 4 (f := exB "Endless" ["place"]) rfl) (by decide +kernel)
  have xm_Endless := glo_ca (cls := [69, 110, 100, 108, 101, 115, 115]) X G (c.toD.fact 11 (f := .glo "Endless") rfl) (by decide +kernel)
  have x_Endless : Xk mg K "Endless" [69, 110, 100, 108, 101, 115, 115] ["place"] := ⟨xm_Endless, xx_Endless.xf, xx_Endless.no⟩
  have xx_TooLong := exB_ok (cls := [84, 111, 111, 76, 111, 110, 103]) (c.chk 5 (f := exB "TooLong" ["place"]) rfl) (by decide +kernel)
  have xm_TooLong := glo_ca (cls := [84, 111, 111, 76, 111, 110, 103]) X G (c.toD.fact 12 (f := .glo "TooLong") rfl) (by decide +kernel)
  have x_TooLong : Xk mg K "TooLong" [84, 111, 111, 76, 111, 110, 103] ["place"] := ⟨xm_TooLong, xx_TooLong.xf, xx_TooLong.no⟩
  have xx_TooLarge := exB_ok (cls := [84, 111, 111, 76, 97, 114, 103, 101]) (c.chk 6 (f := exB "TooLarge" ["many"]) rfl) (by decide +kernel)
  have xm_TooLarge := glo_ca (cls := [84, 111, 111, 76, 97, 114, 103, 101]) X G (c.toD.fact 13 (f := .glo "TooLarge") rfl) (by decide +kernel)
  have x_TooLarge : Xk mg K "TooLarge" [84, 111, 111, 76, 97, 114, 103, 101] ["many"] := ⟨xm_TooLarge, xx_TooLarge.xf, xx_TooLarge.no⟩
  have xx_InvalidRow := exB_ok (cls := [73, 110, 118, 97, 108, 105, 100, 82, 111, 119]) (c.chk 7 (f := exB "InvalidRow" ["value"]) rfl) (by decide +kernel)
  have xm_InvalidRow := glo_ca (cls := [73, 110, 118, 97, 108, 105, 100, 82, 111, 119]) X G (c.toD.fact 14 (f := .glo "InvalidRow") rfl) (by decide +kernel)
  have x_InvalidRow : Xk mg K "InvalidRow" [73, 110, 118, 97, 108, 105, 100, 82, 111, 119] ["value"] := ⟨xm_InvalidRow, xx_InvalidRow.xf, xx_InvalidRow.no⟩
  have xx_InvalidMoves := exB_ok (cls := [73, 110, 118, 97, 108, 105, 100, 77, 111, 118, 101, 115]) (c.chk 8 (f := exB "InvalidMoves" ["value"]) rfl) (by decide +kernel)
  have xm_InvalidMoves := glo_ca (cls := [73, 110, 118, 97, 108, 105, 100, 77, 111, 118, 101, 115]) X G (c.toD.fact 15 (f := .glo "InvalidMoves") rfl) (by decide +kernel)
  have x_InvalidMoves : Xk mg K "InvalidMoves" [73, 110, 118, 97, 108, 105, 100, 77, 111, 118, 101, 115] ["value"] := ⟨xm_InvalidMoves, xx_InvalidMoves.xf, xx_InvalidMoves.no⟩
  have xx_InvalidText := exB_ok (cls := [73, 110, 118, 97, 108, 105, 100, 84, 101, 120, 116]) (c.chk 9 (f := exB "InvalidText" ["text", "at"]) rfl) (by decide +kernel)
  have xm_InvalidText := glo_ca (cls := [73, 110, 118, 97, 108, 105, 100, 84, 101, 120, 116]) X G (c.toD.fact 16 (f := .glo "InvalidText") rfl) (by decide +kernel)
  have x_InvalidText : Xk mg K "InvalidText" [73, 110, 118, 97, 108, 105, 100, 84, 101, 120, 116] ["text", "at"] := ⟨xm_InvalidText, xx_InvalidText.xf, xx_InvalidText.no⟩
  have xx_InvalidForm := exB_ok (cls := [73, 110, 118, 97, 108, 105, 100, 70, 111, 114, 109]) (c.chk 10 (f := exB "InvalidForm" ["value"]) rfl) (by decide +kernel)
  have xm_InvalidForm := glo_ca (cls := [73, 110, 118, 97, 108, 105, 100, 70, 111, 114, 109]) X G (c.toD.fact 17 (f := .glo "InvalidForm") rfl) (by decide +kernel)
  have x_InvalidForm : Xk mg K "InvalidForm" [73, 110, 118, 97, 108, 105, 100, 70, 111, 114, 109] ["value"] := ⟨xm_InvalidForm, xx_InvalidForm.xf, xx_InvalidForm.no⟩
  have xx_InvalidEntries := exB_ok (cls := [73, 110, 118, 97, 108, 105, 100, 69, 110, 116, 114, 105, 101, 115]) (c.chk 11 (f := exB "InvalidEntries" ["value"]) rfl) (by decide +kernel)
  have xm_InvalidEntries := glo_ca (cls := [73, 110, 118, 97, 108, 105, 100, 69, 110, 116, 114, 105, 101, 115]) X G (c.toD.fact 18 (f := .glo "InvalidEntries") rfl) (by decide +kernel)
  have x_InvalidEntries : Xk mg K "InvalidEntries" [73, 110, 118, 97, 108, 105, 100, 69, 110, 116, 114, 105, 101, 115] ["value"] := ⟨xm_InvalidEntries, xx_InvalidEntries.xf, xx_InvalidEntries.no⟩
  have xx_InvalidCut := exB_ok (cls := [73, 110, 118, 97, 108, 105, 100, 67, 117, 116]) (c.chk 12 (f := exB "InvalidCut" ["value"]) rfl) (by decide +kernel)
  have xm_InvalidCut := glo_ca (cls := [73, 110, 118, 97, 108, 105, 100, 67, 117, 116]) X G (c.toD.fact 19 (f := .glo "InvalidCut") rfl) (by decide +kernel)
  have x_InvalidCut : Xk mg K "InvalidCut" [73, 110, 118, 97, 108, 105, 100, 67, 117, 116] ["value"] := ⟨xm_InvalidCut, xx_InvalidCut.xf, xx_InvalidCut.no⟩
  have xx_InvalidTables := exB_ok (cls := [73, 110, 118, 97, 108, 105, 100, 84, 97, 98, 108, 101, 115]) (c.chk 13 (f := exB "InvalidTables" ["value"]) rfl) (by decide +kernel)
  have xm_InvalidTables := glo_ca (cls := [73, 110, 118, 97, 108, 105, 100, 84, 97, 98, 108, 101, 115]) X G (c.toD.fact 20 (f := .glo "InvalidTables") rfl) (by decide +kernel)
  have x_InvalidTables : Xk mg K "InvalidTables" [73, 110, 118, 97, 108, 105, 100, 84, 97, 98, 108, 101, 115] ["value"] := ⟨xm_InvalidTables, xx_InvalidTables.xf, xx_InvalidTables.no⟩
  have xx_InvalidWords := exB_ok (cls := [73, 110, 118, 97, 108, 105, 100, 87, 111, 114, 100, 115]) (c.chk 14 (f := exB "InvalidWords" ["value"]) rfl) (by decide +kernel)
  have xm_InvalidWords := glo_ca (cls := [73, 110, 118, 97, 108, 105, 100, 87, 111, 114, 100, 115]) X G (c.toD.fact 21 (f := .glo "InvalidWords") rfl) (by decide +kernel)
  have x_InvalidWords : Xk mg K "InvalidWords" [73, 110, 118, 97, 108, 105, 100, 87, 111, 114, 100, 115] ["value"] := ⟨xm_InvalidWords, xx_InvalidWords.xf, xx_InvalidWords.no⟩
  have xx_InvalidImage := exB_ok (cls := [73, 110, 118, 97, 108, 105, 100, 73, 109, 97, 103, 101]) (c.chk 15 (f := exB "InvalidImage" ["at"]) rfl) (by decide +kernel)
  have xm_InvalidImage := glo_ca (cls := [73, 110, 118, 97, 108, 105, 100, 73, 109, 97, 103, 101]) X G (c.toD.fact 22 (f := .glo "InvalidImage") rfl) (by decide +kernel)
  have x_InvalidImage : Xk mg K "InvalidImage" [73, 110, 118, 97, 108, 105, 100, 73, 109, 97, 103, 101] ["at"] := ⟨xm_InvalidImage, xx_InvalidImage.xf, xx_InvalidImage.no⟩
  have xx_InvalidPlan := exB_ok (cls := [73, 110, 118, 97, 108, 105, 100, 80, 108, 97, 110]) (c.chk 16 (f := exB "InvalidPlan" ["value"]) rfl) (by decide +kernel)
  have xm_InvalidPlan := glo_ca (cls := [73, 110, 118, 97, 108, 105, 100, 80, 108, 97, 110]) X G (c.toD.fact 23 (f := .glo "InvalidPlan") rfl) (by decide +kernel)
  have x_InvalidPlan : Xk mg K "InvalidPlan" [73, 110, 118, 97, 108, 105, 100, 80, 108, 97, 110] ["value"] := ⟨xm_InvalidPlan, xx_InvalidPlan.xf, xx_InvalidPlan.no⟩
  have xx_Unset := exB_ok (cls := [85, 110, 115, 101, 116]) (c.chk 17 (f := exB "Unset" ["place", "slot"]) rfl) (by decide +kernel)
  have xm_Unset := glo_ca (cls := [85, 110, 115, 101, 116]) X G (c.toD.fact 24 (f := .glo "Unset") rfl) (by decide +kernel)
  have x_Unset : Xk mg K "Unset" [85, 110, 115, 101, 116] ["place", "slot"] := ⟨xm_Unset, xx_Unset.xf, xx_Unset.no⟩
  have xx_InvalidPlacement := exB_ok (cls := [73, 110, 118, 97, 108, 105, 100, 80, 108, 97, 99, 101, 109, 101, 110, 116]) (c.chk 18 (f := exB "InvalidPlacement" ["value"]) rfl) (by decide +kernel)
  have xm_InvalidPlacement := glo_ca (cls := [73, 110, 118, 97, 108, 105, 100, 80, 108, 97, 99, 101, 109, 101, 110, 116]) X G (c.toD.fact 25 (f := .glo "InvalidPlacement") rfl) (by decide +kernel)
  have x_InvalidPlacement : Xk mg K "InvalidPlacement" [73, 110, 118, 97, 108, 105, 100, 80, 108, 97, 99, 101, 109, 101, 110, 116] ["value"] := ⟨xm_InvalidPlacement, xx_InvalidPlacement.xf, xx_InvalidPlacement.no⟩
  have xx_InvalidSaves := exB_ok (cls := [73, 110, 118, 97, 108, 105, 100, 83, 97, 118, 101, 115]) (c.chk 19 (f := exB "InvalidSaves" ["value"]) rfl) (by decide +kernel)
  have xm_InvalidSaves := glo_ca (cls := [73, 110, 118, 97, 108, 105, 100, 83, 97, 118, 101, 115]) X G (c.toD.fact 26 (f := .glo "InvalidSaves") rfl) (by decide +kernel)
  have x_InvalidSaves : Xk mg K "InvalidSaves" [73, 110, 118, 97, 108, 105, 100, 83, 97, 118, 101, 115] ["value"] := ⟨xm_InvalidSaves, xx_InvalidSaves.xf, xx_InvalidSaves.no⟩
  have xx_InvalidSlot := exB_ok (cls := [73, 110, 118, 97, 108, 105, 100, 83, 108, 111, 116]) (c.chk 20 (f := exB "InvalidSlot" ["value"]) rfl) (by decide +kernel)
  have xm_InvalidSlot := glo_ca (cls := [73, 110, 118, 97, 108, 105, 100, 83, 108, 111, 116]) X G (c.toD.fact 27 (f := .glo "InvalidSlot") rfl) (by decide +kernel)
  have x_InvalidSlot : Xk mg K "InvalidSlot" [73, 110, 118, 97, 108, 105, 100, 83, 108, 111, 116] ["value"] := ⟨xm_InvalidSlot, xx_InvalidSlot.xf, xx_InvalidSlot.no⟩
  have xx_InvalidQuestion := exB_ok (cls := [73, 110, 118, 97, 108, 105, 100, 81, 117, 101, 115, 116, 105, 111, 110]) (c.chk 21 (f := exB "InvalidQuestion" ["value"]) rfl) (by decide +kernel)
  have xm_InvalidQuestion := glo_ca (cls := [73, 110, 118, 97, 108, 105, 100, 81, 117, 101, 115, 116, 105, 111, 110]) X G (c.toD.fact 28 (f := .glo "InvalidQuestion") rfl) (by decide +kernel)
  have x_InvalidQuestion : Xk mg K "InvalidQuestion" [73, 110, 118, 97, 108, 105, 100, 81, 117, 101, 115, 116, 105, 111, 110] ["value"] := ⟨xm_InvalidQuestion, xx_InvalidQuestion.xf, xx_InvalidQuestion.no⟩
  have xx_InvalidClaim := exB_ok (cls := [73, 110, 118, 97, 108, 105, 100, 67, 108, 97, 105, 109]) (c.chk 22 (f := exB "InvalidClaim" ["value"]) rfl) (by decide +kernel)
  have xm_InvalidClaim := glo_ca (cls := [73, 110, 118, 97, 108, 105, 100, 67, 108, 97, 105, 109]) X G (c.toD.fact 29 (f := .glo "InvalidClaim") rfl) (by decide +kernel)
  have x_InvalidClaim : Xk mg K "InvalidClaim" [73, 110, 118, 97, 108, 105, 100, 67, 108, 97, 105, 109] ["value"] := ⟨xm_InvalidClaim, xx_InvalidClaim.xf, xx_InvalidClaim.no⟩
  have xx_Undefined := exB_ok (cls := [85, 110, 100, 101, 102, 105, 110, 101, 100]) (c.chk 23 (f := exB "Undefined" ["what"]) rfl) (by decide +kernel)
  have xm_Undefined := glo_ca (cls := [85, 110, 100, 101, 102, 105, 110, 101, 100]) X G (c.toD.fact 30 (f := .glo "Undefined") rfl) (by decide +kernel)
  have x_Undefined : Xk mg K "Undefined" [85, 110, 100, 101, 102, 105, 110, 101, 100] ["what"] := ⟨xm_Undefined, xx_Undefined.xf, xx_Undefined.no⟩
  have xx_NothingToUndo := exB_ok (cls := [78, 111, 116, 104, 105, 110, 103, 84, 111, 85, 110, 100, 111]) (c.chk 24 (f := exB "NothingToUndo" ["word"]) rfl) (by decide +kernel)
  have xm_NothingToUndo := glo_ca (cls := [78, 111, 116, 104, 105, 110, 103, 84, 111, 85, 110, 100, 111]) X G (c.toD.fact 31 (f := .glo "NothingToUndo") rfl) (by decide +kernel)
  have x_NothingToUndo : Xk mg K "NothingToUndo" [78, 111, 116, 104, 105, 110, 103, 84, 111, 85, 110, 100, 111] ["word"] := ⟨xm_NothingToUndo, xx_NothingToUndo.xf, xx_NothingToUndo.no⟩
  have xf_InvalidNumber := xx_InvalidNumber.xf
  have xf_InvalidWord := xx_InvalidWord.xf
  have xf_InvalidLine := xx_InvalidLine.xf
  have xf_InvalidCode := xx_InvalidCode.xf
  have xf_Endless := xx_Endless.xf
  have xf_TooLong := xx_TooLong.xf
  have xf_TooLarge := xx_TooLarge.xf
  have xf_InvalidRow := xx_InvalidRow.xf
  have xf_InvalidMoves := xx_InvalidMoves.xf
  have xf_InvalidText := xx_InvalidText.xf
  have xf_InvalidForm := xx_InvalidForm.xf
  have xf_InvalidEntries := xx_InvalidEntries.xf
  have xf_InvalidCut := xx_InvalidCut.xf
  have xf_InvalidTables := xx_InvalidTables.xf
  have xf_InvalidWords := xx_InvalidWords.xf
  have xf_InvalidImage := xx_InvalidImage.xf
  have xf_InvalidPlan := xx_InvalidPlan.xf
  have xf_Unset := xx_Unset.xf
  have xf_InvalidPlacement := xx_InvalidPlacement.xf
  have xf_InvalidSaves := xx_InvalidSaves.xf
  have xf_InvalidSlot := xx_InvalidSlot.xf
  have xf_InvalidQuestion := xx_InvalidQuestion.xf
  have xf_InvalidClaim := xx_InvalidClaim.xf
  have xf_Undefined := xx_Undefined.xf
  have xf_NothingToUndo := xx_NothingToUndo.xf
  have ik : Ik mg K := ⟨ik_ok (u := fun K => .ref (caK K [69, 110, 100, 108, 101, 115, 115])) (c.chk 25 (f := ikA (tab.map (·.1))) rfl) (c.chk 26 (f := ikB it_Endless (fun K => .ref (caK K [69, 110, 100, 108, 101, 115, 115]))) rfl) rfl, glo_ca (cls := [69, 110, 100, 108, 101, 115, 115]) X G (c.toD.fact 11 (f := .glo "Endless") rfl) (by decide +kernel), ik_ok (u := fun K => .ref (caK K [73, 110, 118, 97, 108, 105, 100, 67, 108, 97, 105, 109])) (c.chk 25 (f := ikA (tab.map (·.1))) rfl) (c.chk 27 (f := ikB it_InvalidClaim (fun K => .ref (caK K [73, 110, 118, 97, 108, 105, 100, 67, 108, 97, 105, 109]))) rfl) rfl, glo_ca (cls := [73, 110, 118, 97, 108, 105, 100, 67, 108, 97, 105, 109]) X G (c.toD.fact 29 (f := .glo "InvalidClaim") rfl) (by decide +kernel), ik_ok (u := fun K => .ref (caK K [73, 110, 118, 97, 108, 105, 100, 67, 111, 100, 101])) (c.chk 25 (f := ikA (tab.map (·.1))) rfl) (c.chk 28 (f := ikB it_InvalidCode (fun K => .ref (caK K [73, 110, 118, 97, 108, 105, 100, 67, 111, 100, 101]))) rfl) rfl, glo_ca (cls := [73, 110, 118, 97, 108, 105, 100, 67, 111, 100, 101]) X G (c.toD.fact 10 (f := .glo "InvalidCode") rfl) (by decide +kernel), ik_ok (u := fun K => .ref (caK K [73, 110, 118, 97, 108, 105, 100, 67, 117, 116])) (c.chk 25 (f := ikA (tab.map (·.1))) rfl) (c.chk 29 (f := ikB it_InvalidCut (fun K => .ref (caK K [73, 110, 118, 97, 108, 105, 100, 67, 117, 116]))) rfl) rfl, glo_ca (cls := [73, 110, 118, 97, 108, 105, 100, 67, 117, 116]) X G (c.toD.fact 19 (f := .glo "InvalidCut") rfl) (by decide +kernel), ik_ok (u := fun K => .ref (caK K [73, 110, 118, 97, 108, 105, 100, 69, 110, 116, 114, 105, 101, 115])) (c.chk 25 (f := ikA (tab.map (·.1))) rfl) (c.chk 30 (f := ikB it_InvalidEntries (fun K => .ref (caK K [73, 110, 118, 97, 108, 105, 100, 69, 110, 116, 114, 105, 101, 115]))) rfl) rfl, glo_ca (cls := [73, 110, 118, 97, 108, 105, 100, 69, 110, 116, 114, 105, 101, 115]) X G (c.toD.fact 18 (f := .glo "InvalidEntries") rfl) (by decide +kernel), ik_ok (u := fun K => .ref (caK K [73, 110, 118, 97, 108, 105, 100, 70, 111, 114, 109])) (c.chk 25 (f := ikA (tab.map (·.1))) rfl) (c.chk 31 (f := ikB it_InvalidForm (fun K => .ref (caK K [73, 110, 118, 97, 108, 105, 100, 70, 111, 114, 109]))) rfl) rfl, glo_ca (cls := [73, 110, 118, 97, 108, 105, 100, 70, 111, 114, 109]) X G (c.toD.fact 17 (f := .glo "InvalidForm") rfl) (by decide +kernel), ik_ok (u := fun K => .ref (caK K [73, 110, 118, 97, 108, 105, 100, 73, 109, 97, 103, 101])) (c.chk 25 (f := ikA (tab.map (·.1))) rfl) (c.chk 32 (f := ikB it_InvalidImage (fun K => .ref (caK K [73, 110, 118, 97, 108, 105, 100, 73, 109, 97, 103, 101]))) rfl) rfl, glo_ca (cls := [73, 110, 118, 97, 108, 105, 100, 73, 109, 97, 103, 101]) X G (c.toD.fact 22 (f := .glo "InvalidImage") rfl) (by decide +kernel), ik_ok (u := fun K => .ref (caK K [73, 110, 118, 97, 108, 105, 100, 76, 105, 110, 101])) (c.chk 25 (f := ikA (tab.map (·.1))) rfl) (c.chk 33 (f := ikB it_InvalidLine (fun K => .ref (caK K [73, 110, 118, 97, 108, 105, 100, 76, 105, 110, 101]))) rfl) rfl, glo_ca (cls := [73, 110, 118, 97, 108, 105, 100, 76, 105, 110, 101]) X G (c.toD.fact 9 (f := .glo "InvalidLine") rfl) (by decide +kernel), ik_ok (u := fun K => .ref (caK K [73, 110, 118, 97, 108, 105, 100, 77, 111, 118, 101, 115])) (c.chk 25 (f := ikA (tab.map (·.1))) rfl) (c.chk 34 (f := ikB it_InvalidMoves (fun K => .ref (caK K [73, 110, 118, 97, 108, 105, 100, 77, 111, 118, 101, 115]))) rfl) rfl, glo_ca (cls := [73, 110, 118, 97, 108, 105, 100, 77, 111, 118, 101, 115]) X G (c.toD.fact 15 (f := .glo "InvalidMoves") rfl) (by decide +kernel), ik_ok (u := fun K => .ref (caK K [73, 110, 118, 97, 108, 105, 100, 78, 117, 109, 98, 101, 114])) (c.chk 25 (f := ikA (tab.map (·.1))) rfl) (c.chk 35 (f := ikB it_InvalidNumber (fun K => .ref (caK K [73, 110, 118, 97, 108, 105, 100, 78, 117, 109, 98, 101, 114]))) rfl) rfl, glo_ca (cls := [73, 110, 118, 97, 108, 105, 100, 78, 117, 109, 98, 101, 114]) X G (c.toD.fact 7 (f := .glo "InvalidNumber") rfl) (by decide +kernel), ik_ok (u := fun K => .ref (caK K [73, 110, 118, 97, 108, 105, 100, 80, 108, 97, 99, 101, 109, 101, 110, 116])) (c.chk 25 (f := ikA (tab.map (·.1))) rfl) (c.chk 36 (f := ikB it_InvalidPlacement (fun K => .ref (caK K [73, 110, 118, 97, 108, 105, 100, 80, 108, 97, 99, 101, 109, 101, 110, 116]))) rfl) rfl, glo_ca (cls := [73, 110, 118, 97, 108, 105, 100, 80, 108, 97, 99, 101, 109, 101, 110, 116]) X G (c.toD.fact 25 (f := .glo "InvalidPlacement") rfl) (by decide +kernel), ik_ok (u := fun K => .ref (caK K [73, 110, 118, 97, 108, 105, 100, 80, 108, 97, 110])) (c.chk 25 (f := ikA (tab.map (·.1))) rfl) (c.chk 37 (f := ikB it_InvalidPlan (fun K => .ref (caK K [73, 110, 118, 97, 108, 105, 100, 80, 108, 97, 110]))) rfl) rfl, glo_ca (cls := [73, 110, 118, 97, 108, 105, 100, 80, 108, 97, 110]) X G (c.toD.fact 23 (f := .glo "InvalidPlan") rfl) (by decide +kernel), ik_ok (u := fun K => .ref (caK K [73, 110, 118, 97, 108, 105, 100, 81, 117, 101, 115, 116, 105, 111, 110])) (c.chk 25 (f := ikA (tab.map (·.1))) rfl) (c.chk 38 (f := ikB it_InvalidQuestion (fun K => .ref (caK K [73, 110, 118, 97, 108, 105, 100, 81, 117, 101, 115, 116, 105, 111, 110]))) rfl) rfl, glo_ca (cls := [73, 110, 118, 97, 108, 105, 100, 81, 117, 101, 115, 116, 105, 111, 110]) X G (c.toD.fact 28 (f := .glo "InvalidQuestion") rfl) (by decide +kernel), ik_ok (u := fun K => .ref (caK K [73, 110, 118, 97, 108, 105, 100, 82, 111, 119])) (c.chk 25 (f := ikA (tab.map (·.1))) rfl) (c.chk 39 (f := ikB it_InvalidRow (fun K => .ref (caK K [73, 110, 118, 97, 108, 105, 100, 82, 111, 119]))) rfl) rfl, glo_ca (cls := [73, 110, 118, 97, 108, 105, 100, 82, 111, 119]) X G (c.toD.fact 14 (f := .glo "InvalidRow") rfl) (by decide +kernel), ik_ok (u := fun K => .ref (caK K [73, 110, 118, 97, 108, 105, 100, 83, 97, 118, 101, 115])) (c.chk 25 (f := ikA (tab.map (·.1))) rfl) (c.chk 40 (f := ikB it_InvalidSaves (fun K => .ref (caK K [73, 110, 118, 97, 108, 105, 100, 83, 97, 118, 101, 115]))) rfl) rfl, glo_ca (cls := [73, 110, 118, 97, 108, 105, 100, 83, 97, 118, 101, 115]) X G (c.toD.fact 26 (f := .glo "InvalidSaves") rfl) (by decide +kernel), ik_ok (u := fun K => .ref (caK K [73, 110, 118, 97, 108, 105, 100, 83, 108, 111, 116])) (c.chk 25 (f := ikA (tab.map (·.1))) rfl) (c.chk 41 (f := ikB it_InvalidSlot (fun K => .ref (caK K [73, 110, 118, 97, 108, 105, 100, 83, 108, 111, 116]))) rfl) rfl, glo_ca (cls := [73, 110, 118, 97, 108, 105, 100, 83, 108, 111, 116]) X G (c.toD.fact 27 (f := .glo "InvalidSlot") rfl) (by decide +kernel), ik_ok (u := fun K => .ref (caK K [73, 110, 118, 97, 108, 105, 100, 84, 97, 98, 108, 101, 115])) (c.chk 25 (f := ikA (tab.map (·.1))) rfl) (c.chk 42 (f := ikB it_InvalidTables (fun K => .ref (caK K [73, 110, 118, 97, 108, 105, 100, 84, 97, 98, 108, 101, 115]))) rfl) rfl, glo_ca (cls := [73, 110, 118, 97, 108, 105, 100, 84, 97, 98, 108, 101, 115]) X G (c.toD.fact 20 (f := .glo "InvalidTables") rfl) (by decide +kernel), ik_ok (u := fun K => .ref (caK K [73, 110, 118, 97, 108, 105, 100, 84, 101, 120, 116])) (c.chk 25 (f := ikA (tab.map (·.1))) rfl) (c.chk 43 (f := ikB it_InvalidText (fun K => .ref (caK K [73, 110, 118, 97, 108, 105, 100, 84, 101, 120, 116]))) rfl) rfl, glo_ca (cls := [73, 110, 118, 97, 108, 105, 100, 84, 101, 120, 116]) X G (c.toD.fact 16 (f := .glo "InvalidText") rfl) (by decide +kernel), ik_ok (u := fun K => .ref (caK K [73, 110, 118, 97, 108, 105, 100, 87, 111, 114, 100])) (c.chk 25 (f := ikA (tab.map (·.1))) rfl) (c.chk 44 (f := ikB it_InvalidWord (fun K => .ref (caK K [73, 110, 118, 97, 108, 105, 100, 87, 111, 114, 100]))) rfl) rfl, glo_ca (cls := [73, 110, 118, 97, 108, 105, 100, 87, 111, 114, 100]) X G (c.toD.fact 8 (f := .glo "InvalidWord") rfl) (by decide +kernel), ik_ok (u := fun K => .ref (caK K [73, 110, 118, 97, 108, 105, 100, 87, 111, 114, 100, 115])) (c.chk 25 (f := ikA (tab.map (·.1))) rfl) (c.chk 45 (f := ikB it_InvalidWords (fun K => .ref (caK K [73, 110, 118, 97, 108, 105, 100, 87, 111, 114, 100, 115]))) rfl) rfl, glo_ca (cls := [73, 110, 118, 97, 108, 105, 100, 87, 111, 114, 100, 115]) X G (c.toD.fact 21 (f := .glo "InvalidWords") rfl) (by decide +kernel), ik_ok (u := fun K => .ref (caK K [78, 111, 116, 104, 105, 110, 103, 84, 111, 85, 110, 100, 111])) (c.chk 25 (f := ikA (tab.map (·.1))) rfl) (c.chk 46 (f := ikB it_NothingToUndo (fun K => .ref (caK K [78, 111, 116, 104, 105, 110, 103, 84, 111, 85, 110, 100, 111]))) rfl) rfl, glo_ca (cls := [78, 111, 116, 104, 105, 110, 103, 84, 111, 85, 110, 100, 111]) X G (c.toD.fact 31 (f := .glo "NothingToUndo") rfl) (by decide +kernel), ik_ok (u := fun K => .ref (caK K [84, 111, 111, 76, 97, 114, 103, 101])) (c.chk 25 (f := ikA (tab.map (·.1))) rfl) (c.chk 47 (f := ikB it_TooLarge (fun K => .ref (caK K [84, 111, 111, 76, 97, 114, 103, 101]))) rfl) rfl, glo_ca (cls := [84, 111, 111, 76, 97, 114, 103, 101]) X G (c.toD.fact 13 (f := .glo "TooLarge") rfl) (by decide +kernel), ik_ok (u := fun K => .ref (caK K [84, 111, 111, 76, 111, 110, 103])) (c.chk 25 (f := ikA (tab.map (·.1))) rfl) (c.chk 48 (f := ikB it_TooLong (fun K => .ref (caK K [84, 111, 111, 76, 111, 110, 103]))) rfl) rfl, glo_ca (cls := [84, 111, 111, 76, 111, 110, 103]) X G (c.toD.fact 12 (f := .glo "TooLong") rfl) (by decide +kernel), ik_ok (u := fun K => .ref (caK K [84, 114, 105, 109, 69, 114, 114, 111, 114])) (c.chk 25 (f := ikA (tab.map (·.1))) rfl) (c.chk 49 (f := ikB it_TrimError (fun K => .ref (caK K [84, 114, 105, 109, 69, 114, 114, 111, 114]))) rfl) rfl, glo_ca (cls := [84, 114, 105, 109, 69, 114, 114, 111, 114]) X G (c.toD.fact 39 (f := .glo "TrimError") rfl) (by decide +kernel), ik_ok (u := fun K => .ref (caK K [85, 110, 100, 101, 102, 105, 110, 101, 100])) (c.chk 25 (f := ikA (tab.map (·.1))) rfl) (c.chk 50 (f := ikB it_Undefined (fun K => .ref (caK K [85, 110, 100, 101, 102, 105, 110, 101, 100]))) rfl) rfl, glo_ca (cls := [85, 110, 100, 101, 102, 105, 110, 101, 100]) X G (c.toD.fact 30 (f := .glo "Undefined") rfl) (by decide +kernel), ik_ok (u := fun K => .ref (caK K [85, 110, 115, 101, 116])) (c.chk 25 (f := ikA (tab.map (·.1))) rfl) (c.chk 51 (f := ikB it_Unset (fun K => .ref (caK K [85, 110, 115, 101, 116]))) rfl) rfl, glo_ca (cls := [85, 110, 115, 101, 116]) X G (c.toD.fact 24 (f := .glo "Unset") rfl) (by decide +kernel), ik_ok (u := fun _ => .type "ValueError") (c.chk 25 (f := ikA (tab.map (·.1))) rfl) (c.chk 52 (f := ikB it_ValueError (fun _ => .type "ValueError")) rfl) rfl⟩
  have fdk : Fdk K := ⟨(fd_cons (xx_InvalidText.no "at" (by simp)) rfl (by decide +kernel) (fd_cons (xx_InvalidImage.no "at" (by simp)) rfl (by decide +kernel) fd_nil)), (fd_cons (xx_InvalidLine.no "line" (by simp)) rfl (by decide +kernel) fd_nil), (fd_cons (xx_TooLarge.no "many" (by simp)) rfl (by decide +kernel) fd_nil), (fd_cons (xx_Endless.no "place" (by simp)) rfl (by decide +kernel) (fd_cons (xx_TooLong.no "place" (by simp)) rfl (by decide +kernel) (fd_cons (xx_Unset.no "place" (by simp)) rfl (by decide +kernel) fd_nil))), (fd_cons (xx_Unset.no "slot" (by simp)) rfl (by decide +kernel) fd_nil), (fd_cons (xx_InvalidText.no "text" (by simp)) rfl (by decide +kernel) fd_nil), (fd_cons (xx_InvalidNumber.no "value" (by simp)) rfl (by decide +kernel) (fd_cons (xx_InvalidWord.no "value" (by simp)) rfl (by decide +kernel) (fd_cons (xx_InvalidCode.no "value" (by simp)) rfl (by decide +kernel) (fd_cons (xx_InvalidRow.no "value" (by simp)) rfl (by decide +kernel) (fd_cons (xx_InvalidMoves.no "value" (by simp)) rfl (by decide +kernel) (fd_cons (xx_InvalidForm.no "value" (by simp)) rfl (by decide +kernel) (fd_cons (xx_InvalidEntries.no "value" (by simp)) rfl (by decide +kernel) (fd_cons (xx_InvalidCut.no "value" (by simp)) rfl (by decide +kernel) (fd_cons (xx_InvalidTables.no "value" (by simp)) rfl (by decide +kernel) (fd_cons (xx_InvalidWords.no "value" (by simp)) rfl (by decide +kernel) (fd_cons (xx_InvalidPlan.no "value" (by simp)) rfl (by decide +kernel) (fd_cons (xx_InvalidPlacement.no "value" (by simp)) rfl (by decide +kernel) (fd_cons (xx_InvalidSaves.no "value" (by simp)) rfl (by decide +kernel) (fd_cons (xx_InvalidSlot.no "value" (by simp)) rfl (by decide +kernel) (fd_cons (xx_InvalidQuestion.no "value" (by simp)) rfl (by decide +kernel) (fd_cons (xx_InvalidClaim.no "value" (by simp)) rfl (by decide +kernel) fd_nil)))))))))))))))), (fd_cons (xx_Undefined.no "what" (by simp)) rfl (by decide +kernel) fd_nil), (fd_cons (xx_NothingToUndo.no "word" (by simp)) rfl (by decide +kernel) fd_nil)⟩
  obtain ⟨fd__law_box, fF__law_box⟩ := c.toD.def_ 0 (d := d__law_box) rfl
  obtain ⟨fd__law_take, fF__law_take⟩ := c.toD.def_ 1 (d := d__law_take) rfl
  obtain ⟨fd__law_kinds, fF__law_kinds⟩ := c.toD.def_ 2 (d := d__law_kinds) rfl
  obtain ⟨fd__law_pick, fF__law_pick⟩ := c.toD.def_ 3 (d := d__law_pick) rfl
  obtain ⟨fd__law_ones, fF__law_ones⟩ := c.toD.def_ 4 (d := d__law_ones) rfl
  obtain ⟨fd__law_others, fF__law_others⟩ := c.toD.def_ 5 (d := d__law_others) rfl
  obtain ⟨fd_law, fF_law⟩ := c.toD.def_ 6 (d := d_law) rfl
  obtain ⟨fd_InvalidNumber, fF_InvalidNumber⟩ := c.toD.def_ 7 (d := d_InvalidNumber) rfl
  obtain ⟨fd_InvalidWord, fF_InvalidWord⟩ := c.toD.def_ 8 (d := d_InvalidWord) rfl
  obtain ⟨fd_InvalidLine, fF_InvalidLine⟩ := c.toD.def_ 9 (d := d_InvalidLine) rfl
  obtain ⟨fd_InvalidCode, fF_InvalidCode⟩ := c.toD.def_ 10 (d := d_InvalidCode) rfl
  obtain ⟨fd_Endless, fF_Endless⟩ := c.toD.def_ 11 (d := d_Endless) rfl
  obtain ⟨fd_TooLong, fF_TooLong⟩ := c.toD.def_ 12 (d := d_TooLong) rfl
  obtain ⟨fd_TooLarge, fF_TooLarge⟩ := c.toD.def_ 13 (d := d_TooLarge) rfl
  obtain ⟨fd_InvalidRow, fF_InvalidRow⟩ := c.toD.def_ 14 (d := d_InvalidRow) rfl
  obtain ⟨fd_InvalidMoves, fF_InvalidMoves⟩ := c.toD.def_ 15 (d := d_InvalidMoves) rfl
  obtain ⟨fd_InvalidText, fF_InvalidText⟩ := c.toD.def_ 16 (d := d_InvalidText) rfl
  obtain ⟨fd_InvalidForm, fF_InvalidForm⟩ := c.toD.def_ 17 (d := d_InvalidForm) rfl
  obtain ⟨fd_InvalidEntries, fF_InvalidEntries⟩ := c.toD.def_ 18 (d := d_InvalidEntries) rfl
  obtain ⟨fd_InvalidCut, fF_InvalidCut⟩ := c.toD.def_ 19 (d := d_InvalidCut) rfl
  obtain ⟨fd_InvalidTables, fF_InvalidTables⟩ := c.toD.def_ 20 (d := d_InvalidTables) rfl
  obtain ⟨fd_InvalidWords, fF_InvalidWords⟩ := c.toD.def_ 21 (d := d_InvalidWords) rfl
  obtain ⟨fd_InvalidImage, fF_InvalidImage⟩ := c.toD.def_ 22 (d := d_InvalidImage) rfl
  obtain ⟨fd_InvalidPlan, fF_InvalidPlan⟩ := c.toD.def_ 23 (d := d_InvalidPlan) rfl
  obtain ⟨fd_Unset, fF_Unset⟩ := c.toD.def_ 24 (d := d_Unset) rfl
  obtain ⟨fd_InvalidPlacement, fF_InvalidPlacement⟩ := c.toD.def_ 25 (d := d_InvalidPlacement) rfl
  obtain ⟨fd_InvalidSaves, fF_InvalidSaves⟩ := c.toD.def_ 26 (d := d_InvalidSaves) rfl
  obtain ⟨fd_InvalidSlot, fF_InvalidSlot⟩ := c.toD.def_ 27 (d := d_InvalidSlot) rfl
  obtain ⟨fd_InvalidQuestion, fF_InvalidQuestion⟩ := c.toD.def_ 28 (d := d_InvalidQuestion) rfl
  obtain ⟨fd_InvalidClaim, fF_InvalidClaim⟩ := c.toD.def_ 29 (d := d_InvalidClaim) rfl
  obtain ⟨fd_Undefined, fF_Undefined⟩ := c.toD.def_ 30 (d := d_Undefined) rfl
  obtain ⟨fd_NothingToUndo, fF_NothingToUndo⟩ := c.toD.def_ 31 (d := d_NothingToUndo) rfl
  have e := hfa.symm.trans (He.glo_ok X G (c.toD.fact 6 (f := .glo "law") rfl))
  cases e
  have b0 := FunD.bindsA (ps := ["script"]) fF_law fun _ _ _ _ _ _ us hl => match us, hl with | [_], _ => rfl
  refine ⟨fd_law, fun s v => b0 s [v] rfl, fun base => ?_⟩
  have e_InvalidNumber := e_InvalidNumber_ok (P := P) (w := w) (base := base) fF_InvalidNumber xm_InvalidNumber xx_InvalidNumber.oex xx_InvalidNumber.ini xx_InvalidNumber.typ xx_InvalidNumber.no
  have e_InvalidWord := e_InvalidWord_ok (P := P) (w := w) (base := base) fF_InvalidWord xm_InvalidWord xx_InvalidWord.oex xx_InvalidWord.ini xx_InvalidWord.typ xx_InvalidWord.no
  have e_InvalidLine := e_InvalidLine_ok (P := P) (w := w) (base := base) fF_InvalidLine xm_InvalidLine xx_InvalidLine.oex xx_InvalidLine.ini xx_InvalidLine.typ xx_InvalidLine.no
  have e_InvalidCode := e_InvalidCode_ok (P := P) (w := w) (base := base) fF_InvalidCode xm_InvalidCode xx_InvalidCode.oex xx_InvalidCode.ini xx_InvalidCode.typ xx_InvalidCode.no
  have e_Endless := e_Endless_ok (P := P) (w := w) (base := base) fF_Endless xm_Endless xx_Endless.oex xx_Endless.ini xx_Endless.typ xx_Endless.no
  have e_TooLong := e_TooLong_ok (P := P) (w := w) (base := base) fF_TooLong xm_TooLong xx_TooLong.oex xx_TooLong.ini xx_TooLong.typ xx_TooLong.no
  have e_TooLarge := e_TooLarge_ok (P := P) (w := w) (base := base) fF_TooLarge xm_TooLarge xx_TooLarge.oex xx_TooLarge.ini xx_TooLarge.typ xx_TooLarge.no
  have e_InvalidRow := e_InvalidRow_ok (P := P) (w := w) (base := base) fF_InvalidRow xm_InvalidRow xx_InvalidRow.oex xx_InvalidRow.ini xx_InvalidRow.typ xx_InvalidRow.no
  have e_InvalidMoves := e_InvalidMoves_ok (P := P) (w := w) (base := base) fF_InvalidMoves xm_InvalidMoves xx_InvalidMoves.oex xx_InvalidMoves.ini xx_InvalidMoves.typ xx_InvalidMoves.no
  have e_InvalidText := e_InvalidText_ok (P := P) (w := w) (base := base) fF_InvalidText xm_InvalidText xx_InvalidText.oex xx_InvalidText.ini xx_InvalidText.typ xx_InvalidText.no
  have e_InvalidForm := e_InvalidForm_ok (P := P) (w := w) (base := base) fF_InvalidForm xm_InvalidForm xx_InvalidForm.oex xx_InvalidForm.ini xx_InvalidForm.typ xx_InvalidForm.no
  have e_InvalidEntries := e_InvalidEntries_ok (P := P) (w := w) (base := base) fF_InvalidEntries xm_InvalidEntries xx_InvalidEntries.oex xx_InvalidEntries.ini xx_InvalidEntries.typ xx_InvalidEntries.no
  have e_InvalidCut := e_InvalidCut_ok (P := P) (w := w) (base := base) fF_InvalidCut xm_InvalidCut xx_InvalidCut.oex xx_InvalidCut.ini xx_InvalidCut.typ xx_InvalidCut.no
  have e_InvalidTables := e_InvalidTables_ok (P := P) (w := w) (base := base) fF_InvalidTables xm_InvalidTables xx_InvalidTables.oex xx_InvalidTables.ini xx_InvalidTables.typ xx_InvalidTables.no
  have e_InvalidWords := e_InvalidWords_ok (P := P) (w := w) (base := base) fF_InvalidWords xm_InvalidWords xx_InvalidWords.oex xx_InvalidWords.ini xx_InvalidWords.typ xx_InvalidWords.no
  have e_InvalidImage := e_InvalidImage_ok (P := P) (w := w) (base := base) fF_InvalidImage xm_InvalidImage xx_InvalidImage.oex xx_InvalidImage.ini xx_InvalidImage.typ xx_InvalidImage.no
  have e_InvalidPlan := e_InvalidPlan_ok (P := P) (w := w) (base := base) fF_InvalidPlan xm_InvalidPlan xx_InvalidPlan.oex xx_InvalidPlan.ini xx_InvalidPlan.typ xx_InvalidPlan.no
  have e_Unset := e_Unset_ok (P := P) (w := w) (base := base) fF_Unset xm_Unset xx_Unset.oex xx_Unset.ini xx_Unset.typ xx_Unset.no
  have e_InvalidPlacement := e_InvalidPlacement_ok (P := P) (w := w) (base := base) fF_InvalidPlacement xm_InvalidPlacement xx_InvalidPlacement.oex xx_InvalidPlacement.ini xx_InvalidPlacement.typ xx_InvalidPlacement.no
  have e_InvalidSaves := e_InvalidSaves_ok (P := P) (w := w) (base := base) fF_InvalidSaves xm_InvalidSaves xx_InvalidSaves.oex xx_InvalidSaves.ini xx_InvalidSaves.typ xx_InvalidSaves.no
  have e_InvalidSlot := e_InvalidSlot_ok (P := P) (w := w) (base := base) fF_InvalidSlot xm_InvalidSlot xx_InvalidSlot.oex xx_InvalidSlot.ini xx_InvalidSlot.typ xx_InvalidSlot.no
  have e_InvalidQuestion := e_InvalidQuestion_ok (P := P) (w := w) (base := base) fF_InvalidQuestion xm_InvalidQuestion xx_InvalidQuestion.oex xx_InvalidQuestion.ini xx_InvalidQuestion.typ xx_InvalidQuestion.no
  have e_InvalidClaim := e_InvalidClaim_ok (P := P) (w := w) (base := base) fF_InvalidClaim xm_InvalidClaim xx_InvalidClaim.oex xx_InvalidClaim.ini xx_InvalidClaim.typ xx_InvalidClaim.no
  have e_Undefined := e_Undefined_ok (P := P) (w := w) (base := base) fF_Undefined xm_Undefined xx_Undefined.oex xx_Undefined.ini xx_Undefined.typ xx_Undefined.no
  have e_NothingToUndo := e_NothingToUndo_ok (P := P) (w := w) (base := base) fF_NothingToUndo xm_NothingToUndo xx_NothingToUndo.oex xx_NothingToUndo.ini xx_NothingToUndo.typ xx_NothingToUndo.no
  have g__law_box := w__law_box (P := P) (w := w) (base := base) fF__law_box (He.glo_ok X G (c.toD.fact 0 (f := .glo "_law_box") rfl)) bt
  have g__law_take := w__law_take (P := P) (w := w) (base := base) fF__law_take (He.glo_ok X G (c.toD.fact 1 (f := .glo "_law_take") rfl)) bt
  have g__law_kinds := w__law_kinds (P := P) (w := w) (base := base) fF__law_kinds (He.glo_ok X G (c.toD.fact 2 (f := .glo "_law_kinds") rfl)) bt ik
  have g__law_pick := w__law_pick (P := P) (w := w) (base := base) fF__law_pick (He.glo_ok X G (c.toD.fact 3 (f := .glo "_law_pick") rfl)) bt g__law_take
  have g__law_ones := w__law_ones (P := P) (w := w) (base := base) fF__law_ones (He.glo_ok X G (c.toD.fact 4 (f := .glo "_law_ones") rfl)) xf_InvalidClaim e_InvalidClaim xf_InvalidCode e_InvalidCode xf_InvalidCut e_InvalidCut xf_InvalidEntries e_InvalidEntries xf_InvalidForm e_InvalidForm xf_InvalidMoves e_InvalidMoves xf_InvalidNumber e_InvalidNumber xf_InvalidPlacement e_InvalidPlacement xf_InvalidPlan e_InvalidPlan xf_InvalidQuestion e_InvalidQuestion xf_InvalidRow e_InvalidRow xf_InvalidSaves e_InvalidSaves xf_InvalidSlot e_InvalidSlot xf_InvalidTables e_InvalidTables xf_InvalidWord e_InvalidWord xf_InvalidWords e_InvalidWords
  have g__law_others := w__law_others (P := P) (w := w) (base := base) fF__law_others (He.glo_ok X G (c.toD.fact 5 (f := .glo "_law_others") rfl)) xf_Endless e_Endless xf_InvalidImage e_InvalidImage xf_InvalidLine e_InvalidLine xf_InvalidText e_InvalidText xf_NothingToUndo e_NothingToUndo xf_TooLarge e_TooLarge xf_TooLong e_TooLong xf_Undefined e_Undefined xf_Unset e_Unset fdk
  exact w_law fF_law bt g__law_box g__law_kinds g__law_ones g__law_others g__law_pick g__law_take fdk
end LW
open PySem PySem.W PySem.Calls PyProof.Rows
theorem law_holds (math : ∀ ns : List Int, ns.length ≤ 63 → ∃ outs, LW.F_law [.p (.lst (ns.map MP.D.int))] = .ok (.bl true) outs) : PySem.Challenge.rw_calltrim_k01_errors.Holds := by
  w_on; o_law
  refine HandSHeadRun.head_any (r := OpenLaw.row PySem.Challenge.rw_calltrim_k01_errors) (q := view (OpenLaw.row PySem.Challenge.rw_calltrim_k01_errors).prog [34]) (H := LW.hkk) (ob := LW.ob) (M := 9000) (loose := LW.loose) (d := HandSHeadRun.topDef (OpenLaw.row PySem.Challenge.rw_calltrim_k01_errors).prog 34) (kwd := []) LW.ob_eq
    (by kernel_rfl) (fun s => by kernel_rfl) LW.run (by kernel_rfl) (by kernel_rfl) (by kernel_rfl) (by rfl) (by first | assumption | decide +kernel) (by decide +kernel) ⟨rfl, rfl, rfl, rfl, rfl, by decide +kernel⟩ ?hw ?hc
  case hw => w_witness2
  case hc =>
    refine L2.walk_ofE (l := PySem.Challenge.rw_calltrim_k01_errors) (n := 63) (k := 5) (x := "script") (CX := MP.CXa (PySem.Challenge.rw_calltrim_k01_errors).prog) rfl (by decide) (by kernel_rfl) ⟨rfl, by decide, by decide⟩ ?F (fun H s e s' z => MP.cxa_no H s e s' z)
    intro w mg fa h Y G hmg0
    obtain ⟨K, KX, nl, c⟩ := Y
    have hmg : mg ("law" : PySem.Str) = some (.ref fa) := by
      have e : (HandSHeadRun.topDef (OpenLaw.row PySem.Challenge.rw_calltrim_k01_errors).prog 34).name = ("law" : PySem.Str) := by kernel_rfl
      rw [← e]
      exact hmg0
    obtain ⟨fd, hb, hF⟩ := LW.facts (P := (PySem.Challenge.rw_calltrim_k01_errors).prog) (w := w) KX G hmg c
    exact ⟨K, fd, _, KX, hb, fun H a ns hl _ hS => MP.sp_law rfl (MP.rd_of nl hS) hl (math ns hl), fun base _ _ => MP.anyW (hF base)⟩

namespace LW
open PySem MP
abbrev En := MP.Env
theorem loop_all {tg : Tg} {body : MS} {Q : En → Prop} : ∀ {ds : List D}, (∀ d ∈ ds, ∀ e, Q e → ∃ e1 e2, bindTg tg d e = some e1 ∧ body e1 = .ok .nx e2 ∧ Q e2) → ∀ e, Q e → ∃ e', loopD tg body ds e = .ok .nx e' ∧ Q e'
  | [], _, e, q => ⟨e, rfl, q⟩
  | d :: ds, h, e, q => by
    obtain ⟨e1, e2, h1, h2, q2⟩ := h d List.mem_cons_self e q
    obtain ⟨e', h3, q3⟩ := loop_all (fun d hd => h d (List.mem_cons_of_mem _ hd)) e2 q2
    refine ⟨e', ?_, q3⟩
    unfold loopD
    rw [h1]
    dsimp only
    rw [h2]
    exact h3
theorem loop_ix {tg : Tg} {body : MS} {Q : Nat → En → Prop} {n : Nat} : ∀ {ds : List D} (i : Nat), i + ds.length ≤ n → (∀ d ∈ ds, ∀ i e, i < n → Q i e → ∃ e1 e2, bindTg tg d e = some e1 ∧ body e1 = .ok .nx e2 ∧ Q (i + 1) e2) → ∀ e, Q i e → ∃ e', loopD tg body ds e = .ok .nx e' ∧ Q (i + ds.length) e'
  | [], i, _, _, e, q => ⟨e, rfl, q⟩
  | d :: ds, i, hn, h, e, q => by
    have hn' : i + 1 + ds.length ≤ n := by simp at hn; omega
    obtain ⟨e1, e2, h1, h2, q2⟩ := h d List.mem_cons_self i e (by omega) q
    obtain ⟨e', h3, q3⟩ := loop_ix (i + 1) hn' (fun d hd => h d (List.mem_cons_of_mem _ hd)) e2 q2
    refine ⟨e', ?_, by have : i + (d :: ds).length = i + 1 + ds.length := by (simp; omega)
                       rw [this]; exact q3⟩
    unfold loopD
    rw [h1]
    dsimp only
    rw [h2]
    exact h3
theorem seq_ok {a b : MS} {e e1 : En} (h : a e = .ok .nx e1) : sSeq a b e = b e1 := by
  rw [sSeq_e, h]
theorem for_ok {src : M (List D)} {tg : Tg} {body : MS} {e e1 e2 : En} {ds : List D} (h1 : src e = .ok ds e1) (h2 : loopD tg body ds e1 = .ok .nx e2) : sFor src tg body e = .ok .nx e2 := by
  show sE src (fun ds => loopD tg body ds) e = _
  rw [sE_e, h1]
  exact h2
theorem mod_e {i j : Int} (h : 0 < j) : modD (.int i) (.int j) = some (.int (i % j)) := if_pos h
theorem fdiv_e {i j : Int} (h : 0 < j ∧ j < 1073741824) : fdivD (.int i) (.int j) = some (.int (i / j)) := if_pos h
theorem mul_e {i j : Int} (h : j.natAbs < 18446744073709551616) : mulD (.int i) (.int j) = some (.int (i * j)) := if_pos (.inr h)
/-! ### the drawing -/
theorem take_e (a b many : Int) (h0 : 0 < many) (h1 : many < 1073741824) : ∃ r a' b', 0 ≤ r ∧ r < many ∧ F__law_take [.ml [.int a, .int b], .p (.int many)] = .ok (.int r) [.ml [.int a', .int b'], .p (.int many)] := by
  have at1 : L2.atI [D.int a, D.int b] 1 = some (.int b) := rfl
  by_cases ha : 0 < a
  · refine ⟨a % many, a / many, b, Int.emod_nonneg _ (by omega), Int.emod_lt_of_pos _ h0, ?_⟩
    have m1 : modD (.int a) (.int many) = some (.int (a % many)) := if_pos h0
    have m2 : fdivD (.int a) (.int many) = some (.int (a / many)) := if_pos ⟨h0, h1⟩
    have st : setIx (.int 0) (.int (a / many)) [D.int a, D.int b] = some [.int (a / many), .int b] := rfl
    simp [gather, after, back, finR, outsG, isL, runF, truD, blD, MP.strOf, MP.intD, seqOf, ixD, lenD, cmpD, atI_zero, cutL_tail, slF, slD, itD, tupD, lstF, allF, lstD, frz, wipeE, back0, F__law_take, m__law_take, ha, m1, m2, intF, sIx, chkO, ownD, st, r__law_take]
  · have g : 0 ≤ (b * 39373 + 69621) % 2147483647 := Int.emod_nonneg _ (by omega)
    refine ⟨((b * 39373 + 69621) % 2147483647 / 8191) % many, a, (b * 39373 + 69621) % 2147483647, Int.emod_nonneg _ (by omega), Int.emod_lt_of_pos _ h0, ?_⟩
    have m1 : mulD (.int b) (.int 39373) = some (.int (b * 39373)) := mul_e (by decide)
    have m2 : modD (.int (b * 39373 + 69621)) (.int 2147483647) = some (.int ((b * 39373 + 69621) % 2147483647)) := mod_e (by decide)
    have a1 : addD (.int (b * 39373)) (.int 69621) = some (.int (b * 39373 + 69621)) := rfl
    have st : setIx (.int 1) (.int ((b * 39373 + 69621) % 2147483647)) [D.int a, D.int b] = some [.int a, .int ((b * 39373 + 69621) % 2147483647)] := rfl
    have at2 : L2.atI [D.int a, D.int ((b * 39373 + 69621) % 2147483647)] 1 = some (.int ((b * 39373 + 69621) % 2147483647)) := rfl
    have m3 : fdivD (.int ((b * 39373 + 69621) % 2147483647)) (.int 8191) = some (.int ((b * 39373 + 69621) % 2147483647 / 8191)) := fdiv_e (by decide)
    have m4 : modD (.int ((b * 39373 + 69621) % 2147483647 / 8191)) (.int many) = some (.int (((b * 39373 + 69621) % 2147483647 / 8191) % many)) := if_pos h0
    simp [gather, after, back, finR, outsG, isL, runF, truD, blD, MP.strOf, MP.intD, seqOf, ixD, lenD, cmpD, atI_zero, cutL_tail, slF, slD, itD, tupD, lstF, allF, lstD, frz, wipeE, back0, F__law_take, m__law_take, ha, at1, m1, a1, m2, intF, sIx, chkO, ownD, st, at2, m3, m4, r__law_take]
theorem pick_e (a b : Int) (s : Tx) (h0 : 0 < s.length) (h1 : s.length < 1073741824) : ∃ c a' b', c ∈ s ∧ F__law_pick [.ml [.int a, .int b], .p (.str s)] = .ok (.str [c]) [.ml [.int a', .int b'], .p (.str s)] := by
  obtain ⟨r, a', b', r0, r1, e⟩ := take_e a b (s.length : Int) (by omega) (by omega)
  obtain ⟨n, rfl⟩ : ∃ n : Nat, r = n := ⟨r.toNat, by omega⟩
  have hn : n < s.length := by omega
  have at1 : L2.atI s (n : Int) = some s[n] := by rw [atI_nat]; exact List.getElem?_eq_getElem hn
  refine ⟨s[n], a', b', List.getElem_mem hn, ?_⟩
  simp [gather, after, back, finR, outsG, isL, runF, truD, blD, MP.strOf, MP.intD, seqOf, ixD, lenD, cmpD, atI_zero, cutL_tail, slF, slD, itD, tupD, lstF, allF, lstD, frz, wipeE, back0, F__law_pick, m__law_pick, e, at1, r__law_pick]
theorem box_e (ns : List Int) (k : Nat) (hk : k < 1000000) : ∃ a b, F__law_box [.p (.lst (ns.map D.int)), .p (.int k)] = .ok (.lst [.int a, .int b]) [.p (.lst (ns.map D.int)), .p (.int k)] := by
  have k1 : mulD (.int 7919) (.int k) = some (.int (7919 * k)) := mul_e (by omega)
  have k2 : powD (.int 10) (.int 18) = some (.int 1000000000000000000) := rfl
  have k3 : mulD (.int 613) (.int k) = some (.int (613 * k)) := mul_e (by omega)
  have fin : ∀ c : Int, mulD (.int (c % 1000000007)) (.int 48271) = some (.int (c % 1000000007 * 48271)) := fun c => mul_e (by decide)
  have fin1 : ∀ c : Int, mulD (.int (c % 1000000007)) (.int 31) = some (.int (c % 1000000007 * 31)) := fun c => mul_e (by decide)
  have fin2 : ∀ c : Int, modD (.int c) (.int 1000000007) = some (.int (c % 1000000007)) := fun c => mod_e (by decide)
  have fin3 : ∀ c : Int, modD (.int c) (.int 2147483647) = some (.int (c % 2147483647)) := fun c => mod_e (by decide)
  have fin4 : ∀ i j : Int, addD (.int i) (.int j) = some (.int (i + j)) := fun _ _ => rfl
  have at1 : ∀ c : Int, L2.atI [D.int 0, D.int c] 1 = some (.int c) := fun _ => rfl
  by_cases hl : k < ns.length
  · have hl2 : (k : Int) < (ns.length : Int) := by omega
    have at2 : L2.atI (ns.map D.int) (k : Int) = some (.int ns[k]) := by rw [atI_nat]; simp [hl]
    by_cases hc : 1000000000000000000 ≤ (if ns[k] < 0 then -ns[k] else ns[k])
    · exact ⟨_, _, by simp [gather, after, back, finR, outsG, isL, runF, truD, blD, MP.strOf, MP.intD, seqOf, ixD, lenD, cmpD, atI_zero, cutL_tail, slF, slD, itD, tupD, lstF, allF, lstD, frz, wipeE, back0, F__law_box, m__law_box, k1, k2, k3, hl2, at2, fin, fin2, fin3, fin4, intF, absF, hc, at1, r__law_box]; exact ⟨rfl, rfl⟩⟩
    · exact ⟨_, _, by simp [gather, after, back, finR, outsG, isL, runF, truD, blD, MP.strOf, MP.intD, seqOf, ixD, lenD, cmpD, atI_zero, cutL_tail, slF, slD, itD, tupD, lstF, allF, lstD, frz, wipeE, back0, F__law_box, m__law_box, k1, k2, k3, hl2, at2, fin, fin2, fin3, fin4, intF, absF, hc, r__law_box]; exact ⟨rfl, rfl⟩⟩
  · have hl2 : ¬ (k : Int) < (ns.length : Int) := by omega
    by_cases h0 : 0 < ns.length
    · have h02 : (0 : Int) < (ns.length : Int) := by omega
      have hm : k % ns.length < ns.length := Nat.mod_lt _ h0
      have md : modD (.int k) (.int (ns.length : Int)) = some (.int ((k % ns.length : Nat) : Int)) := by rw [mod_e h02]; rfl
      have at2 : L2.atI (ns.map D.int) ((k % ns.length : Nat) : Int) = some (.int ns[k % ns.length]) := by rw [atI_nat]; simp [hm]
      generalize hcc : (if ns[k % ns.length] < 0 then -ns[k % ns.length] else ns[k % ns.length]) % 1000000007 * 31 + 7919 * (k : Int) = c
      by_cases hc : 1000000000000000000 ≤ c
      · exact ⟨_, _, by simp [gather, after, back, finR, outsG, isL, runF, truD, blD, MP.strOf, MP.intD, seqOf, ixD, lenD, cmpD, atI_zero, cutL_tail, slF, slD, itD, tupD, lstF, allF, lstD, frz, wipeE, back0, F__law_box, m__law_box, k1, k2, k3, hl2, h02, h0, md, at2, fin, fin1, fin2, fin3, fin4, intF, absF, -Int.natCast_emod, hcc, hc, at1, r__law_box]; first | exact ⟨rfl, rfl⟩ | exact rfl⟩
      · exact ⟨_, _, by simp [gather, after, back, finR, outsG, isL, runF, truD, blD, MP.strOf, MP.intD, seqOf, ixD, lenD, cmpD, atI_zero, cutL_tail, slF, slD, itD, tupD, lstF, allF, lstD, frz, wipeE, back0, F__law_box, m__law_box, k1, k2, k3, hl2, h02, h0, md, at2, fin, fin1, fin2, fin3, fin4, intF, absF, -Int.natCast_emod, hcc, hc, r__law_box]; first | exact ⟨rfl, rfl⟩ | exact rfl⟩
    · have h02 : ¬ (0 : Int) < (ns.length : Int) := by omega
      have hc : ¬ (1000000000000000000 : Int) ≤ 7919 * k + 101 := by omega
      exact ⟨_, _, by simp [gather, after, back, finR, outsG, isL, runF, truD, blD, MP.strOf, MP.intD, seqOf, ixD, lenD, cmpD, atI_zero, cutL_tail, slF, slD, itD, tupD, lstF, allF, lstD, frz, wipeE, back0, F__law_box, m__law_box, k1, k2, k3, hl2, h02, h0, fin, fin2, fin3, fin4, intF, hc, r__law_box]; first | exact ⟨rfl, rfl⟩ | exact rfl⟩
theorem pickL (a b : Int) (ds : List D) (h0 : 0 < ds.length) (h1 : ds.length < 1073741824) : ∃ d a' b', d ∈ ds ∧ F__law_pick [.ml [.int a, .int b], .p (.lst ds)] = .ok d [.ml [.int a', .int b'], .p (.lst ds)] := by
  obtain ⟨r, a', b', r0, r1, e⟩ := take_e a b (ds.length : Int) (by omega) (by omega)
  obtain ⟨n, rfl⟩ : ∃ n : Nat, r = n := ⟨r.toNat, by omega⟩
  have hn : n < ds.length := by omega
  have at1 : L2.atI ds (n : Int) = some ds[n] := by rw [atI_nat]; exact List.getElem?_eq_getElem hn
  refine ⟨ds[n], a', b', List.getElem_mem hn, ?_⟩
  simp [gather, after, back, finR, outsG, isL, runF, truD, blD, MP.strOf, MP.intD, seqOf, ixD, lenD, cmpD, atI_zero, cutL_tail, slF, slD, itD, tupD, lstF, allF, lstD, frz, wipeE, back0, F__law_pick, m__law_pick, e, at1, r__law_pick]
theorem own1_e (i : Nat) (f : D → List D → Option (D × List D)) (m : M D) (e e1 : En) (xs ys : List D) (x d : D) (h0 : e[i]? = some (some (.ml xs))) (h1 : m e = .ok x e1) (h2 : e1[i]? = some (some (.ml xs))) (h3 : f x xs = some (d, ys)) : mOwn1 i f m e = .ok d (e1.set i (some (.ml ys))) := by
  have c : chkO i e = .ok () e := by simp [chkO, h0]
  have o : ownD i e1 = some xs := by simp [ownD, h2]
  show (chkO i >>= fun _ => m >>= fun x => mOwn i (f x)) e = _
  rw [bnd, c]
  show (m >>= fun x => mOwn i (f x)) e = _
  rw [bnd, h1]
  show mOwn i (f x) e1 = _
  simp [mOwn, o, h3]
theorem loopO_all {i : Nat} {tg : Tg} {body : MS} {Q : En → Prop} {xs : List D} (hq : ∀ e, Q e → ownD i e = some xs) (h : ∀ d ∈ xs, ∀ e, Q e → ∃ e1 e2, bindTg tg d e = some e1 ∧ body e1 = .ok .nx e2 ∧ Q e2) : ∀ (r : Nat), r ≤ xs.length → ∀ e, Q e → ∃ e', loopO i tg body xs.length r e = .ok .nx e' ∧ Q e'
  | 0, _, e, q => ⟨e, by unfold loopO; rw [hq e q]; dsimp only; rw [if_pos rfl], q⟩
  | r + 1, hr, e, q => by
    have hlt : xs.length - (r + 1) < xs.length := by omega
    obtain ⟨e1, e2, h1, h2, q2⟩ := h xs[xs.length - (r + 1)] (List.getElem_mem hlt) e q
    obtain ⟨e', h3, q3⟩ := loopO_all hq h r (by omega) e2 q2
    refine ⟨e', ?_, q3⟩
    unfold loopO
    rw [hq e q]
    dsimp only
    rw [if_pos rfl, List.getElem?_eq_getElem hlt]
    dsimp only
    unfold bodyO
    rw [h1]
    dsimp only
    unfold whileB
    rw [h2]
    exact h3
theorem forO_all {i : Nat} {tg : Tg} {body : MS} {Q : En → Prop} {xs : List D} (hq : ∀ e, Q e → ownD i e = some xs) (h : ∀ d ∈ xs, ∀ e, Q e → ∃ e1 e2, bindTg tg d e = some e1 ∧ body e1 = .ok .nx e2 ∧ Q e2) (e : En) (q : Q e) : ∃ e', sForO i tg body e = .ok .nx e' ∧ Q e' := by
  unfold sForO
  rw [hq e q]
  exact loopO_all hq h xs.length (Nat.le_refl _) e q
theorem loop_app {tg : Tg} {body : MS} {E : List D → En → Prop} {f : D → D} {N : Nat} : ∀ (ds acc : List D) (e : En), acc.length + ds.length ≤ N → (∀ d ∈ ds, ∀ acc e, acc.length < N → E acc e → ∃ e1 e2, bindTg tg d e = some e1 ∧ body e1 = .ok .nx e2 ∧ E (acc ++ [f d]) e2) → E acc e → ∃ e', loopD tg body ds e = .ok .nx e' ∧ E (acc ++ ds.map f) e'
  | [], acc, e, _, _, q => ⟨e, rfl, by simpa using q⟩
  | d :: ds, acc, e, hn, h, q => by
    simp at hn
    obtain ⟨e1, e2, h1, h2, q2⟩ := h d List.mem_cons_self acc e (by omega) q
    obtain ⟨e', h3, q3⟩ := loop_app ds (acc ++ [f d]) e2 (by simp; omega) (fun d hd => h d (List.mem_cons_of_mem _ hd)) q2
    refine ⟨e', ?_, by simpa using q3⟩
    unfold loopD
    rw [h1]
    dsimp only
    rw [h2]
    exact h3
end LW

namespace LW
open PySem MP
def lstOf : FR → List D
  | .ok (.lst xs) _ => xs
  | _ => []
def oneC : List Tx := (lstOf (F__law_ones [.p .non])).map fun d => match d with
  | .ins c _ => c
  | _ => []
def othC : List (Tx × List Bool) := (lstOf (F__law_others [.p (.int 0), .p (.int 1)])).map fun d => match d with
  | .tup [.ins c fs, _] => (c, fs.map fun x => match x with
    | .int 1 => true
    | _ => false)
  | _ => ([], [])
def sel (v w : D) (b : Bool) : D := match b with
  | true => w
  | false => v
def ones (v : D) : List D := oneC.map fun c => .ins c [v]
def oth (v w : D) (p : Tx × List Bool) : D := .tup [.ins p.1 (p.2.map (sel v w)), .lst (p.2.map fun b => .tup [sel v w b, sel v w b])]
def oths (v w : D) : List D := othC.map (oth v w)
def errs (v w : D) : List D := ones v ++ othC.map fun p => .ins p.1 (p.2.map (sel v w))
theorem ones_e (v : D) : F__law_ones [.p v] = .ok (.lst (ones v)) [.p v] := by kernel_rfl
theorem oths_e (v w : D) : F__law_others [.p v, .p w] = .ok (.lst (oths v w)) [.p v, .p w] := by kernel_rfl
theorem one_ft : oneC.all (fun c => decide (ft_value c = some 0)) = true := by decide +kernel
theorem oth_n : othC.length = 9 := by kernel_rfl
theorem one_n : oneC.length = 16 := by kernel_rfl
def kBody : MS := sIf (mTest (mBin neD (mFE (mCallF F__law_kinds [.e (mBinL ixD 5 (mPeek 9))])) (mFE (mLc [10] (mArgs rngD1 (mCons (mBin addD (mUn lenD (mPeek 5)) (mC (.int 2))) mNil)) (.nm 10) mYes (mOr (mBinL eqD 10 (mPeek 9)) (mBinL (cmpD fun i j => decide (j ≤ i)) 10 (mUn lenD (mPeek 5)))))))) (sRet (mC (.bl false))) sNx
theorem kinds_e (v w : D) (s0 s1 s2 s3 s4 s6 s7 s8 : Option Val) : loopD (.nm 9) kBody (rng 0 25) [s0, s1, s2, s3, s4, some (.ml (errs v w)), s6, s7, s8, none, none] = .ok .nx [s0, s1, s2, s3, s4, some (.ml (errs v w)), s6, s7, s8, some (.p (.int 24)), none] := by kernel_rfl
end LW

namespace LW
open PySem MP
def fst0 : D → D
  | .tup (x :: _) => x
  | _ => .non
def Self (v : D) : Prop := neD v v = some (.bl false)
theorem self_of {x y : Int} {s : Tx} {v : D} (h : v ∈ [D.int x, .str s, .tup [.int 1, .int y], .lst [.int y], .non, .bl true, .tup []]) : Self v := by
  unfold Self
  simp at h
  rcases h with rfl | rfl | rfl | rfl | rfl | rfl | rfl <;> simp [neD, lay, lays, eqvD, eqvDs]
theorem step2 {s0 s1 s2 s6 : Option Val} {v w : D} (hv : Self v) (hw : Self w) : ∃ s7 s8, sFor (mIter (mFE (mCallF F__law_others [.e (mVar 3), .e (mVar 4)]))) (.nm 7) (sSeq (sDrop (mOwn1 5 appF (mBinL ixD 7 (mC (.int 0))))) (sFor (mIter (mBinL ixD 7 (mC (.int 1)))) (.nm 8) (sIf (mTest (mBin neD (mBinL ixD 8 (mC (.int 0))) (mBinL ixD 8 (mC (.int 1))))) (sRet (mC (.bl false))) sNx))) [s0, s1, s2, some (.p v), some (.p w), some (.ml (ones v)), s6, none, none, none, none] =
    .ok .nx [s0, s1, s2, some (.p v), some (.p w), some (.ml (errs v w)), s6, s7, s8, none, none] := by
  have hs : ∀ b, Self (sel v w b) := fun b => by cases b <;> assumption
  obtain ⟨e', h1, s7, s8, h2⟩ := loop_app (tg := .nm 7) (f := fst0) (N := 30) (body := sSeq (sDrop (mOwn1 5 appF (mBinL ixD 7 (mC (.int 0))))) (sFor (mIter (mBinL ixD 7 (mC (.int 1)))) (.nm 8) (sIf (mTest (mBin neD (mBinL ixD 8 (mC (.int 0))) (mBinL ixD 8 (mC (.int 1))))) (sRet (mC (.bl false))) sNx)))
    (E := fun acc e => ∃ s7 s8, e = [s0, s1, s2, some (.p v), some (.p w), some (.ml acc), s6, s7, s8, none, none]) (oths v w) (ones v) [s0, s1, s2, some (.p v), some (.p w), some (.ml (ones v)), s6, none, none, none, none] (by
      have a := one_n
      have b := oth_n
      simp [ones, oths, a, b]) (fun d hd acc e hl q => by
      obtain ⟨s7, s8, rfl⟩ := q
      obtain ⟨p, hp, rfl⟩ := List.mem_map.mp hd
      have hl2 : acc.length < 1000000 := by omega
      have at0 : ∀ x y : D, L2.atI [x, y] 0 = some x := fun _ _ => rfl
      have at1 : ∀ x y : D, L2.atI [x, y] 1 = some y := fun _ _ => rfl
      obtain ⟨e3, h3, s8', rfl⟩ := loop_all (tg := .nm 8) (body := sIf (mTest (mBin neD (mBinL ixD 8 (mC (.int 0))) (mBinL ixD 8 (mC (.int 1))))) (sRet (mC (.bl false))) sNx) (ds := p.2.map fun b => .tup [sel v w b, sel v w b])
        (Q := fun e => ∃ s8, e = [s0, s1, s2, some (.p v), some (.p w), some (.ml (acc ++ [.ins p.1 (p.2.map (sel v w))])), s6, some (.p (oth v w p)), s8, none, none]) (fun d hd e q => by
          obtain ⟨s8, rfl⟩ := q
          obtain ⟨b, _, rfl⟩ := List.mem_map.mp hd
          have hb : neD (sel v w b) (sel v w b) = some (.bl false) := hs b
          refine ⟨_, _, rfl, by simp [gather, after, back, finR, outsG, isL, runF, truD, blD, MP.strOf, MP.intD, seqOf, ixD, lenD, cmpD, atI_zero, cutL_tail, slF, slD, itD, tupD, lstF, allF, lstD, frz, wipeE, back0, at0, at1, hb]; exact rfl, _, rfl⟩) [s0, s1, s2, some (.p v), some (.p w), some (.ml (acc ++ [.ins p.1 (p.2.map (sel v w))])), s6, some (.p (oth v w p)), s8, none, none] ⟨_, rfl⟩
      refine ⟨_, [s0, s1, s2, some (.p v), some (.p w), some (.ml (acc ++ [.ins p.1 (p.2.map (sel v w))])), s6, some (.p (oth v w p)), s8', none, none], rfl, ?_, some (.p (oth v w p)), s8', rfl⟩
      rw [seq_ok (e1 := [s0, s1, s2, some (.p v), some (.p w), some (.ml (acc ++ [.ins p.1 (p.2.map (sel v w))])), s6, some (.p (oth v w p)), s8, none, none]) (by
        have o := own1_e 5 appF (mBinL ixD 7 (mC (.int 0))) [s0, s1, s2, some (.p v), some (.p w), some (.ml acc), s6, some (.p (oth v w p)), s8, none, none] [s0, s1, s2, some (.p v), some (.p w), some (.ml acc), s6, some (.p (oth v w p)), s8, none, none] acc (acc ++ [.ins p.1 (p.2.map (sel v w))]) (.ins p.1 (p.2.map (sel v w))) .non rfl (by simp [gather, after, back, finR, outsG, isL, runF, truD, blD, MP.strOf, MP.intD, seqOf, ixD, lenD, cmpD, atI_zero, cutL_tail, slF, slD, itD, tupD, lstF, allF, lstD, frz, wipeE, back0, oth, at0]) rfl (by simp [appF, hl2])
        simp [gather, after, back, finR, outsG, isL, runF, truD, blD, MP.strOf, MP.intD, seqOf, ixD, lenD, cmpD, atI_zero, cutL_tail, slF, slD, itD, tupD, lstF, allF, lstD, frz, wipeE, back0, o])]
      refine (for_ok ?_ h3).trans ?_
      · simp [gather, after, back, finR, outsG, isL, runF, truD, blD, MP.strOf, MP.intD, seqOf, ixD, lenD, cmpD, atI_zero, cutL_tail, slF, slD, itD, tupD, lstF, allF, lstD, frz, wipeE, back0, oth, at1]
      · rfl) ⟨_, _, rfl⟩
  subst h2
  refine ⟨s7, s8, ?_⟩
  have el : ones v ++ (oths v w).map fst0 = errs v w := by
    unfold errs oths
    rw [List.map_map]
    rfl
  rw [el] at h1
  refine for_ok ?_ h1
  have oe := oths_e v w
  simp [gather, after, back, finR, outsG, isL, runF, truD, blD, MP.strOf, MP.intD, seqOf, ixD, lenD, cmpD, atI_zero, cutL_tail, slF, slD, itD, tupD, lstF, allF, lstD, frz, wipeE, back0, oe]
theorem law_ok (ns : List Int) (hl : ns.length ≤ 63) : ∃ outs, F_law [.p (.lst (ns.map D.int))] = .ok (.bl true) outs := by
  obtain ⟨a0, b0, bx⟩ := box_e ns 0 (by decide)
  obtain ⟨r1, a1, b1, _, _, t1⟩ := take_e a0 b0 1000000 (by decide) (by decide)
  obtain ⟨r2, a2, b2, r20, r21, t2⟩ := take_e a1 b1 99 (by decide) (by decide)
  obtain ⟨r3, a3, b3, _, _, t3⟩ := take_e a2 b2 9 (by decide) (by decide)
  obtain ⟨r4, a4, b4, _, _, t4⟩ := take_e a3 b3 9 (by decide) (by decide)
  generalize hs : ns.map D.int = S at *
  have pw : powD (.int 10) (.int 6) = some (.int 1000000) := rfl
  have sb : subD (.int r1) (.int 500000) = some (.int (r1 - 500000)) := rfl
  obtain ⟨dg, sf, ad⟩ : ∃ dg, strF (.int r2) = some (.str dg) ∧ addD (.str [116, 101, 120, 116, 32]) (.str dg) = some (.str ([116, 101, 120, 116, 32] ++ dg)) := by
    have key : (List.range 99).all (fun n => match strF (.int (n : Int)) with
      | some (.str d) => decide (d.length ≤ 100)
      | _ => false) = true := by decide +kernel
    have k := List.all_eq_true.mp key r2.toNat (List.mem_range.mpr (by omega))
    have e : ((r2.toNat : Nat) : Int) = r2 := by omega
    rw [e] at k
    split at k
    · rename_i d hd
      refine ⟨d, hd, if_pos ?_⟩
      have k := of_decide_eq_true k
      simp
      omega
    · cases k
  generalize hu : ([116, 101, 120, 116, 32] : Tx) ++ dg = u at ad
  let some1 : List D := [.int (r1 - 500000), .str u, .tup [.int 1, .int r3]]
  let some2 : List D := [.int (r1 - 500000), .str u, .tup [.int 1, .int r3], .lst [.int r4], .non, .bl true, .tup []]
  obtain ⟨v, a5, b5, hv, p5⟩ := pickL a4 b4 some2 (by simp [some2]) (by simp [some2])
  obtain ⟨w, a6, b6, hw, p6⟩ := pickL a5 b5 some2 (by simp [some2]) (by simp [some2])
  have sv : Self v := by
    have hv2 : v ∈ [D.int (r1 - 500000), .str u, .tup [.int 1, .int r3], .lst [.int r4], .non, .bl true, .tup []] := hv
    simp at hv2
    rcases hv2 with rfl | rfl | rfl | rfl | rfl | rfl | rfl <;> simp [Self, neD, lay, lays, eqvD, eqvDs]
  have sw : Self w := by
    have hw2 : w ∈ [D.int (r1 - 500000), .str u, .tup [.int 1, .int r3], .lst [.int r4], .non, .bl true, .tup []] := hw
    simp at hw2
    rcases hw2 with rfl | rfl | rfl | rfl | rfl | rfl | rfl <;> simp [Self, neD, lay, lays, eqvD, eqvDs]
  have e1 := ones_e v
  obtain ⟨E2, l1, s6, rfl⟩ := forO_all (i := 5) (tg := .nm 6) (body := sIf (mTest (mBin neD (mUn (fldF ft_value) (mPeek 6)) (mPeek 3))) (sRet (mC (.bl false))) sNx) (xs := ones v) (Q := fun e => ∃ s6, e = [some (.p (.lst S)), some (.ml [.int a6, .int b6]), some (.p (.lst some2)), some (.p v), some (.p w), some (.ml (ones v)), s6, none, none, none, none])
    (fun e q => by
      obtain ⟨s6, rfl⟩ := q
      rfl) (fun d hd e q => by
      obtain ⟨s6, rfl⟩ := q
      obtain ⟨c, hc, rfl⟩ := List.mem_map.mp hd
      have hf : ft_value c = some 0 := of_decide_eq_true (List.all_eq_true.mp one_ft c hc)
      have sv2 : neD v v = some (.bl false) := sv
      refine ⟨_, [some (.p (.lst S)), some (.ml [.int a6, .int b6]), some (.p (.lst some2)), some (.p v), some (.p w), some (.ml (ones v)), some (.p (.ins c [v])), none, none, none, none], rfl, ?_, _, rfl⟩
      simp [gather, after, back, finR, outsG, isL, runF, truD, blD, MP.strOf, MP.intD, seqOf, ixD, lenD, cmpD, atI_zero, cutL_tail, slF, slD, itD, tupD, lstF, allF, lstD, frz, wipeE, back0, fldF, hf, sv2]) [some (.p (.lst S)), some (.ml [.int a6, .int b6]), some (.p (.lst some2)), some (.p v), some (.p w), some (.ml (ones v)), none, none, none, none, none] ⟨_, rfl⟩
  obtain ⟨s7, s8, l2⟩ := step2 (s0 := some (.p (.lst S))) (s1 := some (.ml [.int a6, .int b6])) (s2 := some (.p (.lst some2))) (s6 := s6) sv sw
  have l3 := kinds_e v w (some (.p (.lst S))) (some (.ml [.int a6, .int b6])) (some (.p (.lst some2))) (some (.p v)) (some (.p w)) s6 s7 s8
  have en : (errs v w).length = 25 := by
    have a := one_n
    have b := oth_n
    simp [errs, ones, a, b]
  have rg : rngD1 [.int 25] = some (rng 0 25) := rfl
  have l4 : sFor (mArgs rngD1 (mCons (mUn lenD (mPeek 5)) mNil)) (.nm 9) kBody [some (.p (.lst S)), some (.ml [.int a6, .int b6]), some (.p (.lst some2)), some (.p v), some (.p w), some (.ml (errs v w)), s6, s7, s8, none, none] = _ := for_ok (by simp [gather, after, back, finR, outsG, isL, runF, truD, blD, MP.strOf, MP.intD, seqOf, ixD, lenD, cmpD, atI_zero, cutL_tail, slF, slD, itD, tupD, lstF, allF, lstD, frz, wipeE, back0, en, rg]) l3
  unfold kBody at l4
  refine ⟨[.p (.lst S)], ?_⟩
  have q1 : sSetF 1 (mCallF F__law_box [.e (mVar 0), .e (mC (.int 0))]) [some (.p (.lst S)), none, none, none, none, none, none, none, none, none, none] = .ok .nx [some (.p (.lst S)), some (.ml [.int a0, .int b0]), none, none, none, none, none, none, none, none, none] := by
    have bx0 : F__law_box [.p (.lst S), .p (.int 0)] = .ok (.lst [.int a0, .int b0]) [.p (.lst S), .p (.int 0)] := bx
    simp [gather, after, back, finR, outsG, isL, runF, truD, blD, MP.strOf, MP.intD, seqOf, ixD, lenD, cmpD, atI_zero, cutL_tail, slF, slD, itD, tupD, lstF, allF, lstD, frz, wipeE, back0, bx0]
  have q4 : sSet 3 (mCall F__law_pick [.r 1, .e (mVar 2)]) [some (.p (.lst S)), some (.ml [.int a4, .int b4]), some (.ml some2), none, none, none, none, none, none, none, none] = .ok .nx [some (.p (.lst S)), some (.ml [.int a5, .int b5]), some (.p (.lst some2)), some (.p v), none, none, none, none, none, none, none] := by
    simp [gather, after, back, finR, outsG, isL, runF, truD, blD, MP.strOf, MP.intD, seqOf, ixD, lenD, cmpD, atI_zero, cutL_tail, slF, slD, itD, tupD, lstF, allF, lstD, frz, wipeE, back0, p5]
  have q5 : sSet 4 (mCall F__law_pick [.r 1, .e (mVar 2)]) [some (.p (.lst S)), some (.ml [.int a5, .int b5]), some (.p (.lst some2)), some (.p v), none, none, none, none, none, none, none] = .ok .nx [some (.p (.lst S)), some (.ml [.int a6, .int b6]), some (.p (.lst some2)), some (.p v), some (.p w), none, none, none, none, none, none] := by
    simp [gather, after, back, finR, outsG, isL, runF, truD, blD, MP.strOf, MP.intD, seqOf, ixD, lenD, cmpD, atI_zero, cutL_tail, slF, slD, itD, tupD, lstF, allF, lstD, frz, wipeE, back0, p6]
  have q6 : sSetF 5 (mCallF F__law_ones [.e (mVar 3)]) [some (.p (.lst S)), some (.ml [.int a6, .int b6]), some (.p (.lst some2)), some (.p v), some (.p w), none, none, none, none, none, none] = .ok .nx [some (.p (.lst S)), some (.ml [.int a6, .int b6]), some (.p (.lst some2)), some (.p v), some (.p w), some (.ml (ones v)), none, none, none, none, none] := by
    simp [gather, after, back, finR, outsG, isL, runF, truD, blD, MP.strOf, MP.intD, seqOf, ixD, lenD, cmpD, atI_zero, cutL_tail, slF, slD, itD, tupD, lstF, allF, lstD, frz, wipeE, back0, e1]
  show runF 1 11 r_law false m_law [.p (.lst S)] = _
  unfold runF
  rw [if_pos (by rfl)]
  show finR r_law false [.p (.lst S)] (m_law [some (.p (.lst S)), none, none, none, none, none, none, none, none, none, none]) = _
  unfold m_law
  rw [seq_ok q1, seq_ok (e1 := [some (.p (.lst S)), some (.ml [.int a3, .int b3]), some (.ml some1), none, none, none, none, none, none, none, none]) (by simp [gather, after, back, finR, outsG, isL, runF, truD, blD, MP.strOf, MP.intD, seqOf, ixD, lenD, cmpD, atI_zero, cutL_tail, slF, slD, itD, tupD, lstF, allF, lstD, frz, wipeE, back0, pw, t1, t2, t3, sb, sf, ad, some1]),
    seq_ok (e1 := [some (.p (.lst S)), some (.ml [.int a4, .int b4]), some (.ml some2), none, none, none, none, none, none, none, none]) (by simp [gather, after, back, finR, outsG, isL, runF, truD, blD, MP.strOf, MP.intD, seqOf, ixD, lenD, cmpD, atI_zero, cutL_tail, slF, slD, itD, tupD, lstF, allF, lstD, frz, wipeE, back0, t4, catD, some1, some2]), seq_ok q4, seq_ok q5, seq_ok q6, seq_ok l1, seq_ok l2, seq_ok l4]
  simp [gather, after, back, finR, outsG, isL, runF, truD, blD, MP.strOf, MP.intD, seqOf, ixD, lenD, cmpD, atI_zero, cutL_tail, slF, slD, itD, tupD, lstF, allF, lstD, frz, wipeE, back0, r_law]
end LW

theorem PySem.Challenge.cw_calltrim_k01_errors_holds : PySem.Challenge.rw_calltrim_k01_errors.Holds :=
  law_holds fun ns h => LW.law_ok ns h

