import PyProof.Rows.All
import HandS.ForMost
import HandS.Exc
import HandS.TryMany
import HandS.ExcField
import HandS.IsInst
import HandS.TupAny
import HandS.Wide
import HandS.Walk
import HandS.FStr
import HandS.Style
import HandS.Deep
import HandS.Flow
import HandS.TupLe
import HandS.Defaults
import HandS.TupMul
import HandS.CallSlots
import HandS.ExcOwn
import HandS.ExcInit
import HandS.HeadHook2
import HandS.Head0
import HandS.Head1
import HandS.Head2
import HandS.HeadEnd
import HandS.HeadHook1
import PySem.Challenge.RW_calltrim_k03_lines
set_option Elab.async false
set_option linter.all false
set_option maxRecDepth 100000
set_option maxHeartbeats 2400000
/-! MP, part A: data, slots, the relation of data to the heap. -/
namespace MP
open L2 PyProof.Rows PySem PySem.Spec

abbrev Tx := List Nat
/-- a pure value; an instance has its fields in the order of its class's list of names -/
inductive D where
  | non | bl (b : Bool) | int (i : Int) | str (s : Tx) | tup (xs : List D) | lst (xs : List D) | ins (C : Tx) (fs : List D)
deriving Inhabited
structure Exn where
  cls : Tx
  fs : List D
/-- what a slot holds: a pure value, a list of its own, an error caught -/
inductive Val where
  | p (d : D) | ml (xs : List D) | x (e : Exn)
abbrev Env := List (Option Val)
inductive R (α : Type) where
  | ok (a : α) (env : Env) | ex (x : Exn) (env : Env) | bad
abbrev M (α : Type) := Env → R α
def M.bind {α β : Type} (m : M α) (f : α → M β) : M β := fun e => match m e with
  | .ok a e' => f a e'
  | .ex x e' => .ex x e'
  | .bad => .bad
instance : Monad M where
  pure a := fun e => .ok a e
  bind := M.bind
def bad {α : Type} : M α := fun _ => .bad
def lift {α : Type} : Option α → M α
  | some a => fun e => .ok a e
  | none => fun _ => .bad
theorem bind_eq {α β : Type} (m : M α) (f : α → M β) : (m >>= f) = M.bind m f := rfl

/-- what the relation leans on: the written part, where a class stands, the names of its fields -/
structure G where
  K : PySem.W.Frag
  ca : Tx → Addr
  fl : Tx → List Tx

def TxOk (s : Tx) : Prop := (∀ c ∈ s, c < 0x110000) ∧ s.length ≤ sizeLine
def PL (L : Addr → Prop) (H : Hp) (a : Addr) (vs : List V) : Prop := (Rd H a (.lst vs) ∧ ¬ L a) ∧ vs.length ≤ sizeLine
def PT (K : PySem.W.Frag) (L : Addr → Prop) (H : Hp) (a : Addr) (vs : List V) : Prop := ((Rd H a (.tup vs) ∧ ¬ L a) ∨ SqT K (fun _ => none) a vs) ∧ vs.length ≤ sizeLine
def FldOk (names : List Tx) (vs : List V) (vfs : List (Str × V)) : Prop := vs.length = names.length ∧ ∀ (i : Nat) (f : Tx), names[i]? = some f → ∃ v, vs[i]? = some v ∧ vfs.lookup (⟨f.toArray⟩ : Str) = some v

mutual
def Rep (g : G) (L : Addr → Prop) (H : Hp) : D → V → Prop
  | .non, v => v = .non
  | .bl b, v => v = .bl b
  | .int i, v => v = .int i
  | .str s, v => v = .str ⟨s.toArray⟩ ∧ TxOk s
  | .tup xs, v => ∃ a vs, v = .ref a ∧ PT g.K L H a vs ∧ Reps g L H xs vs
  | .lst xs, v => ∃ a vs, v = .ref a ∧ PL L H a vs ∧ Reps g L H xs vs
  | .ins C fs, v => ∃ a dx vfs vs, v = .ref a ∧ H a = some (.ins (g.ca C) dx vfs) ∧ ¬ L a ∧ FldOk (g.fl C) vs vfs ∧ Reps g L H fs vs
def Reps (g : G) (L : Addr → Prop) (H : Hp) : List D → List V → Prop
  | [], vs => vs = []
  | d :: ds, vs => ∃ v r, vs = v :: r ∧ Rep g L H d v ∧ Reps g L H ds r
end

/-- what is tracked and not owned stays -/
def XT (L : Addr → Prop) (H : Hp) (L' : Addr → Prop) (H' : Hp) : Prop := ∀ a o, H a = some o → ¬ L a → H' a = some o ∧ ¬ L' a
section
variable {g : G} {L L' : Addr → Prop} {H H' : Hp}
theorem XT.rd {a : Addr} {u : HO} (x : XT L H L' H') (h : Rd H a u) (n : ¬ L a) : Rd H' a u ∧ ¬ L' a := by
  rcases h with h | ⟨o, h⟩
  · exact ⟨.inl (x a _ h n).1, (x a _ h n).2⟩
  · exact ⟨.inr ⟨o, (x a _ h n).1⟩, (x a _ h n).2⟩
theorem PL.mono {a : Addr} {vs : List V} (x : XT L H L' H') (h : PL L H a vs) : PL L' H' a vs := ⟨x.rd h.1.1 h.1.2, h.2⟩
theorem PT.mono {K : PySem.W.Frag} {a : Addr} {vs : List V} (x : XT L H L' H') (h : PT K L H a vs) : PT K L' H' a vs := by
  obtain ⟨h | h, z⟩ := h
  · exact ⟨.inl (x.rd h.1 h.2), z⟩
  · exact ⟨.inr h, z⟩
theorem PL.sq {K : PySem.W.Frag} {a : Addr} {vs : List V} (h : PL L H a vs) : SqL K H a vs := .inl h.1.1
theorem PT.sq {K : PySem.W.Frag} {a : Addr} {vs : List V} (h : PT K L H a vs) : SqT K H a vs := by
  obtain ⟨⟨h, _⟩ | h, _⟩ := h
  · exact .inl h
  · rcases h with (h | ⟨o, h⟩) | h
    · cases h
    · cases h
    · exact .inr h
mutual
theorem Rep.mono (x : XT L H L' H') : ∀ (d : D) (v : V), Rep g L H d v → Rep g L' H' d v
  | .non, _, h => h
  | .bl _, _, h => h
  | .int _, _, h => h
  | .str _, _, h => h
  | .tup xs, v, h => by
    obtain ⟨a, vs, e, p, r⟩ := h
    exact ⟨a, vs, e, p.mono x, Reps.mono x xs vs r⟩
  | .lst xs, v, h => by
    obtain ⟨a, vs, e, p, r⟩ := h
    exact ⟨a, vs, e, p.mono x, Reps.mono x xs vs r⟩
  | .ins C fs, v, h => by
    obtain ⟨a, dx, vfs, vs, e, h1, n, f, r⟩ := h
    exact ⟨a, dx, vfs, vs, e, (x a _ h1 n).1, (x a _ h1 n).2, f, Reps.mono x fs vs r⟩
theorem Reps.mono (x : XT L H L' H') : ∀ (ds : List D) (vs : List V), Reps g L H ds vs → Reps g L' H' ds vs
  | [], _, h => h
  | d :: ds, vs, h => by
    obtain ⟨v, r, e, h1, h2⟩ := h
    exact ⟨v, r, e, Rep.mono x d v h1, Reps.mono x ds r h2⟩
end
theorem Reps.length : ∀ {ds : List D} {vs : List V}, Reps g L H ds vs → ds.length = vs.length
  | [], vs, h => by
    have e : vs = [] := h
    subst e
    rfl
  | d :: ds, vs, h => by
    obtain ⟨v, r, rfl, _, h2⟩ := h
    rw [List.length_cons, List.length_cons, Reps.length h2]
theorem Reps.get : ∀ {ds : List D} {vs : List V} {i : Nat} {d : D}, Reps g L H ds vs → ds[i]? = some d → ∃ v, vs[i]? = some v ∧ Rep g L H d v
  | [], _, _, _, _, e => by simp at e
  | d :: ds, vs, 0, d', h, e => by
    obtain ⟨v, r, rfl, h1, _⟩ := h
    simp at e; subst e
    exact ⟨v, rfl, h1⟩
  | d :: ds, vs, i + 1, d', h, e => by
    obtain ⟨v, r, rfl, _, h2⟩ := h
    obtain ⟨u, e1, e2⟩ := Reps.get (i := i) (d := d') h2 (by simpa using e)
    exact ⟨u, by simpa using e1, e2⟩
theorem Reps.getV : ∀ {ds : List D} {vs : List V} {i : Nat} {v : V}, Reps g L H ds vs → vs[i]? = some v → ∃ d, ds[i]? = some d ∧ Rep g L H d v
  | [], vs, i, v, h, e => by rw [show vs = [] from h] at e; simp at e
  | d :: ds, vs, 0, v', h, e => by
    obtain ⟨v, r, rfl, h1, _⟩ := h
    simp at e; subst e
    exact ⟨d, rfl, h1⟩
  | d :: ds, vs, i + 1, v', h, e => by
    obtain ⟨v, r, rfl, _, h2⟩ := h
    obtain ⟨u, e1, e2⟩ := Reps.getV (i := i) (v := v') h2 (by simpa using e)
    exact ⟨u, by simpa using e1, e2⟩
theorem Reps.app : ∀ {ds es : List D} {vs us : List V}, Reps g L H ds vs → Reps g L H es us → Reps g L H (ds ++ es) (vs ++ us)
  | [], _, vs, _, h, k => by rw [show vs = [] from h]; exact k
  | d :: ds, es, vs, us, h, k => by
    obtain ⟨v, r, rfl, h1, h2⟩ := h
    exact ⟨v, r ++ us, rfl, h1, Reps.app h2 k⟩
theorem Reps.one {d : D} {v : V} (h : Rep g L H d v) : Reps g L H [d] [v] := ⟨v, [], rfl, h, rfl⟩
theorem Reps.take : ∀ {ds : List D} {vs : List V} (n : Nat), Reps g L H ds vs → Reps g L H (ds.take n) (vs.take n)
  | _, _, 0, _ => rfl
  | [], vs, n + 1, h => by rw [show vs = [] from h]; rfl
  | d :: ds, vs, n + 1, h => by
    obtain ⟨v, r, rfl, h1, h2⟩ := h
    exact ⟨v, r.take n, rfl, h1, Reps.take n h2⟩
theorem Reps.drop : ∀ {ds : List D} {vs : List V} (n : Nat), Reps g L H ds vs → Reps g L H (ds.drop n) (vs.drop n)
  | _, _, 0, h => h
  | [], vs, n + 1, h => by rw [show vs = [] from h]; rfl
  | d :: ds, vs, n + 1, h => by
    obtain ⟨v, r, rfl, h1, h2⟩ := h
    exact Reps.drop n h2
theorem Reps.set : ∀ {ds : List D} {vs : List V} {d : D} {v : V} (n : Nat), Reps g L H ds vs → Rep g L H d v → Reps g L H (ds.set n d) (vs.set n v)
  | [], vs, d, v, n, h, k => by rw [show vs = [] from h]; rfl
  | d' :: ds, vs, d, v, 0, h, k => by
    obtain ⟨v', r, rfl, h1, h2⟩ := h
    exact ⟨v, r, rfl, k, h2⟩
  | d' :: ds, vs, d, v, n + 1, h, k => by
    obtain ⟨v', r, rfl, h1, h2⟩ := h
    exact ⟨v', r.set n v, rfl, h1, Reps.set n h2 k⟩
theorem Reps.nil : Reps g L H [] [] := rfl
theorem Reps.cons {d : D} {v : V} {ds : List D} {vs : List V} (h : Rep g L H d v) (k : Reps g L H ds vs) : Reps g L H (d :: ds) (v :: vs) := ⟨v, vs, rfl, h, k⟩
theorem XT.same (h : Same H H') : XT L H L H' := fun a o e n => ⟨h a o e, n⟩
theorem XT.less (h : ∀ a, L' a → L a) : XT L H L' H := fun a o e n => ⟨e, fun z => n (h a z)⟩
/-- a new object -/
theorem XT.new {p : Addr} {o : HO} (h : H p = none) : XT L H (fun b => L b ∨ b = p) (upd H p o) := fun a u e n => by
  have ne : a ≠ p := fun z => by rw [z, h] at e; cases e
  exact ⟨by rw [upd_ne ne]; exact e, fun z => z.elim n ne⟩
theorem Same.new {p : Addr} {o : HO} (h : H p = none) : Same H (upd H p o) := fun a u e => by
  rw [upd_ne (ne_of_none e h)]; exact e
end

/-- as Rep, or a list that some slot owns, as it is now -/
def RepP (g : G) (L : Addr → Prop) (H : Hp) (d : D) (v : V) : Prop := Rep g L H d v ∨ ∃ xs a vs, d = .lst xs ∧ v = .ref a ∧ H a = some (.lst vs) ∧ vs.length ≤ sizeLine ∧ Reps g L H xs vs
theorem RepP.lst {g : G} {L : Addr → Prop} {H : Hp} {xs : List D} {v : V} (h : RepP g L H (.lst xs) v) : ∃ a vs, v = .ref a ∧ Rd H a (.lst vs) ∧ vs.length ≤ sizeLine ∧ Reps g L H xs vs := by
  rcases h with ⟨a, vs, e, p, r⟩ | ⟨xs', a, vs, e1, e2, h, z, r⟩
  · exact ⟨a, vs, e, p.1.1, p.2, r⟩
  · cases e1
    exact ⟨a, vs, e2, .inl h, z, r⟩
theorem RepP.rep {g : G} {L : Addr → Prop} {H : Hp} {d : D} {v : V} (h : RepP g L H d v) (n : ∀ xs, d ≠ .lst xs) : Rep g L H d v := by
  rcases h with h | ⟨xs', a, vs, e1, _⟩
  · exact h
  · exact absurd e1 (n _)

/-! ### slots -/
abbrev Own := Nat → Option Addr
abbrev XTab := Addr → Option (Value × Option Addr)
def LL (L0 : Addr → Prop) (O : Own) : Addr → Prop := fun a => L0 a ∨ ∃ i, O i = some a
def SR (g : G) (L : Addr → Prop) (xs : XTab) (H : Hp) (o : Option Addr) : Option (Option Val) → Option (Option V) → Prop
  | some (some (.p d)), sv => o = none ∧ ∃ v, sv = some (some v) ∧ Rep g L H d v
  | some (some (.ml ds)), sv => ∃ a vs, o = some a ∧ sv = some (some (.ref a)) ∧ H a = some (.lst vs) ∧ vs.length ≤ sizeLine ∧ Reps g L H ds vs
  | some (some (.x e)), sv => o = none ∧ ∃ a dd vfs vs, sv = some (some (.ref a)) ∧ xs a = some (.ref (g.ca e.cls), some dd) ∧ H dd = some (.xd vfs) ∧ ¬ L dd ∧ FldOk (g.fl e.cls) vs vfs ∧ Reps g L H e.fs vs
  | _, _ => o = none
/-- the frame: dm: what stood at the def's entry; rf: the slots of the arguments that may be changed in place -/
structure FRel (g : G) (rf : Nat → Bool) (dm L0 : Addr → Prop) (xs : XTab) (O : Own) (H : Hp) (σ : L2.St) (env : Env) : Prop where
  len : env.length = σ.length
  sl : ∀ i, SR g (LL L0 O) xs H (O i) env[i]? σ[i]?
  inj : ∀ i j a, O i = some a → O j = some a → i = j
  dis : ∀ i a, O i = some a → ¬ L0 a
  lok : ∀ a, L0 a → ∃ o, H a = some o
  dom : ∀ a, dm a → ∃ o, H a = some o
  own : ∀ i a, rf i = false → O i = some a → ¬ dm a
structure Ext (rf : Nat → Bool) (σ : L2.St) (O : Own) (H : Hp) (σ' : L2.St) (O' : Own) (H' : Hp) : Prop where
  keep : ∀ a o, H a = some o → (∀ i, O i ≠ some a) → H' a = some o ∧ ∀ i, O' i ≠ some a
  stab : ∀ i, rf i = true → σ'[i]? = σ[i]? ∧ (O' i = none ∨ O' i = O i)
  old : ∀ a o, H a = some o → ∃ o', H' a = some o'
section
variable {g : G} {rf : Nat → Bool} {dm L0 : Addr → Prop} {xs : XTab} {O O' O'' : Own} {H H' H'' : Hp} {σ σ' σ'' : L2.St} {env : Env}
theorem Ext.refl : Ext rf σ O H σ O H := ⟨fun _ _ h n => ⟨h, n⟩, fun _ _ => ⟨rfl, .inr rfl⟩, fun _ o h => ⟨o, h⟩⟩
theorem Ext.trans (a : Ext rf σ O H σ' O' H') (b : Ext rf σ' O' H' σ'' O'' H'') : Ext rf σ O H σ'' O'' H'' := by
  refine ⟨fun c o h n => ?_, fun i hi => ?_, fun c o h => ?_⟩
  · obtain ⟨h1, n1⟩ := a.keep c o h n
    exact b.keep c o h1 n1
  · obtain ⟨e1, o1⟩ := a.stab i hi
    obtain ⟨e2, o2⟩ := b.stab i hi
    refine ⟨e2.trans e1, ?_⟩
    rcases o2 with o2 | o2
    · exact .inl o2
    · rcases o1 with o1 | o1
      · exact .inl (o2.trans o1)
      · exact .inr (o2.trans o1)
  · obtain ⟨o1, h1⟩ := a.old c o h
    exact b.old c o1 h1
theorem Ext.xt (x : Ext rf σ O H σ' O' H') : XT (LL L0 O) H (LL L0 O') H' := fun a o h n => by
  obtain ⟨h1, n1⟩ := x.keep a o h fun i e => n (.inr ⟨i, e⟩)
  exact ⟨h1, fun z => z.elim (fun z => n (.inl z)) fun ⟨i, e⟩ => n1 i e⟩
theorem Ext.same (h : Same H H') : Ext rf σ O H σ O H' := ⟨fun a o e n => ⟨h a o e, n⟩, fun _ _ => ⟨rfl, .inr rfl⟩, fun a o e => ⟨o, h a o e⟩⟩
theorem SR.mono {L L' : Addr → Prop} {o : Option Addr} {ev : Option (Option Val)} {sv : Option (Option V)} (x : XT L H L' H') (k : ∀ a u, o = some a → H a = some u → H' a = some u) (h : SR g L xs H o ev sv) : SR g L' xs H' o ev sv := by
  match ev with
  | none => exact h
  | some none => exact h
  | some (some (.p d)) =>
    obtain ⟨e, v, e2, r⟩ := h
    exact ⟨e, v, e2, Rep.mono x d v r⟩
  | some (some (.ml ds)) =>
    obtain ⟨a, vs, e1, e2, h1, z, r⟩ := h
    exact ⟨a, vs, e1, e2, k a _ e1 h1, z, Reps.mono x ds vs r⟩
  | some (some (.x e)) =>
    obtain ⟨e0, a, dd, vfs, vs, e1, e2, h1, n, f, r⟩ := h
    exact ⟨e0, a, dd, vfs, vs, e1, e2, (x dd _ h1 n).1, (x dd _ h1 n).2, f, Reps.mono x _ vs r⟩
theorem FRel.same (F : FRel g rf dm L0 xs O H σ env) (h : Same H H') : FRel g rf dm L0 xs O H' σ env :=
  ⟨F.len, fun i => SR.mono (XT.same h) (fun a u _ e => h a u e) (F.sl i), F.inj, F.dis, fun a z => let ⟨o, e⟩ := F.lok a z; ⟨o, h a o e⟩, fun a z => let ⟨o, e⟩ := F.dom a z; ⟨o, h a o e⟩, F.own⟩
/-- what L forbids is tracked -/
theorem FRel.trk (F : FRel g rf dm L0 xs O H σ env) : ∀ a, LL L0 O a → ∃ o, H a = some o := fun a z => by
  rcases z with z | ⟨i, e⟩
  · exact F.lok a z
  · have s := F.sl i
    rw [e] at s
    match hq : env[i]? with
    | none => rw [hq] at s; cases s
    | some none => rw [hq] at s; cases s
    | some (some (.p d)) => rw [hq] at s; cases s.1
    | some (some (.ml ds)) =>
      rw [hq] at s
      obtain ⟨a', vs, e1, _, h1, _⟩ := s
      cases e1
      exact ⟨_, h1⟩
    | some (some (.x d)) => rw [hq] at s; cases s.1
theorem FRel.fresh (F : FRel g rf dm L0 xs O H σ env) {p : Addr} (h : H p = none) : ¬ LL L0 O p ∧ ¬ dm p := by
  refine ⟨fun z => ?_, fun z => ?_⟩
  · obtain ⟨o, e⟩ := F.trk p z
    rw [h] at e; cases e
  · obtain ⟨o, e⟩ := F.dom p z
    rw [h] at e; cases e
/-- one address more is forbidden -/
def LA (L0 : Addr → Prop) (a : Addr) : Addr → Prop := fun b => L0 b ∨ b = a
theorem LA.ll {a b : Addr} (h : LL L0 O b) : LL (LA L0 a) O b := h.elim (fun h => .inl (.inl h)) .inr
theorem LA.cases {a b : Addr} (h : LL (LA L0 a) O b) : LL L0 O b ∨ b = a := h.elim (fun h => h.elim (fun h => .inl (.inl h)) .inr) fun h => .inl (.inr h)
/-- a new object, that the slots don't know -/
theorem FRel.newA (F : FRel g rf dm L0 xs O H σ env) {a : Addr} {o : HO} (h : H a = none) (s : Same H H') (h' : H' a = some o) : FRel g rf dm (LA L0 a) xs O H' σ env := by
  have x : XT (LL L0 O) H (LL (LA L0 a) O) H' := fun b u e n => ⟨s b u e, fun z => (LA.cases z).elim n fun q => by rw [q, h] at e; cases e⟩
  refine ⟨F.len, fun i => SR.mono x (fun b u _ e => s b u e) (F.sl i), F.inj, fun i b e z => z.elim (F.dis i b e) fun q => ?_, fun b z => ?_, fun b z => let ⟨o, e⟩ := F.dom b z; ⟨o, s b o e⟩, F.own⟩
  · subst q
    obtain ⟨o, e2⟩ := F.trk b (.inr ⟨i, e⟩)
    rw [h] at e2; cases e2
  · rcases z with z | q
    · exact let ⟨o, e⟩ := F.lok b z; ⟨o, s b o e⟩
    · exact ⟨o, by rw [q]; exact h'⟩
theorem FRel.less {L1 : Addr → Prop} (F : FRel g rf dm L1 xs O H σ env) (h : ∀ a, L0 a → L1 a) : FRel g rf dm L0 xs O H σ env :=
  ⟨F.len, fun i => SR.mono (XT.less fun b z => z.elim (fun z => .inl (h b z)) .inr) (fun _ _ _ e => e) (F.sl i), F.inj, fun i a e z => F.dis i a e (h a z), fun a z => F.lok a (h a z), F.dom, F.own⟩
end
end MP

/-! MP, part B: what an expression does, as a reading; operators, names, tests. -/
namespace MP
open L2 PyProof.Rows PySem PySem.Spec

structure Cy where
  g : G
  rf : Nat → Bool
  dm : Addr → Prop
  xs : XTab
  W : WX
abbrev Cy.F (C : Cy) (L0 : Addr → Prop) (O : Own) (H : Hp) (σ : L2.St) (env : Env) : Prop := FRel C.g C.rf C.dm L0 C.xs O H σ env
/-- an error in flight -/
def XR (g : G) (L : Addr → Prop) (H : Hp) (x : Exn) (cls : Value) (d : Option Addr) : Prop :=
  cls = .ref (g.ca x.cls) ∧ ∃ dd vfs vs, d = some dd ∧ H dd = some (.xd vfs) ∧ ¬ L dd ∧ FldOk (g.fl x.cls) vs vfs ∧ Reps g L H x.fs vs
def Post (C : Cy) {α : Type} (L0 : Addr → Prop) (O : Own) (H : Hp) (σ : L2.St) (r : R α) (Φ : α → Env → Own → Hp → Prop) : Prop :=
  match r with
  | .ok a e => ∀ O' H', Ext C.rf σ O H σ O' H' → C.F L0 O' H' σ e → Φ a e O' H'
  | .ex x e => ∀ cls dd O' H', Ext C.rf σ O H σ O' H' → C.F L0 O' H' σ e → XR C.g (LL L0 O') H' x cls dd → C.W cls dd σ H'
  | .bad => False
section
variable {C : Cy} {L0 : Addr → Prop} {O O1 : Own} {H H1 : Hp} {σ : L2.St} {env : Env}
theorem Post.at {α : Type} {r : R α} {Φ : α → Env → Own → Hp → Prop} (h : Post C L0 O H σ r Φ) (x : Ext C.rf σ O H σ O1 H1) : Post C L0 O1 H1 σ r Φ := by
  cases r with
  | ok a e => exact fun O' H' y F => h O' H' (x.trans y) F
  | ex a e => exact fun c d O' H' y F k => h c d O' H' (x.trans y) F k
  | bad => exact h
theorem Post.imp {α : Type} {r : R α} {Φ Φ' : α → Env → Own → Hp → Prop} (h : Post C L0 O H σ r Φ) (k : ∀ a e O' H', Ext C.rf σ O H σ O' H' → C.F L0 O' H' σ e → Φ a e O' H' → Φ' a e O' H') : Post C L0 O H σ r Φ' := by
  cases r with
  | ok a e => exact fun O' H' y F => k a e O' H' y F (h O' H' y F)
  | ex a e => exact h
  | bad => exact h
theorem Post.bind {α β : Type} {m : M α} {f : α → M β} {Φ : β → Env → Own → Hp → Prop} (h : Post C L0 O H σ ((m >>= f) env) Φ) : Post C L0 O H σ (m env) (fun a e O' H' => Post C L0 O' H' σ (f a e) Φ) := by
  rw [bind_eq] at h
  unfold M.bind at h
  cases e : m env with
  | ok a e' => rw [e] at h; exact fun O' H' y F => Post.at h y
  | ex a e' => rw [e] at h; exact h
  | bad => rw [e] at h; exact h
theorem Post.here {α : Type} {a : α} {Φ : α → Env → Own → Hp → Prop} (h : Post C L0 O H σ (.ok a env) Φ) (F : C.F L0 O H σ env) : Φ a env O H := h O H Ext.refl F
end

def EvE (C : Cy) (m : M D) : TE := fun σ H Q => ∃ L0 O env, C.F L0 O H σ env ∧ Post C L0 O H σ (m env) fun d _ O' H' => ∀ v, Rep C.g (LL L0 O') H' d v → Q v H'
def EvP (C : Cy) (m : M D) : TE := fun σ H Q => ∃ L0 O env, C.F L0 O H σ env ∧ Post C L0 O H σ (m env) fun d _ O' H' => ∀ v, RepP C.g (LL L0 O') H' d v → Q v H'
def EvT (C : Cy) (m : M Bool) : TT := fun σ H Q => ∃ L0 O env, C.F L0 O H σ env ∧ Post C L0 O H σ (m env) fun b _ _ H' => Q b H'
def EvA (C : Cy) (m : M (List D)) : TA := fun σ H Q => ∃ L0 O env, C.F L0 O H σ env ∧ Post C L0 O H σ (m env) fun ds _ O' H' => ∀ vs, Reps C.g (LL L0 O') H' ds vs → Q vs H'
/-- a list just made, that nothing else knows -/
def EvF (C : Cy) (m : M (List D)) : TE := fun σ H Q => ∃ L0 O env, C.F L0 O H σ env ∧ Post C L0 O H σ (m env) fun ds e O' H' => ∀ a vs, H a = none → H' a = some (.lst vs) → C.F (LA L0 a) O' H' σ e → vs.length ≤ sizeLine →
  Reps C.g (LL (LA L0 a) O') H' ds vs → Q (.ref a) H'
theorem _root_.L2.PE.weak {X : Cx} {e : Expr} {t t' : TE} (h : PE X e t) (k : ∀ σ H Q, t' σ H Q → t σ H Q) : PE X e t' := ⟨fun pins s σ H Q I q => h.run pins s σ H Q I (k σ H Q q)⟩
theorem _root_.L2.PT.weak {X : Cx} {e : Expr} {t t' : TT} (h : L2.PT X e t) (k : ∀ σ H Q, t' σ H Q → t σ H Q) : L2.PT X e t' := ⟨fun pins s σ H Q I q => h.run pins s σ H Q I (k σ H Q q)⟩
theorem _root_.L2.PW.weak {X : Cx} {e : Expr} {t t' : TT} (h : PW X e t) (k : ∀ σ H Q, t' σ H Q → t σ H Q) : PW X e t' := ⟨fun w pins s σ H Q I q => h.run w pins s σ H Q I (k σ H Q q)⟩
theorem _root_.L2.PA.weak {X : Cx} {e : List Expr} {t t' : TA} (h : PA X e t) (k : ∀ σ H Q, t' σ H Q → t σ H Q) : PA X e t' := ⟨fun p pins s σ H Q I q => h.run p pins s σ H Q I (k σ H Q q)⟩
theorem EvE.toP {C : Cy} {m : M D} {X : Cx} {e : Expr} (h : PE X e (EvE C m)) : PE X e (EvP C m) := h.weak fun σ H Q ⟨L0, O, env, F, h⟩ => ⟨L0, O, env, F, h.imp fun d e O' H' _ _ k v r => k v (.inl r)⟩
theorem EvF.toE {C : Cy} {m : M (List D)} {X : Cx} {e : Expr} (h : PE X e (EvF C m)) : PE X e (EvE C (do let xs ← m; pure (.lst xs))) := h.weak fun σ H Q ⟨L0, O, env, F, h⟩ => by
  refine ⟨L0, O, env, F, (Post.bind h).imp fun ds e O' H' y F' k a vs h0 h1 FA z r => ?_⟩
  have n : ¬ LL L0 O' a := fun q => q.elim (fun q => (F.fresh h0).1 (.inl q)) fun ⟨i, e⟩ => FA.dis i a e (.inr rfl)
  exact k.here F' _ ⟨a, vs, rfl, ⟨⟨.inl h1, n⟩, z⟩, Reps.mono (XT.less fun b q => LA.ll q) ds vs r⟩

/-! ### names, constants -/
def mVar (i : Nat) : M D := fun e => match e[i]? with
  | some (some (.p d)) => .ok d e
  | some (some (.ml xs)) => .ok (.lst xs) (e.set i (some (.p (.lst xs))))
  | _ => .bad
def mPeek (i : Nat) : M D := fun e => match e[i]? with
  | some (some (.p d)) => .ok d e
  | some (some (.ml xs)) => .ok (.lst xs) e
  | _ => .bad
def mC (d : D) : M D := fun e => .ok d e
def offO (O : Own) (i : Nat) : Own := fun j => if j = i then none else O j
section
variable {g : G} {rf : Nat → Bool} {dm L0 : Addr → Prop} {xs : XTab} {O : Own} {H : Hp} {σ : L2.St} {env : Env}
theorem offO_same {i : Nat} : offO O i i = none := if_pos rfl
theorem offO_ne {i j : Nat} (h : j ≠ i) : offO O i j = O j := if_neg h
theorem offO_some {i j : Nat} {a : Addr} (h : offO O i j = some a) : j ≠ i ∧ O j = some a := by
  by_cases e : j = i
  · rw [e, offO_same] at h; cases h
  · rw [offO_ne e] at h; exact ⟨e, h⟩
theorem Ext.off {i : Nat} : Ext rf σ O H σ (offO O i) H := ⟨fun a o h n => ⟨h, fun j e => n j (offO_some e).2⟩, fun j _ => ⟨rfl, by
  by_cases e : j = i
  · exact .inl (by rw [e, offO_same])
  · exact .inr (offO_ne e)⟩, fun a o h => ⟨o, h⟩⟩
/-- a list that a slot owns becomes a value -/
theorem FRel.freeze {i : Nat} {ds : List D} (F : FRel g rf dm L0 xs O H σ env) (h : env[i]? = some (some (.ml ds))) :
    FRel g rf dm L0 xs (offO O i) H σ (env.set i (some (.p (.lst ds)))) ∧ ∃ v, σ[i]? = some (some v) ∧ Rep g (LL L0 (offO O i)) H (.lst ds) v := by
  have s := F.sl i
  rw [h] at s
  obtain ⟨a, vs, e1, e2, h1, z, r⟩ := s
  have hi : i < env.length := (List.getElem?_eq_some_iff.mp h).1
  have x : XT (LL L0 O) H (LL L0 (offO O i)) H := XT.less fun b q => q.elim .inl fun ⟨j, e⟩ => .inr ⟨j, (offO_some e).2⟩
  have n : ¬ LL L0 (offO O i) a := fun q => q.elim (F.dis i a e1) fun ⟨j, e⟩ => (offO_some e).1 (F.inj j i a (offO_some e).2 e1)
  have rep : Rep g (LL L0 (offO O i)) H (.lst ds) (.ref a) := ⟨a, vs, rfl, ⟨⟨.inl h1, n⟩, z⟩, Reps.mono x ds vs r⟩
  refine ⟨⟨by rw [List.length_set]; exact F.len, fun j => ?_, fun j k b p q => F.inj j k b (offO_some p).2 (offO_some q).2, fun j b p => F.dis j b (offO_some p).2, F.lok, F.dom, fun j b p q => F.own j b p (offO_some q).2⟩, .ref a, e2, rep⟩
  by_cases e : j = i
  · subst e
    rw [List.getElem?_set_self hi, offO_same]
    exact ⟨rfl, .ref a, e2, rep⟩
  · rw [List.getElem?_set_ne (Ne.symm e), offO_ne e]
    exact SR.mono x (fun _ _ _ q => q) (F.sl j)
theorem mPeek_ok {C : Cy} {i : Nat} {d : D} {e' : Env} (F : C.F L0 O H σ env) (h : mPeek i env = .ok d e') : e' = env ∧ ∃ v, σ[i]? = some (some v) ∧ RepP C.g (LL L0 O) H d v := by
  unfold mPeek at h
  have s := F.sl i
  split at h
  · rename_i d' hq
    rw [hq] at s
    cases h
    obtain ⟨_, v, e, r⟩ := s
    exact ⟨rfl, v, e, .inl r⟩
  · rename_i ds hq
    rw [hq] at s
    cases h
    obtain ⟨a, vs, e1, e2, h1, z, r⟩ := s
    exact ⟨rfl, .ref a, e2, .inr ⟨ds, a, vs, rfl, rfl, h1, z, r⟩⟩
  · cases h
end
section
variable {X : Cx} {C : Cy}
theorem pd_var {i : Nat} {x : Str} {pos : Pos} (hN : X.N[i]? = some x) (hv : Vis X.env.scope x) (hd : (x == ("__debug__" : Str)) = false) (hcd : (x == ("__classdict__" : Str)) = false) : PE X (.Name x pos) (EvE C (mVar i)) := by
  refine (pe_var hN hv hd hcd).weak fun σ H Q ⟨L0, O, env, F, h⟩ => ?_
  have s := F.sl i
  unfold mVar at h
  split at h
  · rename_i d hq
    rw [hq] at s
    obtain ⟨_, v, e, r⟩ := s
    exact ⟨v, e, h.here F v r⟩
  · rename_i ds hq
    obtain ⟨F', v, e, r⟩ := F.freeze hq
    exact ⟨v, e, h _ _ Ext.off F' v r⟩
  · exact h.elim
theorem pd_peek {i : Nat} {x : Str} {pos : Pos} (hN : X.N[i]? = some x) (hv : Vis X.env.scope x) (hd : (x == ("__debug__" : Str)) = false) (hcd : (x == ("__classdict__" : Str)) = false) : PE X (.Name x pos) (EvP C (mPeek i)) := by
  refine (pe_var hN hv hd hcd).weak fun σ H Q ⟨L0, O, env, F, h⟩ => ?_
  cases e : mPeek i env with
  | ok d e' =>
    obtain ⟨rfl, v, es, r⟩ := mPeek_ok F e
    rw [e] at h
    exact ⟨v, es, h.here F v r⟩
  | ex a b => unfold mPeek at e; split at e <;> cases e
  | bad => rw [e] at h; exact h.elim
theorem pd_c {e : Expr} {d : D} {v : V} (h : PE X e (tC v)) (r : ∀ L H, Rep C.g L H d v) : PE X e (EvE C (mC d)) :=
  h.weak fun σ H Q ⟨L0, O, env, F, h⟩ => h.here F v (r _ _)

/-! ### operations of two values -/
/-- r does what f tells, by values (a list that a slot owns may be read) -/
def OS2 (g : G) (r : R2) (f : D → D → Option D) : Prop := ∀ (L : Addr → Prop) (H : Hp) (d e k : D) (x y : V) (Q : VK), (∀ a, L a → ∃ o, H a = some o) → RepP g L H d x → RepP g L H e y → f d e = some k →
  (∀ v H', Same H H' → Rep g L H' k v → Q v H') → r x y H Q
theorem OS2.or {g : G} {r r' : R2} {f f' : D → D → Option D} (h : OS2 g r f) (h' : OS2 g r' f') : OS2 g (fun x y H Q => r x y H Q ∨ r' x y H Q) (fun d e => (f d e).orElse fun _ => f' d e) := by
  intro L H d e k x y Q hl rx ry hf q
  have hf : ((f d e).orElse fun _ => f' d e) = some k := hf
  cases ef : f d e with
  | some k' =>
    rw [ef] at hf
    cases hf
    exact .inl (h L H d e _ x y Q hl rx ry ef q)
  | none =>
    rw [ef] at hf
    exact .inr (h' L H d e k x y Q hl rx ry hf q)
def mBin (f : D → D → Option D) (a b : M D) : M D := do
  let x ← a
  let y ← b
  lift (f x y)
/-- the left one a name -/
def mBinL (f : D → D → Option D) (i : Nat) (b : M D) : M D := do
  let _ ← mPeek i
  let y ← b
  let x ← mPeek i
  lift (f x y)
theorem Rep.at {g : G} {rf : Nat → Bool} {L0 : Addr → Prop} {O O' : Own} {H H' : Hp} {σ σ' : L2.St} {d : D} {v : V} (r : Rep g (LL L0 O) H d v) (x : Ext rf σ O H σ' O' H') : Rep g (LL L0 O') H' d v := Rep.mono x.xt d v r
theorem Reps.at {g : G} {rf : Nat → Bool} {L0 : Addr → Prop} {O O' : Own} {H H' : Hp} {σ σ' : L2.St} {d : List D} {v : List V} (r : Reps g (LL L0 O) H d v) (x : Ext rf σ O H σ' O' H') : Reps g (LL L0 O') H' d v := Reps.mono x.xt d v r
theorem op_end {L0 : Addr → Prop} {O : Own} {H : Hp} {σ : L2.St} {env : Env} {r : R2} {f : D → D → Option D} {d e : D} {x y : V} {Q : VK} (os : OS2 C.g r f) (F : C.F L0 O H σ env) (rx : RepP C.g (LL L0 O) H d x) (ry : RepP C.g (LL L0 O) H e y)
    (h : Post C L0 O H σ (lift (f d e) env) fun k _ O' H' => ∀ v, Rep C.g (LL L0 O') H' k v → Q v H') : r x y H Q := by
  cases ef : f d e with
  | none => rw [ef] at h; exact h.elim
  | some k =>
    rw [ef] at h
    exact os _ H d e k x y Q F.trk rx ry ef fun v H' s rv => h O H' (Ext.same s) (F.same s) v rv
theorem bin_weak {r : R2} {f : D → D → Option D} {a b : M D} (os : OS2 C.g r f) (σ : L2.St) (H : Hp) (Q : VK) (h : EvE C (mBin f a b) σ H Q) : tOp r (EvE C a) (EvP C b) σ H Q := by
  obtain ⟨L0, O, env, F, h⟩ := h
  refine ⟨L0, O, env, F, (Post.bind h).imp fun d e1 O1 H1 x1 F1 h1 v rv => ?_⟩
  refine ⟨L0, O1, e1, F1, (Post.bind h1).imp fun d2 e2 O2 H2 x2 F2 h2 u ru => ?_⟩
  exact op_end os F2 (.inl (rv.at x2)) ru h2
theorem binL_weak {r : R2} {f : D → D → Option D} {i : Nat} {b : M D} (os : OS2 C.g r f) (σ : L2.St) (H : Hp) (Q : VK) (h : EvE C (mBinL f i b) σ H Q) : tOp r (tVar i) (EvP C b) σ H Q := by
  obtain ⟨L0, O, env, F, h⟩ := h
  have h := Post.bind h
  cases e : mPeek i env with
  | ok d e' =>
    obtain ⟨rfl, v, es, _⟩ := mPeek_ok F e
    rw [e] at h
    refine ⟨v, es, L0, O, e', F, (Post.bind (h.here F)).imp fun d2 e2 O2 H2 x2 F2 h2 u ru => ?_⟩
    have h2 := Post.bind h2
    cases ep : mPeek i e2 with
    | ok d3 e3 =>
      obtain ⟨rfl, v', es', rv⟩ := mPeek_ok F2 ep
      rw [es] at es'
      cases es'
      rw [ep] at h2
      exact op_end os F2 rv ru (h2.here F2)
    | ex p q => unfold mPeek at ep; split at ep <;> cases ep
    | bad => rw [ep] at h2; exact h2.elim
  | ex p q => unfold mPeek at e; split at e <;> cases e
  | bad => rw [e] at h; exact h.elim
theorem pd_op {op : Operator} {r : R2} {f : D → D → Option D} {a b : Expr} {ma mb : M D} {pos : Pos} (ho : OpR X (binaryOp op) r) (os : OS2 C.g r f) (ha : PE X a (EvE C ma)) (hb : PE X b (EvP C mb)) : PE X (.BinOp a op b pos) (EvE C (mBin f ma mb)) :=
  (pe_op ho ha hb).weak (bin_weak os)
theorem pd_opL {op : Operator} {r : R2} {f : D → D → Option D} {b : Expr} {i : Nat} {x : Str} {mb : M D} {p pos : Pos} (ho : OpR X (binaryOp op) r) (os : OS2 C.g r f) (ha : PE X (.Name x p) (tVar i)) (hb : PE X b (EvP C mb)) : PE X (.BinOp (.Name x p) op b pos) (EvE C (mBinL f i mb)) :=
  (pe_op ho ha hb).weak (binL_weak os)
theorem pd_cmp {op : CmpOp} {r : R2} {f : D → D → Option D} {a b : Expr} {ma mb : M D} {pos : Pos} (ho : OpR X (compareOp op) r) (os : OS2 C.g r f) (hm : behindInMarks op b = false) (ha : PE X a (EvE C ma)) (hb : PE X b (EvP C mb)) : PE X (.Compare a [op] [b] pos) (EvE C (mBin f ma mb)) :=
  (pe_cmpR ho ha hb hm).weak (bin_weak os)
theorem pd_cmpL {op : CmpOp} {r : R2} {f : D → D → Option D} {b : Expr} {i : Nat} {x : Str} {mb : M D} {p pos : Pos} (ho : OpR X (compareOp op) r) (os : OS2 C.g r f) (hm : behindInMarks op b = false) (ha : PE X (.Name x p) (tVar i)) (hb : PE X b (EvP C mb)) : PE X (.Compare (.Name x p) [op] [b] pos) (EvE C (mBinL f i mb)) :=
  (pe_cmpR ho ha hb hm).weak (binL_weak os)
theorem pd_ix {r : R2} {f : D → D → Option D} {a b : Expr} {ma mb : M D} {pos : Pos} (ho : IxR X r) (os : OS2 C.g r f) (hs : PlainIx b) (ha : PE X a (EvE C ma)) (hb : PE X b (EvP C mb)) : PE X (.Subscript a b pos) (EvE C (mBin f ma mb)) :=
  (pe_ix ho ha hb hs).weak (bin_weak os)
theorem pd_ixL {r : R2} {f : D → D → Option D} {b : Expr} {i : Nat} {x : Str} {mb : M D} {p pos : Pos} (ho : IxR X r) (os : OS2 C.g r f) (hs : PlainIx b) (ha : PE X (.Name x p) (tVar i)) (hb : PE X b (EvP C mb)) : PE X (.Subscript (.Name x p) b pos) (EvE C (mBinL f i mb)) :=
  (pe_ix ho ha hb hs).weak (binL_weak os)

/-! ### truth, tests -/
def truD : D → Option Bool
  | .non => some false
  | .bl b => some b
  | .int i => some (i != 0)
  | .str s => some (!s.isEmpty)
  | .tup xs => some (!xs.isEmpty)
  | .lst xs => some (!xs.isEmpty)
  | .ins _ _ => none
theorem isEmpty_reps {g : G} {L : Addr → Prop} {H : Hp} {xs : List D} {vs : List V} (r : Reps g L H xs vs) : xs.isEmpty = vs.isEmpty := by
  have h := r.length
  cases xs <;> cases vs <;> simp_all
theorem truV_of {g : G} {L : Addr → Prop} {H : Hp} {d : D} {v : V} {b : Bool} (r : RepP g L H d v) (h : truD d = some b) : TruV g.K v H b := by
  cases d with
  | lst xs =>
    obtain ⟨a, vs, rfl, s, _, rs⟩ := r.lst
    cases h
    exact .inl ⟨vs, .inl s, by rw [isEmpty_reps rs]⟩
  | non => cases h; have r := r.rep (by intro _ z; cases z); cases r; rfl
  | bl k => cases h; have r := r.rep (by intro _ z; cases z); cases r; rfl
  | int k => cases h; have r := r.rep (by intro _ z; cases z); cases r; rfl
  | str s =>
    have r := r.rep (by intro _ z; cases z)
    obtain ⟨rfl, ok⟩ := r
    cases h
    refine ⟨by show s.toArray.size ≤ _; simpa using ok.2, ?_⟩
    show (!s.isEmpty) = (((s.toArray.size : Nat) : Int) != 0)
    cases s with
    | nil => rfl
    | cons c l => simp; omega
  | tup xs =>
    have r := r.rep (by intro _ z; cases z)
    obtain ⟨a, vs, rfl, s, rs⟩ := r
    cases h
    exact .inr (.inl ⟨vs, s.sq, by rw [isEmpty_reps rs]⟩)
  | ins _ _ => cases h
def mTru (m : M D) : M Bool := do
  let d ← m
  lift (truD d)
theorem tru_weak {K : PySem.W.Frag} {m : M D} (hK : C.g.K = K) (σ : L2.St) (H : Hp) (Q : Bool → Hp → Prop) (h : EvT C (mTru m) σ H Q) : EvP C m σ H fun x H' => ∃ k, TruV K x H' k ∧ Q k H' := by
  obtain ⟨L0, O, env, F, h⟩ := h
  refine ⟨L0, O, env, F, (Post.bind h).imp fun d e1 O1 H1 x1 F1 h1 v rv => ?_⟩
  cases ef : truD d with
  | none => rw [ef] at h1; exact h1.elim
  | some b =>
    rw [ef] at h1
    exact ⟨b, by rw [← hK]; exact truV_of rv ef, h1.here F1⟩
theorem pt_tru {e : Expr} {m : M D} (hK : C.g.K = X.K) (he : PE X e (EvP C m)) (hp : ∀ whole, isTrue e X.env whole = (do let v ← whole; standAt e.pos; holding [v] (truthy v))) : L2.PT X e (EvT C (mTru m)) :=
  (pt_truth he hp).weak (tru_weak hK)
/-- a comparison as a test -/
def blD : D → Option Bool
  | .bl b => some b
  | _ => none
def mTest (m : M D) : M Bool := do
  let d ← m
  lift (blD d)
theorem test_weak {m : M D} (σ : L2.St) (H : Hp) (Q : Bool → Hp → Prop) (h : EvT C (mTest m) σ H Q) : EvE C m σ H fun x H' => ∃ k, x = .bl k ∧ Q k H' := by
  obtain ⟨L0, O, env, F, h⟩ := h
  refine ⟨L0, O, env, F, (Post.bind h).imp fun d e1 O1 H1 x1 F1 h1 v rv => ?_⟩
  cases d with
  | bl b => exact ⟨b, rv, h1.here F1⟩
  | _ => exact h1.elim
theorem pt_cmpD {op : CmpOp} {r : R2} {f : D → D → Option D} {a b : Expr} {ma mb : M D} {pos : Pos} (ho : OpR X (compareOp op) r) (os : OS2 C.g r f) (hm : behindInMarks op b = false) (ha : PE X a (EvE C ma)) (hb : PE X b (EvP C mb)) : L2.PT X (.Compare a [op] [b] pos) (EvT C (mTest (mBin f ma mb))) :=
  (pt_cmpR ho ha hb hm).weak fun σ H Q h => bin_weak os σ H _ (test_weak σ H Q h)
theorem pt_cmpDL {op : CmpOp} {r : R2} {f : D → D → Option D} {b : Expr} {i : Nat} {x : Str} {mb : M D} {p pos : Pos} (ho : OpR X (compareOp op) r) (os : OS2 C.g r f) (hm : behindInMarks op b = false) (ha : PE X (.Name x p) (tVar i)) (hb : PE X b (EvP C mb)) : L2.PT X (.Compare (.Name x p) [op] [b] pos) (EvT C (mTest (mBinL f i mb))) :=
  (pt_cmpR ho ha hb hm).weak fun σ H Q h => binL_weak os σ H _ (test_weak σ H Q h)
def mNotB (m : M Bool) : M Bool := do
  let b ← m
  pure (!b)
theorem pt_notD {a : Expr} {m : M Bool} {pos : Pos} (ha : L2.PT X a (EvT C m)) : L2.PT X (.UnaryOp .Not a pos) (EvT C (mNotB m)) := (pt_not ha).weak fun σ H Q ⟨L0, O, env, F, h⟩ =>
  ⟨L0, O, env, F, (Post.bind h).imp fun b e1 O1 H1 x1 F1 h1 => h1.here F1⟩
def mAndB (a b : M Bool) : M Bool := do
  let x ← a
  if x then b else pure false
def mOrB (a b : M Bool) : M Bool := do
  let x ← a
  if x then pure true else b
theorem pw_andD {a b : Expr} {rest : List Expr} {ma mb : M Bool} {pos : Pos} (ha : L2.PT X a (EvT C ma)) (hb : PW X (.BoolOp .And (b :: rest) pos) (EvT C mb)) : PW X (.BoolOp .And (a :: b :: rest) pos) (EvT C (mAndB ma mb)) :=
  (pw_and ha hb).weak fun σ H Q ⟨L0, O, env, F, h⟩ => ⟨L0, O, env, F, (Post.bind h).imp fun c e1 O1 H1 x1 F1 h1 => by
    cases c with
    | true => exact ⟨L0, O1, e1, F1, h1⟩
    | false => exact h1.here F1⟩
theorem pw_orD {a b : Expr} {rest : List Expr} {ma mb : M Bool} {pos : Pos} (ha : L2.PT X a (EvT C ma)) (hb : PW X (.BoolOp .Or (b :: rest) pos) (EvT C mb)) : PW X (.BoolOp .Or (a :: b :: rest) pos) (EvT C (mOrB ma mb)) :=
  (pw_or ha hb).weak fun σ H Q ⟨L0, O, env, F, h⟩ => ⟨L0, O, env, F, (Post.bind h).imp fun c e1 O1 H1 x1 F1 h1 => by
    cases c with
    | true => exact h1.here F1
    | false => exact ⟨L0, O1, e1, F1, h1⟩⟩
/-- as values -/
def mNot (m : M D) : M D := do
  let d ← m
  let b ← lift (truD d)
  pure (.bl (!b))
theorem pd_not {a : Expr} {m : M D} {pos : Pos} (hK : C.g.K = X.K) (ha : PE X a (EvP C m)) : PE X (.UnaryOp .Not a pos) (EvE C (mNot m)) := (pe_notT ha).weak fun σ H Q ⟨L0, O, env, F, h⟩ =>
  ⟨L0, O, env, F, (Post.bind h).imp fun d e1 O1 H1 x1 F1 h1 v rv => by
    have h1 := Post.bind h1
    cases ef : truD d with
    | none => rw [ef] at h1; exact h1.elim
    | some b =>
      rw [ef] at h1
      exact ⟨b, by rw [← hK]; exact truV_of rv ef, (h1.here F1).here F1 (.bl (!b)) rfl⟩⟩
def mAnd (a b : M D) : M D := do
  let x ← a
  let t ← lift (truD x)
  if t then b else pure x
def mOr (a b : M D) : M D := do
  let x ← a
  let t ← lift (truD x)
  if t then pure x else b
theorem pd_and {a b : Expr} {rest : List Expr} {ma mb : M D} {pos : Pos} (hK : C.g.K = X.K) (ha : PE X a (EvE C ma)) (hb : PE X (.BoolOp .And (b :: rest) pos) (EvE C mb)) : PE X (.BoolOp .And (a :: b :: rest) pos) (EvE C (mAnd ma mb)) :=
  (pe_andT ha hb).weak fun σ H Q ⟨L0, O, env, F, h⟩ => ⟨L0, O, env, F, (Post.bind h).imp fun d e1 O1 H1 x1 F1 h1 v rv => by
    have h1 := Post.bind h1
    cases ef : truD d with
    | none => rw [ef] at h1; exact h1.elim
    | some t =>
      rw [ef] at h1
      refine ⟨t, by rw [← hK]; exact truV_of (.inl rv) ef, ?_⟩
      have h2 := h1.here F1
      cases t with
      | true => exact ⟨L0, O1, e1, F1, h2⟩
      | false => exact h2.here F1 v rv⟩
theorem pd_or {a b : Expr} {rest : List Expr} {ma mb : M D} {pos : Pos} (hK : C.g.K = X.K) (ha : PE X a (EvE C ma)) (hb : PE X (.BoolOp .Or (b :: rest) pos) (EvE C mb)) : PE X (.BoolOp .Or (a :: b :: rest) pos) (EvE C (mOr ma mb)) :=
  (pe_orT ha hb).weak fun σ H Q ⟨L0, O, env, F, h⟩ => ⟨L0, O, env, F, (Post.bind h).imp fun d e1 O1 H1 x1 F1 h1 v rv => by
    have h1 := Post.bind h1
    cases ef : truD d with
    | none => rw [ef] at h1; exact h1.elim
    | some t =>
      rw [ef] at h1
      refine ⟨t, by rw [← hK]; exact truV_of (.inl rv) ef, ?_⟩
      have h2 := h1.here F1
      cases t with
      | true => exact h2.here F1 v rv
      | false => exact ⟨L0, O1, e1, F1, h2⟩⟩
def mIf (c : M Bool) (a b : M D) : M D := do
  let t ← c
  if t then a else b
theorem pd_if {c a b : Expr} {mc : M Bool} {ma mb : M D} {pos : Pos} (hc : L2.PT X c (EvT C mc)) (ha : PE X a (EvE C ma)) (hb : PE X b (EvE C mb)) : PE X (.IfExp c a b pos) (EvE C (mIf mc ma mb)) :=
  (pe_ifExp hc ha hb).weak fun σ H Q ⟨L0, O, env, F, h⟩ => ⟨L0, O, env, F, (Post.bind h).imp fun t e1 O1 H1 x1 F1 h1 => by
    cases t with
    | true => exact ⟨L0, O1, e1, F1, h1⟩
    | false => exact ⟨L0, O1, e1, F1, h1⟩⟩
/-- a < b < c -/
def mChain (f f' : D → D → Option D) (a b c : M D) : M D := do
  let x ← a
  let y ← b
  let z ← lift (f x y)
  let t ← lift (blD z)
  if t then (do let w ← c; lift (f' y w)) else pure (.bl false)
theorem chain_weak {r r' : R2} {f f' : D → D → Option D} {a b c : M D} (os : OS2 C.g r f) (os' : OS2 C.g r' f') (σ : L2.St) (H : Hp) (Q : VK) (h : EvE C (mChain f f' a b c) σ H Q) : tChain r r' (EvE C a) (EvE C b) (EvP C c) σ H Q := by
  obtain ⟨L0, O, env, F, h⟩ := h
  refine ⟨L0, O, env, F, (Post.bind h).imp fun d e1 O1 H1 x1 F1 h1 v rv => ?_⟩
  refine ⟨L0, O1, e1, F1, (Post.bind h1).imp fun d2 e2 O2 H2 x2 F2 h2 u ru => ?_⟩
  refine op_end (f := f) os F2 (.inl (rv.at x2)) (.inl ru) ((Post.bind h2).imp fun k e3 O3 H3 x3 F3 h3 z rz => ?_)
  have h3 := Post.bind h3
  cases k with
  | bl t =>
    refine ⟨t, rz, ?_⟩
    have h4 := h3.here F3
    cases t with
    | true => exact ⟨L0, O3, e3, F3, (Post.bind h4).imp fun d4 e4 O4 H4 x4 F4 h5 w rw' => op_end (f := f') os' F4 (.inl ((ru.at x3).at x4)) rw' h5⟩
    | false => exact h4.here F3 (.bl false) rfl
  | _ => exact h3.elim
theorem pd_chain {op op' : CmpOp} {r r' : R2} {f f' : D → D → Option D} {a b c : Expr} {ma mb mc : M D} {pos : Pos} (ho : OpR X (compareOp op) r) (ho' : OpR X (compareOp op') r') (os : OS2 C.g r f) (os' : OS2 C.g r' f') (ha : PE X a (EvE C ma)) (hb : PE X b (EvE C mb)) (hc : PE X c (EvP C mc))
    (hm : behindInMarks op' c = false) : PE X (.Compare a [op, op'] [b, c] pos) (EvE C (mChain f f' ma mb mc)) := (pe_chain ho ho' ha hb hc hm).weak (chain_weak os os')
theorem pt_chainD {op op' : CmpOp} {r r' : R2} {f f' : D → D → Option D} {a b c : Expr} {ma mb mc : M D} {pos : Pos} (ho : OpR X (compareOp op) r) (ho' : OpR X (compareOp op') r') (os : OS2 C.g r f) (os' : OS2 C.g r' f') (ha : PE X a (EvE C ma)) (hb : PE X b (EvE C mb)) (hc : PE X c (EvP C mc))
    (hm : behindInMarks op' c = false) : L2.PT X (.Compare a [op, op'] [b, c] pos) (EvT C (mTest (mChain f f' ma mb mc))) := (pt_chain ho ho' ha hb hc hm).weak fun σ H Q h => chain_weak os os' σ H _ (test_weak σ H Q h)
end
end MP

/-! MP, part C: the operators of data, and that the machine's do what they tell. -/
namespace MP
open L2 PyProof.Rows PySem PySem.Spec

/-! ### lists that are read, locked or not -/
section
variable {X : Cx} {pins : List (Addr × Obj)} {σ : L2.St} {H : Hp} {s : Shared}
theorem rdl (I : Inv X pins σ H s) {l : Addr} {xs : List V} (h : Rd H l (.lst xs)) : xs.length ≤ sizeLine ∧ ∃ (its : List Value) (n : Nat), Vals xs its ∧ xs.length = its.length ∧ s.heap.get? l = some { cls := .type "list", data := .seq its.toArray n } := by
  obtain ⟨z, its, n, r, e⟩ := h.ok I.hok
  exact ⟨z, its, n, r, r.length, e⟩
def rCatR : R2 := fun x y H Q => ∃ l b xs zs, x = .ref l ∧ y = .ref b ∧ Rd H l (.lst xs) ∧ Rd H b (.lst zs) ∧ xs.length + zs.length ≤ sizeLine ∧ ∀ p, H p = none → Q (.ref p) (upd H p (.lst (xs ++ zs)))
theorem op_catR : OpR X (binaryOp .Add) rCatR := by
  intro pins s σ H x y v u Q I rx ry h
  obtain ⟨l, b, xs, zs, rfl, rfl, hH, hB, hz, q⟩ := h
  cases rx
  cases ry
  obtain ⟨z, its, n, r, hl, e⟩ := rdl I hH
  obtain ⟨z2, its2, n2, r2, hl2, e2⟩ := rdl I hB
  refine PySem.P.add_list e e2 ?_ (by rw [List.size_toArray, List.size_toArray]; omega)
  have ea : its.toArray ++ its2.toArray = (its ++ its2).toArray := by simp
  rw [ea]
  exact ⟨.ref _, _, I.lnew (t' := s.toks) (r.append r2) (by rw [List.length_append]; omega), rfl, q _ I.fresh⟩
end

/-! ### + -/
def addD : D → D → Option D
  | .int i, .int j => some (.int (i + j))
  | .str s, .str t => if s.length + t.length ≤ 1000000 then some (.str (s ++ t)) else none
  | .tup xs, .tup ys => if xs.length + ys.length ≤ 1000000 then some (.tup (xs ++ ys)) else none
  | _, _ => none
/-- of lists: a new one -/
def catD : D → D → Option (List D)
  | .lst xs, .lst ys => if xs.length + ys.length ≤ 1000000 then some (xs ++ ys) else none
  | _, _ => none
/-- r makes the new list that f tells -/
def OSF2 (g : G) (r : R2) (f : D → D → Option (List D)) : Prop := ∀ (L : Addr → Prop) (H : Hp) (d e : D) (zs : List D) (x y : V) (Q : VK), (∀ a, L a → ∃ o, H a = some o) → RepP g L H d x → RepP g L H e y → f d e = some zs →
  (∀ a vs H', H a = none → Same H H' → H' a = some (.lst vs) → ¬ L a → vs.length ≤ sizeLine → Reps g (fun b => L b ∨ b = a) H' zs vs → Q (.ref a) H') → r x y H Q
def rAddU (K : PySem.W.Frag) : R2 := fun x y H Q => (rI0 fun i j => .int (i + j)) x y H Q ∨ (∃ i j, x = .str i ∧ y = .str j ∧ i.length + j.length ≤ sizeLine ∧ Q (.str (i ++ j)) H) ∨ rCatA K x y H Q
theorem op_addU {X : Cx} : OpR X (binaryOp .Add) (rAddU X.K) := op_add.or (op_add_str.or op_catA)
theorem big {n : Nat} (h : n ≤ 1000000) : n ≤ sizeLine := Nat.le_trans h (by rw [sizeLine_eq]; decide)
theorem str_app (s t : Tx) : (⟨s.toArray⟩ : Str) ++ ⟨t.toArray⟩ = ⟨(s ++ t).toArray⟩ := by
  show Str.append _ _ = _
  unfold Str.append
  simp
theorem str_len (s : Tx) : (⟨s.toArray⟩ : Str).length = s.length := by simp [Str.length]
theorem TxOk.app {s t : Tx} (hs : TxOk s) (ht : TxOk t) (z : s.length + t.length ≤ sizeLine) : TxOk (s ++ t) := ⟨fun c hc => (List.mem_append.mp hc).elim (hs.1 c) (ht.1 c), by rw [List.length_append]; exact z⟩
theorem new_tup {g : G} {L : Addr → Prop} {H : Hp} {p : Addr} {ds : List D} {vs : List V} (hl : ∀ a, L a → ∃ o, H a = some o) (hp : H p = none) (r : Reps g L H ds vs) (z : vs.length ≤ sizeLine) : Rep g L (upd H p (.tup vs)) (.tup ds) (.ref p) := by
  refine ⟨p, vs, rfl, ⟨.inl ⟨.inl upd_same, fun q => ?_⟩, z⟩, Reps.mono (XT.same (Same.new hp)) ds vs r⟩
  obtain ⟨o, e⟩ := hl p q
  rw [hp] at e; cases e
theorem os_add {g : G} {K : PySem.W.Frag} (hK : g.K = K) : OS2 g (rAddU K) addD := by
  subst hK
  intro L H d e k x y Q hl rx ry hf q
  unfold addD at hf
  split at hf
  · have rx := rx.rep (by intro _ z; cases z)
    have ry := ry.rep (by intro _ z; cases z)
    cases hf
    exact .inl ⟨_, _, rx, ry, q _ H (Same.refl H) rfl⟩
  · have rx := rx.rep (by intro _ z; cases z)
    have ry := ry.rep (by intro _ z; cases z)
    split at hf
    · rename_i hz
      cases hf
      have hz2 := big hz
      exact .inr (.inl ⟨_, _, rx.1, ry.1, by rw [str_len, str_len]; exact hz2, q _ H (Same.refl H) ⟨by rw [str_app], rx.2.app ry.2 hz2⟩⟩)
    · cases hf
  · have rx := rx.rep (by intro _ z; cases z)
    have ry := ry.rep (by intro _ z; cases z)
    split at hf
    · rename_i xs ys _ _ hz
      cases hf
      obtain ⟨a, vs, rfl, sa, ra⟩ := rx
      obtain ⟨b, us, rfl, sb, rb⟩ := ry
      have hz2 : vs.length + us.length ≤ sizeLine := by rw [← ra.length, ← rb.length]; exact big hz
      refine .inr (.inr ⟨a, b, vs, us, rfl, rfl, sa.sq, sb.sq, hz2, fun e => ?_, fun _ e => ?_, fun _ _ p hp => ?_⟩)
      · subst e
        have : xs = [] := List.length_eq_zero_iff.mp (by rw [ra.length]; rfl)
        subst this
        exact q _ H (Same.refl H) ⟨b, us, rfl, sb, rb⟩
      · subst e
        have : ys = [] := List.length_eq_zero_iff.mp (by rw [rb.length]; rfl)
        subst this
        exact q _ H (Same.refl H) ⟨a, vs, rfl, sa, by rw [List.append_nil]; exact ra⟩
      · exact q _ _ (Same.new hp) (new_tup hl hp (ra.app rb) (by rw [List.length_append]; exact hz2))
    · cases hf
  · cases hf
theorem new_lst {g : G} {L : Addr → Prop} {H : Hp} {p : Addr} {ds : List D} {vs : List V} (hl : ∀ a, L a → ∃ o, H a = some o) (hp : H p = none) (r : Reps g L H ds vs) : ¬ L p ∧ Reps g (fun b => L b ∨ b = p) (upd H p (.lst vs)) ds vs := by
  refine ⟨fun q => ?_, Reps.mono (XT.new hp) ds vs r⟩
  obtain ⟨o, e⟩ := hl p q
  rw [hp] at e; cases e
theorem osf_cat {g : G} : OSF2 g rCatR catD := by
  intro L H d e zs x y Q hl rx ry hf q
  unfold catD at hf
  split at hf
  · split at hf
    · rename_i xs ys hz
      cases hf
      obtain ⟨a, vs, rfl, sa, _, ra⟩ := rx.lst
      obtain ⟨b, us, rfl, sb, _, rb⟩ := ry.lst
      have hz2 : vs.length + us.length ≤ sizeLine := by rw [← ra.length, ← rb.length]; exact big hz
      refine ⟨a, b, vs, us, rfl, rfl, sa, sb, hz2, fun p hp => ?_⟩
      obtain ⟨n, r⟩ := new_lst hl hp (ra.app rb)
      exact q p _ _ hp (Same.new hp) upd_same n (by rw [List.length_append]; exact hz2) r
    · cases hf
  · cases hf

/-! ### ints -/
def subD : D → D → Option D
  | .int i, .int j => some (.int (i - j))
  | _, _ => none
def mulD : D → D → Option D
  | .int i, .int j => if i.natAbs < 18446744073709551616 ∨ j.natAbs < 18446744073709551616 then some (.int (i * j)) else none
  | _, _ => none
def fdivD : D → D → Option D
  | .int i, .int j => if 0 < j ∧ j < 1073741824 then some (.int (i / j)) else none
  | _, _ => none
def modD : D → D → Option D
  | .int i, .int j => if 0 < j then some (.int (i % j)) else none
  | _, _ => none
def powD : D → D → Option D
  | .int i, .int j => if 0 ≤ j ∧ j ≤ 1000000 ∧ i.natAbs < 18446744073709551616 then some (.int (i ^ j.toNat)) else none
  | _, _ => none
section
variable {g : G}
theorem os_sub : OS2 g (rI0 fun i j => .int (i - j)) subD := by
  intro L H d e k x y Q hl rx ry hf q
  unfold subD at hf
  split at hf
  · cases hf
    exact ⟨_, _, rx.rep (by intro _ z; cases z), ry.rep (by intro _ z; cases z), q _ H (Same.refl H) rfl⟩
  · cases hf
theorem os_mul : OS2 g (rI CMul fun i j => .int (i * j)) mulD := by
  intro L H d e k x y Q hl rx ry hf q
  unfold mulD at hf
  split at hf
  · split at hf
    · rename_i i j hc
      cases hf
      refine ⟨_, _, rx.rep (by intro _ z; cases z), ry.rep (by intro _ z; cases z), ?_, q _ H (Same.refl H) rfl⟩
      show ((-(2 ^ 64) < i ∧ i < 2 ^ 64) ∨ (-(2 ^ 64) < j ∧ j < 2 ^ 64))
      omega
    · cases hf
  · cases hf
theorem os_fdiv : OS2 g (rI CDiv fun i j => .int (i / j)) fdivD := by
  intro L H d e k x y Q hl rx ry hf q
  unfold fdivD at hf
  split at hf
  · split at hf
    · rename_i i j hc
      cases hf
      exact ⟨_, _, rx.rep (by intro _ z; cases z), ry.rep (by intro _ z; cases z), hc, q _ H (Same.refl H) rfl⟩
    · cases hf
  · cases hf
theorem os_mod : OS2 g (rI (fun _ j => 0 < j) fun i j => .int (i % j)) modD := by
  intro L H d e k x y Q hl rx ry hf q
  unfold modD at hf
  split at hf
  · split at hf
    · rename_i i j hc
      cases hf
      exact ⟨_, _, rx.rep (by intro _ z; cases z), ry.rep (by intro _ z; cases z), hc, q _ H (Same.refl H) rfl⟩
    · cases hf
  · cases hf
theorem os_pow : OS2 g (rI CPow fun i j => .int (i ^ j.toNat)) powD := by
  intro L H d e k x y Q hl rx ry hf q
  unfold powD at hf
  split at hf
  · split at hf
    · rename_i i j hc
      cases hf
      exact ⟨_, _, rx.rep (by intro _ z; cases z), ry.rep (by intro _ z; cases z), hc, q _ H (Same.refl H) rfl⟩
    · cases hf
  · cases hf
def cmpD (p : Int → Int → Bool) : D → D → Option D
  | .int i, .int j => some (.bl (p i j))
  | _, _ => none
theorem os_cmp {p : Int → Int → Bool} : OS2 g (rI0 fun i j => .bl (p i j)) (cmpD p) := by
  intro L H d e k x y Q hl rx ry hf q
  unfold cmpD at hf
  split at hf
  · cases hf
    exact ⟨_, _, rx.rep (by intro _ z; cases z), ry.rep (by intro _ z; cases z), q _ H (Same.refl H) rfl⟩
  · cases hf
end

/-! ### == -/
mutual
def toPy : D → PyData
  | .non => .none
  | .bl b => .bool b
  | .int i => .int i
  | .str s => .str ⟨s.toArray⟩
  | .tup xs => .tuple (toPys xs)
  | .lst xs => .list (toPys xs)
  | .ins _ _ => .none
def toPys : List D → List PyData
  | [] => []
  | x :: xs => toPy x :: toPys xs
end
mutual
/-- plain data, at most n deep -/
def lay : Nat → D → Bool
  | _, .non => true
  | _, .bl _ => true
  | _, .int _ => true
  | _, .str _ => true
  | n, .tup xs => (match n with
    | 0 => false
    | k + 1 => lays k xs)
  | n, .lst xs => (match n with
    | 0 => false
    | k + 1 => lays k xs)
  | _, .ins _ _ => false
def lays : Nat → List D → Bool
  | _, [] => true
  | n, x :: xs => lay n x && lays n xs
end
mutual
/-- == of plain data -/
def eqvD : D → D → Bool
  | .non, .non => true
  | .bl a, .bl b => a == b
  | .bl a, .int j => (if a then 1 else 0) == j
  | .int i, .bl b => i == (if b then 1 else 0)
  | .int i, .int j => i == j
  | .str x, .str y => x == y
  | .lst xs, .lst ys => eqvDs xs ys
  | .tup xs, .tup ys => eqvDs xs ys
  | _, _ => false
def eqvDs : List D → List D → Bool
  | [], [] => true
  | x :: xs, y :: ys => eqvD x y && eqvDs xs ys
  | _, _ => false
end
theorem str_beq (x y : Tx) : ((⟨x.toArray⟩ : Str) == ⟨y.toArray⟩) = (x == y) := by
  by_cases h : x = y
  · subst h; simp
  · have : ¬ (⟨x.toArray⟩ : Str) = ⟨y.toArray⟩ := fun z => h (by
      have z2 := congrArg Str.cps z
      simpa using z2)
    rw [beq_eq_false_iff_ne.mpr this, beq_eq_false_iff_ne.mpr h]
mutual
theorem eqv_py : ∀ (n m : Nat) (d e : D), lay n d = true → lay m e = true → PyData.eqv (toPy d) (toPy e) = eqvD d e
  | n, m, .non, e, hd, he => by cases e <;> simp_all [toPy, PyData.eqv, eqvD, lay]
  | n, m, .bl a, e, hd, he => by cases e <;> simp_all [toPy, PyData.eqv, eqvD, lay]
  | n, m, .int a, e, hd, he => by cases e <;> simp_all [toPy, PyData.eqv, eqvD, lay]
  | n, m, .str a, e, hd, he => by cases e <;> simp_all [toPy, PyData.eqv, eqvD, lay, str_beq]
  | n, m, .tup xs, e, hd, he => by
    cases e with
    | tup ys =>
      cases n with
      | zero => simp [lay] at hd
      | succ n =>
        cases m with
        | zero => simp [lay] at he
        | succ m =>
          simp only [toPy, PyData.eqv, eqvD]
          exact eqvs_py n m xs ys (by simpa [lay] using hd) (by simpa [lay] using he)
    | _ => simp_all [toPy, PyData.eqv, eqvD, lay]
  | n, m, .lst xs, e, hd, he => by
    cases e with
    | lst ys =>
      cases n with
      | zero => simp [lay] at hd
      | succ n =>
        cases m with
        | zero => simp [lay] at he
        | succ m =>
          simp only [toPy, PyData.eqv, eqvD]
          exact eqvs_py n m xs ys (by simpa [lay] using hd) (by simpa [lay] using he)
    | _ => simp_all [toPy, PyData.eqv, eqvD, lay]
  | n, m, .ins _ _, e, hd, he => by simp [lay] at hd
theorem eqvs_py : ∀ (n m : Nat) (d e : List D), lays n d = true → lays m e = true → PyData.eqvAll (toPys d) (toPys e) = eqvDs d e
  | n, m, [], [], _, _ => by simp [toPys, PyData.eqvAll, eqvDs]
  | n, m, [], y :: ys, _, _ => by simp [toPys, PyData.eqvAll, eqvDs]
  | n, m, x :: xs, [], _, _ => by simp [toPys, PyData.eqvAll, eqvDs]
  | n, m, x :: xs, y :: ys, hd, he => by
    simp only [lays, Bool.and_eq_true] at hd he
    simp only [toPys, PyData.eqvAll, eqvDs, eqv_py n m x y hd.1 he.1, eqvs_py n m xs ys hd.2 he.2]
end
section
variable {g : G} {L : Addr → Prop} {H : Hp}
theorem strOk_of {s : Tx} (h : TxOk s) : PyData.strOk ⟨s.toArray⟩ = true := by
  unfold PyData.strOk
  rw [Array.all_eq_true_iff_forall_mem]
  intro c hc
  have : c ∈ s := by simpa using hc
  simpa using h.1 c this
mutual
theorem dp_of : ∀ (n : Nat) (d : D) (v : V), lay n d = true → Rep g L H d v → Dp g.K H v (toPy d) ∧ (toPy d).canLay0 = true ∧ (toPy d).depth ≤ n
  | n, .non, v, h, r => by cases r; exact ⟨.non, rfl, by simp [toPy, PyData.depth]⟩
  | n, .bl b, v, h, r => by cases r; exact ⟨.bl b, rfl, by simp [toPy, PyData.depth]⟩
  | n, .int i, v, h, r => by cases r; exact ⟨.int i, rfl, by simp [toPy, PyData.depth]⟩
  | n, .str s, v, h, r => by
    obtain ⟨rfl, ok⟩ := r
    exact ⟨.str _, by simp only [toPy, PyData.canLay0]; exact strOk_of ok, by simp [toPy, PyData.depth]⟩
  | n, .tup xs, v, h, r => by
    cases n with
    | zero => simp [lay] at h
    | succ n =>
      obtain ⟨a, vs, rfl, p, rs⟩ := r
      obtain ⟨h1, h2, h3⟩ := dps_of n xs vs (by simpa [lay] using h) rs
      exact ⟨.tup p.sq h1, by simpa [toPy, PyData.canLay0] using h2, by simp only [toPy, PyData.depth]; omega⟩
  | n, .lst xs, v, h, r => by
    cases n with
    | zero => simp [lay] at h
    | succ n =>
      obtain ⟨a, vs, rfl, p, rs⟩ := r
      obtain ⟨h1, h2, h3⟩ := dps_of n xs vs (by simpa [lay] using h) rs
      exact ⟨.lst p.sq h1, by simpa [toPy, PyData.canLay0] using h2, by simp only [toPy, PyData.depth]; omega⟩
  | n, .ins _ _, v, h, r => by simp [lay] at h
theorem dps_of : ∀ (n : Nat) (d : List D) (v : List V), lays n d = true → Reps g L H d v → DpAll g.K H v (toPys d) ∧ PyData.canLayAll0 (toPys d) = true ∧ PyData.depthAll (toPys d) ≤ n
  | n, [], v, h, r => by
    have e : v = [] := r
    subst e
    exact ⟨.nil, rfl, by simp [toPys, PyData.depthAll]⟩
  | n, d :: ds, v, h, r => by
    obtain ⟨v, vs, rfl, r1, r2⟩ := r
    simp only [lays, Bool.and_eq_true] at h
    obtain ⟨a1, a2, a3⟩ := dp_of n d v h.1 r1
    obtain ⟨b1, b2, b3⟩ := dps_of n ds vs h.2 r2
    exact ⟨.cons a1 b1, by simp [toPys, PyData.canLayAll0, a2, b2], by simp only [toPys, PyData.depthAll]; omega⟩
end
theorem dpP {n : Nat} {d : D} {v : V} (h : lay n d = true) (r : RepP g L H d v) : Dp g.K H v (toPy d) ∧ (toPy d).canLay0 = true ∧ (toPy d).depth ≤ n := by
  rcases r with r | ⟨xs, a, vs, rfl, rfl, ha, z, rs⟩
  · exact dp_of n d v h r
  · cases n with
    | zero => simp [lay] at h
    | succ n =>
      obtain ⟨h1, h2, h3⟩ := dps_of n xs vs (by simpa [lay] using h) rs
      exact ⟨.lst (.inl (.inl ha)) h1, by simpa [toPy, PyData.canLay0] using h2, by simp only [toPy, PyData.depth]; omega⟩
theorem shaped_of' {p : PyData} (h1 : p.canLay0 = true) (h2 : p.depth ≤ 60) : SeqAt.shaped p = true := by
  unfold SeqAt.shaped
  rw [h1, decide_eq_true (by omega)]; rfl
def eqD (d e : D) : Option D := if lay 60 d = true ∧ lay 60 e = true then some (.bl (eqvD d e)) else none
def neD (d e : D) : Option D := if lay 60 d = true ∧ lay 60 e = true then some (.bl (!eqvD d e)) else none
theorem os_eq {K : PySem.W.Frag} (hK : g.K = K) : OS2 g (rEqD K) eqD := by
  subst hK
  intro L H d e k x y Q hl rx ry hf q
  unfold eqD at hf
  split at hf
  · rename_i h
    cases hf
    obtain ⟨a1, a2, a3⟩ := dpP h.1 rx
    obtain ⟨b1, b2, b3⟩ := dpP h.2 ry
    exact ⟨_, _, a1, b1, shaped_of' a2 a3, shaped_of' b2 b3, by rw [eqv_py 60 60 d e h.1 h.2]; exact q _ H (Same.refl H) rfl⟩
  · cases hf
theorem os_ne {K : PySem.W.Frag} (hK : g.K = K) : OS2 g (rNeD K) neD := by
  subst hK
  intro L H d e k x y Q hl rx ry hf q
  unfold neD at hf
  split at hf
  · rename_i h
    cases hf
    obtain ⟨a1, a2, a3⟩ := dpP h.1 rx
    obtain ⟨b1, b2, b3⟩ := dpP h.2 ry
    exact ⟨_, _, a1, b1, shaped_of' a2 a3, shaped_of' b2 b3, by rw [eqv_py 60 60 d e h.1 h.2]; exact q _ H (Same.refl H) rfl⟩
  · cases hf

/-! ### is -/
def isNonD (d : D) : Bool := match d with
  | .non => true
  | _ => false
def isD : D → D → Option D
  | d, .non => some (.bl (isNonD d))
  | .bl a, .bl b => some (.bl (a == b))
  | _, _ => none
def isNotD : D → D → Option D
  | d, .non => some (.bl (!isNonD d))
  | .bl a, .bl b => some (.bl (!(a == b)))
  | _, _ => none
theorem non_of {d : D} {v : V} (r : RepP g L H d v) : decide (v = .non) = isNonD d := by
  cases d with
  | lst xs => obtain ⟨a, vs, rfl, _⟩ := r.lst; rfl
  | non => have r := r.rep (by intro _ z; cases z); cases r; rfl
  | bl b => have r := r.rep (by intro _ z; cases z); cases r; rfl
  | int i => have r := r.rep (by intro _ z; cases z); cases r; rfl
  | str s => have r := r.rep (by intro _ z; cases z); obtain ⟨rfl, _⟩ := r; rfl
  | tup xs => have r := r.rep (by intro _ z; cases z); obtain ⟨a, vs, rfl, _⟩ := r; rfl
  | ins C fs => have r := r.rep (by intro _ z; cases z); obtain ⟨a, dx, vfs, vs, rfl, _⟩ := r; rfl
def rIsU : R2 := fun x y H Q => (y = .non ∧ Q (.bl (decide (x = .non))) H) ∨ rIsB x y H Q
def rIsNotU : R2 := fun x y H Q => (y = .non ∧ Q (.bl (!decide (x = .non))) H) ∨ rNotB x y H Q
theorem op_isU {X : Cx} : OpR X (compareOp .Is) rIsU := op_isN.or op_isBl
theorem op_isNotU {X : Cx} : OpR X (compareOp .IsNot) rIsNotU := op_notN.or op_notBl
theorem os_is : OS2 g rIsU isD := by
  intro L H d e k x y Q hl rx ry hf q
  unfold isD at hf
  split at hf
  · cases hf
    exact .inl ⟨ry.rep (by intro _ z; cases z), by rw [non_of rx]; exact q _ H (Same.refl H) rfl⟩
  · cases hf
    refine .inr ⟨_, _, rx.rep (by intro _ z; cases z), ry.rep (by intro _ z; cases z), q _ H (Same.refl H) ?_⟩
    rw [Bool.beq_eq_decide_eq]; rfl
  · cases hf
theorem os_isNot : OS2 g rIsNotU isNotD := by
  intro L H d e k x y Q hl rx ry hf q
  unfold isNotD at hf
  split at hf
  · cases hf
    exact .inl ⟨ry.rep (by intro _ z; cases z), by rw [non_of rx]; exact q _ H (Same.refl H) rfl⟩
  · cases hf
    refine .inr ⟨_, _, rx.rep (by intro _ z; cases z), ry.rep (by intro _ z; cases z), q _ H (Same.refl H) ?_⟩
    rw [Bool.beq_eq_decide_eq]; rfl
  · cases hf
end
end MP

/-! MP, part D: in, places, slices, built-ins, methods of texts, displays. -/
namespace MP
open L2 PyProof.Rows PySem PySem.Spec

/-! ### in -/
def rInR (K : PySem.W.Frag) (neg : Bool) : R2 := fun x y H Q => (∃ d ds, Dp K H x d ∧ (Dp K H y (.list ds) ∨ Dp K H y (.tuple ds)) ∧ d.canLay0 = true ∧ PyData.canLayAll0 ds = true ∧ d.depth ≤ 60 ∧ Q (.bl (if neg then !ds.any fun z => PyData.eqv z d else ds.any fun z => PyData.eqv z d)) H) ∨
  (∃ (c : Nat) (z : Str), x = .str ⟨#[c]⟩ ∧ y = .str z ∧ Q (.bl (if neg then !decide (c ∈ z.cps.toList) else decide (c ∈ z.cps.toList))) H)
theorem op_inR {X : Cx} (hu : X.A.units + 64 < cLine) : OpR X (compareOp .In) (rInR X.K false) := by
  intro pins s σ H x y v u Q I rx ry h
  rcases h with ⟨d, ds, hd, he, cd, ce, dp, q⟩ | h
  · obtain ⟨as, r1⟩ := Dp.reads I d x v hd rx
    rcases he with he | he
    · obtain ⟨bs, r2⟩ := Dp.reads I (.list ds) y u he ry
      exact SeqAt.in_list_reads r2 r1 ce cd (by omega) ⟨.bl _, H, I, rfl, q⟩
    · obtain ⟨bs, r2⟩ := Dp.reads I (.tuple ds) y u he ry
      exact SeqAt.in_tuple_reads r2 r1 ce cd (by omega) ⟨.bl _, H, I, rfl, q⟩
  · exact op_in_sign pins s σ H x y v u Q I rx ry h
theorem op_notInR {X : Cx} (hu : X.A.units + 64 < cLine) : OpR X (compareOp .NotIn) (rInR X.K true) := by
  intro pins s σ H x y v u Q I rx ry h
  rcases h with ⟨d, ds, hd, he, cd, ce, dp, q⟩ | h
  · obtain ⟨as, r1⟩ := Dp.reads I d x v hd rx
    rcases he with he | he
    · obtain ⟨bs, r2⟩ := Dp.reads I (.list ds) y u he ry
      exact SeqAt.notIn_list_reads r2 r1 ce cd (by omega) ⟨.bl _, H, I, rfl, q⟩
    · obtain ⟨bs, r2⟩ := Dp.reads I (.tuple ds) y u he ry
      exact SeqAt.notIn_tuple_reads r2 r1 ce cd (by omega) ⟨.bl _, H, I, rfl, q⟩
  · exact op_notIn_sign pins s σ H x y v u Q I rx ry h
def anyEq (d : D) (xs : List D) : Bool := xs.any fun z => eqvD z d
def inB : D → D → Option Bool
  | d, .lst xs => if lay 60 d = true ∧ lays 60 xs = true then some (anyEq d xs) else none
  | d, .tup xs => if lay 60 d = true ∧ lays 60 xs = true then some (anyEq d xs) else none
  | .str [c], .str z => some (decide (c ∈ z))
  | _, _ => none
def inD (d e : D) : Option D := (inB d e).map .bl
def notInD (d e : D) : Option D := (inB d e).map fun b => .bl (!b)
theorem any_py (d : D) (hd : lay 60 d = true) : ∀ xs : List D, lays 60 xs = true → ((toPys xs).any fun z => PyData.eqv z (toPy d)) = anyEq d xs
  | [], _ => rfl
  | x :: xs, h => by
    simp only [lays, Bool.and_eq_true] at h
    simp only [toPys, List.any_cons, anyEq, eqv_py 60 60 x d h.1 hd]
    rw [any_py d hd xs h.2]; rfl
section
variable {g : G}
theorem inB_of {neg : Bool} {K : PySem.W.Frag} (hK : g.K = K) {L : Addr → Prop} {H : Hp} {d e : D} {b : Bool} {x y : V} {Q : VK} (rx : RepP g L H d x) (ry : RepP g L H e y) (hf : inB d e = some b) (q : Q (.bl (if neg then !b else b)) H) : rInR K neg x y H Q := by
  subst hK
  unfold inB at hf
  split at hf
  · split at hf
    · rename_i xs _ h
      cases hf
      obtain ⟨a1, a2, a3⟩ := dpP h.1 rx
      obtain ⟨a, vs, rfl, sa, _, ra⟩ := ry.lst
      obtain ⟨h1, h2, h3⟩ := dps_of 60 _ vs h.2 ra
      exact .inl ⟨_, _, a1, .inl (.lst (.inl sa) h1), a2, h2, a3, by rw [any_py d h.1 _ h.2]; exact q⟩
    · cases hf
  · split at hf
    · rename_i xs _ h
      cases hf
      obtain ⟨a1, a2, a3⟩ := dpP h.1 rx
      obtain ⟨a, vs, rfl, p, ra⟩ := ry.rep (by intro _ z; cases z)
      obtain ⟨h1, h2, h3⟩ := dps_of 60 _ vs h.2 ra
      exact .inl ⟨_, _, a1, .inr (.tup p.sq h1), a2, h2, a3, by rw [any_py d h.1 _ h.2]; exact q⟩
    · cases hf
  · rename_i c z
    cases hf
    have rx := rx.rep (by intro _ z; cases z)
    have ry := ry.rep (by intro _ z; cases z)
    exact .inr ⟨c, ⟨z.toArray⟩, rx.1, ry.1, q⟩
  · cases hf
theorem os_in {K : PySem.W.Frag} (hK : g.K = K) : OS2 g (rInR K false) inD := by
  intro L H d e k x y Q hl rx ry hf q
  unfold inD at hf
  cases eb : inB d e with
  | none => rw [eb] at hf; cases hf
  | some b =>
    rw [eb] at hf
    cases hf
    exact inB_of hK rx ry eb (q _ H (Same.refl H) rfl)
theorem os_notIn {K : PySem.W.Frag} (hK : g.K = K) : OS2 g (rInR K true) notInD := by
  intro L H d e k x y Q hl rx ry hf q
  unfold notInD at hf
  cases eb : inB d e with
  | none => rw [eb] at hf; cases hf
  | some b =>
    rw [eb] at hf
    cases hf
    exact inB_of hK rx ry eb (q _ H (Same.refl H) rfl)

/-! ### places -/
def ixD : D → D → Option D
  | .lst xs, .int i => atI xs i
  | .tup xs, .int i => atI xs i
  | .str s, .int i => (atI s i).map fun c => .str [c]
  | _, _ => none
theorem atI_reps {L : Addr → Prop} {H : Hp} {ds : List D} {vs : List V} {i : Int} {d : D} (r : Reps g L H ds vs) (h : atI ds i = some d) : ∃ v, atI vs i = some v ∧ Rep g L H d v := by
  unfold atI at h ⊢
  rw [← r.length]
  cases e : ixN ds.length i with
  | none => rw [e] at h; cases h
  | some j =>
    rw [e] at h
    exact r.get h
theorem mem_atI {α : Type} {xs : List α} {i : Int} {a : α} (h : atI xs i = some a) : a ∈ xs := by
  unfold atI at h
  cases e : ixN xs.length i with
  | none => rw [e] at h; cases h
  | some j => rw [e] at h; exact List.mem_of_getElem? h
theorem os_ix {K : PySem.W.Frag} (hK : g.K = K) : OS2 g (rIx K) ixD := by
  subst hK
  intro L H d e k x y Q hl rx ry hf q
  unfold ixD at hf
  split at hf
  · obtain ⟨a, vs, rfl, sa, _, ra⟩ := rx.lst
    obtain ⟨v, e, r⟩ := atI_reps ra hf
    exact .inl ⟨a, vs, _, v, rfl, ry.rep (by intro _ z; cases z), .inl sa, e, q _ H (Same.refl H) r⟩
  · obtain ⟨a, vs, rfl, p, ra⟩ := rx.rep (by intro _ z; cases z)
    obtain ⟨v, e, r⟩ := atI_reps ra hf
    exact .inr (.inl ⟨a, vs, _, v, rfl, ry.rep (by intro _ z; cases z), p.sq, e, q _ H (Same.refl H) r⟩)
  · rename_i s i
    obtain ⟨rfl, ok⟩ := rx.rep (by intro _ z; cases z)
    cases e : atI s i with
    | none => rw [e] at hf; cases hf
    | some c =>
      rw [e] at hf
      cases hf
      have hc := ok.1 c (mem_atI e)
      refine .inr (.inr ⟨_, _, c, rfl, ry.rep (by intro _ z; cases z), by rw [str_len]; exact ok.2, by simpa using e, q _ H (Same.refl H) ⟨rfl, fun c' h' => ?_, ?_⟩⟩)
      · have : c' = c := by simpa using h'
        rw [this]; exact hc
      · show 1 ≤ sizeLine
        rw [sizeLine_eq]; decide
  · cases hf

/-! ### slices -/
def cutL {α : Type} (xs : List α) (lo hi : Option Int) : List α := (xs.drop (HT.sIx xs.length 0 lo)).take (HT.sIx xs.length xs.length hi - HT.sIx xs.length 0 lo)
theorem cutL_le {α : Type} (xs : List α) (lo hi : Option Int) : (cutL xs lo hi).length ≤ xs.length := by
  unfold cutL
  rw [List.length_take, List.length_drop]
  omega
theorem cut_reps {L : Addr → Prop} {H : Hp} {ds : List D} {vs : List V} (r : Reps g L H ds vs) (lo hi : Option Int) : Reps g L H (cutL ds lo hi) (cutV vs lo hi) := by
  unfold cutL cutV
  rw [r.length]
  exact (r.drop _).take _
def slD : D → Option Int → Option Int → Option D
  | .tup xs, lo, hi => some (.tup (cutL xs lo hi))
  | .str s, lo, hi => some (.str (cutL s lo hi))
  | _, _, _ => none
def slF : D → Option Int → Option Int → Option (List D)
  | .lst xs, lo, hi => some (cutL xs lo hi)
  | _, _, _ => none
abbrev R3 := V → Option Int → Option Int → Hp → VK → Prop
def OSS (g : G) (r : R3) (f : D → Option Int → Option Int → Option D) : Prop := ∀ (L : Addr → Prop) (H : Hp) (d k : D) (lo hi : Option Int) (x : V) (Q : VK), (∀ a, L a → ∃ o, H a = some o) → RepP g L H d x → f d lo hi = some k →
  (∀ v H', Same H H' → Rep g L H' k v → Q v H') → r x lo hi H Q
def rSlU (K : PySem.W.Frag) : R3 := fun x lo hi H Q => rSlA K x lo hi H Q ∨ rSlS x lo hi H Q
theorem sl_U {X : Cx} : SlR X (rSlU X.K) := sl_tupA.or sl_str
theorem os_sl {K : PySem.W.Frag} (hK : g.K = K) : OSS g (rSlU K) slD := by
  subst hK
  intro L H d k lo hi x Q hl rx hf q
  cases d with
  | tup xs =>
    cases hf
    obtain ⟨a, vs, rfl, p, ra⟩ := rx.rep (by intro _ z; cases z)
    refine .inl ⟨a, vs, rfl, p.sq, fun w => ?_, fun _ b hb => ?_⟩
    · refine q _ H (Same.refl H) ⟨a, vs, rfl, p, ?_⟩
      have e : cutL xs lo hi = xs := by
        unfold cutL
        rw [← ra.length] at w
        rw [w.1, w.2, List.drop_zero, Nat.sub_zero, List.take_length]
      rw [e]; exact ra
    · exact q _ _ (Same.new hb) (new_tup hl hb (cut_reps ra lo hi) (Nat.le_trans (cutV_length vs lo hi) p.2))
  | str s =>
    cases hf
    obtain ⟨rfl, ok⟩ := rx.rep (by intro _ z; cases z)
    refine .inr ⟨_, rfl, by rw [str_len]; exact ok.2, q _ H (Same.refl H) ⟨?_, fun c hc => ok.1 c ?_, Nat.le_trans (cutL_le _ _ _) ok.2⟩⟩
    · unfold cutS cutL
      rw [str_len]
    · unfold cutL at hc
      exact List.mem_of_mem_drop (List.mem_of_mem_take hc)
  | _ => cases hf
def rSlLR : R3 := fun x lo hi H Q => ∃ a xs, x = .ref a ∧ Rd H a (.lst xs) ∧ ∀ p, H p = none → Q (.ref p) (upd H p (.lst (cutV xs lo hi)))
theorem sl_LR {X : Cx} : SlR X rSlLR := fun pins s σ H x v vl vu lo hi sl Q I rx hs pl pu ⟨a, xs, e, h, q⟩ => sl_list pins s σ H x v vl vu lo hi sl Q I rx hs pl pu ⟨a, xs, e, .inl h, q⟩
def OSSF (g : G) (r : R3) (f : D → Option Int → Option Int → Option (List D)) : Prop := ∀ (L : Addr → Prop) (H : Hp) (d : D) (zs : List D) (lo hi : Option Int) (x : V) (Q : VK), (∀ a, L a → ∃ o, H a = some o) → RepP g L H d x → f d lo hi = some zs →
  (∀ a vs H', H a = none → Same H H' → H' a = some (.lst vs) → ¬ L a → vs.length ≤ sizeLine → Reps g (fun b => L b ∨ b = a) H' zs vs → Q (.ref a) H') → r x lo hi H Q
theorem osf_sl : OSSF g rSlLR slF := by
  intro L H d zs lo hi x Q hl rx hf q
  unfold slF at hf
  split at hf
  · cases hf
    obtain ⟨a, vs, rfl, sa, z, ra⟩ := rx.lst
    refine ⟨a, vs, rfl, sa, fun p hp => ?_⟩
    obtain ⟨n, r⟩ := new_lst hl hp (cut_reps ra lo hi)
    exact q p _ _ hp (Same.new hp) upd_same n (Nat.le_trans (cutV_length vs lo hi) z) r
  · cases hf
end

/-! ### the parts of a slice -/
def EvO (C : Cy) (m : M (Option Int)) : TO := fun σ H Q => ∃ L0 O env, C.F L0 O H σ env ∧ Post C L0 O H σ (m env) fun o _ _ H' => Q o H'
def mNoPart : M (Option Int) := fun e => .ok none e
def intD : D → Option Int
  | .int i => some i
  | _ => none
def mPart (m : M D) : M (Option Int) := do
  let d ← m
  let i ← lift (intD d)
  pure (some i)
section
variable {X : Cx} {C : Cy}
theorem _root_.L2.PO.weak {e : Option Expr} {t t' : TO} (h : PO X e t) (k : ∀ σ H Q, t' σ H Q → t σ H Q) : PO X e t' := ⟨fun pins s σ H Q I q => h.run pins s σ H Q I (k σ H Q q)⟩
theorem pd_noPart : PO X none (EvO C mNoPart) := po_none.weak fun σ H Q ⟨L0, O, env, F, h⟩ => h.here F
theorem pd_part {e : Expr} {m : M D} (h : PE X e (EvE C m)) : PO X (some e) (EvO C (mPart m)) := (po_some h).weak fun σ H Q ⟨L0, O, env, F, h⟩ =>
  ⟨L0, O, env, F, (Post.bind h).imp fun d e1 O1 H1 x1 F1 h1 v rv => by
    have h1 := Post.bind h1
    cases d with
    | int i => exact ⟨i, rv, (h1.here F1).here F1⟩
    | _ => exact h1.elim⟩
def mSl {α : Type} (f : D → Option Int → Option Int → Option α) (a : M D) (lo hi : M (Option Int)) : M α := do
  let x ← a
  let l ← lo
  let h ← hi
  lift (f x l h)
def mSlL {α : Type} (f : D → Option Int → Option Int → Option α) (i : Nat) (lo hi : M (Option Int)) : M α := do
  let _ ← mPeek i
  let l ← lo
  let h ← hi
  let x ← mPeek i
  lift (f x l h)
theorem mPeek_cases {i : Nat} {env : Env} {P : Prop} (h1 : ∀ d, mPeek i env = .ok d env → P) (h2 : mPeek i env = .bad → P) : P := by
  cases e : mPeek i env with
  | ok d e' =>
    have e2 : e' = env := by
      unfold mPeek at e
      split at e <;> cases e <;> rfl
    subst e2
    exact h1 d e
  | ex x y => unfold mPeek at e; split at e <;> cases e
  | bad => exact h2 e
theorem ssf_end {L0 : Addr → Prop} {O : Own} {H H0 : Hp} {σ : L2.St} {env : Env} {r : R3} {f : D → Option Int → Option Int → Option (List D)} {d : D} {l h : Option Int} {x : V} {Q : VK} (os : OSSF C.g r f) (F : C.F L0 O H σ env) (rx : RepP C.g (LL L0 O) H d x)
    (hp : Post C L0 O H σ (lift (f d l h) env) fun ds e' O' H' => ∀ a vs, H0 a = none → H' a = some (.lst vs) → C.F (LA L0 a) O' H' σ e' → vs.length ≤ sizeLine → Reps C.g (LL (LA L0 a) O') H' ds vs → Q (.ref a) H') (h0 : ∀ a, H a = none → H0 a = none) : r x l h H Q := by
  cases ef : f d l h with
  | none => rw [ef] at hp; exact hp.elim
  | some k =>
    rw [ef] at hp
    exact os _ H d k l h x Q F.trk rx ef fun a vs H' n s e nl z rv => hp O H' (Ext.same s) (F.same s) a vs (h0 a n) e (F.newA n s e) z (Reps.mono (XT.less fun b q => LA.cases q) _ _ rv)
theorem ss_end {L0 : Addr → Prop} {O : Own} {H : Hp} {σ : L2.St} {env : Env} {r : R3} {f : D → Option Int → Option Int → Option D} {d : D} {l h : Option Int} {x : V} {Q : VK} (os : OSS C.g r f) (F : C.F L0 O H σ env) (rx : RepP C.g (LL L0 O) H d x)
    (hp : Post C L0 O H σ (lift (f d l h) env) fun k _ O' H' => ∀ v, Rep C.g (LL L0 O') H' k v → Q v H') : r x l h H Q := by
  cases ef : f d l h with
  | none => rw [ef] at hp; exact hp.elim
  | some k =>
    rw [ef] at hp
    exact os _ H d k l h x Q F.trk rx ef fun v H' s rv => hp O H' (Ext.same s) (F.same s) v rv
theorem Ext.none {rf : Nat → Bool} {σ σ' : L2.St} {O O' : Own} {H H' : Hp} {a : Addr} (x : Ext rf σ O H σ' O' H') (h : H' a = none) : H a = none := by
  cases e : H a with
  | none => rfl
  | some o =>
    obtain ⟨o', e'⟩ := x.old a o e
    rw [h] at e'; cases e'
theorem pd_sl {r : R3} {f : D → Option Int → Option Int → Option D} {a : Expr} {lo hi : Option Expr} {ma : M D} {ml mh : M (Option Int)} {p2 pos : Pos} (hr : SlR X r) (os : OSS C.g r f) (ha : PE X a (EvE C ma)) (hl : PO X lo (EvO C ml)) (hh : PO X hi (EvO C mh)) :
    PE X (.Subscript a (.Slice lo hi none p2) pos) (EvE C (mSl f ma ml mh)) := (pe_slice hr ha hl hh).weak fun σ H Q ⟨L0, O, env, F, h⟩ =>
  ⟨L0, O, env, F, (Post.bind h).imp fun d e1 O1 H1 x1 F1 h1 v rv => ⟨L0, O1, e1, F1, (Post.bind h1).imp fun l e2 O2 H2 x2 F2 h2 => ⟨L0, O2, e2, F2, (Post.bind h2).imp fun u e3 O3 H3 x3 F3 h3 => ss_end os F3 (.inl ((rv.at x2).at x3)) h3⟩⟩⟩
theorem pd_slL {r : R3} {f : D → Option Int → Option Int → Option D} {i : Nat} {x : Str} {lo hi : Option Expr} {ml mh : M (Option Int)} {p p2 pos : Pos} (hr : SlR X r) (os : OSS C.g r f) (ha : PE X (.Name x p) (tVar i)) (hl : PO X lo (EvO C ml)) (hh : PO X hi (EvO C mh)) :
    PE X (.Subscript (.Name x p) (.Slice lo hi none p2) pos) (EvE C (mSlL f i ml mh)) := (pe_slice hr ha hl hh).weak fun σ H Q ⟨L0, O, env, F, h⟩ => by
  have h := Post.bind h
  refine mPeek_cases (i := i) (env := env) (fun d e => ?_) (fun e => by rw [e] at h; exact h.elim)
  obtain ⟨_, v, es, _⟩ := mPeek_ok F e
  rw [e] at h
  refine ⟨v, es, L0, O, env, F, (Post.bind (h.here F)).imp fun l e2 O2 H2 x2 F2 h2 => ⟨L0, O2, e2, F2, (Post.bind h2).imp fun u e3 O3 H3 x3 F3 h3 => ?_⟩⟩
  have h3 := Post.bind h3
  refine mPeek_cases (i := i) (env := e3) (fun d3 ep => ?_) (fun e => by rw [e] at h3; exact h3.elim)
  obtain ⟨_, v', es', rv⟩ := mPeek_ok F3 ep
  rw [es] at es'
  cases es'
  rw [ep] at h3
  exact ss_end os F3 rv (h3.here F3)
theorem pd_slF {r : R3} {f : D → Option Int → Option Int → Option (List D)} {a : Expr} {lo hi : Option Expr} {ma : M D} {ml mh : M (Option Int)} {p2 pos : Pos} (hr : SlR X r) (os : OSSF C.g r f) (ha : PE X a (EvE C ma)) (hl : PO X lo (EvO C ml)) (hh : PO X hi (EvO C mh)) :
    PE X (.Subscript a (.Slice lo hi none p2) pos) (EvF C (mSl f ma ml mh)) := (pe_slice hr ha hl hh).weak fun σ H Q ⟨L0, O, env, F, h⟩ =>
  ⟨L0, O, env, F, (Post.bind h).imp fun d e1 O1 H1 x1 F1 h1 v rv => ⟨L0, O1, e1, F1, (Post.bind h1).imp fun l e2 O2 H2 x2 F2 h2 => ⟨L0, O2, e2, F2, (Post.bind h2).imp fun u e3 O3 H3 x3 F3 h3 => ssf_end os F3 (.inl ((rv.at x2).at x3)) h3 fun a n => x1.none (x2.none (x3.none n))⟩⟩⟩
theorem pd_slFL {r : R3} {f : D → Option Int → Option Int → Option (List D)} {i : Nat} {x : Str} {lo hi : Option Expr} {ml mh : M (Option Int)} {p p2 pos : Pos} (hr : SlR X r) (os : OSSF C.g r f) (ha : PE X (.Name x p) (tVar i)) (hl : PO X lo (EvO C ml)) (hh : PO X hi (EvO C mh)) :
    PE X (.Subscript (.Name x p) (.Slice lo hi none p2) pos) (EvF C (mSlL f i ml mh)) := (pe_slice hr ha hl hh).weak fun σ H Q ⟨L0, O, env, F, h⟩ => by
  have h := Post.bind h
  refine mPeek_cases (i := i) (env := env) (fun d e => ?_) (fun e => by rw [e] at h; exact h.elim)
  obtain ⟨_, v, es, _⟩ := mPeek_ok F e
  rw [e] at h
  refine ⟨v, es, L0, O, env, F, (Post.bind (h.here F)).imp fun l e2 O2 H2 x2 F2 h2 => ⟨L0, O2, e2, F2, (Post.bind h2).imp fun u e3 O3 H3 x3 F3 h3 => ?_⟩⟩
  have h3 := Post.bind h3
  refine mPeek_cases (i := i) (env := e3) (fun d3 ep => ?_) (fun e => by rw [e] at h3; exact h3.elim)
  obtain ⟨_, v', es', rv⟩ := mPeek_ok F3 ep
  rw [es] at es'
  cases es'
  rw [ep] at h3
  exact ssf_end os F3 rv (h3.here F3) fun a n => x2.none (x3.none n)

/-! ### binary operators that make a list -/
def mBinF (f : D → D → Option (List D)) (a b : M D) : M (List D) := do
  let x ← a
  let y ← b
  lift (f x y)
def mBinFL (f : D → D → Option (List D)) (i : Nat) (b : M D) : M (List D) := do
  let _ ← mPeek i
  let y ← b
  let x ← mPeek i
  lift (f x y)
theorem of_end {L0 : Addr → Prop} {O : Own} {H H0 : Hp} {σ : L2.St} {env : Env} {r : R2} {f : D → D → Option (List D)} {d e : D} {x y : V} {Q : VK} (os : OSF2 C.g r f) (F : C.F L0 O H σ env) (rx : RepP C.g (LL L0 O) H d x) (ry : RepP C.g (LL L0 O) H e y)
    (hp : Post C L0 O H σ (lift (f d e) env) fun ds e' O' H' => ∀ a vs, H0 a = none → H' a = some (.lst vs) → C.F (LA L0 a) O' H' σ e' → vs.length ≤ sizeLine → Reps C.g (LL (LA L0 a) O') H' ds vs → Q (.ref a) H') (h0 : ∀ a, H a = none → H0 a = none) : r x y H Q := by
  cases ef : f d e with
  | none => rw [ef] at hp; exact hp.elim
  | some k =>
    rw [ef] at hp
    exact os _ H d e k x y Q F.trk rx ry ef fun a vs H' n s e nl z rv => hp O H' (Ext.same s) (F.same s) a vs (h0 a n) e (F.newA n s e) z (Reps.mono (XT.less fun b q => LA.cases q) _ _ rv)
theorem pd_opF {op : Operator} {r : R2} {f : D → D → Option (List D)} {a b : Expr} {ma mb : M D} {pos : Pos} (ho : OpR X (binaryOp op) r) (os : OSF2 C.g r f) (ha : PE X a (EvE C ma)) (hb : PE X b (EvP C mb)) : PE X (.BinOp a op b pos) (EvF C (mBinF f ma mb)) :=
  (pe_op ho ha hb).weak fun σ H Q ⟨L0, O, env, F, h⟩ => ⟨L0, O, env, F, (Post.bind h).imp fun d e1 O1 H1 x1 F1 h1 v rv => ⟨L0, O1, e1, F1, (Post.bind h1).imp fun d2 e2 O2 H2 x2 F2 h2 u ru => of_end os F2 (.inl (rv.at x2)) ru h2 fun a n => x1.none (x2.none n)⟩⟩
theorem pd_opFL {op : Operator} {r : R2} {f : D → D → Option (List D)} {b : Expr} {i : Nat} {x : Str} {mb : M D} {p pos : Pos} (ho : OpR X (binaryOp op) r) (os : OSF2 C.g r f) (ha : PE X (.Name x p) (tVar i)) (hb : PE X b (EvP C mb)) : PE X (.BinOp (.Name x p) op b pos) (EvF C (mBinFL f i mb)) :=
  (pe_op ho ha hb).weak fun σ H Q ⟨L0, O, env, F, h⟩ => by
    have h := Post.bind h
    refine mPeek_cases (i := i) (env := env) (fun d e => ?_) (fun e => by rw [e] at h; exact h.elim)
    obtain ⟨_, v, es, _⟩ := mPeek_ok F e
    rw [e] at h
    refine ⟨v, es, L0, O, env, F, (Post.bind (h.here F)).imp fun d2 e2 O2 H2 x2 F2 h2 u ru => ?_⟩
    have h2 := Post.bind h2
    refine mPeek_cases (i := i) (env := e2) (fun d3 ep => ?_) (fun e => by rw [e] at h2; exact h2.elim)
    obtain ⟨_, v', es', rv⟩ := mPeek_ok F2 ep
    rw [es] at es'
    cases es'
    rw [ep] at h2
    exact of_end os F2 rv ru (h2.here F2) fun a n => x2.none n

/-! ### arguments, displays -/
def notStar : Expr → Bool
  | .Starred .. => false
  | _ => true
theorem starEach_cons {e : Expr} {es : List Expr} {env : PySem.Env} (h : notStar e = true) : starEach (e :: es) env = (false, eval e env) :: starEach es env := by
  cases e <;> first | rfl | (simp [notStar] at h)
theorem starEach_all {env : PySem.Env} : ∀ {es : List Expr}, es.all notStar = true → starEach es env = es.map fun e => (false, eval e env)
  | [], _ => rfl
  | e :: es, h => by
    rw [List.all_cons, Bool.and_eq_true] at h
    rw [starEach_cons h.1, starEach_all h.2]; rfl
theorem plain_all {env : PySem.Env} {pos : Pos} {es : List Expr} (h : es.all notStar = true) : (backTo pos (starEach es env)).any (·.1) = false := by
  rw [starEach_all h]
  unfold backTo
  simp
def mNil : M (List D) := fun e => .ok [] e
def mCons (a : M D) (r : M (List D)) : M (List D) := do
  let x ← a
  let xs ← r
  pure (x :: xs)
theorem pa_nilD : PA X [] (EvA C mNil) := pa_nil.weak fun σ H Q ⟨L0, O, env, F, h⟩ => h.here F [] rfl
theorem pa_consD {e : Expr} {es : List Expr} {m : M D} {r : M (List D)} (hn : notStar e = true) (he : PE X e (EvE C m)) (hr : PA X es (EvA C r)) : PA X (e :: es) (EvA C (mCons m r)) :=
  (pa_cons he hr (starEach_cons hn)).weak fun σ H Q ⟨L0, O, env, F, h⟩ => ⟨L0, O, env, F, (Post.bind h).imp fun d e1 O1 H1 x1 F1 h1 v rv => ⟨L0, O1, e1, F1, (Post.bind h1).imp fun ds e2 O2 H2 x2 F2 h2 vs rs => h2.here F2 _ (.cons (rv.at x2) rs)⟩⟩
def mTup (r : M (List D)) : M D := do
  let xs ← r
  if xs.length ≤ 1000000 then pure (.tup xs) else bad
theorem pd_tup {es : List Expr} {r : M (List D)} {k pos} (hr : PA X es (EvA C r)) : PE X (.Tuple es k pos) (EvE C (mTup r)) := (pe_tup hr).weak fun σ H Q ⟨L0, O, env, F, h⟩ =>
  ⟨L0, O, env, F, (Post.bind h).imp fun ds e1 O1 H1 x1 F1 h1 vs rs => by
    by_cases hz : ds.length ≤ 1000000
    · rw [if_pos hz] at h1
      have hz2 : vs.length ≤ sizeLine := by rw [← rs.length]; exact big hz
      exact ⟨hz2, fun p hp => h1 _ _ (Ext.same (Same.new hp)) (F1.same (Same.new hp)) _ (new_tup F1.trk hp rs hz2)⟩
    · rw [if_neg hz] at h1; exact h1.elim⟩
def mLst (r : M (List D)) : M (List D) := do
  let xs ← r
  if xs.length ≤ 1000000 then pure xs else bad
theorem pd_lst {es : List Expr} {r : M (List D)} {pos} (hr : PA X es (EvA C r)) : PE X (.List es pos) (EvF C (mLst r)) := (pe_lst hr).weak fun σ H Q ⟨L0, O, env, F, h⟩ =>
  ⟨L0, O, env, F, (Post.bind h).imp fun ds e1 O1 H1 x1 F1 h1 vs rs => by
    by_cases hz : ds.length ≤ 1000000
    · rw [if_pos hz] at h1
      have hz2 : vs.length ≤ sizeLine := by rw [← rs.length]; exact big hz
      refine ⟨hz2, fun p hp => ?_⟩
      obtain ⟨n, r⟩ := new_lst F1.trk hp rs
      exact h1 _ _ (Ext.same (Same.new hp)) (F1.same (Same.new hp)) p vs (x1.none hp) upd_same (F1.newA hp (Same.new hp) upd_same) hz2 (Reps.mono (XT.less fun b q => LA.cases q) _ _ r)
    · rw [if_neg hz] at h1; exact h1.elim⟩

/-! ### built-ins of one value -/
def OC1 (g : G) (r : List V → Hp → VK → Prop) (f : D → Option D) : Prop := ∀ (L : Addr → Prop) (H : Hp) (d k : D) (x : V) (Q : VK), (∀ a, L a → ∃ o, H a = some o) → RepP g L H d x → f d = some k → (∀ v H', Same H H' → Rep g L H' k v → Q v H') → r [x] H Q
def OCF1 (g : G) (r : List V → Hp → VK → Prop) (f : D → Option (List D)) : Prop := ∀ (L : Addr → Prop) (H : Hp) (d : D) (zs : List D) (x : V) (Q : VK), (∀ a, L a → ∃ o, H a = some o) → RepP g L H d x → f d = some zs →
  (∀ a vs H', H a = none → Same H H' → H' a = some (.lst vs) → ¬ L a → vs.length ≤ sizeLine → Reps g (fun b => L b ∨ b = a) H' zs vs → Q (.ref a) H') → r [x] H Q
def OCN (g : G) (r : List V → Hp → VK → Prop) (f : List D → Option D) : Prop := ∀ (L : Addr → Prop) (H : Hp) (ds : List D) (k : D) (vs : List V) (Q : VK), (∀ a, L a → ∃ o, H a = some o) → Reps g L H ds vs → f ds = some k → (∀ v H', Same H H' → Rep g L H' k v → Q v H') → r vs H Q
def mUn {α : Type} (f : D → Option α) (a : M D) : M α := do
  let x ← a
  lift (f x)
theorem cb1_weak {r : List V → Hp → VK → Prop} {f : D → Option D} {m : M D} (os : OC1 C.g r f) (σ : L2.St) (H : Hp) (Q : VK) (h : EvE C (mUn f m) σ H Q) : tCB r (tCons (EvP C m) tNil) σ H Q := by
  obtain ⟨L0, O, env, F, h⟩ := h
  refine ⟨L0, O, env, F, (Post.bind h).imp fun d e1 O1 H1 x1 F1 h1 v rv => ?_⟩
  cases ef : f d with
  | none => rw [ef] at h1; exact h1.elim
  | some k =>
    rw [ef] at h1
    exact os _ H1 d k v Q F1.trk rv ef fun v H' s rv => h1 O1 H' (Ext.same s) (F1.same s) v rv
theorem cbF1_weak {r : List V → Hp → VK → Prop} {f : D → Option (List D)} {m : M D} (os : OCF1 C.g r f) (σ : L2.St) (H : Hp) (Q : VK) (h : EvF C (mUn f m) σ H Q) : tCB r (tCons (EvP C m) tNil) σ H Q := by
  obtain ⟨L0, O, env, F, h⟩ := h
  refine ⟨L0, O, env, F, (Post.bind h).imp fun d e1 O1 H1 x1 F1 h1 v rv => ?_⟩
  cases ef : f d with
  | none => rw [ef] at h1; exact h1.elim
  | some k =>
    rw [ef] at h1
    exact os _ H1 d k v Q F1.trk rv ef fun a vs H' n s e nl z rv => h1 O1 H' (Ext.same s) (F1.same s) a vs (x1.none n) e (F1.newA n s e) z (Reps.mono (XT.less fun b q => LA.cases q) _ _ rv)
theorem cbN_weak {r : List V → Hp → VK → Prop} {f : List D → Option D} {m : M (List D)} (os : OCN C.g r f) (σ : L2.St) (H : Hp) (Q : VK) (h : EvE C (do let xs ← m; lift (f xs)) σ H Q) : tCB r (EvA C m) σ H Q := by
  obtain ⟨L0, O, env, F, h⟩ := h
  refine ⟨L0, O, env, F, (Post.bind h).imp fun d e1 O1 H1 x1 F1 h1 v rv => ?_⟩
  cases ef : f d with
  | none => rw [ef] at h1; exact h1.elim
  | some k =>
    rw [ef] at h1
    exact os _ H1 d k v Q F1.trk rv ef fun v H' s rv => h1 O1 H' (Ext.same s) (F1.same s) v rv
end
end MP

/-! MP, part E: calls of the text's own defs. -/
namespace MP
open L2 PyProof.Rows PySem PySem.Spec

inductive FR where
  | ok (d : D) (outs : List Val) | ex (x : Exn) (outs : List Val) | bad
abbrev Fn := List Val → FR
def noX : XTab := fun _ => none
def domH (H : Hp) : Addr → Prop := fun a => ∃ o, H a = some o
/-- an argument: a value, a slot handed on as it is, a list just made -/
inductive Arg where
  | e (m : M D) | r (j : Nat) | f (m : M (List D))
inductive AV where
  | v (d : D) | s | l (xs : List D)
/-- what comes back; fresh: a list that nothing else knows -/
def retOk (g : G) (rf : Nat → Bool) (fresh : Bool) (L0 : Addr → Prop) (A : Own) (H : Hp) (vs : List V) (outs : List Val) (d : D) (Q : VK) : Prop :=
  match fresh, d with
  | true, .lst xs => ∀ a us A' H', Ext (fun _ => true) [] A H [] A' H' → FRel g rf (domH H) (LA L0 a) noX A' H' (vs.map some) (outs.map some) → H a = none → H' a = some (.lst us) → us.length ≤ sizeLine → Reps g (LL (LA L0 a) A') H' xs us → Q (.ref a) H'
  | _, d => ∀ v A' H', Ext (fun _ => true) [] A H [] A' H' → FRel g rf (domH H) L0 noX A' H' (vs.map some) (outs.map some) → Rep g (LL L0 A') H' d v → Q v H'
/-- THE PROMISE of a def: F is what it does -/
def spF (g : G) (n : Nat) (rf : Nat → Bool) (fresh : Bool) (F : Fn) : Sp := fun vs H Q E => ∃ (L0 : Addr → Prop) (A : Own) (vals : List Val), vs.length = n ∧ FRel g rf (domH H) L0 noX A H (vs.map some) (vals.map some) ∧
  match F vals with
  | .ok d outs => retOk g rf fresh L0 A H vs outs d Q
  | .ex x outs => ∀ cls dd A' H', Ext (fun _ => true) [] A H [] A' H' → FRel g rf (domH H) L0 noX A' H' (vs.map some) (outs.map some) → XR g (LL L0 A') H' x cls dd → E cls dd H'
  | .bad => False

def chk (j : Nat) : M Unit := fun e => match e[j]? with
  | some (some (.p _)) => .ok () e
  | some (some (.ml _)) => .ok () e
  | _ => .bad
def evArgs : List Arg → M (List AV)
  | [] => fun e => .ok [] e
  | .e m :: r => do
    let d ← m
    let ds ← evArgs r
    pure (.v d :: ds)
  | .r j :: r => do
    chk j
    let ds ← evArgs r
    pure (.s :: ds)
  | .f m :: r => do
    let xs ← m
    let ds ← evArgs r
    pure (.l xs :: ds)
def gather : List Arg → List AV → Env → Option (List Val)
  | [], [], _ => some []
  | .e _ :: r, .v d :: ds, e => (gather r ds e).map (Val.p d :: ·)
  | .r j :: r, .s :: ds, e => (match e[j]? with
    | some (some (.p d)) => (gather r ds e).map (Val.p d :: ·)
    | some (some (.ml xs)) => (gather r ds e).map (Val.ml xs :: ·)
    | _ => none)
  | .f _ :: r, .l xs :: ds, e => (gather r ds e).map (Val.ml xs :: ·)
  | _, _, _ => none
def back : List Arg → List Val → Env → Env
  | .r j :: r, v :: vs, e => back r vs (e.set j (some v))
  | .e _ :: r, _ :: vs, e => back r vs e
  | .f _ :: r, _ :: vs, e => back r vs e
  | _, _, e => e
def after {α : Type} (F : Fn) (args : List Arg) (h : D → Option α) : Option (List Val) → Env → R α
  | none, _ => .bad
  | some vals, e => (match F vals with
    | .ok d outs => lift (h d) (back args outs e)
    | .ex x outs => .ex x (back args outs e)
    | .bad => .bad)
def mCall (F : Fn) (args : List Arg) : M D := do
  let ds ← evArgs args
  fun e => after F args some (gather args ds e) e
def lstD : D → Option (List D)
  | .lst xs => some xs
  | _ => none
def mCallF (F : Fn) (args : List Arg) : M (List D) := do
  let ds ← evArgs args
  fun e => after F args lstD (gather args ds e) e
/-- the lists just made stand forbidden -/
def LT (L0 : Addr → Prop) (ts : List (Option Addr)) : Addr → Prop := fun b => L0 b ∨ some b ∈ ts
def AR (g : G) (L : Addr → Prop) (H : Hp) (σ : L2.St) : List Arg → List AV → List V → List (Option Addr) → Prop
  | [], [], vs, ts => vs = [] ∧ ts = []
  | .e _ :: r, .v d :: ds, vs, ts => ∃ v t tr, vs = v :: t ∧ ts = none :: tr ∧ Rep g L H d v ∧ AR g L H σ r ds t tr
  | .r j :: r, .s :: ds, vs, ts => ∃ v t tr, vs = v :: t ∧ ts = none :: tr ∧ σ[j]? = some (some v) ∧ AR g L H σ r ds t tr
  | .f _ :: r, .l xs :: ds, vs, ts => ∃ a us t tr, vs = .ref a :: t ∧ ts = some a :: tr ∧ H a = some (.lst us) ∧ us.length ≤ sizeLine ∧ Reps g L H xs us ∧ AR g L H σ r ds t tr
  | _, _, _, _ => False
/-- new, none twice -/
def Nw (H : Hp) (ts : List (Option Addr)) : Prop := (∀ b, some b ∈ ts → H b = none) ∧ ∀ (i j : Nat) (b : Addr), ts[i]? = some (some b) → ts[j]? = some (some b) → i = j
def EvAr (C : Cy) (args : List Arg) : TA := fun σ H Q => ∃ L0 O env, C.F L0 O H σ env ∧ Post C L0 O H σ (evArgs args env) fun ds e O' H' => ∀ vs ts, Nw H ts → C.F (LT L0 ts) O' H' σ e → AR C.g (LL (LT L0 ts) O') H' σ args ds vs ts → Q vs H'
section
variable {X : Cx} {C : Cy} {L0 : Addr → Prop} {O : Own} {H H' : Hp} {σ : L2.St}
theorem Post.more {α : Type} {r : R α} {Φ : α → Env → Own → Hp → Prop} {a : Addr} (h : Post C L0 O H σ r Φ) : Post C (LA L0 a) O H σ r Φ := by
  cases r with
  | ok x e => exact fun O' H' y F => h O' H' y (FRel.less F fun b z => .inl z)
  | ex x e => exact fun c d O' H' y F ⟨e1, dd, vfs, vs, e2, h1, nl, fo, r⟩ => h c d O' H' y (FRel.less F fun b z => .inl z) ⟨e1, dd, vfs, vs, e2, h1, fun z => nl (LA.ll z), fo, Reps.mono (XT.less fun b z => LA.ll z) _ _ r⟩
  | bad => exact h
/-- the end of a part, told of the whole's start -/
theorem Post.bind0 {α β : Type} {m : M α} {f : α → M β} {env : Env} {Φ : β → Env → Own → Hp → Prop} (h : Post C L0 O H σ ((m >>= f) env) Φ) : Post C L0 O H σ (m env) (fun a e O' H' => Post C L0 O H σ (f a e) Φ) := by
  rw [bind_eq] at h
  unfold M.bind at h
  cases e : m env with
  | ok a e' => rw [e] at h; exact fun O' H' y F => h
  | ex a e' => rw [e] at h; exact h
  | bad => rw [e] at h; exact h
theorem LT.none {ts : List (Option Addr)} : LT L0 (none :: ts) = LT L0 ts := funext fun b => propext ⟨fun h => h.imp id fun h => by simpa using h, fun h => h.imp id fun h => by simpa using h⟩
theorem LT.some {a : Addr} {ts : List (Option Addr)} : LT L0 (some a :: ts) = LT (LA L0 a) ts := funext fun b => propext ⟨fun h => h.elim (fun h => .inl (.inl h)) fun h => by
    rcases List.mem_cons.mp h with e | e
    · cases e; exact .inl (.inr rfl)
    · exact .inr e, fun h => h.elim (fun h => h.elim .inl fun e => .inr (by rw [e]; exact List.mem_cons_self)) fun h => .inr (List.mem_cons_of_mem _ h)⟩
theorem LT.nil : LT L0 [] = L0 := funext fun b => propext ⟨fun h => h.elim id fun h => (by cases h), .inl⟩
theorem Nw.tail {o : Option Addr} {ts : List (Option Addr)} (h : Nw H (o :: ts)) : Nw H ts := ⟨fun b hb => h.1 b (List.mem_cons_of_mem _ hb), fun i j b e e' => by
  have := h.2 (i + 1) (j + 1) b (by simpa using e) (by simpa using e')
  omega⟩
theorem XT.temps {ts : List (Option Addr)} {O' : Own} {rf : Nat → Bool} (x : Ext rf σ O H σ O' H') (n : ∀ b, some b ∈ ts → H b = none) : XT (LL L0 O) H (LL (LT L0 ts) O') H' := fun b o e nn => by
  obtain ⟨e1, n1⟩ := (x.xt (L0 := L0)) b o e nn
  refine ⟨e1, fun z => ?_⟩
  rcases z with (z | z) | z
  · exact n1 (.inl z)
  · rw [n b z] at e; cases e
  · exact n1 (.inr z)
theorem pr_nil : PA X [] (EvAr C []) := pa_nil.weak fun σ H Q ⟨L0, O, env, F, h⟩ => h.here F [] [] ⟨fun b z => (by cases z), fun i j b e => (by simp at e)⟩ (by rw [LT.nil]; exact F) ⟨rfl, rfl⟩
theorem pr_e {e : Expr} {es : List Expr} {m : M D} {r : List Arg} (hn : notStar e = true) (he : PE X e (EvE C m)) (hr : PA X es (EvAr C r)) : PA X (e :: es) (EvAr C (.e m :: r)) :=
  (pa_cons he hr (starEach_cons hn)).weak fun σ H Q ⟨L0, O, env, F, h⟩ => ⟨L0, O, env, F, (Post.bind h).imp fun d e1 O1 H1 x1 F1 h1 v rv => ⟨L0, O1, e1, F1, (Post.bind h1).imp fun ds e2 O2 H2 x2 F2 h2 vs ts nw FT rs => by
    have nb : ∀ b, some b ∈ ts → H b = none := fun b hb => x1.none (nw.1 b hb)
    refine h2.here F2 _ (none :: ts) ⟨fun b hb => nb b (by simpa using hb), fun i j b e e' => ?_⟩ (by rw [LT.none]; exact FT) ⟨v, vs, ts, rfl, rfl, ?_, by rw [LT.none]; exact rs⟩
    · cases i with
      | zero => simp at e
      | succ i =>
        cases j with
        | zero => simp at e'
        | succ j => rw [nw.2 i j b (by simpa using e) (by simpa using e')]
    · rw [LT.none]
      exact Rep.mono (XT.temps x2 nw.1) d v rv⟩⟩
theorem pr_r {x : Str} {p : Pos} {es : List Expr} {j : Nat} {r : List Arg} (he : PE X (.Name x p) (tVar j)) (hr : PA X es (EvAr C r)) : PA X (.Name x p :: es) (EvAr C (.r j :: r)) :=
  (pa_cons he hr rfl).weak fun σ H Q ⟨L0, O, env, F, h⟩ => by
    have h := Post.bind h
    have s := F.sl j
    have go : ∀ (v : V), σ[j]? = some (some v) → Post C L0 O H σ ((evArgs r >>= fun ds => pure (.s :: ds)) env) (fun ds e O' H' => ∀ vs ts, Nw H ts → C.F (LT L0 ts) O' H' σ e → AR C.g (LL (LT L0 ts) O') H' σ (.r j :: r) ds vs ts → Q vs H') →
        EvAr C r σ H fun vs H' => Q (v :: vs) H' := fun v e hp => ⟨L0, O, env, F, (Post.bind hp).imp fun ds e2 O2 H2 x2 F2 h2 vs ts nw FT rs => by
      refine h2.here F2 _ (none :: ts) ⟨fun b hb => nw.1 b (by simpa using hb), fun i j b e e' => ?_⟩ (by rw [LT.none]; exact FT) ⟨v, vs, ts, rfl, rfl, e, by rw [LT.none]; exact rs⟩
      cases i with
      | zero => simp at e
      | succ i =>
        cases j with
        | zero => simp at e'
        | succ j => rw [nw.2 i j b (by simpa using e) (by simpa using e')]⟩
    unfold chk at h
    split at h
    · rename_i d hq
      rw [hq] at s
      obtain ⟨_, v, e, _⟩ := s
      exact ⟨v, e, go v e (h.here F)⟩
    · rename_i d hq
      rw [hq] at s
      obtain ⟨a, us, _, e, _⟩ := s
      exact ⟨.ref a, e, go (.ref a) e (h.here F)⟩
    · exact h.elim
theorem pr_f {e : Expr} {es : List Expr} {m : M (List D)} {r : List Arg} (hn : notStar e = true) (he : PE X e (EvF C m)) (hr : PA X es (EvAr C r)) : PA X (e :: es) (EvAr C (.f m :: r)) :=
  (pa_cons he hr (starEach_cons hn)).weak fun σ H Q ⟨L0, O, env, F, h⟩ => ⟨L0, O, env, F, (Post.bind h).imp fun xs e1 O1 H1 x1 F1 h1 a us h0 ha FA z rr => ⟨LA L0 a, O1, e1, FA, Post.more ((Post.bind h1).imp fun ds e2 O2 H2 x2 F2 h2 vs ts nw FT rs => by
    have ha2 : H2 a = some (.lst us) := (x2.keep a _ ha fun i q => FA.dis i a q (.inr rfl)).1
    have na : some a ∉ ts := fun q => by rw [nw.1 a q] at ha; cases ha
    refine h2.here F2 _ (some a :: ts) ⟨fun b hb => ?_, fun i j b e e' => ?_⟩ (by rw [LT.some]; exact FT) ⟨a, us, vs, ts, rfl, rfl, ha2, z, ?_, by rw [LT.some]; exact rs⟩
    · rcases List.mem_cons.mp hb with q | q
      · cases q; exact h0
      · exact x1.none (nw.1 b q)
    · cases i with
      | zero =>
        have ea : a = b := by simpa using e
        subst ea
        cases j with
        | zero => rfl
        | succ j => exact absurd (List.mem_of_getElem? (by simpa using e')) na
      | succ i =>
        cases j with
        | zero =>
          have ea : a = b := by simpa using e'
          subst ea
          exact absurd (List.mem_of_getElem? (by simpa using e)) na
        | succ j => rw [nw.2 i j b (by simpa using e) (by simpa using e')]
    · rw [LT.some]
      exact Reps.mono (XT.temps x2 nw.1) xs us rr)⟩⟩
end

/-! ### the callee's frame -/
def ValsOk (g : G) (L : Addr → Prop) (H : Hp) (σ : L2.St) (env : Env) (args : List Arg) (vals : List Val) (vs : List V) (ts : List (Option Addr)) : Prop := vals.length = args.length ∧ vs.length = args.length ∧ ts.length = args.length ∧ ∀ (k : Nat), (∀ m, args[k]? = some (.e m) → ∃ d v, vals[k]? = some (.p d) ∧ vs[k]? = some v ∧ Rep g L H d v ∧ ts[k]? = some none) ∧
      (∀ j, args[k]? = some (.r j) → ∃ w v, vals[k]? = some w ∧ env[j]? = some (some w) ∧ (∀ e, w ≠ .x e) ∧ vs[k]? = some v ∧ σ[j]? = some (some v) ∧ ts[k]? = some none) ∧
      (∀ m, args[k]? = some (.f m) → ∃ xs a us, vals[k]? = some (.ml xs) ∧ vs[k]? = some (.ref a) ∧ H a = some (.lst us) ∧ us.length ≤ sizeLine ∧ Reps g L H xs us ∧ ts[k]? = some (some a))
theorem AR.vals {g : G} {L : Addr → Prop} {H : Hp} {σ : L2.St} {env : Env} : ∀ {args : List Arg} {ds : List AV} {vs : List V} {ts : List (Option Addr)} {vals : List Val}, AR g L H σ args ds vs ts → gather args ds env = some vals → ValsOk g L H σ env args vals vs ts
  | [], [], vs, ts, vals, h, hg => by
    cases hg
    obtain ⟨rfl, rfl⟩ := h
    exact ⟨rfl, rfl, rfl, fun k => ⟨fun m e => by simp at e, fun j e => by simp at e, fun m e => by simp at e⟩⟩
  | .e m0 :: r, .v d :: ds, vs, ts, vals, h, hg => by
    obtain ⟨v, t, tr, rfl, rfl, rv, ht⟩ := h
    have hg : (gather r ds env).map (Val.p d :: ·) = some vals := hg
    obtain ⟨vals', hg', rfl⟩ := Option.map_eq_some_iff.mp hg
    obtain ⟨l1, l2, l3, ih⟩ := AR.vals ht hg'
    refine ⟨by simp [l1], by simp [l2], by simp [l3], fun k => ?_⟩
    cases k with
    | zero => exact ⟨fun m e => ⟨d, v, rfl, rfl, rv, rfl⟩, fun j e => by simp at e, fun j e => by simp at e⟩
    | succ k => exact ⟨fun m e => by simpa using (ih k).1 m (by simpa using e), fun j e => by simpa using (ih k).2.1 j (by simpa using e), fun j e => by simpa using (ih k).2.2 j (by simpa using e)⟩
  | .f m0 :: r, .l xs :: ds, vs, ts, vals, h, hg => by
    obtain ⟨a, us, t, tr, rfl, rfl, ha, z, rr, ht⟩ := h
    have hg : (gather r ds env).map (Val.ml xs :: ·) = some vals := hg
    obtain ⟨vals', hg', rfl⟩ := Option.map_eq_some_iff.mp hg
    obtain ⟨l1, l2, l3, ih⟩ := AR.vals ht hg'
    refine ⟨by simp [l1], by simp [l2], by simp [l3], fun k => ?_⟩
    cases k with
    | zero => exact ⟨fun m e => by simp at e, fun j e => by simp at e, fun j e => ⟨xs, a, us, rfl, rfl, ha, z, rr, rfl⟩⟩
    | succ k => exact ⟨fun m e => by simpa using (ih k).1 m (by simpa using e), fun j e => by simpa using (ih k).2.1 j (by simpa using e), fun j e => by simpa using (ih k).2.2 j (by simpa using e)⟩
  | .r j0 :: r, .s :: ds, vs, ts, vals, h, hg => by
    obtain ⟨v, t, tr, rfl, rfl, hv, ht⟩ := h
    have go : ∀ (w : Val) (vals' : List Val), env[j0]? = some (some w) → (∀ e, w ≠ .x e) → gather r ds env = some vals' → ValsOk g L H σ env (Arg.r j0 :: r) (w :: vals') (v :: t) (none :: tr) := fun w vals' hq hx hg' => by
      obtain ⟨l1, l2, l3, ih⟩ := AR.vals ht hg'
      refine ⟨by simp [l1], by simp [l2], by simp [l3], fun k => ?_⟩
      cases k with
      | zero => exact ⟨fun m e => by simp at e, fun j e => by
          have ej : j0 = j := by simpa using e
          subst ej
          exact ⟨w, v, rfl, hq, hx, rfl, hv, rfl⟩, fun j e => by simp at e⟩
      | succ k => exact ⟨fun m e => by simpa using (ih k).1 m (by simpa using e), fun j e => by simpa using (ih k).2.1 j (by simpa using e), fun j e => by simpa using (ih k).2.2 j (by simpa using e)⟩
    unfold gather at hg
    split at hg
    · rename_i d hq
      obtain ⟨vals', hg', rfl⟩ := Option.map_eq_some_iff.mp hg
      exact go _ _ hq (fun e z => by cases z) hg'
    · rename_i d hq
      obtain ⟨vals', hg', rfl⟩ := Option.map_eq_some_iff.mp hg
      exact go _ _ hq (fun e z => by cases z) hg'
    · cases hg
  | [], _ :: _, _, _, _, h, _ => h.elim
  | .e _ :: _, [], _, _, _, h, _ => h.elim
  | .e _ :: _, .s :: _, _, _, _, h, _ => h.elim
  | .e _ :: _, .l _ :: _, _, _, _, h, _ => h.elim
  | .r _ :: _, [], _, _, _, h, _ => h.elim
  | .r _ :: _, .v _ :: _, _, _, _, h, _ => h.elim
  | .r _ :: _, .l _ :: _, _, _, _, h, _ => h.elim
  | .f _ :: _, [], _, _, _, h, _ => h.elim
  | .f _ :: _, .v _ :: _, _, _, _, h, _ => h.elim
  | .f _ :: _, .s :: _, _, _, _, h, _ => h.elim
theorem back_len : ∀ (args : List Arg) (outs : List Val) (env : Env), (back args outs env).length = env.length
  | [], _, _ => rfl
  | .e _ :: _, [], _ => rfl
  | .r _ :: _, [], _ => rfl
  | .f _ :: _, [], _ => rfl
  | .e _ :: r, _ :: vs, env => back_len r vs env
  | .f _ :: r, _ :: vs, env => back_len r vs env
  | .r j :: r, v :: vs, env => by
    show (back r vs (env.set j (some v))).length = _
    rw [back_len r vs, List.length_set]
theorem back_ne {j : Nat} : ∀ (args : List Arg) (outs : List Val) (env : Env), (∀ k : Nat, args[k]? ≠ some (Arg.r j)) → (back args outs env)[j]? = env[j]?
  | [], _, _, _ => rfl
  | .e _ :: _, [], _, _ => rfl
  | .r _ :: _, [], _, _ => rfl
  | .f _ :: _, [], _, _ => rfl
  | .e _ :: r, _ :: vs, env, h => back_ne r vs env fun k => by simpa using h (k + 1)
  | .f _ :: r, _ :: vs, env, h => back_ne r vs env fun k => by simpa using h (k + 1)
  | .r i :: r, v :: vs, env, h => by
    show (back r vs (env.set i (some v)))[j]? = _
    rw [back_ne r vs _ fun k => by simpa using h (k + 1)]
    have : i ≠ j := fun e => h 0 (by simp [e])
    rw [List.getElem?_set_ne this]
def OneRaw (args : List Arg) : Prop := ∀ (k k' : Nat) (j : Nat), args[k]? = some (.r j) → args[k']? = some (.r j) → k = k'
theorem OneRaw.tail {a : Arg} {args : List Arg} (h : OneRaw (a :: args)) : OneRaw args := fun k k' j e e' => by
  have := h (k + 1) (k' + 1) j (by simpa using e) (by simpa using e')
  omega
theorem back_at {j k : Nat} {w : Val} : ∀ (args : List Arg) (outs : List Val) (env : Env), OneRaw args → args[k]? = some (.r j) → outs[k]? = some w → j < env.length → (back args outs env)[j]? = some (some w) := by
  intro args
  induction args generalizing k with
  | nil => intro _ _ _ h; simp at h
  | cons a args ih =>
    intro outs env one h ho hj
    cases outs with
    | nil => simp at ho
    | cons o outs =>
      cases k with
      | zero =>
        have ea : a = .r j := by simpa using h
        subst ea
        have eo : o = w := by simpa using ho
        subst eo
        show (back args outs (env.set j (some o)))[j]? = _
        rw [back_ne args outs _ fun k e => by
          have := one 0 (k + 1) j (by simp) (by simpa using e)
          omega]
        rw [List.getElem?_set_self hj]
      | succ k =>
        cases a with
        | e m => exact ih outs env one.tail (by simpa using h) (by simpa using ho) hj
        | f m => exact ih outs env one.tail (by simpa using h) (by simpa using ho) hj
        | r i => exact ih outs (env.set i (some o)) one.tail (by simpa using h) (by simpa using ho) (by simpa using hj)
/-- the callee's own addresses, the caller's forbidden ones -/
def ownA (args : List Arg) (ts : List (Option Addr)) (O : Own) : Own := fun k => match args[k]? with
  | some (.r j) => O j
  | some (.f _) => (ts[k]?).getD none
  | _ => none
def forbA (args : List Arg) (L0 : Addr → Prop) (O : Own) : Addr → Prop := fun a => LL L0 O a ∧ ∀ (k j : Nat), args[k]? = some (.r j) → O j ≠ some a
open Classical in
/-- the caller's addresses behind the call -/
noncomputable def ownB (args : List Arg) (O A' : Own) : Own := fun j => if h : ∃ k : Nat, args[k]? = some (Arg.r j) then A' h.choose else O j
/-- an argument that the callee may change -/
def rawA (args : List Arg) (k : Nat) : Prop := (∃ j, args[k]? = some (.r j)) ∨ ∃ m, args[k]? = some (.f m)
section
variable {g : G} {rf rfc : Nat → Bool} {dm L0 : Addr → Prop} {xs : XTab} {O0 O A' : Own} {H0 H H' : Hp} {σ : L2.St} {env : Env} {args : List Arg} {ds : List AV} {vs : List V} {ts : List (Option Addr)} {vals outs : List Val}
theorem ownA_r {k j : Nat} (h : args[k]? = some (.r j)) : ownA args ts O k = O j := by unfold ownA; rw [h]
theorem ownA_some {k : Nat} {a : Addr} (h : ownA args ts O k = some a) : (∃ j, args[k]? = some (.r j) ∧ O j = some a) ∨ ((∃ m, args[k]? = some (.f m)) ∧ ts[k]? = some (some a)) := by
  unfold ownA at h
  split at h
  · rename_i j e; exact .inl ⟨j, e, h⟩
  · rename_i m e
    refine .inr ⟨⟨m, e⟩, ?_⟩
    cases q : ts[k]? with
    | none => rw [q] at h; cases h
    | some o => rw [q] at h; exact congrArg some h
  · cases h
theorem ownB_r {k j : Nat} (one : OneRaw args) (h : args[k]? = some (.r j)) : ownB args O A' j = A' k := by
  unfold ownB
  have hx : ∃ k : Nat, args[k]? = some (Arg.r j) := ⟨k, h⟩
  rw [dif_pos hx]
  rw [one _ _ j hx.choose_spec h]
theorem ownB_n {j : Nat} (h : ∀ k : Nat, args[k]? ≠ some (Arg.r j)) : ownB args O A' j = O j := dif_neg fun ⟨k, e⟩ => h k e
theorem forb_sub {a : Addr} (h : LL (forbA args L0 O) (ownA args ts O) a) : LL (LT L0 ts) O a := by
  rcases h with h | ⟨k, h⟩
  · exact h.1.elim (fun h => .inl (.inl h)) .inr
  · rcases ownA_some h with ⟨j, _, e⟩ | ⟨_, e⟩
    · exact .inr ⟨j, e⟩
    · exact .inl (.inr (List.mem_of_getElem? e))
theorem callee_frame (F : FRel g rf dm (LT L0 ts) xs O H σ env) (nT : ∀ b, some b ∈ ts → ¬ L0 b) (nw : ∀ (i j : Nat) (b : Addr), ts[i]? = some (some b) → ts[j]? = some (some b) → i = j) (one : OneRaw args) (hr : ∀ k, rawA args k → rfc k = true) (h : AR g (LL (LT L0 ts) O) H σ args ds vs ts) (hg : gather args ds env = some vals) :
    FRel g rfc (domH H) (forbA args L0 O) noX (ownA args ts O) H (vs.map some) (vals.map some) := by
  obtain ⟨l1, l2, l3, hk⟩ := AR.vals h hg
  have less : XT (LL (LT L0 ts) O) H (LL (forbA args L0 O) (ownA args ts O)) H := XT.less fun a z => forb_sub z
  have F0 : FRel g rf dm L0 xs O H σ env := F.less fun a z => .inl z
  refine ⟨by rw [List.length_map, List.length_map, l1, l2], fun k => ?_, fun i j a hi hj => ?_, fun k a hk' q => ?_, fun a z => F0.trk a z.1, fun a z => z, fun k a hf ho => ?_⟩
  · cases e : args[k]? with
    | none =>
      have hlen : args.length ≤ k := by simpa using e
      have n1 : (vals.map some)[k]? = none := by simp [l1, hlen]
      rw [n1]
      show ownA args ts O k = none
      unfold ownA
      rw [e]
    | some a =>
      cases a with
      | e m =>
        obtain ⟨d, v, h1, h2, r, _⟩ := (hk k).1 m e
        rw [List.getElem?_map, List.getElem?_map, h1, h2]
        refine ⟨?_, v, rfl, Rep.mono less d v r⟩
        unfold ownA
        rw [e]
      | f m =>
        obtain ⟨zs, a, us, h1, h2, ha, z, rr, ht⟩ := (hk k).2.2 m e
        rw [List.getElem?_map, List.getElem?_map, h1, h2]
        refine ⟨a, us, ?_, rfl, ha, z, Reps.mono less zs us rr⟩
        unfold ownA
        rw [e, ht]; rfl
      | r j =>
        obtain ⟨w, v, h1, h2, hx, h3, h4, _⟩ := (hk k).2.1 j e
        rw [List.getElem?_map, List.getElem?_map, h1, h3, ownA_r e]
        have s := F.sl j
        rw [h2, h4] at s
        cases w with
        | p d =>
          obtain ⟨e0, v', ev, r⟩ := s
          cases ev
          exact ⟨e0, v, rfl, Rep.mono less d v r⟩
        | ml ds =>
          obtain ⟨a, us, e0, ev, ha, z, r⟩ := s
          cases ev
          exact ⟨a, us, e0, rfl, ha, z, Reps.mono less ds us r⟩
        | x e => exact absurd rfl (hx e)
  · rcases ownA_some hi with ⟨j1, e1, o1⟩ | ⟨⟨m1, e1⟩, o1⟩
    · rcases ownA_some hj with ⟨j2, e2, o2⟩ | ⟨⟨m2, e2⟩, o2⟩
      · have := F.inj j1 j2 a o1 o2
        subst this
        exact one i j j1 e1 e2
      · exact absurd (.inr (List.mem_of_getElem? o2)) (F.dis j1 a o1)
    · rcases ownA_some hj with ⟨j2, e2, o2⟩ | ⟨⟨m2, e2⟩, o2⟩
      · exact absurd (.inr (List.mem_of_getElem? o1)) (F.dis j2 a o2)
      · exact nw i j a o1 o2
  · rcases ownA_some hk' with ⟨j, e, o⟩ | ⟨_, e⟩
    · exact q.2 k j e o
    · have m := List.mem_of_getElem? e
      rcases q.1 with z | ⟨i, z⟩
      · exact nT a m z
      · exact F.dis i a z (.inr m)
  · rcases ownA_some ho with ⟨j, e, o⟩ | ⟨⟨m, e⟩, _⟩
    · rw [hr k (.inl ⟨j, e⟩)] at hf
      cases hf
    · rw [hr k (.inr ⟨m, e⟩)] at hf
      cases hf
/-- behind the call, told of the start ahead of the arguments -/
theorem caller_frame (x0 : Ext rf σ O0 H0 σ O H) (F : FRel g rf dm (LT L0 ts) xs O H σ env) (nT : ∀ b, some b ∈ ts → H0 b = none) (one : OneRaw args) (h : AR g (LL (LT L0 ts) O) H σ args ds vs ts) (hg : gather args ds env = some vals)
    (x : Ext (fun _ => true) [] (ownA args ts O) H [] A' H') {Y : Addr → Prop} (hY : ∀ a, Y a → H a = none) (F' : FRel g rfc (domH H) (fun a => forbA args L0 O a ∨ Y a) noX A' H' (vs.map some) (outs.map some)) (nT0 : ∀ b, some b ∈ ts → ¬ L0 b) :
    Ext rf σ O0 H0 σ (ownB args O A') H' ∧ FRel g rf dm (fun a => L0 a ∨ Y a) xs (ownB args O A') H' σ (back args outs env) ∧ (∀ a, LL (fun a => L0 a ∨ Y a) (ownB args O A') a → LL (fun a => forbA args L0 O a ∨ Y a) A' a) := by
  obtain ⟨l1, l2, l3, hk⟩ := AR.vals h hg
  have F0 : FRel g rf dm L0 xs O H σ env := F.less fun a z => .inl z
  have sub : ∀ j, ownB args O A' j = none ∨ ownB args O A' j = O j := fun j => by
    by_cases hx : ∃ k : Nat, args[k]? = some (Arg.r j)
    · obtain ⟨k, e⟩ := hx
      rw [ownB_r one e]
      rcases (x.stab k rfl).2 with z | z
      · exact .inl z
      · exact .inr (by rw [z, ownA_r e])
    · exact .inr (ownB_n fun k e => hx ⟨k, e⟩)
  have subO : ∀ j a, ownB args O A' j = some a → O j = some a := fun j a e => by
    rcases sub j with z | z
    · rw [z] at e; cases e
    · rw [← z]; exact e
  have keep : ∀ a o, H a = some o → some a ∉ ts → (∀ (k j : Nat), args[k]? = some (Arg.r j) → O j ≠ some a) → H' a = some o := fun a o e nt n => (x.keep a o e fun k z => by
    rcases ownA_some z with ⟨j, e1, e2⟩ | ⟨_, e2⟩
    · exact n k j e1 e2
    · exact nt (List.mem_of_getElem? e2)).1
  have forb : ∀ a, LL (fun a => L0 a ∨ Y a) (ownB args O A') a → LL (fun a => forbA args L0 O a ∨ Y a) A' a := fun a z => by
    rcases z with (z | z) | ⟨j, e⟩
    · exact .inl (.inl ⟨.inl z, fun k j e o => F0.dis j a o z⟩)
    · exact .inl (.inr z)
    · by_cases hx : ∃ k : Nat, args[k]? = some (Arg.r j)
      · obtain ⟨k, e1⟩ := hx
        rw [ownB_r one e1] at e
        exact .inr ⟨k, e⟩
      · have e1 := e
        rw [ownB_n fun k e => hx ⟨k, e⟩] at e1
        refine .inl (.inl ⟨.inr ⟨j, e1⟩, fun k j' e2 o => ?_⟩)
        have := F.inj j j' a e1 o
        subst this
        exact hx ⟨k, e2⟩
  have notT : ∀ j a, O j = some a → some a ∉ ts := fun j a e m => F.dis j a e (.inr m)
  have ext : Ext rf σ O0 H0 σ (ownB args O A') H' := ⟨fun a o e n => by
      obtain ⟨e1, n1⟩ := x0.keep a o e n
      exact ⟨keep a o e1 (fun m => by rw [nT a m] at e; cases e) fun k j _ z => n1 j z, fun j z => n1 j (subO j a z)⟩, fun j hj => ⟨rfl, by
      rcases sub j with z | z
      · exact .inl z
      · rw [z]; exact (x0.stab j hj).2⟩, fun a o e => by
      obtain ⟨o1, e1⟩ := x0.old a o e
      exact x.old a o1 e1⟩
  refine ⟨ext, ⟨by rw [back_len]; exact F.len, fun j => ?_, fun i j a hi hj => F.inj i j a (subO i a hi) (subO j a hj), fun j a e z => z.elim (F0.dis j a (subO j a e)) fun z => ?_, fun a z => ?_, fun a z => ?_, fun j a hf e => F.own j a hf (subO j a e)⟩, forb⟩
  · by_cases hx : ∃ k : Nat, args[k]? = some (Arg.r j)
    · obtain ⟨k, e⟩ := hx
      obtain ⟨w, v, h1, h2, hx, h3, h4, _⟩ := (hk k).2.1 j e
      have hj : j < env.length := (List.getElem?_eq_some_iff.mp h2).1
      have lo : outs.length = vs.length := by simpa using F'.len
      have hkv : k < vs.length := (List.getElem?_eq_some_iff.mp h3).1
      have ho : outs[k]? = some outs[k] := List.getElem?_eq_getElem (by omega)
      rw [back_at args outs env one e ho hj, ownB_r one e, h4]
      have s := F'.sl k
      rw [List.getElem?_map, List.getElem?_map, h3, ho] at s
      have less : XT (LL (fun a => forbA args L0 O a ∨ Y a) A') H' (LL (fun a => L0 a ∨ Y a) (ownB args O A')) H' := XT.less forb
      generalize outs[k] = w' at s
      cases w' with
      | p d =>
        obtain ⟨e0, v', ev, r⟩ := s
        exact ⟨e0, v', ev, Rep.mono less d v' r⟩
      | ml ds =>
        obtain ⟨a, us, e0, ev, ha, z, r⟩ := s
        exact ⟨a, us, e0, ev, ha, z, Reps.mono less ds us r⟩
      | x e =>
        obtain ⟨e0, a, dd, vfs, us, ev, hh, _⟩ := s
        cases hh
    · have hn : ∀ k : Nat, args[k]? ≠ some (Arg.r j) := fun k e => hx ⟨k, e⟩
      rw [back_ne args outs env hn, ownB_n hn]
      have xt : XT (LL (LT L0 ts) O) H (LL (fun a => L0 a ∨ Y a) (ownB args O A')) H' := fun b u e n => by
        have nt : some b ∉ ts := fun m => n (.inl (.inr m))
        have nO : ∀ i, O i ≠ some b := fun i q => n (.inr ⟨i, q⟩)
        refine ⟨keep b u e nt fun k j _ z => nO j z, fun z => ?_⟩
        rcases z with (z | z) | ⟨i, z⟩
        · exact n (.inl (.inl z))
        · rw [hY b z] at e; cases e
        · exact nO i (subO i b z)
      refine SR.mono xt (fun a u e ha => ?_) (F.sl j)
      refine keep a u ha (notT j a e) fun k j' e1 o => ?_
      have := F.inj j j' a e o
      subst this
      exact hn k e1
  · obtain ⟨o, e⟩ := F0.trk a (.inr ⟨j, subO j a e⟩)
    rw [hY a z] at e; cases e
  · rcases z with z | z
    · obtain ⟨o, e⟩ := F0.lok a z
      exact ⟨o, keep a o e (fun m => nT0 a m z) fun k j _ q => F0.dis j a q z⟩
    · exact F'.lok a (.inr z)
  · obtain ⟨o, e⟩ := F.dom a z
    exact x.old a o e
end
section
variable {X : Cx} {C : Cy} {k n : Nat} {f : Addr} {fd : FuncData} {ps : List Str} {x : Str} {p pos : Pos} {e : Expr} {es : List Expr} {args : List Arg} {F : Fn} {rfc : Nat → Bool} {fresh : Bool}
theorem no_more {L : Addr → Prop} : (fun a => L a ∨ False) = L := funext fun a => propext ⟨fun h => h.elim id False.elim, .inl⟩
theorem call_ex {L0 : Addr → Prop} {O0 O A' : Own} {H0 H H' : Hp} {σ : L2.St} {env : Env} {ds : List AV} {vs : List V} {ts : List (Option Addr)} {vals outs : List Val} (one : OneRaw args) (x0 : Ext C.rf σ O0 H0 σ O H) (F0 : C.F (LT L0 ts) O H σ env) (nT : ∀ b, some b ∈ ts → H0 b = none) (nT0 : ∀ b, some b ∈ ts → ¬ L0 b) (ar : AR C.g (LL (LT L0 ts) O) H σ args ds vs ts) (hg : gather args ds env = some vals)
    (x' : Ext (fun _ => true) [] (ownA args ts O) H [] A' H') (F' : FRel C.g rfc (domH H) (forbA args L0 O) noX A' H' (vs.map some) (outs.map some)) :
    Ext C.rf σ O0 H0 σ (ownB args O A') H' ∧ C.F L0 (ownB args O A') H' σ (back args outs env) ∧ (∀ a, LL L0 (ownB args O A') a → LL (forbA args L0 O) A' a) := by
  have F2 : FRel C.g rfc (domH H) (fun a => forbA args L0 O a ∨ False) noX A' H' (vs.map some) (outs.map some) := by rw [no_more]; exact F'
  have h := caller_frame x0 F0 nT one ar hg x' (Y := fun _ => False) (fun a z => z.elim) F2 nT0
  rw [no_more, no_more] at h
  exact h
/-- the promise asked at a call whose end is not a new list -/
theorem call_end {L0 : Addr → Prop} {O0 O : Own} {H0 H : Hp} {σ : L2.St} {env : Env} {ds : List AV} {vs : List V} {ts : List (Option Addr)} {Q : VK} (one : OneRaw args) (hr : ∀ k, rawA args k → rfc k = true) (hn : args.length = n) (x0 : Ext C.rf σ O0 H0 σ O H) (nw : Nw H0 ts) (nT0 : ∀ b, some b ∈ ts → ¬ L0 b)
    (F0 : C.F (LT L0 ts) O H σ env) (ar : AR C.g (LL (LT L0 ts) O) H σ args ds vs ts) (hp : Post C L0 O0 H0 σ (after F args some (gather args ds env) env) fun d _ O' H' => ∀ v, Rep C.g (LL L0 O') H' d v → Q v H') :
    spF C.g n rfc fresh F vs H Q (fun cls d H' => C.W cls d σ H') := by
  cases hg : gather args ds env with
  | none => rw [hg] at hp; exact hp.elim
  | some vals =>
    rw [hg] at hp
    unfold after at hp
    dsimp only at hp
    have cf := callee_frame F0 nT0 nw.2 one hr ar hg
    obtain ⟨l1, l2, l3, hk⟩ := AR.vals ar hg
    refine ⟨forbA args L0 O, ownA args ts O, vals, by rw [l2, hn], cf, ?_⟩
    cases hF : F vals with
    | bad => rw [hF] at hp; exact hp.elim
    | ex y outs =>
      rw [hF] at hp
      intro cls dd A' H' x' F' xr
      obtain ⟨ext, F2, sub⟩ := call_ex one x0 F0 nw.1 nT0 ar hg x' F'
      refine hp cls dd _ H' ext F2 ?_
      obtain ⟨e1, dd', vfs, us, e2, h1, nl, fo, r⟩ := xr
      exact ⟨e1, dd', vfs, us, e2, h1, fun z => nl (sub _ z), fo, Reps.mono (XT.less sub) _ _ r⟩
    | ok d outs =>
      rw [hF] at hp
      dsimp only at hp
      have nrm : ∀ v A' H', Ext (fun _ => true) [] (ownA args ts O) H [] A' H' → FRel C.g rfc (domH H) (forbA args L0 O) noX A' H' (vs.map some) (outs.map some) → Rep C.g (LL (forbA args L0 O) A') H' d v → Q v H' := fun v A' H' x' F' res => by
        obtain ⟨ext, F2, sub⟩ := call_ex one x0 F0 nw.1 nT0 ar hg x' F'
        exact hp _ H' ext F2 v (Rep.mono (XT.less sub) d v res)
      show retOk C.g rfc fresh (forbA args L0 O) (ownA args ts O) H vs outs d Q
      cases fresh with
      | false => exact nrm
      | true =>
        cases d with
        | lst xs =>
          intro a us A' H' x' FA h0 h1 z r
          have F' := FA.less (L0 := forbA args L0 O) fun b z => .inl z
          have n : ¬ LL (forbA args L0 O) A' a := fun q => q.elim (fun q => (cf.fresh h0).1 (.inl q)) fun ⟨i, e⟩ => FA.dis i a e (.inr rfl)
          exact nrm (.ref a) A' H' x' F' ⟨a, us, rfl, ⟨⟨.inl h1, n⟩, z⟩, Reps.mono (XT.less fun b q => LA.ll q) xs us r⟩
        | _ => exact nrm
/-- .. whose end is a new list -/
theorem call_endF {L0 : Addr → Prop} {O0 O : Own} {H0 H : Hp} {σ : L2.St} {env : Env} {ds : List AV} {vs : List V} {ts : List (Option Addr)} {Q : VK} (one : OneRaw args) (hr : ∀ k, rawA args k → rfc k = true) (hn : args.length = n) (x0 : Ext C.rf σ O0 H0 σ O H) (nw : Nw H0 ts) (nT0 : ∀ b, some b ∈ ts → ¬ L0 b)
    (F0 : C.F (LT L0 ts) O H σ env) (ar : AR C.g (LL (LT L0 ts) O) H σ args ds vs ts)
    (hp : Post C L0 O0 H0 σ (after F args lstD (gather args ds env) env) fun ds e O' H' => ∀ a vs, H0 a = none → H' a = some (.lst vs) → C.F (LA L0 a) O' H' σ e → vs.length ≤ sizeLine → Reps C.g (LL (LA L0 a) O') H' ds vs → Q (.ref a) H') :
    spF C.g n rfc true F vs H Q (fun cls d H' => C.W cls d σ H') := by
  cases hg : gather args ds env with
  | none => rw [hg] at hp; exact hp.elim
  | some vals =>
    rw [hg] at hp
    unfold after at hp
    dsimp only at hp
    have cf := callee_frame F0 nT0 nw.2 one hr ar hg
    obtain ⟨l1, l2, l3, hk⟩ := AR.vals ar hg
    refine ⟨forbA args L0 O, ownA args ts O, vals, by rw [l2, hn], cf, ?_⟩
    cases hF : F vals with
    | bad => rw [hF] at hp; exact hp.elim
    | ex y outs =>
      rw [hF] at hp
      intro cls dd A' H' x' F' xr
      obtain ⟨ext, F2, sub⟩ := call_ex one x0 F0 nw.1 nT0 ar hg x' F'
      refine hp cls dd _ H' ext F2 ?_
      obtain ⟨e1, dd', vfs, us, e2, h1, nl, fo, r⟩ := xr
      exact ⟨e1, dd', vfs, us, e2, h1, fun z => nl (sub _ z), fo, Reps.mono (XT.less sub) _ _ r⟩
    | ok d outs =>
      rw [hF] at hp
      dsimp only at hp
      show retOk C.g rfc true (forbA args L0 O) (ownA args ts O) H vs outs d Q
      cases d with
      | lst xs =>
        intro a us A' H' x' FA h0 h1 z r
        have F' := FA.less (L0 := forbA args L0 O) fun b z => .inl z
        obtain ⟨ext, F2, _⟩ := call_ex one x0 F0 nw.1 nT0 ar hg x' F'
        obtain ⟨_, F3, sub⟩ := caller_frame x0 F0 nw.1 one ar hg x' (Y := fun b => b = a) (fun b z => by rw [z]; exact h0) FA nT0
        exact hp _ H' ext F2 a us (x0.none h0) h1 F3 z (Reps.mono (XT.less sub) xs us r)
      | _ => exact hp.elim
theorem temps_new {L0 : Addr → Prop} {O : Own} {H : Hp} {σ : L2.St} {env : Env} {ts : List (Option Addr)} (F : C.F L0 O H σ env) (nw : Nw H ts) : ∀ b, some b ∈ ts → ¬ L0 b := fun b hb z => by
  obtain ⟨o, e⟩ := FRel.lok F b z
  rw [nw.1 b hb] at e; cases e
theorem pd_call (G : FnOk X.prog X.w X.K X.mg X.base (L2.CX X.prog X.w) k f fd ps (spF C.g n rfc fresh F)) (hr : Room k X.A) (hg : Gl X x) (hm : X.mg x = some (.ref f)) (hk : PySem.W.keepIn X.K (.ref f) = true) (hb : Binds X.K fd ps []) (tk : Takes X C.W)
    (hd : (x == ("__debug__" : Str)) = false) (hs : (e :: es).all notStar = true) (one : OneRaw args) (hrf : ∀ k, rawA args k → rfc k = true) (hn : args.length = n) (ha : PA X (e :: es) (EvAr C args)) :
    PE X (.Call (.Name x p) (e :: es) [] pos) (EvE C (mCall F args)) := by
  have hs2 := hs
  rw [List.all_cons, Bool.and_eq_true] at hs2
  refine (pe_callS (E := fun σ cls d H => C.W cls d σ H) G hr hg hm hk hb (fun σ => passAt tk σ) ha hd (starEach_cons hs2.1) (plain_all hs2.2)).weak fun σ H Q ⟨L0, O, env, F0, h⟩ => ?_
  exact ⟨L0, O, env, F0, (Post.bind0 h).imp fun ds e1 O1 H1 x1 F1 h1 vs ts nw FT ar => call_end one hrf hn x1 nw (temps_new F0 nw) FT ar h1⟩
theorem pd_callF (G : FnOk X.prog X.w X.K X.mg X.base (L2.CX X.prog X.w) k f fd ps (spF C.g n rfc true F)) (hr : Room k X.A) (hg : Gl X x) (hm : X.mg x = some (.ref f)) (hk : PySem.W.keepIn X.K (.ref f) = true) (hb : Binds X.K fd ps []) (tk : Takes X C.W)
    (hd : (x == ("__debug__" : Str)) = false) (hs : (e :: es).all notStar = true) (one : OneRaw args) (hrf : ∀ k, rawA args k → rfc k = true) (hn : args.length = n) (ha : PA X (e :: es) (EvAr C args)) :
    PE X (.Call (.Name x p) (e :: es) [] pos) (EvF C (mCallF F args)) := by
  have hs2 := hs
  rw [List.all_cons, Bool.and_eq_true] at hs2
  refine (pe_callS (E := fun σ cls d H => C.W cls d σ H) G hr hg hm hk hb (fun σ => passAt tk σ) ha hd (starEach_cons hs2.1) (plain_all hs2.2)).weak fun σ H Q ⟨L0, O, env, F0, h⟩ => ?_
  exact ⟨L0, O, env, F0, (Post.bind0 h).imp fun ds e1 O1 H1 x1 F1 h1 vs ts nw FT ar => call_endF one hrf hn x1 nw (temps_new F0 nw) FT ar h1⟩
end
end MP

/-! MP, part F: statements, loops, comprehensions. -/
namespace MP
open L2 PyProof.Rows PySem PySem.Spec

/-- how a statement ends; rtf: a list just made comes back; rtx: the list that a slot owns -/
inductive Fl where
  | nx | rt (d : D) | rtf (xs : List D) | rtx (i : Nat) (xs : List D) | bk | ct
abbrev MS := Env → R Fl
def FlOk (C : Cy) (L0 : Addr → Prop) (O : Own) (H : Hp) (σ : L2.St) (e : Env) (D : Ends) : Fl → Prop
  | .nx => D.nx σ H
  | .bk => D.bk σ H
  | .ct => D.ct σ H
  | .rt d => ∀ v, Rep C.g (LL L0 O) H d v → D.rt v H
  | .rtf xs => ∀ a vs, ¬ C.dm a → H a = some (.lst vs) → C.F (LA L0 a) O H σ e → vs.length ≤ sizeLine → Reps C.g (LL (LA L0 a) O) H xs vs → D.rt (.ref a) H
  | .rtx i xs => ∀ a vs, C.rf i = false → O i = some a → H a = some (.lst vs) → vs.length ≤ sizeLine → Reps C.g (LL L0 O) H xs vs → D.rt (.ref a) H
def PostS (C : Cy) (L0 : Addr → Prop) (O : Own) (H : Hp) (σ : L2.St) (r : R Fl) (D : Ends) : Prop :=
  match r with
  | .ok fl e => ∀ σ' O' H', Ext C.rf σ O H σ' O' H' → C.F L0 O' H' σ' e → FlOk C L0 O' H' σ' e D fl
  | .ex x e => ∀ cls dd σ' O' H', Ext C.rf σ O H σ' O' H' → C.F L0 O' H' σ' e → XR C.g (LL L0 O') H' x cls dd → C.W cls dd σ' H'
  | .bad => False
def EvS (C : Cy) (m : MS) : TS := fun D σ H => ∃ L0 O env, C.F L0 O H σ env ∧ PostS C L0 O H σ (m env) D
theorem _root_.L2.PS.weak {X : Cx} {s : Stmt} {t t' : TS} (h : PS X s t) (k : ∀ D σ H, t' D σ H → t D σ H) : PS X s t' := ⟨fun pins s σ H D I q => h.run pins s σ H D I (k D σ H q)⟩
theorem _root_.L2.PSs.weak {X : Cx} {s : List Stmt} {t t' : TS} (h : PSs X s t) (k : ∀ D σ H, t' D σ H → t D σ H) : PSs X s t' := ⟨fun pins s σ H D I q => h.run pins s σ H D I (k D σ H q)⟩
section
variable {C : Cy} {L0 : Addr → Prop} {O O1 : Own} {H H1 : Hp} {σ σ1 : L2.St} {env : Env} {D : Ends}
theorem PostS.at {r : R Fl} (h : PostS C L0 O H σ r D) (x : Ext C.rf σ O H σ1 O1 H1) : PostS C L0 O1 H1 σ1 r D := by
  cases r with
  | ok a e => exact fun σ' O' H' y F => h σ' O' H' (x.trans y) F
  | ex a e => exact fun c d σ' O' H' y F k => h c d σ' O' H' (x.trans y) F k
  | bad => exact h
theorem PostS.here {fl : Fl} (h : PostS C L0 O H σ (.ok fl env) D) (F : C.F L0 O H σ env) : FlOk C L0 O H σ env D fl := h σ O H Ext.refl F
/-- an expression, then a statement -/
def sE {α : Type} (m : M α) (f : α → MS) : MS := fun e => match m e with
  | .ok a e' => f a e'
  | .ex x e' => .ex x e'
  | .bad => .bad
theorem PostS.bindE {α : Type} {m : M α} {f : α → MS} (h : PostS C L0 O H σ (sE m f env) D) : Post C L0 O H σ (m env) fun a e O' H' => PostS C L0 O' H' σ (f a e) D := by
  unfold sE at h
  cases e : m env with
  | ok a e' => rw [e] at h; exact fun O' H' y F => PostS.at h y
  | ex a e' => rw [e] at h; exact fun c d O' H' y F k => h c d σ O' H' y F k
  | bad => rw [e] at h; exact h
end
def sNx : MS := fun e => .ok .nx e
def sSeq (a b : MS) : MS := fun e => match a e with
  | .ok .nx e' => b e'
  | .ok fl e' => .ok fl e'
  | .ex x e' => .ex x e'
  | .bad => .bad
def sIf (c : M Bool) (a b : MS) : MS := sE c fun t => if t then a else b
def sBk : MS := fun e => .ok .bk e
def sCt : MS := fun e => .ok .ct e
def sRet (m : M D) : MS := sE m fun d e => .ok (.rt d) e
def sRetN : MS := fun e => .ok (.rt .non) e
def sDrop (m : M D) : MS := sE m fun _ => sNx
section
variable {X : Cx} {C : Cy} {pos : Pos}
theorem qs_nil : PSs X [] (EvS C sNx) := pss_nil.weak fun D σ H ⟨L0, O, env, F, h⟩ => h.here F
theorem qs_one {s : Stmt} {m : MS} (h : PS X s (EvS C m)) : PSs X [s] (EvS C m) := pss_one h
theorem qs_cons {s : Stmt} {ss : List Stmt} {a b : MS} (h1 : PS X s (EvS C a)) (h2 : PSs X ss (EvS C b)) : PSs X (s :: ss) (EvS C (sSeq a b)) := (pss_cons h1 h2).weak fun D σ H ⟨L0, O, env, F, h⟩ => by
  refine ⟨L0, O, env, F, ?_⟩
  unfold sSeq at h
  cases e : a env with
  | ok fl e' =>
    rw [e] at h
    intro σ' O' H' x F'
    cases fl with
    | nx => exact ⟨L0, O', e', F', PostS.at h x⟩
    | rt d => exact h σ' O' H' x F'
    | rtf d => exact h σ' O' H' x F'
    | rtx i d => exact h σ' O' H' x F'
    | bk => exact h σ' O' H' x F'
    | ct => exact h σ' O' H' x F'
  | ex y e' => rw [e] at h; exact h
  | bad => rw [e] at h; exact h
theorem qs_pass : PS X (.Pass pos) (EvS C sNx) := ps_pass.weak fun D σ H ⟨L0, O, env, F, h⟩ => h.here F
theorem qs_doc {x j pos'} : PS X (.Expr (.Constant (.str x) j pos) pos') (EvS C sNx) := ps_doc.weak fun D σ H ⟨L0, O, env, F, h⟩ => h.here F
theorem qs_break : PS X (.Break pos) (EvS C sBk) := ps_break.weak fun D σ H ⟨L0, O, env, F, h⟩ => h.here F
theorem qs_continue : PS X (.Continue pos) (EvS C sCt) := ps_continue.weak fun D σ H ⟨L0, O, env, F, h⟩ => h.here F
theorem qs_if {c : Expr} {a b : List Stmt} {mc : M Bool} {ma mb : MS} (hc : L2.PT X c (EvT C mc)) (ha : PSs X a (EvS C ma)) (hb : PSs X b (EvS C mb)) : PS X (.If c a b pos) (EvS C (sIf mc ma mb)) := (ps_if hc ha hb).weak fun D σ H ⟨L0, O, env, F, h⟩ =>
  ⟨L0, O, env, F, (PostS.bindE h).imp fun t e1 O1 H1 x1 F1 h1 => by
    cases t with
    | true => exact ⟨L0, O1, e1, F1, h1⟩
    | false => exact ⟨L0, O1, e1, F1, h1⟩⟩
theorem qs_ret {e : Expr} {m : M D} (he : PE X e (EvE C m)) : PS X (.Return (some e) pos) (EvS C (sRet m)) := (ps_ret he).weak fun D σ H ⟨L0, O, env, F, h⟩ =>
  ⟨L0, O, env, F, (PostS.bindE h).imp fun d e1 O1 H1 x1 F1 h1 => h1.here F1⟩
theorem qs_retN : PS X (.Return none pos) (EvS C sRetN) := ps_retN.weak fun D σ H ⟨L0, O, env, F, h⟩ => h.here F .non rfl
def notComp : Expr → Bool
  | .ListComp .. => false
  | .SetComp .. => false
  | .DictComp .. => false
  | _ => true
theorem swaps_no {e : Expr} {t : Option Expr} {l : Nat} {env : PySem.Env} (h : notComp e = true) : swapsWith e t l env = pure false := by
  unfold swapsWith
  cases e <;> first | rfl | (simp [notComp] at h)
theorem qs_drop {e : Expr} {m : M D} (hc : notComp e = true) (he : PE X e (EvE C m)) : PS X (.Expr e pos) (EvS C (sDrop m)) := (ps_expr he (swaps_no hc)).weak fun D σ H ⟨L0, O, env, F, h⟩ =>
  ⟨L0, O, env, F, (PostS.bindE h).imp fun d e1 O1 H1 x1 F1 h1 v _ => h1.here F1⟩
end

/-! ### stores to a name -/
section
variable {g : G} {rf : Nat → Bool} {dm L0 : Addr → Prop} {xs : XTab} {O : Own} {H : Hp} {σ : L2.St} {env : Env}
theorem Ext.set {i : Nat} {v : Option V} (hi : rf i = false) : Ext rf σ O H (σ.set i v) (offO O i) H := ⟨fun a o h n => ⟨h, fun j e => n j (offO_some e).2⟩, fun j hj => by
  have ne : j ≠ i := fun e => by rw [e, hi] at hj; cases hj
  exact ⟨List.getElem?_set_ne (Ne.symm ne), .inr (offO_ne ne)⟩, fun a o h => ⟨o, h⟩⟩
theorem offO_less {i : Nat} {a : Addr} (h : LL L0 (offO O i) a) : LL L0 O a := h.elim .inl fun ⟨j, e⟩ => .inr ⟨j, (offO_some e).2⟩
theorem FRel.set {i : Nat} {d : D} {v : V} (F : FRel g rf dm L0 xs O H σ env) (r : Rep g (LL L0 O) H d v) : FRel g rf dm L0 xs (offO O i) H (σ.set i (some v)) (env.set i (some (.p d))) := by
  have less : XT (LL L0 O) H (LL L0 (offO O i)) H := XT.less fun a z => offO_less z
  refine ⟨by rw [List.length_set, List.length_set]; exact F.len, fun j => ?_, fun j k b p q => F.inj j k b (offO_some p).2 (offO_some q).2, fun j b p => F.dis j b (offO_some p).2, F.lok, F.dom, fun j b p q => F.own j b p (offO_some q).2⟩
  by_cases e : j = i
  · subst e
    rw [offO_same]
    by_cases hl : j < env.length
    · rw [List.getElem?_set_self hl, List.getElem?_set_self (by rw [← F.len]; exact hl)]
      exact ⟨rfl, v, rfl, Rep.mono less d v r⟩
    · rw [List.getElem?_eq_none (by simpa using hl)]
      rfl
  · rw [List.getElem?_set_ne (Ne.symm e), List.getElem?_set_ne (Ne.symm e), offO_ne e]
    exact SR.mono less (fun _ _ _ q => q) (F.sl j)
theorem FRel.setNone {i : Nat} (F : FRel g rf dm L0 xs O H σ env) : FRel g rf dm L0 xs (offO O i) H (σ.set i none) (env.set i none) := by
  have less : XT (LL L0 O) H (LL L0 (offO O i)) H := XT.less fun a z => offO_less z
  refine ⟨by rw [List.length_set, List.length_set]; exact F.len, fun j => ?_, fun j k b p q => F.inj j k b (offO_some p).2 (offO_some q).2, fun j b p => F.dis j b (offO_some p).2, F.lok, F.dom, fun j b p q => F.own j b p (offO_some q).2⟩
  by_cases e : j = i
  · subst e
    rw [offO_same]
    by_cases hl : j < env.length
    · rw [List.getElem?_set_self hl]
      rfl
    · rw [List.getElem?_eq_none (by simpa using hl)]
      rfl
  · rw [List.getElem?_set_ne (Ne.symm e), List.getElem?_set_ne (Ne.symm e), offO_ne e]
    exact SR.mono less (fun _ _ _ q => q) (F.sl j)
def onO (O : Own) (i : Nat) (a : Addr) : Own := fun j => if j = i then some a else O j
theorem onO_some {i j : Nat} {a b : Addr} (h : onO O i a j = some b) : (j = i ∧ b = a) ∨ (j ≠ i ∧ O j = some b) := by
  unfold onO at h
  by_cases e : j = i
  · rw [if_pos e] at h; cases h; exact .inl ⟨e, rfl⟩
  · rw [if_neg e] at h; exact .inr ⟨e, h⟩
/-- a new list comes to be a slot's own -/
theorem FRel.setF {i : Nat} {ds : List D} {a : Addr} {vs : List V} (F : FRel g rf dm (LA L0 a) xs O H σ env) (hi : i < env.length) (h : H a = some (.lst vs)) (n0 : ¬ L0 a) (nd : ¬ dm a) (z : vs.length ≤ sizeLine) (r : Reps g (LL (LA L0 a) O) H ds vs) :
    FRel g rf dm L0 xs (onO O i a) H (σ.set i (some (.ref a))) (env.set i (some (.ml ds))) := by
  have sub : ∀ b, LL L0 (onO O i a) b → LL (LA L0 a) O b := fun b q => by
    rcases q with q | ⟨j, e⟩
    · exact .inl (.inl q)
    · rcases onO_some e with ⟨_, e⟩ | ⟨_, e⟩
      · exact .inl (.inr e)
      · exact .inr ⟨j, e⟩
  have less : XT (LL (LA L0 a) O) H (LL L0 (onO O i a)) H := XT.less sub
  refine ⟨by rw [List.length_set, List.length_set]; exact F.len, fun j => ?_, fun j k b p q => ?_, fun j b p => ?_, fun b q => F.lok b (.inl q), F.dom, fun j b p q => ?_⟩
  · by_cases e : j = i
    · subst e
      rw [List.getElem?_set_self hi, List.getElem?_set_self (by rw [← F.len]; exact hi)]
      exact ⟨a, vs, if_pos rfl, rfl, h, z, Reps.mono less ds vs r⟩
    · rw [List.getElem?_set_ne (Ne.symm e), List.getElem?_set_ne (Ne.symm e)]
      have eo : onO O i a j = O j := if_neg e
      rw [eo]
      exact SR.mono less (fun _ _ _ q => q) (F.sl j)
  · rcases onO_some p with ⟨p1, p2⟩ | ⟨p1, p2⟩
    · rcases onO_some q with ⟨q1, q2⟩ | ⟨q1, q2⟩
      · rw [p1, q1]
      · exact absurd (.inr p2) (F.dis k b q2)
    · rcases onO_some q with ⟨q1, q2⟩ | ⟨q1, q2⟩
      · exact absurd (.inr q2) (F.dis j b p2)
      · exact F.inj j k b p2 q2
  · rcases onO_some p with ⟨_, p2⟩ | ⟨_, p2⟩
    · rw [p2]; exact n0
    · exact fun z => F.dis j b p2 (.inl z)
  · rcases onO_some q with ⟨_, p2⟩ | ⟨_, p2⟩
    · rw [p2]; exact nd
    · exact F.own j b p p2
end
def sSet (i : Nat) (m : M D) : MS := sE m fun d e => .ok .nx (e.set i (some (.p d)))
def sSetF (i : Nat) (m : M (List D)) : MS := sE m fun ds e => if i < e.length then .ok .nx (e.set i (some (.ml ds))) else .bad
section
variable {X : Cx} {C : Cy} {pos : Pos}
theorem qs_set {i : Nat} {x : Str} {e : Expr} {m : M D} {pos' : Pos} (hN : X.N.Nodup) (hi : X.N[i]? = some x) (hx : Loc X.env.scope x) (hc : notComp e = true) (hf : X.fn x = true ∨ X.env.scope.names.lookup x = some .local) (hr : C.rf i = false) (he : PE X e (EvE C m)) :
    PS X (.Assign [.Name x pos'] e pos) (EvS C (sSet i m)) := (ps_set hN hi hx he (swaps_no hc) hf).weak fun D σ H ⟨L0, O, env, F, h⟩ =>
  ⟨L0, O, env, F, (PostS.bindE h).imp fun d e1 O1 H1 x1 F1 h1 v rv => h1 _ _ _ (Ext.set hr) (F1.set rv)⟩
theorem setF_end {i : Nat} {L0 : Addr → Prop} {O O1 : Own} {H H1 : Hp} {σ : L2.St} {env e1 : Env} {En : Ends} {ds : List D} {a : Addr} {vs : List V} (hr : C.rf i = false) (F : C.F L0 O H σ env) (x1 : Ext C.rf σ O H σ O1 H1) (F1 : C.F L0 O1 H1 σ e1)
    (h1 : PostS C L0 O H σ (if i < e1.length then .ok .nx (e1.set i (some (.ml ds))) else .bad) En) (h0 : H a = none) (ha : H1 a = some (.lst vs)) (FA : C.F (LA L0 a) O1 H1 σ e1) (z : vs.length ≤ sizeLine) (r : Reps C.g (LL (LA L0 a) O1) H1 ds vs) : En.nx (σ.set i (some (.ref a))) H1 := by
  by_cases hi : i < e1.length
  · rw [if_pos hi] at h1
    have n := F.fresh h0
    have F2 := FA.setF hi ha (fun q => n.1 (.inl q)) n.2 z r
    refine h1 _ _ _ ⟨fun b o e nb => ?_, fun j hj => ?_, fun b o e => x1.old b o e⟩ F2
    · obtain ⟨e2, n2⟩ := x1.keep b o e nb
      refine ⟨e2, fun j q => ?_⟩
      rcases onO_some q with ⟨_, q⟩ | ⟨_, q⟩
      · rw [q, h0] at e; cases e
      · exact n2 j q
    · have ne : j ≠ i := fun e => by rw [e, hr] at hj; cases hj
      refine ⟨List.getElem?_set_ne (Ne.symm ne), ?_⟩
      have eo : onO O1 i a j = O1 j := if_neg ne
      rw [eo]
      exact (x1.stab j hj).2
  · rw [if_neg hi] at h1; exact h1.elim
/-- the end of an expression, told of its start (a new list is new to the start) -/
theorem PostS.bindF {L0 : Addr → Prop} {O : Own} {H : Hp} {σ : L2.St} {env : Env} {D : Ends} {α : Type} {m : M α} {f : α → MS} (h : PostS C L0 O H σ (sE m f env) D) :
    Post C L0 O H σ (m env) fun a e O' H' => PostS C L0 O H σ (f a e) D := by
  unfold sE at h
  cases e : m env with
  | ok a e' => rw [e] at h; exact fun O' H' y F => h
  | ex a e' => rw [e] at h; exact fun c d O' H' y F k => h c d σ O' H' y F k
  | bad => rw [e] at h; exact h
theorem qs_setF {i : Nat} {x : Str} {e : Expr} {m : M (List D)} {pos' : Pos} (hN : X.N.Nodup) (hi : X.N[i]? = some x) (hx : Loc X.env.scope x) (hc : notComp e = true) (hf : X.fn x = true ∨ X.env.scope.names.lookup x = some .local) (hr : C.rf i = false) (he : PE X e (EvF C m)) :
    PS X (.Assign [.Name x pos'] e pos) (EvS C (sSetF i m)) := (ps_set hN hi hx he (swaps_no hc) hf).weak fun D σ H ⟨L0, O, env, F, h⟩ =>
  ⟨L0, O, env, F, (PostS.bindF h).imp fun ds e1 O1 H1 x1 F1 h1 a vs h0 ha FA z r => setF_end hr F x1 F1 h1 h0 ha FA z r⟩
end

/-! ### changes of a list that a slot owns -/
def ownD (i : Nat) (e : Env) : Option (List D) := match e[i]? with
  | some (some (.ml xs)) => some xs
  | _ => none
section
variable {g : G} {rf : Nat → Bool} {dm L0 : Addr → Prop} {xs : XTab} {O : Own} {H : Hp} {σ : L2.St} {env : Env}
theorem FRel.ownd {i : Nat} {ds : List D} (F : FRel g rf dm L0 xs O H σ env) (h : ownD i env = some ds) : ∃ a vs, O i = some a ∧ σ[i]? = some (some (.ref a)) ∧ H a = some (.lst vs) ∧ vs.length ≤ sizeLine ∧ Reps g (LL L0 O) H ds vs ∧ i < env.length := by
  unfold ownD at h
  split at h
  · rename_i ds' hq
    cases h
    have s := F.sl i
    rw [hq] at s
    obtain ⟨a, vs, e1, e2, h1, z, r⟩ := s
    exact ⟨a, vs, e1, e2, h1, z, r, (List.getElem?_eq_some_iff.mp hq).1⟩
  · cases h
/-- the owned list becomes another -/
theorem FRel.wr {i : Nat} {ds : List D} {a : Addr} {us : List V} (F : FRel g rf dm L0 xs O H σ env) (hO : O i = some a) (hi : i < env.length) (hσ : σ[i]? = some (some (.ref a))) (z : us.length ≤ sizeLine) (r : Reps g (LL L0 O) H ds us) :
    Ext rf σ O H σ O (upd H a (.lst us)) ∧ FRel g rf dm L0 xs O (upd H a (.lst us)) σ (env.set i (some (.ml ds))) := by
  have nL : LL L0 O a := .inr ⟨i, hO⟩
  have x : XT (LL L0 O) H (LL L0 O) (upd H a (.lst us)) := fun b o e n => by
    have ne : b ≠ a := fun q => n (by rw [q]; exact nL)
    exact ⟨by rw [upd_ne ne]; exact e, n⟩
  have ex : ∀ b o, H b = some o → ∃ o', upd H a (.lst us) b = some o' := fun b o e => by
    by_cases q : b = a
    · exact ⟨_, by rw [q]; exact upd_same⟩
    · exact ⟨o, by rw [upd_ne q]; exact e⟩
  refine ⟨⟨fun b o e n => ⟨by rw [upd_ne (fun q => n i (by rw [q]; exact hO))]; exact e, n⟩, fun j _ => ⟨rfl, .inr rfl⟩, ex⟩, ⟨by rw [List.length_set]; exact F.len, fun j => ?_, F.inj, F.dis, fun b q => let ⟨o, e⟩ := F.lok b q; ex b o e, fun b q => let ⟨o, e⟩ := F.dom b q; ex b o e, F.own⟩⟩
  · by_cases e : j = i
    · subst e
      rw [List.getElem?_set_self hi]
      exact ⟨a, us, hO, hσ, upd_same, z, Reps.mono x ds us r⟩
    · rw [List.getElem?_set_ne (Ne.symm e)]
      refine SR.mono x (fun b u ho hb => ?_) (F.sl j)
      have ne : b ≠ a := fun q => by rw [q] at ho; exact e (F.inj j i a ho hO)
      rw [upd_ne ne]; exact hb
end
/-- the slot's list, changed by f, which tells a value, too -/
def mOwn (i : Nat) (f : List D → Option (D × List D)) : M D := fun e => match ownD i e with
  | none => .bad
  | some xs => (match f xs with
    | none => .bad
    | some (d, ys) => .ok d (e.set i (some (.ml ys))))
def chkO (i : Nat) : M Unit := fun e => match e[i]? with
  | some (some (.ml _)) => .ok () e
  | _ => .bad
def mOwn1 (i : Nat) (f : D → List D → Option (D × List D)) (m : M D) : M D := do
  chkO i
  let x ← m
  mOwn i (f x)
/-- r changes a list as f tells -/
def OM0 (g : G) (r : V → List V → Hp → VK → Prop) (f : List D → Option (D × List D)) : Prop := ∀ (L : Addr → Prop) (H : Hp) (ds ys : List D) (d : D) (a : Addr) (vs : List V) (Q : VK), H a = some (.lst vs) → vs.length ≤ sizeLine → Reps g L H ds vs → f ds = some (d, ys) →
  (∀ v us, us.length ≤ sizeLine → Reps g L H ys us → Rep g L H d v → Q v (upd H a (.lst us))) → r (.ref a) [] H Q
def OM1 (g : G) (r : V → List V → Hp → VK → Prop) (f : D → List D → Option (D × List D)) : Prop := ∀ (L : Addr → Prop) (H : Hp) (ds ys : List D) (x d : D) (a : Addr) (vs : List V) (w : V) (Q : VK), H a = some (.lst vs) → vs.length ≤ sizeLine → Reps g L H ds vs → Rep g L H x w → f x ds = some (d, ys) →
  (∀ v us, us.length ≤ sizeLine → Reps g L H ys us → Rep g L H d v → Q v (upd H a (.lst us))) → r (.ref a) [w] H Q
section
variable {X : Cx} {C : Cy}
theorem own_end {i : Nat} {L0 : Addr → Prop} {O : Own} {H : Hp} {σ : L2.St} {env : Env} {f : List D → Option (D × List D)} {Q : VK} {P : Prop} {a : Addr} (F : C.F L0 O H σ env) (h : Post C L0 O H σ (mOwn i f env) fun d _ O' H' => ∀ v, Rep C.g (LL L0 O') H' d v → Q v H')
    (hσ : σ[i]? = some (some (.ref a))) (k : ∀ vs ds ys d, H a = some (.lst vs) → vs.length ≤ sizeLine → Reps C.g (LL L0 O) H ds vs → f ds = some (d, ys) → (∀ v us, us.length ≤ sizeLine → Reps C.g (LL L0 O) H ys us → Rep C.g (LL L0 O) H d v → Q v (upd H a (.lst us))) → P) : P := by
  unfold mOwn at h
  cases eo : ownD i env with
  | none => rw [eo] at h; exact h.elim
  | some xs =>
    rw [eo] at h
    obtain ⟨b, vs, hO, hσ', hb, z, r, hi⟩ := F.ownd eo
    rw [hσ] at hσ'
    cases hσ'
    dsimp only at h
    cases ef : f xs with
    | none => rw [ef] at h; exact h.elim
    | some p =>
      obtain ⟨d, ys⟩ := p
      rw [ef] at h
      refine k vs xs ys d hb z r ef fun v us hz rs rv => ?_
      obtain ⟨ex, F2⟩ := F.wr hO hi hσ hz rs
      exact h _ _ ex F2 v (rv.at ex)
theorem tyl {K : PySem.W.Frag} {H : Hp} {a : Addr} {vs : List V} (h : H a = some (.lst vs)) : tyV K "list" (.ref a) H := .inl ⟨rfl, vs, SqL.of h⟩
theorem bm0_weak {i : Nat} {K : PySem.W.Frag} {r : V → List V → Hp → VK → Prop} {f : List D → Option (D × List D)} (os : OM0 C.g r f) (σ : L2.St) (H : Hp) (Q : VK) (h : EvE C (mOwn i f) σ H Q) : tBM0 K "list" r (tVar i) σ H Q := by
  obtain ⟨L0, O, env, F, h⟩ := h
  have h2 := h
  unfold mOwn at h2
  cases eo : ownD i env with
  | none => rw [eo] at h2; exact h2.elim
  | some xs =>
    obtain ⟨a, vs, hO, hσ, hb, z, r, hi⟩ := F.ownd eo
    exact ⟨.ref a, hσ, tyl hb, own_end F h hσ fun vs ds ys d h1 h2 h3 h4 h5 => os _ H ds ys d a vs Q h1 h2 h3 h4 h5⟩
theorem bm1_weak {i : Nat} {K : PySem.W.Frag} {r : V → List V → Hp → VK → Prop} {f : D → List D → Option (D × List D)} {m : M D} (os : OM1 C.g r f) (σ : L2.St) (H : Hp) (Q : VK) (h : EvE C (mOwn1 i f m) σ H Q) : tBM K "list" r (tVar i) (tCons (EvE C m) tNil) σ H Q := by
  obtain ⟨L0, O, env, F, h⟩ := h
  have h := Post.bind h
  have s := F.sl i
  unfold chkO at h
  split at h
  · rename_i ds hq
    rw [hq] at s
    obtain ⟨a, vs, hO, hσ, hb, z, r⟩ := s
    refine ⟨.ref a, hσ, tyl hb, L0, O, env, F, (Post.bind (h.here F)).imp fun x e1 O1 H1 x1 F1 h1 w rw' => ?_⟩
    exact own_end F1 h1 hσ fun vs ds ys d h1 h2 h3 h4 h5 => os _ H1 ds ys x d a vs w Q h1 h2 h3 rw' h4 h5
  · exact h.elim
end
end MP

/-! MP, part G: targets, for, comprehensions. -/
namespace MP
open L2 PyProof.Rows PySem PySem.Spec

inductive Tg where
  | nm (i : Nat) | tp (is : List Nat)
def Tg.ix : Tg → List Nat
  | .nm i => [i]
  | .tp is => is
def setAll : List Nat → List D → Env → Option Env
  | [], [], e => some e
  | i :: is, d :: ds, e => setAll is ds (e.set i (some (.p d)))
  | _, _, _ => none
def bindTg : Tg → D → Env → Option Env
  | .nm i, d, e => some (e.set i (some (.p d)))
  | .tp is, .tup ds, e => setAll is ds e
  | _, _, _ => none
/-- what a store to a target is asked: its end -/
def tgEnd (C : Cy) (L0 : Addr → Prop) (O : Own) (H : Hp) (σ : L2.St) (is : List Nat) (Q : L2.St → Hp → Prop) : Option Env → Prop
  | none => False
  | some e' => ∀ σ' O', Ext C.rf σ O H σ' O' H → C.F L0 O' H σ' e' → σ'.length = σ.length → (∀ j, j ∉ is → σ'[j]? = σ[j]?) → Q σ' H
def EvG (C : Cy) (tg : Tg) : TG := fun v σ H Q => ∃ L0 O env d, C.F L0 O H σ env ∧ Rep C.g (LL L0 O) H d v ∧ tgEnd C L0 O H σ tg.ix Q (bindTg tg d env)
def gsN : List Nat → TGs
  | [] => gNil
  | i :: is => gCons (gName i) (gsN is)
theorem _root_.L2.PG.weak {X : Cx} {e : Expr} {t t' : TG} (h : PG X e t) (k : ∀ v σ H Q, t' v σ H Q → t v σ H Q) : PG X e t' := ⟨fun pins s σ H v u Q I r q => h.run pins s σ H v u Q I r (k v σ H Q q)⟩
section
variable {X : Cx} {C : Cy} {pos : Pos}
theorem gsN_run {L0 : Addr → Prop} {H : Hp} {Q : L2.St → Hp → Prop} : ∀ {is : List Nat} {ds : List D} {vs : List V} {σ : L2.St} {O : Own} {env : Env}, (∀ i ∈ is, C.rf i = false) → C.F L0 O H σ env → Reps C.g (LL L0 O) H ds vs → tgEnd C L0 O H σ is Q (setAll is ds env) → gsN is vs σ H Q
  | [], [], vs, σ, O, env, _, F, r, h => by
    have e : vs = [] := r
    exact ⟨e, h σ O Ext.refl F rfl fun _ _ => rfl⟩
  | i :: is, d :: ds, vs, σ, O, env, hr, F, r, h => by
    obtain ⟨v, t, rfl, rv, rt⟩ := r
    refine ⟨v, t, rfl, ?_⟩
    have x : Ext C.rf σ O H (σ.set i (some v)) (offO O i) H := Ext.set (hr i List.mem_cons_self)
    refine gsN_run (is := is) (ds := ds) (fun j hj => hr j (List.mem_cons_of_mem _ hj)) (F.set rv) (rt.at x) ?_
    have h : tgEnd C L0 O H σ (i :: is) Q (setAll is ds (env.set i (some (.p d)))) := h
    cases e : setAll is ds (env.set i (some (.p d))) with
    | none => rw [e] at h; exact h.elim
    | some e' =>
      rw [e] at h
      intro σ' O' x' F' hl hk
      refine h σ' O' (x.trans x') F' (by rw [hl, List.length_set]) fun j hj => ?_
      rw [hk j fun z => hj (List.mem_cons_of_mem _ z), List.getElem?_set_ne (fun z => hj (by rw [z]; exact List.mem_cons_self))]
  | [], _ :: _, _, _, _, _, _, _, _, h => h.elim
  | _ :: _, [], _, _, _, _, _, _, _, h => h.elim
theorem pg_nmD {i : Nat} {x : Str} (hN : X.N.Nodup) (hi : X.N[i]? = some x) (hx : Loc X.env.scope x) (hf : X.fn x = true ∨ X.env.scope.names.lookup x = some .local) (hr : C.rf i = false) : PG X (.Name x pos) (EvG C (.nm i)) :=
  (pg_name hN hi hx hf).weak fun v σ H Q ⟨L0, O, env, d, F, r, h⟩ => h _ _ (Ext.set hr) (F.set r) (by rw [List.length_set]) fun j hj => List.getElem?_set_ne (fun z => hj (by rw [z]; exact List.mem_singleton.mpr rfl))
theorem pg_tpD {es : List Expr} {k : Nat} {is : List Nat} (hK : C.g.K = X.K) (hc : X.calm = true) (h : PGs X es (gsN is)) (hr : ∀ i ∈ is, C.rf i = false) (hn : (assignEach es X.env).length = is.length) (hst : (assignEach es X.env).findIdx? (·.1) = none) :
    PG X (.Tuple es k pos) (EvG C (.tp is)) := (pg_tup hc h hn hst).weak fun v σ H Q ⟨L0, O, env, d, F, r, h⟩ => by
  cases d with
  | tup ds =>
    obtain ⟨a, vs, rfl, p, rs⟩ := r
    have hl : vs.length = is.length := by
      rw [← rs.length]
      have h : tgEnd C L0 O H σ is Q (setAll is ds env) := h
      clear hn hst hr rs p F
      have : ∀ (is : List Nat) (ds : List D) (env : Env), setAll is ds env ≠ none → ds.length = is.length := by
        intro is
        induction is with
        | nil => intro ds env hh; cases ds with
          | nil => rfl
          | cons d ds => exact absurd rfl hh
        | cons i is ih => intro ds env hh; cases ds with
          | nil => exact absurd rfl hh
          | cons d ds => exact congrArg Nat.succ (ih ds _ hh)
      refine this is ds env fun e => ?_
      rw [e] at h; exact h
    rw [← hK]
    exact ⟨a, vs, rfl, p.sq, hl, gsN_run hr F rs h⟩
  | _ => exact h.elim
/-- a, b = e -/
def sAsg (tg : Tg) (m : M D) : MS := sE m fun d e => match bindTg tg d e with
  | none => .bad
  | some e' => .ok .nx e'
theorem qs_asg {tge e : Expr} {tg : Tg} {m : M D} (he : PE X e (EvE C m)) (hg : PG X tge (EvG C tg)) (hs : swapsWithSole [tge] e pos.line X.env = pure false) (hw : swappedStores [tge] e X.env = pure none) (h1 : (assignEach [tge] X.env).map (·.2) = [assign tge X.env]) :
    PS X (.Assign [tge] e pos) (EvS C (sAsg tg m)) := (ps_asg he hg hs hw h1).weak fun D σ H ⟨L0, O, env, F, h⟩ =>
  ⟨L0, O, env, F, (PostS.bindE h).imp fun d e1 O1 H1 x1 F1 h1 v rv => ⟨L0, O1, e1, d, F1, rv, by
    cases eb : bindTg tg d e1 with
    | none => rw [eb] at h1; exact h1.elim
    | some e' =>
      rw [eb] at h1
      exact fun σ' O' x' F' _ _ => h1 σ' O' H1 x' F'⟩⟩
end

/-! ### what is walked -/
def Wk (g : G) (L : Addr → Prop) (H : Hp) (J : It) (ds : List D) : Prop := ∃ (G : Hp → Prop) (Y : Nat → Hp → V → Hp → Prop), Walk J ds.length G Y ∧ (∀ L' H', XT L H L' H' → G H') ∧
  ∀ (i : Nat) (d : D) (L' : Addr → Prop) (H' : Hp) (x : V) (H'' : Hp), XT L H L' H' → (∀ a, L' a → ∃ o, H' a = some o) → ds[i]? = some d → Y i H' x H'' → Same H' H'' ∧ Rep g L' H'' d x
def EvI (C : Cy) (src : M (List D)) : TI := fun σ H R => ∃ L0 O env, C.F L0 O H σ env ∧ Post C L0 O H σ (src env) fun ds _ O' H' => ∀ J, Wk C.g (LL L0 O') H' J ds → R J H'
theorem Wk.mono {g : G} {L L' : Addr → Prop} {H H' : Hp} {J : It} {ds : List D} (x : XT L H L' H') (h : Wk g L H J ds) : Wk g L' H' J ds := by
  obtain ⟨G, Y, w, h1, h2⟩ := h
  have t : ∀ {L2 H2}, XT L' H' L2 H2 → XT L H L2 H2 := fun y a o e n => let ⟨e1, n1⟩ := x a o e n; y a o e1 n1
  exact ⟨G, Y, w, fun L2 H2 y => h1 L2 H2 (t y), fun i d L2 H2 v H3 y => h2 i d L2 H2 v H3 (t y)⟩
def itD : D → Option (List D)
  | .lst xs => some xs
  | .tup xs => some xs
  | .str s => some (s.map fun c => .str [c])
  | _ => none
theorem _root_.L2.PI.weak {X : Cx} {tg e : Expr} {t t' : TI} (h : PI X tg e t) (k : ∀ σ H R, t' σ H R → t σ H R) : PI X tg e t' := ⟨fun pins s σ H R I q => h.run pins s σ H R I (k σ H R q)⟩
def iAny (K : PySem.W.Frag) (te : TE) : TI := fun σ H R => te σ H fun x H1 => (∃ a, x = .ref a ∧ (∃ xs, SqL K H1 a xs) ∧ R (Itl K a) H1) ∨ (∃ a, x = .ref a ∧ (∃ xs, SqT K H1 a xs) ∧ R (Itt K a) H1) ∨ ∃ z, x = .str z ∧ R (Its z) H1
theorem pi_any {X : Cx} {tg e : Expr} {te : TE} (he : PE X e te) : PI X tg e (iAny X.K te) := by
  refine ⟨fun pins s σ H R I h => ?_⟩
  refine thn (he.run pins s σ H _ I h) fun v s1 ⟨x, H1, I1, r1, q1⟩ => ?_
  rcases q1 with q1 | q1 | q1
  · obtain ⟨a, e, ⟨xs, hq⟩, q⟩ := q1
    subst e
    cases r1
    obtain ⟨its, rv, p, hz⟩ := I1.list hq
    refine wpAny_pyIter_list p.isList ?_
    refine ⟨s1.heap.objs.size, [s1.heap.objs.size], _, _, H1, rfl, I1.kept (t' := s1.toks) fun b o e => Heap.get?_push_of_some _ e, turn_list a _, ⟨_, Heap.get?_push_size _ rfl, rfl, rfl⟩, fun b hb => ?_, q⟩
    have e : b = s1.heap.objs.size := by simpa using hb
    subst e
    exact I1.fpOk (Nat.le_refl _) (I1.hok.fresh (Nat.le_refl _))
  · obtain ⟨a, e, ⟨xs, hq⟩, q⟩ := q1
    subst e
    cases r1
    obtain ⟨its, rv, p, hz⟩ := I1.tuple hq
    refine wpAny_pyIter_tuple (show s1.heap.IsTuple a its.toArray from p) ?_
    refine ⟨s1.heap.objs.size, [s1.heap.objs.size], _, _, H1, rfl, I1.kept (t' := s1.toks) fun b o e => Heap.get?_push_of_some _ e, turn_tuple a _, ⟨_, Heap.get?_push_size _ rfl, rfl, rfl⟩, fun b hb => ?_, q⟩
    have e : b = s1.heap.objs.size := by simpa using hb
    subst e
    exact I1.fpOk (Nat.le_refl _) (I1.hok.fresh (Nat.le_refl _))
  · obtain ⟨x, ex, q⟩ := q1
    subst ex
    obtain ⟨t, rfl⟩ := r1
    cases ha : x.cps.all (· < 128)
    · exact wpAny_pyIter_wide ha (pi_one (tk := s1.toks) I1 _ (turn_str _ x t "str_iterator" (.inr rfl)) ⟨_, Heap.get?_push_size _ rfl, rfl, rfl⟩ q)
    · exact wpAny_pyIter_ascii ha (pi_one (tk := s1.toks) I1 _ (turn_str _ x t "str_ascii_iterator" (.inl rfl)) ⟨_, Heap.get?_push_size _ rfl, rfl, rfl⟩ q)
section
variable {g : G} {L : Addr → Prop} {H : Hp}
theorem wk_list {a : Addr} {vs : List V} {ds : List D} (p : PL L H a vs) (r : Reps g L H ds vs) : Wk g L H (Itl g.K a) ds := by
  refine ⟨fun H => SqL g.K H a vs, YAt vs, by rw [r.length]; exact walk_list, fun L' H' x => (p.mono x).sq, fun i d L' H' v H'' x hl e y => ?_⟩
  obtain ⟨rfl, y⟩ := y
  obtain ⟨u, e2, ru⟩ := (Reps.mono x ds vs r).get e
  rw [y] at e2
  cases e2
  exact ⟨Same.refl _, ru⟩
theorem wk_tup {a : Addr} {vs : List V} {ds : List D} (p : PT g.K L H a vs) (r : Reps g L H ds vs) : Wk g L H (Itt g.K a) ds := by
  refine ⟨fun H => SqT g.K H a vs, YAt vs, by rw [r.length]; exact walk_tup, fun L' H' x => (p.mono x).sq, fun i d L' H' v H'' x hl e y => ?_⟩
  obtain ⟨rfl, y⟩ := y
  obtain ⟨u, e2, ru⟩ := (Reps.mono x ds vs r).get e
  rw [y] at e2
  cases e2
  exact ⟨Same.refl _, ru⟩
theorem wk_str {s : Tx} (ok : TxOk s) : Wk g L H (Its ⟨s.toArray⟩) (s.map fun c => .str [c]) := by
  refine ⟨fun _ => True, _, by
    have w := walk_str (z := ⟨s.toArray⟩)
    have e : (s.map fun c => D.str [c]).length = (⟨s.toArray⟩ : Str).cps.size := by simp
    rw [e]; exact w, fun _ _ _ => trivial, fun i d L' H' v H'' x hl e y => ?_⟩
  obtain ⟨rfl, c, hc, rfl⟩ := y
  have hc : s[i]? = some c := by simpa using hc
  rw [List.getElem?_map, hc] at e
  cases e
  refine ⟨Same.refl _, rfl, fun k hk => ?_, ?_⟩
  · have : k = c := by simpa using hk
    rw [this]
    exact ok.1 c (List.mem_of_getElem? hc)
  · show 1 ≤ sizeLine
    rw [sizeLine_eq]; decide
theorem wk_fn {lo : Int} {n : Nat} : Wk g L H (Itr lo n) ((List.range n).map fun (i : Nat) => .int (lo + i)) := by
  refine ⟨fun _ => True, _, by rw [List.length_map, List.length_range]; exact walk_range, fun _ _ _ => trivial, fun i d L' H' v H'' x hl e y => ?_⟩
  obtain ⟨rfl, rfl⟩ := y
  have hi : i < n := by
    have := (List.getElem?_eq_some_iff.mp e).1
    simpa using this
  rw [List.getElem?_map, List.getElem?_range hi] at e
  cases e
  exact ⟨Same.refl _, rfl⟩
/-- i, x for each -/
def enumG : Nat → List D → List D
  | _, [] => []
  | i, x :: xs => .tup [.int i, x] :: enumG (i + 1) xs
theorem enumG_get : ∀ (xs : List D) (k i : Nat), (enumG k xs)[i]? = xs[i]?.map fun x => .tup [.int ((k + i : Nat) : Int), x]
  | [], k, i => by simp [enumG]
  | x :: xs, k, 0 => by simp [enumG]
  | x :: xs, k, i + 1 => by
    simp only [enumG, List.getElem?_cons_succ]
    rw [enumG_get xs (k + 1) i]
    have : k + 1 + i = k + (i + 1) := by omega
    rw [this]
theorem enumG_len : ∀ (xs : List D) (k : Nat), (enumG k xs).length = xs.length
  | [], _ => rfl
  | x :: xs, k => by simp [enumG, enumG_len xs (k + 1)]
theorem wk_enum {a : Addr} {vs : List V} {ds : List D} (p : PL L H a vs) (r : Reps g L H ds vs) : Wk g L H (Ite g.K a) (enumG 0 ds) := by
  refine ⟨fun H => SqL g.K H a vs, _, by rw [enumG_len, r.length]; exact walk_enum, fun L' H' x => (p.mono x).sq, fun i d L' H' v H'' x hl e y => ?_⟩
  obtain ⟨T, x1, x2, rfl, hT, rfl, e1, e2⟩ := y
  cases e1
  rw [enumG_get] at e
  obtain ⟨d', hd, rfl⟩ := Option.map_eq_some_iff.mp e
  obtain ⟨u, e3, ru⟩ := (Reps.mono x ds vs r).get hd
  have e2 : vs[i]? = some x2 := e2
  rw [e2] at e3
  cases e3
  refine ⟨Same.new hT, ?_⟩
  have rr : Reps g L' H' [.int ((0 + i : Nat) : Int), d'] [.int (i : Nat), x2] := .cons (by show V.int _ = V.int _; congr 1; simp) (.cons ru .nil)
  exact new_tup hl hT rr (by show 2 ≤ sizeLine; rw [sizeLine_eq]; decide)
end
section
variable {X : Cx} {C : Cy} {tg : Expr}
def mIter (m : M D) : M (List D) := do
  let d ← m
  lift (itD d)
theorem pi_val {e : Expr} {m : M D} (hK : C.g.K = X.K) (he : PE X e (EvE C m)) : PI X tg e (EvI C (mIter m)) := (pi_any he).weak fun σ H R ⟨L0, O, env, F, h⟩ =>
  ⟨L0, O, env, F, (Post.bind h).imp fun d e1 O1 H1 x1 F1 h1 v rv => by
    cases d with
    | lst xs =>
      obtain ⟨a, vs, rfl, p, rs⟩ := rv
      rw [← hK]
      exact .inl ⟨a, rfl, ⟨vs, p.sq⟩, h1.here F1 _ (wk_list p rs)⟩
    | tup xs =>
      obtain ⟨a, vs, rfl, p, rs⟩ := rv
      rw [← hK]
      exact .inr (.inl ⟨a, rfl, ⟨vs, p.sq⟩, h1.here F1 _ (wk_tup p rs)⟩)
    | str s =>
      obtain ⟨rfl, ok⟩ := rv
      exact .inr (.inr ⟨_, rfl, h1.here F1 _ (wk_str ok)⟩)
    | _ => exact h1.elim⟩
def rng (lo : Int) (n : Nat) : List D := (List.range n).map fun (i : Nat) => .int (lo + i)
def rngD1 : List D → Option (List D)
  | [.int j] => if -4611686018427387904 ≤ j ∧ j < 4611686018427387904 then some (rng 0 j.toNat) else none
  | _ => none
def rngD2 : List D → Option (List D)
  | [.int i, .int j] => if (-4611686018427387904 ≤ i ∧ i < 4611686018427387904) ∧ -4611686018427387904 ≤ j ∧ j < 4611686018427387904 then some (rng i (j - i).toNat) else none
  | _ => none
def mArgs {α : Type} (f : List D → Option α) (m : M (List D)) : M α := do
  let ds ← m
  lift (f ds)
theorem reps1 {g : G} {L : Addr → Prop} {H : Hp} {d : D} {vs : List V} (r : Reps g L H [d] vs) : ∃ v, vs = [v] ∧ Rep g L H d v := by
  obtain ⟨v, t, rfl, rv, rt⟩ := r
  have e : t = [] := rt
  subst e
  exact ⟨v, rfl, rv⟩
theorem reps2 {g : G} {L : Addr → Prop} {H : Hp} {d e : D} {vs : List V} (r : Reps g L H [d, e] vs) : ∃ v w, vs = [v, w] ∧ Rep g L H d v ∧ Rep g L H e w := by
  obtain ⟨v, t, rfl, rv, rt⟩ := r
  obtain ⟨w, rfl, rw'⟩ := reps1 rt
  exact ⟨v, w, rfl, rv, rw'⟩
theorem pi_rng1 {a : Expr} {m : M (List D)} {p pos : Pos} (hg : Gl X "range") (hm : X.mg "range" = none) (ha : PA X [a] (EvA C m)) (hs : starEach [a] X.env = [(false, eval a X.env)]) : PI X tg (.Call (.Name "range" p) [a] [] pos) (EvI C (mArgs rngD1 m)) :=
  (pi_range1 hg hm ha hs).weak fun σ H R ⟨L0, O, env, F, h⟩ => ⟨L0, O, env, F, (Post.bind h).imp fun ds e1 O1 H1 x1 F1 h1 vs rs => by
    cases ef : rngD1 ds with
    | none => rw [ef] at h1; exact h1.elim
    | some zs =>
      rw [ef] at h1
      unfold rngD1 at ef
      split at ef
      · split at ef
        · rename_i j hj
          cases ef
          obtain ⟨v, rfl, rv⟩ := reps1 rs
          have rv : v = .int j := rv
          subst rv
          exact ⟨j, rfl, by omega, by omega, h1.here F1 _ wk_fn⟩
        · cases ef
      · cases ef⟩
theorem pi_rng2 {a b : Expr} {m : M (List D)} {p pos : Pos} (hg : Gl X "range") (hm : X.mg "range" = none) (ha : PA X [a, b] (EvA C m)) (hs : starEach [a, b] X.env = [(false, eval a X.env), (false, eval b X.env)]) (hs2 : starEach [b] X.env = [(false, eval b X.env)]) :
    PI X tg (.Call (.Name "range" p) [a, b] [] pos) (EvI C (mArgs rngD2 m)) :=
  (pi_range2 hg hm ha hs hs2).weak fun σ H R ⟨L0, O, env, F, h⟩ => ⟨L0, O, env, F, (Post.bind h).imp fun ds e1 O1 H1 x1 F1 h1 vs rs => by
    cases ef : rngD2 ds with
    | none => rw [ef] at h1; exact h1.elim
    | some zs =>
      rw [ef] at h1
      unfold rngD2 at ef
      split at ef
      · split at ef
        · rename_i i j hj
          cases ef
          obtain ⟨v, w, rfl, rv, rw'⟩ := reps2 rs
          have rv : v = .int i := rv
          have rw' : w = .int j := rw'
          subst rv
          subst rw'
          exact ⟨i, j, rfl, by omega, h1.here F1 _ wk_fn⟩
        · cases ef
      · cases ef⟩
def enumD : List D → Option (List D)
  | [.lst xs] => some (enumG 0 xs)
  | _ => none
theorem pi_enumD {e : Expr} {m : M (List D)} {p pos tpos : Pos} {elts : List Expr} {kk : Nat} (hK : C.g.K = X.K) (hg : Gl X "enumerate") (hm : X.mg "enumerate" = none) (ha : PA X [e] (EvA C m)) (hs : starEach [e] X.env = [(false, eval e X.env)]) :
    PI X (.Tuple elts kk tpos) (.Call (.Name "enumerate" p) [e] [] pos) (EvI C (mArgs enumD m)) :=
  (pi_enum hg hm ha hs).weak fun σ H R ⟨L0, O, env, F, h⟩ => ⟨L0, O, env, F, (Post.bind h).imp fun ds e1 O1 H1 x1 F1 h1 vs rs => by
    cases ef : enumD ds with
    | none => rw [ef] at h1; exact h1.elim
    | some zs =>
      rw [ef] at h1
      unfold enumD at ef
      split at ef
      · cases ef
        obtain ⟨v, rfl, rv⟩ := reps1 rs
        obtain ⟨a, us, rfl, p, ru⟩ := rv
        rw [← hK]
        exact ⟨a, us, rfl, p.sq, h1.here F1 _ (wk_enum p ru)⟩
      · cases ef⟩
end

/-! ### for -/
def loopD (tg : Tg) (body : MS) : List D → MS
  | [] => sNx
  | d :: ds => fun e => match bindTg tg d e with
    | none => .bad
    | some e1 => (match body e1 with
      | .ok .nx e2 => loopD tg body ds e2
      | .ok .ct e2 => loopD tg body ds e2
      | .ok .bk e2 => .ok .nx e2
      | .ok fl e2 => .ok fl e2
      | .ex x e2 => .ex x e2
      | .bad => .bad)
def sFor (src : M (List D)) (tg : Tg) (body : MS) : MS := sE src fun ds => loopD tg body ds
section
variable {X : Cx} {C : Cy} {pos : Pos}
theorem qs_for {tge iter : Expr} {body : List Stmt} {src : M (List D)} {tg : Tg} {mb : MS} (hp : PassesOwn (model X.prog X.w) X.A X.env X.xe) (hc : X.calm = true) (hi : PI X tge iter (EvI C src)) (hg : PG X tge (EvG C tg)) (hb : PSs X body (EvS C mb))
    (hs : ∀ x, foldedSetIterable iter X.env x = pure x) : PS X (.For tge iter body [] pos) (EvS C (sFor src tg mb)) := (ps_for hp hc hi hg hb hs).weak fun D σ H ⟨L0, O, env, F, h⟩ => by
  refine ⟨L0, O, env, F, (PostS.bindE h).imp fun ds e1 O1 H1 x1 F1 h1 J ⟨G, Y, w, hG, hY⟩ => ?_⟩
  refine for_it w (fun i σ' H' => ∃ O' e', Ext C.rf σ O1 H1 σ' O' H' ∧ C.F L0 O' H' σ' e' ∧ PostS C L0 O' H' σ' (loopD tg mb (ds.drop i) e') D) ⟨O1, e1, Ext.refl, F1, h1⟩ (fun i σ' H' _ ⟨O', e', x, F', _⟩ => hG _ _ x.xt) ?_ ?_
  · rintro i v σ' H' H'' hi ⟨O', e', x, F', hp⟩ hy
    obtain ⟨s, rv⟩ := hY i ds[i] _ H' v H'' x.xt F'.trk (List.getElem?_eq_getElem hi) hy
    rw [List.drop_eq_getElem_cons hi] at hp
    unfold loopD at hp
    refine ⟨L0, O', e', ds[i], F'.same s, rv, ?_⟩
    cases eb : bindTg tg ds[i] e' with
    | none => rw [eb] at hp; exact hp.elim
    | some e2 =>
      rw [eb] at hp
      dsimp only at hp
      intro σ2 O2 x2 F2 _ _
      have xx : Ext C.rf σ' O' H' σ2 O2 H'' := (Ext.same s).trans x2 |> fun y => y
      refine ⟨L0, O2, e2, F2, ?_⟩
      have hp2 := PostS.at hp xx
      have xt : Ext C.rf σ O1 H1 σ2 O2 H'' := x.trans xx
      cases em : mb e2 with
      | bad => rw [em] at hp2; exact hp2.elim
      | ex y e3 => rw [em] at hp2; exact hp2
      | ok fl e3 =>
        rw [em] at hp2
        intro σ3 O3 H3 x3 F3
        cases fl with
        | nx => exact ⟨O3, e3, xt.trans x3, F3, PostS.at hp2 x3⟩
        | ct => exact ⟨O3, e3, xt.trans x3, F3, PostS.at hp2 x3⟩
        | bk => exact hp2 σ3 O3 H3 x3 F3
        | rt d => exact hp2 σ3 O3 H3 x3 F3
        | rtf d => exact hp2 σ3 O3 H3 x3 F3
        | rtx k d => exact hp2 σ3 O3 H3 x3 F3
  · rintro σ' H' ⟨O', e', x, F', hp⟩
    rw [List.drop_length] at hp
    exact PostS.here (fl := .nx) hp F'
end
end MP

/-! MP, part H: comprehensions. -/
namespace MP
open L2 PyProof.Rows PySem PySem.Spec

def WF : WX := fun _ _ _ _ => False
/-- the block's own reading: no error leaves it -/
def Cy.blk (C : Cy) : Cy := { C with W := WF }
def nox {α : Type} (m : M α) : M α := fun e => match m e with
  | .ok a e' => .ok a e'
  | _ => .bad
def wipeE (e : Env) : List Nat → Env
  | [] => e
  | v :: vs => (wipeE e vs).set v none
/-- lists that those slots own become values -/
def frz (e : Env) : List Nat → Env
  | [] => e
  | v :: vs => (match (frz e vs)[v]? with
    | some (some (.ml xs)) => (frz e vs).set v (some (.p (.lst xs)))
    | _ => frz e vs)
/-- the slots vs as in e0, all others as in e -/
def back0 (e0 e : Env) : List Nat → Env
  | [] => e
  | v :: vs => (back0 e0 e vs).set v (e0[v]?.getD none)
/-- the block's turns, each from an env whose own slots are empty -/
def lcD (own : List Nat) (tg : Tg) (tst : M Bool) (elt : M D) : List D → M (List D)
  | [] => fun e => .ok [] e
  | d :: ds => fun e => match bindTg tg d e with
    | none => .bad
    | some e1 => (match tst e1 with
      | .ok true e2 => (match elt e2 with
        | .ok y e3 => (match lcD own tg tst elt ds (wipeE e3 own) with
          | .ok ys e4 => .ok (y :: ys) e4
          | _ => .bad)
        | _ => .bad)
      | .ok false e2 => lcD own tg tst elt ds (wipeE e2 own)
      | _ => .bad)
def mLc (own : List Nat) (src : M (List D)) (tg : Tg) (tst : M Bool) (elt : M D) : M (List D) := do
  let ds ← src
  fun e => if ds.length ≤ 1000000 then (match lcD own tg tst elt ds (wipeE (frz e own) own) with
    | .ok ys e' => .ok ys (back0 (frz e own) e' own)
    | _ => .bad) else .bad
section
variable {g : G} {rf : Nat → Bool} {dm L0 : Addr → Prop} {xs : XTab} {O O' : Own} {H H' : Hp} {σ : L2.St} {env e' : Env}
theorem frz_frel : ∀ {own : List Nat} {O : Own}, FRel g rf dm L0 xs O H σ env → ∃ O', Ext rf σ O H σ O' H ∧ FRel g rf dm L0 xs O' H σ (frz env own) ∧ (∀ v ∈ own, O' v = none)
  | [], O, F => ⟨O, Ext.refl, F, fun _ h => by cases h⟩
  | v :: vs, O, F => by
    obtain ⟨O1, x1, F1, n1⟩ := frz_frel (own := vs) F
    unfold frz
    have s := F1.sl v
    split
    · rename_i ds hq
      obtain ⟨F2, _⟩ := F1.freeze hq
      refine ⟨offO O1 v, x1.trans Ext.off, F2, fun w hw => ?_⟩
      by_cases e : w = v
      · rw [e]; exact offO_same
      · rw [offO_ne e]
        exact n1 w ((List.mem_cons.mp hw).resolve_left e)
    · rename_i hn
      refine ⟨O1, x1, F1, fun w hw => ?_⟩
      rcases List.mem_cons.mp hw with e | e
      · rw [e]
        match hq : (frz env vs)[v]? with
        | none => rw [hq] at s; exact s
        | some none => rw [hq] at s; exact s
        | some (some (.p d)) => rw [hq] at s; exact s.1
        | some (some (.ml ds)) => exact absurd hq (hn ds)
        | some (some (.x d)) => rw [hq] at s; exact s.1
      · exact n1 w e
/-- within: the own slots are empty -/
theorem wipe_frel (F : FRel g rf dm L0 xs O H σ env) : ∀ {own : List Nat}, (∀ v ∈ own, O v = none) → FRel g rf dm L0 xs O H (wipe σ own) (wipeE env own)
  | [], _ => F
  | v :: vs, n => by
    have F1 := wipe_frel F (own := vs) fun w hw => n w (List.mem_cons_of_mem _ hw)
    have F2 := F1.setNone (i := v)
    have e : offO O v = O := funext fun j => by
      by_cases q : j = v
      · rw [q, offO_same]; exact (n v List.mem_cons_self).symm
      · exact offO_ne q
    rw [e] at F2
    exact F2
/-- the own slots empty again -/
theorem wipe_again {σ2 : L2.St} (F : FRel g rf dm L0 xs O H σ2 env) : ∀ {own : List Nat}, (∀ v ∈ own, rf v = false) → ∃ O', Ext rf σ2 O H (wipe σ2 own) O' H ∧ FRel g rf dm L0 xs O' H (wipe σ2 own) (wipeE env own)
  | [], _ => ⟨O, Ext.refl, F⟩
  | v :: vs, hr => by
    obtain ⟨O1, x1, F1⟩ := wipe_again F (own := vs) fun w hw => hr w (List.mem_cons_of_mem _ hw)
    exact ⟨offO O1 v, x1.trans (Ext.set (hr v List.mem_cons_self)), F1.setNone⟩
theorem wipe_ext {own : List Nat} (hr : ∀ v ∈ own, rf v = false) : Ext rf σ O H (wipe σ own) O H := ⟨fun a o h n => ⟨h, n⟩, fun i hi => ⟨by
  rw [wipe_out fun z => by rw [hr i z] at hi; cases hi], .inr rfl⟩, fun a o h => ⟨o, h⟩⟩
theorem back0_len : ∀ (own : List Nat) (e0 e : Env), (back0 e0 e own).length = e.length
  | [], _, _ => rfl
  | v :: vs, e0, e => by
    show ((back0 e0 e vs).set v _).length = _
    rw [List.length_set, back0_len vs]
theorem back0_in {e0 e : Env} (hl : e0.length = e.length) : ∀ {own : List Nat} {j : Nat}, j ∈ own → (back0 e0 e own)[j]? = e0[j]?
  | v :: vs, j, h => by
    unfold back0
    by_cases q : v = j
    · subst q
      by_cases hj : v < e0.length
      · rw [List.getElem?_set_self (by rw [back0_len]; omega), List.getElem?_eq_getElem hj]
        rfl
      · rw [List.getElem?_eq_none (by rw [List.length_set, back0_len]; omega), List.getElem?_eq_none (by omega)]
    · rw [List.getElem?_set_ne q]
      exact back0_in hl ((List.mem_cons.mp h).resolve_left (Ne.symm q))
theorem back0_out {e0 e : Env} : ∀ {own : List Nat} {j : Nat}, j ∉ own → (back0 e0 e own)[j]? = e[j]?
  | [], j, h => rfl
  | v :: vs, j, h => by
    unfold back0
    have q : v ≠ j := fun z => h (by rw [z]; exact List.mem_cons_self)
    rw [List.getElem?_set_ne q]
    exact back0_out fun z => h (List.mem_cons_of_mem _ z)
/-- behind it: the own slots as ahead of it -/
theorem unwipe {own : List Nat} {L1 : Addr → Prop} (n : ∀ v ∈ own, O v = none) (F : FRel g rf dm L0 xs O H σ env) (x : Ext rf (wipe σ own) O H (wipe σ own) O' H') (F' : FRel g rf dm L1 xs O' H' (wipe σ own) e') (hL : ∀ a o, H a = some o → L1 a → L0 a) (n' : ∀ v ∈ own, O' v = none) :
    Ext rf σ O H σ O' H' ∧ FRel g rf dm L1 xs O' H' σ (back0 env e' own) := by
  refine ⟨⟨x.keep, fun i hi => ⟨rfl, (x.stab i hi).2⟩, x.old⟩, ⟨?_, fun j => ?_, F'.inj, F'.dis, F'.lok, F'.dom, F'.own⟩⟩
  · rw [back0_len, F'.len, wipe_length]
  · have hl : env.length = e'.length := by rw [F.len, F'.len, wipe_length]
    by_cases hj : j ∈ own
    · rw [back0_in hl hj]
      have s := F.sl j
      rw [n j hj] at s
      rw [n' j hj]
      have xt : XT (LL L0 O) H (LL L1 O') H' := fun a o h nn => by
        obtain ⟨h1, n1⟩ := x.keep a o h fun i e => nn (.inr ⟨i, e⟩)
        exact ⟨h1, fun z => z.elim (fun z => nn (.inl (hL a o h z))) fun ⟨i, e⟩ => n1 i e⟩
      exact SR.mono xt (fun a u e _ => by cases e) s
    · rw [back0_out hj]
      have s := F'.sl j
      rw [wipe_out hj] at s
      exact s
theorem none_wiped {own : List Nat} (F : FRel g rf dm L0 xs O H (wipe σ own) env) (h : ∀ v ∈ own, env[v]? = some none ∨ env[v]? = none) : ∀ v ∈ own, O v = none := fun v hv => by
  have s := F.sl v
  rcases h v hv with e | e
  · rw [e] at s; exact s
  · rw [e] at s; exact s
theorem wipeE_len : ∀ (own : List Nat) (e : Env), (wipeE e own).length = e.length
  | [], _ => rfl
  | v :: vs, e => by
    show ((wipeE e vs).set v none).length = _
    rw [List.length_set, wipeE_len vs]
theorem wipeE_in {e : Env} : ∀ {own : List Nat} {j : Nat}, j ∈ own → (wipeE e own)[j]? = some none ∨ (wipeE e own)[j]? = none
  | v :: vs, j, h => by
    unfold wipeE
    by_cases q : v = j
    · subst q
      by_cases hj : v < (wipeE e vs).length
      · exact .inl (List.getElem?_set_self hj)
      · exact .inr (List.getElem?_eq_none (by rw [List.length_set]; omega))
    · rw [List.getElem?_set_ne q]
      exact wipeE_in ((List.mem_cons.mp h).resolve_left (Ne.symm q))
theorem wipe_wipe {own : List Nat} {σ σ2 : L2.St} (hl : σ2.length = σ.length) (h : ∀ j, j ∉ own → σ2[j]? = (wipe σ own)[j]?) : wipe σ2 own = wipe σ own := by
  refine List.ext_getElem? fun j => ?_
  by_cases hj : j ∈ own
  · have a : ∀ (τ : L2.St), (wipe τ own)[j]? = if j < τ.length then some none else none := fun τ => by
      have : ∀ {vs : List Nat}, j ∈ vs → (wipe τ vs)[j]? = if j < τ.length then some none else none := by
        intro vs
        induction vs with
        | nil => intro h; cases h
        | cons v vs ih =>
          intro h
          unfold wipe
          by_cases q : v = j
          · subst q
            by_cases hv : v < τ.length
            · rw [if_pos hv, List.getElem?_set_self (by rw [wipe_length]; exact hv)]
            · rw [if_neg hv, List.getElem?_eq_none (by rw [List.length_set, wipe_length]; omega)]
          · rw [List.getElem?_set_ne q]
            exact ih ((List.mem_cons.mp h).resolve_left (Ne.symm q))
      exact this hj
    rw [a, a, hl]
  · rw [wipe_out hj, wipe_out hj, h j hj, wipe_out hj]
/-- an item comes to the list under way -/
theorem FRel.wrA {a : Addr} {us : List V} {o : HO} (F : FRel g rf dm (LA L0 a) xs O H σ env) (ha : H a = some o) : FRel g rf dm (LA L0 a) xs O (upd H a (.lst us)) σ env ∧ XT (LL (LA L0 a) O) H (LL (LA L0 a) O) (upd H a (.lst us)) := by
  have x : XT (LL (LA L0 a) O) H (LL (LA L0 a) O) (upd H a (.lst us)) := fun b u e n => ⟨by
    have ne : b ≠ a := fun z => n (.inl (.inr z))
    rw [upd_ne ne]; exact e, n⟩
  have old : ∀ b o, H b = some o → ∃ o', upd H a (.lst us) b = some o' := fun b o e => by
    by_cases q : b = a
    · exact ⟨_, by rw [q]; exact upd_same⟩
    · exact ⟨o, by rw [upd_ne q]; exact e⟩
  refine ⟨⟨F.len, fun i => SR.mono x (fun b u e hb => ?_) (F.sl i), F.inj, F.dis, fun b z => let ⟨o, e⟩ := F.lok b z; old b o e, fun b z => let ⟨o, e⟩ := F.dom b z; old b o e, F.own⟩, x⟩
  have ne : b ≠ a := fun z => F.dis i b e (.inr z)
  rw [upd_ne ne]; exact hb
end
section
variable {X : Cx} {C : Cy}
def mYes : M Bool := fun e => .ok true e
theorem pts_yes : PTs X [] (EvT C mYes) := ⟨fun pins s σ H Q I ⟨L0, O, env, F, h⟩ => pts_nil.run pins s σ H Q I (h.here F)⟩
theorem pts_if {c : Expr} {m : M Bool} (h : L2.PT X c (EvT C m)) : PTs X [c] (EvT C m) := pts_one h
theorem lc_weak {own : List Nat} {src : M (List D)} {tg : Tg} {tst : M Bool} {elt : M D} (hr : ∀ v ∈ own, C.rf v = false) (ht : ∀ i ∈ tg.ix, i ∈ own) (σ : L2.St) (H : Hp) (Q : VK) (h : EvF C (mLc own src tg tst elt) σ H Q) :
    tLc (EvI C src) (EvG C.blk tg) (EvT C.blk tst) (EvE C.blk elt) own σ H Q := by
  obtain ⟨L0, O, env, F, h⟩ := h
  refine ⟨L0, O, env, F, (Post.bind h).imp fun ds e1 O1 H1 x1 F1 h1 J ⟨G, Y, w, hG, hY⟩ D hD => ?_⟩
  rcases Nat.lt_or_ge 1000000 ds.length with hz | hz
  · rw [if_neg (Nat.not_le_of_gt hz)] at h1; exact h1.elim
  rw [if_pos hz] at h1
  obtain ⟨O2, x2, F2, n2⟩ := frz_frel (own := own) F1
  -- the block's frame
  have F3 := wipe_frel F2 n2
  have F4 : C.F (LA L0 D) O2 (upd H1 D (.lst [])) (wipe σ own) (wipeE (frz e1 own) own) := F3.newA hD (Same.new hD) upd_same
  cases er : lcD own tg tst elt ds (wipeE (frz e1 own) own) with
  | ex a b => rw [er] at h1; exact h1.elim
  | bad => rw [er] at h1; exact h1.elim
  | ok zs ez =>
    rw [er] at h1
    have nD : ∀ {H'} {O'}, Ext C.rf (wipe σ own) O2 H1 (wipe σ own) O' H' → XT (LL L0 O1) H1 (LL (LA L0 D) O') H' := fun {H' O'} x a o e n => by
      obtain ⟨e2, n2'⟩ := (x2.xt (L0 := L0)) a o e n
      obtain ⟨e3, n3⟩ := (x.xt (L0 := L0)) a o e2 n2'
      refine ⟨e3, fun z => (LA.cases z).elim n3 fun q => ?_⟩
      rw [q, hD] at e; cases e
    refine lc_it w (D := D) (σ := σ) (vs := own) (fun i H' => ∃ O' e' acc done, Ext C.rf (wipe σ own) O2 H1 (wipe σ own) O' H' ∧ C.F (LA L0 D) O' H' (wipe σ own) e' ∧ H' D = some (.lst acc) ∧ Reps C.g (LL (LA L0 D) O') H' done acc ∧ done.length ≤ i ∧
      (∀ v ∈ own, O' v = none) ∧ ∃ rest, lcD own tg tst elt (ds.drop i) e' = .ok rest ez ∧ zs = done ++ rest) ?_ ?_ ?_ ?_
    · exact ⟨O2, _, [], [], ⟨fun a o e n => ⟨by rw [upd_ne (fun q => by rw [q, hD] at e; cases e)]; exact e, n⟩, fun _ _ => ⟨rfl, .inr rfl⟩, fun a o e => ⟨o, by rw [upd_ne (fun q => by rw [q, hD] at e; cases e)]; exact e⟩⟩, F4, upd_same, .nil, Nat.zero_le _, n2, zs, er, rfl⟩
    · rintro i H' _ ⟨O', e', acc, done, x, F', _⟩
      exact hG _ _ (nD x)
    · rintro i v H' H'' hi ⟨O', e', acc, done, x, F', hacc, rd, hdl, nO, rest, hl, hzs⟩ hy
      obtain ⟨s, rv⟩ := hY i ds[i] _ H' v H'' (nD x) F'.trk (List.getElem?_eq_getElem hi) hy
      rw [List.drop_eq_getElem_cons hi] at hl
      unfold lcD at hl
      refine ⟨LA L0 D, O', e', ds[i], F'.same s, rv, ?_⟩
      cases eb : bindTg tg ds[i] e' with
      | none => rw [eb] at hl; cases hl
      | some e2 =>
        rw [eb] at hl
        dsimp only at hl
        intro σ2 O3 x3 F5 hl2 hk2
        have hw : wipe σ2 own = wipe σ own := wipe_wipe (by rw [hl2, wipe_length]) fun j hj => hk2 j fun z => hj (ht j z)
        refine ⟨hw, LA L0 D, O3, e2, F5, ?_⟩
        have xs : Ext C.rf (wipe σ own) O2 H1 σ2 O3 H'' := (x.trans (Ext.same s)).trans x3
        have hD2 : H'' D = some (.lst acc) := s D _ hacc
        have rd2 : Reps C.g (LL (LA L0 D) O3) H'' done acc := rd.at ((Ext.same s).trans x3)
        -- D stays through an expression of the block
        have keepD : ∀ {O4 H4}, Ext C.rf σ2 O3 H'' σ2 O4 H4 → H4 D = some (.lst acc) := fun {O4 H4} y => (y.keep D _ hD2 fun i q => F5.dis i D q (.inr rfl)).1
        cases et : tst e2 with
        | ex a b => rw [et] at hl; cases hl
        | bad => rw [et] at hl; cases hl
        | ok b e3 =>
          rw [et] at hl
          intro O4 H4 x4 F6
          cases b with
          | false =>
            obtain ⟨O5, x5, F7⟩ := wipe_again F6 (own := own) hr
            have xx : Ext C.rf (wipe σ own) O2 H1 (wipe σ own) O5 H4 := by
              have y := (xs.trans x4).trans x5
              rw [hw] at y
              exact y
            rw [hw] at F7
            refine (if_neg Bool.false_ne_true).mpr ⟨O5, _, acc, done, xx, F7, keepD x4, (rd2.at x4).at x5, Nat.le_succ_of_le hdl, none_wiped F7 (fun v hv => wipeE_in hv), rest, hl, hzs⟩
          | true =>
            dsimp only at hl
            refine (if_pos rfl).mpr ⟨LA L0 D, O4, e3, F6, ?_⟩
            cases ee : elt e3 with
            | ex a b => rw [ee] at hl; cases hl
            | bad => rw [ee] at hl; cases hl
            | ok y e4 =>
              rw [ee] at hl
              dsimp only at hl
              cases en : lcD own tg tst elt (ds.drop (i + 1)) (wipeE e4 own) with
              | ex a b => rw [en] at hl; cases hl
              | bad => rw [en] at hl; cases hl
              | ok ys e5 =>
                rw [en] at hl
                cases hl
                intro O5 H5 x5 F7 yv ry
                have hD5 : H5 D = some (.lst acc) := keepD (x4.trans x5)
                have ra : Reps C.g (LL (LA L0 D) O5) H5 done acc := (rd2.at x4).at x5
                refine ⟨acc, hD5, ?_, ?_⟩
                · rw [← ra.length]
                  have : i < 1000000 := by omega
                  have h3 := big (n := 1000000) (Nat.le_refl _)
                  omega
                · obtain ⟨F8, xw⟩ := F7.wrA (us := acc ++ [yv]) hD5
                  obtain ⟨O6, x6, F9⟩ := wipe_again F8 (own := own) hr
                  have xx : Ext C.rf (wipe σ own) O2 H1 (wipe σ own) O6 (upd H5 D (.lst (acc ++ [yv]))) := by
                    have y := (xs.trans x4).trans x5
                    have z : Ext C.rf (wipe σ own) O2 H1 σ2 O5 (upd H5 D (.lst (acc ++ [yv]))) := ⟨fun a o e n => by
                        obtain ⟨e2, n2⟩ := y.keep a o e n
                        exact ⟨by rw [upd_ne (fun q => by rw [q, hD] at e; cases e)]; exact e2, n2⟩, y.stab, fun a o e => by
                        obtain ⟨o2, e2⟩ := y.old a o e
                        exact ⟨o2, by rw [upd_ne (fun q => by rw [q, hD] at e; cases e)]; exact e2⟩⟩
                    have q := z.trans x6
                    rw [hw] at q
                    exact q
                  rw [hw] at F9
                  exact ⟨O6, _, acc ++ [yv], done ++ [y], xx, F9, upd_same, (Reps.mono xw _ _ (ra.app (.one ry))).at x6, by rw [List.length_append]; simp; omega, none_wiped F9 (fun v hv => wipeE_in hv), ys, en, by rw [hzs, List.append_assoc]; rfl⟩
    · rintro H' ⟨O', e', acc, done, x, F', hacc, rd, hdl, nO, rest, hl, hzs⟩
      rw [List.drop_length] at hl
      cases hl
      rw [List.append_nil] at hzs
      subst hzs
      obtain ⟨x3, F5⟩ := unwipe n2 F2 x F' (fun a o e z => z.elim id fun q => by rw [q, hD] at e; cases e) nO
      have hlen : acc.length ≤ sizeLine := by
        rw [← rd.length]
        have : zs.length ≤ 1000000 := by omega
        exact big this
      exact h1 O' H' (x2.trans x3) (F5.less fun a z => .inl z) D acc (x1.none hD) hacc F5 hlen rd
theorem pd_lc {elt tge iter : Expr} {ifs : List Expr} {scope : Scope} {own : List (Str × Nat)} {pos : Pos} {src : M (List D)} {tg : Tg} {tst : M Bool} {me : M D} (hr : ∀ v ∈ own.map (·.2), C.rf v = false) (ht' : ∀ i ∈ tg.ix, i ∈ own.map (·.2)) (hc : X.calm = true) (hN : X.N.Nodup) (hi : PI X tge iter (EvI C src)) (ok : BlkOk X.N X.env.scope scope own)
    (hg : ∀ (s : Shared) (H : Hp) (C' : Addr) (cl : List (Str × Addr)) (fp : List Addr), PG (X.blk s H scope (compEnvC scope cl C' X.env) fp) tge (EvG C.blk tg)) (ht : ∀ (s : Shared) (H : Hp) (C' : Addr) (cl : List (Str × Addr)) (fp : List Addr), PTs (X.blk s H scope (compEnvC scope cl C' X.env) fp) ifs (EvT C.blk tst))
    (he : ∀ (s : Shared) (H : Hp) (C' : Addr) (cl : List (Str × Addr)) (fp : List Addr), PE (X.blk s H scope (compEnvC scope cl C' X.env) fp) elt (EvE C.blk me)) (hs : ∀ x, foldedSetIterable iter X.env x = pure x) :
    PE X (.ListComp elt [⟨tge, iter, ifs, 0⟩] scope pos) (EvF C (mLc (own.map (·.2)) src tg tst me)) := (pe_lc hc hN hi ok hg ht he hs).weak (lc_weak hr ht')
/-- name = [..], on one line -/
theorem qs_setLc {i : Nat} {y : Str} {py : Pos} {elt tge iter : Expr} {ifs : List Expr} {scope : Scope} {own : List (Str × Nat)} {pos spos : Pos} {src : M (List D)} {tg : Tg} {tst : M Bool} {me : M D} (hri : C.rf i = false) (hr : ∀ v ∈ own.map (·.2), C.rf v = false) (ht' : ∀ i ∈ tg.ix, i ∈ own.map (·.2)) (hc : X.calm = true) (hN : X.N.Nodup) (hy : X.N[i]? = some y) (hyl : X.env.scope.names.lookup y = some .local)
    (hsw : swapsWith (.ListComp elt [⟨tge, iter, ifs, 0⟩] scope pos) (some (.Name y py)) spos.line X.env = pure true) (hi : PI X tge iter (EvI C src)) (ok : BlkOk X.N X.env.scope scope own)
    (hg : ∀ (s : Shared) (H : Hp) (C' : Addr) (cl : List (Str × Addr)) (fp : List Addr), PG (X.blk s H scope (compEnvC scope cl C' X.env) fp) tge (EvG C.blk tg)) (ht : ∀ (s : Shared) (H : Hp) (C' : Addr) (cl : List (Str × Addr)) (fp : List Addr), PTs (X.blk s H scope (compEnvC scope cl C' X.env) fp) ifs (EvT C.blk tst))
    (he : ∀ (s : Shared) (H : Hp) (C' : Addr) (cl : List (Str × Addr)) (fp : List Addr), PE (X.blk s H scope (compEnvC scope cl C' X.env) fp) elt (EvE C.blk me)) (hs : ∀ x, foldedSetIterable iter X.env x = pure x) :
    PS X (.Assign [.Name y py] (.ListComp elt [⟨tge, iter, ifs, 0⟩] scope pos) spos) (EvS C (sSetF i (mLc (own.map (·.2)) src tg tst me))) := (ps_setLc hc hN hy hyl hsw hi ok hg ht he hs).weak fun D σ H ⟨L0, O, env, F, h⟩ => by
  refine lc_weak hr ht' σ H _ ⟨L0, O, env, F, (PostS.bindF h).imp fun ds e1 O1 H1 x1 F1 h1 a vs h0 ha FA z r => setF_end hri F x1 F1 h1 h0 ha FA z r⟩
end
end MP

/-! MP, part I: built-ins, methods of texts, f-strings. -/
namespace MP
open L2 PyProof.Rows PySem PySem.Spec

/-! ### types -/
def tyD : D → Option String
  | .non => some "NoneType"
  | .bl _ => some "bool"
  | .int _ => some "int"
  | .str _ => some "str"
  | .tup _ => some "tuple"
  | .lst _ => some "list"
  | .ins _ _ => none
theorem ty_of {g : G} {L : Addr → Prop} {H : Hp} {d : D} {v : V} {t : String} (r : RepP g L H d v) (h : tyD d = some t) : TyX g.K H v (.type t) := by
  cases d with
  | lst xs =>
    cases h
    obtain ⟨a, vs, rfl, s, _⟩ := r.lst
    rcases s with s | ⟨o, s⟩
    · exact .base (.lst s)
    · exact .base (.frz s)
  | non => cases h; have r := r.rep (by intro _ z; cases z); cases r; exact .base .non
  | bl b => cases h; have r := r.rep (by intro _ z; cases z); cases r; exact .base (.bl b)
  | int b => cases h; have r := r.rep (by intro _ z; cases z); cases r; exact .base (.int b)
  | str b => cases h; obtain ⟨rfl, _⟩ := r.rep (by intro _ z; cases z); exact .base (.str _)
  | tup xs =>
    cases h
    obtain ⟨a, vs, rfl, p, _⟩ := r.rep (by intro _ z; cases z)
    rcases p.sq with (s | ⟨o, s⟩) | ⟨o, its, n, e, c, _⟩
    · exact .base (.tup s)
    · exact .fTuple s
    · exact .kTuple e c
  | ins C fs => cases h
/-- is a value of one built-in type of another -/
def isiB (T : String) (d : D) : Option D := match tyD d with
  | some t => (kitB t T).map .bl
  | none => none
section
variable {X : Cx} {C : Cy}
theorem pd_isi {e : Expr} {m : M D} {y : Str} {p p2 pos : Pos} {T : String} (hK : C.g.K = X.K) (hg : Gl X "isinstance") (hm : X.mg "isinstance" = none) (he : PE X e (EvP C m)) (hy : PE X (.Name y p2) (tC (.ty T))) (hs : notStar e = true) :
    PE X (.Call (.Name "isinstance" p) [e, .Name y p2] [] pos) (EvE C (mUn (isiB T) m)) :=
  (pe_callB (call_isi (X := X)) hg hm boot_isinstance (pa_cons he (pa_cons hy pa_nil) (starEach_cons hs)) (by decide) (by decide) (starEach_cons hs) (plain_all (by rfl))).weak fun σ H Q ⟨L0, O, env, F, h⟩ =>
    ⟨L0, O, env, F, (Post.bind h).imp fun d e1 O1 H1 x1 F1 h1 v rv => by
      unfold isiB at h1
      cases et : tyD d with
      | none => rw [et] at h1; exact h1.elim
      | some t =>
        rw [et] at h1
        dsimp only at h1
        cases ek : kitB t T with
        | none => rw [ek] at h1; exact h1.elim
        | some b =>
          rw [ek] at h1
          refine ⟨v, .ty T, .type t, .type T, b, rfl, .ty T, ?_, kit_ty ek, h1.here F1 (.bl b) rfl⟩
          rw [← hK]
          exact ty_of rv et⟩
/-! ### built-ins of one value -/
theorem pd_cb1 {x : Str} {id : String} {e : Expr} {r : List V → Hp → VK → Prop} {f : D → Option D} {m : M D} {p pos : Pos} (hc : CallR X (.builtin id) r) (os : OC1 C.g r f) (hg : Gl X x) (hm : X.mg x = none) (hv : bootBuiltins x = some (.builtin id)) (hn : x ≠ "__name__") (hdb : (x == ("__debug__" : Str)) = false)
    (hs : notStar e = true) (he : PE X e (EvP C m)) : PE X (.Call (.Name x p) [e] [] pos) (EvE C (mUn f m)) :=
  (pe_callB hc hg hm hv (pa_cons he pa_nil (starEach_cons hs)) hn hdb (starEach_cons hs) (plain_all rfl)).weak (cb1_weak os)
theorem pd_ct1 {x : Str} {T : String} {e : Expr} {r : List V → Hp → VK → Prop} {f : D → Option D} {m : M D} {p pos : Pos} (hc : CallR X (.type T) r) (os : OC1 C.g r f) (hg : Gl X x) (hm : X.mg x = none) (hv : bootBuiltins x = some (.type T)) (hn : x ≠ "__name__") (hdb : (x == ("__debug__" : Str)) = false)
    (hs : notStar e = true) (he : PE X e (EvP C m)) : PE X (.Call (.Name x p) [e] [] pos) (EvE C (mUn f m)) :=
  (pe_callTy hc hg hm hv (pa_cons he pa_nil (starEach_cons hs)) hn hdb (starEach_cons hs) (plain_all rfl)).weak (cb1_weak os)
theorem pd_cbF1 {x : Str} {id : String} {e : Expr} {r : List V → Hp → VK → Prop} {f : D → Option (List D)} {m : M D} {p pos : Pos} (hc : CallR X (.builtin id) r) (os : OCF1 C.g r f) (hg : Gl X x) (hm : X.mg x = none) (hv : bootBuiltins x = some (.builtin id)) (hn : x ≠ "__name__") (hdb : (x == ("__debug__" : Str)) = false)
    (hs : notStar e = true) (he : PE X e (EvP C m)) : PE X (.Call (.Name x p) [e] [] pos) (EvF C (mUn f m)) :=
  (pe_callB hc hg hm hv (pa_cons he pa_nil (starEach_cons hs)) hn hdb (starEach_cons hs) (plain_all rfl)).weak (cbF1_weak os)
theorem pd_ctF1 {x : Str} {T : String} {e : Expr} {r : List V → Hp → VK → Prop} {f : D → Option (List D)} {m : M D} {p pos : Pos} (hc : CallR X (.type T) r) (os : OCF1 C.g r f) (hg : Gl X x) (hm : X.mg x = none) (hv : bootBuiltins x = some (.type T)) (hn : x ≠ "__name__") (hdb : (x == ("__debug__" : Str)) = false)
    (hs : notStar e = true) (he : PE X e (EvP C m)) : PE X (.Call (.Name x p) [e] [] pos) (EvF C (mUn f m)) :=
  (pe_callTy hc hg hm hv (pa_cons he pa_nil (starEach_cons hs)) hn hdb (starEach_cons hs) (plain_all rfl)).weak (cbF1_weak os)
theorem pd_cbN {x : Str} {id : String} {e : Expr} {es : List Expr} {r : List V → Hp → VK → Prop} {f : List D → Option D} {m : M (List D)} {p pos : Pos} (hc : CallR X (.builtin id) r) (os : OCN C.g r f) (hg : Gl X x) (hm : X.mg x = none) (hv : bootBuiltins x = some (.builtin id)) (hn : x ≠ "__name__") (hdb : (x == ("__debug__" : Str)) = false)
    (hs : (e :: es).all notStar = true) (ha : PA X (e :: es) (EvA C m)) : PE X (.Call (.Name x p) (e :: es) [] pos) (EvE C (mArgs f m)) := by
  have hs2 := hs
  rw [List.all_cons, Bool.and_eq_true] at hs2
  exact (pe_callB hc hg hm hv ha hn hdb (starEach_cons hs2.1) (plain_all hs2.2)).weak (cbN_weak os)
end
section
variable {g : G}
def lenD : D → Option D
  | .str s => some (.int s.length)
  | .tup xs => some (.int xs.length)
  | .lst xs => some (.int xs.length)
  | _ => none
def rLenU (K : PySem.W.Frag) : List V → Hp → VK → Prop := fun xs H Q => ∃ x n, xs = [x] ∧ LenV K x H n ∧ Q (.int n) H
theorem oc_len {K : PySem.W.Frag} (hK : g.K = K) : OC1 g (rLenU K) lenD := by
  subst hK
  intro L H d k x Q hl rx hf q
  unfold lenD at hf
  split at hf
  · cases hf
    obtain ⟨rfl, ok⟩ := rx.rep (by intro _ z; cases z)
    exact ⟨_, _, rfl, ⟨by rw [str_len]; exact ok.2, rfl⟩, by rw [str_len]; exact q _ H (Same.refl H) rfl⟩
  · cases hf
    obtain ⟨a, vs, rfl, p, r⟩ := rx.rep (by intro _ z; cases z)
    exact ⟨_, vs.length, rfl, .inr ⟨vs, p.sq, rfl⟩, by rw [← r.length]; exact q _ H (Same.refl H) rfl⟩
  · cases hf
    obtain ⟨a, vs, rfl, s, _, r⟩ := rx.lst
    exact ⟨_, vs.length, rfl, .inl ⟨vs, .inl s, rfl⟩, by rw [← r.length]; exact q _ H (Same.refl H) rfl⟩
  · cases hf
def tupD : D → Option D
  | .tup xs => some (.tup xs)
  | .lst xs => some (.tup xs)
  | _ => none
def rTupU (K : PySem.W.Frag) : List V → Hp → VK → Prop := fun xs H Q => ∃ p ys, xs = [.ref p] ∧ ((SqL K H p ys ∧ ∀ l, H l = none → Q (.ref l) (upd H l (.tup ys))) ∨ (SqT K H p ys ∧ Q (.ref p) H))
theorem oc_tup {K : PySem.W.Frag} (hK : g.K = K) : OC1 g (rTupU K) tupD := by
  subst hK
  intro L H d k x Q hl rx hf q
  unfold tupD at hf
  split at hf
  · cases hf
    obtain ⟨a, vs, rfl, p, r⟩ := rx.rep (by intro _ z; cases z)
    exact ⟨a, vs, rfl, .inr ⟨p.sq, q _ H (Same.refl H) ⟨a, vs, rfl, p, r⟩⟩⟩
  · cases hf
    obtain ⟨a, vs, rfl, s, z, r⟩ := rx.lst
    exact ⟨a, vs, rfl, .inl ⟨.inl s, fun l hl' => q _ _ (Same.new hl') (new_tup hl hl' r z)⟩⟩
  · cases hf
def lstF : D → Option (List D)
  | .tup xs => some xs
  | .lst xs => some xs
  | _ => none
def rLstU (K : PySem.W.Frag) : List V → Hp → VK → Prop := fun xs H Q => ∃ p ys, xs = [.ref p] ∧ (SqL K H p ys ∨ SqT K H p ys) ∧ ∀ l, H l = none → Q (.ref l) (upd H l (.lst ys))
theorem oc_lst {K : PySem.W.Frag} (hK : g.K = K) : OCF1 g (rLstU K) lstF := by
  subst hK
  intro L H d zs x Q hl rx hf q
  unfold lstF at hf
  split at hf
  · cases hf
    obtain ⟨a, vs, rfl, p, r⟩ := rx.rep (by intro _ z; cases z)
    refine ⟨a, vs, rfl, .inr p.sq, fun l hl' => ?_⟩
    obtain ⟨n, r2⟩ := new_lst hl hl' r
    exact q l vs _ hl' (Same.new hl') upd_same n p.2 r2
  · cases hf
    obtain ⟨a, vs, rfl, s, z, r⟩ := rx.lst
    refine ⟨a, vs, rfl, .inl (.inl s), fun l hl' => ?_⟩
    obtain ⟨n, r2⟩ := new_lst hl hl' r
    exact q l vs _ hl' (Same.new hl') upd_same n z r2
  · cases hf
def intF : D → Option D
  | .int i => some (.int i)
  | .bl b => some (.int (if b then 1 else 0))
  | .str s => if s.length ≤ 640 then (PySem.intText? ⟨s.toArray⟩).map .int else none
  | _ => none
def rIntU : List V → Hp → VK → Prop := fun xs H Q => ((∃ i, xs = [.int i] ∧ Q (.int i) H) ∨ ∃ k, xs = [.bl k] ∧ Q (.int (if k then 1 else 0)) H) ∨ (∃ a n, xs = [.str a] ∧ PySem.intText? a = some n ∧ a.length ≤ 640 ∧ Q (.int n) H)
theorem cr_intU {X : Cx} : CallR X (.type "int") rIntU := call_int1.or call_int_str
theorem oc_int : OC1 g rIntU intF := by
  intro L H d k x Q hl rx hf q
  unfold intF at hf
  split at hf
  · cases hf
    have rx := rx.rep (by intro _ z; cases z)
    cases rx
    exact .inl (.inl ⟨_, rfl, q _ H (Same.refl H) rfl⟩)
  · cases hf
    have rx := rx.rep (by intro _ z; cases z)
    cases rx
    exact .inl (.inr ⟨_, rfl, q _ H (Same.refl H) rfl⟩)
  · split at hf
    · rename_i s hs
      obtain ⟨rfl, ok⟩ := rx.rep (by intro _ z; cases z)
      obtain ⟨n, en, rfl⟩ := Option.map_eq_some_iff.mp hf
      exact .inr ⟨_, n, rfl, en, by rw [str_len]; exact hs, q _ H (Same.refl H) rfl⟩
    · cases hf
  · cases hf
/-- the digits -/
def digs (i : Int) : Tx := (Str.ofString (toString i)).cps.toList
theorem digs_eq (i : Int) : (⟨(digs i).toArray⟩ : Str) = Str.ofString (toString i) := by
  unfold digs
  simp
theorem digs_asc (i : Int) : ∀ c ∈ digs i, c < 0x110000 := fun c hc => by
  have h : digs i = (toString i).toList.map Char.toNat := PyProof.Rows.signs_ofString _
  rw [h] at hc
  obtain ⟨ch, _, rfl⟩ := List.mem_map.mp hc
  have := ch.valid
  have h3 : ch.toNat = ch.val.toNat := rfl
  rw [h3]
  rcases this with h | h
  · have : ch.val.toNat < 0xd800 := h
    omega
  · have : ch.val.toNat < 0x110000 := h.2
    omega
theorem digs_ok {i : Int} (h : i.natAbs.log2 < 1920) : TxOk (digs i) := ⟨digs_asc i, by
  have h2 : (toString i : Str).length ≤ sizeLine := int_text_fits h
  have e : (digs i).length = (Str.ofString (toString i)).length := by unfold digs; simp [Str.length]
  rw [e]; exact h2⟩
def strF : D → Option D
  | .int i => if i.natAbs.log2 < 1920 then some (.str (digs i)) else none
  | _ => none
def rStrU : List V → Hp → VK → Prop := fun xs H Q => ∃ i, xs = [.int i] ∧ i.natAbs.log2 < 1920 ∧ Q (.str (toString i)) H
theorem oc_str : OC1 g rStrU strF := by
  intro L H d k x Q hl rx hf q
  unfold strF at hf
  split at hf
  · split at hf
    · rename_i i hi
      cases hf
      have rx := rx.rep (by intro _ z; cases z)
      cases rx
      refine ⟨i, rfl, hi, q _ H (Same.refl H) ⟨?_, digs_ok hi⟩⟩
      rw [digs_eq]
    · cases hf
  · cases hf
def absF : D → Option D
  | .int i => some (.int (if i < 0 then -i else i))
  | _ => none
def rAbsU : List V → Hp → VK → Prop := fun xs H Q => ∃ i, xs = [.int i] ∧ Q (.int (if i < 0 then -i else i)) H
theorem oc_abs : OC1 g rAbsU absF := by
  intro L H d k x Q hl rx hf q
  unfold absF at hf
  split at hf
  · cases hf
    have rx := rx.rep (by intro _ z; cases z)
    cases rx
    exact ⟨_, rfl, q _ H (Same.refl H) rfl⟩
  · cases hf
def max2F : List D → Option D
  | [.int i, .int j] => some (.int (if j > i then j else i))
  | _ => none
def min2F : List D → Option D
  | [.int i, .int j] => some (.int (if j < i then j else i))
  | _ => none
def rMax2U : List V → Hp → VK → Prop := fun xs H Q => ∃ i j, xs = [.int i, .int j] ∧ Q (.int (if j > i then j else i)) H
def rMin2U : List V → Hp → VK → Prop := fun xs H Q => ∃ i j, xs = [.int i, .int j] ∧ Q (.int (if j < i then j else i)) H
theorem oc_max2 : OCN g rMax2U max2F := by
  intro L H ds k vs Q hl rs hf q
  unfold max2F at hf
  split at hf
  · cases hf
    obtain ⟨v, w, rfl, rv, rw'⟩ := reps2 rs
    cases rv; cases rw'
    exact ⟨_, _, rfl, q _ H (Same.refl H) rfl⟩
  · cases hf
theorem oc_min2 : OCN g rMin2U min2F := by
  intro L H ds k vs Q hl rs hf q
  unfold min2F at hf
  split at hf
  · cases hf
    obtain ⟨v, w, rfl, rv, rw'⟩ := reps2 rs
    cases rv; cases rw'
    exact ⟨_, _, rfl, q _ H (Same.refl H) rfl⟩
  · cases hf
/-- bools only -/
def blsOf : List D → Option (List Bool)
  | [] => some []
  | .bl b :: r => (blsOf r).map (b :: ·)
  | _ => none
def intsOf : List D → Option (List Int)
  | [] => some []
  | .int b :: r => (intsOf r).map (b :: ·)
  | _ => none
theorem bls_reps {L : Addr → Prop} {H : Hp} : ∀ {ds : List D} {vs : List V} {bs : List Bool}, Reps g L H ds vs → blsOf ds = some bs → vs = bs.map V.bl
  | [], vs, bs, r, h => by cases h; exact r
  | d :: ds, vs, bs, r, h => by
    obtain ⟨v, t, rfl, rv, rt⟩ := r
    cases d with
    | bl b =>
      obtain ⟨bs', h', rfl⟩ := Option.map_eq_some_iff.mp (show (blsOf ds).map (b :: ·) = some bs from h)
      have rv : v = .bl b := rv
      rw [rv, bls_reps rt h', List.map_cons]
    | _ => cases h
theorem ints_reps {L : Addr → Prop} {H : Hp} : ∀ {ds : List D} {vs : List V} {bs : List Int}, Reps g L H ds vs → intsOf ds = some bs → vs = bs.map V.int
  | [], vs, bs, r, h => by cases h; exact r
  | d :: ds, vs, bs, r, h => by
    obtain ⟨v, t, rfl, rv, rt⟩ := r
    cases d with
    | int b =>
      obtain ⟨bs', h', rfl⟩ := Option.map_eq_some_iff.mp (show (intsOf ds).map (b :: ·) = some bs from h)
      have rv : v = .int b := rv
      rw [rv, ints_reps rt h', List.map_cons]
    | _ => cases h
def allF : D → Option D
  | .lst xs => (blsOf xs).map fun bs => .bl (bs.all id)
  | _ => none
def anyF : D → Option D
  | .lst xs => (blsOf xs).map fun bs => .bl (bs.any id)
  | _ => none
theorem oc_all {K : PySem.W.Frag} (hK : g.K = K) : OC1 g (rAll K) allF := by
  subst hK
  intro L H d k x Q hl rx hf q
  unfold allF at hf
  split at hf
  · obtain ⟨bs, hb, rfl⟩ := Option.map_eq_some_iff.mp hf
    obtain ⟨a, vs, rfl, s, _, r⟩ := rx.lst
    exact ⟨a, bs, rfl, by rw [← bls_reps r hb]; exact .inl s, q _ H (Same.refl H) rfl⟩
  · cases hf
theorem oc_any {K : PySem.W.Frag} (hK : g.K = K) : OC1 g (rAny K) anyF := by
  subst hK
  intro L H d k x Q hl rx hf q
  unfold anyF at hf
  split at hf
  · obtain ⟨bs, hb, rfl⟩ := Option.map_eq_some_iff.mp hf
    obtain ⟨a, vs, rfl, s, _, r⟩ := rx.lst
    exact ⟨a, bs, rfl, by rw [← bls_reps r hb]; exact .inl s, q _ H (Same.refl H) rfl⟩
  · cases hf
def sumF : D → Option D
  | .lst xs => (intsOf xs).map fun bs => .int bs.sum
  | _ => none
theorem oc_sum {K : PySem.W.Frag} (hK : g.K = K) : OC1 g (rSum K) sumF := by
  subst hK
  intro L H d k x Q hl rx hf q
  unfold sumF at hf
  split at hf
  · obtain ⟨bs, hb, rfl⟩ := Option.map_eq_some_iff.mp hf
    obtain ⟨a, vs, rfl, s, _, r⟩ := rx.lst
    exact ⟨a, bs, rfl, by rw [← ints_reps r hb]; exact .inl s, q _ H (Same.refl H) rfl⟩
  · cases hf
def mxL : Int → List Int → Int
  | a, [] => a
  | a, b :: r => mxL (if b > a then b else a) r
def mnL : Int → List Int → Int
  | a, [] => a
  | a, b :: r => mnL (if b < a then b else a) r
theorem mxL_ge : ∀ (r : List Int) (a : Int), a ≤ mxL a r ∧ (∀ y ∈ r, y ≤ mxL a r) ∧ (mxL a r = a ∨ mxL a r ∈ r)
  | [], a => ⟨Int.le_refl _, fun _ h => by (cases h), .inl rfl⟩
  | b :: r, a => by
    obtain ⟨h1, h2, h3⟩ := mxL_ge r (if b > a then b else a)
    unfold mxL
    have ha : a ≤ (if b > a then b else a) := by split <;> omega
    have hb : b ≤ (if b > a then b else a) := by split <;> omega
    refine ⟨Int.le_trans ha h1, fun y hy => ?_, ?_⟩
    · rcases List.mem_cons.mp hy with e | e
      · rw [e]; exact Int.le_trans hb h1
      · exact h2 y e
    · rcases h3 with h | h
      · rw [h]
        split
        · exact .inr List.mem_cons_self
        · exact .inl rfl
      · exact .inr (List.mem_cons_of_mem _ h)
theorem mnL_le : ∀ (r : List Int) (a : Int), mnL a r ≤ a ∧ (∀ y ∈ r, mnL a r ≤ y) ∧ (mnL a r = a ∨ mnL a r ∈ r)
  | [], a => ⟨Int.le_refl _, fun _ h => by (cases h), .inl rfl⟩
  | b :: r, a => by
    obtain ⟨h1, h2, h3⟩ := mnL_le r (if b < a then b else a)
    unfold mnL
    have ha : (if b < a then b else a) ≤ a := by split <;> omega
    have hb : (if b < a then b else a) ≤ b := by split <;> omega
    refine ⟨Int.le_trans h1 ha, fun y hy => ?_, ?_⟩
    · rcases List.mem_cons.mp hy with e | e
      · rw [e]; exact Int.le_trans h1 hb
      · exact h2 y e
    · rcases h3 with h | h
      · rw [h]
        split
        · exact .inr List.mem_cons_self
        · exact .inl rfl
      · exact .inr (List.mem_cons_of_mem _ h)
def maxF : D → Option D
  | .lst xs => (match intsOf xs with
    | some (a :: r) => some (.int (mxL a r))
    | _ => none)
  | _ => none
def minF : D → Option D
  | .lst xs => (match intsOf xs with
    | some (a :: r) => some (.int (mnL a r))
    | _ => none)
  | _ => none
theorem oc_max {K : PySem.W.Frag} (hK : g.K = K) : OC1 g (rMax K) maxF := by
  subst hK
  intro L H d k x Q hl rx hf q
  unfold maxF at hf
  split at hf
  · split at hf
    · rename_i a0 r0 hb
      cases hf
      obtain ⟨a, vs, rfl, s, _, r⟩ := rx.lst
      refine ⟨a, a0 :: r0, rfl, by rw [← ints_reps r hb]; exact .inl s, by simp, fun m hm hy => ?_⟩
      obtain ⟨h1, h2, h3⟩ := mxL_ge r0 a0
      have e : m = mxL a0 r0 := by
        have e1 : mxL a0 r0 ≤ m := by
          rcases h3 with h | h
          · rw [h]; exact hy _ List.mem_cons_self
          · exact hy _ (List.mem_cons_of_mem _ h)
        have e2 : m ≤ mxL a0 r0 := by
          rcases List.mem_cons.mp hm with h | h
          · rw [h]; exact h1
          · exact h2 m h
        omega
      exact q _ H (Same.refl H) (by show V.int m = V.int _; rw [e])
    · cases hf
  · cases hf
theorem oc_min {K : PySem.W.Frag} (hK : g.K = K) : OC1 g (rMin K) minF := by
  subst hK
  intro L H d k x Q hl rx hf q
  unfold minF at hf
  split at hf
  · split at hf
    · rename_i a0 r0 hb
      cases hf
      obtain ⟨a, vs, rfl, s, _, r⟩ := rx.lst
      refine ⟨a, a0 :: r0, rfl, by rw [← ints_reps r hb]; exact .inl s, by simp, fun m hm hy => ?_⟩
      obtain ⟨h1, h2, h3⟩ := mnL_le r0 a0
      have e : m = mnL a0 r0 := by
        have e1 : m ≤ mnL a0 r0 := by
          rcases h3 with h | h
          · rw [h]; exact hy _ List.mem_cons_self
          · exact hy _ (List.mem_cons_of_mem _ h)
        have e2 : mnL a0 r0 ≤ m := by
          rcases List.mem_cons.mp hm with h | h
          · rw [h]; exact h1
          · exact h2 m h
        omega
      exact q _ H (Same.refl H) (by show V.int m = V.int _; rw [e])
    · cases hf
  · cases hf
end

/-! ### methods of texts -/
section
variable {X : Cx} {C : Cy} {o e : Expr} {mo me : M D} {apos pos : Pos}
theorem spl_in (S : List Nat) : ∀ (l : List Nat) (k : Nat) (acc p : List Nat), p ∈ TL.spl S k acc l → (∀ c ∈ p, c ∈ acc ∨ c ∈ l) ∧ p.length ≤ acc.length + l.length
  | [], k, acc, p, h => by
    rw [TL.spl_nil] at h
    have e : p = acc := by simpa using h
    rw [e]
    exact ⟨fun c hc => .inl hc, by omega⟩
  | c :: r, 0, acc, p, h => by
    have h : p ∈ (if TL.pre S (c :: r) = true then acc :: TL.spl S (S.length - 1) [] r else TL.spl S 0 (acc ++ [c]) r) := h
    split at h
    · rcases List.mem_cons.mp h with e | e
      · rw [e]
        exact ⟨fun c hc => .inl hc, by omega⟩
      · obtain ⟨h1, h2⟩ := spl_in S r _ [] p e
        exact ⟨fun c hc => (h1 c hc).elim (fun z => by cases z) fun z => .inr (List.mem_cons_of_mem _ z), by simp at h2 ⊢; omega⟩
    · obtain ⟨h1, h2⟩ := spl_in S r 0 (acc ++ [c]) p h
      refine ⟨fun d hd => ?_, by simp at h2 ⊢; omega⟩
      rcases h1 d hd with z | z
      · rcases List.mem_append.mp z with z | z
        · exact .inl z
        · have : d = c := by simpa using z
          exact .inr (by rw [this]; exact List.mem_cons_self)
      · exact .inr (List.mem_cons_of_mem _ z)
  | c :: r, k + 1, acc, p, h => by
    obtain ⟨h1, h2⟩ := spl_in S r k acc p h
    exact ⟨fun d hd => (h1 d hd).elim .inl fun z => .inr (List.mem_cons_of_mem _ z), by simp; omega⟩
def strOf : D → Option Tx
  | .str s => some s
  | _ => none
/-- a text's method of one value -/
def mMs {α : Type} (f : Tx → D → Option α) (a b : M D) : M α := do
  let x ← a
  let s ← lift (strOf x)
  let y ← b
  lift (f s y)
def OMS (g : G) (r : V → List V → Hp → VK → Prop) (f : Tx → D → Option D) : Prop := ∀ (L : Addr → Prop) (H : Hp) (s : Tx) (e k : D) (y : V) (Q : VK), (∀ a, L a → ∃ o, H a = some o) → TxOk s → Rep g L H e y → f s e = some k → (∀ v H', Same H H' → Rep g L H' k v → Q v H') → r (.str ⟨s.toArray⟩) [y] H Q
def OMSF (g : G) (r : V → List V → Hp → VK → Prop) (f : Tx → D → Option (List D)) : Prop := ∀ (L : Addr → Prop) (H : Hp) (s : Tx) (e : D) (zs : List D) (y : V) (Q : VK), (∀ a, L a → ∃ o, H a = some o) → TxOk s → Rep g L H e y → f s e = some zs →
  (∀ a vs H', H a = none → Same H H' → H' a = some (.lst vs) → ¬ L a → vs.length ≤ sizeLine → Reps g (fun b => L b ∨ b = a) H' zs vs → Q (.ref a) H') → r (.str ⟨s.toArray⟩) [y] H Q
theorem m1_weak {r : V → List V → Hp → VK → Prop} {f : Tx → D → Option D} (os : OMS C.g r f) (σ : L2.St) (H : Hp) (Q : VK) (h : EvE C (mMs f mo me) σ H Q) : tM1 r (EvP C mo) (EvE C me) σ H Q := by
  obtain ⟨L0, O, env, F, h⟩ := h
  refine ⟨L0, O, env, F, (Post.bind h).imp fun d e1 O1 H1 x1 F1 h1 v rv => ?_⟩
  have h1 := Post.bind h1
  cases d with
  | str s =>
    obtain ⟨rfl, ok⟩ := rv.rep (by intro _ z; cases z)
    refine ⟨⟨_, rfl⟩, L0, O1, e1, F1, (Post.bind (h1.here F1)).imp fun d2 e2 O2 H2 x2 F2 h2 u ru => ?_⟩
    cases ef : f s d2 with
    | none => rw [ef] at h2; exact h2.elim
    | some k =>
      rw [ef] at h2
      exact os _ H2 s d2 k u Q F2.trk ok ru ef fun v H' s' rv => h2 O2 H' (Ext.same s') (F2.same s') v rv
  | _ => exact h1.elim
theorem m1F_weak {r : V → List V → Hp → VK → Prop} {f : Tx → D → Option (List D)} (os : OMSF C.g r f) (σ : L2.St) (H : Hp) (Q : VK) (h : EvF C (mMs f mo me) σ H Q) : tM1 r (EvP C mo) (EvE C me) σ H Q := by
  obtain ⟨L0, O, env, F, h⟩ := h
  refine ⟨L0, O, env, F, (Post.bind h).imp fun d e1 O1 H1 x1 F1 h1 v rv => ?_⟩
  have h1 := Post.bind h1
  cases d with
  | str s =>
    obtain ⟨rfl, ok⟩ := rv.rep (by intro _ z; cases z)
    refine ⟨⟨_, rfl⟩, L0, O1, e1, F1, (Post.bind (h1.here F1)).imp fun d2 e2 O2 H2 x2 F2 h2 u ru => ?_⟩
    cases ef : f s d2 with
    | none => rw [ef] at h2; exact h2.elim
    | some k =>
      rw [ef] at h2
      exact os _ H2 s d2 k u Q F2.trk ok ru ef fun a vs H' n s' e nl z rv => h2 O2 H' (Ext.same s') (F2.same s') a vs (x1.none (x2.none n)) e (F2.newA n s' e) z (Reps.mono (XT.less fun b q => LA.cases q) _ _ rv)
  | _ => exact h1.elim
def splitF : Tx → D → Option (List D)
  | s, .str [c] => if s.length ≤ 1000000 ∧ c < 256 then some ((TL.spl [c] 0 [] s).map .str) else none
  | _, _ => none
theorem split_tx (s : Tx) (c : Nat) (hc : c < 256) : (Txt.split ⟨s.toArray⟩ ⟨#[c]⟩).map V.str = (TL.spl [c] 0 [] s).map fun t => V.str ⟨t.toArray⟩ := by
  have h := TL.split_spl ⟨s.toArray⟩ ⟨#[c]⟩ (by simp [TL.tl]) (TL.kind_ok (by simpa using hc))
  have e : TL.tl ⟨#[c]⟩ = [c] := rfl
  have e2 : TL.tl ⟨s.toArray⟩ = s := rfl
  rw [e, e2] at h
  rw [← h, List.map_map]
  refine List.map_congr_left fun z _ => ?_
  show V.str z = V.str ⟨(TL.tl z).toArray⟩
  rw [TL.mk_tl]
theorem reps_strs {g : G} {L : Addr → Prop} {H : Hp} : ∀ {ts : List Tx}, (∀ t ∈ ts, TxOk t) → Reps g L H (ts.map .str) (ts.map fun t => V.str ⟨t.toArray⟩)
  | [], _ => rfl
  | t :: ts, h => .cons ⟨rfl, h t List.mem_cons_self⟩ (reps_strs fun u hu => h u (List.mem_cons_of_mem _ hu))
theorem spl_len (S : List Nat) : ∀ (l : List Nat) (k : Nat) (acc : List Nat), (TL.spl S k acc l).length ≤ l.length + 1
  | [], k, acc => by rw [TL.spl_nil]; simp
  | c :: r, 0, acc => by
    show (if TL.pre S (c :: r) = true then acc :: TL.spl S (S.length - 1) [] r else TL.spl S 0 (acc ++ [c]) r).length ≤ _
    split
    · have := spl_len S r (S.length - 1) []
      simp; omega
    · have := spl_len S r 0 (acc ++ [c])
      simp; omega
  | c :: r, k + 1, acc => by
    have := spl_len S r k acc
    show (TL.spl S k acc r).length ≤ _
    simp; omega
def rSplit : V → List V → Hp → VK → Prop := fun x xs H Q => ∃ a b, x = .str a ∧ xs = [.str b] ∧ (b.length == 0) = false ∧ a.length + 2 ≤ sizeLine ∧ rNewStrs (Txt.split a b) H Q
theorem om_split {g : G} : OMSF g rSplit splitF := by
  intro L H s d zs y Q hl ok ry ef q
  unfold splitF at ef
  split at ef
  · rename_i c
    split at ef
    · rename_i hc
      cases ef
      obtain ⟨rfl, ok2⟩ := ry
      have hb := big hc.1
      have h24 : 1000000 + 2 ≤ sizeLine := by rw [sizeLine_eq]; decide
      refine ⟨_, _, rfl, rfl, rfl, by rw [str_len]; omega, fun p hp => ?_⟩
      have hz : ((TL.spl [c] 0 [] s).map fun t => V.str ⟨t.toArray⟩).length ≤ sizeLine := by
        rw [List.length_map]
        have := spl_len [c] s 0 []
        omega
      have et : (Txt.split ⟨s.toArray⟩ ⟨#[c]⟩).map V.str = _ := split_tx s c hc.2
      show Q (.ref p) (upd H p (.lst ((Txt.split ⟨s.toArray⟩ ⟨#[c]⟩).map V.str)))
      rw [et]
      have rr : Reps g L H ((TL.spl [c] 0 [] s).map .str) ((TL.spl [c] 0 [] s).map fun t => V.str ⟨t.toArray⟩) := reps_strs fun t ht => by
        obtain ⟨a1, a2⟩ := spl_in [c] s 0 [] t ht
        exact ⟨fun k hk => (a1 k hk).elim (fun z => by cases z) fun z => ok.1 k z, by simp at a2; omega⟩
      obtain ⟨n, r2⟩ := new_lst hl hp rr
      exact q p _ _ hp (Same.new hp) upd_same n hz r2
    · cases ef
  · cases ef
theorem pd_split (ho : PE X o (EvP C mo)) (he : PE X e (EvE C me)) (hs : starEach [e] X.env = [(false, eval e X.env)]) (hbase : attributeBase o "split" X.env (eval o X.env) = eval o X.env) (hline : (apos.endLine == pos.line) = true) :
    PE X (.Call (.Attribute o "split" apos) [e] [] pos) (EvF C (mMs splitF mo me)) := (pe_split ho he hs hbase hline).weak (m1F_weak om_split)
/-- texts only -/
def strsOf : List D → Option (List Tx)
  | [] => some []
  | .str s :: r => (strsOf r).map (s :: ·)
  | _ => none
theorem strs_reps {g : G} {L : Addr → Prop} {H : Hp} : ∀ {ds : List D} {vs : List V} {bs : List Tx}, Reps g L H ds vs → strsOf ds = some bs → vs = (bs.map fun t => (⟨t.toArray⟩ : Str)).map V.str ∧ ∀ t ∈ bs, TxOk t
  | [], vs, bs, r, h => by cases h; exact ⟨r, fun t ht => by cases ht⟩
  | d :: ds, vs, bs, r, h => by
    obtain ⟨v, t, rfl, rv, rt⟩ := r
    cases d with
    | str b =>
      obtain ⟨bs', h', rfl⟩ := Option.map_eq_some_iff.mp (show (strsOf ds).map (b :: ·) = some bs from h)
      obtain ⟨rfl, ok⟩ := rv
      obtain ⟨e, ok2⟩ := strs_reps rt h'
      exact ⟨by rw [e]; rfl, fun u hu => (List.mem_cons.mp hu).elim (fun z => by rw [z]; exact ok) (ok2 u)⟩
    | _ => cases h
def seqOf : D → Option (List D)
  | .lst xs => some xs
  | .tup xs => some xs
  | _ => none
def joinF (s : Tx) (d : D) : Option D := match seqOf d with
    | none => none
    | some xs => (match strsOf xs with
      | none => none
      | some ts => if (ts.map (·.length)).sum + ts.length * s.length ≤ 16777216 ∧ (TL.joinL s ts).length ≤ 1000000 then some (.str (TL.joinL s ts)) else none)
def rJoin (K : PySem.W.Frag) : V → List V → Hp → VK → Prop := fun x xs H Q => ∃ a p, ∃ ys : List Str, x = .str a ∧ xs = [.ref p] ∧ (SqL K H p (ys.map V.str) ∨ SqT K H p (ys.map V.str)) ∧ (ys.map (·.length)).sum + ys.length * a.length ≤ 16777216 ∧ Q (.str (Txt.join a ys)) H
theorem joinL_in (s : Tx) : ∀ (ts : List Tx) (c : Nat), c ∈ TL.joinL s ts → c ∈ s ∨ ∃ t ∈ ts, c ∈ t
  | [], c, h => by cases h
  | [p], c, h => .inr ⟨p, List.mem_cons_self, h⟩
  | p :: q :: r, c, h => by
    have h : c ∈ p ++ (s ++ TL.joinL s (q :: r)) := h
    rcases List.mem_append.mp h with h | h
    · exact .inr ⟨p, List.mem_cons_self, h⟩
    · rcases List.mem_append.mp h with h | h
      · exact .inl h
      · rcases joinL_in s (q :: r) c h with z | ⟨t, z1, z2⟩
        · exact .inl z
        · exact .inr ⟨t, List.mem_cons_of_mem _ z1, z2⟩
theorem om_join {g : G} {K : PySem.W.Frag} (hK : g.K = K) : OMS g (rJoin K) joinF := by
  subst hK
  intro L H s d k y Q hl ok ry ef q
  unfold joinF at ef
  have key : ∀ (xs : List D) (vs : List V) (a : Addr), y = .ref a → (SqL g.K H a vs ∨ SqT g.K H a vs) → Reps g L H xs vs → seqOf d = some xs → rJoin g.K (.str ⟨s.toArray⟩) [y] H Q := fun xs vs a ey sq rs es => by
    rw [es] at ef
    dsimp only at ef
    cases et : strsOf xs with
    | none => rw [et] at ef; cases ef
    | some ts =>
      rw [et] at ef
      dsimp only at ef
      split at ef
      · rename_i hz
        cases ef
        obtain ⟨e, ok2⟩ := strs_reps rs et
        have ej : Txt.join ⟨s.toArray⟩ (ts.map fun t => (⟨t.toArray⟩ : Str)) = ⟨(TL.joinL s ts).toArray⟩ := by
          rw [TL.join_eq]
          refine TL.ext_tl ?_
          rw [TL.tl_join]
          have e1 : ((ts.map fun t => (⟨t.toArray⟩ : Str)).map TL.tl) = ts := by
            rw [List.map_map]
            exact List.map_id'' (fun _ => rfl) _
          rw [e1] <;> rfl
        refine ⟨_, a, ts.map fun t => (⟨t.toArray⟩ : Str), rfl, by rw [ey], by rw [← e]; exact sq, ?_, ?_⟩
        · have e1 : ((ts.map fun t => (⟨t.toArray⟩ : Str)).map (·.length)) = ts.map (·.length) := by
            rw [List.map_map]
            exact List.map_congr_left fun t _ => str_len t
          rw [e1, List.length_map, str_len]
          exact hz.1
        · rw [ej]
          refine q _ H (Same.refl H) ⟨rfl, fun c hc => ?_, big hz.2⟩
          rcases joinL_in s ts c hc with z | ⟨t, z1, z2⟩
          · exact ok.1 c z
          · exact (ok2 t z1).1 c z2
      · cases ef
  cases d with
  | lst xs =>
    obtain ⟨a, vs, rfl, p, rs⟩ := ry
    exact key xs vs a rfl (.inl p.sq) rs rfl
  | tup xs =>
    obtain ⟨a, vs, rfl, p, rs⟩ := ry
    exact key xs vs a rfl (.inr p.sq) rs rfl
  | _ => cases ef
theorem pd_join (hK : C.g.K = X.K) (ho : PE X o (EvP C mo)) (he : PE X e (EvE C me)) (hs : starEach [e] X.env = [(false, eval e X.env)]) (hbase : attributeBase o "join" X.env (eval o X.env) = eval o X.env) (hline : (apos.endLine == pos.line) = true) :
    PE X (.Call (.Attribute o "join" apos) [e] [] pos) (EvE C (mMs joinF mo me)) := (pe_join ho he hs hbase hline).weak (m1_weak (om_join hK))
def findF : Tx → D → Option D
  | s, .str t => some (.int (Txt.find ⟨s.toArray⟩ ⟨t.toArray⟩))
  | _, _ => none
def rFind : V → List V → Hp → VK → Prop := fun x xs H Q => ∃ a b, x = .str a ∧ xs = [.str b] ∧ Q (.int (Txt.find a b)) H
theorem om_find {g : G} : OMS g rFind findF := by
  intro L H s d k y Q hl ok ry ef q
  unfold findF at ef
  split at ef
  · cases ef
    obtain ⟨rfl, _⟩ := ry
    exact ⟨_, _, rfl, rfl, q _ H (Same.refl H) rfl⟩
  · cases ef
theorem pd_find (ho : PE X o (EvP C mo)) (he : PE X e (EvE C me)) (hs : starEach [e] X.env = [(false, eval e X.env)]) (hbase : attributeBase o "find" X.env (eval o X.env) = eval o X.env) (hline : (apos.endLine == pos.line) = true) :
    PE X (.Call (.Attribute o "find" apos) [e] [] pos) (EvE C (mMs findF mo me)) := (pe_m1 F.slot_str_find F.type_str_find mt_find ho he hs hbase hline).weak (m1_weak om_find)

/-! ### f-strings -/
def fmtF : D → Option D
  | .str s => some (.str s)
  | .int i => if i.natAbs.log2 < 1920 then some (.str (digs i)) else none
  | _ => none
theorem pd_fmt (he : PE X e (EvE C me)) : PE X (.FormattedValue e (-1) none pos) (EvE C (mUn fmtF me)) := (pe_fmt he).weak fun σ H Q ⟨L0, O, env, F, h⟩ =>
  ⟨L0, O, env, F, (Post.bind h).imp fun d e1 O1 H1 x1 F1 h1 v rv => by
    cases d with
    | str s =>
      obtain ⟨rfl, ok⟩ := rv
      exact .inl ⟨_, rfl, by rw [str_len]; exact ok.2, h1.here F1 _ ⟨rfl, ok⟩⟩
    | int i =>
      have rv : v = .int i := rv
      subst rv
      have h1 : Post C L0 O1 H1 σ (lift (if i.natAbs.log2 < 1920 then some (.str (digs i)) else none) e1) (fun d _ O' H' => ∀ v, Rep C.g (LL L0 O') H' d v → Q v H') := h1
      by_cases hi : i.natAbs.log2 < 1920
      · rw [if_pos hi] at h1
        refine .inr ⟨i, rfl, hi, h1.here F1 _ ⟨?_, digs_ok hi⟩⟩
        rw [digs_eq]
      · rw [if_neg hi] at h1; exact h1.elim
    | _ => exact h1.elim⟩
def mJs : List (M D) → Tx → M D
  | [], acc => fun e => .ok (.str acc) e
  | m :: ms, acc => do
    let d ← m
    let s ← lift (strOf d)
    if acc.length + s.length ≤ 1000000 then mJs ms (acc ++ s) else bad
inductive Pjs (X : Cx) (C : Cy) : List Expr → List (M D) → Prop where
  | nil : Pjs X C [] []
  | cons {e : Expr} {m : M D} {es : List Expr} {ms : List (M D)} (h : PE X e (EvE C m)) (r : Pjs X C es ms) : Pjs X C (e :: es) (m :: ms)
theorem Pjs.pj {es : List Expr} {ms : List (M D)} (h : Pjs X C es ms) : PJ X es (ms.map (EvE C)) := by
  induction h with
  | nil => exact .nil
  | cons h r ih => exact .cons h ih
theorem js_run {Q : VK} {σ : L2.St} {L0 : Addr → Prop} : ∀ (ms : List (M D)) (acc : Tx) (O : Own) (H : Hp) (env : Env), TxOk acc → C.F L0 O H σ env → Post C L0 O H σ (mJs ms acc env) (fun d _ O' H' => ∀ v, Rep C.g (LL L0 O') H' d v → Q v H') →
    tJs (ms.map (EvE C)) ⟨acc.toArray⟩ σ H fun out H1 => Q (.str out) H1
  | [], acc, O, H, env, ok, F, h => h.here F _ ⟨rfl, ok⟩
  | m :: ms, acc, O, H, env, ok, F, h => by
    refine ⟨L0, O, env, F, (Post.bind h).imp fun d e1 O1 H1 x1 F1 h1 v rv => ?_⟩
    have h1 := Post.bind h1
    cases d with
    | str s =>
      obtain ⟨rfl, ok2⟩ := rv
      have h1 := h1.here F1
      by_cases hz : acc.length + s.length ≤ 1000000
      · rw [if_pos hz] at h1
        refine ⟨_, rfl, by rw [str_app, str_len, List.length_append]; exact big hz, ?_⟩
        rw [str_app]
        exact js_run ms (acc ++ s) O1 H1 e1 (ok.app ok2 (big hz)) F1 h1
      · rw [if_neg hz] at h1; exact h1.elim
    | _ => exact h1.elim
theorem pd_joined {v1 v2 : Expr} {rest : List Expr} {ms : List (M D)} (h : Pjs X C (v1 :: v2 :: rest) ms) : PE X (.JoinedStr (v1 :: v2 :: rest) pos) (EvE C (mJs ms [])) := (pe_joined h.pj).weak fun σ H Q ⟨L0, O, env, F, h⟩ =>
  js_run ms [] O H env ⟨fun c hc => (by cases hc), Nat.zero_le _⟩ F h
theorem pd_joined1 (he : PE X e (EvE C me)) : PE X (.JoinedStr [e] pos) (EvE C me) := pe_joined1 he
end

/-! ### constants -/
section
variable {X : Cx} {C : Cy}
theorem pd_int {i : Int} {j pos} : PE X (.Constant (.int i) j pos) (EvE C (mC (.int i))) := pd_c pe_int fun _ _ => rfl
theorem pd_bl {b j pos} : PE X (.Constant (.bool b) j pos) (EvE C (mC (.bl b))) := pd_c pe_bl fun _ _ => rfl
theorem pd_non {j pos} : PE X (.Constant .none j pos) (EvE C (mC .non)) := pd_c pe_non fun _ _ => rfl
def okT (s : Tx) : Bool := s.all (· < 0x110000) && decide (s.length ≤ 1000000)
theorem okT_ok {s : Tx} (h : okT s = true) : TxOk s := by
  unfold okT at h
  rw [Bool.and_eq_true] at h
  exact ⟨fun c hc => by simpa using List.all_eq_true.mp h.1 c hc, big (of_decide_eq_true h.2)⟩
theorem pd_str {x : Str} {s : Tx} {j pos} (hs : x = ⟨s.toArray⟩) (h : okT s = true) : PE X (.Constant (.str x) j pos) (EvE C (mC (.str s))) := pd_c pe_str fun _ _ => ⟨by rw [hs], okT_ok h⟩
/-- -n -/
theorem pd_neg {i : Int} {j : Nat} {p pos : Pos} : PE X (.UnaryOp .USub (.Constant (.int i) j p) pos) (EvE C (mC (.int (-i)))) := by
  refine pd_c (v := .int (-i)) ?_ fun _ _ => rfl
  exact (pe_un un_neg (pe_int (i := i))).weak fun σ H Q h => ⟨i, rfl, h⟩
/-- a text of the module -/
theorem pd_globS {x : Str} {s : Tx} {u : Value} {pos : Pos} (hg : Gl X x) (hm : X.mg x = some u) (r : RelV (.str ⟨s.toArray⟩) u) (h : okT s = true) (hd : (x == ("__debug__" : Str)) = false) : PE X (.Name x pos) (EvE C (mC (.str s))) := pd_c (pe_glob hg hm r hd) fun _ _ => ⟨rfl, okT_ok h⟩
theorem pd_globI {x : Str} {i : Int} {u : Value} {pos : Pos} (hg : Gl X x) (hm : X.mg x = some u) (r : RelV (.int i) u) (hd : (x == ("__debug__" : Str)) = false) : PE X (.Name x pos) (EvE C (mC (.int i))) := pd_c (pe_glob hg hm r hd) fun _ _ => rfl
/-- flat data, as a value that needs no heap -/
inductive Flat : D → V → Prop where
  | non : Flat .non .non
  | bl (b : Bool) : Flat (.bl b) (.bl b)
  | int (i : Int) : Flat (.int i) (.int i)
  | str {s : Tx} (h : okT s = true) : Flat (.str s) (.str ⟨s.toArray⟩)
inductive Flats : List D → List V → Prop where
  | nil : Flats [] []
  | cons {d : D} {v : V} {ds : List D} {vs : List V} (h : Flat d v) (r : Flats ds vs) : Flats (d :: ds) (v :: vs)
theorem Flat.rep {g : G} {L : Addr → Prop} {H : Hp} {d : D} {v : V} (h : Flat d v) : Rep g L H d v := by
  cases h with
  | str h => exact ⟨rfl, okT_ok h⟩
  | _ => rfl
theorem Flats.reps {g : G} {L : Addr → Prop} {H : Hp} {ds : List D} {vs : List V} (h : Flats ds vs) : Reps g L H ds vs := by
  induction h with
  | nil => rfl
  | cons h r ih => exact .cons h.rep ih
/-- a tuple of the module -/
theorem pd_globT {x : Str} {a : Addr} {ds : List D} {vs : List V} {pos : Pos} (hK : C.g.K = X.K) (hg : Gl X x) (hm : X.mg x = some (.ref a)) (ht : SqT X.K (fun _ => none) a vs) (hz : vs.length ≤ sizeLine) (fl : Flats ds vs) (hd : (x == ("__debug__" : Str)) = false) : PE X (.Name x pos) (EvE C (mC (.tup ds))) :=
  pd_c (pe_glob (v := .ref a) hg hm rfl hd) fun _ _ => ⟨a, vs, rfl, ⟨.inr (by rw [hK]; exact ht), hz⟩, fl.reps⟩
end
end MP

/-! MP, part J: stores to places, returns, raise, try, the def rule. -/
namespace MP
open L2 PyProof.Rows PySem PySem.Spec

/-! ### x[i] = e, x a slot's own list -/
def setIx (k : D) (d : D) (xs : List D) : Option (List D) := match k with
  | .int j => (ixN xs.length j).map fun p => xs.set p d
  | _ => none
def sIx (i : Nat) (mi me : M D) : MS := sE me fun d => sE (chkO i) fun _ => sE mi fun k => fun e => match ownD i e with
  | none => .bad
  | some xs => (match setIx k d xs with
    | none => .bad
    | some ys => .ok .nx (e.set i (some (.ml ys))))
section
variable {X : Cx} {C : Cy} {pos : Pos}
theorem qs_ix {i : Nat} {x : Str} {p p2 : Pos} {ei e : Expr} {mi me : M D} (hx : PE X (.Name x p) (tVar i)) (hi : PE X ei (EvE C mi)) (he : PE X e (EvE C me)) (ha : ∀ v, assign (.Subscript (.Name x p) ei p2) X.env v = (do
      let ov ← holding [v] (eval (.Name x p) X.env)
      let iv ← holding [v, ov] (eval ei X.env)
      standAt p2
      holding [v, ov, iv] (setItem ov iv v)
      release [v, ov, iv] [])) (hs : swapsWithSole [.Subscript (.Name x p) ei p2] e pos.line X.env = pure false) (hw : swappedStores [.Subscript (.Name x p) ei p2] e X.env = pure none)
    (h1 : (assignEach [.Subscript (.Name x p) ei p2] X.env).map (·.2) = [assign (.Subscript (.Name x p) ei p2) X.env]) : PS X (.Assign [.Subscript (.Name x p) ei p2] e pos) (EvS C (sIx i mi me)) :=
  (ps_asg he (pg_sub hx hi set_list ha) hs hw h1).weak fun D σ H ⟨L0, O, env, F, h⟩ => by
    refine ⟨L0, O, env, F, (PostS.bindE h).imp fun d e1 O1 H1 x1 F1 h1 v rv => ?_⟩
    have h1 := PostS.bindE h1
    have s := F1.sl i
    unfold chkO at h1
    split at h1
    · rename_i ds hq
      rw [hq] at s
      obtain ⟨a, vs, hO, hσ, hb, z, r⟩ := s
      refine ⟨.ref a, hσ, L0, O1, e1, F1, (PostS.bindE (h1.here F1)).imp fun k e2 O2 H2 x2 F2 h2 w rw' => ?_⟩
      cases eo : ownD i e2 with
      | none => rw [eo] at h2; exact h2.elim
      | some xs =>
        rw [eo] at h2
        dsimp only at h2
        obtain ⟨b, us, hO2, hσ2, hb2, z2, r2, hi2⟩ := F2.ownd eo
        rw [hσ] at hσ2
        cases hσ2
        unfold setIx at h2
        split at h2
        · exact h2.elim
        · rename_i ys ey
          split at ey
          · rename_i j
            obtain ⟨q, eq, rfl⟩ := Option.map_eq_some_iff.mp ey
            have rw' : w = .int j := rw'
            subst rw'
            refine ⟨a, us, j, q, rfl, rfl, hb2, by rw [← r2.length]; exact eq, ?_⟩
            obtain ⟨ex, F3⟩ := F2.wr (us := us.set q v) (ds := xs.set q d) hO2 hi2 hσ (by rw [List.length_set]; exact z2) (r2.set q (rv.at x2))
            exact h2 σ O2 _ ex F3
          · cases ey
    · exact h1.elim
/-- return x, x a local name -/
def sRetX (i : Nat) : MS := fun e => match e[i]? with
  | some (some (.p d)) => .ok (.rt d) e
  | some (some (.ml xs)) => .ok (.rtx i xs) e
  | _ => .bad
theorem qs_retX {i : Nat} {x : Str} {p : Pos} (hr : C.rf i = false) (hx : PE X (.Name x p) (tVar i)) : PS X (.Return (some (.Name x p)) pos) (EvS C (sRetX i)) := (ps_ret hx).weak fun D σ H ⟨L0, O, env, F, h⟩ => by
  have s := F.sl i
  unfold sRetX at h
  split at h
  · rename_i d hq
    rw [hq] at s
    obtain ⟨_, v, e, r⟩ := s
    exact ⟨v, e, h.here F v r⟩
  · rename_i ds hq
    rw [hq] at s
    obtain ⟨a, vs, hO, hσ, hb, z, r⟩ := s
    exact ⟨.ref a, hσ, h.here F a vs hr hO hb z r⟩
  · exact h.elim
/-- return a list just made -/
def sRetF (m : M (List D)) : MS := sE m fun ds e => .ok (.rtf ds) e
theorem qs_retF {e : Expr} {m : M (List D)} (he : PE X e (EvF C m)) : PS X (.Return (some e) pos) (EvS C (sRetF m)) := (ps_ret he).weak fun D σ H ⟨L0, O, env, F, h⟩ =>
  ⟨L0, O, env, F, (PostS.bindE h).imp fun ds e1 O1 H1 x1 F1 h1 a vs h0 ha FA z r => h1.here F1 a vs (F.fresh h0).2 ha FA z r⟩
/-- a call (or another expression that makes a list) whose value is dropped -/
def sDropF (m : M (List D)) : MS := sE m fun _ => sNx
theorem qs_dropF {e : Expr} {m : M (List D)} (hc : notComp e = true) (he : PE X e (EvF C m)) : PS X (.Expr e pos) (EvS C (sDropF m)) := (ps_expr he (swaps_no hc)).weak fun D σ H ⟨L0, O, env, F, h⟩ =>
  ⟨L0, O, env, F, (PostS.bindE h).imp fun d e1 O1 H1 x1 F1 h1 a vs _ _ _ _ _ => h1.here F1⟩
end

/-! ### raise C(..), C an own class over ValueError -/
/-- the promise of such a class's __init__: its fields are what it is made with -/
def spIni (K : PySem.W.Frag) (C : Addr) (names : List Tx) : Sp := fun vs H Q _ => ∃ (a : Addr) (ws : List V), vs = .ref a :: ws ∧ ws.length = names.length ∧ OexC K C ∧ H a = some (exo a C none) ∧
  ∀ (dx : Addr) (fs : List (Str × V)), H dx = none → dx ≠ a → FldOk names ws fs → Q .non (upd (upd H dx (exd dx fs)) a (exo a C (some dx)))
def sRaise (cls : Tx) (k : Nat) (m : M (List D)) : MS := sE m fun ds e => if ds.length = k then .ex ⟨cls, ds⟩ e else .bad
section
variable {X : Cx} {C : Cy} {pos : Pos}
theorem FldOk.nil {names : List Tx} {ws : List V} {fs : List (Str × V)} (h : FldOk names ws fs) : ws.length = names.length := h.1
theorem qs_raise {x : Str} {cls : Tx} {fI : Addr} {k : Nat} {fd : FuncData} {ps : List Str} {e : Expr} {es : List Expr} {m : M (List D)} {p cpos : Pos} (hc : X.calm = true) (tk : Takes X C.W) (hK : C.g.K = X.K) (T : OexC X.K (C.g.ca cls)) (iC : PySem.W.findIn X.K (.ref (C.g.ca cls)) "__init__" = some (some (.ref fI))) (tI : PySem.W.typeIn X.K (.ref fI) = some (.type "function"))
    (F1 : FnOk X.prog X.w X.K X.mg X.base CX0 k fI fd ps (spIni X.K (C.g.ca cls) (C.g.fl cls))) (hr : Room (k + 1) X.A) (hb : Binds X.K fd ps []) (hg : Gl X x) (hm : X.mg x = some (.ref (C.g.ca cls))) (ha : PA X (e :: es) (EvA C m)) (hdb : (x == ("__debug__" : Str)) = false) (hs : (e :: es).all notStar = true)
    (hsmall : (C.g.fl cls).length ≤ 900) : PS X (.Raise (some (.Call (.Name x p) (e :: es) [] cpos)) none pos) (EvS C (sRaise cls (C.g.fl cls).length m)) := by
  have hs2 := hs
  rw [List.all_cons, Bool.and_eq_true] at hs2
  refine (ps_raise hc tk (pmk_oex (pos := cpos) T iC tI F1 hr hb .nil pass0 hg hm ha hdb (starEach_cons hs2.1) (plain_all hs2.2))).weak fun D σ H ⟨L0, O, env, F, h⟩ => ?_
  refine ⟨L0, O, env, F, (PostS.bindE h).imp fun ds e1 O1 H1 x1 F1 h1 vs rs => ?_⟩
  by_cases hk : ds.length = (C.g.fl cls).length
  · rw [if_pos hk] at h1
    have hl : vs.length = (C.g.fl cls).length := by rw [← rs.length]; exact hk
    refine ⟨by omega, fun a hn => ⟨a, vs, by rw [List.append_nil], hl, T, upd_same, fun dx fs hdx hne fo => ⟨rfl, dx, fs, upd_same, by rw [upd_ne hne]; exact upd_same, ?_, ?_⟩⟩⟩
    · rw [upd_ne hne] at hdx; exact hdx
    · have hdx1 : H1 dx = none := by rw [upd_ne hne] at hdx; exact hdx
      have s : Same H1 (upd (del (upd (upd (upd H1 a (exo a (C.g.ca cls) none)) dx (exd dx fs)) a (exo a (C.g.ca cls) (some dx))) a) dx (.xd fs)) := fun b o eb => by
        have nb1 : b ≠ dx := fun q => by rw [q, hdx1] at eb; cases eb
        have nb2 : b ≠ a := fun q => by rw [q, hn] at eb; cases eb
        rw [upd_ne nb1, del_ne nb2, upd_ne nb2, upd_ne nb1, upd_ne nb2]
        exact eb
      refine h1 _ _ σ O1 _ (Ext.same s) (F1.same s) ⟨rfl, dx, fs, vs, rfl, upd_same, fun q => ?_, fo, Reps.mono (XT.same s) ds vs rs⟩
      obtain ⟨o, eo⟩ := F1.trk dx q
      rw [hdx1] at eo; cases eo
  · rw [if_neg hk] at h1; exact h1.elim
end

/-! ### try .. except C as e -/
def calmE (e : Env) : Bool := e.all fun v => match v with
  | some (.x _) => false
  | _ => true
def okFl (i : Nat) : Fl → Bool
  | .rtx k _ => k != i
  | _ => true
def sTryAs (i : Nat) (hit : Tx → Option Bool) (body suite : MS) : MS := fun e => match body e with
  | .ok fl e' => .ok fl e'
  | .ex x e' => (match hit x.cls with
    | some true => if calmE e' && decide (i < e'.length) then (match suite (e'.set i (some (.x x))) with
      | .ok fl e2 => if calmE (e2.set i none) && okFl i fl then .ok fl (e2.set i none) else .bad
      | _ => .bad) else .bad
    | some false => .ex x e'
    | none => .bad)
  | .bad => .bad
def Cy.su (C : Cy) (a : Addr) (cls : Value) (d : Option Addr) : Cy := { C with W := WF, xs := fun b => if b = a then some (cls, d) else none }
section
variable {g : G} {rf : Nat → Bool} {dm L0 : Addr → Prop} {xs xs' : XTab} {O : Own} {H : Hp} {σ : L2.St} {env : Env}
theorem calmE_get {e : Env} (h : calmE e = true) {i : Nat} {x : Exn} (q : e[i]? = some (some (.x x))) : False := by
  unfold calmE at h
  have := List.all_eq_true.mp h _ (List.mem_of_getElem? q)
  simp at this
theorem FRel.tab (F : FRel g rf dm L0 xs O H σ env) (h : calmE env = true) : FRel g rf dm L0 xs' O H σ env := by
  refine ⟨F.len, fun i => ?_, F.inj, F.dis, F.lok, F.dom, F.own⟩
  have s := F.sl i
  match hq : env[i]? with
  | none => rw [hq] at s; exact s
  | some none => rw [hq] at s; exact s
  | some (some (.p d)) => rw [hq] at s; exact s
  | some (some (.ml ds)) => rw [hq] at s; exact s
  | some (some (.x d)) => exact (calmE_get h hq).elim
theorem FRel.setX {i : Nat} {x : Exn} {a : Addr} {dd : Addr} {vfs : List (Str × V)} {vs : List V} (F : FRel g rf dm L0 xs O H σ env) (hi : i < env.length) (hx : xs a = some (.ref (g.ca x.cls), some dd)) (h : H dd = some (.xd vfs)) (nl : ¬ LL L0 O dd) (fo : FldOk (g.fl x.cls) vs vfs) (r : Reps g (LL L0 O) H x.fs vs) :
    FRel g rf dm L0 xs (offO O i) H (σ.set i (some (.ref a))) (env.set i (some (.x x))) := by
  have less : XT (LL L0 O) H (LL L0 (offO O i)) H := XT.less fun a z => offO_less z
  refine ⟨by rw [List.length_set, List.length_set]; exact F.len, fun j => ?_, fun j k b p q => F.inj j k b (offO_some p).2 (offO_some q).2, fun j b p => F.dis j b (offO_some p).2, F.lok, F.dom, fun j b p q => F.own j b p (offO_some q).2⟩
  by_cases e : j = i
  · subst e
    rw [offO_same, List.getElem?_set_self hi, List.getElem?_set_self (by rw [← F.len]; exact hi)]
    exact ⟨rfl, a, dd, vfs, vs, rfl, hx, h, fun z => nl (offO_less z), fo, Reps.mono less _ vs r⟩
  · rw [List.getElem?_set_ne (Ne.symm e), List.getElem?_set_ne (Ne.symm e), offO_ne e]
    exact SR.mono less (fun _ _ _ q => q) (F.sl j)
end
section
variable {X : Cx} {C : Cy} {x n : Str} {c : Value} {i : Nat} {body suite : List Stmt} {b₀ : Stmt} {np pos pos' : Pos} {mb ms : MS} {hit : Tx → Option Bool}
theorem qs_try_as (hK : C.g.K = X.K) (hri : C.rf i = false) (hs : X.stack = X.env :: X.outer) (hf : X.env.frame = some X.env.locals) (hN : X.N.Nodup) (hi : X.N[i]? = some n) (hln : X.env.kindOf n = some .local) (hc : Names X x c) (tk : Takes X C.W) (hh : ∀ cl b, hit cl = some b → PySem.W.exmOne X.K (.ref (C.g.ca cl)) c = some b)
    (hb : ∀ (W : WX) (pn : List (Addr × Obj)) (xe : Value → Shared → Prop), Takes (X.tr pn xe) W → PassesOwn (model X.prog X.w) X.A X.env xe → PSs (X.tr pn xe) body (EvS { C with W := W } mb))
    (hsu : ∀ (a : Addr) (oe : Obj) (cls : Value) (d : Option Addr) (pn : List (Addr × Obj)), Zc cls d oe → (∃ vs, oe.data = .fields vs) → PSs (X.suite a ((a, oe) :: pn)) (b₀ :: suite) (EvS (C.su a cls d) ms)) :
    PS X (.Try body [.ExceptHandler (some (.Name x np)) (some n) (b₀ :: suite) pos'] [] [] pos) (EvS C (sTryAs i hit mb ms)) :=
  (ps_try_as (tb := fun W => EvS { C with W := W } mb) (ts := fun a cls d => EvS (C.su a cls d) ms) (Wout := C.W) hs hf hN hi hln hc tk hb hsu).weak fun D σ H ⟨L0, O, env, F, h⟩ => by
    refine ⟨L0, O, env, F, ?_⟩
    unfold sTryAs at h
    cases em : mb env with
    | bad => rw [em] at h; exact h.elim
    | ok fl e1 =>
      rw [em] at h
      intro σ' O' H' x' F'
      have h' := h σ' O' H' x' F'
      cases fl <;> exact h'
    | ex y e1 =>
      rw [em] at h
      dsimp only at h
      intro cls dd σ' O' H' x' F' xr
      cases eh : hit y.cls with
      | none => rw [eh] at h; exact h.elim
      | some b =>
        rw [eh] at h
        have ecls : cls = .ref (C.g.ca y.cls) := xr.1
        refine ⟨b, by rw [ecls]; exact hh _ _ eh, fun hbt a ha => ?_, fun hbf => ?_⟩
        · subst hbt
          dsimp only at h
          split at h
          · rename_i hnx
            rw [Bool.and_eq_true] at hnx
            have hil : i < e1.length := of_decide_eq_true hnx.2
            obtain ⟨e1', d', vfs, vs, e2, hd, nl, fo, r⟩ := xr
            have F0 : FRel C.g C.rf C.dm L0 C.xs O' H' σ' e1 := F'
            have F2 := (F0.tab (xs' := (C.su a cls dd).xs) hnx.1).setX (i := i) (x := y) (a := a) (dd := d') (vfs := vfs) (vs := vs) hil (by show (if a = a then some (cls, dd) else none) = _; rw [if_pos rfl, ecls, e2]) hd nl fo r
            refine ⟨L0, offO O' i, _, F2, ?_⟩
            cases es : ms (e1.set i (some (.x y))) with
            | bad => rw [es] at h; exact h.elim
            | ex z e3 => rw [es] at h; exact h.elim
            | ok fl e3 =>
              rw [es] at h
              dsimp only at h
              split at h
              · rename_i hnx2'
                rw [Bool.and_eq_true] at hnx2'
                have hnx2 := hnx2'.1
                intro σ3 O3 H3 x3 F3
                have x4 : Ext C.rf σ O H (σ3.set i none) (offO O3 i) H3 := ((x'.trans (Ext.set hri)).trans x3).trans (Ext.set hri)
                have F4 : C.F L0 (offO O3 i) H3 (σ3.set i none) (e3.set i none) := by
                  have F3' : FRel C.g C.rf C.dm L0 (C.su a cls dd).xs O3 H3 σ3 e3 := F3
                  exact (F3'.setNone (i := i)).tab hnx2
                have hfin := h _ _ _ x4 F4
                have less : ∀ b, LL L0 (offO O3 i) b → LL L0 O3 b := fun b z => offO_less z
                cases fl with
                | nx => exact hfin
                | bk => exact hfin
                | ct => exact hfin
                | rt d => exact fun v rv => hfin v (Rep.mono (XT.less less) d v rv)
                | rtf zs =>
                  intro b us nb hb' FA z rr
                  have FA' : FRel C.g C.rf C.dm (LA L0 b) (C.su a cls dd).xs O3 H3 σ3 e3 := FA
                  have less2 : ∀ q, LL (LA L0 b) (offO O3 i) q → LL (LA L0 b) O3 q := fun q z => offO_less z
                  exact hfin b us nb hb' ((FA'.setNone (i := i)).tab hnx2) z (Reps.mono (XT.less less2) _ _ rr)
                | rtx k zs =>
                  intro b us hrk hOk hb' z rr
                  by_cases hki : k = i
                  · have hok : (k != i) = true := hnx2'.2
                    rw [hki] at hok
                    simp at hok
                  · exact hfin b us hrk (by rw [offO_ne hki]; exact hOk) hb' z (Reps.mono (XT.less less) _ _ rr)
              · exact h.elim
          · exact h.elim
        · subst hbf
          exact h cls dd σ' O' H' x' F' xr
end
end MP

/-! MP, part K: fields of an error, the def rule, __init__ of error classes. -/
namespace MP
open L2 PyProof.Rows PySem PySem.Spec

/-! ### e.f in a suite -/
def mXf (i : Nat) (cls : Tx) (k : Nat) : M D := fun e => match e[i]? with
  | some (some (.x x)) => if x.cls = cls then (match x.fs[k]? with
    | some d => .ok d e
    | none => .bad) else .bad
  | _ => .bad
section
variable {X : Cx} {C : Cy}
theorem pd_xf {i k : Nat} {cls f : Tx} {a : Addr} {oe : Obj} {cl : Value} {d : Option Addr} {pn : List (Addr × Obj)} {x n : Str} {p pos : Pos} (T : XfC X.K (C.g.ca cls)) (hno : PySem.W.findIn X.K (.ref (C.g.ca cls)) n = some none) (hz : Zc cl d oe) (hf : ∃ vs, oe.data = .fields vs) (he : PE (X.suite a ((a, oe) :: pn)) (.Name x p) (tVar i))
    (hk : (C.g.fl cls)[k]? = some f) (hn : n = ⟨f.toArray⟩) (hb : attributeBase (.Name x p) n X.env (eval (.Name x p) X.env) = eval (.Name x p) X.env) : PE (X.suite a ((a, oe) :: pn)) (.Attribute (.Name x p) n pos) (EvE (C.su a cl d) (mXf i cls k)) :=
  (pe_xf T hno hz hf he hb).weak fun σ H Q ⟨L0, O, env, F, h⟩ => by
    have F0 : FRel C.g C.rf C.dm L0 (C.su a cl d).xs O H σ env := F
    have s := F0.sl i
    unfold mXf at h
    split at h
    · rename_i x hq
      rw [hq] at s
      obtain ⟨_, a', dd, vfs, vs, e1, e2, e3, _, fo, r⟩ := s
      by_cases hc : x.cls = cls
      · rw [if_pos hc] at h
        have e2 : (if a' = a then some (cl, d) else none) = some (.ref (C.g.ca x.cls), some dd) := e2
        by_cases ha : a' = a
        · rw [if_pos ha] at e2
          cases e2
          subst ha
          cases eg : x.fs[k]? with
          | none => rw [eg] at h; exact h.elim
          | some y =>
            rw [eg] at h
            obtain ⟨v, ev, rv⟩ := r.get eg
            rw [hc] at fo
            obtain ⟨v', ev', lk⟩ := fo.2 k f hk
            rw [ev] at ev'
            cases ev'
            refine ⟨.ref a', e1, rfl, by rw [hc], dd, vfs, v, rfl, e3, by rw [hn]; exact lk, ?_⟩
            exact Post.here (C := C.su a' (.ref (C.g.ca x.cls)) (some dd)) h F v rv
        · rw [if_neg ha] at e2; cases e2
      · rw [if_neg hc] at h; exact h.elim
    · exact h.elim
end

/-! ### the def rule -/
def outsG (rf : Nat → Bool) : Nat → List Val → Env → Option (List Val)
  | _, [], _ => some []
  | i, v :: vs, e => (match rf i with
    | true => (match e[i]? with
      | some (some (.p d)) => (outsG rf (i + 1) vs e).map (Val.p d :: ·)
      | some (some (.ml xs)) => (outsG rf (i + 1) vs e).map (Val.ml xs :: ·)
      | _ => none)
    | false => (match v with
      | .p d => (outsG rf (i + 1) vs e).map (Val.p d :: ·)
      | _ => none))
def isL : D → Bool
  | .lst _ => true
  | _ => false
def finR (rf : Nat → Bool) (fresh : Bool) (vals : List Val) : R Fl → FR
  | .ok fl e => (match outsG rf 0 vals e with
    | none => .bad
    | some outs => (match fl with
      | .nx => .ok .non outs
      | .rt d => if fresh && isL d then .bad else .ok d outs
      | .rtf xs => .ok (.lst xs) outs
      | .rtx _ xs => .ok (.lst xs) outs
      | _ => .bad))
  | .ex x e => (match outsG rf 0 vals e with
    | none => .bad
    | some outs => .ex x outs)
  | .bad => .bad
def runF (n N : Nat) (rf : Nat → Bool) (fresh : Bool) (mb : MS) : Fn := fun vals => if vals.length = n then finR rf fresh vals (mb (vals.map some ++ List.replicate (N - n) none)) else .bad
theorem outsG_len {rf : Nat → Bool} : ∀ {vals : List Val} {i : Nat} {e : Env} {outs : List Val}, outsG rf i vals e = some outs → outs.length = vals.length
  | [], i, e, outs, h => by cases h; rfl
  | v :: vs, i, e, outs, h => by
    unfold outsG at h
    split at h
    · split at h
      · obtain ⟨o, ho, rfl⟩ := Option.map_eq_some_iff.mp h
        simp [outsG_len ho]
      · obtain ⟨o, ho, rfl⟩ := Option.map_eq_some_iff.mp h
        simp [outsG_len ho]
      · cases h
    · split at h
      · obtain ⟨o, ho, rfl⟩ := Option.map_eq_some_iff.mp h
        simp [outsG_len ho]
      · cases h
theorem outsG_get {rf : Nat → Bool} : ∀ {vals : List Val} {i : Nat} {e : Env} {outs : List Val}, outsG rf i vals e = some outs → ∀ k, k < vals.length → ∃ w, outs[k]? = some w ∧ (rf (i + k) = true → e[i + k]? = some (some w) ∧ ∀ x, w ≠ .x x) ∧ (rf (i + k) = false → ∃ d, w = .p d ∧ vals[k]? = some (.p d))
  | [], i, e, outs, h, k, hk => by simp at hk
  | v :: vs, i, e, outs, h, k, hk => by
    unfold outsG at h
    have step : ∀ w o, outsG rf (i + 1) vs e = some o → outs = w :: o → ((rf i = true → e[i]? = some (some w) ∧ ∀ x, w ≠ .x x) ∧ (rf i = false → ∃ d, w = .p d ∧ v = .p d)) → ∃ w', outs[k]? = some w' ∧ (rf (i + k) = true → e[i + k]? = some (some w') ∧ ∀ x, w' ≠ .x x) ∧ (rf (i + k) = false → ∃ d, w' = .p d ∧ (v :: vs)[k]? = some (.p d)) := by
      intro w o ho eo hw
      subst eo
      cases k with
      | zero => exact ⟨w, rfl, hw.1, fun q => by
          obtain ⟨d, e1, e2⟩ := hw.2 q
          exact ⟨d, e1, by rw [e2]; rfl⟩⟩
      | succ k =>
        have ih := outsG_get ho k (by simpa using hk)
        have e1 : i + 1 + k = i + (k + 1) := by omega
        rw [e1] at ih
        simpa using ih
    split at h
    · rename_i hr
      split at h
      · rename_i d hq
        obtain ⟨o, ho, rfl⟩ := Option.map_eq_some_iff.mp h
        exact step _ o ho rfl ⟨fun _ => ⟨hq, fun x z => (by cases z)⟩, fun q => (by rw [hr] at q; cases q)⟩
      · rename_i d hq
        obtain ⟨o, ho, rfl⟩ := Option.map_eq_some_iff.mp h
        exact step _ o ho rfl ⟨fun _ => ⟨hq, fun x z => (by cases z)⟩, fun q => (by rw [hr] at q; cases q)⟩
      · cases h
    · rename_i hr
      split at h
      · obtain ⟨o, ho, rfl⟩ := Option.map_eq_some_iff.mp h
        exact step _ o ho rfl ⟨fun q => by (rw [hr] at q; cases q), fun _ => ⟨_, rfl, rfl⟩⟩
      · cases h
/-- the reading's data of a def's body -/
def Cd (g : G) (n : Nat) (rf : Nat → Bool) (H : Hp) (E : XK) : Cy := ⟨g, fun i => decide (i < n) && rf i, domH H, noX, fun cls d _ H => E cls d H⟩
section
variable {g : G} {n : Nat} {rf : Nat → Bool} {L0 L1 Lz : Addr → Prop} {A O' : Own} {H H' : Hp} {vs : List V} {vals outs : List Val} {σ' : _root_.L2.St} {e : Env} {N : List Str} {E : XK}
def outA (n : Nat) (rf : Nat → Bool) (O' : Own) : Own := fun i => if (decide (i < n) && rf i) = true then O' i else none
theorem outA_some {i : Nat} {a : Addr} (h : outA n rf O' i = some a) : (decide (i < n) && rf i) = true ∧ O' i = some a := by
  unfold outA at h
  split at h
  · rename_i q; exact ⟨q, h⟩
  · cases h
theorem out_ext (x : Ext (Cd g n rf H E).rf (_root_.L2.start N vs) A H σ' O' H') : Ext (fun _ => true) [] A H [] (outA n rf O') H' := by
  refine ⟨fun a o e k => ?_, fun i _ => ⟨rfl, ?_⟩, x.old⟩
  · obtain ⟨e1, k1⟩ := x.keep a o e k
    exact ⟨e1, fun i z => k1 i (outA_some z).2⟩
  · unfold outA
    split
    · rename_i q
      exact (x.stab i q).2
    · exact .inl rfl
theorem start_get (hv : vs.length = n) {i : Nat} (hi : i < n) : (_root_.L2.start N vs)[i]? = (vs.map some)[i]? := by
  unfold _root_.L2.start
  rw [List.getElem?_append_left (by rw [List.length_map]; omega)]
theorem out_frame (hv : vs.length = n) (F : FRel g rf (domH H) L0 noX A H (vs.map some) (vals.map some)) (x : Ext (Cd g n rf H E).rf (_root_.L2.start N vs) A H σ' O' H') (F' : (Cd g n rf H E).F L1 O' H' σ' e) (ho : outsG rf 0 vals e = some outs)
    (sub : ∀ b, LL Lz (outA n rf O') b → LL L1 O' b) (lok : ∀ a, Lz a → ∃ o, H' a = some o) (dis : ∀ i a, outA n rf O' i = some a → ¬ Lz a) (hL : ∀ b o, H b = some o → Lz b → LL L0 A b) :
    FRel g rf (domH H) Lz noX (outA n rf O') H' (vs.map some) (outs.map some) := by
  have hvl : vals.length = n := by have := F.len; simp at this; omega
  have x2 := out_ext (N := N) x
  have xt : XT (LL L0 A) H (LL Lz (outA n rf O')) H' := fun a o e k => by
    obtain ⟨e1, k1⟩ := x2.keep a o e fun i z => k (.inr ⟨i, z⟩)
    exact ⟨e1, fun z => z.elim (fun z => k (hL a o e z)) fun ⟨i, z⟩ => k1 i z⟩
  refine ⟨by rw [List.length_map, List.length_map, outsG_len ho, hvl, hv], fun i => ?_, fun i j a p q => F'.inj i j a (outA_some p).2 (outA_some q).2, dis, lok, fun a z => let ⟨o, e⟩ := z; x.old a o e, fun i a hf p => ?_⟩
  · by_cases hi : i < n
    · obtain ⟨w, hw, h1, h2⟩ := outsG_get ho i (by omega)
      rw [Nat.zero_add] at h1 h2
      rw [List.getElem?_map, hw]
      cases hr : rf i with
      | true =>
        obtain ⟨he, hx⟩ := h1 hr
        have hd : (decide (i < n) && rf i) = true := by rw [hr, decide_eq_true hi]; rfl
        have s := F'.sl i
        have eO : outA n rf O' i = O' i := by unfold outA; rw [if_pos hd]
        rw [he] at s
        have eσ : σ'[i]? = (vs.map some)[i]? := ((x.stab i hd).1).trans (start_get hv hi)
        rw [eσ] at s
        rw [eO]
        have less : XT (LL L1 O') H' (LL Lz (outA n rf O')) H' := XT.less sub
        exact SR.mono less (fun _ _ _ q => q) s
      | false =>
        obtain ⟨d, rfl, hvd⟩ := h2 hr
        have s := F.sl i
        rw [List.getElem?_map, hvd] at s
        have eO : outA n rf O' i = none := by unfold outA; rw [if_neg (by rw [hr]; simp)]
        rw [eO]
        obtain ⟨_, v, ev, rv⟩ := s
        exact ⟨rfl, v, ev, Rep.mono xt d v rv⟩
    · rw [List.getElem?_eq_none (by rw [List.length_map, outsG_len ho, hvl]; omega)]
      show outA n rf O' i = none
      unfold outA
      rw [if_neg (by simp [hi])]
  · have := (outA_some p).1
    rw [hf] at this
    simp at this
theorem body_ok {fresh : Bool} {mb : MS} {Q : VK} (hn : n ≤ N.length) (h : spF g n rf fresh (runF n N.length rf fresh mb) vs H Q E) : EvS (Cd g n rf H E) mb { nx := fun _ H' => Q .non H', rt := Q } (_root_.L2.start N vs) H := by
  obtain ⟨L0, A, vals, hv, F, hm⟩ := h
  have hvl : vals.length = n := by have := F.len; simp at this; omega
  refine ⟨L0, A, vals.map some ++ List.replicate (N.length - n) none, ?_, ?_⟩
  · refine ⟨?_, fun i => ?_, F.inj, F.dis, F.lok, F.dom, fun i a hf ho => ?_⟩
    · unfold _root_.L2.start
      simp [hv, hvl]
    · have s := F.sl i
      by_cases hi : i < n
      · rw [start_get hv hi, List.getElem?_append_left (by rw [List.length_map]; omega)]
        exact s
      · rw [List.getElem?_eq_none (by rw [List.length_map]; omega)] at s
        have s : A i = none := s
        by_cases hi2 : i < N.length
        · rw [List.getElem?_append_right (by rw [List.length_map]; omega), List.getElem?_replicate, if_pos (by rw [List.length_map]; omega)]
          exact s
        · rw [List.getElem?_eq_none (by rw [List.length_append, List.length_map, List.length_replicate]; omega)]
          exact s
    · by_cases hi : i < n
      · exact F.own i a (by have : (decide (i < n) && rf i) = false := hf; rw [decide_eq_true hi] at this; simpa using this) ho
      · have s := F.sl i
        rw [List.getElem?_eq_none (by rw [List.length_map]; omega)] at s
        have s : A i = none := s
        rw [s] at ho; cases ho
  · unfold runF at hm
    rw [if_pos hvl] at hm
    cases em : mb (vals.map some ++ List.replicate (N.length - n) none) with
    | bad => rw [em] at hm; exact hm.elim
    | ex y e =>
      rw [em] at hm
      unfold finR at hm
      dsimp only at hm
      cases ho : outsG rf 0 vals e with
      | none => rw [ho] at hm; exact hm.elim
      | some outs =>
        rw [ho] at hm
        intro cls dd σ' O' H' x F' xr
        have sub : ∀ b, LL L0 (outA n rf O') b → LL L0 O' b := fun b z => z.elim .inl fun ⟨i, z⟩ => .inr ⟨i, (outA_some z).2⟩
        obtain ⟨e1, d', vfs, us, e2, hd, nl, fo, r⟩ := xr
        refine hm cls dd _ H' (out_ext x) (out_frame hv F x F' ho sub F'.lok (fun i a z => F'.dis i a (outA_some z).2) fun b o _ z => .inl z) ⟨e1, d', vfs, us, e2, hd, fun z => nl (sub _ z), fo, Reps.mono (XT.less sub) _ _ r⟩
    | ok fl e =>
      rw [em] at hm
      unfold finR at hm
      dsimp only at hm
      cases ho : outsG rf 0 vals e with
      | none => rw [ho] at hm; exact hm.elim
      | some outs =>
        rw [ho] at hm
        intro σ' O' H' x F'
        have sub : ∀ b, LL L0 (outA n rf O') b → LL L0 O' b := fun b z => z.elim .inl fun ⟨i, z⟩ => .inr ⟨i, (outA_some z).2⟩
        have fr := out_frame hv F x F' ho sub F'.lok (fun i a z => F'.dis i a (outA_some z).2) fun b o _ z => .inl z
        have nrm : ∀ d, retOk g rf fresh L0 A H vs outs d Q → (fresh = true → isL d = false) → ∀ v, Rep g (LL L0 O') H' d v → Q v H' := fun d hq hf v rv => by
          have rv2 := Rep.mono (XT.less sub) d v rv
          cases fresh with
          | false => exact hq v _ H' (out_ext x) fr rv2
          | true =>
            cases d with
            | lst xs => have := hf rfl; cases this
            | _ => exact hq v _ H' (out_ext x) fr rv2
        have lstL : ∀ (L1 : Addr → Prop) (xs : List D) (a : Addr) (us : List V), (∀ b, LL (LA L0 a) (outA n rf O') b → LL L1 O' b) → (Cd g n rf H E).F L1 O' H' σ' e → ¬ domH H a → H' a = some (.lst us) → (∀ i, outA n rf O' i ≠ some a) → ¬ L0 a → us.length ≤ sizeLine → Reps g (LL L1 O') H' xs us →
            retOk g rf fresh L0 A H vs outs (.lst xs) Q → Q (.ref a) H' := fun L1 xs a us sub2 F1 nd ha na nL z r hq => by
          have h0 : H a = none := by
            cases e : H a with
            | none => rfl
            | some o => exact absurd ⟨o, e⟩ nd
          have lokA : ∀ b, LA L0 a b → ∃ o, H' b = some o := fun b q => q.elim (F'.lok b) fun q => ⟨.lst us, by rw [q]; exact ha⟩
          have disA : ∀ i b, outA n rf O' i = some b → ¬ LA L0 a b := fun i b z q => q.elim (F'.dis i b (outA_some z).2) fun q => na i (by rw [← q]; exact z)
          have hLA : ∀ b o, H b = some o → LA L0 a b → LL L0 A b := fun b o e q => q.elim .inl fun q => by rw [q, h0] at e; cases e
          cases fresh with
          | false =>
            have n2 : ¬ LL L0 (outA n rf O') a := fun q => q.elim nL fun ⟨i, q⟩ => na i q
            exact hq (.ref a) _ H' (out_ext x) fr ⟨a, us, rfl, ⟨⟨.inl ha, n2⟩, z⟩, Reps.mono (XT.less fun b q => sub2 b (LA.ll q)) _ _ r⟩
          | true => exact hq a us _ H' (out_ext x) (out_frame hv F x F1 ho sub2 lokA disA hLA) h0 ha z (Reps.mono (XT.less sub2) _ _ r)
        cases fl with
        | nx => exact nrm .non hm (fun _ => rfl) .non rfl
        | bk => exact hm.elim
        | ct => exact hm.elim
        | rt d =>
          dsimp only at hm
          cases hf : (fresh && isL d) with
          | true => rw [hf] at hm; exact hm.elim
          | false =>
            rw [hf] at hm
            exact fun v rv => nrm d hm (fun q => by rw [q] at hf; simpa using hf) v rv
        | rtf xs =>
          intro a us nd ha FA z r
          refine lstL (LA L0 a) xs a us (fun b q => q.elim .inl fun ⟨i, q⟩ => .inr ⟨i, (outA_some q).2⟩) FA nd ha (fun i q => FA.dis i a (outA_some q).2 (.inr rfl)) (fun q => ?_) z r hm
          obtain ⟨o, e0⟩ := F.lok a q
          exact nd ⟨o, e0⟩
        | rtx i xs =>
          intro a us hri hO ha z r
          refine lstL L0 xs a us (fun b q => ?_) F' (F'.own i a hri hO) ha (fun j q => ?_) (F'.dis i a hO) z r hm
          · rcases q with (q | q) | ⟨j, q⟩
            · exact .inl q
            · exact .inr ⟨i, by rw [q]; exact hO⟩
            · exact .inr ⟨j, (outA_some q).2⟩
          · obtain ⟨q1, q2⟩ := outA_some q
            have := F'.inj i j a hO q2
            subst this
            have hri : (decide (i < n) && rf i) = false := hri
            rw [q1] at hri; cases hri
end
section
variable {P : Program} {w : World} {K : PySem.W.Frag} {mg : Str → Option Value} {base : Heap} {x qual : Str} {params : Arguments} {body : List Stmt} {scope : Scope} {dvs : List V} {kws : List (Str × V)} {f : Addr} {fd : FuncData}
theorem fn_ok {N ps : List Str} {g : G} {n k : Nat} {rf : Nat → Bool} {fresh : Bool} {mb : MS} (F : FunD K x qual params body scope dvs kws f fd) (S : FnScope N ps scope) (hps : ps.length = n) (hn : n ≤ N.length)
    (hb : ∀ (cdv : Value) (A : Around) (outer : List PySem.Env) (s : Shared) (H : Hp) (E : XK), Room k (A.deeper (envOfC qual scope s.heap.objs.size f cdv)) → PSs (cxOf (_root_.L2.CX P w) P w K mg base N qual scope f cdv A outer s H E) body (EvS (Cd g n rf H E) mb)) :
    FnOk P w K mg base (_root_.L2.CX P w) (k + 1) f fd ps (spF g n rf fresh (runF n N.length rf fresh mb)) :=
  F.ok S (fun vs H Q E h => by
    obtain ⟨_, _, _, hv, _⟩ := h
    rw [hv, hps]) fun cdv A outer s H vs Q E hr h => ⟨EvS (Cd g n rf H E) mb, hb cdv A outer s H E hr, body_ok hn h⟩
/-- in a def's body: what goes out is taken -/
theorem takes_body {N : List Str} {g : G} {n : Nat} {rf : Nat → Bool} {cdv : Value} {A : Around} {outer : List PySem.Env} {s : Shared} {H : Hp} {E : XK} : Takes (cxOf (_root_.L2.CX P w) P w K mg base N qual scope f cdv A outer s H E) (Cd g n rf H E).W := takes_of rfl rfl rfl rfl
end

/-! ### an error class's __init__ -/
def tIni (K : PySem.W.Frag) : List Str → Nat → TS
  | [], _ => tNext
  | f :: r, j => tSeq (tOst K f (tVar 0) (tVar j)) (tIni K r (j + 1))
def addF : List Str → List V → List (Str × V) → List (Str × V)
  | f :: fs, w :: ws, acc => addF fs ws ((f, w) :: acc)
  | _, _, acc => acc
theorem addF_out {g : Str} : ∀ {fs : List Str} {ws : List V} {acc : List (Str × V)}, g ∉ fs → (addF fs ws acc).lookup g = acc.lookup g
  | [], _, _, _ => rfl
  | _ :: _, [], _, _ => rfl
  | f :: fs, w :: ws, acc, h => by
    show (addF fs ws ((f, w) :: acc)).lookup g = _
    rw [addF_out fun z => h (List.mem_cons_of_mem _ z), lookup_put, if_neg fun z => h (by rw [z]; exact List.mem_cons_self)]
theorem addF_in : ∀ {fs : List Str} {ws : List V} {acc : List (Str × V)} {i : Nat} {g : Str}, fs.Nodup → fs.length = ws.length → fs[i]? = some g → ∃ w, ws[i]? = some w ∧ (addF fs ws acc).lookup g = some w
  | [], _, _, _, _, _, _, h => by simp at h
  | _ :: _, [], _, _, _, _, h, _ => by simp at h
  | f :: fs, w :: ws, acc, 0, g, nd, hl, h => by
    simp at h; subst h
    refine ⟨w, rfl, ?_⟩
    show (addF fs ws ((f, w) :: acc)).lookup f = _
    rw [addF_out (List.nodup_cons.mp nd).1, lookup_put, if_pos rfl]
  | f :: fs, w :: ws, acc, i + 1, g, nd, hl, h => by
    obtain ⟨w', e1, e2⟩ := addF_in (acc := (f, w) :: acc) (List.nodup_cons.mp nd).2 (by simpa using hl) (by simpa using h)
    exact ⟨w', by simpa using e1, e2⟩
theorem ini_go {K : PySem.W.Frag} {D : Ends} {H : Hp} {σ : _root_.L2.St} {a C dx : Addr} (T : OexC K C) (hne : dx ≠ a) (h0 : σ[0]? = some (some (.ref a))) : ∀ (fs : List Str) (ws : List V) (j : Nat) (acc : List (Str × V)), fs.length = ws.length → acc.length + fs.length ≤ 900 →
    (∀ m w, ws[m]? = some w → σ[j + m]? = some (some w)) → (∀ f ∈ fs, PySem.W.findIn K (.ref C) f = some none) → D.nx σ (upd (upd H dx (exd dx (addF fs ws acc))) a (exo a C (some dx))) → tIni K fs j D σ (upd (upd H dx (exd dx acc)) a (exo a C (some dx)))
  | [], ws, j, acc, _, _, _, _, h => h
  | f :: fs, [], j, acc, hl, _, _, _, _ => by simp at hl
  | f :: fs, w :: ws, j, acc, hl, hz, hs, hno, h => by
    refine ⟨w, hs 0 w rfl, .ref a, h0, a, C, rfl, T, hno f List.mem_cons_self, .inr ⟨dx, acc, upd_same, by rw [upd_ne hne]; exact upd_same, by simp at hz; omega, ?_⟩⟩
    have e : upd (upd (upd H dx (exd dx acc)) a (exo a C (some dx))) dx (exd dx ((f, w) :: acc)) = upd (upd H dx (exd dx ((f, w) :: acc))) a (exo a C (some dx)) := by
      funext b
      by_cases hb : b = dx
      · rw [hb, upd_same, upd_ne hne, upd_same]
      · rw [upd_ne hb]
        by_cases hba : b = a
        · rw [hba, upd_same, upd_same]
        · rw [upd_ne hba, upd_ne hba, upd_ne hb, upd_ne hb]
    show tIni K fs (j + 1) D σ (upd (upd (upd H dx (exd dx acc)) a (exo a C (some dx))) dx (exd dx ((f, w) :: acc)))
    rw [e]
    refine ini_go T hne h0 fs ws (j + 1) ((f, w) :: acc) (by simpa using hl) (by simp at hz ⊢; omega) (fun m w' hm => ?_) (fun g hg => hno g (List.mem_cons_of_mem _ hg)) h
    have := hs (m + 1) w' (by simpa using hm)
    rw [← this]
    congr 1
    omega
theorem ini_pure {K : PySem.W.Frag} {C : Addr} {names : List Tx} {N : List Str} {vs : List V} {H : Hp} {Q : VK} {E : XK} {f : Str} {fs : List Str} (hn : (names.map fun t => (⟨t.toArray⟩ : Str)) = f :: fs) (nd : (f :: fs).Nodup) (hz : names.length ≤ 900) (hno : ∀ g ∈ f :: fs, PySem.W.findIn K (.ref C) g = some none)
    (h : spIni K C names vs H Q E) : tIni K (f :: fs) 1 { nx := fun _ H' => Q .non H', rt := Q } (_root_.L2.start N vs) H := by
  obtain ⟨a, ws, rfl, hl, T, ha, k⟩ := h
  have hnl : names.length = (f :: fs).length := by rw [← hn, List.length_map]
  have hst : ∀ m w, ws[m]? = some w → (_root_.L2.start N (.ref a :: ws))[1 + m]? = some (some w) := fun m w hm => by
    unfold _root_.L2.start
    have hlt : m < ws.length := (List.getElem?_eq_some_iff.mp hm).1
    rw [List.getElem?_append_left (by simp; omega), List.getElem?_map, Nat.add_comm 1 m, List.getElem?_cons_succ, hm]
    rfl
  cases ws with
  | nil => rw [hnl] at hl; simp at hl
  | cons w ws =>
    refine ⟨w, hst 0 w rfl, .ref a, rfl, a, C, rfl, T, hno f List.mem_cons_self, .inl ⟨ha, fun dx hdx hne => ?_⟩⟩
    refine ini_go T hne rfl fs ws 2 [(f, w)] (by simp at hl hnl; omega) (by simp at hnl ⊢; omega) (fun m w' hm => ?_) (fun g hg => hno g (List.mem_cons_of_mem _ hg)) ?_
    · have := hst (m + 1) w' (by simpa using hm)
      rw [← this]
      congr 1
      omega
    · refine k dx _ hdx hne ⟨hl, fun i t ht => ?_⟩
      have e1 : (f :: fs)[i]? = some (⟨t.toArray⟩ : Str) := by rw [← hn, List.getElem?_map, ht]; rfl
      exact addF_in (fs := f :: fs) (ws := w :: ws) (acc := []) nd (by rw [← hnl]; exact hl.symm) e1
section
variable {P : Program} {w : World} {K : PySem.W.Frag} {mg : Str → Option Value} {base : Heap} {x qual : Str} {params : Arguments} {body : List Stmt} {scope : Scope} {dvs : List V} {kws : List (Str × V)} {f : Addr} {fd : FuncData}
theorem ini_ok {N ps : List Str} {C : Addr} {names : List Tx} {k : Nat} {g : Str} {gs : List Str} (F : FunD K x qual params body scope dvs kws f fd) (S : FnScope N ps scope) (hps : ps.length = names.length + 1) (hn : (names.map fun t => (⟨t.toArray⟩ : Str)) = g :: gs) (nd : (g :: gs).Nodup) (hz : names.length ≤ 900)
    (hno : ∀ y ∈ g :: gs, PySem.W.findIn K (.ref C) y = some none) (hb : ∀ (cdv : Value) (A : Around) (outer : List PySem.Env) (s : Shared) (H : Hp) (E : XK), PSs (cxOf CX0 P w K mg base N qual scope f cdv A outer s H E) body (tIni K (g :: gs) 1)) :
    FnOk P w K mg base CX0 (k + 1) f fd ps (spIni K C names) :=
  F.ok S (fun vs H Q E h => by
    obtain ⟨a, ws, rfl, hl, _⟩ := h
    simp [hl, hps]) fun cdv A outer s H vs Q E hr h => ⟨tIni K (g :: gs) 1, hb cdv A outer s H E, ini_pure hn nd hz hno h⟩
end
/-- what the written part says of an error class over ValueError -/
def oexB (K : PySem.W.Frag) (C : Addr) : Bool := (match K.lookup C with
  | some ⟨.type "type", _, .cls cd, sl⟩ => (match cd.mro, sl.toList with
    | .ref C' :: bm, [_, _, _, _, some (.builtin n), _] => (C' == C && n == "ValueError.__new__" && !cd.hasDel && cd.hasDict && PySem.HandSPX.refsVE bm)
    | _, _ => false)
  | _ => false) && (decide (PySem.W.findIn K (.ref C) "__setattr__" = some (some (.builtin "object.__setattr__"))) && (decide (PySem.W.subIn K (.ref C) (.type "BaseException") = some true) && (decide (PySem.W.typeIn K (.ref C) = some (.type "type")) && PySem.W.keepIn K (.ref C))))
theorem oexB_ok {K : PySem.W.Frag} {C : Addr} (h : oexB K C = true) : OexC K C := by
  unfold oexB at h
  rw [Bool.and_eq_true] at h
  obtain ⟨h1, h2⟩ := h
  rw [Bool.and_eq_true] at h2
  obtain ⟨h2, h3⟩ := h2
  rw [Bool.and_eq_true] at h3
  obtain ⟨h3, h4⟩ := h3
  rw [Bool.and_eq_true] at h4
  obtain ⟨h4, h5⟩ := h4
  refine ⟨?_, of_decide_eq_true h2, of_decide_eq_true h3, of_decide_eq_true h4, h5⟩
  split at h1
  · rename_i dd cd sl ho
    split at h1
    · rename_i C' bm k0 k1 k2 k3 n k5 hm hs
      simp only [Bool.and_eq_true, beq_iff_eq, Bool.not_eq_true'] at h1
      obtain ⟨⟨⟨⟨e1, e2⟩, e3⟩, e4⟩, e5⟩ := h1
      subst e1
      subst e2
      obtain ⟨nm, bs, mro, ns, qn, hd, sn, sb, ab, col, del⟩ := cd
      dsimp only at hm e3 e4
      subst hm
      subst e3
      subst e4
      have es : sl = #[k0, k1, k2, k3, some (.builtin "ValueError.__new__"), k5] := by
        rw [← Array.toArray_toList (xs := sl), hs]
      rw [es] at ho
      exact ⟨nm, qn, ns, bs, bm, sn, sb, ab, col, dd, k0, k1, k2, k3, k5, ho, e5⟩
    · cases h1
  · cases h1
end MP

/-! MP, part L: bundles for the printed walks, the head's hook. -/
namespace MP
open L2 PyProof.Rows PySem PySem.Spec

/-- a def of the text that may be called by its name -/
def Cal (P : Program) (w : World) (K : PySem.W.Frag) (mg : Str → Option Value) (base : Heap) (g : G) (x : Str) (k n : Nat) (rf : Nat → Bool) (fresh : Bool) (F : Fn) : Prop :=
  ∃ (f : Addr) (fd : FuncData) (ps : List Str), mg x = some (.ref f) ∧ PySem.W.keepIn K (.ref f) = true ∧ Binds K fd ps [] ∧ FnOk P w K mg base (L2.CX P w) k f fd ps (spF g n rf fresh F)
/-- an error class of the text -/
def Exk (P : Program) (w : World) (K : PySem.W.Frag) (mg : Str → Option Value) (base : Heap) (g : G) (x : Str) (cls : Tx) (k : Nat) : Prop :=
  mg x = some (.ref (g.ca cls)) ∧ OexC K (g.ca cls) ∧ ∃ (fI : Addr) (fd : FuncData) (ps : List Str), PySem.W.findIn K (.ref (g.ca cls)) "__init__" = some (some (.ref fI)) ∧ PySem.W.typeIn K (.ref fI) = some (.type "function") ∧ Binds K fd ps [] ∧
    FnOk P w K mg base CX0 k fI fd ps (spIni K (g.ca cls) (g.fl cls))
def mFE (m : M (List D)) : M D := do
  let xs ← m
  pure (.lst xs)
/-- no slot is handed on twice -/
def oneRaw : List Arg → List Nat → Bool
  | [], _ => true
  | .e _ :: r, s => oneRaw r s
  | .f _ :: r, s => oneRaw r s
  | .r j :: r, s => !s.contains j && oneRaw r (j :: s)
theorem oneRaw_ok' : ∀ {args : List Arg} {s : List Nat}, oneRaw args s = true → (∀ j ∈ s, ∀ k : Nat, args[k]? ≠ some (.r j)) ∧ OneRaw args
  | [], s, h => ⟨fun j _ k e => by simp at e, fun k k' j e => by simp at e⟩
  | .f m :: r, s, h => by
    obtain ⟨h1, h2⟩ := oneRaw_ok' (args := r) (s := s) h
    refine ⟨fun j hj k e => ?_, fun k k' j e e' => ?_⟩
    · cases k with
      | zero => simp at e
      | succ k => exact h1 j hj k (by simpa using e)
    · cases k with
      | zero => simp at e
      | succ k =>
        cases k' with
        | zero => simp at e'
        | succ k' => rw [h2 k k' j (by simpa using e) (by simpa using e')]
  | .e m :: r, s, h => by
    obtain ⟨h1, h2⟩ := oneRaw_ok' (args := r) (s := s) h
    refine ⟨fun j hj k e => ?_, fun k k' j e e' => ?_⟩
    · cases k with
      | zero => simp at e
      | succ k => exact h1 j hj k (by simpa using e)
    · cases k with
      | zero => simp at e
      | succ k =>
        cases k' with
        | zero => simp at e'
        | succ k' => rw [h2 k k' j (by simpa using e) (by simpa using e')]
  | .r i :: r, s, h => by
    have h : (!s.contains i && oneRaw r (i :: s)) = true := h
    rw [Bool.and_eq_true] at h
    obtain ⟨h1, h2⟩ := oneRaw_ok' (args := r) (s := i :: s) h.2
    have hi : i ∉ s := by simpa using h.1
    refine ⟨fun j hj k e => ?_, fun k k' j e e' => ?_⟩
    · cases k with
      | zero =>
        have : i = j := by simpa using e
        rw [this] at hi
        exact hi hj
      | succ k => exact h1 j (List.mem_cons_of_mem _ hj) k (by simpa using e)
    · cases k with
      | zero =>
        have ei : i = j := by simpa using e
        subst ei
        cases k' with
        | zero => rfl
        | succ k' => exact absurd (by simpa using e') (h1 i List.mem_cons_self k')
      | succ k =>
        cases k' with
        | zero =>
          have ei : i = j := by simpa using e'
          subst ei
          exact absurd (by simpa using e) (h1 i List.mem_cons_self k)
        | succ k' => rw [h2 k k' j (by simpa using e) (by simpa using e')]
theorem oneRaw_ok {args : List Arg} (h : oneRaw args [] = true) : OneRaw args := (oneRaw_ok' h).2
def rawOk (rf : Nat → Bool) : Nat → List Arg → Bool
  | _, [] => true
  | i, .e _ :: r => rawOk rf (i + 1) r
  | i, .r _ :: r => rf i && rawOk rf (i + 1) r
  | i, .f _ :: r => rf i && rawOk rf (i + 1) r
theorem rawOk_ok {rf : Nat → Bool} : ∀ {args : List Arg} {i : Nat}, rawOk rf i args = true → ∀ (k : Nat), rawA args k → rf (i + k) = true
  | [], i, h, k, e => by
    rcases e with ⟨j, e⟩ | ⟨j, e⟩ <;> simp at e
  | .e m :: r, i, h, k, e => by
    cases k with
    | zero => rcases e with ⟨j, e⟩ | ⟨j, e⟩ <;> simp at e
    | succ k =>
      have := rawOk_ok (args := r) (i := i + 1) h k (e.imp (fun ⟨j, e⟩ => ⟨j, by simpa using e⟩) fun ⟨j, e⟩ => ⟨j, by simpa using e⟩)
      rw [← this]; congr 1; omega
  | .r m :: r, i, h, k, e => by
    have h : (rf i && rawOk rf (i + 1) r) = true := h
    rw [Bool.and_eq_true] at h
    cases k with
    | zero => exact h.1
    | succ k =>
      have := rawOk_ok (args := r) (i := i + 1) h.2 k (e.imp (fun ⟨j, e⟩ => ⟨j, by simpa using e⟩) fun ⟨j, e⟩ => ⟨j, by simpa using e⟩)
      rw [← this]; congr 1; omega
  | .f m :: r, i, h, k, e => by
    have h : (rf i && rawOk rf (i + 1) r) = true := h
    rw [Bool.and_eq_true] at h
    cases k with
    | zero => exact h.1
    | succ k =>
      have := rawOk_ok (args := r) (i := i + 1) h.2 k (e.imp (fun ⟨j, e⟩ => ⟨j, by simpa using e⟩) fun ⟨j, e⟩ => ⟨j, by simpa using e⟩)
      rw [← this]; congr 1; omega
section
variable {X : Cx} {C : Cy} {k k' n : Nat} {x : Str} {p pos : Pos} {e : Expr} {es : List Expr} {args : List Arg} {F : Fn} {rfc : Nat → Bool} {fresh : Bool}
theorem pd_callC (G : Cal X.prog X.w X.K X.mg X.base C.g x k n rfc fresh F) (hr : Room k' X.A) (hk : k ≤ k') (hg : Gl X x) (tk : Takes X C.W) (hd : (x == ("__debug__" : Str)) = false) (hs : (e :: es).all notStar = true) (one : oneRaw args [] = true) (hrf : rawOk rfc 0 args = true) (hn : args.length = n) (ha : PA X (e :: es) (EvAr C args)) :
    PE X (.Call (.Name x p) (e :: es) [] pos) (EvE C (mCall F args)) := by
  obtain ⟨f, fd, ps, h1, h2, h3, h4⟩ := G
  exact pd_call h4 (hr.mono hk) hg h1 h2 h3 tk hd hs (oneRaw_ok one) (fun k e => by have := rawOk_ok hrf k e; rwa [Nat.zero_add] at this) hn ha
theorem pd_callFC (G : Cal X.prog X.w X.K X.mg X.base C.g x k n rfc true F) (hr : Room k' X.A) (hk : k ≤ k') (hg : Gl X x) (tk : Takes X C.W) (hd : (x == ("__debug__" : Str)) = false) (hs : (e :: es).all notStar = true) (one : oneRaw args [] = true) (hrf : rawOk rfc 0 args = true) (hn : args.length = n) (ha : PA X (e :: es) (EvAr C args)) :
    PE X (.Call (.Name x p) (e :: es) [] pos) (EvF C (mCallF F args)) := by
  obtain ⟨f, fd, ps, h1, h2, h3, h4⟩ := G
  exact pd_callF h4 (hr.mono hk) hg h1 h2 h3 tk hd hs (oneRaw_ok one) (fun k e => by have := rawOk_ok hrf k e; rwa [Nat.zero_add] at this) hn ha
theorem qs_raiseC {cls : Tx} {m : M (List D)} {cpos : Pos} {q : Nat} (G : Exk X.prog X.w X.K X.mg X.base C.g x cls k) (hr : Room k' X.A) (hk : k + 1 ≤ k') (hc : X.calm = true) (tk : Takes X C.W) (hK : C.g.K = X.K) (hg : Gl X x) (ha : PA X (e :: es) (EvA C m)) (hdb : (x == ("__debug__" : Str)) = false) (hs : (e :: es).all notStar = true)
    (hq : (C.g.fl cls).length = q) (hsmall : q ≤ 900) : PS X (.Raise (some (.Call (.Name x p) (e :: es) [] cpos)) none pos) (EvS C (sRaise cls q m)) := by
  obtain ⟨h1, h2, fI, fd, ps, h3, h4, h5, h6⟩ := G
  subst hq
  exact qs_raise hc tk hK h2 h3 h4 h6 (hr.mono hk) h5 hg h1 ha hdb hs hsmall
end

/-! ### the head's hook: facts, defs, checks of one's own -/
abbrev AlM : Type := He.AlD × Bool
def obsM (fa : List He.Fa) (fn : List He.DefD) (ck : List (PySem.W.Frag → Bool)) (K : PySem.W.Frag) : AlM := (He.obsD fa fn K, ck.all fun c => c K)
def SaysM (fa : List He.Fa) (fn : List He.DefD) (ck : List (PySem.W.Frag → Bool)) (K : PySem.W.Frag) : Prop := obsM fa fn ck K = (He.valD fn, true)
def obsMG (n : Nat) (fa : List He.Fa) (fn : List He.DefD) (ck : List (PySem.W.Frag → Bool)) (g : Addr → Option Obj) : AlM := obsM fa fn ck (He.frG g (He.asD g n))
def hookM (n : Nat) (fa : List He.Fa) (fn : List He.DefD) (ck : List (PySem.W.Frag → Bool)) : PySem.W.Hook where
  α := AlM
  obs := fun s => obsMG n fa fn ck s.heap.get?
  val := fun _ => (He.valD fn, true)
  says := fun _ h => ∃ K : PySem.W.Frag, K.In h ∧ SaysM fa fn ck K
  of := fun _ _ e => ⟨_, He.frG_in, e⟩
  keeps := fun _ _ _ ⟨K, hK, c⟩ k => ⟨K, PySem.W.Frag.In.keeps hK k, c⟩
theorem obsMG_eq {n : Nat} {fa : List He.Fa} {fn : List He.DefD} {ck : List (PySem.W.Frag → Bool)} {g : Addr → Option Obj} {s : Shared} (h : ∀ a, g a = s.heap.get? a) : obsMG n fa fn ck g = (hookM n fa fn ck).obs s := by
  have e : g = s.heap.get? := funext h
  rw [e] <;> rfl
section
variable {fa : List He.Fa} {fn : List He.DefD} {ck : List (PySem.W.Frag → Bool)} {K : PySem.W.Frag}
theorem SaysM.toD (c : SaysM fa fn ck K) : He.SaysD fa fn K := congrArg (fun z : AlM => z.1) c
theorem SaysM.chk (c : SaysM fa fn ck K) (i : Nat) {f : PySem.W.Frag → Bool} (h : ck[i]? = some f) : f K = true :=
  List.all_eq_true.mp (show (ck.all fun c => c K) = true from congrArg (fun z : AlM => z.2) c) f (List.mem_of_getElem? h)
end
/-- the class named x, as the relation's data has it -/
def caK (K : PySem.W.Frag) (cls : Tx) : Addr := He.ga K ⟨cls.toArray⟩
def flT : List (Tx × List Tx) → Tx → List Tx
  | [], _ => []
  | (c, fs) :: r, x => if x = c then fs else flT r x
def gOf (tab : List (Tx × List Tx)) (K : PySem.W.Frag) : G := ⟨K, caK K, flT tab⟩
end MP

/-! MP, part M: short words for the printed walks. -/
namespace MP
open L2 PyProof.Rows PySem PySem.Spec

section
variable {X : Cx} {C : Cy} {x : Str} {pos : Pos}
theorem nv (i : Nat) (hN : X.N[i]? = some x := by rfl) (hv : Vis X.env.scope x := by first | exact Or.inl rfl | exact Or.inr (Or.inl rfl) | exact Or.inr (Or.inr rfl)) (hd : (x == ("__debug__" : Str)) = false := by decide) (hcd : (x == ("__classdict__" : Str)) = false := by decide) : PE X (.Name x pos) (EvE C (mVar i)) := pd_var hN hv hd hcd
theorem np (i : Nat) (hN : X.N[i]? = some x := by rfl) (hv : Vis X.env.scope x := by first | exact Or.inl rfl | exact Or.inr (Or.inl rfl) | exact Or.inr (Or.inr rfl)) (hd : (x == ("__debug__" : Str)) = false := by decide) (hcd : (x == ("__classdict__" : Str)) = false := by decide) : PE X (.Name x pos) (EvP C (mPeek i)) := pd_peek hN hv hd hcd
theorem gn (i : Nat) (hN : X.N.Nodup) (hi : X.N[i]? = some x := by rfl) (hx : Loc X.env.scope x := by first | exact Or.inl rfl | exact Or.inr rfl) (hf : X.fn x = true ∨ X.env.scope.names.lookup x = some .local := by first | exact Or.inl rfl | exact Or.inr rfl) (hr : C.rf i = false := by rfl) : PG X (.Name x pos) (EvG C (.nm i)) := pg_nmD hN hi hx hf hr
theorem gs {es : List Expr} {is : List Nat} (i : Nat) (hN : X.N.Nodup) (h : PGs X es (gsN is)) (hi : X.N[i]? = some x := by rfl) (hx : Loc X.env.scope x := by first | exact Or.inl rfl | exact Or.inr rfl) (hf : X.fn x = true ∨ X.env.scope.names.lookup x = some .local := by first | exact Or.inl rfl | exact Or.inr rfl)
    (hs : (assignEach (.Name x pos :: es) X.env).map (·.2) = assign (.Name x pos) X.env :: (assignEach es X.env).map (·.2) := by rfl) : PGs X (.Name x pos :: es) (gsN (i :: is)) := pgs_cons (pg_name hN hi hx hf) h hs
theorem se {e : Expr} {m : M D} {p2 : Pos} (i : Nat) (hN : X.N.Nodup) (he : PE X e (EvE C m)) (hi : X.N[i]? = some x := by rfl) (hx : Loc X.env.scope x := by first | exact Or.inl rfl | exact Or.inr rfl) (hc : notComp e = true := by rfl) (hf : X.fn x = true ∨ X.env.scope.names.lookup x = some .local := by first | exact Or.inl rfl | exact Or.inr rfl) (hr : C.rf i = false := by rfl) :
    PS X (.Assign [.Name x pos] e p2) (EvS C (sSet i m)) := qs_set hN hi hx hc hf hr he
theorem sf {e : Expr} {m : M (List D)} {p2 : Pos} (i : Nat) (hN : X.N.Nodup) (he : PE X e (EvF C m)) (hi : X.N[i]? = some x := by rfl) (hx : Loc X.env.scope x := by first | exact Or.inl rfl | exact Or.inr rfl) (hc : notComp e = true := by rfl) (hf : X.fn x = true ∨ X.env.scope.names.lookup x = some .local := by first | exact Or.inl rfl | exact Or.inr rfl) (hr : C.rf i = false := by rfl) :
    PS X (.Assign [.Name x pos] e p2) (EvS C (sSetF i m)) := qs_setF hN hi hx hc hf hr he
/-- a constant of the module -/
def KC (mg : Str → Option Value) (K : PySem.W.Frag) (x : Str) (d : D) : Prop := ∃ (v : V) (u : Value), mg x = some u ∧ RelV v u ∧ ∀ (g : G) (L : Addr → Prop) (H : Hp), g.K = K → Rep g L H d v
theorem pd_const {d : D} (h : KC X.mg X.K x d) (hK : C.g.K = X.K) (hg : Gl X x) (hd : (x == ("__debug__" : Str)) = false) : PE X (.Name x pos) (EvE C (mC d)) := by
  obtain ⟨v, u, h1, h2, h3⟩ := h
  exact pd_c (pe_glob hg h1 h2 hd) fun L H => h3 C.g L H hK
end
theorem kc_str {mg : Str → Option Value} {K : PySem.W.Frag} {h : Heap} {x z : Str} {s : Tx} (X : K.In h) (G : h.Ns mainGlobals mg) (c : (He.Fa.str x z).ok K = true) (e : z = ⟨s.toArray⟩) (ok : okT s = true) : KC mg K x (.str s) := by
  obtain ⟨t, h1⟩ := He.str_ok X G c
  exact ⟨.str z, _, h1, ⟨t, rfl⟩, fun g L H _ => ⟨by rw [e], okT_ok ok⟩⟩
theorem kc_int {mg : Str → Option Value} {K : PySem.W.Frag} {h : Heap} {x : Str} {i : Int} (X : K.In h) (G : h.Ns mainGlobals mg) (c : (He.Fa.int x i).ok K = true) : KC mg K x (.int i) := by
  obtain ⟨t, h1⟩ := He.int_ok X G c
  exact ⟨.int i, _, h1, ⟨t, rfl⟩, fun g L H _ => rfl⟩
/-- flat tuples of the module -/
def dvD : D → He.Dv
  | .bl b => .bl b
  | .int i => .int i
  | .str s => .str ⟨s.toArray⟩
  | _ => .non
def flatB : List D → Bool
  | [] => true
  | .non :: r => flatB r
  | .bl _ :: r => flatB r
  | .int _ :: r => flatB r
  | .str s :: r => okT s && flatB r
  | _ => false
theorem flats_of {K : PySem.W.Frag} : ∀ {ds : List D}, flatB ds = true → Flats ds ((ds.map dvD).map (He.Dv.v K))
  | [], _ => .nil
  | .non :: r, h => .cons .non (flats_of h)
  | .bl b :: r, h => .cons (.bl b) (flats_of h)
  | .int i :: r, h => .cons (.int i) (flats_of h)
  | .str s :: r, h => by
    have h : (okT s && flatB r) = true := h
    rw [Bool.and_eq_true] at h
    exact .cons (.str h.1) (flats_of h.2)
  | .tup _ :: _, h => by cases h
  | .lst _ :: _, h => by cases h
  | .ins _ _ :: _, h => by cases h
theorem kc_tup {mg : Str → Option Value} {K : PySem.W.Frag} {h : Heap} {x : Str} {ds : List D} (X : K.In h) (G : h.Ns mainGlobals mg) (c : (He.Fa.glo x).ok K = true) (t : He.tupB K x (ds.map dvD) = true) (fl : flatB ds = true) (hz : ds.length ≤ 1000000) : KC mg K x (.tup ds) :=
  ⟨.ref (He.ga K x), _, He.glo_ok X G c, rfl, fun g L H hK => ⟨He.ga K x, _, rfl, ⟨.inr (by rw [hK]; exact He.tupB_ok t _), by rw [List.length_map, List.length_map]; exact big hz⟩, (flats_of fl).reps⟩⟩
/-- an error class, caught: its fields can be read -/
def Xk (mg : Str → Option Value) (K : PySem.W.Frag) (x : Str) (cls : Tx) (fs : List Str) : Prop := mg x = some (.ref (caK K cls)) ∧ XfC K (caK K cls) ∧ ∀ n ∈ fs, PySem.W.findIn K (.ref (caK K cls)) n = some none
section
variable {P : Program} {w : World} {K : PySem.W.Frag} {mg : Str → Option Value} {base : Heap} {x qual : Str} {params : Arguments} {body : List Stmt} {scope : Scope} {dvs : List V} {kws : List (Str × V)} {f : Addr} {fd : FuncData}
theorem fn_ok2 {N ps : List Str} {g : G} {n m k : Nat} {rf : Nat → Bool} {fresh : Bool} {mb : MS} (F : FunD K x qual params body scope dvs kws f fd) (S : FnScope N ps scope) (hm : N.length = m) (hps : ps.length = n) (hn : n ≤ m)
    (hb : ∀ (cdv : Value) (A : Around) (outer : List PySem.Env) (s : Shared) (H : Hp) (E : XK), Room k (A.deeper (envOfC qual scope s.heap.objs.size f cdv)) → PSs (cxOf (L2.CX P w) P w K mg base N qual scope f cdv A outer s H E) body (EvS (Cd g n rf H E) mb)) :
    FnOk P w K mg base (L2.CX P w) (k + 1) f fd ps (spF g n rf fresh (runF n m rf fresh mb)) := by
  subst hm
  exact fn_ok F S hps hn hb
end
theorem rfB {rf : Nat → Bool} {vs : List Nat} (h : (vs.all fun v => !rf v) = true) : ∀ v ∈ vs, rf v = false := fun v hv => by
  have := List.all_eq_true.mp h v hv
  simpa using this
end MP

/-! MP, part N: the head's hook over a part without lists; the law's end. -/
namespace MP
open L2 PyProof.Rows PySem PySem.Spec

def isLst (o : Obj) : Bool := match o.cls with
  | .type n => n == "list"
  | _ => false
def noL (K : PySem.W.Frag) : PySem.W.Frag := K.filter fun p => !isLst p.2
theorem lookup_mem {α : Type} {a : Addr} {o : α} : ∀ {l : List (Addr × α)}, l.lookup a = some o → (a, o) ∈ l
  | [], h => by cases h
  | (b, u) :: r, h => by
    rw [List.lookup_cons] at h
    cases q : (a == b) with
    | true =>
      rw [q] at h
      cases h
      rw [beq_iff_eq.mp q]
      exact List.mem_cons_self
    | false =>
      rw [q] at h
      exact List.mem_cons_of_mem _ (lookup_mem h)
theorem noL_in {as : List Addr} {h : Heap} : (noL (He.frG h.get? as)).In h := fun a o e => by
  have m := lookup_mem e
  have m2 := (List.mem_filter.mp m).1
  obtain ⟨b, _, hb⟩ := List.mem_filterMap.mp m2
  cases q : h.get? b with
  | none => rw [q] at hb; cases hb
  | some u =>
    rw [q] at hb
    cases hb
    exact q
theorem noL_no {K : PySem.W.Frag} {a : Addr} {o : Obj} (e : (noL K).lookup a = some o) : isLst o = false := by
  have m := (List.mem_filter.mp (lookup_mem e)).2
  simpa using m
def NoLists (K : PySem.W.Frag) : Prop := ∀ a o, K.lookup a = some o → isLst o = false
def obsNG (n : Nat) (fa : List He.Fa) (fn : List He.DefD) (ck : List (PySem.W.Frag → Bool)) (g : Addr → Option Obj) : AlM := obsM fa fn ck (noL (He.frG g (He.asD g n)))
def hookN (n : Nat) (fa : List He.Fa) (fn : List He.DefD) (ck : List (PySem.W.Frag → Bool)) : PySem.W.Hook where
  α := AlM
  obs := fun s => obsNG n fa fn ck s.heap.get?
  val := fun _ => (He.valD fn, true)
  says := fun _ h => ∃ K : PySem.W.Frag, K.In h ∧ NoLists K ∧ SaysM fa fn ck K
  of := fun _ _ e => ⟨_, noL_in, fun _ _ => noL_no, e⟩
  keeps := fun _ _ _ ⟨K, hK, nl, c⟩ k => ⟨K, PySem.W.Frag.In.keeps hK k, nl, c⟩
theorem obsNG_eq {n : Nat} {fa : List He.Fa} {fn : List He.DefD} {ck : List (PySem.W.Frag → Bool)} {g : Addr → Option Obj} {s : Shared} (h : ∀ a, g a = s.heap.get? a) : obsNG n fa fn ck g = (hookN n fa fn ck).obs s := by
  have e : g = s.heap.get? := funext h
  rw [e] <;> rfl
theorem rd_of {K : PySem.W.Frag} {H : Hp} {a : Addr} {vs : List V} (nl : NoLists K) (h : SqL K H a vs) : Rd H a (.lst vs) := by
  rcases h with h | ⟨o, its, n, e, c, _⟩
  · exact h
  · have := nl a o e
    unfold isLst at this
    rw [c] at this
    simp at this
theorem ints_rep {g : G} {L : Addr → Prop} {H : Hp} : ∀ ns : List Int, Reps g L H (ns.map D.int) (ns.map V.int)
  | [] => rfl
  | n :: ns => .cons rfl (ints_rep ns)
/-- the law's promise, from what its combinator tells -/
theorem sp_law {g : G} {rf : Nat → Bool} {F : Fn} {H : Hp} {a : Addr} {ns : List Int} (hr : rf 0 = false) (h : Rd H a (.lst (ns.map V.int))) (hl : ns.length ≤ 63) (hF : ∃ outs, F [.p (.lst (ns.map D.int))] = .ok (.bl true) outs) :
    spF g 1 rf false F [.ref a] H (fun v _ => v = .bl true) (fun _ _ _ => False) := by
  obtain ⟨outs, hF⟩ := hF
  have nL : ∀ b, ¬ LL (fun _ => False) (fun _ => none) b := fun b z => z.elim id fun ⟨i, e⟩ => (by cases e)
  refine ⟨fun _ => False, fun _ => none, [.p (.lst (ns.map D.int))], rfl, ⟨rfl, fun i => ?_, fun i j b e => (by cases e), fun i b e => (by cases e), fun b z => False.elim z, fun b z => z, fun i b _ e => (by cases e)⟩, ?_⟩
  · cases i with
    | zero => exact ⟨rfl, .ref a, rfl, a, ns.map V.int, rfl, ⟨⟨h, nL a⟩, by rw [List.length_map]; exact Nat.le_trans hl (by rw [sizeLine_eq]; decide)⟩, ints_rep ns⟩
    | succ i => show (none : Option Addr) = none; rfl
  · rw [hF]
    exact fun v A' H' _ _ r => r
theorem cx_no {P : Program} {w : World} (H : Hp) (s : Shared) (e : Value) (s' : Shared) (h : L2.CX P w [] H s (fun _ _ _ => False) e s') : False := by
  unfold L2.CX at h
  obtain ⟨a, B, H', cls, d, h⟩ := h
  obtain ⟨_, _, _, _, _, _, _, h⟩ := h
  exact h
def CXa (P : Program) : CXT := fun outer H s E u s' => ∃ w, L2.CX P w outer H s E u s'
theorem cxa_no {P : Program} (H : Hp) (s : Shared) (e : Value) (s' : Shared) (h : CXa P [] H s (fun _ _ _ => False) e s') : False := let ⟨_, h⟩ := h; cx_no H s e s' h
theorem anyW {P : Program} {w : World} {K : PySem.W.Frag} {mg : Str → Option Value} {base : Heap} {k : Nat} {f : Addr} {fd : FuncData} {ps : List Str} {sp : Sp} (F : FnOk P w K mg base (L2.CX P w) k f fd ps sp) : FnOk P w K mg base (CXa P) k f fd ps sp :=
  ⟨F.len, fun A outer s H args us vs Q E hr he hb hv hs => codeAny_mono (F.run A outer s H args us vs Q E hr he hb hv hs) fun r s' h => by
    cases r with
    | error e => exact ⟨w, h⟩
    | ok fl => cases fl <;> exact h⟩
/-! ### facts of an error class -/
def exB (x : Str) (fs : List Str) (K : PySem.W.Frag) : Bool := oexB K (He.ga K x) && (He.eqO (PySem.W.findIn K (.ref (He.ga K x)) "__init__") (some (some (.ref (He.ma K (He.ga K x) "__init__")))) && (decide (PySem.W.typeIn K (.ref (He.ma K (He.ga K x) "__init__")) = some (.type "function")) &&
  ((fs.all fun f => He.eqO (PySem.W.findIn K (.ref (He.ga K x)) f) (some none)) && xfB K (He.ga K x))))
structure ExF (K : PySem.W.Frag) (x : Str) (fs : List Str) (C : Addr) : Prop where
  oex : OexC K C
  ini : PySem.W.findIn K (.ref C) "__init__" = some (some (.ref (He.ma K (He.ga K x) "__init__")))
  typ : PySem.W.typeIn K (.ref (He.ma K (He.ga K x) "__init__")) = some (.type "function")
  no : ∀ f ∈ fs, PySem.W.findIn K (.ref C) f = some none
  xf : XfC K C
theorem exB_ok {x : Str} {fs : List Str} {K : PySem.W.Frag} (h : exB x fs K = true) {cls : Tx} (e : (⟨cls.toArray⟩ : Str) = x) : ExF K x fs (caK K cls) := by
  have ec : caK K cls = He.ga K x := congrArg (He.ga K) e
  rw [ec]
  unfold exB at h
  obtain ⟨h1, h⟩ := Bool.and_eq_true_iff.mp h
  obtain ⟨h2, h⟩ := Bool.and_eq_true_iff.mp h
  obtain ⟨h3, h⟩ := Bool.and_eq_true_iff.mp h
  obtain ⟨h4, h5⟩ := Bool.and_eq_true_iff.mp h
  exact ⟨oexB_ok h1, He.eqO_ok h2, of_decide_eq_true h3, fun f hf => He.eqO_ok (List.all_eq_true.mp h4 f hf), xfB_ok h5⟩
theorem caK_eq {K : PySem.W.Frag} {cls : Tx} {x : Str} (e : (⟨cls.toArray⟩ : Str) = x) : caK K cls = He.ga K x := congrArg (He.ga K) e
theorem glo_ca {K : PySem.W.Frag} {h : Heap} {mg : Str → Option Value} (X : K.In h) (G : h.Ns mainGlobals mg) {x : Str} (c : (He.Fa.glo x).ok K = true) {cls : Tx} (e : (⟨cls.toArray⟩ : Str) = x) : mg x = some (.ref (caK K cls)) := by
  rw [caK_eq e]
  exact He.glo_ok X G c
def hitT : List (Tx × Bool) → Tx → Option Bool
  | [], _ => none
  | (t, b) :: r, c => if c = t then some b else hitT r c
theorem hit_nil {K : PySem.W.Frag} {c : Value} : ∀ cl b, hitT [] cl = some b → PySem.W.exmOne K (.ref (caK K cl)) c = some b := fun _ _ h => by cases h
theorem hit_cons {K : PySem.W.Frag} {t u : Tx} {x y : Str} {b0 : Bool} {r : List (Tx × Bool)} (et : (⟨t.toArray⟩ : Str) = x) (eu : (⟨u.toArray⟩ : Str) = y) (h : (He.Fa.exm x y b0).ok K = true) (hr : ∀ cl b, hitT r cl = some b → PySem.W.exmOne K (.ref (caK K cl)) (.ref (caK K u)) = some b) :
    ∀ cl b, hitT ((t, b0) :: r) cl = some b → PySem.W.exmOne K (.ref (caK K cl)) (.ref (caK K u)) = some b := fun cl b q => by
  have q : (if cl = t then some b0 else hitT r cl) = some b := q
  by_cases e : cl = t
  · rw [if_pos e] at q
    cases q
    rw [e, caK_eq et, caK_eq eu]
    exact He.exm_ok h
  · rw [if_neg e] at q
    exact hr cl b q
end MP

/-! MP, part X: what combinators tell, plainly. -/
namespace MP
open L2 PyProof.Rows PySem PySem.Spec

section
variable {α β : Type} {e e' : Env}
@[simp] theorem bnd (m : M α) (f : α → M β) : (m >>= f) e = (match m e with
  | .ok a e' => f a e'
  | .ex x e' => .ex x e'
  | .bad => .bad) := rfl
@[simp] theorem bnd2 (m : M α) (f : α → M β) : M.bind m f e = (match m e with
  | .ok a e' => f a e'
  | .ex x e' => .ex x e'
  | .bad => .bad) := rfl
@[simp] theorem pur (a : α) : (pure a : M α) e = .ok a e := rfl
@[simp] theorem lift_s (a : α) : (lift (some a) : M α) e = .ok a e := rfl
@[simp] theorem lift_n : (lift none : M α) e = .bad := rfl
@[simp] theorem bad_e : (bad : M α) e = .bad := rfl
@[simp] theorem mC_e (d : D) : mC d e = .ok d e := rfl
@[simp] theorem mVar_e (i : Nat) : mVar i e = (match e[i]? with
  | some (some (.p d)) => .ok d e
  | some (some (.ml xs)) => .ok (.lst xs) (e.set i (some (.p (.lst xs))))
  | _ => .bad) := rfl
@[simp] theorem mPeek_e (i : Nat) : mPeek i e = (match e[i]? with
  | some (some (.p d)) => .ok d e
  | some (some (.ml xs)) => .ok (.lst xs) e
  | _ => .bad) := rfl
@[simp] theorem mYes_e : mYes e = .ok true e := rfl
@[simp] theorem mNil_e : mNil e = .ok [] e := rfl
@[simp] theorem mNoPart_e : mNoPart e = .ok none e := rfl
@[simp] theorem sE_e (m : M α) (f : α → MS) : sE m f e = (match m e with
  | .ok a e' => f a e'
  | .ex x e' => .ex x e'
  | .bad => .bad) := rfl
@[simp] theorem sNx_e : sNx e = .ok .nx e := rfl
@[simp] theorem sSeq_e (a b : MS) : sSeq a b e = (match a e with
  | .ok .nx e' => b e'
  | .ok fl e' => .ok fl e'
  | .ex x e' => .ex x e'
  | .bad => .bad) := rfl
/-- a comprehension over pure parts, its own slot i -/
theorem lc_run {i : Nat} {e0 : Env} (h0 : e0.set i none = e0) {tst : M Bool} {elt : M D} {p : D → Bool} {f : D → D} : ∀ {ds : List D}, (∀ d ∈ ds, tst (e0.set i (some (.p d))) = .ok (p d) (e0.set i (some (.p d)))) → (∀ d ∈ ds, p d = true → elt (e0.set i (some (.p d))) = .ok (f d) (e0.set i (some (.p d)))) →
    lcD [i] (.nm i) tst elt ds e0 = .ok ((ds.filter p).map f) e0
  | [], _, _ => rfl
  | d :: ds, ht, hf => by
    have ih := lc_run h0 (fun x hx => ht x (List.mem_cons_of_mem _ hx)) (fun x hx => hf x (List.mem_cons_of_mem _ hx))
    have w : wipeE (e0.set i (some (.p d))) [i] = e0 := by
      show (e0.set i _).set i none = e0
      rw [List.set_set, h0]
    unfold lcD
    show (match tst (e0.set i (some (.p d))) with
      | .ok true e2 => _
      | .ok false e2 => _
      | _ => _) = _
    rw [ht d List.mem_cons_self]
    cases hp : p d with
    | false =>
      dsimp only
      rw [w, ih, List.filter_cons_of_neg (by rw [hp]; simp)]
    | true =>
      dsimp only
      rw [hf d List.mem_cons_self hp]
      dsimp only
      rw [w, ih, List.filter_cons_of_pos hp, List.map_cons]
theorem lc_map {i : Nat} {e0 : Env} (h0 : e0.set i none = e0) {elt : M D} {f : D → D} {ds : List D} (hf : ∀ d ∈ ds, elt (e0.set i (some (.p d))) = .ok (f d) (e0.set i (some (.p d)))) : lcD [i] (.nm i) mYes elt ds e0 = .ok (ds.map f) e0 := by
  have h := lc_run h0 (tst := mYes) (elt := elt) (p := fun _ => true) (f := f) (ds := ds) (fun _ _ => rfl) fun d hd _ => hf d hd
  rw [h]
  congr 2
  rw [List.filter_eq_self.mpr fun _ _ => rfl]
end
theorem bls_map (bs : List Bool) : blsOf (bs.map D.bl) = some bs := by
  induction bs with
  | nil => rfl
  | cons b bs ih => show (blsOf (bs.map D.bl)).map (b :: ·) = _; rw [ih]; rfl
theorem strs_map (ts : List Tx) : strsOf (ts.map D.str) = some ts := by
  induction ts with
  | nil => rfl
  | cons b bs ih => show (strsOf (bs.map D.str)).map (b :: ·) = _; rw [ih]; rfl
theorem ints_map (ts : List Int) : intsOf (ts.map D.int) = some ts := by
  induction ts with
  | nil => rfl
  | cons b bs ih => show (intsOf (bs.map D.int)).map (b :: ·) = _; rw [ih]; rfl
theorem atI_zero {α : Type} (x : α) (xs : List α) : atI (x :: xs) 0 = some x := by
  unfold atI ixN
  rw [if_pos (by omega), if_pos (by simp)]
  rfl
theorem atI_nat {α : Type} (xs : List α) (k : Nat) : atI xs (k : Int) = xs[k]? := by
  unfold atI ixN
  rw [if_pos (by omega)]
  by_cases h : k < xs.length
  · rw [if_pos (by omega)]
    simp
  · rw [if_neg (by omega)]
    simp; omega
theorem cutL_tail {α : Type} (x : α) (xs : List α) : cutL (x :: xs) (some 1) none = xs := by
  unfold cutL
  simp [HT.sIx]
@[simp] theorem bls_comp {α : Type} (f : α → Bool) (xs : List α) : blsOf (xs.map (D.bl ∘ f)) = some (xs.map f) := by
  rw [← bls_map (xs.map f), List.map_map]
@[simp] theorem strs_comp {α : Type} (f : α → Tx) (xs : List α) : strsOf (xs.map (D.str ∘ f)) = some (xs.map f) := by
  rw [← strs_map (xs.map f), List.map_map]
@[simp] theorem strs_fun {α : Type} (f : α → Tx) (xs : List α) : strsOf (xs.map fun x => D.str (f x)) = some (xs.map f) := strs_comp f xs
@[simp] theorem bls_fun {α : Type} (f : α → Bool) (xs : List α) : blsOf (xs.map fun x => D.bl (f x)) = some (xs.map f) := bls_comp f xs
@[simp] theorem all_id' {α : Type} (f : α → Bool) (xs : List α) : (xs.map f).all id = xs.all f := by
  induction xs with
  | nil => rfl
  | cons x xs ih => simp
theorem spl_ne (S : List Nat) : ∀ (l : List Nat) (k : Nat) (acc : List Nat), TL.spl S k acc l ≠ []
  | [], k, acc => by rw [TL.spl_nil]; simp
  | c :: r, 0, acc => by
    show (if TL.pre S (c :: r) = true then acc :: TL.spl S (S.length - 1) [] r else TL.spl S 0 (acc ++ [c]) r) ≠ []
    split
    · simp
    · exact spl_ne S r 0 _
  | c :: r, k + 1, acc => spl_ne S r k acc
theorem spl_cons (S : List Nat) (l : List Nat) : ∃ h t, TL.spl S 0 [] l = h :: t := by
  cases e : TL.spl S 0 [] l with
  | nil => exact absurd e (spl_ne S l 0 [])
  | cons h t => exact ⟨h, t, rfl⟩
theorem spl_le {S : List Nat} {l : List Nat} {p : Tx} (h : p ∈ TL.spl S 0 [] l) : p.length ≤ l.length := by
  have := (spl_in S l 0 [] p h).2
  simpa using this
theorem spl_many {S : List Nat} {l h : List Nat} {t : List Tx} (e : TL.spl S 0 [] l = h :: t) : t.length ≤ l.length := by
  have := spl_len S l 0 []
  rw [e] at this
  simpa using this
theorem splitF_e {s : Tx} {c : Nat} (h : s.length ≤ 1000000) (hc : c < 256) : splitF s (.str [c]) = some ((TL.spl [c] 0 [] s).map .str) := if_pos ⟨h, hc⟩
theorem peek_set {i : Nat} {e : Env} {d : D} (h : i < e.length) : (e.set i (some (.p d)))[i]? = some (some (.p d)) := List.getElem?_set_self h
theorem binL_set {f : D → D → Option D} {i : Nat} {e : Env} {d c k : D} (h : i < e.length) (hf : f d c = some k) : mBinL f i (mC c) (e.set i (some (.p d))) = .ok k (e.set i (some (.p d))) := by
  unfold mBinL
  simp [peek_set h, hf]
theorem un_set {f : D → Option D} {i : Nat} {e : Env} {d k : D} (h : i < e.length) (hf : f d = some k) : mUn f (mPeek i) (e.set i (some (.p d))) = .ok k (e.set i (some (.p d))) := by
  unfold mUn
  simp [peek_set h, hf]
section
variable {e : Env} {α : Type}
@[simp] theorem u_mBin (f a b) : mBin f a b e = (a >>= fun x => b >>= fun y => lift (f x y)) e := rfl
@[simp] theorem u_mBinL (f i b) : mBinL f i b e = (mPeek i >>= fun _ => b >>= fun y => mPeek i >>= fun x => lift (f x y)) e := rfl
@[simp] theorem u_mBinF (f a b) : mBinF f a b e = (a >>= fun x => b >>= fun y => lift (f x y)) e := rfl
@[simp] theorem u_mBinFL (f i b) : mBinFL f i b e = (mPeek i >>= fun _ => b >>= fun y => mPeek i >>= fun x => lift (f x y)) e := rfl
@[simp] theorem u_mUn (f : D → Option α) (a) : mUn f a e = (a >>= fun x => lift (f x)) e := rfl
@[simp] theorem u_mMs (f : Tx → D → Option α) (a b) : mMs f a b e = (a >>= fun x => lift (MP.strOf x) >>= fun s => b >>= fun y => lift (f s y)) e := rfl
@[simp] theorem u_mSl (f : D → Option Int → Option Int → Option α) (a l h) : mSl f a l h e = (a >>= fun x => l >>= fun l => h >>= fun h => lift (f x l h)) e := rfl
@[simp] theorem u_mSlL (f : D → Option Int → Option Int → Option α) (i l h) : mSlL f i l h e = (mPeek i >>= fun _ => l >>= fun l => h >>= fun h => mPeek i >>= fun x => lift (f x l h)) e := rfl
@[simp] theorem u_mPart (m) : mPart m e = (m >>= fun d => lift (MP.intD d) >>= fun i => pure (some i)) e := rfl
@[simp] theorem u_mTest (m) : mTest m e = (m >>= fun d => lift (blD d)) e := rfl
@[simp] theorem u_mTru (m) : mTru m e = (m >>= fun d => lift (truD d)) e := rfl
@[simp] theorem u_mNotB (m) : mNotB m e = (m >>= fun b => pure (!b)) e := rfl
@[simp] theorem u_mNot (m) : mNot m e = (m >>= fun d => lift (truD d) >>= fun b => pure (.bl (!b))) e := rfl
@[simp] theorem u_mAnd (a b) : mAnd a b e = (a >>= fun x => lift (truD x) >>= fun t => if t then b else pure x) e := rfl
@[simp] theorem u_mOr (a b) : mOr a b e = (a >>= fun x => lift (truD x) >>= fun t => if t then pure x else b) e := rfl
@[simp] theorem u_mIf (c a b) : mIf c a b e = (c >>= fun t => if t then a else b) e := rfl
@[simp] theorem u_mAndB (a b) : mAndB a b e = (a >>= fun x => if x then b else pure false) e := rfl
@[simp] theorem u_mOrB (a b) : mOrB a b e = (a >>= fun x => if x then pure true else b) e := rfl
@[simp] theorem u_mChain (f f' a b c) : mChain f f' a b c e = (a >>= fun x => b >>= fun y => lift (f x y) >>= fun z => lift (blD z) >>= fun t => if t then (c >>= fun w => lift (f' y w)) else pure (.bl false)) e := rfl
@[simp] theorem u_mTup (r) : mTup r e = (r >>= fun xs => if xs.length ≤ 1000000 then pure (.tup xs) else bad) e := rfl
@[simp] theorem u_mLst (r) : mLst r e = (r >>= fun xs => if xs.length ≤ 1000000 then pure xs else bad) e := rfl
@[simp] theorem u_mCons (a r) : mCons a r e = (a >>= fun x => r >>= fun xs => pure (x :: xs)) e := rfl
@[simp] theorem u_mFE (m) : mFE m e = (m >>= fun xs => pure (.lst xs)) e := rfl
@[simp] theorem u_mIter (m) : mIter m e = (m >>= fun d => lift (itD d)) e := rfl
@[simp] theorem u_mArgs (f : List D → Option α) (m) : mArgs f m e = (m >>= fun ds => lift (f ds)) e := rfl
@[simp] theorem u_ifM (c : Bool) (a b : M α) : (if c = true then a else b) e = if c = true then a e else b e := by cases c <;> rfl
@[simp] theorem u_mLc (own src tg tst elt) : mLc own src tg tst elt e = (src >>= fun ds => fun e => if ds.length ≤ 1000000 then (match lcD own tg tst elt ds (wipeE (frz e own) own) with
    | .ok ys e' => .ok ys (back0 (frz e own) e' own)
    | _ => .bad) else .bad) e := rfl
@[simp] theorem u_mCall (F args) : mCall F args e = (evArgs args >>= fun ds => fun e => after F args some (gather args ds e) e) e := rfl
@[simp] theorem u_mCallF (F args) : mCallF F args e = (evArgs args >>= fun ds => fun e => after F args lstD (gather args ds e) e) e := rfl
@[simp] theorem u_ea0 : evArgs [] e = .ok [] e := rfl
@[simp] theorem u_ea1 (m r) : evArgs (.e m :: r) e = (m >>= fun d => evArgs r >>= fun ds => pure (AV.v d :: ds)) e := rfl
@[simp] theorem u_ea2 (j r) : evArgs (.r j :: r) e = (chk j >>= fun _ => evArgs r >>= fun ds => pure (AV.s :: ds)) e := rfl
@[simp] theorem u_ea3 (m r) : evArgs (.f m :: r) e = (m >>= fun d => evArgs r >>= fun ds => pure (AV.l d :: ds)) e := rfl
@[simp] theorem u_chk (j) : chk j e = (match e[j]? with
  | some (some (.p _)) => .ok () e
  | some (some (.ml _)) => .ok () e
  | _ => .bad) := rfl
@[simp] theorem u_sIf (c a b) : sIf c a b e = sE c (fun t => if t then a else b) e := rfl
@[simp] theorem u_ifS (c : Bool) (a b : MS) : (if c = true then a else b) e = if c = true then a e else b e := by cases c <;> rfl
@[simp] theorem u_sSet (i m) : sSet i m e = sE m (fun d e => .ok .nx (e.set i (some (.p d)))) e := rfl
@[simp] theorem u_sSetF (i m) : sSetF i m e = sE m (fun ds e => if i < e.length then .ok .nx (e.set i (some (.ml ds))) else .bad) e := rfl
@[simp] theorem u_sRet (m) : sRet m e = sE m (fun d e => .ok (.rt d) e) e := rfl
@[simp] theorem u_sRetF (m) : sRetF m e = sE m (fun d e => .ok (.rtf d) e) e := rfl
@[simp] theorem u_sRetN : sRetN e = .ok (.rt .non) e := rfl
@[simp] theorem u_sRetX (i) : sRetX i e = (match e[i]? with
  | some (some (.p d)) => .ok (.rt d) e
  | some (some (.ml xs)) => .ok (.rtx i xs) e
  | _ => .bad) := rfl
@[simp] theorem u_sDrop (m) : sDrop m e = sE m (fun _ => sNx) e := rfl
@[simp] theorem u_sDropF (m) : sDropF m e = sE m (fun _ => sNx) e := rfl
end
@[simp] theorem i_str_non : isiB "str" .non = some (.bl false) := rfl
@[simp] theorem i_str_bl (b : Bool) : isiB "str" (.bl b) = some (.bl false) := rfl
@[simp] theorem i_str_int (i : Int) : isiB "str" (.int i) = some (.bl false) := rfl
@[simp] theorem i_str_str (s : Tx) : isiB "str" (.str s) = some (.bl true) := rfl
@[simp] theorem i_str_tup (xs : List D) : isiB "str" (.tup xs) = some (.bl false) := rfl
@[simp] theorem i_str_lst (xs : List D) : isiB "str" (.lst xs) = some (.bl false) := rfl
@[simp] theorem i_tuple_non : isiB "tuple" .non = some (.bl false) := rfl
@[simp] theorem i_tuple_bl (b : Bool) : isiB "tuple" (.bl b) = some (.bl false) := rfl
@[simp] theorem i_tuple_int (i : Int) : isiB "tuple" (.int i) = some (.bl false) := rfl
@[simp] theorem i_tuple_str (s : Tx) : isiB "tuple" (.str s) = some (.bl false) := rfl
@[simp] theorem i_tuple_tup (xs : List D) : isiB "tuple" (.tup xs) = some (.bl true) := rfl
@[simp] theorem i_tuple_lst (xs : List D) : isiB "tuple" (.lst xs) = some (.bl false) := rfl
@[simp] theorem i_int_non : isiB "int" .non = some (.bl false) := rfl
@[simp] theorem i_int_bl (b : Bool) : isiB "int" (.bl b) = some (.bl true) := rfl
@[simp] theorem i_int_int (i : Int) : isiB "int" (.int i) = some (.bl true) := rfl
@[simp] theorem i_int_str (s : Tx) : isiB "int" (.str s) = some (.bl false) := rfl
@[simp] theorem i_int_tup (xs : List D) : isiB "int" (.tup xs) = some (.bl false) := rfl
@[simp] theorem i_int_lst (xs : List D) : isiB "int" (.lst xs) = some (.bl false) := rfl
@[simp] theorem i_bool_non : isiB "bool" .non = some (.bl false) := rfl
@[simp] theorem i_bool_bl (b : Bool) : isiB "bool" (.bl b) = some (.bl true) := rfl
@[simp] theorem i_bool_int (i : Int) : isiB "bool" (.int i) = some (.bl false) := rfl
@[simp] theorem i_bool_str (s : Tx) : isiB "bool" (.str s) = some (.bl false) := rfl
@[simp] theorem i_bool_tup (xs : List D) : isiB "bool" (.tup xs) = some (.bl false) := rfl
@[simp] theorem i_bool_lst (xs : List D) : isiB "bool" (.lst xs) = some (.bl false) := rfl
@[simp] theorem i_list_non : isiB "list" .non = some (.bl false) := rfl
@[simp] theorem i_list_bl (b : Bool) : isiB "list" (.bl b) = some (.bl false) := rfl
@[simp] theorem i_list_int (i : Int) : isiB "list" (.int i) = some (.bl false) := rfl
@[simp] theorem i_list_str (s : Tx) : isiB "list" (.str s) = some (.bl false) := rfl
@[simp] theorem i_list_tup (xs : List D) : isiB "list" (.tup xs) = some (.bl false) := rfl
@[simp] theorem i_list_lst (xs : List D) : isiB "list" (.lst xs) = some (.bl true) := rfl
end MP

/-! MP, part O: methods of owned lists, recursion. -/
namespace MP
open L2 PyProof.Rows PySem PySem.Spec

def appF (d : D) (xs : List D) : Option (D × List D) := if xs.length < 1000000 then some (.non, xs ++ [d]) else none
theorem om_app {g : G} : OM1 g rAppend appF := by
  intro L H ds ys x d a vs w Q ha z r rx hf q
  unfold appF at hf
  split at hf
  · rename_i hz
    cases hf
    have hz2 : vs.length < sizeLine := by
      have h1 := big (n := 1000000) (Nat.le_refl _)
      rw [← r.length]; omega
    exact ⟨a, vs, w, rfl, rfl, ha, hz2, q .non _ (by rw [List.length_append]; exact hz2) (r.app (.one rx)) rfl⟩
  · cases hf
def popF (xs : List D) : Option (D × List D) := match xs.getLast? with
  | some d => some (d, xs.dropLast)
  | none => none
section
variable {X : Cx} {C : Cy} {i : Nat} {x : Str} {p apos cpos : Pos} {e : Expr} {m : M D}
theorem pd_app (hx : PE X (.Name x p) (tVar i)) (he : PE X e (EvE C m)) (hn : notStar e = true) (hbase : attributeBase (.Name x p) "append" X.env (eval (.Name x p) X.env) = eval (.Name x p) X.env)
    (hfew : ((backTo cpos (starEach [e] X.env)).all (fun x => !x.1) && (backToKw cpos (keywordEach [] X.env)).all (fun x => x.1.isSome) && decide ([e].length + ([] : List Keyword).length + (if ([] : List Keyword).isEmpty then 0 else 1) < 30)) = true)
    (hline : (apos.endLine == cpos.line) = true) : PE X (.Call (.Attribute (.Name x p) "append" apos) [e] [] cpos) (EvE C (mOwn1 i appF m)) :=
  (pe_bm (id := "list.append") F.plainAttrs_list F.slot_list_append F.type_list_append mt_append hx (pa_cons he pa_nil (starEach_cons hn)) hbase hfew hline (starEach_cons hn) (plain_all rfl)).weak fun σ H Q h => bm1_weak om_app σ H Q h
end
/-- a promise that is never asked -/
theorem cal_bad {P : Program} {w : World} {K : PySem.W.Frag} {mg : Str → Option Value} {base : Heap} {g : G} {k n : Nat} {rf : Nat → Bool} {fresh : Bool} {f : Addr} {fd : FuncData} {ps : List Str} : FnOk P w K mg base (L2.CX P w) k f fd ps (spF g n rf fresh fun _ => .bad) :=
  ⟨fun vs H Q E h => by
    obtain ⟨_, _, _, _, _, h⟩ := h
    exact h.elim, fun A outer s H args us vs Q E hr e0 hb hv h => by
    obtain ⟨_, _, _, _, _, h⟩ := h
    exact h.elim⟩
end MP

namespace LW
open MP L2 PyProof.Rows PySem PySem.Spec
def c_LETTERS : D := (.str [97, 98, 99, 100, 101, 102, 103, 104, 105, 106, 107, 108, 109, 110, 111, 112, 113, 114, 115, 116, 117, 118, 119, 120, 121, 122])
def l_CELLS : List D := [(.str [48]), (.str [49]), (.str [50]), (.str [51]), (.str [52]), (.str [53]), (.str [54]), (.str [55]), (.str [56]), (.str [57]), (.str [49, 48]), (.str [49, 49]), (.str [49, 50]), (.str [49, 51]), (.str [49, 52]), (.str [49, 53])]
def c_CELLS : D := .tup l_CELLS
def c_MOST_TARGETS : D := (.int 4)
/- is_integer -/
def m_is_integer : MS := (sRet (mAnd (mUn (isiB "int") (mPeek 0)) (mNot (mUn (isiB "bool") (mPeek 0)))))
def r_is_integer : Nat → Bool := fun i => false
def F_is_integer : Fn := runF 1 1 r_is_integer false m_is_integer
/- is_name -/
def m_is_name : MS := (sRet (mAnd (mUn (isiB "str") (mPeek 0)) (mAnd (mChain (cmpD fun i j => decide (i ≤ j)) (cmpD fun i j => decide (i ≤ j)) (mC (.int 1)) (mUn lenD (mPeek 0)) (mC (.int 4))) (mUn allF (mFE (mLc [1] (mIter (mVar 0)) (.nm 1) mYes (mBinL inD 1 (mC c_LETTERS))))))))
def r_is_name : Nat → Bool := fun i => false
def F_is_name : Fn := runF 1 2 r_is_name false m_is_name
/- _law_box -/
def m__law_box : MS := (sSeq (sSet 2 (mBin addD (mBin mulD (mC (.int 7919)) (mPeek 1)) (mC (.int 101)))) (sSeq (sIf (mTest (mBinL (cmpD fun i j => decide (i < j)) 1 (mUn lenD (mPeek 0)))) (sSet 2 (mUn absF (mBinL ixD 0 (mPeek 1)))) (sIf (mTest (mBin (cmpD fun i j => decide (j < i)) (mUn lenD (mPeek 0)) (mC (.int 0)))) (sSet 2 (mBin addD (mBin mulD (mBin modD (mUn intF (mUn absF (mBinL ixD 0 (mBin modD (mUn intF (mPeek 1)) (mUn lenD (mPeek 0)))))) (mC (.int 1000000007))) (mC (.int 31))) (mBin mulD (mC (.int 7919)) (mPeek 1)))) sNx)) (sSeq (sSet 3 (mBin ixD (mFE (mLst (mCons (mC (.int 0)) (mCons (mVar 2) mNil)))) (mUn intF (mBinL (cmpD fun i j => decide (j ≤ i)) 2 (mBin powD (mC (.int 10)) (mC (.int 18))))))) (sRetF (mLst (mCons (mVar 3) (mCons (mBin addD (mBin modD (mUn intF (mBin addD (mBin mulD (mBin modD (mUn intF (mPeek 2)) (mC (.int 1000000007))) (mC (.int 48271))) (mBin mulD (mC (.int 613)) (mPeek 1)))) (mC (.int 2147483647))) (mC (.int 1))) mNil)))))))
def r__law_box : Nat → Bool := fun i => false
def F__law_box : Fn := runF 2 4 r__law_box true m__law_box
/- _law_take -/
def m__law_take : MS := (sSeq (sIf (mTest (mBin (cmpD fun i j => decide (j < i)) (mBinL ixD 0 (mC (.int 0))) (mC (.int 0)))) (sSeq (sSet 2 (mBin modD (mUn intF (mBinL ixD 0 (mC (.int 0)))) (mPeek 1))) (sSeq (sIx 0 (mC (.int 0)) (mBin fdivD (mBinL ixD 0 (mC (.int 0))) (mPeek 1))) (sRetX 2))) sNx) (sSeq (sIx 0 (mC (.int 1)) (mBin modD (mUn intF (mBin addD (mBin mulD (mBinL ixD 0 (mC (.int 1))) (mC (.int 39373))) (mC (.int 69621)))) (mC (.int 2147483647)))) (sRet (mBin modD (mUn intF (mBin fdivD (mBinL ixD 0 (mC (.int 1))) (mC (.int 8191)))) (mPeek 1)))))
def r__law_take : Nat → Bool := fun i => i == 0
def F__law_take : Fn := runF 2 3 r__law_take false m__law_take
/- _law_whole -/
def m__law_whole : MS := (sRet (mAnd (mUn (isiB "int") (mPeek 0)) (mNot (mUn (isiB "bool") (mPeek 0)))))
def r__law_whole : Nat → Bool := fun i => false
def F__law_whole : Fn := runF 1 1 r__law_whole false m__law_whole
/- _law_is_word -/
def m__law_is_word : MS := (sSeq (sIf (mNotB (mTru (mUn (isiB "str") (mPeek 0)))) (sRet (mC (.bl false))) sNx) (sSeq (sSetF 1 (mMs splitF (mPeek 0) (mC (.str [62])))) (sSeq (sSetF 2 (mMs splitF (mBinL ixD 1 (mC (.int 0))) (mC (.str [46])))) (sSeq (sIf (mOrB (mTest (mBin (cmpD fun i j => decide (j < i)) (mUn lenD (mPeek 1)) (mC (.int 2)))) (mOrB (mTest (mBin (cmpD fun i j => decide (j < i)) (mUn lenD (mPeek 2)) (mC (.int 4)))) (mOrB (mTest (mBin (cmpD fun i j => decide (i < j)) (mUn lenD (mBinL ixD 2 (mC (.int 0)))) (mC (.int 1)))) (mTest (mBin (cmpD fun i j => decide (j < i)) (mUn lenD (mBinL ixD 2 (mC (.int 0)))) (mC (.int 4))))))) (sRet (mC (.bl false))) sNx) (sSeq (sIf (mTest (mBin neD (mFE (mLc [3] (mIter (mBinL ixD 2 (mC (.int 0)))) (.nm 3) (mTest (mBinL notInD 3 (mC (.str [97, 98, 99, 100, 101, 102, 103, 104, 105, 106, 107, 108, 109, 110, 111, 112, 113, 114, 115, 116, 117, 118, 119, 120, 121, 122])))) (mVar 3))) (mFE (mLst mNil)))) (sRet (mC (.bl false))) sNx) (sRet (mBin eqD (mFE (mLc [4] (mIter (mFE (mBinF catD (mFE (mSlL slF 2 (mPart (mC (.int 1))) mNoPart)) (mFE (mSlL slF 1 (mPart (mC (.int 1))) mNoPart))))) (.nm 4) (mTest (mBinL notInD 4 (mFE (mLc [5] (mArgs rngD1 (mCons (mC (.int 16)) mNil)) (.nm 5) mYes (mUn strF (mPeek 5)))))) (mVar 4))) (mFE (mLst mNil)))))))))
def r__law_is_word : Nat → Bool := fun i => false
def F__law_is_word : Fn := runF 1 6 r__law_is_word false m__law_is_word
/- _law_is_due -/
def m__law_is_due : MS := (sRet (mIf (mTru (mPeek 1)) (mBinL isD 0 (mC (.bl true))) (mBinL isD 0 (mC (.bl false)))))
def r__law_is_due : Nat → Bool := fun i => false
def F__law_is_due : Fn := runF 2 2 r__law_is_due false m__law_is_due
/- is_number -/
def m_is_number : MS := (sRet (mAnd (mCall F_is_integer [.e (mVar 0)]) (mBinL (cmpD fun i j => decide (j ≤ i)) 0 (mC (.int 0)))))
def r_is_number : Nat → Bool := fun i => false
def F_is_number : Fn := runF 1 1 r_is_number false m_is_number
/- parts_of -/
def m_parts_of : MS := (sSeq (sIf (mNotB (mTru (mUn (isiB "str") (mPeek 0)))) (sRet (mC .non)) sNx) (sSeq (sSetF 1 (mMs splitF (mPeek 0) (mC (.str [62])))) (sSeq (sSetF 2 (mMs splitF (mBinL ixD 1 (mC (.int 0))) (mC (.str [46])))) (sSeq (sSetF 3 (mSlL slF 2 (mPart (mC (.int 1))) mNoPart)) (sSeq (sSetF 4 (mSlL slF 1 (mPart (mC (.int 1))) mNoPart)) (sSeq (sIf (mOrB (mNotB (mTru (mCall F_is_name [.e (mBinL ixD 2 (mC (.int 0)))]))) (mOrB (mTest (mBin (cmpD fun i j => decide (j < i)) (mUn lenD (mPeek 3)) (mC (.int 3)))) (mTest (mBin (cmpD fun i j => decide (j < i)) (mUn lenD (mPeek 4)) (mC (.int 1)))))) (sRet (mC .non)) sNx) (sSeq (sIf (mNotB (mTru (mUn allF (mFE (mLc [5] (mIter (mFE (mBinFL catD 3 (mPeek 4)))) (.nm 5) mYes (mBinL inD 5 (mC c_CELLS))))))) (sRet (mC .non)) sNx) (sRet (mTup (mCons (mBinL ixD 2 (mC (.int 0))) (mCons (mUn tupD (mFE (mLc [5] (mIter (mVar 3)) (.nm 5) mYes (mUn intF (mPeek 5))))) (mCons (mUn tupD (mFE (mLc [5] (mIter (mVar 4)) (.nm 5) mYes (mUn intF (mPeek 5))))) mNil))))))))))))
def r_parts_of : Nat → Bool := fun i => false
def F_parts_of : Fn := runF 1 6 r_parts_of false m_parts_of
/- _law_pick -/
def m__law_pick : MS := (sRet (mBinL ixD 1 (mCall F__law_take [.r 0, .e (mUn lenD (mPeek 1))])))
def r__law_pick : Nat → Bool := fun i => i == 0
def F__law_pick : Fn := runF 2 2 r__law_pick false m__law_pick
/- _law_is_numbers -/
def m__law_is_numbers : MS := (sSeq (sIf (mNotB (mTru (mUn (isiB "tuple") (mPeek 0)))) (sRet (mC (.bl false))) sNx) (sRet (mBin eqD (mFE (mLc [2] (mIter (mVar 0)) (.nm 2) (mOrB (mNotB (mTru (mCall F__law_whole [.e (mVar 2)]))) (mOrB (mTest (mBinL (cmpD fun i j => decide (i < j)) 2 (mC (.int 0)))) (mTest (mBinL (cmpD fun i j => decide (j ≤ i)) 2 (mPeek 1))))) (mVar 2))) (mFE (mLst mNil)))))
def r__law_is_numbers : Nat → Bool := fun i => false
def F__law_is_numbers : Fn := runF 2 3 r__law_is_numbers false m__law_is_numbers
/- _law_target -/
def m__law_target : MS := (sSeq (sIf (mAndB (mTru (mPeek 3)) (mTest (mBin (cmpD fun i j => decide (j < i)) (mCall F__law_take [.r 0, .e (mC (.int 4))]) (mC (.int 0))))) (sRet (mArgs min2F (mCons (mBinL subD 2 (mC (.int 1))) (mCons (mBin addD (mBinL addD 1 (mC (.int 1))) (mCall F__law_take [.r 0, .e (mC (.int 4))])) mNil)))) sNx) (sRet (mCall F__law_take [.r 0, .e (mVar 2)])))
def r__law_target : Nat → Bool := fun i => i == 0
def F__law_target : Fn := runF 4 4 r__law_target false m__law_target
/- _law_odd_line -/
def m__law_odd_line : MS := (sSeq (sSet 2 (mCall F__law_take [.r 0, .e (mC (.int 16))])) (sSeq (sSet 3 (mCall F__law_take [.r 0, .e (mBinL addD 1 (mC (.int 2)))])) (sSeq (sSetF 4 (mLst (mCons (mTup (mCons (mC (.str [103, 111])) (mCons (mVar 1) mNil))) (mCons (mTup (mCons (mC (.str [99, 97, 108, 108])) (mCons (mVar 1) mNil))) (mCons (mTup (mCons (mC (.str [97, 115, 107])) (mCons (mC (.str [97])) (mCons (mTup mNil) mNil)))) (mCons (mTup (mCons (mC (.str [97, 115, 107])) (mCons (mC (.str [97])) (mCons (mTup (mCons (mVar 3) (mCons (mVar 3) (mCons (mVar 3) (mCons (mVar 3) (mCons (mVar 3) mNil)))))) mNil)))) (mCons (mTup (mCons (mC (.str [97, 115, 107])) (mCons (mC (.str [97])) (mCons (mFE (mLst (mCons (mVar 3) mNil))) mNil)))) (mCons (mTup (mCons (mC (.str [100, 111])) mNil)) (mCons (mTup (mCons (mC (.str [100, 111])) (mCons (mC (.str [97, 98, 99, 100, 101])) mNil))) mNil))))))))) (sSeq (sSetF 4 (mBinFL catD 4 (mFE (mLst (mCons (mTup (mCons (mC (.str [100, 111])) (mCons (mC (.str [97, 46, 49, 54])) mNil))) (mCons (mTup (mCons (mC (.str [98, 97, 99, 107])) (mCons (mC (.int 0)) mNil))) (mCons (mFE (mLst (mCons (mC (.str [98, 97, 99, 107])) mNil))) (mCons (mTup (mCons (mC (.str [103, 111])) (mCons (mC (.int (-1))) mNil))) (mCons (mTup (mCons (mC (.str [103, 111])) (mCons (mC (.bl true)) mNil))) (mCons (mTup (mCons (mC (.str [68, 111])) (mCons (mC (.str [97])) mNil))) (mCons (mTup (mCons (mC (.str [97, 115, 107])) (mCons (mC (.str [97, 46, 49, 62, 50])) (mCons (mTup (mCons (mVar 3) mNil)) mNil)))) (mCons (mC .non) (mCons (mTup (mCons (mC (.str [99, 97, 108, 108])) (mCons (mVar 3) mNil))) mNil))))))))))))) (sRet (mBinL ixD 4 (mPeek 2)))))))
def r__law_odd_line : Nat → Bool := fun i => i == 0
def F__law_odd_line : Fn := runF 2 5 r__law_odd_line false m__law_odd_line
/- is_below -/
def m_is_below : MS := (sRet (mAnd (mCall F_is_number [.e (mVar 0)]) (mBinL (cmpD fun i j => decide (i < j)) 0 (mPeek 1))))
def r_is_below : Nat → Bool := fun i => false
def F_is_below : Fn := runF 2 2 r_is_below false m_is_below
/- is_word -/
def m_is_word : MS := (sRet (mBin isNotD (mCall F_parts_of [.e (mVar 0)]) (mC .non)))
def r_is_word : Nat → Bool := fun i => false
def F_is_word : Fn := runF 1 1 r_is_word false m_is_word
/- _law_word -/
def m__law_word : MS := (sSeq (sSet 1 (mC (.str []))) (sSeq (sFor (mArgs rngD1 (mCons (mBin addD (mC (.int 1)) (mCall F__law_take [.r 0, .e (mC (.int 4))])) mNil)) (.nm 2) (sSet 1 (mBinL addD 1 (mCall F__law_pick [.r 0, .e (mC (.str [97, 98, 99, 100, 101, 102, 103, 104, 105, 106, 107, 108, 109, 110, 111, 112, 113, 114, 115, 116, 117, 118, 119, 120, 121, 122]))])))) (sSeq (sFor (mArgs rngD1 (mCons (mCall F__law_take [.r 0, .e (mC (.int 4))]) mNil)) (.nm 2) (sSet 1 (mBin addD (mBinL addD 1 (mC (.str [46]))) (mUn strF (mCall F__law_take [.r 0, .e (mC (.int 16))]))))) (sSeq (sIf (mTest (mBin eqD (mCall F__law_take [.r 0, .e (mC (.int 2))]) (mC (.int 1)))) (sSet 1 (mBin addD (mBinL addD 1 (mC (.str [62]))) (mUn strF (mCall F__law_take [.r 0, .e (mC (.int 16))])))) sNx) (sRetX 1)))))
def r__law_word : Nat → Bool := fun i => i == 0
def F__law_word : Fn := runF 1 3 r__law_word false m__law_word
/- _law_raw -/
def m__law_raw : MS := (sSeq (sSet 3 (mCall F__law_pick [.r 0, .e (mFE (mLst (mCons (mC (.str [98, 98, 98, 100, 100, 100, 100, 100, 100, 97, 97, 97, 99, 99, 99, 103])) (mCons (mC (.str [98, 100, 100, 100, 100, 100, 100, 100, 97, 97, 97, 99, 99, 99, 99, 103])) (mCons (mC (.str [100, 100, 100, 100, 100, 100, 100, 100, 100, 100, 100, 97, 97, 99, 99, 103])) (mCons (mC (.str [100, 100, 100, 100, 100, 100, 100, 100, 100, 100, 100, 100, 100, 100, 97, 99])) mNil))))))])) (sSeq (sSet 4 (mBin eqD (mCall F__law_take [.r 0, .e (mC (.int 2))]) (mC (.int 1)))) (sSeq (sSetF 5 (mLst mNil)) (sSeq (sFor (mArgs rngD1 (mCons (mVar 1) mNil)) (.nm 6) (sSeq (sSet 7 (mCall F__law_pick [.r 0, .e (mVar 3)])) (sSeq (sIf (mTest (mBinL eqD 6 (mBinL subD 1 (mC (.int 1))))) (sSet 8 (mIf (mTest (mBin (cmpD fun i j => decide (j < i)) (mCall F__law_take [.r 0, .e (mC (.int 4))]) (mC (.int 0)))) (mTup (mCons (mC (.str [98, 97, 99, 107])) mNil)) (mTup (mCons (mC (.str [103, 111])) (mCons (mCall F__law_take [.r 0, .e (mVar 1)]) mNil))))) (sIf (mTest (mBinL eqD 7 (mC (.str [98])))) (sSet 8 (mTup (mCons (mC (.str [98, 97, 99, 107])) mNil))) (sIf (mTest (mBinL eqD 7 (mC (.str [100])))) (sSet 8 (mTup (mCons (mC (.str [100, 111])) (mCons (mCall F__law_pick [.r 0, .e (mVar 2)]) mNil)))) (sIf (mTest (mBinL eqD 7 (mC (.str [97])))) (sSeq (sSet 9 (mTup (mCons (mCall F__law_target [.r 0, .e (mVar 6), .e (mVar 1), .e (mVar 4)]) mNil))) (sSeq (sFor (mArgs rngD1 (mCons (mBin ixD (mFE (mLst (mCons (mC (.int 0)) (mCons (mC (.int 0)) (mCons (mC (.int 0)) (mCons (mC (.int 1)) (mCons (mC (.int 2)) (mCons (mC (.int 3)) mNil)))))))) (mCall F__law_take [.r 0, .e (mC (.int 6))])) mNil)) (.nm 10) (sSet 9 (mBinL addD 9 (mTup (mCons (mCall F__law_target [.r 0, .e (mVar 6), .e (mVar 1), .e (mVar 4)]) mNil))))) (sSet 8 (mTup (mCons (mC (.str [97, 115, 107])) (mCons (mCall F__law_pick [.r 0, .e (mVar 2)]) (mCons (mVar 9) mNil))))))) (sSet 8 (mTup (mCons (mIf (mTest (mBinL eqD 7 (mC (.str [99])))) (mC (.str [99, 97, 108, 108])) (mC (.str [103, 111]))) (mCons (mCall F__law_target [.r 0, .e (mVar 6), .e (mVar 1), .e (mVar 4)]) mNil)))))))) (sDrop (mOwn1 5 appF (mVar 8)))))) (sRetX 5)))))
def r__law_raw : Nat → Bool := fun i => i == 0
def F__law_raw : Fn := runF 3 11 r__law_raw true m__law_raw
/- _law_is_line -/
def m__law_is_line : MS := (sSeq (sIf (mOrB (mNotB (mTru (mUn (isiB "tuple") (mPeek 0)))) (mOrB (mTest (mBinL eqD 0 (mTup mNil))) (mNotB (mTru (mUn (isiB "str") (mBinL ixD 0 (mC (.int 0)))))))) (sRet (mC (.bl false))) sNx) (sSeq (sIf (mTest (mBin eqD (mBinL ixD 0 (mC (.int 0))) (mC (.str [98, 97, 99, 107])))) (sRet (mBin eqD (mUn lenD (mPeek 0)) (mC (.int 1)))) sNx) (sSeq (sIf (mOrB (mTest (mBin eqD (mBinL ixD 0 (mC (.int 0))) (mC (.str [103, 111])))) (mTest (mBin eqD (mBinL ixD 0 (mC (.int 0))) (mC (.str [99, 97, 108, 108]))))) (sRet (mAnd (mBin eqD (mUn lenD (mPeek 0)) (mC (.int 2))) (mCall F__law_is_numbers [.e (mSlL slD 0 (mPart (mC (.int 1))) mNoPart), .e (mVar 1)]))) sNx) (sSeq (sIf (mTest (mBin eqD (mBinL ixD 0 (mC (.int 0))) (mC (.str [100, 111])))) (sRet (mAnd (mBin eqD (mUn lenD (mPeek 0)) (mC (.int 2))) (mCall F__law_is_word [.e (mBinL ixD 0 (mC (.int 1)))]))) sNx) (sSeq (sIf (mOrB (mTest (mBin neD (mBinL ixD 0 (mC (.int 0))) (mC (.str [97, 115, 107])))) (mOrB (mTest (mBin neD (mUn lenD (mPeek 0)) (mC (.int 3)))) (mNotB (mTru (mCall F__law_is_word [.e (mBinL ixD 0 (mC (.int 1)))]))))) (sRet (mC (.bl false))) sNx) (sRet (mAnd (mCall F__law_is_numbers [.e (mBinL ixD 0 (mC (.int 2))), .e (mVar 1)]) (mAnd (mBin (cmpD fun i j => decide (i ≤ j)) (mC (.int 1)) (mUn lenD (mBinL ixD 0 (mC (.int 2))))) (mBin (cmpD fun i j => decide (i ≤ j)) (mUn lenD (mBinL ixD 0 (mC (.int 2)))) (mC (.int 4)))))))))))
def r__law_is_line : Nat → Bool := fun i => false
def F__law_is_line : Fn := runF 2 2 r__law_is_line false m__law_is_line
/- all_below -/
def m_all_below : MS := (sRet (mAnd (mUn (isiB "tuple") (mPeek 0)) (mUn allF (mFE (mLc [2] (mIter (mVar 0)) (.nm 2) mYes (mCall F_is_below [.e (mVar 2), .e (mVar 1)]))))))
def r_all_below : Nat → Bool := fun i => false
def F_all_below : Fn := runF 2 3 r_all_below false m_all_below
/- _law_pool -/
def m__law_pool : MS := (sSeq (sSet 1 (mCall F__law_word [.r 0])) (sSeq (sSet 2 (mIf (mTest (mBin eqD (mBinL ixD 1 (mC (.int 0))) (mC (.str [122])))) (mC (.str [97])) (mBin ixD (mC (.str [97, 98, 99, 100, 101, 102, 103, 104, 105, 106, 107, 108, 109, 110, 111, 112, 113, 114, 115, 116, 117, 118, 119, 120, 121, 122])) (mBin addD (mMs findF (mC (.str [97, 98, 99, 100, 101, 102, 103, 104, 105, 106, 107, 108, 109, 110, 111, 112, 113, 114, 115, 116, 117, 118, 119, 120, 121, 122])) (mBinL ixD 1 (mC (.int 0)))) (mC (.int 1)))))) (sRetF (mLst (mCons (mVar 1) (mCons (mBinL addD 2 (mSlL slD 1 (mPart (mC (.int 1))) mNoPart)) (mCons (mCall F__law_word [.r 0]) mNil)))))))
def r__law_pool : Nat → Bool := fun i => i == 0
def F__law_pool : Fn := runF 1 3 r__law_pool true m__law_pool
/- is_line -/
def m_is_line : MS := (sSeq (sIf (mOrB (mNotB (mTru (mUn (isiB "tuple") (mPeek 0)))) (mOrB (mNotB (mTru (mPeek 0))) (mNotB (mTru (mUn (isiB "str") (mBinL ixD 0 (mC (.int 0)))))))) (sRet (mC (.bl false))) sNx) (sSeq (sSet 2 (mBinL ixD 0 (mC (.int 0)))) (sSeq (sIf (mTest (mBinL eqD 2 (mC (.str [98, 97, 99, 107])))) (sRet (mBin eqD (mUn lenD (mPeek 0)) (mC (.int 1)))) sNx) (sSeq (sIf (mTest (mBinL inD 2 (mTup (mCons (mC (.str [103, 111])) (mCons (mC (.str [99, 97, 108, 108])) mNil))))) (sRet (mAnd (mBin eqD (mUn lenD (mPeek 0)) (mC (.int 2))) (mCall F_is_below [.e (mBinL ixD 0 (mC (.int 1))), .e (mVar 1)]))) sNx) (sSeq (sIf (mTest (mBinL eqD 2 (mC (.str [100, 111])))) (sRet (mAnd (mBin eqD (mUn lenD (mPeek 0)) (mC (.int 2))) (mCall F_is_word [.e (mBinL ixD 0 (mC (.int 1)))]))) sNx) (sSeq (sIf (mTest (mBinL eqD 2 (mC (.str [97, 115, 107])))) (sSeq (sSet 3 (mAnd (mBin eqD (mUn lenD (mPeek 0)) (mC (.int 3))) (mAnd (mCall F_is_word [.e (mBinL ixD 0 (mC (.int 1)))]) (mCall F_all_below [.e (mBinL ixD 0 (mC (.int 2))), .e (mVar 1)])))) (sRet (mAnd (mVar 3) (mChain (cmpD fun i j => decide (i ≤ j)) (cmpD fun i j => decide (i ≤ j)) (mC (.int 1)) (mUn lenD (mBinL ixD 0 (mC (.int 2)))) (mC c_MOST_TARGETS))))) sNx) (sRet (mC (.bl false)))))))))
def r_is_line : Nat → Bool := fun i => false
def F_is_line : Fn := runF 2 4 r_is_line false m_is_line
/- _law_spoilt -/
def m__law_spoilt (R : Fn) : MS := (sSeq (sIf (mTru (mUn (isiB "tuple") (mPeek 1))) (sSeq (sSet 3 (mCall F__law_take [.r 0, .e (mBin addD (mUn lenD (mPeek 1)) (mC (.int 1)))])) (sSeq (sIf (mAndB (mTest (mBinL neD 1 (mTup mNil))) (mAndB (mTest (mBinL (cmpD fun i j => decide (j < i)) 2 (mC (.int 0)))) (mTest (mBin (cmpD fun i j => decide (j < i)) (mCall F__law_take [.r 0, .e (mC (.int 5))]) (mC (.int 0)))))) (sSeq (sSet 3 (mBin modD (mUn intF (mPeek 3)) (mUn lenD (mPeek 1)))) (sRet (mBin addD (mBin addD (mSlL slD 1 mNoPart (mPart (mVar 3))) (mTup (mCons (mCall R [.r 0, .e (mBinL ixD 1 (mPeek 3)), .e (mBinL subD 2 (mC (.int 1)))]) mNil))) (mSlL slD 1 (mPart (mBinL addD 3 (mC (.int 1)))) mNoPart)))) sNx) (sSeq (sSet 4 (mCall F__law_take [.r 0, .e (mC (.int 8))])) (sSeq (sIf (mTest (mBinL eqD 4 (mC (.int 0)))) (sRetF (mUn lstF (mPeek 1))) sNx) (sSeq (sIf (mTest (mBinL eqD 4 (mC (.int 1)))) (sRet (mBin addD (mSlL slD 1 mNoPart (mPart (mVar 3))) (mSlL slD 1 (mPart (mBinL addD 3 (mC (.int 1)))) mNoPart))) sNx) (sSeq (sIf (mTest (mBinL eqD 4 (mC (.int 2)))) (sRet (mBin addD (mBin addD (mSlL slD 1 mNoPart (mPart (mVar 3))) (mSlL slD 1 (mPart (mVar 3)) (mPart (mBinL addD 3 (mC (.int 1)))))) (mSlL slD 1 (mPart (mVar 3)) mNoPart))) sNx) (sSeq (sIf (mTest (mBinL eqD 4 (mC (.int 3)))) (sRet (mBin addD (mSlL slD 1 (mPart (mVar 3)) mNoPart) (mSlL slD 1 mNoPart (mPart (mVar 3))))) sNx) (sSeq (sIf (mTest (mBinL eqD 4 (mC (.int 4)))) (sRet (mBinL addD 1 (mTup (mCons (mTup mNil) mNil)))) sNx) (sSeq (sIf (mTest (mBinL eqD 4 (mC (.int 5)))) (sRet (mBin addD (mBin addD (mSlL slD 1 mNoPart (mPart (mVar 3))) (mTup (mCons (mC (.int 0)) mNil))) (mSlL slD 1 (mPart (mVar 3)) mNoPart))) sNx) (sSeq (sIf (mTest (mBinL eqD 4 (mC (.int 6)))) (sRet (mBin addD (mSlL slD 1 mNoPart (mPart (mC (.int (-1))))) (mSlL slD 1 mNoPart (mPart (mC (.int 1)))))) sNx) (sRet (mC .non)))))))))))) sNx) (sSeq (sIf (mTru (mUn (isiB "str") (mPeek 1))) (sRet (mCall F__law_pick [.r 0, .e (mFE (mLst (mCons (mBinL addD 1 (mC (.str [98]))) (mCons (mC (.str [])) (mCons (mSlL slD 1 (mPart (mC (.int 1))) mNoPart) (mCons (mBin addD (mC (.str [97])) (mPeek 1)) (mCons (mC (.int 0)) mNil)))))))])) sNx) (sSeq (sIf (mTru (mCall F__law_whole [.e (mVar 1)])) (sRet (mCall F__law_pick [.r 0, .e (mFE (mLst (mCons (mBinL addD 1 (mC (.int 1))) (mCons (mBinL subD 1 (mC (.int 1))) (mCons (mBinL (cmpD fun i j => decide (j < i)) 1 (mC (.int 0))) (mCons (mBin subD (mC (.int (-1))) (mPeek 1)) (mCons (mTup (mCons (mVar 1) mNil)) (mCons (mC .non) (mCons (mUn strF (mPeek 1)) (mCons (mBinL addD 1 (mC (.int 16))) mNil))))))))))])) sNx) (sRet (mCall F__law_pick [.r 0, .e (mFE (mLst (mCons (mC (.int 0)) (mCons (mTup mNil) (mCons (mC (.str [110, 111, 110, 101])) mNil)))))])))))
def r__law_spoilt : Nat → Bool := fun i => i == 0
def Fr__law_spoilt : Nat → Fn
  | 0 => fun _ => .bad
  | n + 1 => runF 3 5 r__law_spoilt false (m__law_spoilt (Fr__law_spoilt n))
def F__law_spoilt : Fn := Fr__law_spoilt 5
/- law -/
def m_law : MS := (sSeq (sSetF 1 (mCallF F__law_box [.e (mVar 0), .e (mC (.int 0))])) (sSeq (sSetF 2 (mCallF F__law_pool [.r 1])) (sSeq (sSet 3 (mBin addD (mC (.int 1)) (mCall F__law_take [.r 1, .e (mC (.int 32))]))) (sSeq (sFor (mIter (mFE (mCallF F__law_raw [.f (mCallF F__law_box [.e (mVar 0), .e (mC (.int 1))]), .e (mC (.int 12)), .e (mVar 2)]))) (.nm 4) (sSeq (sSet 5 (mVar 4)) (sSeq (sIf (mTest (mBin eqD (mBinL ixD 4 (mC (.int 0))) (mC (.str [97, 115, 107])))) (sSet 5 (mTup (mCons (mC (.str [97, 115, 107])) (mCons (mBinL ixD 4 (mC (.int 1))) (mCons (mUn tupD (mFE (mLc [8] (mIter (mBinL ixD 4 (mC (.int 2)))) (.nm 8) mYes (mBin modD (mUn intF (mBin subD (mBin addD (mBinL mulD 8 (mC (.int 5))) (mPeek 3)) (mC (.int 1)))) (mPeek 3))))) mNil))))) (sIf (mOrB (mTest (mBin eqD (mBinL ixD 4 (mC (.int 0))) (mC (.str [103, 111])))) (mTest (mBin eqD (mBinL ixD 4 (mC (.int 0))) (mC (.str [99, 97, 108, 108]))))) (sSet 5 (mTup (mCons (mBinL ixD 4 (mC (.int 0))) (mCons (mBin modD (mUn intF (mBin subD (mBin addD (mBin mulD (mBinL ixD 4 (mC (.int 1))) (mC (.int 5))) (mPeek 3)) (mC (.int 1)))) (mPeek 3)) mNil)))) sNx)) (sFor (mIter (mFE (mLst (mCons (mVar 4) (mCons (mVar 5) (mCons (mCall F__law_spoilt [.r 1, .e (mVar 5), .e (mCall F__law_take [.r 1, .e (mC (.int 4))])]) (mCons (mCall F__law_odd_line [.r 1, .e (mVar 3)]) mNil))))))) (.nm 6) (sFor (mIter (mFE (mLst (mCons (mVar 3) (mCons (mBinL addD 3 (mC (.int 1))) (mCons (mBinL subD 3 (mC (.int 1))) (mCons (mC (.int 0)) (mCons (mC (.int 32)) mNil)))))))) (.nm 7) (sIf (mNotB (mTru (mCall F__law_is_due [.e (mCall F_is_line [.e (mVar 6), .e (mVar 7)]), .e (mCall F__law_is_line [.e (mVar 6), .e (mVar 7)])]))) (sRet (mC (.bl false))) sNx)))))) (sSeq (sFor (mIter (mFE (mLst (mCons (mC .non) (mCons (mTup mNil) (mCons (mC (.str [98, 97, 99, 107])) (mCons (mFE (mLst (mCons (mC (.str [98, 97, 99, 107])) mNil))) (mCons (mTup (mCons (mC (.str [98, 97, 99, 107])) (mCons (mC (.int 1)) mNil))) (mCons (mTup (mCons (mC (.str [103, 111])) mNil)) (mCons (mTup (mCons (mC (.str [103, 111])) (mCons (mC (.int 0)) (mCons (mC (.int 0)) mNil)))) (mCons (mTup (mCons (mC (.str [100, 111])) (mCons (mC (.str [97])) (mCons (mTup mNil) mNil)))) (mCons (mTup (mCons (mC (.str [100, 111])) (mCons (mC (.int 1)) mNil))) (mCons (mTup (mCons (mC (.int 1)) mNil)) (mCons (mTup (mCons (mC (.str [97, 115, 107])) (mCons (mC (.str [97])) mNil))) (mCons (mTup (mCons (mC (.str [97, 115, 107])) (mCons (mC (.str [97])) (mCons (mC (.int 0)) mNil)))) mNil))))))))))))))) (.nm 6) (sIf (mTest (mBin isNotD (mCall F_is_line [.e (mVar 6), .e (mVar 3)]) (mC (.bl false)))) (sRet (mC (.bl false))) sNx)) (sRet (mC (.bl true))))))))
def r_law : Nat → Bool := fun i => false
def F_law : Fn := runF 1 9 r_law false m_law
end LW

namespace LW
open MP L2 PyProof.Rows PySem PySem.Spec
def top (i : Nat) : Stmt := PySem.Challenge.pw_calltrim_k03_lines.main.body.getD i (.Pass ⟨0, 0, 0, 0⟩)
def cb : Stmt → List Stmt
  | .ClassDef (body := b) .. => b
  | _ => []
abbrev FnP (K : PySem.W.Frag) (x : Str) (st : Stmt) (f : Addr) (fd : FuncData) : Prop := FunD K x x (defArgs st) (defBody st) (defScope st) [] [] f fd
def tab : List (Tx × List Tx) := []
abbrev gg (K : PySem.W.Frag) : G := gOf tab K
structure Bt (mg : Str → Option Value) (K : PySem.W.Frag) : Prop where
  abs_ : mg "abs" = none
  all_ : mg "all" = none
  bool_ : mg "bool" = none
  int_ : mg "int" = none
  isinstance_ : mg "isinstance" = none
  len_ : mg "len" = none
  list_ : mg "list" = none
  min_ : mg "min" = none
  range_ : mg "range" = none
  str_ : mg "str" = none
  tuple_ : mg "tuple" = none
  CELLS_ : KC mg K "CELLS" c_CELLS
  LETTERS_ : KC mg K "LETTERS" c_LETTERS
  MOST_TARGETS_ : KC mg K "MOST_TARGETS" c_MOST_TARGETS
structure Hit (K : PySem.W.Frag) : Prop where
  x : True
section
variable {P : Program} {w : World} {K : PySem.W.Frag} {mg : Str → Option Value} {base : Heap} {f : Addr} {fd : FuncData}
abbrev s_is_integer : Stmt := top 1
theorem sc_is_integer : FnScope ["value"] ["value"] (defScope s_is_integer) := ⟨rfl, rfl, rfl, by decide +kernel, rfl, by decide +kernel, by decide +kernel⟩
theorem w_is_integer (F : FnP K "is_integer" s_is_integer f fd) (hm : mg "is_integer" = some (.ref f)) (bt : Bt mg K) :
    Cal P w K mg base (gg K) "is_integer" 1 1 r_is_integer false F_is_integer := ⟨f, fd, ["value"], hm, F.kp, FunD.bindsN F (fun _ _ _ _ _ _ us hl => match us, hl with | [_], _ => rfl), fn_ok2 (k := 0) (mb := m_is_integer) F sc_is_integer rfl rfl (by decide) fun cdv A outer s H E hr => by
  have nd := sc_is_integer.nd
  exact (qs_one (qs_ret (pd_and rfl (pd_isi (T := "int") rfl rfl bt.isinstance_ (np 0) (pe_bltn rfl bt.int_ boot_int rfl) rfl) (pe_one (pd_not rfl (EvE.toP (pd_isi (T := "bool") rfl rfl bt.isinstance_ (np 0) (pe_bltn rfl bt.bool_ boot_bool rfl) rfl)))))))⟩
abbrev s_is_name : Stmt := top 8
theorem sc_is_name : FnScope ["value", "sign"] ["value"] (defScope s_is_name) := ⟨rfl, rfl, rfl, by decide +kernel, rfl, by decide +kernel, by decide +kernel⟩
theorem w_is_name (F : FnP K "is_name" s_is_name f fd) (hm : mg "is_name" = some (.ref f)) (bt : Bt mg K) :
    Cal P w K mg base (gg K) "is_name" 1 1 r_is_name false F_is_name := ⟨f, fd, ["value"], hm, F.kp, FunD.bindsN F (fun _ _ _ _ _ _ us hl => match us, hl with | [_], _ => rfl), fn_ok2 (k := 0) (mb := m_is_name) F sc_is_name rfl rfl (by decide) fun cdv A outer s H E hr => by
  have nd := sc_is_name.nd
  exact (qs_one (qs_ret (pd_and rfl (pd_isi (T := "str") rfl rfl bt.isinstance_ (np 0) (pe_bltn rfl bt.str_ boot_str rfl) rfl) (pd_and rfl (pd_chain op_le op_le os_cmp os_cmp pd_int (pd_cb1 call_len (oc_len rfl) rfl bt.len_ boot_len (by decide) (by decide) rfl (np 0)) (EvE.toP pd_int) rfl) (pe_one (pd_cb1 (cr_all rfl) (oc_all rfl) rfl bt.all_ boot_all (by decide) (by decide) rfl (EvE.toP (EvF.toE (pd_lc (own := [("sign", 1)]) (rfB (by kernel_rfl)) (by decide) rfl nd (pi_val rfl (nv 0)) (blkOk_by (by kernel_rfl)) (fun _ _ _ _ _ => (gn 1 nd)) (fun _ _ _ _ _ => pts_yes) (fun _ _ _ _ _ => (pd_cmpL (op_inR hr.units) (os_in rfl) rfl (pv 1) (EvE.toP (pd_const bt.LETTERS_ rfl rfl (by decide))))) (by intro _; rfl))))))))))⟩
abbrev s__law_box : Stmt := top 15
theorem sc__law_box : FnScope ["script", "k", "cell", "great"] ["script", "k"] (defScope s__law_box) := ⟨rfl, rfl, rfl, by decide +kernel, rfl, by decide +kernel, by decide +kernel⟩
theorem w__law_box (F : FnP K "_law_box" s__law_box f fd) (hm : mg "_law_box" = some (.ref f)) (bt : Bt mg K) :
    Cal P w K mg base (gg K) "_law_box" 1 2 r__law_box true F__law_box := ⟨f, fd, ["script", "k"], hm, F.kp, FunD.bindsN F (fun _ _ _ _ _ _ us hl => match us, hl with | [_, _], _ => rfl), fn_ok2 (k := 0) (mb := m__law_box) F sc__law_box rfl rfl (by decide) fun cdv A outer s H E hr => by
  have nd := sc__law_box.nd
  exact (qs_cons (se 2 nd (pd_op op_addU (os_add rfl) (pd_op op_mul os_mul pd_int (np 1)) (EvE.toP pd_int)))
  (qs_cons (qs_if (pt_cmpDL op_lt os_cmp rfl (pv 1) (EvE.toP (pd_cb1 call_len (oc_len rfl) rfl bt.len_ boot_len (by decide) (by decide) rfl (np 0)))) (qs_one (se 2 nd (pd_cb1 call_abs oc_abs rfl bt.abs_ boot_abs (by decide) (by decide) rfl (EvE.toP (pd_ixL ix_seq (os_ix rfl) (by intro _ _; rfl) (pv 0) (np 1)))))) (qs_one (qs_if (pt_cmpD op_gt os_cmp rfl (pd_cb1 call_len (oc_len rfl) rfl bt.len_ boot_len (by decide) (by decide) rfl (np 0)) (EvE.toP pd_int)) (qs_one (se 2 nd (pd_op op_addU (os_add rfl) (pd_op op_mul os_mul (pd_op op_mod os_mod (pd_ct1 cr_intU oc_int rfl bt.int_ boot_int (by decide) (by decide) rfl (EvE.toP (pd_cb1 call_abs oc_abs rfl bt.abs_ boot_abs (by decide) (by decide) rfl (EvE.toP (pd_ixL ix_seq (os_ix rfl) (by intro _ _; rfl) (pv 0) (EvE.toP (pd_op op_mod os_mod (pd_ct1 cr_intU oc_int rfl bt.int_ boot_int (by decide) (by decide) rfl (np 1)) (EvE.toP (pd_cb1 call_len (oc_len rfl) rfl bt.len_ boot_len (by decide) (by decide) rfl (np 0)))))))))) (EvE.toP pd_int)) (EvE.toP pd_int)) (EvE.toP (pd_op op_mul os_mul pd_int (np 1)))))) qs_nil)))
  (qs_cons (se 3 nd (pd_ix ix_seq (os_ix rfl) (by intro _ _; rfl) (EvF.toE (pd_lst (pa_consD rfl pd_int (pa_consD rfl (nv 2) pa_nilD)))) (EvE.toP (pd_ct1 cr_intU oc_int rfl bt.int_ boot_int (by decide) (by decide) rfl (EvE.toP (pd_cmpL op_ge os_cmp rfl (pv 2) (EvE.toP (pd_op op_pow os_pow pd_int (EvE.toP pd_int)))))))))
  (qs_one (qs_retF (pd_lst (pa_consD rfl (nv 3) (pa_consD rfl (pd_op op_addU (os_add rfl) (pd_op op_mod os_mod (pd_ct1 cr_intU oc_int rfl bt.int_ boot_int (by decide) (by decide) rfl (EvE.toP (pd_op op_addU (os_add rfl) (pd_op op_mul os_mul (pd_op op_mod os_mod (pd_ct1 cr_intU oc_int rfl bt.int_ boot_int (by decide) (by decide) rfl (np 2)) (EvE.toP pd_int)) (EvE.toP pd_int)) (EvE.toP (pd_op op_mul os_mul pd_int (np 1)))))) (EvE.toP pd_int)) (EvE.toP pd_int)) pa_nilD))))))))⟩
abbrev s__law_take : Stmt := top 16
theorem sc__law_take : FnScope ["box", "many", "got"] ["box", "many"] (defScope s__law_take) := ⟨rfl, rfl, rfl, by decide +kernel, rfl, by decide +kernel, by decide +kernel⟩
theorem w__law_take (F : FnP K "_law_take" s__law_take f fd) (hm : mg "_law_take" = some (.ref f)) (bt : Bt mg K) :
    Cal P w K mg base (gg K) "_law_take" 1 2 r__law_take false F__law_take := ⟨f, fd, ["box", "many"], hm, F.kp, FunD.bindsN F (fun _ _ _ _ _ _ us hl => match us, hl with | [_, _], _ => rfl), fn_ok2 (k := 0) (mb := m__law_take) F sc__law_take rfl rfl (by decide) fun cdv A outer s H E hr => by
  have nd := sc__law_take.nd
  exact (qs_cons (qs_if (pt_cmpD op_gt os_cmp rfl (pd_ixL ix_seq (os_ix rfl) (by intro _ _; rfl) (pv 0) (EvE.toP pd_int)) (EvE.toP pd_int)) (qs_cons (se 2 nd (pd_op op_mod os_mod (pd_ct1 cr_intU oc_int rfl bt.int_ boot_int (by decide) (by decide) rfl (EvE.toP (pd_ixL ix_seq (os_ix rfl) (by intro _ _; rfl) (pv 0) (EvE.toP pd_int)))) (np 1)))
  (qs_cons (qs_ix (pv 0) pd_int (pd_op op_fdiv os_fdiv (pd_ixL ix_seq (os_ix rfl) (by intro _ _; rfl) (pv 0) (EvE.toP pd_int)) (np 1)) (by intro _; rfl) rfl rfl rfl)
  (qs_one (qs_retX rfl (pv 2))))) qs_nil)
  (qs_cons (qs_ix (pv 0) pd_int (pd_op op_mod os_mod (pd_ct1 cr_intU oc_int rfl bt.int_ boot_int (by decide) (by decide) rfl (EvE.toP (pd_op op_addU (os_add rfl) (pd_op op_mul os_mul (pd_ixL ix_seq (os_ix rfl) (by intro _ _; rfl) (pv 0) (EvE.toP pd_int)) (EvE.toP pd_int)) (EvE.toP pd_int)))) (EvE.toP pd_int)) (by intro _; rfl) rfl rfl rfl)
  (qs_one (qs_ret (pd_op op_mod os_mod (pd_ct1 cr_intU oc_int rfl bt.int_ boot_int (by decide) (by decide) rfl (EvE.toP (pd_op op_fdiv os_fdiv (pd_ixL ix_seq (os_ix rfl) (by intro _ _; rfl) (pv 0) (EvE.toP pd_int)) (EvE.toP pd_int)))) (np 1))))))⟩
abbrev s__law_whole : Stmt := top 21
theorem sc__law_whole : FnScope ["value"] ["value"] (defScope s__law_whole) := ⟨rfl, rfl, rfl, by decide +kernel, rfl, by decide +kernel, by decide +kernel⟩
theorem w__law_whole (F : FnP K "_law_whole" s__law_whole f fd) (hm : mg "_law_whole" = some (.ref f)) (bt : Bt mg K) :
    Cal P w K mg base (gg K) "_law_whole" 1 1 r__law_whole false F__law_whole := ⟨f, fd, ["value"], hm, F.kp, FunD.bindsN F (fun _ _ _ _ _ _ us hl => match us, hl with | [_], _ => rfl), fn_ok2 (k := 0) (mb := m__law_whole) F sc__law_whole rfl rfl (by decide) fun cdv A outer s H E hr => by
  have nd := sc__law_whole.nd
  exact (qs_one (qs_ret (pd_and rfl (pd_isi (T := "int") rfl rfl bt.isinstance_ (np 0) (pe_bltn rfl bt.int_ boot_int rfl) rfl) (pe_one (pd_not rfl (EvE.toP (pd_isi (T := "bool") rfl rfl bt.isinstance_ (np 0) (pe_bltn rfl bt.bool_ boot_bool rfl) rfl)))))))⟩
abbrev s__law_is_word : Stmt := top 23
theorem sc__law_is_word : FnScope ["value", "parts", "reads", "sign", "cell", "k"] ["value"] (defScope s__law_is_word) := ⟨rfl, rfl, rfl, by decide +kernel, rfl, by decide +kernel, by decide +kernel⟩
theorem w__law_is_word (F : FnP K "_law_is_word" s__law_is_word f fd) (hm : mg "_law_is_word" = some (.ref f)) (bt : Bt mg K) :
    Cal P w K mg base (gg K) "_law_is_word" 1 1 r__law_is_word false F__law_is_word := ⟨f, fd, ["value"], hm, F.kp, FunD.bindsN F (fun _ _ _ _ _ _ us hl => match us, hl with | [_], _ => rfl), fn_ok2 (k := 0) (mb := m__law_is_word) F sc__law_is_word rfl rfl (by decide) fun cdv A outer s H E hr => by
  have nd := sc__law_is_word.nd
  exact (qs_cons (qs_if (pt_notD (pt_tru rfl (EvE.toP (pd_isi (T := "str") rfl rfl bt.isinstance_ (np 0) (pe_bltn rfl bt.str_ boot_str rfl) rfl)) (by intro _; rfl))) (qs_one (qs_ret pd_bl)) qs_nil)
  (qs_cons (sf 1 nd (pd_split (np 0) (pd_str (s := [62]) (by decide +kernel) rfl) rfl rfl rfl))
  (qs_cons (sf 2 nd (pd_split (EvE.toP (pd_ixL ix_seq (os_ix rfl) (by intro _ _; rfl) (pv 1) (EvE.toP pd_int))) (pd_str (s := [46]) (by decide +kernel) rfl) rfl rfl rfl))
  (qs_cons (qs_if (PW.pt (pw_orD (pt_cmpD op_gt os_cmp rfl (pd_cb1 call_len (oc_len rfl) rfl bt.len_ boot_len (by decide) (by decide) rfl (np 1)) (EvE.toP pd_int)) (pw_orD (pt_cmpD op_gt os_cmp rfl (pd_cb1 call_len (oc_len rfl) rfl bt.len_ boot_len (by decide) (by decide) rfl (np 2)) (EvE.toP pd_int)) (pw_orD (pt_cmpD op_lt os_cmp rfl (pd_cb1 call_len (oc_len rfl) rfl bt.len_ boot_len (by decide) (by decide) rfl (EvE.toP (pd_ixL ix_seq (os_ix rfl) (by intro _ _; rfl) (pv 2) (EvE.toP pd_int)))) (EvE.toP pd_int)) (pw_or1 (pt_cmpD op_gt os_cmp rfl (pd_cb1 call_len (oc_len rfl) rfl bt.len_ boot_len (by decide) (by decide) rfl (EvE.toP (pd_ixL ix_seq (os_ix rfl) (by intro _ _; rfl) (pv 2) (EvE.toP pd_int)))) (EvE.toP pd_int))))))) (qs_one (qs_ret pd_bl)) qs_nil)
  (qs_cons (qs_if (pt_cmpD (op_neD hr.units) (os_ne rfl) rfl (EvF.toE (pd_lc (own := [("sign", 3)]) (rfB (by kernel_rfl)) (by decide) rfl nd (pi_val rfl (pd_ixL ix_seq (os_ix rfl) (by intro _ _; rfl) (pv 2) (EvE.toP pd_int))) (blkOk_by (by kernel_rfl)) (fun _ _ _ _ _ => (gn 3 nd)) (fun _ _ _ _ _ => (pts_if (pt_cmpDL (op_notInR hr.units) (os_notIn rfl) rfl (pv 3) (EvE.toP (pd_str (s := [97, 98, 99, 100, 101, 102, 103, 104, 105, 106, 107, 108, 109, 110, 111, 112, 113, 114, 115, 116, 117, 118, 119, 120, 121, 122]) (by decide +kernel) rfl))))) (fun _ _ _ _ _ => (nv 3)) (by intro _; rfl))) (EvE.toP (EvF.toE (pd_lst pa_nilD)))) (qs_one (qs_ret pd_bl)) qs_nil)
  (qs_one (qs_ret (pd_cmp (op_eqD hr.units) (os_eq rfl) rfl (EvF.toE (pd_lc (own := [("cell", 4)]) (rfB (by kernel_rfl)) (by decide) rfl nd (pi_val rfl (EvF.toE (pd_opF op_catR osf_cat (EvF.toE (pd_slFL sl_LR osf_sl (pv 2) (pd_part pd_int) pd_noPart)) (EvE.toP (EvF.toE (pd_slFL sl_LR osf_sl (pv 1) (pd_part pd_int) pd_noPart)))))) (blkOk_by (by kernel_rfl)) (fun _ _ _ _ _ => (gn 4 nd)) (fun _ _ _ _ _ => (pts_if (pt_cmpDL (op_notInR hr.units) (os_notIn rfl) rfl (pv 4) (EvE.toP (EvF.toE (pd_lc (own := [("k", 5)]) (rfB (by kernel_rfl)) (by decide) rfl nd (pi_rng1 rfl bt.range_ (pa_consD rfl pd_int pa_nilD) rfl) (blkOk_by (by kernel_rfl)) (fun _ _ _ _ _ => (gn 5 nd)) (fun _ _ _ _ _ => pts_yes) (fun _ _ _ _ _ => (pd_ct1 call_str_int oc_str rfl bt.str_ boot_str (by decide) (by decide) rfl (np 5))) (by intro _; rfl))))))) (fun _ _ _ _ _ => (nv 4)) (by intro _; rfl))) (EvE.toP (EvF.toE (pd_lst pa_nilD)))))))))))⟩
abbrev s__law_is_due : Stmt := top 28
theorem sc__law_is_due : FnScope ["told", "due"] ["told", "due"] (defScope s__law_is_due) := ⟨rfl, rfl, rfl, by decide +kernel, rfl, by decide +kernel, by decide +kernel⟩
theorem w__law_is_due (F : FnP K "_law_is_due" s__law_is_due f fd) (hm : mg "_law_is_due" = some (.ref f)) :
    Cal P w K mg base (gg K) "_law_is_due" 1 2 r__law_is_due false F__law_is_due := ⟨f, fd, ["told", "due"], hm, F.kp, FunD.bindsN F (fun _ _ _ _ _ _ us hl => match us, hl with | [_, _], _ => rfl), fn_ok2 (k := 0) (mb := m__law_is_due) F sc__law_is_due rfl rfl (by decide) fun cdv A outer s H E hr => by
  have nd := sc__law_is_due.nd
  exact (qs_one (qs_ret (pd_if (pt_tru rfl (np 1) (by intro _; rfl)) (pd_cmpL op_isU os_is rfl (pv 0) (EvE.toP pd_bl)) (pd_cmpL op_isU os_is rfl (pv 0) (EvE.toP pd_bl)))))⟩
abbrev s_is_number : Stmt := top 2
theorem sc_is_number : FnScope ["value"] ["value"] (defScope s_is_number) := ⟨rfl, rfl, rfl, by decide +kernel, rfl, by decide +kernel, by decide +kernel⟩
theorem w_is_number (F : FnP K "is_number" s_is_number f fd) (hm : mg "is_number" = some (.ref f)) (g_is_integer : Cal P w K mg base (gg K) "is_integer" 1 1 r_is_integer false F_is_integer) :
    Cal P w K mg base (gg K) "is_number" 2 1 r_is_number false F_is_number := ⟨f, fd, ["value"], hm, F.kp, FunD.bindsN F (fun _ _ _ _ _ _ us hl => match us, hl with | [_], _ => rfl), fn_ok2 (k := 1) (mb := m_is_number) F sc_is_number rfl rfl (by decide) fun cdv A outer s H E hr => by
  have nd := sc_is_number.nd
  exact (qs_one (qs_ret (pd_and rfl (pd_callC g_is_integer hr (by decide) rfl takes_body (by decide) rfl rfl rfl rfl (pr_e rfl (nv 0) pr_nil)) (pe_one (pd_cmpL op_ge os_cmp rfl (pv 0) (EvE.toP pd_int))))))⟩
abbrev s_parts_of : Stmt := top 9
theorem sc_parts_of : FnScope ["word", "halves", "first", "reads", "writes", "cell"] ["word"] (defScope s_parts_of) := ⟨rfl, rfl, rfl, by decide +kernel, rfl, by decide +kernel, by decide +kernel⟩
theorem w_parts_of (F : FnP K "parts_of" s_parts_of f fd) (hm : mg "parts_of" = some (.ref f)) (bt : Bt mg K) (g_is_name : Cal P w K mg base (gg K) "is_name" 1 1 r_is_name false F_is_name) :
    Cal P w K mg base (gg K) "parts_of" 2 1 r_parts_of false F_parts_of := ⟨f, fd, ["word"], hm, F.kp, FunD.bindsN F (fun _ _ _ _ _ _ us hl => match us, hl with | [_], _ => rfl), fn_ok2 (k := 1) (mb := m_parts_of) F sc_parts_of rfl rfl (by decide) fun cdv A outer s H E hr => by
  have nd := sc_parts_of.nd
  exact (qs_cons (qs_if (pt_notD (pt_tru rfl (EvE.toP (pd_isi (T := "str") rfl rfl bt.isinstance_ (np 0) (pe_bltn rfl bt.str_ boot_str rfl) rfl)) (by intro _; rfl))) (qs_one (qs_ret pd_non)) qs_nil)
  (qs_cons (sf 1 nd (pd_split (np 0) (pd_str (s := [62]) (by decide +kernel) rfl) rfl rfl rfl))
  (qs_cons (sf 2 nd (pd_split (EvE.toP (pd_ixL ix_seq (os_ix rfl) (by intro _ _; rfl) (pv 1) (EvE.toP pd_int))) (pd_str (s := [46]) (by decide +kernel) rfl) rfl rfl rfl))
  (qs_cons (sf 3 nd (pd_slFL sl_LR osf_sl (pv 2) (pd_part pd_int) pd_noPart))
  (qs_cons (sf 4 nd (pd_slFL sl_LR osf_sl (pv 1) (pd_part pd_int) pd_noPart))
  (qs_cons (qs_if (PW.pt (pw_orD (pt_notD (pt_tru rfl (EvE.toP (pd_callC g_is_name hr (by decide) rfl takes_body (by decide) rfl rfl rfl rfl (pr_e rfl (pd_ixL ix_seq (os_ix rfl) (by intro _ _; rfl) (pv 2) (EvE.toP pd_int)) pr_nil))) (by intro _; rfl))) (pw_orD (pt_cmpD op_gt os_cmp rfl (pd_cb1 call_len (oc_len rfl) rfl bt.len_ boot_len (by decide) (by decide) rfl (np 3)) (EvE.toP pd_int)) (pw_or1 (pt_cmpD op_gt os_cmp rfl (pd_cb1 call_len (oc_len rfl) rfl bt.len_ boot_len (by decide) (by decide) rfl (np 4)) (EvE.toP pd_int)))))) (qs_one (qs_ret pd_non)) qs_nil)
  (qs_cons (qs_if (pt_notD (pt_tru rfl (EvE.toP (pd_cb1 (cr_all rfl) (oc_all rfl) rfl bt.all_ boot_all (by decide) (by decide) rfl (EvE.toP (EvF.toE (pd_lc (own := [("cell", 5)]) (rfB (by kernel_rfl)) (by decide) rfl nd (pi_val rfl (EvF.toE (pd_opFL op_catR osf_cat (pv 3) (np 4)))) (blkOk_by (by kernel_rfl)) (fun _ _ _ _ _ => (gn 5 nd)) (fun _ _ _ _ _ => pts_yes) (fun _ _ _ _ _ => (pd_cmpL (op_inR hr.units) (os_in rfl) rfl (pv 5) (EvE.toP (pd_const bt.CELLS_ rfl rfl (by decide))))) (by intro _; rfl)))))) (by intro _; rfl))) (qs_one (qs_ret pd_non)) qs_nil)
  (qs_one (qs_ret (pd_tup (pa_consD rfl (pd_ixL ix_seq (os_ix rfl) (by intro _ _; rfl) (pv 2) (EvE.toP pd_int)) (pa_consD rfl (pd_ct1 call_tuple_of (oc_tup rfl) rfl bt.tuple_ boot_tuple (by decide) (by decide) rfl (EvE.toP (EvF.toE (pd_lc (own := [("cell", 5)]) (rfB (by kernel_rfl)) (by decide) rfl nd (pi_val rfl (nv 3)) (blkOk_by (by kernel_rfl)) (fun _ _ _ _ _ => (gn 5 nd)) (fun _ _ _ _ _ => pts_yes) (fun _ _ _ _ _ => (pd_ct1 cr_intU oc_int rfl bt.int_ boot_int (by decide) (by decide) rfl (np 5))) (by intro _; rfl))))) (pa_consD rfl (pd_ct1 call_tuple_of (oc_tup rfl) rfl bt.tuple_ boot_tuple (by decide) (by decide) rfl (EvE.toP (EvF.toE (pd_lc (own := [("cell", 5)]) (rfB (by kernel_rfl)) (by decide) rfl nd (pi_val rfl (nv 4)) (blkOk_by (by kernel_rfl)) (fun _ _ _ _ _ => (gn 5 nd)) (fun _ _ _ _ _ => pts_yes) (fun _ _ _ _ _ => (pd_ct1 cr_intU oc_int rfl bt.int_ boot_int (by decide) (by decide) rfl (np 5))) (by intro _; rfl))))) pa_nilD)))))))))))))⟩
abbrev s__law_pick : Stmt := top 17
theorem sc__law_pick : FnScope ["box", "some"] ["box", "some"] (defScope s__law_pick) := ⟨rfl, rfl, rfl, by decide +kernel, rfl, by decide +kernel, by decide +kernel⟩
theorem w__law_pick (F : FnP K "_law_pick" s__law_pick f fd) (hm : mg "_law_pick" = some (.ref f)) (bt : Bt mg K) (g__law_take : Cal P w K mg base (gg K) "_law_take" 1 2 r__law_take false F__law_take) :
    Cal P w K mg base (gg K) "_law_pick" 2 2 r__law_pick false F__law_pick := ⟨f, fd, ["box", "some"], hm, F.kp, FunD.bindsN F (fun _ _ _ _ _ _ us hl => match us, hl with | [_, _], _ => rfl), fn_ok2 (k := 1) (mb := m__law_pick) F sc__law_pick rfl rfl (by decide) fun cdv A outer s H E hr => by
  have nd := sc__law_pick.nd
  exact (qs_one (qs_ret (pd_ixL ix_seq (os_ix rfl) (by intro _ _; rfl) (pv 1) (EvE.toP (pd_callC g__law_take hr (by decide) rfl takes_body (by decide) rfl rfl rfl rfl (pr_r (pv 0) (pr_e rfl (pd_cb1 call_len (oc_len rfl) rfl bt.len_ boot_len (by decide) (by decide) rfl (np 1)) pr_nil)))))))⟩
abbrev s__law_is_numbers : Stmt := top 22
theorem sc__law_is_numbers : FnScope ["value", "many", "one"] ["value", "many"] (defScope s__law_is_numbers) := ⟨rfl, rfl, rfl, by decide +kernel, rfl, by decide +kernel, by decide +kernel⟩
theorem w__law_is_numbers (F : FnP K "_law_is_numbers" s__law_is_numbers f fd) (hm : mg "_law_is_numbers" = some (.ref f)) (bt : Bt mg K) (g__law_whole : Cal P w K mg base (gg K) "_law_whole" 1 1 r__law_whole false F__law_whole) :
    Cal P w K mg base (gg K) "_law_is_numbers" 2 2 r__law_is_numbers false F__law_is_numbers := ⟨f, fd, ["value", "many"], hm, F.kp, FunD.bindsN F (fun _ _ _ _ _ _ us hl => match us, hl with | [_, _], _ => rfl), fn_ok2 (k := 1) (mb := m__law_is_numbers) F sc__law_is_numbers rfl rfl (by decide) fun cdv A outer s H E hr => by
  have nd := sc__law_is_numbers.nd
  exact (qs_cons (qs_if (pt_notD (pt_tru rfl (EvE.toP (pd_isi (T := "tuple") rfl rfl bt.isinstance_ (np 0) (pe_bltn rfl bt.tuple_ boot_tuple rfl) rfl)) (by intro _; rfl))) (qs_one (qs_ret pd_bl)) qs_nil)
  (qs_one (qs_ret (pd_cmp (op_eqD hr.units) (os_eq rfl) rfl (EvF.toE (pd_lc (own := [("one", 2)]) (rfB (by kernel_rfl)) (by decide) rfl nd (pi_val rfl (nv 0)) (blkOk_by (by kernel_rfl)) (fun _ _ _ _ _ => (gn 2 nd)) (fun _ _ _ _ _ => (pts_if (PW.pt (pw_orD (pt_notD (pt_tru rfl (EvE.toP (pd_callC g__law_whole hr (by decide) rfl takes_none5 (by decide) rfl rfl rfl rfl (pr_e rfl (nv 2) pr_nil))) (by intro _; rfl))) (pw_orD (pt_cmpDL op_lt os_cmp rfl (pv 2) (EvE.toP pd_int)) (pw_or1 (pt_cmpDL op_ge os_cmp rfl (pv 2) (np 1)))))))) (fun _ _ _ _ _ => (nv 2)) (by intro _; rfl))) (EvE.toP (EvF.toE (pd_lst pa_nilD)))))))⟩
abbrev s__law_target : Stmt := top 25
theorem sc__law_target : FnScope ["box", "at", "many", "near"] ["box", "at", "many", "near"] (defScope s__law_target) := ⟨rfl, rfl, rfl, by decide +kernel, rfl, by decide +kernel, by decide +kernel⟩
theorem w__law_target (F : FnP K "_law_target" s__law_target f fd) (hm : mg "_law_target" = some (.ref f)) (bt : Bt mg K) (g__law_take : Cal P w K mg base (gg K) "_law_take" 1 2 r__law_take false F__law_take) :
    Cal P w K mg base (gg K) "_law_target" 2 4 r__law_target false F__law_target := ⟨f, fd, ["box", "at", "many", "near"], hm, F.kp, FunD.bindsN F (fun _ _ _ _ _ _ us hl => match us, hl with | [_, _, _, _], _ => rfl), fn_ok2 (k := 1) (mb := m__law_target) F sc__law_target rfl rfl (by decide) fun cdv A outer s H E hr => by
  have nd := sc__law_target.nd
  exact (qs_cons (qs_if (PW.pt (pw_andD (pt_tru rfl (np 3) (by intro _; rfl)) (pw_and1 (pt_cmpD op_gt os_cmp rfl (pd_callC g__law_take hr (by decide) rfl takes_body (by decide) rfl rfl rfl rfl (pr_r (pv 0) (pr_e rfl pd_int pr_nil))) (EvE.toP pd_int))))) (qs_one (qs_ret (pd_cbN (call_min2 rfl) oc_min2 rfl bt.min_ boot_min (by decide) (by decide) rfl (pa_consD rfl (pd_opL op_sub os_sub (pv 2) (EvE.toP pd_int)) (pa_consD rfl (pd_op op_addU (os_add rfl) (pd_opL op_addU (os_add rfl) (pv 1) (EvE.toP pd_int)) (EvE.toP (pd_callC g__law_take hr (by decide) rfl takes_body (by decide) rfl rfl rfl rfl (pr_r (pv 0) (pr_e rfl pd_int pr_nil))))) pa_nilD))))) qs_nil)
  (qs_one (qs_ret (pd_callC g__law_take hr (by decide) rfl takes_body (by decide) rfl rfl rfl rfl (pr_r (pv 0) (pr_e rfl (nv 2) pr_nil))))))⟩
abbrev s__law_odd_line : Stmt := top 27
theorem sc__law_odd_line : FnScope ["box", "many", "how", "p", "some"] ["box", "many"] (defScope s__law_odd_line) := ⟨rfl, rfl, rfl, by decide +kernel, rfl, by decide +kernel, by decide +kernel⟩
theorem w__law_odd_line (F : FnP K "_law_odd_line" s__law_odd_line f fd) (hm : mg "_law_odd_line" = some (.ref f)) (g__law_take : Cal P w K mg base (gg K) "_law_take" 1 2 r__law_take false F__law_take) :
    Cal P w K mg base (gg K) "_law_odd_line" 2 2 r__law_odd_line false F__law_odd_line := ⟨f, fd, ["box", "many"], hm, F.kp, FunD.bindsN F (fun _ _ _ _ _ _ us hl => match us, hl with | [_, _], _ => rfl), fn_ok2 (k := 1) (mb := m__law_odd_line) F sc__law_odd_line rfl rfl (by decide) fun cdv A outer s H E hr => by
  have nd := sc__law_odd_line.nd
  exact (qs_cons (se 2 nd (pd_callC g__law_take hr (by decide) rfl takes_body (by decide) rfl rfl rfl rfl (pr_r (pv 0) (pr_e rfl pd_int pr_nil))))
  (qs_cons (se 3 nd (pd_callC g__law_take hr (by decide) rfl takes_body (by decide) rfl rfl rfl rfl (pr_r (pv 0) (pr_e rfl (pd_opL op_addU (os_add rfl) (pv 1) (EvE.toP pd_int)) pr_nil))))
  (qs_cons (sf 4 nd (pd_lst (pa_consD rfl (pd_tup (pa_consD rfl (pd_str (s := [103, 111]) (by decide +kernel) rfl) (pa_consD rfl (nv 1) pa_nilD))) (pa_consD rfl (pd_tup (pa_consD rfl (pd_str (s := [99, 97, 108, 108]) (by decide +kernel) rfl) (pa_consD rfl (nv 1) pa_nilD))) (pa_consD rfl (pd_tup (pa_consD rfl (pd_str (s := [97, 115, 107]) (by decide +kernel) rfl) (pa_consD rfl (pd_str (s := [97]) (by decide +kernel) rfl) (pa_consD rfl (pd_tup pa_nilD) pa_nilD)))) (pa_consD rfl (pd_tup (pa_consD rfl (pd_str (s := [97, 115, 107]) (by decide +kernel) rfl) (pa_consD rfl (pd_str (s := [97]) (by decide +kernel) rfl) (pa_consD rfl (pd_tup (pa_consD rfl (nv 3) (pa_consD rfl (nv 3) (pa_consD rfl (nv 3) (pa_consD rfl (nv 3) (pa_consD rfl (nv 3) pa_nilD)))))) pa_nilD)))) (pa_consD rfl (pd_tup (pa_consD rfl (pd_str (s := [97, 115, 107]) (by decide +kernel) rfl) (pa_consD rfl (pd_str (s := [97]) (by decide +kernel) rfl) (pa_consD rfl (EvF.toE (pd_lst (pa_consD rfl (nv 3) pa_nilD))) pa_nilD)))) (pa_consD rfl (pd_tup (pa_consD rfl (pd_str (s := [100, 111]) (by decide +kernel) rfl) pa_nilD)) (pa_consD rfl (pd_tup (pa_consD rfl (pd_str (s := [100, 111]) (by decide +kernel) rfl) (pa_consD rfl (pd_str (s := [97, 98, 99, 100, 101]) (by decide +kernel) rfl) pa_nilD))) pa_nilD)))))))))
  (qs_cons (sf 4 nd (pd_opFL op_catR osf_cat (pv 4) (EvE.toP (EvF.toE (pd_lst (pa_consD rfl (pd_tup (pa_consD rfl (pd_str (s := [100, 111]) (by decide +kernel) rfl) (pa_consD rfl (pd_str (s := [97, 46, 49, 54]) (by decide +kernel) rfl) pa_nilD))) (pa_consD rfl (pd_tup (pa_consD rfl (pd_str (s := [98, 97, 99, 107]) (by decide +kernel) rfl) (pa_consD rfl pd_int pa_nilD))) (pa_consD rfl (EvF.toE (pd_lst (pa_consD rfl (pd_str (s := [98, 97, 99, 107]) (by decide +kernel) rfl) pa_nilD))) (pa_consD rfl (pd_tup (pa_consD rfl (pd_str (s := [103, 111]) (by decide +kernel) rfl) (pa_consD rfl pd_neg pa_nilD))) (pa_consD rfl (pd_tup (pa_consD rfl (pd_str (s := [103, 111]) (by decide +kernel) rfl) (pa_consD rfl pd_bl pa_nilD))) (pa_consD rfl (pd_tup (pa_consD rfl (pd_str (s := [68, 111]) (by decide +kernel) rfl) (pa_consD rfl (pd_str (s := [97]) (by decide +kernel) rfl) pa_nilD))) (pa_consD rfl (pd_tup (pa_consD rfl (pd_str (s := [97, 115, 107]) (by decide +kernel) rfl) (pa_consD rfl (pd_str (s := [97, 46, 49, 62, 50]) (by decide +kernel) rfl) (pa_consD rfl (pd_tup (pa_consD rfl (nv 3) pa_nilD)) pa_nilD)))) (pa_consD rfl pd_non (pa_consD rfl (pd_tup (pa_consD rfl (pd_str (s := [99, 97, 108, 108]) (by decide +kernel) rfl) (pa_consD rfl (nv 3) pa_nilD))) pa_nilD))))))))))))))
  (qs_one (qs_ret (pd_ixL ix_seq (os_ix rfl) (by intro _ _; rfl) (pv 4) (np 2))))))))⟩
abbrev s_is_below : Stmt := top 3
theorem sc_is_below : FnScope ["value", "many"] ["value", "many"] (defScope s_is_below) := ⟨rfl, rfl, rfl, by decide +kernel, rfl, by decide +kernel, by decide +kernel⟩
theorem w_is_below (F : FnP K "is_below" s_is_below f fd) (hm : mg "is_below" = some (.ref f)) (g_is_number : Cal P w K mg base (gg K) "is_number" 2 1 r_is_number false F_is_number) :
    Cal P w K mg base (gg K) "is_below" 3 2 r_is_below false F_is_below := ⟨f, fd, ["value", "many"], hm, F.kp, FunD.bindsN F (fun _ _ _ _ _ _ us hl => match us, hl with | [_, _], _ => rfl), fn_ok2 (k := 2) (mb := m_is_below) F sc_is_below rfl rfl (by decide) fun cdv A outer s H E hr => by
  have nd := sc_is_below.nd
  exact (qs_one (qs_ret (pd_and rfl (pd_callC g_is_number hr (by decide) rfl takes_body (by decide) rfl rfl rfl rfl (pr_e rfl (nv 0) pr_nil)) (pe_one (pd_cmpL op_lt os_cmp rfl (pv 0) (np 1))))))⟩
abbrev s_is_word : Stmt := top 10
theorem sc_is_word : FnScope ["value"] ["value"] (defScope s_is_word) := ⟨rfl, rfl, rfl, by decide +kernel, rfl, by decide +kernel, by decide +kernel⟩
theorem w_is_word (F : FnP K "is_word" s_is_word f fd) (hm : mg "is_word" = some (.ref f)) (g_parts_of : Cal P w K mg base (gg K) "parts_of" 2 1 r_parts_of false F_parts_of) :
    Cal P w K mg base (gg K) "is_word" 3 1 r_is_word false F_is_word := ⟨f, fd, ["value"], hm, F.kp, FunD.bindsN F (fun _ _ _ _ _ _ us hl => match us, hl with | [_], _ => rfl), fn_ok2 (k := 2) (mb := m_is_word) F sc_is_word rfl rfl (by decide) fun cdv A outer s H E hr => by
  have nd := sc_is_word.nd
  exact (qs_one (qs_ret (pd_cmp op_isNotU os_isNot rfl (pd_callC g_parts_of hr (by decide) rfl takes_body (by decide) rfl rfl rfl rfl (pr_e rfl (nv 0) pr_nil)) (EvE.toP pd_non))))⟩
abbrev s__law_word : Stmt := top 18
theorem sc__law_word : FnScope ["box", "word", "k"] ["box"] (defScope s__law_word) := ⟨rfl, rfl, rfl, by decide +kernel, rfl, by decide +kernel, by decide +kernel⟩
theorem w__law_word (F : FnP K "_law_word" s__law_word f fd) (hm : mg "_law_word" = some (.ref f)) (bt : Bt mg K) (g__law_pick : Cal P w K mg base (gg K) "_law_pick" 2 2 r__law_pick false F__law_pick) (g__law_take : Cal P w K mg base (gg K) "_law_take" 1 2 r__law_take false F__law_take) :
    Cal P w K mg base (gg K) "_law_word" 3 1 r__law_word false F__law_word := ⟨f, fd, ["box"], hm, F.kp, FunD.bindsN F (fun _ _ _ _ _ _ us hl => match us, hl with | [_], _ => rfl), fn_ok2 (k := 2) (mb := m__law_word) F sc__law_word rfl rfl (by decide) fun cdv A outer s H E hr => by
  have nd := sc__law_word.nd
  exact (qs_cons (se 1 nd (pd_str (s := []) (by decide +kernel) rfl))
  (qs_cons (qs_for (passes_of rfl) rfl (pi_rng1 rfl bt.range_ (pa_consD rfl (pd_op op_addU (os_add rfl) pd_int (EvE.toP (pd_callC g__law_take hr (by decide) rfl takes_body (by decide) rfl rfl rfl rfl (pr_r (pv 0) (pr_e rfl pd_int pr_nil))))) pa_nilD) rfl) (gn 2 nd) (qs_one (se 1 nd (pd_opL op_addU (os_add rfl) (pv 1) (EvE.toP (pd_callC g__law_pick hr (by decide) rfl takes_body (by decide) rfl rfl rfl rfl (pr_r (pv 0) (pr_e rfl (pd_str (s := [97, 98, 99, 100, 101, 102, 103, 104, 105, 106, 107, 108, 109, 110, 111, 112, 113, 114, 115, 116, 117, 118, 119, 120, 121, 122]) (by decide +kernel) rfl) pr_nil))))))) (by intro _; rfl))
  (qs_cons (qs_for (passes_of rfl) rfl (pi_rng1 rfl bt.range_ (pa_consD rfl (pd_callC g__law_take hr (by decide) rfl takes_body (by decide) rfl rfl rfl rfl (pr_r (pv 0) (pr_e rfl pd_int pr_nil))) pa_nilD) rfl) (gn 2 nd) (qs_one (se 1 nd (pd_op op_addU (os_add rfl) (pd_opL op_addU (os_add rfl) (pv 1) (EvE.toP (pd_str (s := [46]) (by decide +kernel) rfl))) (EvE.toP (pd_ct1 call_str_int oc_str rfl bt.str_ boot_str (by decide) (by decide) rfl (EvE.toP (pd_callC g__law_take hr (by decide) rfl takes_body (by decide) rfl rfl rfl rfl (pr_r (pv 0) (pr_e rfl pd_int pr_nil))))))))) (by intro _; rfl))
  (qs_cons (qs_if (pt_cmpD (op_eqD hr.units) (os_eq rfl) rfl (pd_callC g__law_take hr (by decide) rfl takes_body (by decide) rfl rfl rfl rfl (pr_r (pv 0) (pr_e rfl pd_int pr_nil))) (EvE.toP pd_int)) (qs_one (se 1 nd (pd_op op_addU (os_add rfl) (pd_opL op_addU (os_add rfl) (pv 1) (EvE.toP (pd_str (s := [62]) (by decide +kernel) rfl))) (EvE.toP (pd_ct1 call_str_int oc_str rfl bt.str_ boot_str (by decide) (by decide) rfl (EvE.toP (pd_callC g__law_take hr (by decide) rfl takes_body (by decide) rfl rfl rfl rfl (pr_r (pv 0) (pr_e rfl pd_int pr_nil))))))))) qs_nil)
  (qs_one (qs_retX rfl (pv 1)))))))⟩
abbrev s__law_raw : Stmt := top 20
theorem sc__law_raw : FnScope ["box", "many", "pool", "menu", "near", "lines", "at", "kind", "line", "targets", "k"] ["box", "many", "pool"] (defScope s__law_raw) := ⟨rfl, rfl, rfl, by decide +kernel, rfl, by decide +kernel, by decide +kernel⟩
theorem w__law_raw (F : FnP K "_law_raw" s__law_raw f fd) (hm : mg "_law_raw" = some (.ref f)) (bt : Bt mg K) (g__law_pick : Cal P w K mg base (gg K) "_law_pick" 2 2 r__law_pick false F__law_pick) (g__law_take : Cal P w K mg base (gg K) "_law_take" 1 2 r__law_take false F__law_take) (g__law_target : Cal P w K mg base (gg K) "_law_target" 2 4 r__law_target false F__law_target) :
    Cal P w K mg base (gg K) "_law_raw" 3 3 r__law_raw true F__law_raw := ⟨f, fd, ["box", "many", "pool"], hm, F.kp, FunD.bindsN F (fun _ _ _ _ _ _ us hl => match us, hl with | [_, _, _], _ => rfl), fn_ok2 (k := 2) (mb := m__law_raw) F sc__law_raw rfl rfl (by decide) fun cdv A outer s H E hr => by
  have nd := sc__law_raw.nd
  exact (qs_cons (se 3 nd (pd_callC g__law_pick hr (by decide) rfl takes_body (by decide) rfl rfl rfl rfl (pr_r (pv 0) (pr_e rfl (EvF.toE (pd_lst (pa_consD rfl (pd_str (s := [98, 98, 98, 100, 100, 100, 100, 100, 100, 97, 97, 97, 99, 99, 99, 103]) (by decide +kernel) rfl) (pa_consD rfl (pd_str (s := [98, 100, 100, 100, 100, 100, 100, 100, 97, 97, 97, 99, 99, 99, 99, 103]) (by decide +kernel) rfl) (pa_consD rfl (pd_str (s := [100, 100, 100, 100, 100, 100, 100, 100, 100, 100, 100, 97, 97, 99, 99, 103]) (by decide +kernel) rfl) (pa_consD rfl (pd_str (s := [100, 100, 100, 100, 100, 100, 100, 100, 100, 100, 100, 100, 100, 100, 97, 99]) (by decide +kernel) rfl) pa_nilD)))))) pr_nil))))
  (qs_cons (se 4 nd (pd_cmp (op_eqD hr.units) (os_eq rfl) rfl (pd_callC g__law_take hr (by decide) rfl takes_body (by decide) rfl rfl rfl rfl (pr_r (pv 0) (pr_e rfl pd_int pr_nil))) (EvE.toP pd_int)))
  (qs_cons (sf 5 nd (pd_lst pa_nilD))
  (qs_cons (qs_for (passes_of rfl) rfl (pi_rng1 rfl bt.range_ (pa_consD rfl (nv 1) pa_nilD) rfl) (gn 6 nd) (qs_cons (se 7 nd (pd_callC g__law_pick hr (by decide) rfl takes_body (by decide) rfl rfl rfl rfl (pr_r (pv 0) (pr_e rfl (nv 3) pr_nil))))
  (qs_cons (qs_if (pt_cmpDL (op_eqD hr.units) (os_eq rfl) rfl (pv 6) (EvE.toP (pd_opL op_sub os_sub (pv 1) (EvE.toP pd_int)))) (qs_one (se 8 nd (pd_if (pt_cmpD op_gt os_cmp rfl (pd_callC g__law_take hr (by decide) rfl takes_body (by decide) rfl rfl rfl rfl (pr_r (pv 0) (pr_e rfl pd_int pr_nil))) (EvE.toP pd_int)) (pd_tup (pa_consD rfl (pd_str (s := [98, 97, 99, 107]) (by decide +kernel) rfl) pa_nilD)) (pd_tup (pa_consD rfl (pd_str (s := [103, 111]) (by decide +kernel) rfl) (pa_consD rfl (pd_callC g__law_take hr (by decide) rfl takes_body (by decide) rfl rfl rfl rfl (pr_r (pv 0) (pr_e rfl (nv 1) pr_nil))) pa_nilD)))))) (qs_one (qs_if (pt_cmpDL (op_eqD hr.units) (os_eq rfl) rfl (pv 7) (EvE.toP (pd_str (s := [98]) (by decide +kernel) rfl))) (qs_one (se 8 nd (pd_tup (pa_consD rfl (pd_str (s := [98, 97, 99, 107]) (by decide +kernel) rfl) pa_nilD)))) (qs_one (qs_if (pt_cmpDL (op_eqD hr.units) (os_eq rfl) rfl (pv 7) (EvE.toP (pd_str (s := [100]) (by decide +kernel) rfl))) (qs_one (se 8 nd (pd_tup (pa_consD rfl (pd_str (s := [100, 111]) (by decide +kernel) rfl) (pa_consD rfl (pd_callC g__law_pick hr (by decide) rfl takes_body (by decide) rfl rfl rfl rfl (pr_r (pv 0) (pr_e rfl (nv 2) pr_nil))) pa_nilD))))) (qs_one (qs_if (pt_cmpDL (op_eqD hr.units) (os_eq rfl) rfl (pv 7) (EvE.toP (pd_str (s := [97]) (by decide +kernel) rfl))) (qs_cons (se 9 nd (pd_tup (pa_consD rfl (pd_callC g__law_target hr (by decide) rfl takes_body (by decide) rfl rfl rfl rfl (pr_r (pv 0) (pr_e rfl (nv 6) (pr_e rfl (nv 1) (pr_e rfl (nv 4) pr_nil))))) pa_nilD)))
  (qs_cons (qs_for (passes_of rfl) rfl (pi_rng1 rfl bt.range_ (pa_consD rfl (pd_ix ix_seq (os_ix rfl) (by intro _ _; rfl) (EvF.toE (pd_lst (pa_consD rfl pd_int (pa_consD rfl pd_int (pa_consD rfl pd_int (pa_consD rfl pd_int (pa_consD rfl pd_int (pa_consD rfl pd_int pa_nilD)))))))) (EvE.toP (pd_callC g__law_take hr (by decide) rfl takes_body (by decide) rfl rfl rfl rfl (pr_r (pv 0) (pr_e rfl pd_int pr_nil))))) pa_nilD) rfl) (gn 10 nd) (qs_one (se 9 nd (pd_opL op_addU (os_add rfl) (pv 9) (EvE.toP (pd_tup (pa_consD rfl (pd_callC g__law_target hr (by decide) rfl takes_body (by decide) rfl rfl rfl rfl (pr_r (pv 0) (pr_e rfl (nv 6) (pr_e rfl (nv 1) (pr_e rfl (nv 4) pr_nil))))) pa_nilD)))))) (by intro _; rfl))
  (qs_one (se 8 nd (pd_tup (pa_consD rfl (pd_str (s := [97, 115, 107]) (by decide +kernel) rfl) (pa_consD rfl (pd_callC g__law_pick hr (by decide) rfl takes_body (by decide) rfl rfl rfl rfl (pr_r (pv 0) (pr_e rfl (nv 2) pr_nil))) (pa_consD rfl (nv 9) pa_nilD)))))))) (qs_one (se 8 nd (pd_tup (pa_consD rfl (pd_if (pt_cmpDL (op_eqD hr.units) (os_eq rfl) rfl (pv 7) (EvE.toP (pd_str (s := [99]) (by decide +kernel) rfl))) (pd_str (s := [99, 97, 108, 108]) (by decide +kernel) rfl) (pd_str (s := [103, 111]) (by decide +kernel) rfl)) (pa_consD rfl (pd_callC g__law_target hr (by decide) rfl takes_body (by decide) rfl rfl rfl rfl (pr_r (pv 0) (pr_e rfl (nv 6) (pr_e rfl (nv 1) (pr_e rfl (nv 4) pr_nil))))) pa_nilD))))))))))))
  (qs_one (qs_drop rfl (pd_app (pv 5) (nv 8) rfl rfl rfl rfl))))) (by intro _; rfl))
  (qs_one (qs_retX rfl (pv 5)))))))⟩
abbrev s__law_is_line : Stmt := top 26
theorem sc__law_is_line : FnScope ["value", "many"] ["value", "many"] (defScope s__law_is_line) := ⟨rfl, rfl, rfl, by decide +kernel, rfl, by decide +kernel, by decide +kernel⟩
theorem w__law_is_line (F : FnP K "_law_is_line" s__law_is_line f fd) (hm : mg "_law_is_line" = some (.ref f)) (bt : Bt mg K) (g__law_is_numbers : Cal P w K mg base (gg K) "_law_is_numbers" 2 2 r__law_is_numbers false F__law_is_numbers) (g__law_is_word : Cal P w K mg base (gg K) "_law_is_word" 1 1 r__law_is_word false F__law_is_word) :
    Cal P w K mg base (gg K) "_law_is_line" 3 2 r__law_is_line false F__law_is_line := ⟨f, fd, ["value", "many"], hm, F.kp, FunD.bindsN F (fun _ _ _ _ _ _ us hl => match us, hl with | [_, _], _ => rfl), fn_ok2 (k := 2) (mb := m__law_is_line) F sc__law_is_line rfl rfl (by decide) fun cdv A outer s H E hr => by
  have nd := sc__law_is_line.nd
  exact (qs_cons (qs_if (PW.pt (pw_orD (pt_notD (pt_tru rfl (EvE.toP (pd_isi (T := "tuple") rfl rfl bt.isinstance_ (np 0) (pe_bltn rfl bt.tuple_ boot_tuple rfl) rfl)) (by intro _; rfl))) (pw_orD (pt_cmpDL (op_eqD hr.units) (os_eq rfl) rfl (pv 0) (EvE.toP (pd_tup pa_nilD))) (pw_or1 (pt_notD (pt_tru rfl (EvE.toP (pd_isi (T := "str") rfl rfl bt.isinstance_ (EvE.toP (pd_ixL ix_seq (os_ix rfl) (by intro _ _; rfl) (pv 0) (EvE.toP pd_int))) (pe_bltn rfl bt.str_ boot_str rfl) rfl)) (by intro _; rfl))))))) (qs_one (qs_ret pd_bl)) qs_nil)
  (qs_cons (qs_if (pt_cmpD (op_eqD hr.units) (os_eq rfl) rfl (pd_ixL ix_seq (os_ix rfl) (by intro _ _; rfl) (pv 0) (EvE.toP pd_int)) (EvE.toP (pd_str (s := [98, 97, 99, 107]) (by decide +kernel) rfl))) (qs_one (qs_ret (pd_cmp (op_eqD hr.units) (os_eq rfl) rfl (pd_cb1 call_len (oc_len rfl) rfl bt.len_ boot_len (by decide) (by decide) rfl (np 0)) (EvE.toP pd_int)))) qs_nil)
  (qs_cons (qs_if (PW.pt (pw_orD (pt_cmpD (op_eqD hr.units) (os_eq rfl) rfl (pd_ixL ix_seq (os_ix rfl) (by intro _ _; rfl) (pv 0) (EvE.toP pd_int)) (EvE.toP (pd_str (s := [103, 111]) (by decide +kernel) rfl))) (pw_or1 (pt_cmpD (op_eqD hr.units) (os_eq rfl) rfl (pd_ixL ix_seq (os_ix rfl) (by intro _ _; rfl) (pv 0) (EvE.toP pd_int)) (EvE.toP (pd_str (s := [99, 97, 108, 108]) (by decide +kernel) rfl)))))) (qs_one (qs_ret (pd_and rfl (pd_cmp (op_eqD hr.units) (os_eq rfl) rfl (pd_cb1 call_len (oc_len rfl) rfl bt.len_ boot_len (by decide) (by decide) rfl (np 0)) (EvE.toP pd_int)) (pe_one (pd_callC g__law_is_numbers hr (by decide) rfl takes_body (by decide) rfl rfl rfl rfl (pr_e rfl (pd_slL sl_U (os_sl rfl) (pv 0) (pd_part pd_int) pd_noPart) (pr_e rfl (nv 1) pr_nil))))))) qs_nil)
  (qs_cons (qs_if (pt_cmpD (op_eqD hr.units) (os_eq rfl) rfl (pd_ixL ix_seq (os_ix rfl) (by intro _ _; rfl) (pv 0) (EvE.toP pd_int)) (EvE.toP (pd_str (s := [100, 111]) (by decide +kernel) rfl))) (qs_one (qs_ret (pd_and rfl (pd_cmp (op_eqD hr.units) (os_eq rfl) rfl (pd_cb1 call_len (oc_len rfl) rfl bt.len_ boot_len (by decide) (by decide) rfl (np 0)) (EvE.toP pd_int)) (pe_one (pd_callC g__law_is_word hr (by decide) rfl takes_body (by decide) rfl rfl rfl rfl (pr_e rfl (pd_ixL ix_seq (os_ix rfl) (by intro _ _; rfl) (pv 0) (EvE.toP pd_int)) pr_nil)))))) qs_nil)
  (qs_cons (qs_if (PW.pt (pw_orD (pt_cmpD (op_neD hr.units) (os_ne rfl) rfl (pd_ixL ix_seq (os_ix rfl) (by intro _ _; rfl) (pv 0) (EvE.toP pd_int)) (EvE.toP (pd_str (s := [97, 115, 107]) (by decide +kernel) rfl))) (pw_orD (pt_cmpD (op_neD hr.units) (os_ne rfl) rfl (pd_cb1 call_len (oc_len rfl) rfl bt.len_ boot_len (by decide) (by decide) rfl (np 0)) (EvE.toP pd_int)) (pw_or1 (pt_notD (pt_tru rfl (EvE.toP (pd_callC g__law_is_word hr (by decide) rfl takes_body (by decide) rfl rfl rfl rfl (pr_e rfl (pd_ixL ix_seq (os_ix rfl) (by intro _ _; rfl) (pv 0) (EvE.toP pd_int)) pr_nil))) (by intro _; rfl))))))) (qs_one (qs_ret pd_bl)) qs_nil)
  (qs_one (qs_ret (pd_and rfl (pd_callC g__law_is_numbers hr (by decide) rfl takes_body (by decide) rfl rfl rfl rfl (pr_e rfl (pd_ixL ix_seq (os_ix rfl) (by intro _ _; rfl) (pv 0) (EvE.toP pd_int)) (pr_e rfl (nv 1) pr_nil))) (pd_and rfl (pd_cmp op_le os_cmp rfl pd_int (EvE.toP (pd_cb1 call_len (oc_len rfl) rfl bt.len_ boot_len (by decide) (by decide) rfl (EvE.toP (pd_ixL ix_seq (os_ix rfl) (by intro _ _; rfl) (pv 0) (EvE.toP pd_int)))))) (pe_one (pd_cmp op_le os_cmp rfl (pd_cb1 call_len (oc_len rfl) rfl bt.len_ boot_len (by decide) (by decide) rfl (EvE.toP (pd_ixL ix_seq (os_ix rfl) (by intro _ _; rfl) (pv 0) (EvE.toP pd_int)))) (EvE.toP pd_int))))))))))))⟩
abbrev s_all_below : Stmt := top 4
theorem sc_all_below : FnScope ["value", "many", "member"] ["value", "many"] (defScope s_all_below) := ⟨rfl, rfl, rfl, by decide +kernel, rfl, by decide +kernel, by decide +kernel⟩
theorem w_all_below (F : FnP K "all_below" s_all_below f fd) (hm : mg "all_below" = some (.ref f)) (bt : Bt mg K) (g_is_below : Cal P w K mg base (gg K) "is_below" 3 2 r_is_below false F_is_below) :
    Cal P w K mg base (gg K) "all_below" 4 2 r_all_below false F_all_below := ⟨f, fd, ["value", "many"], hm, F.kp, FunD.bindsN F (fun _ _ _ _ _ _ us hl => match us, hl with | [_, _], _ => rfl), fn_ok2 (k := 3) (mb := m_all_below) F sc_all_below rfl rfl (by decide) fun cdv A outer s H E hr => by
  have nd := sc_all_below.nd
  exact (qs_one (qs_ret (pd_and rfl (pd_isi (T := "tuple") rfl rfl bt.isinstance_ (np 0) (pe_bltn rfl bt.tuple_ boot_tuple rfl) rfl) (pe_one (pd_cb1 (cr_all rfl) (oc_all rfl) rfl bt.all_ boot_all (by decide) (by decide) rfl (EvE.toP (EvF.toE (pd_lc (own := [("member", 2)]) (rfB (by kernel_rfl)) (by decide) rfl nd (pi_val rfl (nv 0)) (blkOk_by (by kernel_rfl)) (fun _ _ _ _ _ => (gn 2 nd)) (fun _ _ _ _ _ => pts_yes) (fun _ _ _ _ _ => (pd_callC g_is_below hr (by decide) rfl takes_none5 (by decide) rfl rfl rfl rfl (pr_e rfl (nv 2) (pr_e rfl (nv 1) pr_nil)))) (by intro _; rfl)))))))))⟩
abbrev s__law_pool : Stmt := top 19
theorem sc__law_pool : FnScope ["box", "word", "other"] ["box"] (defScope s__law_pool) := ⟨rfl, rfl, rfl, by decide +kernel, rfl, by decide +kernel, by decide +kernel⟩
theorem w__law_pool (F : FnP K "_law_pool" s__law_pool f fd) (hm : mg "_law_pool" = some (.ref f)) (g__law_word : Cal P w K mg base (gg K) "_law_word" 3 1 r__law_word false F__law_word) :
    Cal P w K mg base (gg K) "_law_pool" 4 1 r__law_pool true F__law_pool := ⟨f, fd, ["box"], hm, F.kp, FunD.bindsN F (fun _ _ _ _ _ _ us hl => match us, hl with | [_], _ => rfl), fn_ok2 (k := 3) (mb := m__law_pool) F sc__law_pool rfl rfl (by decide) fun cdv A outer s H E hr => by
  have nd := sc__law_pool.nd
  exact (qs_cons (se 1 nd (pd_callC g__law_word hr (by decide) rfl takes_body (by decide) rfl rfl rfl rfl (pr_r (pv 0) pr_nil)))
  (qs_cons (se 2 nd (pd_if (pt_cmpD (op_eqD hr.units) (os_eq rfl) rfl (pd_ixL ix_seq (os_ix rfl) (by intro _ _; rfl) (pv 1) (EvE.toP pd_int)) (EvE.toP (pd_str (s := [122]) (by decide +kernel) rfl))) (pd_str (s := [97]) (by decide +kernel) rfl) (pd_ix ix_seq (os_ix rfl) (by intro _ _; rfl) (pd_str (s := [97, 98, 99, 100, 101, 102, 103, 104, 105, 106, 107, 108, 109, 110, 111, 112, 113, 114, 115, 116, 117, 118, 119, 120, 121, 122]) (by decide +kernel) rfl) (EvE.toP (pd_op op_addU (os_add rfl) (pd_find (EvE.toP (pd_str (s := [97, 98, 99, 100, 101, 102, 103, 104, 105, 106, 107, 108, 109, 110, 111, 112, 113, 114, 115, 116, 117, 118, 119, 120, 121, 122]) (by decide +kernel) rfl)) (pd_ixL ix_seq (os_ix rfl) (by intro _ _; rfl) (pv 1) (EvE.toP pd_int)) rfl rfl rfl) (EvE.toP pd_int))))))
  (qs_one (qs_retF (pd_lst (pa_consD rfl (nv 1) (pa_consD rfl (pd_opL op_addU (os_add rfl) (pv 2) (EvE.toP (pd_slL sl_U (os_sl rfl) (pv 1) (pd_part pd_int) pd_noPart))) (pa_consD rfl (pd_callC g__law_word hr (by decide) rfl takes_body (by decide) rfl rfl rfl rfl (pr_r (pv 0) pr_nil)) pa_nilD))))))))⟩
abbrev s_is_line : Stmt := top 13
theorem sc_is_line : FnScope ["value", "many", "kind", "right"] ["value", "many"] (defScope s_is_line) := ⟨rfl, rfl, rfl, by decide +kernel, rfl, by decide +kernel, by decide +kernel⟩
theorem w_is_line (F : FnP K "is_line" s_is_line f fd) (hm : mg "is_line" = some (.ref f)) (bt : Bt mg K) (g_all_below : Cal P w K mg base (gg K) "all_below" 4 2 r_all_below false F_all_below) (g_is_below : Cal P w K mg base (gg K) "is_below" 3 2 r_is_below false F_is_below) (g_is_word : Cal P w K mg base (gg K) "is_word" 3 1 r_is_word false F_is_word) :
    Cal P w K mg base (gg K) "is_line" 5 2 r_is_line false F_is_line := ⟨f, fd, ["value", "many"], hm, F.kp, FunD.bindsN F (fun _ _ _ _ _ _ us hl => match us, hl with | [_, _], _ => rfl), fn_ok2 (k := 4) (mb := m_is_line) F sc_is_line rfl rfl (by decide) fun cdv A outer s H E hr => by
  have nd := sc_is_line.nd
  exact (qs_cons (qs_if (PW.pt (pw_orD (pt_notD (pt_tru rfl (EvE.toP (pd_isi (T := "tuple") rfl rfl bt.isinstance_ (np 0) (pe_bltn rfl bt.tuple_ boot_tuple rfl) rfl)) (by intro _; rfl))) (pw_orD (pt_notD (pt_tru rfl (np 0) (by intro _; rfl))) (pw_or1 (pt_notD (pt_tru rfl (EvE.toP (pd_isi (T := "str") rfl rfl bt.isinstance_ (EvE.toP (pd_ixL ix_seq (os_ix rfl) (by intro _ _; rfl) (pv 0) (EvE.toP pd_int))) (pe_bltn rfl bt.str_ boot_str rfl) rfl)) (by intro _; rfl))))))) (qs_one (qs_ret pd_bl)) qs_nil)
  (qs_cons (se 2 nd (pd_ixL ix_seq (os_ix rfl) (by intro _ _; rfl) (pv 0) (EvE.toP pd_int)))
  (qs_cons (qs_if (pt_cmpDL (op_eqD hr.units) (os_eq rfl) rfl (pv 2) (EvE.toP (pd_str (s := [98, 97, 99, 107]) (by decide +kernel) rfl))) (qs_one (qs_ret (pd_cmp (op_eqD hr.units) (os_eq rfl) rfl (pd_cb1 call_len (oc_len rfl) rfl bt.len_ boot_len (by decide) (by decide) rfl (np 0)) (EvE.toP pd_int)))) qs_nil)
  (qs_cons (qs_if (pt_cmpDL (op_inR hr.units) (os_in rfl) rfl (pv 2) (EvE.toP (pd_tup (pa_consD rfl (pd_str (s := [103, 111]) (by decide +kernel) rfl) (pa_consD rfl (pd_str (s := [99, 97, 108, 108]) (by decide +kernel) rfl) pa_nilD))))) (qs_one (qs_ret (pd_and rfl (pd_cmp (op_eqD hr.units) (os_eq rfl) rfl (pd_cb1 call_len (oc_len rfl) rfl bt.len_ boot_len (by decide) (by decide) rfl (np 0)) (EvE.toP pd_int)) (pe_one (pd_callC g_is_below hr (by decide) rfl takes_body (by decide) rfl rfl rfl rfl (pr_e rfl (pd_ixL ix_seq (os_ix rfl) (by intro _ _; rfl) (pv 0) (EvE.toP pd_int)) (pr_e rfl (nv 1) pr_nil))))))) qs_nil)
  (qs_cons (qs_if (pt_cmpDL (op_eqD hr.units) (os_eq rfl) rfl (pv 2) (EvE.toP (pd_str (s := [100, 111]) (by decide +kernel) rfl))) (qs_one (qs_ret (pd_and rfl (pd_cmp (op_eqD hr.units) (os_eq rfl) rfl (pd_cb1 call_len (oc_len rfl) rfl bt.len_ boot_len (by decide) (by decide) rfl (np 0)) (EvE.toP pd_int)) (pe_one (pd_callC g_is_word hr (by decide) rfl takes_body (by decide) rfl rfl rfl rfl (pr_e rfl (pd_ixL ix_seq (os_ix rfl) (by intro _ _; rfl) (pv 0) (EvE.toP pd_int)) pr_nil)))))) qs_nil)
  (qs_cons (qs_if (pt_cmpDL (op_eqD hr.units) (os_eq rfl) rfl (pv 2) (EvE.toP (pd_str (s := [97, 115, 107]) (by decide +kernel) rfl))) (qs_cons (se 3 nd (pd_and rfl (pd_cmp (op_eqD hr.units) (os_eq rfl) rfl (pd_cb1 call_len (oc_len rfl) rfl bt.len_ boot_len (by decide) (by decide) rfl (np 0)) (EvE.toP pd_int)) (pd_and rfl (pd_callC g_is_word hr (by decide) rfl takes_body (by decide) rfl rfl rfl rfl (pr_e rfl (pd_ixL ix_seq (os_ix rfl) (by intro _ _; rfl) (pv 0) (EvE.toP pd_int)) pr_nil)) (pe_one (pd_callC g_all_below hr (by decide) rfl takes_body (by decide) rfl rfl rfl rfl (pr_e rfl (pd_ixL ix_seq (os_ix rfl) (by intro _ _; rfl) (pv 0) (EvE.toP pd_int)) (pr_e rfl (nv 1) pr_nil)))))))
  (qs_one (qs_ret (pd_and rfl (nv 3) (pe_one (pd_chain op_le op_le os_cmp os_cmp pd_int (pd_cb1 call_len (oc_len rfl) rfl bt.len_ boot_len (by decide) (by decide) rfl (EvE.toP (pd_ixL ix_seq (os_ix rfl) (by intro _ _; rfl) (pv 0) (EvE.toP pd_int)))) (EvE.toP (pd_const bt.MOST_TARGETS_ rfl rfl (by decide))) rfl)))))) qs_nil)
  (qs_one (qs_ret pd_bl))))))))⟩
abbrev s__law_spoilt : Stmt := top 24
theorem sc__law_spoilt : FnScope ["box", "value", "deep", "at", "how"] ["box", "value", "deep"] (defScope s__law_spoilt) := ⟨rfl, rfl, rfl, by decide +kernel, rfl, by decide +kernel, by decide +kernel⟩
theorem v__law_spoilt (F : FnP K "_law_spoilt" s__law_spoilt f fd) (hm : mg "_law_spoilt" = some (.ref f)) (bt : Bt mg K) (g__law_pick : Cal P w K mg base (gg K) "_law_pick" 2 2 r__law_pick false F__law_pick) (g__law_take : Cal P w K mg base (gg K) "_law_take" 1 2 r__law_take false F__law_take) (g__law_whole : Cal P w K mg base (gg K) "_law_whole" 1 1 r__law_whole false F__law_whole) : ∀ n : Nat,
    Cal P w K mg base (gg K) "_law_spoilt" (2 + n) 3 r__law_spoilt false (Fr__law_spoilt n)
  | 0 => ⟨f, fd, ["box", "value", "deep"], hm, F.kp, FunD.bindsN F (fun _ _ _ _ _ _ us hl => match us, hl with | [_, _, _], _ => rfl), cal_bad⟩
  | n + 1 => by
    have g__law_spoilt := v__law_spoilt F hm bt g__law_pick g__law_take g__law_whole n
    exact ⟨f, fd, ["box", "value", "deep"], hm, F.kp, FunD.bindsN F (fun _ _ _ _ _ _ us hl => match us, hl with | [_, _, _], _ => rfl), fn_ok2 (k := 2 + n) (mb := m__law_spoilt (Fr__law_spoilt n)) F sc__law_spoilt rfl rfl (by decide) fun cdv A outer s H E hr => by
      have nd := sc__law_spoilt.nd
      exact (qs_cons (qs_if (pt_tru rfl (EvE.toP (pd_isi (T := "tuple") rfl rfl bt.isinstance_ (np 1) (pe_bltn rfl bt.tuple_ boot_tuple rfl) rfl)) (by intro _; rfl)) (qs_cons (se 3 nd (pd_callC g__law_take hr (by omega) rfl takes_body (by decide) rfl rfl rfl rfl (pr_r (pv 0) (pr_e rfl (pd_op op_addU (os_add rfl) (pd_cb1 call_len (oc_len rfl) rfl bt.len_ boot_len (by decide) (by decide) rfl (np 1)) (EvE.toP pd_int)) pr_nil))))
  (qs_cons (qs_if (PW.pt (pw_andD (pt_cmpDL (op_neD hr.units) (os_ne rfl) rfl (pv 1) (EvE.toP (pd_tup pa_nilD))) (pw_andD (pt_cmpDL op_gt os_cmp rfl (pv 2) (EvE.toP pd_int)) (pw_and1 (pt_cmpD op_gt os_cmp rfl (pd_callC g__law_take hr (by omega) rfl takes_body (by decide) rfl rfl rfl rfl (pr_r (pv 0) (pr_e rfl pd_int pr_nil))) (EvE.toP pd_int)))))) (qs_cons (se 3 nd (pd_op op_mod os_mod (pd_ct1 cr_intU oc_int rfl bt.int_ boot_int (by decide) (by decide) rfl (np 3)) (EvE.toP (pd_cb1 call_len (oc_len rfl) rfl bt.len_ boot_len (by decide) (by decide) rfl (np 1)))))
  (qs_one (qs_ret (pd_op op_addU (os_add rfl) (pd_op op_addU (os_add rfl) (pd_slL sl_U (os_sl rfl) (pv 1) pd_noPart (pd_part (nv 3))) (EvE.toP (pd_tup (pa_consD rfl (pd_callC g__law_spoilt hr (by omega) rfl takes_body (by decide) rfl rfl rfl rfl (pr_r (pv 0) (pr_e rfl (pd_ixL ix_seq (os_ix rfl) (by intro _ _; rfl) (pv 1) (np 3)) (pr_e rfl (pd_opL op_sub os_sub (pv 2) (EvE.toP pd_int)) pr_nil)))) pa_nilD)))) (EvE.toP (pd_slL sl_U (os_sl rfl) (pv 1) (pd_part (pd_opL op_addU (os_add rfl) (pv 3) (EvE.toP pd_int))) pd_noPart)))))) qs_nil)
  (qs_cons (se 4 nd (pd_callC g__law_take hr (by omega) rfl takes_body (by decide) rfl rfl rfl rfl (pr_r (pv 0) (pr_e rfl pd_int pr_nil))))
  (qs_cons (qs_if (pt_cmpDL (op_eqD hr.units) (os_eq rfl) rfl (pv 4) (EvE.toP pd_int)) (qs_one (qs_retF (pd_ctF1 call_list_of (oc_lst rfl) rfl bt.list_ boot_list (by decide) (by decide) rfl (np 1)))) qs_nil)
  (qs_cons (qs_if (pt_cmpDL (op_eqD hr.units) (os_eq rfl) rfl (pv 4) (EvE.toP pd_int)) (qs_one (qs_ret (pd_op op_addU (os_add rfl) (pd_slL sl_U (os_sl rfl) (pv 1) pd_noPart (pd_part (nv 3))) (EvE.toP (pd_slL sl_U (os_sl rfl) (pv 1) (pd_part (pd_opL op_addU (os_add rfl) (pv 3) (EvE.toP pd_int))) pd_noPart))))) qs_nil)
  (qs_cons (qs_if (pt_cmpDL (op_eqD hr.units) (os_eq rfl) rfl (pv 4) (EvE.toP pd_int)) (qs_one (qs_ret (pd_op op_addU (os_add rfl) (pd_op op_addU (os_add rfl) (pd_slL sl_U (os_sl rfl) (pv 1) pd_noPart (pd_part (nv 3))) (EvE.toP (pd_slL sl_U (os_sl rfl) (pv 1) (pd_part (nv 3)) (pd_part (pd_opL op_addU (os_add rfl) (pv 3) (EvE.toP pd_int)))))) (EvE.toP (pd_slL sl_U (os_sl rfl) (pv 1) (pd_part (nv 3)) pd_noPart))))) qs_nil)
  (qs_cons (qs_if (pt_cmpDL (op_eqD hr.units) (os_eq rfl) rfl (pv 4) (EvE.toP pd_int)) (qs_one (qs_ret (pd_op op_addU (os_add rfl) (pd_slL sl_U (os_sl rfl) (pv 1) (pd_part (nv 3)) pd_noPart) (EvE.toP (pd_slL sl_U (os_sl rfl) (pv 1) pd_noPart (pd_part (nv 3))))))) qs_nil)
  (qs_cons (qs_if (pt_cmpDL (op_eqD hr.units) (os_eq rfl) rfl (pv 4) (EvE.toP pd_int)) (qs_one (qs_ret (pd_opL op_addU (os_add rfl) (pv 1) (EvE.toP (pd_tup (pa_consD rfl (pd_tup pa_nilD) pa_nilD)))))) qs_nil)
  (qs_cons (qs_if (pt_cmpDL (op_eqD hr.units) (os_eq rfl) rfl (pv 4) (EvE.toP pd_int)) (qs_one (qs_ret (pd_op op_addU (os_add rfl) (pd_op op_addU (os_add rfl) (pd_slL sl_U (os_sl rfl) (pv 1) pd_noPart (pd_part (nv 3))) (EvE.toP (pd_tup (pa_consD rfl pd_int pa_nilD)))) (EvE.toP (pd_slL sl_U (os_sl rfl) (pv 1) (pd_part (nv 3)) pd_noPart))))) qs_nil)
  (qs_cons (qs_if (pt_cmpDL (op_eqD hr.units) (os_eq rfl) rfl (pv 4) (EvE.toP pd_int)) (qs_one (qs_ret (pd_op op_addU (os_add rfl) (pd_slL sl_U (os_sl rfl) (pv 1) pd_noPart (pd_part pd_neg)) (EvE.toP (pd_slL sl_U (os_sl rfl) (pv 1) pd_noPart (pd_part pd_int)))))) qs_nil)
  (qs_one (qs_ret pd_non)))))))))))) qs_nil)
  (qs_cons (qs_if (pt_tru rfl (EvE.toP (pd_isi (T := "str") rfl rfl bt.isinstance_ (np 1) (pe_bltn rfl bt.str_ boot_str rfl) rfl)) (by intro _; rfl)) (qs_one (qs_ret (pd_callC g__law_pick hr (by omega) rfl takes_body (by decide) rfl rfl rfl rfl (pr_r (pv 0) (pr_e rfl (EvF.toE (pd_lst (pa_consD rfl (pd_opL op_addU (os_add rfl) (pv 1) (EvE.toP (pd_str (s := [98]) (by decide +kernel) rfl))) (pa_consD rfl (pd_str (s := []) (by decide +kernel) rfl) (pa_consD rfl (pd_slL sl_U (os_sl rfl) (pv 1) (pd_part pd_int) pd_noPart) (pa_consD rfl (pd_op op_addU (os_add rfl) (pd_str (s := [97]) (by decide +kernel) rfl) (np 1)) (pa_consD rfl pd_int pa_nilD))))))) pr_nil))))) qs_nil)
  (qs_cons (qs_if (pt_tru rfl (EvE.toP (pd_callC g__law_whole hr (by omega) rfl takes_body (by decide) rfl rfl rfl rfl (pr_e rfl (nv 1) pr_nil))) (by intro _; rfl)) (qs_one (qs_ret (pd_callC g__law_pick hr (by omega) rfl takes_body (by decide) rfl rfl rfl rfl (pr_r (pv 0) (pr_e rfl (EvF.toE (pd_lst (pa_consD rfl (pd_opL op_addU (os_add rfl) (pv 1) (EvE.toP pd_int)) (pa_consD rfl (pd_opL op_sub os_sub (pv 1) (EvE.toP pd_int)) (pa_consD rfl (pd_cmpL op_gt os_cmp rfl (pv 1) (EvE.toP pd_int)) (pa_consD rfl (pd_op op_sub os_sub pd_neg (np 1)) (pa_consD rfl (pd_tup (pa_consD rfl (nv 1) pa_nilD)) (pa_consD rfl pd_non (pa_consD rfl (pd_ct1 call_str_int oc_str rfl bt.str_ boot_str (by decide) (by decide) rfl (np 1)) (pa_consD rfl (pd_opL op_addU (os_add rfl) (pv 1) (EvE.toP pd_int)) pa_nilD)))))))))) pr_nil))))) qs_nil)
  (qs_one (qs_ret (pd_callC g__law_pick hr (by omega) rfl takes_body (by decide) rfl rfl rfl rfl (pr_r (pv 0) (pr_e rfl (EvF.toE (pd_lst (pa_consD rfl pd_int (pa_consD rfl (pd_tup pa_nilD) (pa_consD rfl (pd_str (s := [110, 111, 110, 101]) (by decide +kernel) rfl) pa_nilD))))) pr_nil))))))))⟩
theorem w__law_spoilt (F : FnP K "_law_spoilt" s__law_spoilt f fd) (hm : mg "_law_spoilt" = some (.ref f)) (bt : Bt mg K) (g__law_pick : Cal P w K mg base (gg K) "_law_pick" 2 2 r__law_pick false F__law_pick) (g__law_take : Cal P w K mg base (gg K) "_law_take" 1 2 r__law_take false F__law_take) (g__law_whole : Cal P w K mg base (gg K) "_law_whole" 1 1 r__law_whole false F__law_whole) :
    Cal P w K mg base (gg K) "_law_spoilt" 7 3 r__law_spoilt false F__law_spoilt := v__law_spoilt F hm bt g__law_pick g__law_take g__law_whole 5
abbrev s_law : Stmt := top 29
theorem sc_law : FnScope ["script", "box", "pool", "many", "line", "led", "value", "size", "p"] ["script"] (defScope s_law) := ⟨rfl, rfl, rfl, by decide +kernel, rfl, by decide +kernel, by decide +kernel⟩
theorem w_law (F : FnP K "law" s_law f fd) (bt : Bt mg K) (g__law_box : Cal P w K mg base (gg K) "_law_box" 1 2 r__law_box true F__law_box) (g__law_is_due : Cal P w K mg base (gg K) "_law_is_due" 1 2 r__law_is_due false F__law_is_due) (g__law_is_line : Cal P w K mg base (gg K) "_law_is_line" 3 2 r__law_is_line false F__law_is_line) (g__law_odd_line : Cal P w K mg base (gg K) "_law_odd_line" 2 2 r__law_odd_line false F__law_odd_line) (g__law_pool : Cal P w K mg base (gg K) "_law_pool" 4 1 r__law_pool true F__law_pool) (g__law_raw : Cal P w K mg base (gg K) "_law_raw" 3 3 r__law_raw true F__law_raw) (g__law_spoilt : Cal P w K mg base (gg K) "_law_spoilt" 7 3 r__law_spoilt false F__law_spoilt) (g__law_take : Cal P w K mg base (gg K) "_law_take" 1 2 r__law_take false F__law_take) (g_is_line : Cal P w K mg base (gg K) "is_line" 5 2 r_is_line false F_is_line) :
    FnOk P w K mg base (L2.CX P w) 8 f fd ["script"] (spF (gg K) 1 r_law false F_law) := fn_ok2 (k := 7) (mb := m_law) F sc_law rfl rfl (by decide) fun cdv A outer s H E hr => by
  have nd := sc_law.nd
  exact (qs_cons (sf 1 nd (pd_callFC g__law_box hr (by decide) rfl takes_body (by decide) rfl rfl rfl rfl (pr_e rfl (nv 0) (pr_e rfl pd_int pr_nil))))
  (qs_cons (sf 2 nd (pd_callFC g__law_pool hr (by decide) rfl takes_body (by decide) rfl rfl rfl rfl (pr_r (pv 1) pr_nil)))
  (qs_cons (se 3 nd (pd_op op_addU (os_add rfl) pd_int (EvE.toP (pd_callC g__law_take hr (by decide) rfl takes_body (by decide) rfl rfl rfl rfl (pr_r (pv 1) (pr_e rfl pd_int pr_nil))))))
  (qs_cons (qs_for (passes_of rfl) rfl (pi_val rfl (EvF.toE (pd_callFC g__law_raw hr (by decide) rfl takes_body (by decide) rfl rfl rfl rfl (pr_f rfl (pd_callFC g__law_box hr (by decide) rfl takes_body (by decide) rfl rfl rfl rfl (pr_e rfl (nv 0) (pr_e rfl pd_int pr_nil))) (pr_e rfl pd_int (pr_e rfl (nv 2) pr_nil)))))) (gn 4 nd) (qs_cons (se 5 nd (nv 4))
  (qs_cons (qs_if (pt_cmpD (op_eqD hr.units) (os_eq rfl) rfl (pd_ixL ix_seq (os_ix rfl) (by intro _ _; rfl) (pv 4) (EvE.toP pd_int)) (EvE.toP (pd_str (s := [97, 115, 107]) (by decide +kernel) rfl))) (qs_one (se 5 nd (pd_tup (pa_consD rfl (pd_str (s := [97, 115, 107]) (by decide +kernel) rfl) (pa_consD rfl (pd_ixL ix_seq (os_ix rfl) (by intro _ _; rfl) (pv 4) (EvE.toP pd_int)) (pa_consD rfl (pd_ct1 call_tuple_of (oc_tup rfl) rfl bt.tuple_ boot_tuple (by decide) (by decide) rfl (EvE.toP (EvF.toE (pd_lc (own := [("p", 8)]) (rfB (by kernel_rfl)) (by decide) rfl nd (pi_val rfl (pd_ixL ix_seq (os_ix rfl) (by intro _ _; rfl) (pv 4) (EvE.toP pd_int))) (blkOk_by (by kernel_rfl)) (fun _ _ _ _ _ => (gn 8 nd)) (fun _ _ _ _ _ => pts_yes) (fun _ _ _ _ _ => (pd_op op_mod os_mod (pd_ct1 cr_intU oc_int rfl bt.int_ boot_int (by decide) (by decide) rfl (EvE.toP (pd_op op_sub os_sub (pd_op op_addU (os_add rfl) (pd_opL op_mul os_mul (pv 8) (EvE.toP pd_int)) (np 3)) (EvE.toP pd_int)))) (np 3))) (by intro _; rfl))))) pa_nilD)))))) (qs_one (qs_if (PW.pt (pw_orD (pt_cmpD (op_eqD hr.units) (os_eq rfl) rfl (pd_ixL ix_seq (os_ix rfl) (by intro _ _; rfl) (pv 4) (EvE.toP pd_int)) (EvE.toP (pd_str (s := [103, 111]) (by decide +kernel) rfl))) (pw_or1 (pt_cmpD (op_eqD hr.units) (os_eq rfl) rfl (pd_ixL ix_seq (os_ix rfl) (by intro _ _; rfl) (pv 4) (EvE.toP pd_int)) (EvE.toP (pd_str (s := [99, 97, 108, 108]) (by decide +kernel) rfl)))))) (qs_one (se 5 nd (pd_tup (pa_consD rfl (pd_ixL ix_seq (os_ix rfl) (by intro _ _; rfl) (pv 4) (EvE.toP pd_int)) (pa_consD rfl (pd_op op_mod os_mod (pd_ct1 cr_intU oc_int rfl bt.int_ boot_int (by decide) (by decide) rfl (EvE.toP (pd_op op_sub os_sub (pd_op op_addU (os_add rfl) (pd_op op_mul os_mul (pd_ixL ix_seq (os_ix rfl) (by intro _ _; rfl) (pv 4) (EvE.toP pd_int)) (EvE.toP pd_int)) (np 3)) (EvE.toP pd_int)))) (np 3)) pa_nilD))))) qs_nil)))
  (qs_one (qs_for (passes_of rfl) rfl (pi_val rfl (EvF.toE (pd_lst (pa_consD rfl (nv 4) (pa_consD rfl (nv 5) (pa_consD rfl (pd_callC g__law_spoilt hr (by decide) rfl takes_body (by decide) rfl rfl rfl rfl (pr_r (pv 1) (pr_e rfl (nv 5) (pr_e rfl (pd_callC g__law_take hr (by decide) rfl takes_body (by decide) rfl rfl rfl rfl (pr_r (pv 1) (pr_e rfl pd_int pr_nil))) pr_nil)))) (pa_consD rfl (pd_callC g__law_odd_line hr (by decide) rfl takes_body (by decide) rfl rfl rfl rfl (pr_r (pv 1) (pr_e rfl (nv 3) pr_nil))) pa_nilD))))))) (gn 6 nd) (qs_one (qs_for (passes_of rfl) rfl (pi_val rfl (EvF.toE (pd_lst (pa_consD rfl (nv 3) (pa_consD rfl (pd_opL op_addU (os_add rfl) (pv 3) (EvE.toP pd_int)) (pa_consD rfl (pd_opL op_sub os_sub (pv 3) (EvE.toP pd_int)) (pa_consD rfl pd_int (pa_consD rfl pd_int pa_nilD)))))))) (gn 7 nd) (qs_one (qs_if (pt_notD (pt_tru rfl (EvE.toP (pd_callC g__law_is_due hr (by decide) rfl takes_body (by decide) rfl rfl rfl rfl (pr_e rfl (pd_callC g_is_line hr (by decide) rfl takes_body (by decide) rfl rfl rfl rfl (pr_e rfl (nv 6) (pr_e rfl (nv 7) pr_nil))) (pr_e rfl (pd_callC g__law_is_line hr (by decide) rfl takes_body (by decide) rfl rfl rfl rfl (pr_e rfl (nv 6) (pr_e rfl (nv 7) pr_nil))) pr_nil)))) (by intro _; rfl))) (qs_one (qs_ret pd_bl)) qs_nil)) (by intro _; rfl))) (by intro _; rfl))))) (by intro _; rfl))
  (qs_cons (qs_for (passes_of rfl) rfl (pi_val rfl (EvF.toE (pd_lst (pa_consD rfl pd_non (pa_consD rfl (pd_tup pa_nilD) (pa_consD rfl (pd_str (s := [98, 97, 99, 107]) (by decide +kernel) rfl) (pa_consD rfl (EvF.toE (pd_lst (pa_consD rfl (pd_str (s := [98, 97, 99, 107]) (by decide +kernel) rfl) pa_nilD))) (pa_consD rfl (pd_tup (pa_consD rfl (pd_str (s := [98, 97, 99, 107]) (by decide +kernel) rfl) (pa_consD rfl pd_int pa_nilD))) (pa_consD rfl (pd_tup (pa_consD rfl (pd_str (s := [103, 111]) (by decide +kernel) rfl) pa_nilD)) (pa_consD rfl (pd_tup (pa_consD rfl (pd_str (s := [103, 111]) (by decide +kernel) rfl) (pa_consD rfl pd_int (pa_consD rfl pd_int pa_nilD)))) (pa_consD rfl (pd_tup (pa_consD rfl (pd_str (s := [100, 111]) (by decide +kernel) rfl) (pa_consD rfl (pd_str (s := [97]) (by decide +kernel) rfl) (pa_consD rfl (pd_tup pa_nilD) pa_nilD)))) (pa_consD rfl (pd_tup (pa_consD rfl (pd_str (s := [100, 111]) (by decide +kernel) rfl) (pa_consD rfl pd_int pa_nilD))) (pa_consD rfl (pd_tup (pa_consD rfl pd_int pa_nilD)) (pa_consD rfl (pd_tup (pa_consD rfl (pd_str (s := [97, 115, 107]) (by decide +kernel) rfl) (pa_consD rfl (pd_str (s := [97]) (by decide +kernel) rfl) pa_nilD))) (pa_consD rfl (pd_tup (pa_consD rfl (pd_str (s := [97, 115, 107]) (by decide +kernel) rfl) (pa_consD rfl (pd_str (s := [97]) (by decide +kernel) rfl) (pa_consD rfl pd_int pa_nilD)))) pa_nilD))))))))))))))) (gn 6 nd) (qs_one (qs_if (pt_cmpD op_isNotU os_isNot rfl (pd_callC g_is_line hr (by decide) rfl takes_body (by decide) rfl rfl rfl rfl (pr_e rfl (nv 6) (pr_e rfl (nv 3) pr_nil))) (EvE.toP pd_bl)) (qs_one (qs_ret pd_bl)) qs_nil)) (by intro _; rfl))
  (qs_one (qs_ret pd_bl)))))))
end
end LW

namespace LW
open MP L2 PyProof.Rows PySem PySem.Spec
def d_is_integer : He.DefD := ⟨("is_integer", none), "is_integer", "is_integer", defArgs s_is_integer, defBody s_is_integer, defScope s_is_integer, [], []⟩
def d_is_name : He.DefD := ⟨("is_name", none), "is_name", "is_name", defArgs s_is_name, defBody s_is_name, defScope s_is_name, [], []⟩
def d__law_box : He.DefD := ⟨("_law_box", none), "_law_box", "_law_box", defArgs s__law_box, defBody s__law_box, defScope s__law_box, [], []⟩
def d__law_take : He.DefD := ⟨("_law_take", none), "_law_take", "_law_take", defArgs s__law_take, defBody s__law_take, defScope s__law_take, [], []⟩
def d__law_whole : He.DefD := ⟨("_law_whole", none), "_law_whole", "_law_whole", defArgs s__law_whole, defBody s__law_whole, defScope s__law_whole, [], []⟩
def d__law_is_word : He.DefD := ⟨("_law_is_word", none), "_law_is_word", "_law_is_word", defArgs s__law_is_word, defBody s__law_is_word, defScope s__law_is_word, [], []⟩
def d__law_is_due : He.DefD := ⟨("_law_is_due", none), "_law_is_due", "_law_is_due", defArgs s__law_is_due, defBody s__law_is_due, defScope s__law_is_due, [], []⟩
def d_is_number : He.DefD := ⟨("is_number", none), "is_number", "is_number", defArgs s_is_number, defBody s_is_number, defScope s_is_number, [], []⟩
def d_parts_of : He.DefD := ⟨("parts_of", none), "parts_of", "parts_of", defArgs s_parts_of, defBody s_parts_of, defScope s_parts_of, [], []⟩
def d__law_pick : He.DefD := ⟨("_law_pick", none), "_law_pick", "_law_pick", defArgs s__law_pick, defBody s__law_pick, defScope s__law_pick, [], []⟩
def d__law_is_numbers : He.DefD := ⟨("_law_is_numbers", none), "_law_is_numbers", "_law_is_numbers", defArgs s__law_is_numbers, defBody s__law_is_numbers, defScope s__law_is_numbers, [], []⟩
def d__law_target : He.DefD := ⟨("_law_target", none), "_law_target", "_law_target", defArgs s__law_target, defBody s__law_target, defScope s__law_target, [], []⟩
def d__law_odd_line : He.DefD := ⟨("_law_odd_line", none), "_law_odd_line", "_law_odd_line", defArgs s__law_odd_line, defBody s__law_odd_line, defScope s__law_odd_line, [], []⟩
def d_is_below : He.DefD := ⟨("is_below", none), "is_below", "is_below", defArgs s_is_below, defBody s_is_below, defScope s_is_below, [], []⟩
def d_is_word : He.DefD := ⟨("is_word", none), "is_word", "is_word", defArgs s_is_word, defBody s_is_word, defScope s_is_word, [], []⟩
def d__law_word : He.DefD := ⟨("_law_word", none), "_law_word", "_law_word", defArgs s__law_word, defBody s__law_word, defScope s__law_word, [], []⟩
def d__law_raw : He.DefD := ⟨("_law_raw", none), "_law_raw", "_law_raw", defArgs s__law_raw, defBody s__law_raw, defScope s__law_raw, [], []⟩
def d__law_is_line : He.DefD := ⟨("_law_is_line", none), "_law_is_line", "_law_is_line", defArgs s__law_is_line, defBody s__law_is_line, defScope s__law_is_line, [], []⟩
def d_all_below : He.DefD := ⟨("all_below", none), "all_below", "all_below", defArgs s_all_below, defBody s_all_below, defScope s_all_below, [], []⟩
def d__law_pool : He.DefD := ⟨("_law_pool", none), "_law_pool", "_law_pool", defArgs s__law_pool, defBody s__law_pool, defScope s__law_pool, [], []⟩
def d_is_line : He.DefD := ⟨("is_line", none), "is_line", "is_line", defArgs s_is_line, defBody s_is_line, defScope s_is_line, [], []⟩
def d__law_spoilt : He.DefD := ⟨("_law_spoilt", none), "_law_spoilt", "_law_spoilt", defArgs s__law_spoilt, defBody s__law_spoilt, defScope s__law_spoilt, [], []⟩
def d_law : He.DefD := ⟨("law", none), "law", "law", defArgs s_law, defBody s_law, defScope s_law, [], []⟩
def fns : List He.DefD := [d_is_integer, d_is_name, d__law_box, d__law_take, d__law_whole, d__law_is_word, d__law_is_due, d_is_number, d_parts_of, d__law_pick, d__law_is_numbers, d__law_target, d__law_odd_line, d_is_below, d_is_word, d__law_word, d__law_raw, d__law_is_line, d_all_below, d__law_pool, d_is_line, d__law_spoilt, d_law]
def fas : List He.Fa := [.glo "is_integer", .glo "is_name", .glo "_law_box", .glo "_law_take", .glo "_law_whole", .glo "_law_is_word", .glo "_law_is_due", .glo "is_number", .glo "parts_of", .glo "_law_pick", .glo "_law_is_numbers", .glo "_law_target", .glo "_law_odd_line", .glo "is_below", .glo "is_word", .glo "_law_word", .glo "_law_raw", .glo "_law_is_line", .glo "all_below", .glo "_law_pool", .glo "is_line", .glo "_law_spoilt", .glo "law", .free "abs", .free "all", .free "bool", .free "int", .free "isinstance", .free "len", .free "list", .free "min", .free "range", .free "str", .free "tuple", .glo "CELLS", .str "LETTERS" "abcdefghijklmnopqrstuvwxyz", .int "MOST_TARGETS" 4]
def cks : List (PySem.W.Frag → Bool) := [fun K => He.tupB K "CELLS" (l_CELLS.map dvD)]
def loose0 : List PySem.Str := ["is_integer", "is_number", "is_below", "all_below", "LETTERS", "CELLS", "is_name", "parts_of", "is_word", "MOST_TARGETS", "is_line", "_law_box", "_law_take", "_law_pick", "_law_word", "_law_pool", "_law_raw", "_law_whole", "_law_is_numbers", "_law_is_word", "_law_spoilt", "_law_target", "_law_is_line", "_law_odd_line", "_law_is_due"]
def loose : List PySem.Str := loose0
abbrev RR : PySem.W.OpenRow := PySem.W.OpenLaw.row PySem.Challenge.rw_calltrim_k03_lines
abbrev hkk : PySem.W.Hook := hookN 5 fas fns cks
def ob (s : PySem.W.SharedT) : AlM := obsNG 5 fas fns cks (HandSHeadRun.getT s)
theorem ob_eq (s : PySem.W.SharedT) : ob s = hkk.obs s.abs := obsNG_eq (HandSHeadRun.getT_eq s)
theorem run (w : World) : HandSHeadRun.RunEq RR (PySem.W.view RR.prog [29]) hkk ob 1500 loose w := by
  intro os
  kernel_rfl
theorem facts {P : Program} {w : World} {K : PySem.W.Frag} {h : Heap} {mg : Str → Option Value} {f : Addr} (X : K.In h) (G : h.Ns mainGlobals mg) (hfa : mg ("law" : Str) = some (.ref f)) (c : SaysM fas fns cks K) :
    ∃ fd : FuncData, (∀ (s : Shared) (v : Value), BindsTo s fd ⟨[v], []⟩ [("script", v)]) ∧ ∀ base : Heap, FnOk P w K mg base (L2.CX P w) 8 f fd ["script"] (spF (gg K) 1 r_law false F_law) := by
  have bt : Bt mg K := ⟨He.free_ok X G (c.toD.fact 23 (f := .free "abs") rfl), He.free_ok X G (c.toD.fact 24 (f := .free "all") rfl), He.free_ok X G (c.toD.fact 25 (f := .free "bool") rfl), He.free_ok X G (c.toD.fact 26 (f := .free "int") rfl), He.free_ok X G (c.toD.fact 27 (f := .free "isinstance") rfl), He.free_ok X G (c.toD.fact 28 (f := .free "len") rfl), He.free_ok X G (c.toD.fact 29 (f := .free "list") rfl), He.free_ok X G (c.toD.fact 30 (f := .free "min") rfl), He.free_ok X G (c.toD.fact 31 (f := .free "range") rfl), He.free_ok X G (c.toD.fact 32 (f := .free "str") rfl), He.free_ok X G (c.toD.fact 33 (f := .free "tuple") rfl), kc_tup (ds := l_CELLS) X G (c.toD.fact 34 (f := .glo "CELLS") rfl) (c.chk 0 (f := fun K => He.tupB K "CELLS" (l_CELLS.map dvD)) rfl) (by decide +kernel) (by decide +kernel), kc_str (s := [97, 98, 99, 100, 101, 102, 103, 104, 105, 106, 107, 108, 109, 110, 111, 112, 113, 114, 115, 116, 117, 118, 119, 120, 121, 122]) X G (c.toD.fact 35 (f := .str "LETTERS" "abcdefghijklmnopqrstuvwxyz") rfl) (by decide +kernel) (by decide +kernel), kc_int X G (c.toD.fact 36 (f := .int "MOST_TARGETS" 4) rfl)⟩
  have hit : Hit K := ⟨trivial⟩
  obtain ⟨fd_is_integer, fF_is_integer⟩ := c.toD.def_ 0 (d := d_is_integer) rfl
  obtain ⟨fd_is_name, fF_is_name⟩ := c.toD.def_ 1 (d := d_is_name) rfl
  obtain ⟨fd__law_box, fF__law_box⟩ := c.toD.def_ 2 (d := d__law_box) rfl
  obtain ⟨fd__law_take, fF__law_take⟩ := c.toD.def_ 3 (d := d__law_take) rfl
  obtain ⟨fd__law_whole, fF__law_whole⟩ := c.toD.def_ 4 (d := d__law_whole) rfl
  obtain ⟨fd__law_is_word, fF__law_is_word⟩ := c.toD.def_ 5 (d := d__law_is_word) rfl
  obtain ⟨fd__law_is_due, fF__law_is_due⟩ := c.toD.def_ 6 (d := d__law_is_due) rfl
  obtain ⟨fd_is_number, fF_is_number⟩ := c.toD.def_ 7 (d := d_is_number) rfl
  obtain ⟨fd_parts_of, fF_parts_of⟩ := c.toD.def_ 8 (d := d_parts_of) rfl
  obtain ⟨fd__law_pick, fF__law_pick⟩ := c.toD.def_ 9 (d := d__law_pick) rfl
  obtain ⟨fd__law_is_numbers, fF__law_is_numbers⟩ := c.toD.def_ 10 (d := d__law_is_numbers) rfl
  obtain ⟨fd__law_target, fF__law_target⟩ := c.toD.def_ 11 (d := d__law_target) rfl
  obtain ⟨fd__law_odd_line, fF__law_odd_line⟩ := c.toD.def_ 12 (d := d__law_odd_line) rfl
  obtain ⟨fd_is_below, fF_is_below⟩ := c.toD.def_ 13 (d := d_is_below) rfl
  obtain ⟨fd_is_word, fF_is_word⟩ := c.toD.def_ 14 (d := d_is_word) rfl
  obtain ⟨fd__law_word, fF__law_word⟩ := c.toD.def_ 15 (d := d__law_word) rfl
  obtain ⟨fd__law_raw, fF__law_raw⟩ := c.toD.def_ 16 (d := d__law_raw) rfl
  obtain ⟨fd__law_is_line, fF__law_is_line⟩ := c.toD.def_ 17 (d := d__law_is_line) rfl
  obtain ⟨fd_all_below, fF_all_below⟩ := c.toD.def_ 18 (d := d_all_below) rfl
  obtain ⟨fd__law_pool, fF__law_pool⟩ := c.toD.def_ 19 (d := d__law_pool) rfl
  obtain ⟨fd_is_line, fF_is_line⟩ := c.toD.def_ 20 (d := d_is_line) rfl
  obtain ⟨fd__law_spoilt, fF__law_spoilt⟩ := c.toD.def_ 21 (d := d__law_spoilt) rfl
  obtain ⟨fd_law, fF_law⟩ := c.toD.def_ 22 (d := d_law) rfl
  have e := hfa.symm.trans (He.glo_ok X G (c.toD.fact 22 (f := .glo "law") rfl))
  cases e
  have b0 := FunD.bindsA (ps := ["script"]) fF_law fun _ _ _ _ _ _ us hl => match us, hl with | [_], _ => rfl
  refine ⟨fd_law, fun s v => b0 s [v] rfl, fun base => ?_⟩
  have g_is_integer := w_is_integer (P := P) (w := w) (base := base) fF_is_integer (He.glo_ok X G (c.toD.fact 0 (f := .glo "is_integer") rfl)) bt
  have g_is_name := w_is_name (P := P) (w := w) (base := base) fF_is_name (He.glo_ok X G (c.toD.fact 1 (f := .glo "is_name") rfl)) bt
  have g__law_box := w__law_box (P := P) (w := w) (base := base) fF__law_box (He.glo_ok X G (c.toD.fact 2 (f := .glo "_law_box") rfl)) bt
  have g__law_take := w__law_take (P := P) (w := w) (base := base) fF__law_take (He.glo_ok X G (c.toD.fact 3 (f := .glo "_law_take") rfl)) bt
  have g__law_whole := w__law_whole (P := P) (w := w) (base := base) fF__law_whole (He.glo_ok X G (c.toD.fact 4 (f := .glo "_law_whole") rfl)) bt
  have g__law_is_word := w__law_is_word (P := P) (w := w) (base := base) fF__law_is_word (He.glo_ok X G (c.toD.fact 5 (f := .glo "_law_is_word") rfl)) bt
  have g__law_is_due := w__law_is_due (P := P) (w := w) (base := base) fF__law_is_due (He.glo_ok X G (c.toD.fact 6 (f := .glo "_law_is_due") rfl))
  have g_is_number := w_is_number (P := P) (w := w) (base := base) fF_is_number (He.glo_ok X G (c.toD.fact 7 (f := .glo "is_number") rfl)) g_is_integer
  have g_parts_of := w_parts_of (P := P) (w := w) (base := base) fF_parts_of (He.glo_ok X G (c.toD.fact 8 (f := .glo "parts_of") rfl)) bt g_is_name
  have g__law_pick := w__law_pick (P := P) (w := w) (base := base) fF__law_pick (He.glo_ok X G (c.toD.fact 9 (f := .glo "_law_pick") rfl)) bt g__law_take
  have g__law_is_numbers := w__law_is_numbers (P := P) (w := w) (base := base) fF__law_is_numbers (He.glo_ok X G (c.toD.fact 10 (f := .glo "_law_is_numbers") rfl)) bt g__law_whole
  have g__law_target := w__law_target (P := P) (w := w) (base := base) fF__law_target (He.glo_ok X G (c.toD.fact 11 (f := .glo "_law_target") rfl)) bt g__law_take
  have g__law_odd_line := w__law_odd_line (P := P) (w := w) (base := base) fF__law_odd_line (He.glo_ok X G (c.toD.fact 12 (f := .glo "_law_odd_line") rfl)) g__law_take
  have g_is_below := w_is_below (P := P) (w := w) (base := base) fF_is_below (He.glo_ok X G (c.toD.fact 13 (f := .glo "is_below") rfl)) g_is_number
  have g_is_word := w_is_word (P := P) (w := w) (base := base) fF_is_word (He.glo_ok X G (c.toD.fact 14 (f := .glo "is_word") rfl)) g_parts_of
  have g__law_word := w__law_word (P := P) (w := w) (base := base) fF__law_word (He.glo_ok X G (c.toD.fact 15 (f := .glo "_law_word") rfl)) bt g__law_pick g__law_take
  have g__law_raw := w__law_raw (P := P) (w := w) (base := base) fF__law_raw (He.glo_ok X G (c.toD.fact 16 (f := .glo "_law_raw") rfl)) bt g__law_pick g__law_take g__law_target
  have g__law_is_line := w__law_is_line (P := P) (w := w) (base := base) fF__law_is_line (He.glo_ok X G (c.toD.fact 17 (f := .glo "_law_is_line") rfl)) bt g__law_is_numbers g__law_is_word
  have g_all_below := w_all_below (P := P) (w := w) (base := base) fF_all_below (He.glo_ok X G (c.toD.fact 18 (f := .glo "all_below") rfl)) bt g_is_below
  have g__law_pool := w__law_pool (P := P) (w := w) (base := base) fF__law_pool (He.glo_ok X G (c.toD.fact 19 (f := .glo "_law_pool") rfl)) g__law_word
  have g_is_line := w_is_line (P := P) (w := w) (base := base) fF_is_line (He.glo_ok X G (c.toD.fact 20 (f := .glo "is_line") rfl)) bt g_all_below g_is_below g_is_word
  have g__law_spoilt := w__law_spoilt (P := P) (w := w) (base := base) fF__law_spoilt (He.glo_ok X G (c.toD.fact 21 (f := .glo "_law_spoilt") rfl)) bt g__law_pick g__law_take g__law_whole
  exact w_law fF_law bt g__law_box g__law_is_due g__law_is_line g__law_odd_line g__law_pool g__law_raw g__law_spoilt g__law_take g_is_line
end LW
open PySem PySem.W PySem.Calls PyProof.Rows
theorem law_holds (math : ∀ ns : List Int, ns.length ≤ 63 → ∃ outs, LW.F_law [.p (.lst (ns.map MP.D.int))] = .ok (.bl true) outs) : PySem.Challenge.rw_calltrim_k03_lines.Holds := by
  w_on; o_law
  refine HandSHeadRun.head_any (r := OpenLaw.row PySem.Challenge.rw_calltrim_k03_lines) (q := view (OpenLaw.row PySem.Challenge.rw_calltrim_k03_lines).prog [29]) (H := LW.hkk) (ob := LW.ob) (M := 1500) (loose := LW.loose) (d := HandSHeadRun.topDef (OpenLaw.row PySem.Challenge.rw_calltrim_k03_lines).prog 29) (kwd := []) LW.ob_eq
    (by kernel_rfl) (fun s => by kernel_rfl) LW.run (by kernel_rfl) (by kernel_rfl) (by kernel_rfl) (by rfl) (by first | assumption | decide +kernel) (by decide +kernel) ⟨rfl, rfl, rfl, rfl, rfl, by decide +kernel⟩ ?hw ?hc
  case hw => w_witness2
  case hc =>
    refine L2.walk_ofE (l := PySem.Challenge.rw_calltrim_k03_lines) (n := 63) (k := 8) (x := "script") (CX := MP.CXa (PySem.Challenge.rw_calltrim_k03_lines).prog) rfl (by decide) (by kernel_rfl) ⟨rfl, by decide, by decide⟩ ?F (fun H s e s' z => MP.cxa_no H s e s' z)
    intro w mg fa h Y G hmg0
    obtain ⟨K, KX, nl, c⟩ := Y
    have hmg : mg ("law" : PySem.Str) = some (.ref fa) := by
      have e : (HandSHeadRun.topDef (OpenLaw.row PySem.Challenge.rw_calltrim_k03_lines).prog 29).name = ("law" : PySem.Str) := by kernel_rfl
      rw [← e]
      exact hmg0
    obtain ⟨fd, hb, hF⟩ := LW.facts (P := (PySem.Challenge.rw_calltrim_k03_lines).prog) (w := w) KX G hmg c
    exact ⟨K, fd, _, KX, hb, fun H a ns hl _ hS => MP.sp_law rfl (MP.rd_of nl hS) hl (math ns hl), fun base _ _ => MP.anyW (hF base)⟩

namespace LW
open PySem MP
abbrev En := MP.Env
theorem F_is_integer_e (d : D) : F_is_integer [.p d] = (match d with
  | .int _ => .ok (.bl true) [.p d]
  | .ins _ _ => .bad
  | _ => .ok (.bl false) [.p d]) := by
  cases d <;> rfl
def nat? : D → Bool
  | .int i => decide (0 ≤ i)
  | _ => false
def plainD : D → Bool
  | .ins _ _ => false
  | _ => true
theorem F_is_number_e (d : D) (h : plainD d = true) : F_is_number [.p d] = .ok (.bl (nat? d)) [.p d] := by
  cases d <;> first | rfl | (cases h)
def below? (n : Int) : D → Bool
  | .int i => decide (0 ≤ i) && decide (i < n)
  | _ => false
theorem F_is_below_e (d : D) (n : Int) (h : plainD d = true) : F_is_below [.p d, .p (.int n)] = .ok (.bl (below? n d)) [.p d, .p (.int n)] := by
  cases d with
  | int i =>
    by_cases hi : 0 ≤ i
    · have e : F_is_number [.p (.int i)] = .ok (.bl true) [.p (.int i)] := by rw [F_is_number_e _ rfl]; simp [nat?, hi]
      simp [gather, after, back, finR, outsG, isL, runF, truD, blD, MP.strOf, MP.intD, seqOf, ixD, lenD, cmpD, atI_zero, cutL_tail, slF, slD, itD, tupD, lstF, allF, lstD, frz, wipeE, back0, F_is_below, runF, m_is_below, sRet, mAnd, mCall, evArgs, gather, after, e, back, truD, mBinL, cmpD, finR, outsG, r_is_below, isL, below?, hi]
    · have e : F_is_number [.p (.int i)] = .ok (.bl false) [.p (.int i)] := by rw [F_is_number_e _ rfl]; simp [nat?, hi]
      simp [gather, after, back, finR, outsG, isL, runF, truD, blD, MP.strOf, MP.intD, seqOf, ixD, lenD, cmpD, atI_zero, cutL_tail, slF, slD, itD, tupD, lstF, allF, lstD, frz, wipeE, back0, F_is_below, runF, m_is_below, sRet, mAnd, mCall, evArgs, gather, after, e, back, truD, mBinL, cmpD, finR, outsG, r_is_below, isL, below?, hi]
  | _ => first | rfl | (cases h)
def letters : Tx := [97, 98, 99, 100, 101, 102, 103, 104, 105, 106, 107, 108, 109, 110, 111, 112, 113, 114, 115, 116, 117, 118, 119, 120, 121, 122]
def nameT (s : Tx) : Bool := decide (1 ≤ s.length) && (decide (s.length ≤ 4) && s.all fun c => decide (c ∈ letters))
theorem all_id (bs : List Bool) : bs.all id = bs.all fun b => b := rfl
theorem F_is_name_str (s : Tx) : F_is_name [.p (.str s)] = .ok (.bl (nameT s)) [.p (.str s)] := by
  have lc := lc_map (i := 1) (e0 := [some (.p (.str s)), none]) rfl (elt := mBinL inD 1 (mC c_LETTERS)) (f := fun d => match d with
    | .str [c] => .bl (decide (c ∈ letters))
    | _ => .non) (ds := s.map fun c => .str [c]) fun d hd => by
      obtain ⟨c, _, rfl⟩ := List.mem_map.mp hd
      rfl
  have e1 : (s.map fun c => D.str [c]).map (fun d => match d with
    | .str [c] => D.bl (decide (c ∈ letters))
    | _ => .non) = (s.map fun c => decide (c ∈ letters)).map D.bl := by
    rw [List.map_map, List.map_map]; rfl
  rw [e1] at lc
  have g1 : decide ((1 : Int) ≤ (s.length : Int)) = decide (1 ≤ s.length) := by
    by_cases h : 1 ≤ s.length
    · rw [decide_eq_true h, decide_eq_true (by omega)]
    · rw [decide_eq_false h, decide_eq_false (by omega)]
  have g2 : decide ((s.length : Int) ≤ (4 : Int)) = decide (s.length ≤ 4) := by
    by_cases h : s.length ≤ 4
    · rw [decide_eq_true h, decide_eq_true (by omega)]
    · rw [decide_eq_false h, decide_eq_false (by omega)]
  by_cases h1 : 1 ≤ s.length
  · by_cases hz : s.length ≤ 4
    · have h2 : s.length ≤ 1000000 := by omega
      simp [gather, after, back, finR, outsG, isL, runF, truD, blD, MP.strOf, MP.intD, seqOf, ixD, lenD, cmpD, atI_zero, cutL_tail, slF, slD, itD, tupD, lstF, allF, lstD, frz, wipeE, back0, F_is_name, m_is_name, mChain, cmpD, lenD, blD, truD, g1, g2, mFE, mLc, mIter, itD, h2, frz, wipeE, lc, back0, allF, finR, outsG, r_is_name, isL, nameT, h1, hz]
    · simp [gather, after, back, finR, outsG, isL, runF, truD, blD, MP.strOf, MP.intD, seqOf, ixD, lenD, cmpD, atI_zero, cutL_tail, slF, slD, itD, tupD, lstF, allF, lstD, frz, wipeE, back0, F_is_name, m_is_name, mChain, cmpD, lenD, blD, truD, g1, g2, finR, outsG, r_is_name, isL, nameT, h1, hz]
  · simp [gather, after, back, finR, outsG, isL, runF, truD, blD, MP.strOf, MP.intD, seqOf, ixD, lenD, cmpD, atI_zero, cutL_tail, slF, slD, itD, tupD, lstF, allF, lstD, frz, wipeE, back0, F_is_name, m_is_name, mChain, cmpD, lenD, blD, truD, g1, g2, finR, outsG, r_is_name, isL, nameT, h1]
theorem F_is_name_no (d : D) (h : ∀ s, d ≠ .str s) (hp : plainD d = true) : F_is_name [.p d] = .ok (.bl false) [.p d] := by
  cases d <;> first | rfl | exact absurd rfl (h _) | (cases hp)
def isName (d : D) : Bool := match d with
  | .str s => nameT s
  | _ => false
theorem F_is_name_e (d : D) (hp : plainD d = true) : F_is_name [.p d] = .ok (.bl (isName d)) [.p d] := by
  cases d <;> first | exact F_is_name_str _ | exact F_is_name_no _ (by intro _ h; cases h) hp | (cases hp)

/-! ### the texts of cells -/
def cells : List Tx := [[48], [49], [50], [51], [52], [53], [54], [55], [56], [57], [49, 48], [49, 49], [49, 50], [49, 51], [49, 52], [49, 53]]
theorem cells_D : l_CELLS = cells.map D.str := rfl
theorem eqv_strs (t : Tx) : ∀ ts : List Tx, anyEq (.str t) (ts.map D.str) = decide (t ∈ ts)
  | [] => rfl
  | x :: r => by
    have ih := eqv_strs t r
    unfold anyEq at ih ⊢
    rw [List.map_cons, List.any_cons, ih]
    by_cases h : x = t
    · subst h
      simp [eqvD]
    · have h2 : ¬ t = x := fun z => h z.symm
      simp [eqvD, h, h2]
theorem lays_strs : ∀ ts : List Tx, lays 60 (ts.map D.str) = true
  | [] => rfl
  | x :: r => by
    show (true && lays 60 (r.map D.str)) = true
    rw [lays_strs r]; rfl
theorem in_cells (t : Tx) : inD (.str t) c_CELLS = some (.bl (decide (t ∈ cells))) := by
  have h : inB (.str t) (.tup (cells.map D.str)) = some (decide (t ∈ cells)) := by
    show (if lay 60 (.str t) = true ∧ lays 60 (cells.map D.str) = true then some (anyEq (.str t) (cells.map D.str)) else none) = _
    rw [if_pos ⟨rfl, lays_strs _⟩, eqv_strs]
  show (inB (.str t) (.tup (cells.map D.str))).map D.bl = _
  rw [h]; rfl
/-- a cell's number -/
def num (t : Tx) : Int := match PySem.intText? ⟨t.toArray⟩ with
  | some n => n
  | none => 0
theorem int_cell {t : Tx} (h : t ∈ cells) : intF (.str t) = some (.int (num t)) ∧ digs (num t) = t ∧ 0 ≤ num t ∧ num t < 16 := by
  have key : cells.all (fun t => decide (t.length ≤ 640) && ((PySem.intText? ⟨t.toArray⟩).isSome && (decide (digs (num t) = t) && (decide (0 ≤ num t) && decide (num t < 16))))) = true := by decide +kernel
  have k := List.all_eq_true.mp key t h
  simp only [Bool.and_eq_true, decide_eq_true_eq] at k
  obtain ⟨k1, k2, k3, k4, k5⟩ := k
  refine ⟨?_, k3, k4, k5⟩
  show (if t.length ≤ 640 then (PySem.intText? ⟨t.toArray⟩).map D.int else none) = _
  rw [if_pos k1]
  unfold num
  cases e : PySem.intText? ⟨t.toArray⟩ with
  | none => rw [e] at k2; cases k2
  | some n => rfl

theorem lc_in {e0 : En} (h0 : e0.set 5 none = e0) (hl : 5 < e0.length) (ts us : List Tx) : lcD [5] (.nm 5) mYes (mBinL inD 5 (mC c_CELLS)) (ts.map D.str ++ us.map D.str) e0 = .ok ((ts ++ us).map fun t => .bl (decide (t ∈ cells))) e0 := by
  have h := lc_map (i := 5) h0 (elt := mBinL inD 5 (mC c_CELLS)) (f := fun d => match d with
    | .str t => .bl (decide (t ∈ cells))
    | _ => .non) (ds := (ts ++ us).map D.str) fun d hd => by
      obtain ⟨t, _, rfl⟩ := List.mem_map.mp hd
      exact binL_set hl (in_cells t)
  rw [List.map_append] at h
  rw [h]
  congr 1
  rw [← List.map_append, List.map_map]
  rfl
theorem lc_int {e0 : En} {i : Nat} (h0 : e0.set i none = e0) (hl : i < e0.length) (ts : List Tx) (hc : ∀ t ∈ ts, t ∈ cells) : lcD [i] (.nm i) mYes (mUn intF (mPeek i)) (ts.map D.str) e0 = .ok (ts.map fun t => .int (num t)) e0 := by
  have h := lc_map (i := i) h0 (elt := mUn intF (mPeek i)) (f := fun d => match d with
    | .str t => .int (num t)
    | _ => .non) (ds := ts.map D.str) fun d hd => by
      obtain ⟨t, ht, rfl⟩ := List.mem_map.mp hd
      exact un_set hl (int_cell (hc t ht)).1
  rw [h]
  congr 1
  rw [List.map_map]
  rfl
/-- what a word's pieces must be -/
def okW (f0 : Tx) (rs ws : List Tx) : Bool := nameT f0 && (decide (rs.length ≤ 3) && (decide (ws.length ≤ 1) && (rs ++ ws).all fun t => decide (t ∈ cells)))
def prt (f0 : Tx) (rs ws : List Tx) : D := .tup [.str f0, .tup (rs.map fun t => .int (num t)), .tup (ws.map fun t => .int (num t))]
theorem F_parts_of_str {t h0 f0 : Tx} {ws rs : List Tx} (hz : t.length ≤ 900000) (e1 : TL.spl [62] 0 [] t = h0 :: ws) (e2 : TL.spl [46] 0 [] h0 = f0 :: rs) : F_parts_of [.p (.str t)] = .ok (if okW f0 rs ws = true then prt f0 rs ws else .non) [.p (.str t)] := by
  have z0 : h0.length ≤ t.length := spl_le (by rw [e1]; exact List.mem_cons_self)
  have zr : rs.length ≤ h0.length := spl_many e2
  have zw : ws.length ≤ t.length := spl_many e1
  have s1 : splitF t (.str [62]) = some (.str h0 :: ws.map .str) := by rw [splitF_e (by omega) (by decide), e1]; rfl
  have s2 : splitF h0 (.str [46]) = some (.str f0 :: rs.map .str) := by rw [splitF_e (by omega) (by decide), e2]; rfl
  have g1 : decide ((3 : Int) < (rs.length : Int)) = !decide (rs.length ≤ 3) := by
    by_cases h : rs.length ≤ 3
    · rw [decide_eq_true h, decide_eq_false (by omega)]; rfl
    · rw [decide_eq_false h, decide_eq_true (by omega)]; rfl
  have g2 : decide ((1 : Int) < (ws.length : Int)) = !decide (ws.length ≤ 1) := by
    by_cases h : ws.length ≤ 1
    · rw [decide_eq_true h, decide_eq_false (by omega)]; rfl
    · rw [decide_eq_false h, decide_eq_true (by omega)]; rfl
  cases hn : nameT f0 with
  | false => simp [gather, after, back, finR, outsG, isL, runF, truD, blD, MP.strOf, MP.intD, seqOf, ixD, lenD, cmpD, atI_zero, cutL_tail, slF, slD, itD, tupD, lstF, allF, lstD, frz, wipeE, back0, F_parts_of, m_parts_of, s1, s2, F_is_name_str, hn, r_parts_of, okW]
  | true =>
    by_cases hr : rs.length ≤ 3
    · by_cases hw : ws.length ≤ 1
      · have hcat : rs.length + ws.length ≤ 1000000 := by omega
        have hr9 : rs.length ≤ 1000000 := by omega
        have hw9 : ws.length ≤ 1000000 := by omega
        have lc : ∀ (a b c d e : Option Val), lcD [5] (.nm 5) mYes (mBinL inD 5 (mC c_CELLS)) (rs.map D.str ++ ws.map D.str) [a, b, c, d, e, none] = .ok ((rs ++ ws).map fun t => .bl (decide (t ∈ cells))) [a, b, c, d, e, none] := fun a b c d e => lc_in rfl (by simp) rs ws
        have hb : blsOf (rs.map (fun t => D.bl (decide (t ∈ cells))) ++ ws.map fun t => D.bl (decide (t ∈ cells))) = some ((rs ++ ws).map fun t => decide (t ∈ cells)) := by
          rw [← List.map_append]; exact bls_fun _ _
        have hai : ((rs ++ ws).map fun t => decide (t ∈ cells)).all id = ((rs.all fun t => decide (t ∈ cells)) && ws.all fun t => decide (t ∈ cells)) := by rw [all_id', List.all_append]
        rw [List.map_append] at hai hb
        cases ha : (rs ++ ws).all fun t => decide (t ∈ cells) with
        | false =>
          have ha2 := ha
          simp only [List.all_append] at ha2
          simp [gather, after, back, finR, outsG, isL, runF, truD, blD, MP.strOf, MP.intD, seqOf, ixD, lenD, cmpD, atI_zero, cutL_tail, slF, slD, itD, tupD, lstF, allF, lstD, frz, wipeE, back0, F_parts_of, m_parts_of, s1, s2, F_is_name_str, hn, r_parts_of, okW, g1, g2, hr, hw, catD, hcat, lc, hb, hai, ha2]
        | true =>
          have ha2 := ha
          simp only [List.all_append] at ha2
          have h1 : ∀ t ∈ rs, t ∈ cells := fun t ht => by
            have := List.all_eq_true.mp ha t (List.mem_append_left _ ht)
            simpa using this
          have h2 : ∀ t ∈ ws, t ∈ cells := fun t ht => by
            have := List.all_eq_true.mp ha t (List.mem_append_right _ ht)
            simpa using this
          have li1 : ∀ (a b c d e : Option Val), lcD [5] (.nm 5) mYes (mUn intF (mPeek 5)) (rs.map D.str) [a, b, c, d, e, none] = .ok (rs.map fun t => .int (num t)) [a, b, c, d, e, none] := fun a b c d e => lc_int rfl (by simp) rs h1
          have li2 : ∀ (a b c d e : Option Val), lcD [5] (.nm 5) mYes (mUn intF (mPeek 5)) (ws.map D.str) [a, b, c, d, e, none] = .ok (ws.map fun t => .int (num t)) [a, b, c, d, e, none] := fun a b c d e => lc_int rfl (by simp) ws h2
          simp [gather, after, back, finR, outsG, isL, runF, truD, blD, MP.strOf, MP.intD, seqOf, ixD, lenD, cmpD, atI_zero, cutL_tail, slF, slD, itD, tupD, lstF, allF, lstD, frz, wipeE, back0, F_parts_of, m_parts_of, s1, s2, F_is_name_str, hn, r_parts_of, okW, g1, g2, hr, hw, catD, hcat, lc, hb, hai, ha2, hr9, hw9, li1, li2, prt]
      · simp [gather, after, back, finR, outsG, isL, runF, truD, blD, MP.strOf, MP.intD, seqOf, ixD, lenD, cmpD, atI_zero, cutL_tail, slF, slD, itD, tupD, lstF, allF, lstD, frz, wipeE, back0, F_parts_of, m_parts_of, s1, s2, F_is_name_str, hn, r_parts_of, okW, g1, g2, hr, hw]
    · simp [gather, after, back, finR, outsG, isL, runF, truD, blD, MP.strOf, MP.intD, seqOf, ixD, lenD, cmpD, atI_zero, cutL_tail, slF, slD, itD, tupD, lstF, allF, lstD, frz, wipeE, back0, F_parts_of, m_parts_of, s1, s2, F_is_name_str, hn, r_parts_of, okW, g1, g2, hr]
end LW

namespace LW
open PySem MP
def ivw : Tx := [73, 110, 118, 97, 108, 105, 100, 87, 111, 114, 100]
/-- how a text falls into a word's pieces -/
structure Cut (t f0 : Tx) (rs ws : List Tx) : Prop where
  len : t.length ≤ 900000
  cut : ∃ h0, TL.spl [62] 0 [] t = h0 :: ws ∧ TL.spl [46] 0 [] h0 = f0 :: rs
theorem cut_of {t : Tx} (h : t.length ≤ 900000) : ∃ f0 rs ws, Cut t f0 rs ws := by
  obtain ⟨h0, ws, e1⟩ := spl_cons [62] t
  obtain ⟨f0, rs, e2⟩ := spl_cons [46] h0
  exact ⟨f0, rs, ws, h, h0, e1, e2⟩
section
variable {t f0 : Tx} {rs ws : List Tx}
theorem parts_e (c : Cut t f0 rs ws) : F_parts_of [.p (.str t)] = .ok (if okW f0 rs ws = true then prt f0 rs ws else .non) [.p (.str t)] := by
  obtain ⟨h0, e1, e2⟩ := c.cut
  exact F_parts_of_str c.len e1 e2
theorem is_word_e (c : Cut t f0 rs ws) : F_is_word [.p (.str t)] = .ok (.bl (okW f0 rs ws)) [.p (.str t)] := by
  cases h : okW f0 rs ws <;> simp [gather, after, back, finR, outsG, isL, runF, truD, blD, MP.strOf, MP.intD, seqOf, ixD, lenD, cmpD, atI_zero, cutL_tail, slF, slD, itD, tupD, lstF, allF, lstD, frz, wipeE, back0, F_is_word, m_is_word, parts_e c, h, r_is_word, isNotD, isNonD, prt]
theorem is_word_no (d : D) (h : ∀ s, d ≠ .str s) (hp : plainD d = true) : F_is_word [.p d] = .ok (.bl false) [.p d] := by
  cases d <;> first | rfl | exact absurd rfl (h _) | (cases hp)
theorem eqv_str (s : Tx) : eqvD (.str s) (.str s) = true := by simp [eqvD]

/-! ### the law's own reckoning -/
theorem due_e (a b : Bool) : F__law_is_due [.p (.bl a), .p (.bl b)] = .ok (.bl (a == b)) [.p (.bl a), .p (.bl b)] := by
  cases a <;> cases b <;> rfl
theorem whole_e (i : Int) : F__law_whole [.p (.int i)] = .ok (.bl true) [.p (.int i)] := rfl
theorem rng16 : ((List.range 16).map fun (i : Nat) => D.int (0 + (i : Int))) = ([0, 1, 2, 3, 4, 5, 6, 7, 8, 9, 10, 11, 12, 13, 14, 15] : List Int).map D.int := rfl
theorem str16 : ([0, 1, 2, 3, 4, 5, 6, 7, 8, 9, 10, 11, 12, 13, 14, 15] : List Int).map digs = cells := by decide +kernel
theorem lc_str {e0 : En} {i : Nat} (h0 : e0.set i none = e0) (hl : i < e0.length) : lcD [i] (.nm i) mYes (mUn strF (mPeek i)) (rng 0 16) e0 = .ok (cells.map D.str) e0 := by
  have h := lc_map (i := i) h0 (elt := mUn strF (mPeek i)) (f := fun d => match d with
    | .int n => .str (digs n)
    | _ => .non) (ds := rng 0 16) fun d hd => by
      have hd2 : d ∈ ([0, 1, 2, 3, 4, 5, 6, 7, 8, 9, 10, 11, 12, 13, 14, 15] : List Int).map D.int := by rw [← rng16]; exact hd
      obtain ⟨n, hn, rfl⟩ := List.mem_map.mp hd2
      refine un_set hl ?_
      show (if n.natAbs.log2 < 1920 then some (D.str (digs n)) else none) = _
      rw [if_pos]
      have k : ([0, 1, 2, 3, 4, 5, 6, 7, 8, 9, 10, 11, 12, 13, 14, 15] : List Int).all (fun n => decide (n.natAbs.log2 < 1920)) = true := by decide +kernel
      simpa using List.all_eq_true.mp k n hn
  rw [h]
  rw [← str16]
  show R.ok (((List.range 16).map fun (i : Nat) => D.int (0 + (i : Int))).map _) _ = _
  rw [rng16, List.map_map, List.map_map]
  first | done | rfl

theorem lc_str' (a b c d e : Option Val) : lcD [5] (.nm 5) mYes (mUn strF (mPeek 5)) (rng 0 16) [a, b, c, d, e, none] = .ok (cells.map D.str) [a, b, c, d, e, none] := lc_str rfl (by simp)
theorem rng_16 : rngD1 [.int 16] = some (rng 0 16) := rfl
theorem rng_len : (rng 0 16).length = 16 := by simp [rng]
/-- [cell for cell in .. if cell not in the sixteen texts] -/
theorem lc_odd (a b c d : Option Val) (ts us : List Tx) : lcD [4] (.nm 4) (mTest (mBinL notInD 4 (mFE (mLc [5] (mArgs rngD1 (mCons (mC (.int 16)) mNil)) (.nm 5) mYes (mUn strF (mPeek 5)))))) (mVar 4) (ts.map D.str ++ us.map D.str) [a, b, c, d, none, none] =
    .ok (((ts ++ us).filter fun t => !decide (t ∈ cells)).map D.str) [a, b, c, d, none, none] := by
  have h := lc_run (i := 4) (e0 := [a, b, c, d, none, none]) rfl (tst := mTest (mBinL notInD 4 (mFE (mLc [5] (mArgs rngD1 (mCons (mC (.int 16)) mNil)) (.nm 5) mYes (mUn strF (mPeek 5)))))) (elt := mVar 4) (p := fun d => match d with
    | .str t => !decide (t ∈ cells)
    | _ => false) (f := fun d => d) (ds := (ts ++ us).map D.str) (fun d hd => by
      obtain ⟨t, _, rfl⟩ := List.mem_map.mp hd
      have hin : notInD (.str t) (.lst (cells.map D.str)) = some (.bl (!decide (t ∈ cells))) := by
        have h : inB (.str t) (.lst (cells.map D.str)) = some (decide (t ∈ cells)) := by
          show (if lay 60 (.str t) = true ∧ lays 60 (cells.map D.str) = true then some (anyEq (.str t) (cells.map D.str)) else none) = _
          rw [if_pos ⟨rfl, lays_strs _⟩, eqv_strs]
        show (inB (.str t) (.lst (cells.map D.str))).map (fun b => D.bl (!b)) = _
        rw [h]; rfl
      simp [gather, after, back, finR, outsG, isL, runF, truD, blD, MP.strOf, MP.intD, seqOf, ixD, lenD, cmpD, atI_zero, cutL_tail, slF, slD, itD, tupD, lstF, allF, lstD, frz, wipeE, back0, rng_16, rng_len, lc_str', hin]) (fun d hd _ => by
      obtain ⟨t, _, rfl⟩ := List.mem_map.mp hd
      simp)
  rw [List.map_append] at h
  rw [h]
  congr 1
  rw [← List.map_append, List.map_id'' (fun _ => rfl), List.filter_map]
  rfl
theorem lc_sign (a b c : Option Val) (s : Tx) : lcD [3] (.nm 3) (mTest (mBinL notInD 3 (mC (.str letters)))) (mVar 3) (s.map fun c => .str [c]) [a, b, c, none, none, none] =
    .ok ((s.filter fun c => !decide (c ∈ letters)).map fun c => .str [c]) [a, b, c, none, none, none] := by
  have h := lc_run (i := 3) (e0 := [a, b, c, none, none, none]) rfl (tst := mTest (mBinL notInD 3 (mC (.str letters)))) (elt := mVar 3) (p := fun d => match d with
    | .str [c] => !decide (c ∈ letters)
    | _ => false) (f := fun d => d) (ds := s.map fun c => .str [c]) (fun d hd => by
      obtain ⟨t, _, rfl⟩ := List.mem_map.mp hd
      simp [gather, after, back, finR, outsG, isL, runF, truD, blD, MP.strOf, MP.intD, seqOf, ixD, lenD, cmpD, atI_zero, cutL_tail, slF, slD, itD, tupD, lstF, allF, lstD, frz, wipeE, back0, notInD, inB]) (fun d hd _ => by
      obtain ⟨t, _, rfl⟩ := List.mem_map.mp hd
      simp)
  rw [h]
  congr 1
  rw [List.map_id'' (fun _ => rfl), List.filter_map]
  rfl
theorem eqvs_nil (ts : List Tx) : eqvDs (ts.map D.str) [] = ts.isEmpty := by cases ts <;> rfl
theorem eqvs_nil2 (ts : Tx) : eqvDs (ts.map fun c => D.str [c]) [] = ts.isEmpty := by cases ts <;> rfl
theorem lays_sg : ∀ ts : Tx, lays 59 (ts.map fun c => D.str [c]) = true
  | [] => rfl
  | x :: r => by
    show (true && lays 59 (r.map fun c => D.str [c])) = true
    rw [lays_sg r]; rfl
theorem lays_s9 : ∀ ts : List Tx, lays 59 (ts.map D.str) = true
  | [] => rfl
  | x :: r => by
    show (true && lays 59 (r.map D.str)) = true
    rw [lays_s9 r]; rfl
theorem filter_empty {α : Type} (p : α → Bool) (xs : List α) : (xs.filter fun x => !p x).isEmpty = xs.all p := by
  induction xs with
  | nil => rfl
  | cons x xs ih =>
    cases h : p x with
    | true => rw [List.filter_cons_of_neg (by simp [h]), List.all_cons, h, ih]; rfl
    | false => rw [List.filter_cons_of_pos (by simp [h]), List.all_cons, h]; rfl

theorem lay_lst {xs : List D} (h : lays 59 xs = true) : lay 60 (.lst xs) = true := h
theorem law_is_word_e (c : Cut t f0 rs ws) : F__law_is_word [.p (.str t)] = .ok (.bl (okW f0 rs ws)) [.p (.str t)] := by
  obtain ⟨h0, e1, e2⟩ := c.cut
  have hz := c.len
  have z0 : h0.length ≤ t.length := spl_le (by rw [e1]; exact List.mem_cons_self)
  have zf : f0.length ≤ h0.length := spl_le (by rw [e2]; exact List.mem_cons_self)
  have zr : rs.length ≤ h0.length := spl_many e2
  have zw : ws.length ≤ t.length := spl_many e1
  have s1 : splitF t (.str [62]) = some (.str h0 :: ws.map .str) := by rw [splitF_e (by omega) (by decide), e1]; rfl
  have s2 : splitF h0 (.str [46]) = some (.str f0 :: rs.map .str) := by rw [splitF_e (by omega) (by decide), e2]; rfl
  have g1 : decide ((2 : Int) < (ws.length : Int) + 1) = !decide (ws.length ≤ 1) := by
    by_cases h : ws.length ≤ 1
    · rw [decide_eq_true h, decide_eq_false (by omega)]; rfl
    · rw [decide_eq_false h, decide_eq_true (by omega)]; rfl
  have g2 : decide ((4 : Int) < (rs.length : Int) + 1) = !decide (rs.length ≤ 3) := by
    by_cases h : rs.length ≤ 3
    · rw [decide_eq_true h, decide_eq_false (by omega)]; rfl
    · rw [decide_eq_false h, decide_eq_true (by omega)]; rfl
  have g3 : decide ((f0.length : Int) < 1) = !decide (1 ≤ f0.length) := by
    by_cases h : 1 ≤ f0.length
    · rw [decide_eq_true h, decide_eq_false (by omega)]; rfl
    · rw [decide_eq_false h, decide_eq_true (by omega)]; rfl
  have g4 : decide ((4 : Int) < (f0.length : Int)) = !decide (f0.length ≤ 4) := by
    by_cases h : f0.length ≤ 4
    · rw [decide_eq_true h, decide_eq_false (by omega)]; rfl
    · rw [decide_eq_false h, decide_eq_true (by omega)]; rfl
  have hf9 : f0.length ≤ 1000000 := by omega
  by_cases hw : ws.length ≤ 1
  · by_cases hr : rs.length ≤ 3
    · by_cases h1 : 1 ≤ f0.length
      · by_cases h4 : f0.length ≤ 4
        · have hcat : rs.length + ws.length ≤ 1000000 := by omega
          have ls : ∀ a b c, lcD [3] (.nm 3) (mTest (mBinL notInD 3 (mC (.str [97, 98, 99, 100, 101, 102, 103, 104, 105, 106, 107, 108, 109, 110, 111, 112, 113, 114, 115, 116, 117, 118, 119, 120, 121, 122])))) (mVar 3) (f0.map fun c => .str [c]) [a, b, c, none, none, none] = .ok ((f0.filter fun c => !decide (c ∈ letters)).map fun c => .str [c]) [a, b, c, none, none, none] := fun a b c => lc_sign a b c f0
          have lo := fun a b c d => lc_odd a b c d rs ws
          have n1 : neD (.lst ((f0.filter fun c => !decide (c ∈ letters)).map fun c => .str [c])) (.lst []) = some (.bl (!f0.all fun c => decide (c ∈ letters))) := by
            unfold neD
            rw [if_pos ⟨lay_lst (lays_sg _), rfl⟩]
            show some (D.bl (!eqvDs _ [])) = _
            rw [eqvs_nil2, filter_empty]
          have n2 : eqD (.lst (((rs ++ ws).filter fun t => !decide (t ∈ cells)).map D.str)) (.lst []) = some (.bl ((rs ++ ws).all fun t => decide (t ∈ cells))) := by
            unfold eqD
            rw [if_pos ⟨lay_lst (lays_s9 _), rfl⟩]
            show some (D.bl (eqvDs _ [])) = _
            rw [eqvs_nil, filter_empty]
          rw [List.filter_append, List.map_append, List.all_append] at n2
          cases ha : f0.all fun c => decide (c ∈ letters) with
          | false => 
            simp [gather, after, back, finR, outsG, isL, runF, truD, blD, MP.strOf, MP.intD, seqOf, ixD, lenD, cmpD, atI_zero, cutL_tail, slF, slD, itD, tupD, lstF, allF, lstD, frz, wipeE, back0, F__law_is_word, m__law_is_word, s1, s2, g1, g2, g3, g4, hw, hr, h1, h4, ls, n1, ha, okW, nameT, r__law_is_word, hf9]
          | true =>
            simp [gather, after, back, finR, outsG, isL, runF, truD, blD, MP.strOf, MP.intD, seqOf, ixD, lenD, cmpD, atI_zero, cutL_tail, slF, slD, itD, tupD, lstF, allF, lstD, frz, wipeE, back0, F__law_is_word, m__law_is_word, s1, s2, g1, g2, g3, g4, hw, hr, h1, h4, ls, n1, ha, okW, nameT, r__law_is_word, hf9, catD, hcat, lo, n2]
        · simp [gather, after, back, finR, outsG, isL, runF, truD, blD, MP.strOf, MP.intD, seqOf, ixD, lenD, cmpD, atI_zero, cutL_tail, slF, slD, itD, tupD, lstF, allF, lstD, frz, wipeE, back0, F__law_is_word, m__law_is_word, s1, s2, g1, g2, g3, g4, hw, hr, h1, h4, okW, nameT, r__law_is_word]
      · simp [gather, after, back, finR, outsG, isL, runF, truD, blD, MP.strOf, MP.intD, seqOf, ixD, lenD, cmpD, atI_zero, cutL_tail, slF, slD, itD, tupD, lstF, allF, lstD, frz, wipeE, back0, F__law_is_word, m__law_is_word, s1, s2, g1, g2, g3, g4, hw, hr, h1, okW, nameT, r__law_is_word]
    · simp [gather, after, back, finR, outsG, isL, runF, truD, blD, MP.strOf, MP.intD, seqOf, ixD, lenD, cmpD, atI_zero, cutL_tail, slF, slD, itD, tupD, lstF, allF, lstD, frz, wipeE, back0, F__law_is_word, m__law_is_word, s1, s2, g1, g2, hw, hr, okW, r__law_is_word]
  · simp [gather, after, back, finR, outsG, isL, runF, truD, blD, MP.strOf, MP.intD, seqOf, ixD, lenD, cmpD, atI_zero, cutL_tail, slF, slD, itD, tupD, lstF, allF, lstD, frz, wipeE, back0, F__law_is_word, m__law_is_word, s1, s2, g1, hw, okW, r__law_is_word]
end
end LW

namespace LW
open PySem MP
section
variable {t f0 : Tx} {rs ws : List Tx}
theorem okW_parts (h : okW f0 rs ws = true) : nameT f0 = true ∧ rs.length ≤ 3 ∧ ws.length ≤ 1 ∧ (∀ t ∈ rs, t ∈ cells) ∧ ∀ t ∈ ws, t ∈ cells := by
  simp [okW] at h
  obtain ⟨h1, h2, h3, h4, h5⟩ := h
  exact ⟨h1, h2, h3, h4, h5⟩
/-! ### word_of -/
def allB (n : Int) : D → Bool
  | .tup xs => xs.all (below? n)
  | _ => false
def flatD : D → Bool
  | .tup xs => xs.all plainD && decide (xs.length ≤ 1000)
  | .lst xs => xs.all plainD && decide (xs.length ≤ 1000)
  | .ins _ _ => false
  | _ => true
theorem all_below_e {d : D} {n : Int} (h : flatD d = true) : F_all_below [.p d, .p (.int n)] = .ok (.bl (allB n d)) [.p d, .p (.int n)] := by
  cases d with
  | tup xs =>
    simp only [flatD, Bool.and_eq_true, decide_eq_true_eq] at h
    have hl : xs.length ≤ 1000000 := by omega
    have lc := lc_map (i := 2) (e0 := [some (.p (.tup xs)), some (.p (.int n)), none]) rfl (elt := mCall F_is_below [.e (mVar 2), .e (mVar 1)]) (f := fun d => .bl (below? n d)) (ds := xs) fun d hd => by
      have hp : plainD d = true := List.all_eq_true.mp h.1 d hd
      simp [gather, after, back, finR, outsG, isL, runF, truD, blD, MP.strOf, MP.intD, seqOf, ixD, lenD, cmpD, atI_zero, cutL_tail, slF, slD, itD, tupD, lstF, allF, lstD, frz, wipeE, back0, F_is_below_e d n hp]
    simp [gather, after, back, finR, outsG, isL, runF, truD, blD, MP.strOf, MP.intD, seqOf, ixD, lenD, cmpD, atI_zero, cutL_tail, slF, slD, itD, tupD, lstF, allF, lstD, frz, wipeE, back0, F_all_below, m_all_below, hl, lc, allB, r_all_below]
  | ins _ _ => cases h
  | _ => rfl
end
end LW

namespace LW
open PySem MP
theorem join_spl (c : Nat) : ∀ (l acc : List Nat), TL.joinL [c] (TL.spl [c] 0 acc l) = acc ++ l
  | [], acc => by rw [TL.spl_nil]; simp [TL.joinL]
  | x :: r, acc => by
    show TL.joinL [c] (if TL.pre [c] (x :: r) = true then acc :: TL.spl [c] 0 [] r else TL.spl [c] 0 (acc ++ [x]) r) = _
    have hp : TL.pre [c] (x :: r) = (x == c) := by
      show ([x] == [c]) = _
      by_cases h : x = c
      · subst h; simp
      · have h2 : ¬ [x] = [c] := fun z => h (by simpa using z)
        rw [beq_eq_false_iff_ne.mpr h2, beq_eq_false_iff_ne.mpr h]
    rw [hp]
    by_cases h : x = c
    · subst h
      rw [if_pos (by simp)]
      have ih := join_spl x r []
      obtain ⟨h0, t0, e⟩ := spl_cons [x] r
      rw [e] at ih ⊢
      show acc ++ ([x] ++ TL.joinL [x] (h0 :: t0)) = _
      rw [ih]; rfl
    · rw [if_neg (by simpa using h), join_spl c r (acc ++ [x])]
      simp
theorem joinL_flat (c : Nat) : ∀ (f : Tx) (rs : List Tx), TL.joinL [c] (f :: rs) = f ++ (rs.map (c :: ·)).flatten
  | f, [] => by simp [TL.joinL]
  | f, r :: rs => by
    show f ++ ([c] ++ TL.joinL [c] (r :: rs)) = _
    rw [joinL_flat c r rs]
    simp
theorem joinL_nil : ∀ ts : List Tx, TL.joinL [] ts = ts.flatten
  | [] => rfl
  | [p] => by simp [TL.joinL]
  | p :: q :: r => by
    show p ++ ([] ++ TL.joinL [] (q :: r)) = _
    rw [joinL_nil (q :: r)]
    simp
section
variable {t f0 : Tx} {rs ws : List Tx}
theorem cut_join (c : Cut t f0 rs ws) : t = f0 ++ (rs.map (46 :: ·)).flatten ++ (ws.map (62 :: ·)).flatten := by
  obtain ⟨h0, e1, e2⟩ := c.cut
  have j1 := join_spl 62 t []
  have j2 := join_spl 46 h0 []
  rw [e1, joinL_flat] at j1
  rw [e2, joinL_flat] at j2
  simp only [List.nil_append] at j1 j2
  rw [← j1, ← j2]
theorem cell_len {t : Tx} (h : t ∈ cells) : t.length ≤ 2 := by
  have k : cells.all (fun t => decide (t.length ≤ 2)) = true := by decide +kernel
  simpa using List.all_eq_true.mp k t h
theorem sum_le {c : Nat} : ∀ {ts : List Tx}, (∀ t ∈ ts, t ∈ cells) → (((ts.map (c :: ·)).map List.length).sum ≤ 3 * ts.length)
  | [], _ => by simp
  | t :: ts, h => by
    have ih := sum_le (c := c) (ts := ts) fun u hu => h u (List.mem_cons_of_mem _ hu)
    have l := cell_len (h t List.mem_cons_self)
    simp at ih ⊢
    omega
end
end LW

namespace LW
open PySem MP
theorem loop_all {tg : Tg} {body : MS} {Q : En → Prop} : ∀ {ds : List D}, (∀ d ∈ ds, ∀ e, Q e → ∃ e1 e2, bindTg tg d e = some e1 ∧ body e1 = .ok .nx e2 ∧ Q e2) → ∀ e, Q e → ∃ e', loopD tg body ds e = .ok .nx e' ∧ Q e'
  | [], _, e, q => ⟨e, rfl, q⟩
  | d :: ds, h, e, q => by
    obtain ⟨e1, e2, h1, h2, q2⟩ := h d List.mem_cons_self e q
    obtain ⟨e', h3, q3⟩ := loop_all (fun d hd => h d (List.mem_cons_of_mem _ hd)) e2 q2
    refine ⟨e', ?_, q3⟩
    unfold loopD
    rw [h1]
    dsimp only
    rw [h2]
    exact h3
theorem loop_ix {tg : Tg} {body : MS} {Q : Nat → En → Prop} {n : Nat} : ∀ {ds : List D} (i : Nat), i + ds.length ≤ n → (∀ d ∈ ds, ∀ i e, i < n → Q i e → ∃ e1 e2, bindTg tg d e = some e1 ∧ body e1 = .ok .nx e2 ∧ Q (i + 1) e2) → ∀ e, Q i e → ∃ e', loopD tg body ds e = .ok .nx e' ∧ Q (i + ds.length) e'
  | [], i, _, _, e, q => ⟨e, rfl, q⟩
  | d :: ds, i, hn, h, e, q => by
    have hn' : i + 1 + ds.length ≤ n := by simp at hn; omega
    obtain ⟨e1, e2, h1, h2, q2⟩ := h d List.mem_cons_self i e (by omega) q
    obtain ⟨e', h3, q3⟩ := loop_ix (i + 1) hn' (fun d hd => h d (List.mem_cons_of_mem _ hd)) e2 q2
    refine ⟨e', ?_, by have : i + (d :: ds).length = i + 1 + ds.length := by (simp; omega)
                       rw [this]; exact q3⟩
    unfold loopD
    rw [h1]
    dsimp only
    rw [h2]
    exact h3
theorem seq_ok {a b : MS} {e e1 : En} (h : a e = .ok .nx e1) : sSeq a b e = b e1 := by
  rw [sSeq_e, h]
theorem for_ok {src : M (List D)} {tg : Tg} {body : MS} {e e1 e2 : En} {ds : List D} (h1 : src e = .ok ds e1) (h2 : loopD tg body ds e1 = .ok .nx e2) : sFor src tg body e = .ok .nx e2 := by
  show sE src (fun ds => loopD tg body ds) e = _
  rw [sE_e, h1]
  exact h2
theorem mod_e {i j : Int} (h : 0 < j) : modD (.int i) (.int j) = some (.int (i % j)) := if_pos h
theorem fdiv_e {i j : Int} (h : 0 < j ∧ j < 1073741824) : fdivD (.int i) (.int j) = some (.int (i / j)) := if_pos h
theorem mul_e {i j : Int} (h : j.natAbs < 18446744073709551616) : mulD (.int i) (.int j) = some (.int (i * j)) := if_pos (.inr h)
/-! ### the drawing -/
theorem take_e (a b many : Int) (h0 : 0 < many) (h1 : many < 1073741824) : ∃ r a' b', 0 ≤ r ∧ r < many ∧ F__law_take [.ml [.int a, .int b], .p (.int many)] = .ok (.int r) [.ml [.int a', .int b'], .p (.int many)] := by
  have at1 : L2.atI [D.int a, D.int b] 1 = some (.int b) := rfl
  by_cases ha : 0 < a
  · refine ⟨a % many, a / many, b, Int.emod_nonneg _ (by omega), Int.emod_lt_of_pos _ h0, ?_⟩
    have m1 : modD (.int a) (.int many) = some (.int (a % many)) := if_pos h0
    have m2 : fdivD (.int a) (.int many) = some (.int (a / many)) := if_pos ⟨h0, h1⟩
    have st : setIx (.int 0) (.int (a / many)) [D.int a, D.int b] = some [.int (a / many), .int b] := rfl
    simp [gather, after, back, finR, outsG, isL, runF, truD, blD, MP.strOf, MP.intD, seqOf, ixD, lenD, cmpD, atI_zero, cutL_tail, slF, slD, itD, tupD, lstF, allF, lstD, frz, wipeE, back0, F__law_take, m__law_take, ha, m1, m2, intF, sIx, chkO, ownD, st, r__law_take]
  · have g : 0 ≤ (b * 39373 + 69621) % 2147483647 := Int.emod_nonneg _ (by omega)
    refine ⟨((b * 39373 + 69621) % 2147483647 / 8191) % many, a, (b * 39373 + 69621) % 2147483647, Int.emod_nonneg _ (by omega), Int.emod_lt_of_pos _ h0, ?_⟩
    have m1 : mulD (.int b) (.int 39373) = some (.int (b * 39373)) := mul_e (by decide)
    have m2 : modD (.int (b * 39373 + 69621)) (.int 2147483647) = some (.int ((b * 39373 + 69621) % 2147483647)) := mod_e (by decide)
    have a1 : addD (.int (b * 39373)) (.int 69621) = some (.int (b * 39373 + 69621)) := rfl
    have st : setIx (.int 1) (.int ((b * 39373 + 69621) % 2147483647)) [D.int a, D.int b] = some [.int a, .int ((b * 39373 + 69621) % 2147483647)] := rfl
    have at2 : L2.atI [D.int a, D.int ((b * 39373 + 69621) % 2147483647)] 1 = some (.int ((b * 39373 + 69621) % 2147483647)) := rfl
    have m3 : fdivD (.int ((b * 39373 + 69621) % 2147483647)) (.int 8191) = some (.int ((b * 39373 + 69621) % 2147483647 / 8191)) := fdiv_e (by decide)
    have m4 : modD (.int ((b * 39373 + 69621) % 2147483647 / 8191)) (.int many) = some (.int (((b * 39373 + 69621) % 2147483647 / 8191) % many)) := if_pos h0
    simp [gather, after, back, finR, outsG, isL, runF, truD, blD, MP.strOf, MP.intD, seqOf, ixD, lenD, cmpD, atI_zero, cutL_tail, slF, slD, itD, tupD, lstF, allF, lstD, frz, wipeE, back0, F__law_take, m__law_take, ha, at1, m1, a1, m2, intF, sIx, chkO, ownD, st, at2, m3, m4, r__law_take]
theorem pick_e (a b : Int) (s : Tx) (h0 : 0 < s.length) (h1 : s.length < 1073741824) : ∃ c a' b', c ∈ s ∧ F__law_pick [.ml [.int a, .int b], .p (.str s)] = .ok (.str [c]) [.ml [.int a', .int b'], .p (.str s)] := by
  obtain ⟨r, a', b', r0, r1, e⟩ := take_e a b (s.length : Int) (by omega) (by omega)
  obtain ⟨n, rfl⟩ : ∃ n : Nat, r = n := ⟨r.toNat, by omega⟩
  have hn : n < s.length := by omega
  have at1 : L2.atI s (n : Int) = some s[n] := by rw [atI_nat]; exact List.getElem?_eq_getElem hn
  refine ⟨s[n], a', b', List.getElem_mem hn, ?_⟩
  simp [gather, after, back, finR, outsG, isL, runF, truD, blD, MP.strOf, MP.intD, seqOf, ixD, lenD, cmpD, atI_zero, cutL_tail, slF, slD, itD, tupD, lstF, allF, lstD, frz, wipeE, back0, F__law_pick, m__law_pick, e, at1, r__law_pick]
theorem box_e (ns : List Int) (k : Nat) (hk : k < 1000000) : ∃ a b, F__law_box [.p (.lst (ns.map D.int)), .p (.int k)] = .ok (.lst [.int a, .int b]) [.p (.lst (ns.map D.int)), .p (.int k)] := by
  have k1 : mulD (.int 7919) (.int k) = some (.int (7919 * k)) := mul_e (by omega)
  have k2 : powD (.int 10) (.int 18) = some (.int 1000000000000000000) := rfl
  have k3 : mulD (.int 613) (.int k) = some (.int (613 * k)) := mul_e (by omega)
  have fin : ∀ c : Int, mulD (.int (c % 1000000007)) (.int 48271) = some (.int (c % 1000000007 * 48271)) := fun c => mul_e (by decide)
  have fin1 : ∀ c : Int, mulD (.int (c % 1000000007)) (.int 31) = some (.int (c % 1000000007 * 31)) := fun c => mul_e (by decide)
  have fin2 : ∀ c : Int, modD (.int c) (.int 1000000007) = some (.int (c % 1000000007)) := fun c => mod_e (by decide)
  have fin3 : ∀ c : Int, modD (.int c) (.int 2147483647) = some (.int (c % 2147483647)) := fun c => mod_e (by decide)
  have fin4 : ∀ i j : Int, addD (.int i) (.int j) = some (.int (i + j)) := fun _ _ => rfl
  have at1 : ∀ c : Int, L2.atI [D.int 0, D.int c] 1 = some (.int c) := fun _ => rfl
  by_cases hl : k < ns.length
  · have hl2 : (k : Int) < (ns.length : Int) := by omega
    have at2 : L2.atI (ns.map D.int) (k : Int) = some (.int ns[k]) := by rw [atI_nat]; simp [hl]
    by_cases hc : 1000000000000000000 ≤ (if ns[k] < 0 then -ns[k] else ns[k])
    · exact ⟨_, _, by simp [gather, after, back, finR, outsG, isL, runF, truD, blD, MP.strOf, MP.intD, seqOf, ixD, lenD, cmpD, atI_zero, cutL_tail, slF, slD, itD, tupD, lstF, allF, lstD, frz, wipeE, back0, F__law_box, m__law_box, k1, k2, k3, hl2, at2, fin, fin2, fin3, fin4, intF, absF, hc, at1, r__law_box]; exact ⟨rfl, rfl⟩⟩
    · exact ⟨_, _, by simp [gather, after, back, finR, outsG, isL, runF, truD, blD, MP.strOf, MP.intD, seqOf, ixD, lenD, cmpD, atI_zero, cutL_tail, slF, slD, itD, tupD, lstF, allF, lstD, frz, wipeE, back0, F__law_box, m__law_box, k1, k2, k3, hl2, at2, fin, fin2, fin3, fin4, intF, absF, hc, r__law_box]; exact ⟨rfl, rfl⟩⟩
  · have hl2 : ¬ (k : Int) < (ns.length : Int) := by omega
    by_cases h0 : 0 < ns.length
    · have h02 : (0 : Int) < (ns.length : Int) := by omega
      have hm : k % ns.length < ns.length := Nat.mod_lt _ h0
      have md : modD (.int k) (.int (ns.length : Int)) = some (.int ((k % ns.length : Nat) : Int)) := by rw [mod_e h02]; rfl
      have at2 : L2.atI (ns.map D.int) ((k % ns.length : Nat) : Int) = some (.int ns[k % ns.length]) := by rw [atI_nat]; simp [hm]
      generalize hcc : (if ns[k % ns.length] < 0 then -ns[k % ns.length] else ns[k % ns.length]) % 1000000007 * 31 + 7919 * (k : Int) = c
      by_cases hc : 1000000000000000000 ≤ c
      · exact ⟨_, _, by simp [gather, after, back, finR, outsG, isL, runF, truD, blD, MP.strOf, MP.intD, seqOf, ixD, lenD, cmpD, atI_zero, cutL_tail, slF, slD, itD, tupD, lstF, allF, lstD, frz, wipeE, back0, F__law_box, m__law_box, k1, k2, k3, hl2, h02, h0, md, at2, fin, fin1, fin2, fin3, fin4, intF, absF, -Int.natCast_emod, hcc, hc, at1, r__law_box]; first | exact ⟨rfl, rfl⟩ | exact rfl⟩
      · exact ⟨_, _, by simp [gather, after, back, finR, outsG, isL, runF, truD, blD, MP.strOf, MP.intD, seqOf, ixD, lenD, cmpD, atI_zero, cutL_tail, slF, slD, itD, tupD, lstF, allF, lstD, frz, wipeE, back0, F__law_box, m__law_box, k1, k2, k3, hl2, h02, h0, md, at2, fin, fin1, fin2, fin3, fin4, intF, absF, -Int.natCast_emod, hcc, hc, r__law_box]; first | exact ⟨rfl, rfl⟩ | exact rfl⟩
    · have h02 : ¬ (0 : Int) < (ns.length : Int) := by omega
      have hc : ¬ (1000000000000000000 : Int) ≤ 7919 * k + 101 := by omega
      exact ⟨_, _, by simp [gather, after, back, finR, outsG, isL, runF, truD, blD, MP.strOf, MP.intD, seqOf, ixD, lenD, cmpD, atI_zero, cutL_tail, slF, slD, itD, tupD, lstF, allF, lstD, frz, wipeE, back0, F__law_box, m__law_box, k1, k2, k3, hl2, h02, h0, fin, fin2, fin3, fin4, intF, hc, r__law_box]; first | exact ⟨rfl, rfl⟩ | exact rfl⟩
/-! ### drawn words -/
theorem digs_cell {r : Int} (h0 : 0 ≤ r) (h1 : r < 16) : strF (.int r) = some (.str (digs r)) ∧ digs r ∈ cells := by
  have hm : r ∈ ([0, 1, 2, 3, 4, 5, 6, 7, 8, 9, 10, 11, 12, 13, 14, 15] : List Int) := by
    simp; omega
  refine ⟨?_, by rw [← str16]; exact List.mem_map_of_mem hm⟩
  show (if r.natAbs.log2 < 1920 then some (D.str (digs r)) else none) = _
  rw [if_pos]
  have k : ([0, 1, 2, 3, 4, 5, 6, 7, 8, 9, 10, 11, 12, 13, 14, 15] : List Int).all (fun n => decide (n.natAbs.log2 < 1920)) = true := by decide +kernel
  simpa using List.all_eq_true.mp k r hm
theorem rng1_e {j : Int} (h0 : 0 ≤ j) (h1 : j < 1000) : rngD1 [.int j] = some (rng 0 j.toNat) := if_pos (by omega)
theorem rng_n (n : Nat) : (rng 0 n).length = n := by simp [rng]
/-- a word as it is drawn -/
def mk (f : Tx) (rs ws : List Tx) : Tx := f ++ (rs.map (46 :: ·)).flatten ++ (ws.map (62 :: ·)).flatten
theorem cell_no {t : Tx} (h : t ∈ cells) : 46 ∉ t ∧ 62 ∉ t := by
  have k : cells.all (fun t => !t.contains 46 && !t.contains 62) = true := by decide +kernel
  have := List.all_eq_true.mp k t h
  simpa using this
theorem letter_no {c : Nat} (h : c ∈ letters) : c ≠ 46 ∧ c ≠ 62 := by
  have k : letters.all (fun c => decide (c ≠ 46) && decide (c ≠ 62)) = true := by decide +kernel
  have := List.all_eq_true.mp k c h
  simpa using this
theorem flat_len {c : Nat} {ts : List Tx} (h : ∀ t ∈ ts, t ∈ cells) : (ts.map (c :: ·)).flatten.length ≤ 3 * ts.length := by
  have := sum_le (c := c) h
  rw [List.length_flatten]
  exact this
theorem mk_cut {f : Tx} {rs ws : List Tx} (hf : ∀ c ∈ f, c ∈ letters) (hfl : f.length ≤ 4) (hr : rs.length ≤ 3) (hw : ws.length ≤ 1) (h1 : ∀ t ∈ rs, t ∈ cells) (h2 : ∀ t ∈ ws, t ∈ cells) : Cut (mk f rs ws) f rs ws := by
  have e1 : TL.joinL [46] (f :: rs) = f ++ (rs.map (46 :: ·)).flatten := joinL_flat 46 f rs
  have e2 : TL.joinL [62] ((f ++ (rs.map (46 :: ·)).flatten) :: ws) = mk f rs ws := joinL_flat 62 _ ws
  have l1 := flat_len (c := 46) h1
  have l2 := flat_len (c := 62) h2
  refine ⟨by unfold mk; rw [List.length_append, List.length_append]; omega, f ++ (rs.map (46 :: ·)).flatten, ?_, ?_⟩
  · rw [← e2]
    refine TL.spl_join (by simp) fun p hp => ?_
    rcases List.mem_cons.mp hp with e | e
    · rw [e]
      intro hm
      rcases List.mem_append.mp hm with hm | hm
      · exact (letter_no (hf _ hm)).2 rfl
      · obtain ⟨l, hl, hm⟩ := List.mem_flatten.mp hm
        obtain ⟨t, ht, rfl⟩ := List.mem_map.mp hl
        rcases List.mem_cons.mp hm with z | z
        · cases z
        · exact (cell_no (h1 t ht)).2 z
    · exact (cell_no (h2 p e)).2
  · rw [← e1]
    refine TL.spl_join (by simp) fun p hp => ?_
    rcases List.mem_cons.mp hp with e | e
    · rw [e]
      intro hm
      exact (letter_no (hf _ hm)).1 rfl
    · exact (cell_no (h1 p e)).1
theorem mk_ok {f : Tx} {rs ws : List Tx} (hf : ∀ c ∈ f, c ∈ letters) (hf1 : 1 ≤ f.length) (hfl : f.length ≤ 4) (hr : rs.length ≤ 3) (hw : ws.length ≤ 1) (h1 : ∀ t ∈ rs, t ∈ cells) (h2 : ∀ t ∈ ws, t ∈ cells) : okW f rs ws = true := by
  have a : f.all (fun c => decide (c ∈ letters)) = true := by simpa using hf
  simp [okW, nameT, hf1, hfl, a, hr, hw]
  exact ⟨h1, h2⟩
theorem mk_snoc (f : Tx) (rs : List Tx) (t : Tx) : mk f rs [] ++ [46] ++ t = mk f (rs ++ [t]) [] := by
  unfold mk
  simp
theorem mk_wr (f : Tx) (rs : List Tx) (t : Tx) : mk f rs [] ++ [62] ++ t = mk f rs [t] := by
  unfold mk
  simp
theorem add_s {s t : Tx} (h : s.length + t.length ≤ 1000000) : addD (.str s) (.str t) = some (.str (s ++ t)) := if_pos h
theorem mk_len {f : Tx} {rs ws : List Tx} (hfl : f.length ≤ 4) (hr : rs.length ≤ 3) (hw : ws.length ≤ 1) (h1 : ∀ t ∈ rs, t ∈ cells) (h2 : ∀ t ∈ ws, t ∈ cells) : (mk f rs ws).length ≤ 16 := by
  have l1 := flat_len (c := 46) h1
  have l2 := flat_len (c := 62) h2
  unfold mk
  rw [List.length_append, List.length_append]
  omega
theorem word_e (a b : Int) : ∃ f rs ws a' b', (∀ c ∈ f, c ∈ letters) ∧ 1 ≤ f.length ∧ f.length ≤ 4 ∧ rs.length ≤ 3 ∧ ws.length ≤ 1 ∧ (∀ t ∈ rs, t ∈ cells) ∧ (∀ t ∈ ws, t ∈ cells) ∧
    F__law_word [.ml [.int a, .int b]] = .ok (.str (mk f rs ws)) [.ml [.int a', .int b']] := by
  obtain ⟨r1, a1, b1, r10, r11, t1⟩ := take_e a b 4 (by omega) (by omega)
  -- the letters
  obtain ⟨e2, la, a2, b2, f, k2, rfl, hf, hfc⟩ := loop_ix (tg := .nm 2) (body := sSet 1 (mBinL addD 1 (mCall F__law_pick [.r 0, .e (mC (.str letters))]))) (ds := rng 0 (1 + r1).toNat) (n := 4) (Q := fun i e => ∃ a b w k, e = [some (.ml [.int a, .int b]), some (.p (.str w)), k] ∧ w.length = i ∧ ∀ c ∈ w, c ∈ letters) 0 (by rw [rng_n]; omega) (fun d hd i e hi q => by
    obtain ⟨a, b, w, k, rfl, hw, hc⟩ := q
    obtain ⟨c, a', b', hm, e⟩ := pick_e a b letters (by decide) (by decide)
    have ad : addD (.str w) (.str [c]) = some (.str (w ++ [c])) := add_s (by simp; omega)
    refine ⟨_, _, rfl, by simp [gather, after, back, finR, outsG, isL, runF, truD, blD, MP.strOf, MP.intD, seqOf, ixD, lenD, cmpD, atI_zero, cutL_tail, slF, slD, itD, tupD, lstF, allF, lstD, frz, wipeE, back0, e, ad]; exact rfl, a', b', w ++ [c], _, rfl, by simp [hw], fun x hx => ?_⟩
    rcases List.mem_append.mp hx with h | h
    · exact hc x h
    · have : x = c := by simpa using h
      rw [this]; exact hm) [some (.ml [.int a1, .int b1]), some (.p (.str [])), none] ⟨a1, b1, [], none, rfl, rfl, fun _ h => by cases h⟩
  rw [rng_n] at hf
  -- the reads
  obtain ⟨r3, a3, b3, r30, r31, t3⟩ := take_e a2 b2 4 (by omega) (by omega)
  obtain ⟨e4, lb, a4, b4, rs, k4, rfl, hrs, hrc⟩ := loop_ix (tg := .nm 2) (body := sSet 1 (mBin addD (mBinL addD 1 (mC (.str [46]))) (mUn strF (mCall F__law_take [.r 0, .e (mC (.int 16))])))) (ds := rng 0 r3.toNat) (n := 3) (Q := fun i e => ∃ a b rs k, e = [some (.ml [.int a, .int b]), some (.p (.str (mk f rs []))), k] ∧ rs.length = i ∧ ∀ t ∈ rs, t ∈ cells) 0 (by rw [rng_n]; omega) (fun d hd i e hi q => by
    obtain ⟨a, b, rs, k, rfl, hr, hc⟩ := q
    obtain ⟨r, a', b', r0, r1', e⟩ := take_e a b 16 (by omega) (by omega)
    obtain ⟨sf, dc⟩ := digs_cell r0 r1'
    have ml : (mk f rs []).length ≤ 16 := mk_len (by omega) (by omega) (by simp) hc (by simp)
    have dl := cell_len dc
    have ad : addD (.str (mk f rs [])) (.str [46]) = some (.str (mk f rs [] ++ [46])) := add_s (by simp; omega)
    have ad2 : addD (.str (mk f rs [] ++ [46])) (.str (digs r)) = some (.str (mk f (rs ++ [digs r]) [])) := by
      rw [← mk_snoc]
      exact add_s (by simp; omega)
    refine ⟨_, _, rfl, by simp [gather, after, back, finR, outsG, isL, runF, truD, blD, MP.strOf, MP.intD, seqOf, ixD, lenD, cmpD, atI_zero, cutL_tail, slF, slD, itD, tupD, lstF, allF, lstD, frz, wipeE, back0, e, sf, ad, ad2]; exact rfl, a', b', rs ++ [digs r], _, rfl, by simp [hr], fun x hx => ?_⟩
    rcases List.mem_append.mp hx with h | h
    · exact hc x h
    · have : x = digs r := by simpa using h
      rw [this]; exact dc) [some (.ml [.int a3, .int b3]), some (.p (.str f)), k2] ⟨a3, b3, [], k2, by simp [mk], rfl, fun _ h => by cases h⟩
  rw [rng_n] at hrs
  obtain ⟨r5, a5, b5, r50, r51, t5⟩ := take_e a4 b4 2 (by omega) (by omega)
  have g1 : rngD1 [.int (1 + r1)] = some (rng 0 (1 + r1).toNat) := rng1_e (by omega) (by omega)
  have g2 : rngD1 [.int r3] = some (rng 0 r3.toNat) := rng1_e (by omega) (by omega)
  have ad1 : addD (.int 1) (.int r1) = some (.int (1 + r1)) := rfl
  have F1 : sFor (mArgs rngD1 (mCons (mBin addD (mC (.int 1)) (mCall F__law_take [.r 0, .e (mC (.int 4))])) mNil)) (.nm 2) (sSet 1 (mBinL addD 1 (mCall F__law_pick [.r 0, .e (mC (.str letters))]))) [some (.ml [.int a, .int b]), some (.p (.str [])), none] = .ok .nx [some (.ml [.int a2, .int b2]), some (.p (.str f)), k2] :=
    for_ok (by simp [gather, after, back, finR, outsG, isL, runF, truD, blD, MP.strOf, MP.intD, seqOf, ixD, lenD, cmpD, atI_zero, cutL_tail, slF, slD, itD, tupD, lstF, allF, lstD, frz, wipeE, back0, t1, ad1, g1]) la
  have F2 : sFor (mArgs rngD1 (mCons (mCall F__law_take [.r 0, .e (mC (.int 4))]) mNil)) (.nm 2) (sSet 1 (mBin addD (mBinL addD 1 (mC (.str [46]))) (mUn strF (mCall F__law_take [.r 0, .e (mC (.int 16))])))) [some (.ml [.int a2, .int b2]), some (.p (.str f)), k2] = .ok .nx [some (.ml [.int a4, .int b4]), some (.p (.str (mk f rs []))), k4] :=
    for_ok (by simp [gather, after, back, finR, outsG, isL, runF, truD, blD, MP.strOf, MP.intD, seqOf, ixD, lenD, cmpD, atI_zero, cutL_tail, slF, slD, itD, tupD, lstF, allF, lstD, frz, wipeE, back0, t3, g2]) lb
  unfold letters at F1
  have eqd : eqD (.int r5) (.int 1) = some (.bl (r5 == 1)) := rfl
  have eq11 : eqD (.int 1) (.int 1) = some (.bl true) := rfl
  by_cases h5 : r5 = 1
  · obtain ⟨r, a', b', r0, r1', e⟩ := take_e a5 b5 16 (by omega) (by omega)
    obtain ⟨sf, dc⟩ := digs_cell r0 r1'
    have ml : (mk f rs []).length ≤ 16 := mk_len (by omega) (by omega) (by simp) hrc (by simp)
    have dl := cell_len dc
    have ad : addD (.str (mk f rs [])) (.str [62]) = some (.str (mk f rs [] ++ [62])) := add_s (by simp; omega)
    have ad2 : addD (.str (mk f rs [] ++ [62])) (.str (digs r)) = some (.str (mk f rs [digs r])) := by
      rw [← mk_wr]
      exact add_s (by simp; omega)
    refine ⟨f, rs, [digs r], a', b', hfc, by omega, by omega, by omega, by simp, hrc, fun t ht => ?_, ?_⟩
    · have : t = digs r := by simpa using ht
      rw [this]; exact dc
    · simp [gather, after, back, finR, outsG, isL, runF, truD, blD, MP.strOf, MP.intD, seqOf, ixD, lenD, cmpD, atI_zero, cutL_tail, slF, slD, itD, tupD, lstF, allF, lstD, frz, wipeE, back0, F__law_word, m__law_word, F1, F2, t5, eqd, eq11, h5, e, sf, ad, ad2, r__law_word]
  · refine ⟨f, rs, [], a5, b5, hfc, by omega, by omega, by omega, by simp, hrc, (by simp), ?_⟩
    simp [gather, after, back, finR, outsG, isL, runF, truD, blD, MP.strOf, MP.intD, seqOf, ixD, lenD, cmpD, atI_zero, cutL_tail, slF, slD, itD, tupD, lstF, allF, lstD, frz, wipeE, back0, F__law_word, m__law_word, F1, F2, t5, eqd, h5, r__law_word]
end LW

namespace LW
open PySem MP
/-! ### data in bounds -/
mutual
def okd : Nat → Int → D → Bool
  | _, _, .non => true
  | _, _, .bl _ => true
  | _, B, .int i => decide (-B ≤ i) && decide (i ≤ B)
  | _, B, .str s => decide ((s.length : Int) ≤ B)
  | n, B, .tup xs => (match n with
    | 0 => false
    | k + 1 => decide ((xs.length : Int) ≤ B) && okds k B xs)
  | n, B, .lst xs => (match n with
    | 0 => false
    | k + 1 => decide ((xs.length : Int) ≤ B) && okds k B xs)
  | _, _, .ins _ _ => false
def okds : Nat → Int → List D → Bool
  | _, _, [] => true
  | n, B, x :: xs => okd n B x && okds n B xs
end
theorem okds_iff {n : Nat} {B : Int} : ∀ {xs : List D}, okds n B xs = true ↔ ∀ x ∈ xs, okd n B x = true
  | [] => by simp [okds]
  | x :: xs => by simp [okds, okds_iff (xs := xs)]
mutual
theorem okd_lay : ∀ (n : Nat) (B : Int) (d : D), okd n B d = true → lay n d = true
  | _, _, .non, _ => rfl
  | _, _, .bl _, _ => rfl
  | _, _, .int _, _ => rfl
  | _, _, .str _, _ => rfl
  | 0, _, .tup _, h => by simp [okd] at h
  | n + 1, B, .tup xs, h => by
    simp only [okd, Bool.and_eq_true] at h
    exact okds_lay n B xs h.2
  | 0, _, .lst _, h => by simp [okd] at h
  | n + 1, B, .lst xs, h => by
    simp only [okd, Bool.and_eq_true] at h
    exact okds_lay n B xs h.2
  | _, _, .ins _ _, h => by simp [okd] at h
theorem okds_lay : ∀ (n : Nat) (B : Int) (d : List D), okds n B d = true → lays n d = true
  | _, _, [], _ => rfl
  | n, B, x :: xs, h => by
    simp only [okds, Bool.and_eq_true] at h
    simp only [lays, Bool.and_eq_true]
    exact ⟨okd_lay n B x h.1, okds_lay n B xs h.2⟩
end
mutual
theorem okd_mono : ∀ (n m : Nat) (B C : Int) (d : D), n ≤ m → B ≤ C → okd n B d = true → okd m C d = true
  | _, _, _, _, .non, _, _, _ => rfl
  | _, _, _, _, .bl _, _, _, _ => rfl
  | _, _, B, C, .int i, _, hb, h => by
    simp only [okd, Bool.and_eq_true, decide_eq_true_eq] at h ⊢
    omega
  | _, _, B, C, .str s, _, hb, h => by
    simp only [okd, decide_eq_true_eq] at h ⊢
    omega
  | 0, _, _, _, .tup _, _, _, h => by simp [okd] at h
  | n + 1, 0, _, _, .tup _, hn, _, h => by omega
  | n + 1, m + 1, B, C, .tup xs, hn, hb, h => by
    simp only [okd, Bool.and_eq_true, decide_eq_true_eq] at h ⊢
    exact ⟨by omega, okds_mono n m B C xs (by omega) hb h.2⟩
  | 0, _, _, _, .lst _, _, _, h => by simp [okd] at h
  | n + 1, 0, _, _, .lst _, hn, _, h => by omega
  | n + 1, m + 1, B, C, .lst xs, hn, hb, h => by
    simp only [okd, Bool.and_eq_true, decide_eq_true_eq] at h ⊢
    exact ⟨by omega, okds_mono n m B C xs (by omega) hb h.2⟩
  | _, _, _, _, .ins _ _, _, _, h => by simp [okd] at h
theorem okds_mono : ∀ (n m : Nat) (B C : Int) (d : List D), n ≤ m → B ≤ C → okds n B d = true → okds m C d = true
  | _, _, _, _, [], _, _, _ => rfl
  | n, m, B, C, x :: xs, hn, hb, h => by
    simp only [okds, Bool.and_eq_true] at h ⊢
    exact ⟨okd_mono n m B C x hn hb h.1, okds_mono n m B C xs hn hb h.2⟩
end
theorem okd_plain {n : Nat} {B : Int} {d : D} (h : okd n B d = true) : plainD d = true := by
  cases d <;> first | rfl | simp [okd] at h
theorem okd_60 {n : Nat} {B : Int} {d : D} (h : okd n B d = true) (hn : n ≤ 59) : lay 60 d = true ∧ lay 59 d = true := ⟨okd_lay 60 B d (okd_mono n 60 B B d (by omega) (Int.le_refl _) h), okd_lay 59 B d (okd_mono n 59 B B d hn (Int.le_refl _) h)⟩
/-! ### words, numbers -/
def wb (t : Tx) : Bool := match TL.spl [62] 0 [] t with
  | h0 :: ws => (match TL.spl [46] 0 [] h0 with
    | f0 :: rs => okW f0 rs ws
    | [] => false)
  | [] => false
theorem wb_cut {t f0 : Tx} {rs ws : List Tx} (c : Cut t f0 rs ws) : wb t = okW f0 rs ws := by
  obtain ⟨h0, e1, e2⟩ := c.cut
  unfold wb
  rw [e1]
  dsimp only
  rw [e2]
def isW : D → Bool
  | .str t => wb t
  | _ => false
theorem isW_e {n : Nat} {B : Int} {d : D} (h : okd n B d = true) (hB : B ≤ 900000) : F_is_word [.p d] = .ok (.bl (isW d)) [.p d] ∧ F__law_is_word [.p d] = .ok (.bl (isW d)) [.p d] := by
  cases d with
  | str t =>
    have hl : t.length ≤ 900000 := by
      simp [okd] at h
      omega
    obtain ⟨f, rs, ws, c⟩ := cut_of hl
    show F_is_word [.p (.str t)] = .ok (.bl (wb t)) _ ∧ F__law_is_word [.p (.str t)] = .ok (.bl (wb t)) _
    rw [wb_cut c]
    exact ⟨is_word_e c, law_is_word_e c⟩
  | ins _ _ => simp [okd] at h
  | _ => exact ⟨rfl, rfl⟩
theorem whole_d {d : D} (h : plainD d = true) : F__law_whole [.p d] = .ok (.bl (match d with
  | .int _ => true
  | _ => false)) [.p d] := by
  cases d <;> first | rfl | (cases h)
theorem eqvs_nilD (ds : List D) : eqvDs ds [] = ds.isEmpty := by cases ds <;> rfl
theorem okds_filter {n : Nat} {B : Int} {p : D → Bool} {xs : List D} (h : okds n B xs = true) : okds n B (xs.filter p) = true := by
  rw [okds_iff] at h ⊢
  exact fun x hx => h x (List.mem_filter.mp hx).1
theorem numbers_e {k : Nat} {B : Int} {xs : List D} {n : Int} (h : okd k B (.tup xs) = true) (hk : k ≤ 50) (hB : B ≤ 900000) : F__law_is_numbers [.p (.tup xs), .p (.int n)] = .ok (.bl (xs.all (below? n))) [.p (.tup xs), .p (.int n)] := by
  cases k with
  | zero => simp [okd] at h
  | succ k =>
    simp only [okd, Bool.and_eq_true, decide_eq_true_eq] at h
    have hl : xs.length ≤ 1000000 := by omega
    have lc := lc_run (i := 2) (e0 := [some (.p (.tup xs)), some (.p (.int n)), none]) rfl (tst := mOrB (mNotB (mTru (mCall F__law_whole [.e (mVar 2)]))) (mOrB (mTest (mBinL (cmpD fun i j => decide (i < j)) 2 (mC (.int 0)))) (mTest (mBinL (cmpD fun i j => decide (j ≤ i)) 2 (mPeek 1))))) (elt := mVar 2) (p := fun d => !below? n d) (f := fun d => d) (ds := xs) (fun d hd => by
      have hp := okd_plain (okds_iff.mp h.2 d hd)
      have e := whole_d hp
      cases d with
      | int i =>
        by_cases h0 : i < 0
        · have h1 : ¬ 0 ≤ i := by omega
          simp [gather, after, back, finR, outsG, isL, runF, truD, blD, MP.strOf, MP.intD, seqOf, ixD, lenD, cmpD, atI_zero, cutL_tail, slF, slD, itD, tupD, lstF, allF, lstD, frz, wipeE, back0, e, below?, h0, h1]
        · have h1 : 0 ≤ i := by omega
          by_cases h2 : n ≤ i
          · have h3 : ¬ i < n := by omega
            simp [gather, after, back, finR, outsG, isL, runF, truD, blD, MP.strOf, MP.intD, seqOf, ixD, lenD, cmpD, atI_zero, cutL_tail, slF, slD, itD, tupD, lstF, allF, lstD, frz, wipeE, back0, e, below?, h0, h1, h2, h3]
          · have h3 : i < n := by omega
            simp [gather, after, back, finR, outsG, isL, runF, truD, blD, MP.strOf, MP.intD, seqOf, ixD, lenD, cmpD, atI_zero, cutL_tail, slF, slD, itD, tupD, lstF, allF, lstD, frz, wipeE, back0, e, below?, h0, h1, h2, h3]
      | ins _ _ => cases hp
      | _ => simp [gather, after, back, finR, outsG, isL, runF, truD, blD, MP.strOf, MP.intD, seqOf, ixD, lenD, cmpD, atI_zero, cutL_tail, slF, slD, itD, tupD, lstF, allF, lstD, frz, wipeE, back0, e, below?]) (fun d hd _ => by simp)
    rw [List.map_id'' (fun _ => rfl)] at lc
    have ly : lays 59 (xs.filter fun d => !below? n d) = true := okds_lay 59 B _ (okds_mono k 59 B B _ (by omega) (Int.le_refl _) (okds_filter h.2))
    have q : eqD (.lst (xs.filter fun d => !below? n d)) (.lst []) = some (.bl (xs.all (below? n))) := by
      unfold eqD
      rw [if_pos ⟨lay_lst ly, rfl⟩]
      show some (D.bl (eqvDs _ [])) = _
      rw [eqvs_nilD, filter_empty]
    simp [gather, after, back, finR, outsG, isL, runF, truD, blD, MP.strOf, MP.intD, seqOf, ixD, lenD, cmpD, atI_zero, cutL_tail, slF, slD, itD, tupD, lstF, allF, lstD, frz, wipeE, back0, F__law_is_numbers, m__law_is_numbers, hl, lc, q, r__law_is_numbers]
theorem numbers_no {d : D} {n : Int} (h : plainD d = true) (ht : ∀ xs, d ≠ .tup xs) : F__law_is_numbers [.p d, .p (.int n)] = .ok (.bl false) [.p d, .p (.int n)] := by
  cases d <;> first | rfl | exact absurd rfl (ht _) | (cases h)
theorem numbers_d {k : Nat} {B : Int} {d : D} {n : Int} (h : okd k B d = true) (hk : k ≤ 50) (hB : B ≤ 900000) : F__law_is_numbers [.p d, .p (.int n)] = .ok (.bl (allB n d)) [.p d, .p (.int n)] := by
  cases d with
  | tup xs => exact numbers_e h hk hB
  | _ => exact numbers_no (okd_plain h) (by intro _ z; cases z)
theorem all_below_d {k : Nat} {B : Int} {d : D} {n : Int} (h : okd k B d = true) (hB : B ≤ 1000) : F_all_below [.p d, .p (.int n)] = .ok (.bl (allB n d)) [.p d, .p (.int n)] := by
  refine all_below_e ?_
  cases d with
  | tup xs =>
    cases k with
    | zero => simp [okd] at h
    | succ k =>
      simp only [okd, Bool.and_eq_true, decide_eq_true_eq] at h
      simp only [flatD, Bool.and_eq_true, decide_eq_true_eq, List.all_eq_true]
      exact ⟨fun x hx => okd_plain (okds_iff.mp h.2 x hx), by omega⟩
  | lst xs =>
    cases k with
    | zero => simp [okd] at h
    | succ k =>
      simp only [okd, Bool.and_eq_true, decide_eq_true_eq] at h
      simp only [flatD, Bool.and_eq_true, decide_eq_true_eq, List.all_eq_true]
      exact ⟨fun x hx => okd_plain (okds_iff.mp h.2 x hx), by omega⟩
  | ins _ _ => simp [okd] at h
  | _ => rfl
theorem below_d {k : Nat} {B : Int} {d : D} {n : Int} (h : okd k B d = true) : F_is_below [.p d, .p (.int n)] = .ok (.bl (below? n d)) [.p d, .p (.int n)] := F_is_below_e d n (okd_plain h)
/-! ### lines -/
def lnB (n : Int) : D → Bool
  | .tup (.str k :: rest) => if k = [98, 97, 99, 107] then rest.isEmpty
    else if k = [103, 111] ∨ k = [99, 97, 108, 108] then (match rest with
      | [x] => below? n x
      | _ => false)
    else if k = [100, 111] then (match rest with
      | [x] => isW x
      | _ => false)
    else if k = [97, 115, 107] then (match rest with
      | [x, y] => isW x && (allB n y && (decide (1 ≤ lenN' y) && decide (lenN' y ≤ 4)))
      | _ => false)
    else false
  | _ => false
where lenN' : D → Nat
  | .tup xs => xs.length
  | _ => 0
theorem eqs_e (s t : Tx) : eqD (.str s) (.str t) = some (.bl (decide (s = t))) := by
  show some (D.bl (s == t)) = _
  by_cases h : s = t
  · subst h; simp
  · simp [h]
theorem nes_e (s t : Tx) : neD (.str s) (.str t) = some (.bl (!decide (s = t))) := by
  show some (D.bl (!(s == t))) = _
  by_cases h : s = t
  · subst h; simp
  · simp [h]
theorem eqi_e (i j : Int) : eqD (.int i) (.int j) = some (.bl (decide (i = j))) := by
  show some (D.bl (i == j)) = _
  by_cases h : i = j
  · subst h; simp
  · simp [h]
theorem nei_e (i j : Int) : neD (.int i) (.int j) = some (.bl (!decide (i = j))) := by
  show some (D.bl (!(i == j))) = _
  by_cases h : i = j
  · subst h; simp
  · simp [h]
theorem in2_e (k : Tx) : inD (.str k) (.tup [.str [103, 111], .str [99, 97, 108, 108]]) = some (.bl (decide (k = [103, 111] ∨ k = [99, 97, 108, 108]))) := by
  show some (D.bl (anyEq (.str k) [.str [103, 111], .str [99, 97, 108, 108]])) = _
  have := eqv_strs k [[103, 111], [99, 97, 108, 108]]
  rw [show ([.str [103, 111], .str [99, 97, 108, 108]] : List D) = [[103, 111], [99, 97, 108, 108]].map D.str from rfl, this]
  simp
theorem tup_e {k : Nat} {B : Int} {xs : List D} (h : okd k B (.tup xs) = true) : ∃ k', k = k' + 1 ∧ (xs.length : Int) ≤ B ∧ ∀ x ∈ xs, okd k' B x = true := by
  cases k with
  | zero => simp [okd] at h
  | succ k =>
    simp only [okd, Bool.and_eq_true, decide_eq_true_eq] at h
    exact ⟨k, rfl, h.1, okds_iff.mp h.2⟩
theorem is_line_no {k : Nat} {B : Int} {d : D} {n : Int} (h : okd k B d = true) (ht : ∀ k r, d ≠ .tup (.str k :: r)) : F_is_line [.p d, .p (.int n)] = .ok (.bl false) [.p d, .p (.int n)] := by
  cases d with
  | tup xs =>
    cases xs with
    | nil => rfl
    | cons x r =>
      cases x with
      | str k => exact absurd rfl (ht k r)
      | ins _ _ =>
        obtain ⟨k', _, _, hx⟩ := tup_e h
        have := hx _ List.mem_cons_self
        simp [okd] at this
      | _ => simp [gather, after, back, finR, outsG, isL, runF, truD, blD, MP.strOf, MP.intD, seqOf, ixD, lenD, cmpD, atI_zero, cutL_tail, slF, slD, itD, tupD, lstF, allF, lstD, frz, wipeE, back0, F_is_line, m_is_line, r_is_line]
  | ins _ _ => simp [okd] at h
  | _ => rfl
theorem law_line_no {k : Nat} {B : Int} {d : D} {n : Int} (h : okd k B d = true) (hk : k ≤ 50) (ht : ∀ k r, d ≠ .tup (.str k :: r)) : F__law_is_line [.p d, .p (.int n)] = .ok (.bl false) [.p d, .p (.int n)] := by
  cases d with
  | tup xs =>
    have ly := (okd_60 h (by omega)).1
    have q : eqD (.tup xs) (.tup []) = some (.bl xs.isEmpty) := by
      unfold eqD
      rw [if_pos ⟨ly, rfl⟩]
      show some (D.bl (eqvDs _ [])) = _
      rw [eqvs_nilD]
    cases xs with
    | nil => rfl
    | cons x r =>
      cases x with
      | str k => exact absurd rfl (ht k r)
      | ins _ _ =>
        obtain ⟨k', _, _, hx⟩ := tup_e h
        have := hx _ List.mem_cons_self
        simp [okd] at this
      | _ => simp [gather, after, back, finR, outsG, isL, runF, truD, blD, MP.strOf, MP.intD, seqOf, ixD, lenD, cmpD, atI_zero, cutL_tail, slF, slD, itD, tupD, lstF, allF, lstD, frz, wipeE, back0, F__law_is_line, m__law_is_line, r__law_is_line, q]
  | ins _ _ => simp [okd] at h
  | _ => rfl
theorem lnB_no {d : D} {n : Int} (ht : ∀ k r, d ≠ .tup (.str k :: r)) : lnB n d = false := by
  unfold lnB
  split
  · exact absurd rfl (ht _ _)
  · rfl
theorem at1 (x y : D) (r : List D) : L2.atI (x :: y :: r) 1 = some y := by
  have := atI_nat (x :: y :: r) 1
  simpa using this
theorem at2 (x y z : D) (r : List D) : L2.atI (x :: y :: z :: r) 2 = some z := by
  have := atI_nat (x :: y :: z :: r) 2
  simpa using this
theorem len_allB {n : Int} {y : D} (h : allB n y = true) : ∃ xs, y = .tup xs := by
  cases y <;> first | exact ⟨_, rfl⟩ | (simp [allB] at h)
theorem is_line_e {k : Nat} {B : Int} {d : D} {n : Int} (h : okd k B d = true) (hB : B ≤ 1000) : F_is_line [.p d, .p (.int n)] = .ok (.bl (lnB n d)) [.p d, .p (.int n)] := by
  by_cases ht : ∀ k r, d ≠ .tup (.str k :: r)
  · rw [lnB_no ht]; exact is_line_no h ht
  · simp only [Classical.not_forall, Classical.not_not] at ht
    obtain ⟨ky, r, rfl⟩ := ht
    obtain ⟨k', _, _, hx⟩ := tup_e h
    have e2 : ∀ i j : Int, eqD (.int i) (.int j) = some (.bl (decide (i = j))) := eqi_e
    by_cases h1 : ky = [98, 97, 99, 107]
    · subst h1
      have hh : decide ((r.length : Int) + 1 = 1) = r.isEmpty := by cases r <;> simp; omega
      simp [gather, after, back, finR, outsG, isL, runF, truD, blD, MP.strOf, MP.intD, seqOf, ixD, lenD, cmpD, atI_zero, cutL_tail, slF, slD, itD, tupD, lstF, allF, lstD, frz, wipeE, back0, F_is_line, m_is_line, r_is_line, eqs_e, e2, lnB]
      cases r <;> simp <;> omega
    · by_cases h2 : ky = [103, 111] ∨ ky = [99, 97, 108, 108]
      · rcases r with _ | ⟨x, _ | ⟨y, r⟩⟩
        · simp [gather, after, back, finR, outsG, isL, runF, truD, blD, MP.strOf, MP.intD, seqOf, ixD, lenD, cmpD, atI_zero, cutL_tail, slF, slD, itD, tupD, lstF, allF, lstD, frz, wipeE, back0, F_is_line, m_is_line, r_is_line, eqs_e, e2, in2_e, h1, h2, lnB]
        · have eb := below_d (n := n) (hx x (by simp))
          simp [gather, after, back, finR, outsG, isL, runF, truD, blD, MP.strOf, MP.intD, seqOf, ixD, lenD, cmpD, atI_zero, cutL_tail, slF, slD, itD, tupD, lstF, allF, lstD, frz, wipeE, back0, F_is_line, m_is_line, r_is_line, eqs_e, e2, in2_e, h1, h2, lnB, at1, eb]
        · have : ¬ ((r.length : Int) + 1 + 1 + 1 = 2) := by omega
          simp [gather, after, back, finR, outsG, isL, runF, truD, blD, MP.strOf, MP.intD, seqOf, ixD, lenD, cmpD, atI_zero, cutL_tail, slF, slD, itD, tupD, lstF, allF, lstD, frz, wipeE, back0, F_is_line, m_is_line, r_is_line, eqs_e, e2, in2_e, h1, h2, lnB, this]
      · by_cases h3 : ky = [100, 111]
        · rcases r with _ | ⟨x, _ | ⟨y, r⟩⟩
          · simp [gather, after, back, finR, outsG, isL, runF, truD, blD, MP.strOf, MP.intD, seqOf, ixD, lenD, cmpD, atI_zero, cutL_tail, slF, slD, itD, tupD, lstF, allF, lstD, frz, wipeE, back0, F_is_line, m_is_line, r_is_line, eqs_e, e2, in2_e, h1, h2, h3, lnB]
          · have eb := (isW_e (hx x (by simp)) (by omega)).1
            simp [gather, after, back, finR, outsG, isL, runF, truD, blD, MP.strOf, MP.intD, seqOf, ixD, lenD, cmpD, atI_zero, cutL_tail, slF, slD, itD, tupD, lstF, allF, lstD, frz, wipeE, back0, F_is_line, m_is_line, r_is_line, eqs_e, e2, in2_e, h1, h2, h3, lnB, at1, eb]
          · have : ¬ ((r.length : Int) + 1 + 1 + 1 = 2) := by omega
            simp [gather, after, back, finR, outsG, isL, runF, truD, blD, MP.strOf, MP.intD, seqOf, ixD, lenD, cmpD, atI_zero, cutL_tail, slF, slD, itD, tupD, lstF, allF, lstD, frz, wipeE, back0, F_is_line, m_is_line, r_is_line, eqs_e, e2, in2_e, h1, h2, h3, lnB, this]
        · by_cases h4 : ky = [97, 115, 107]
          · rcases r with _ | ⟨x, _ | ⟨y, _ | ⟨z, r⟩⟩⟩
            · simp [gather, after, back, finR, outsG, isL, runF, truD, blD, MP.strOf, MP.intD, seqOf, ixD, lenD, cmpD, atI_zero, cutL_tail, slF, slD, itD, tupD, lstF, allF, lstD, frz, wipeE, back0, F_is_line, m_is_line, r_is_line, eqs_e, e2, in2_e, h1, h2, h3, h4, lnB]
            · simp [gather, after, back, finR, outsG, isL, runF, truD, blD, MP.strOf, MP.intD, seqOf, ixD, lenD, cmpD, atI_zero, cutL_tail, slF, slD, itD, tupD, lstF, allF, lstD, frz, wipeE, back0, F_is_line, m_is_line, r_is_line, eqs_e, e2, in2_e, h1, h2, h3, h4, lnB]
            · have eb := (isW_e (hx x (by simp)) (by omega)).1
              have ec := all_below_d (n := n) (hx y (by simp)) hB
              cases hw : isW x with
              | false => 
                rw [hw] at eb
                simp [gather, after, back, finR, outsG, isL, runF, truD, blD, MP.strOf, MP.intD, seqOf, ixD, lenD, cmpD, atI_zero, cutL_tail, slF, slD, itD, tupD, lstF, allF, lstD, frz, wipeE, back0, F_is_line, m_is_line, r_is_line, eqs_e, e2, in2_e, h1, h2, h3, h4, lnB, at1, eb, hw]
              | true =>
                rw [hw] at eb
                cases ha : allB n y with
                | false =>
                  rw [ha] at ec
                  simp [gather, after, back, finR, outsG, isL, runF, truD, blD, MP.strOf, MP.intD, seqOf, ixD, lenD, cmpD, atI_zero, cutL_tail, slF, slD, itD, tupD, lstF, allF, lstD, frz, wipeE, back0, F_is_line, m_is_line, r_is_line, eqs_e, e2, in2_e, h1, h2, h3, h4, lnB, at1, at2, eb, ec, hw, ha]
                | true =>
                  rw [ha] at ec
                  obtain ⟨ys, rfl⟩ := len_allB ha
                  have g1 : decide ((1 : Int) ≤ (ys.length : Int)) = decide (1 ≤ ys.length) := by
                    by_cases h : 1 ≤ ys.length
                    · rw [decide_eq_true h, decide_eq_true (by omega)]
                    · rw [decide_eq_false h, decide_eq_false (by omega)]
                  have g2 : decide ((ys.length : Int) ≤ 4) = decide (ys.length ≤ 4) := by
                    by_cases h : ys.length ≤ 4
                    · rw [decide_eq_true h, decide_eq_true (by omega)]
                    · rw [decide_eq_false h, decide_eq_false (by omega)]
                  by_cases h5 : 1 ≤ ys.length
                  · simp [gather, after, back, finR, outsG, isL, runF, truD, blD, MP.strOf, MP.intD, seqOf, ixD, lenD, cmpD, atI_zero, cutL_tail, slF, slD, itD, tupD, lstF, allF, lstD, frz, wipeE, back0, F_is_line, m_is_line, r_is_line, eqs_e, e2, in2_e, h1, h2, h3, h4, lnB, lnB.lenN', at1, at2, eb, ec, hw, ha, c_MOST_TARGETS, g1, g2, h5] <;> try rfl
                  · simp [gather, after, back, finR, outsG, isL, runF, truD, blD, MP.strOf, MP.intD, seqOf, ixD, lenD, cmpD, atI_zero, cutL_tail, slF, slD, itD, tupD, lstF, allF, lstD, frz, wipeE, back0, F_is_line, m_is_line, r_is_line, eqs_e, e2, in2_e, h1, h2, h3, h4, lnB, lnB.lenN', at1, at2, eb, ec, hw, ha, c_MOST_TARGETS, g1, g2, h5] <;> try rfl
            · have : ¬ ((r.length : Int) + 1 + 1 + 1 + 1 = 3) := by omega
              simp [gather, after, back, finR, outsG, isL, runF, truD, blD, MP.strOf, MP.intD, seqOf, ixD, lenD, cmpD, atI_zero, cutL_tail, slF, slD, itD, tupD, lstF, allF, lstD, frz, wipeE, back0, F_is_line, m_is_line, r_is_line, eqs_e, e2, in2_e, h1, h2, h3, h4, lnB, this]
          · simp [gather, after, back, finR, outsG, isL, runF, truD, blD, MP.strOf, MP.intD, seqOf, ixD, lenD, cmpD, atI_zero, cutL_tail, slF, slD, itD, tupD, lstF, allF, lstD, frz, wipeE, back0, F_is_line, m_is_line, r_is_line, eqs_e, e2, in2_e, h1, h2, h3, h4, lnB]
theorem law_line_e {k : Nat} {B : Int} {d : D} {n : Int} (h : okd k B d = true) (hk : k ≤ 50) (hB : B ≤ 1000) : F__law_is_line [.p d, .p (.int n)] = .ok (.bl (lnB n d)) [.p d, .p (.int n)] := by
  by_cases ht : ∀ k r, d ≠ .tup (.str k :: r)
  · rw [lnB_no ht]; exact law_line_no h hk ht
  · simp only [Classical.not_forall, Classical.not_not] at ht
    obtain ⟨ky, r, rfl⟩ := ht
    obtain ⟨k', rfl, hl, hx⟩ := tup_e h
    have e2 : ∀ i j : Int, eqD (.int i) (.int j) = some (.bl (decide (i = j))) := eqi_e
    have e3 : ∀ i j : Int, neD (.int i) (.int j) = some (.bl (!decide (i = j))) := nei_e
    have q : eqD (.tup (.str ky :: r)) (.tup []) = some (.bl false) := by
      unfold eqD
      rw [if_pos ⟨(okd_60 h (by omega)).1, rfl⟩]
      rfl
    by_cases h1 : ky = [98, 97, 99, 107]
    · subst h1
      simp [gather, after, back, finR, outsG, isL, runF, truD, blD, MP.strOf, MP.intD, seqOf, ixD, lenD, cmpD, atI_zero, cutL_tail, slF, slD, itD, tupD, lstF, allF, lstD, frz, wipeE, back0, F__law_is_line, m__law_is_line, r__law_is_line, eqs_e, e2, q, lnB]
      cases r <;> simp <;> omega
    · by_cases h2 : ky = [103, 111] ∨ ky = [99, 97, 108, 108]
      · rcases r with _ | ⟨x, _ | ⟨y, r⟩⟩
        · rcases h2 with h2 | h2 <;> subst h2 <;> simp [gather, after, back, finR, outsG, isL, runF, truD, blD, MP.strOf, MP.intD, seqOf, ixD, lenD, cmpD, atI_zero, cutL_tail, slF, slD, itD, tupD, lstF, allF, lstD, frz, wipeE, back0, F__law_is_line, m__law_is_line, r__law_is_line, eqs_e, e2, q, h1, lnB]
        · have okx : okd (k' + 1) B (.tup [x]) = true := by
            simp only [okd, okds, Bool.and_eq_true, decide_eq_true_eq]
            simp at hl
            exact ⟨by simp; omega, hx x (by simp), trivial⟩
          have eb := numbers_e (n := n) okx hk (by omega)
          have eb2 : F__law_is_numbers [.p (.tup [x]), .p (.int n)] = .ok (.bl (below? n x)) [.p (.tup [x]), .p (.int n)] := by rw [eb]; simp
          rcases h2 with h2 | h2 <;> subst h2 <;> simp [gather, after, back, finR, outsG, isL, runF, truD, blD, MP.strOf, MP.intD, seqOf, ixD, lenD, cmpD, atI_zero, cutL_tail, slF, slD, itD, tupD, lstF, allF, lstD, frz, wipeE, back0, F__law_is_line, m__law_is_line, r__law_is_line, eqs_e, e2, q, h1, lnB, eb2]
        · have : ¬ ((r.length : Int) + 1 + 1 + 1 = 2) := by omega
          rcases h2 with h2 | h2 <;> subst h2 <;> simp [gather, after, back, finR, outsG, isL, runF, truD, blD, MP.strOf, MP.intD, seqOf, ixD, lenD, cmpD, atI_zero, cutL_tail, slF, slD, itD, tupD, lstF, allF, lstD, frz, wipeE, back0, F__law_is_line, m__law_is_line, r__law_is_line, eqs_e, e2, q, h1, lnB, this]
      · have h21 : ¬ ky = [103, 111] := fun z => h2 (.inl z)
        have h22 : ¬ ky = [99, 97, 108, 108] := fun z => h2 (.inr z)
        by_cases h3 : ky = [100, 111]
        · subst h3
          clear h1 h2 h21 h22
          rcases r with _ | ⟨x, _ | ⟨y, r⟩⟩
          · simp [gather, after, back, finR, outsG, isL, runF, truD, blD, MP.strOf, MP.intD, seqOf, ixD, lenD, cmpD, atI_zero, cutL_tail, slF, slD, itD, tupD, lstF, allF, lstD, frz, wipeE, back0, F__law_is_line, m__law_is_line, r__law_is_line, eqs_e, e2, q, lnB]
          · have eb := (isW_e (hx x (by simp)) (by omega)).2
            simp [gather, after, back, finR, outsG, isL, runF, truD, blD, MP.strOf, MP.intD, seqOf, ixD, lenD, cmpD, atI_zero, cutL_tail, slF, slD, itD, tupD, lstF, allF, lstD, frz, wipeE, back0, F__law_is_line, m__law_is_line, r__law_is_line, eqs_e, e2, q, lnB, at1, eb]
          · have : ¬ ((r.length : Int) + 1 + 1 + 1 = 2) := by omega
            simp [gather, after, back, finR, outsG, isL, runF, truD, blD, MP.strOf, MP.intD, seqOf, ixD, lenD, cmpD, atI_zero, cutL_tail, slF, slD, itD, tupD, lstF, allF, lstD, frz, wipeE, back0, F__law_is_line, m__law_is_line, r__law_is_line, eqs_e, e2, q, lnB, this]
        · by_cases h4 : ky = [97, 115, 107]
          · subst h4
            clear h1 h2 h21 h22 h3
            rcases r with _ | ⟨x, _ | ⟨y, _ | ⟨z, r⟩⟩⟩
            · simp [gather, after, back, finR, outsG, isL, runF, truD, blD, MP.strOf, MP.intD, seqOf, ixD, lenD, cmpD, atI_zero, cutL_tail, slF, slD, itD, tupD, lstF, allF, lstD, frz, wipeE, back0, F__law_is_line, m__law_is_line, r__law_is_line, eqs_e, nes_e, e2, e3, q, lnB]
            · simp [gather, after, back, finR, outsG, isL, runF, truD, blD, MP.strOf, MP.intD, seqOf, ixD, lenD, cmpD, atI_zero, cutL_tail, slF, slD, itD, tupD, lstF, allF, lstD, frz, wipeE, back0, F__law_is_line, m__law_is_line, r__law_is_line, eqs_e, nes_e, e2, e3, q, lnB]
            · have eb := (isW_e (hx x (by simp)) (by omega)).2
              have ec := numbers_d (n := n) (hx y (by simp)) (by omega) (by omega)
              cases hw : isW x with
              | false =>
                rw [hw] at eb
                simp [gather, after, back, finR, outsG, isL, runF, truD, blD, MP.strOf, MP.intD, seqOf, ixD, lenD, cmpD, atI_zero, cutL_tail, slF, slD, itD, tupD, lstF, allF, lstD, frz, wipeE, back0, F__law_is_line, m__law_is_line, r__law_is_line, eqs_e, nes_e, e2, e3, q, lnB, at1, eb, hw]
              | true =>
                rw [hw] at eb
                cases ha : allB n y with
                | false =>
                  rw [ha] at ec
                  simp [gather, after, back, finR, outsG, isL, runF, truD, blD, MP.strOf, MP.intD, seqOf, ixD, lenD, cmpD, atI_zero, cutL_tail, slF, slD, itD, tupD, lstF, allF, lstD, frz, wipeE, back0, F__law_is_line, m__law_is_line, r__law_is_line, eqs_e, nes_e, e2, e3, q, lnB, at1, at2, eb, ec, hw, ha]
                | true =>
                  rw [ha] at ec
                  obtain ⟨ys, rfl⟩ := len_allB ha
                  have g1 : decide ((1 : Int) ≤ (ys.length : Int)) = decide (1 ≤ ys.length) := by
                    by_cases h : 1 ≤ ys.length
                    · rw [decide_eq_true h, decide_eq_true (by omega)]
                    · rw [decide_eq_false h, decide_eq_false (by omega)]
                  have g2 : decide ((ys.length : Int) ≤ 4) = decide (ys.length ≤ 4) := by
                    by_cases h : ys.length ≤ 4
                    · rw [decide_eq_true h, decide_eq_true (by omega)]
                    · rw [decide_eq_false h, decide_eq_false (by omega)]
                  by_cases h5 : 1 ≤ ys.length
                  · simp [gather, after, back, finR, outsG, isL, runF, truD, blD, MP.strOf, MP.intD, seqOf, ixD, lenD, cmpD, atI_zero, cutL_tail, slF, slD, itD, tupD, lstF, allF, lstD, frz, wipeE, back0, F__law_is_line, m__law_is_line, r__law_is_line, eqs_e, nes_e, e2, e3, q, lnB, lnB.lenN', at1, at2, eb, ec, hw, ha, g1, g2, h5] <;> try rfl
                  · simp [gather, after, back, finR, outsG, isL, runF, truD, blD, MP.strOf, MP.intD, seqOf, ixD, lenD, cmpD, atI_zero, cutL_tail, slF, slD, itD, tupD, lstF, allF, lstD, frz, wipeE, back0, F__law_is_line, m__law_is_line, r__law_is_line, eqs_e, nes_e, e2, e3, q, lnB, lnB.lenN', at1, at2, eb, ec, hw, ha, g1, g2, h5] <;> try rfl
            · have : ¬ ((r.length : Int) + 1 + 1 + 1 + 1 = 3) := by omega
              simp [gather, after, back, finR, outsG, isL, runF, truD, blD, MP.strOf, MP.intD, seqOf, ixD, lenD, cmpD, atI_zero, cutL_tail, slF, slD, itD, tupD, lstF, allF, lstD, frz, wipeE, back0, F__law_is_line, m__law_is_line, r__law_is_line, eqs_e, nes_e, e2, e3, q, lnB, this]
          · simp [gather, after, back, finR, outsG, isL, runF, truD, blD, MP.strOf, MP.intD, seqOf, ixD, lenD, cmpD, atI_zero, cutL_tail, slF, slD, itD, tupD, lstF, allF, lstD, frz, wipeE, back0, F__law_is_line, m__law_is_line, r__law_is_line, eqs_e, nes_e, e2, e3, q, h1, h21, h22, h3, h4, lnB]
end LW

namespace LW
open PySem MP
/-! ### draws of data -/
theorem pickL_e (a b : Int) (xs : List D) (h0 : 0 < xs.length) (h1 : xs.length < 1073741824) : ∃ c a' b', c ∈ xs ∧ F__law_pick [.ml [.int a, .int b], .p (.lst xs)] = .ok c [.ml [.int a', .int b'], .p (.lst xs)] := by
  obtain ⟨r, a', b', r0, r1, e⟩ := take_e a b (xs.length : Int) (by omega) (by omega)
  obtain ⟨n, rfl⟩ : ∃ n : Nat, r = n := ⟨r.toNat, by omega⟩
  have hn : n < xs.length := by omega
  have at1 : L2.atI xs (n : Int) = some xs[n] := by rw [atI_nat]; exact List.getElem?_eq_getElem hn
  refine ⟨xs[n], a', b', List.getElem_mem hn, ?_⟩
  simp [gather, after, back, finR, outsG, isL, runF, truD, blD, MP.strOf, MP.intD, seqOf, ixD, lenD, cmpD, atI_zero, cutL_tail, slF, slD, itD, tupD, lstF, allF, lstD, frz, wipeE, back0, F__law_pick, m__law_pick, e, at1, r__law_pick]
theorem cut_ok {n : Nat} {B : Int} {xs : List D} (lo hi : Option Int) (h : ∀ x ∈ xs, okd n B x = true) : ∀ x ∈ cutL xs lo hi, okd n B x = true := fun x hx => by
  unfold cutL at hx
  exact h x (List.mem_of_mem_drop (List.mem_of_mem_take hx))
theorem okt {n : Nat} {B : Int} {xs : List D} (hl : (xs.length : Int) ≤ B) (h : ∀ x ∈ xs, okd n B x = true) : okd (n + 1) B (.tup xs) = true := by
  simp only [okd, Bool.and_eq_true, decide_eq_true_eq]
  exact ⟨hl, okds_iff.mpr h⟩
theorem addT {xs ys : List D} (h : xs.length + ys.length ≤ 1000000) : addD (.tup xs) (.tup ys) = some (.tup (xs ++ ys)) := if_pos h
theorem app_ok {n : Nat} {B : Int} {xs ys : List D} (h : ∀ x ∈ xs, okd n B x = true) (k : ∀ x ∈ ys, okd n B x = true) : ∀ x ∈ xs ++ ys, okd n B x = true := fun x hx => (List.mem_append.mp hx).elim (h x) (k x)
def sp0 : MS := (sSet 3 (mCall F__law_take [.r 0, .e (mBin addD (mUn lenD (mPeek 1)) (mC (.int 1)))]))
def sp1 (R : Fn) : MS := (sIf (mAndB (mTest (mBinL neD 1 (mTup mNil))) (mAndB (mTest (mBinL (cmpD fun i j => decide (j < i)) 2 (mC (.int 0)))) (mTest (mBin (cmpD fun i j => decide (j < i)) (mCall F__law_take [.r 0, .e (mC (.int 5))]) (mC (.int 0)))))) (sSeq (sSet 3 (mBin modD (mUn intF (mPeek 3)) (mUn lenD (mPeek 1)))) (sRet (mBin addD (mBin addD (mSlL slD 1 mNoPart (mPart (mVar 3))) (mTup (mCons (mCall R [.r 0, .e (mBinL ixD 1 (mPeek 3)), .e (mBinL subD 2 (mC (.int 1)))]) mNil))) (mSlL slD 1 (mPart (mBinL addD 3 (mC (.int 1)))) mNoPart)))) sNx)
def spTail : MS := (sSeq (sSet 4 (mCall F__law_take [.r 0, .e (mC (.int 8))])) (sSeq (sIf (mTest (mBinL eqD 4 (mC (.int 0)))) (sRetF (mUn lstF (mPeek 1))) sNx) (sSeq (sIf (mTest (mBinL eqD 4 (mC (.int 1)))) (sRet (mBin addD (mSlL slD 1 mNoPart (mPart (mVar 3))) (mSlL slD 1 (mPart (mBinL addD 3 (mC (.int 1)))) mNoPart))) sNx) (sSeq (sIf (mTest (mBinL eqD 4 (mC (.int 2)))) (sRet (mBin addD (mBin addD (mSlL slD 1 mNoPart (mPart (mVar 3))) (mSlL slD 1 (mPart (mVar 3)) (mPart (mBinL addD 3 (mC (.int 1)))))) (mSlL slD 1 (mPart (mVar 3)) mNoPart))) sNx) (sSeq (sIf (mTest (mBinL eqD 4 (mC (.int 3)))) (sRet (mBin addD (mSlL slD 1 (mPart (mVar 3)) mNoPart) (mSlL slD 1 mNoPart (mPart (mVar 3))))) sNx) (sSeq (sIf (mTest (mBinL eqD 4 (mC (.int 4)))) (sRet (mBinL addD 1 (mTup (mCons (mTup mNil) mNil)))) sNx) (sSeq (sIf (mTest (mBinL eqD 4 (mC (.int 5)))) (sRet (mBin addD (mBin addD (mSlL slD 1 mNoPart (mPart (mVar 3))) (mTup (mCons (mC (.int 0)) mNil))) (mSlL slD 1 (mPart (mVar 3)) mNoPart))) sNx) (sSeq (sIf (mTest (mBinL eqD 4 (mC (.int 6)))) (sRet (mBin addD (mSlL slD 1 mNoPart (mPart (mC (.int (-1))))) (mSlL slD 1 mNoPart (mPart (mC (.int 1)))))) sNx) (sRet (mC .non))))))))))
def spRest : MS := (sSeq (sIf (mTru (mUn (isiB "str") (mPeek 1))) (sRet (mCall F__law_pick [.r 0, .e (mFE (mLst (mCons (mBinL addD 1 (mC (.str [98]))) (mCons (mC (.str [])) (mCons (mSlL slD 1 (mPart (mC (.int 1))) mNoPart) (mCons (mBin addD (mC (.str [97])) (mPeek 1)) (mCons (mC (.int 0)) mNil)))))))])) sNx) (sSeq (sIf (mTru (mCall F__law_whole [.e (mVar 1)])) (sRet (mCall F__law_pick [.r 0, .e (mFE (mLst (mCons (mBinL addD 1 (mC (.int 1))) (mCons (mBinL subD 1 (mC (.int 1))) (mCons (mBinL (cmpD fun i j => decide (j < i)) 1 (mC (.int 0))) (mCons (mBin subD (mC (.int (-1))) (mPeek 1)) (mCons (mTup (mCons (mVar 1) mNil)) (mCons (mC .non) (mCons (mUn strF (mPeek 1)) (mCons (mBinL addD 1 (mC (.int 16))) mNil))))))))))])) sNx) (sRet (mCall F__law_pick [.r 0, .e (mFE (mLst (mCons (mC (.int 0)) (mCons (mTup mNil) (mCons (mC (.str [110, 111, 110, 101])) mNil)))))]))))
theorem sp_eq (R : Fn) : m__law_spoilt R = sSeq (sIf (mTru (mUn (isiB "tuple") (mPeek 1))) (sSeq sp0 (sSeq (sp1 R) spTail)) sNx) spRest := rfl
theorem cut_take {α : Type} (xs : List α) (n : Nat) : cutL xs none (some (n : Int)) = xs.take n := by
  unfold cutL
  rw [HT.sIx_nat]
  show (xs.drop 0).take (min n xs.length - 0) = _
  rw [List.drop_zero, Nat.sub_zero]
  by_cases h : n ≤ xs.length
  · rw [Nat.min_eq_left h]
  · rw [Nat.min_eq_right (by omega), List.take_of_length_le (Nat.le_refl _), List.take_of_length_le (by omega)]
theorem cut_drop {α : Type} (xs : List α) (n : Nat) : cutL xs (some (n : Int)) none = xs.drop n := by
  unfold cutL
  rw [HT.sIx_nat]
  show (xs.drop (min n xs.length)).take (xs.length - min n xs.length) = _
  by_cases h : n ≤ xs.length
  · rw [Nat.min_eq_left h, List.take_of_length_le (by rw [List.length_drop]; exact Nat.le_refl _)]
  · rw [Nat.min_eq_right (by omega), List.drop_of_length_le (Nat.le_refl _), List.drop_of_length_le (by omega), List.take_nil]
theorem cut_mid {α : Type} (xs : List α) (n : Nat) : (cutL xs (some (n : Int)) (some ((n + 1 : Nat) : Int))).length ≤ 1 := by
  unfold cutL
  rw [HT.sIx_nat, HT.sIx_nat, List.length_take]
  omega
theorem cut_drop1 {α : Type} (xs : List α) (n : Nat) : cutL xs (some ((n : Int) + 1)) none = xs.drop (n + 1) := cut_drop xs (n + 1)
theorem cut_m1 {α : Type} (xs : List α) : (cutL xs none (some (-1))).length ≤ xs.length := by
  unfold cutL
  rw [List.length_take, List.length_drop]
  omega
theorem cut_1 {α : Type} (xs : List α) : cutL xs none (some 1) = xs.take 1 := cut_take xs 1
theorem dig_len {v : Int} (h0 : -800 ≤ v) (h1 : v ≤ 800) : (digs v).length ≤ 4 := by
  have k : (List.range 1601).all (fun n => decide ((digs ((n : Int) - 800)).length ≤ 4)) = true := by decide +kernel
  have := List.all_eq_true.mp k (v + 800).toNat (by rw [List.mem_range]; omega)
  have e : (((v + 800).toNat : Nat) : Int) - 800 = v := by omega
  rw [e] at this
  simpa using this
theorem log_small {v : Int} (h0 : -800 ≤ v) (h1 : v ≤ 800) : v.natAbs.log2 < 1920 := by
  have h2 : v.natAbs.log2 ≤ v.natAbs := Nat.log2_le_self _
  omega
section
variable {k : Nat} {B : Int} {a b deep : Int}
theorem tail_e {xs : List D} {r : Int} (hB0 : 30 ≤ B) (hB : B ≤ 800) (hl : (xs.length : Int) ≤ B) (hx : ∀ x ∈ xs, okd k B x = true) (r0 : 0 ≤ r) (r1 : r ≤ xs.length) :
    ∃ w a' b' e', okd (k + 3) (B + 20) w = true ∧ (spTail [some (.ml [.int a, .int b]), some (.p (.tup xs)), some (.p (.int deep)), some (.p (.int r)), none] = .ok (.rt w) e' ∨ ∃ ws, w = .lst ws ∧ spTail [some (.ml [.int a, .int b]), some (.p (.tup xs)), some (.p (.int deep)), some (.p (.int r)), none] = .ok (.rtf ws) e') ∧ e'[0]? = some (some (.ml [.int a', .int b'])) := by
  obtain ⟨n, rfl⟩ : ∃ n : Nat, r = n := ⟨r.toNat, by omega⟩
  obtain ⟨h, a', b', h0, h1, e⟩ := take_e a b 8 (by omega) (by omega)
  have hx2 : ∀ x ∈ xs, okd (k + 2) (B + 20) x = true := fun x hx' => okd_mono k (k + 2) B (B + 20) x (by omega) (by omega) (hx x hx')
  have ad : addD (.int (n : Int)) (.int 1) = some (.int ((n : Int) + 1)) := rfl
  have tk : (xs.take n).length ≤ n := by rw [List.length_take]; omega
  have dr : (xs.drop n).length = xs.length - n := List.length_drop
  have dr1 : (xs.drop (n + 1)).length = xs.length - (n + 1) := List.length_drop
  have md : (cutL xs (some (n : Int)) (some ((n : Int) + 1))).length ≤ 1 := cut_mid xs n
  have okT : ∀ m, ∀ x ∈ xs.take m, okd (k + 2) (B + 20) x = true := fun m x hx' => hx2 x (List.mem_of_mem_take hx')
  have okD : ∀ m, ∀ x ∈ xs.drop m, okd (k + 2) (B + 20) x = true := fun m x hx' => hx2 x (List.mem_of_mem_drop hx')
  have okM : ∀ x ∈ cutL xs (some (n : Int)) (some ((n : Int) + 1)), okd (k + 2) (B + 20) x = true := cut_ok _ _ hx2
  have cases8 : h = 0 ∨ h = 1 ∨ h = 2 ∨ h = 3 ∨ h = 4 ∨ h = 5 ∨ h = 6 ∨ h = 7 := by omega
  rcases cases8 with rfl | rfl | rfl | rfl | rfl | rfl | rfl | rfl
  · refine ⟨.lst xs, a', b', _, ?_, .inr ⟨xs, rfl, by simp [gather, after, back, finR, outsG, isL, runF, truD, blD, MP.strOf, MP.intD, seqOf, ixD, lenD, cmpD, atI_zero, cutL_tail, slF, slD, itD, tupD, lstF, allF, lstD, frz, wipeE, back0, spTail, e, eqi_e]; exact rfl⟩, rfl⟩
    simp only [okd, Bool.and_eq_true, decide_eq_true_eq]
    exact ⟨by omega, okds_iff.mpr hx2⟩
  · have s1 : addD (.tup (xs.take n)) (.tup (xs.drop (n + 1))) = some (.tup (xs.take n ++ xs.drop (n + 1))) := addT (by omega)
    exact ⟨.tup (xs.take n ++ xs.drop (n + 1)), a', b', _, okt (by rw [List.length_append]; omega) (app_ok (okT _) (okD _)), .inl (by simp [gather, after, back, finR, outsG, isL, runF, truD, blD, MP.strOf, MP.intD, seqOf, ixD, lenD, cmpD, atI_zero, cutL_tail, slF, slD, itD, tupD, lstF, allF, lstD, frz, wipeE, back0, spTail, e, eqi_e, ad, cut_take, cut_drop, cut_drop1, s1]; exact rfl), rfl⟩
  · have s1 : addD (.tup (xs.take n)) (.tup (cutL xs (some (n : Int)) (some ((n : Int) + 1)))) = some (.tup (xs.take n ++ cutL xs (some (n : Int)) (some ((n : Int) + 1)))) := addT (by omega)
    have s2 : addD (.tup (xs.take n ++ cutL xs (some (n : Int)) (some ((n : Int) + 1)))) (.tup (xs.drop n)) = some (.tup ((xs.take n ++ cutL xs (some (n : Int)) (some ((n : Int) + 1))) ++ xs.drop n)) := addT (by rw [List.length_append]; omega)
    exact ⟨.tup ((xs.take n ++ cutL xs (some (n : Int)) (some ((n : Int) + 1))) ++ xs.drop n), a', b', _, okt (by rw [List.length_append, List.length_append]; omega) (app_ok (app_ok (okT _) okM) (okD _)), .inl (by simp only [spTail]; simp [gather, after, back, finR, outsG, isL, runF, truD, blD, MP.strOf, MP.intD, seqOf, ixD, lenD, cmpD, atI_zero, cutL_tail, slF, slD, itD, tupD, lstF, allF, lstD, frz, wipeE, back0, e, eqi_e, ad, cut_take, cut_drop, s1, s2, -List.append_assoc]; exact rfl), rfl⟩
  · have s1 : addD (.tup (xs.drop n)) (.tup (xs.take n)) = some (.tup (xs.drop n ++ xs.take n)) := addT (by omega)
    exact ⟨.tup (xs.drop n ++ xs.take n), a', b', _, okt (by rw [List.length_append]; omega) (app_ok (okD _) (okT _)), .inl (by simp [gather, after, back, finR, outsG, isL, runF, truD, blD, MP.strOf, MP.intD, seqOf, ixD, lenD, cmpD, atI_zero, cutL_tail, slF, slD, itD, tupD, lstF, allF, lstD, frz, wipeE, back0, spTail, e, eqi_e, ad, cut_take, cut_drop, cut_drop1, s1]; exact rfl), rfl⟩
  · have s1 : addD (.tup xs) (.tup [.tup []]) = some (.tup (xs ++ [.tup []])) := addT (by simp; omega)
    exact ⟨.tup (xs ++ [.tup []]), a', b', _, okt (by rw [List.length_append]; simp; omega) (app_ok hx2 fun x hx' => by
      have : x = .tup [] := by simpa using hx'
      rw [this]
      simp only [okd, okds, Bool.and_eq_true, decide_eq_true_eq]
      exact ⟨by simp; omega, trivial⟩), .inl (by simp [gather, after, back, finR, outsG, isL, runF, truD, blD, MP.strOf, MP.intD, seqOf, ixD, lenD, cmpD, atI_zero, cutL_tail, slF, slD, itD, tupD, lstF, allF, lstD, frz, wipeE, back0, spTail, e, eqi_e, s1]; exact rfl), rfl⟩
  · have s1 : addD (.tup (xs.take n)) (.tup [.int 0]) = some (.tup (xs.take n ++ [.int 0])) := addT (by simp only [List.length_cons, List.length_nil]; omega)
    have s2 : addD (.tup (xs.take n ++ [.int 0])) (.tup (xs.drop n)) = some (.tup ((xs.take n ++ [.int 0]) ++ xs.drop n)) := addT (by rw [List.length_append]; simp only [List.length_cons, List.length_nil]; omega)
    have ok0 : ∀ x ∈ [D.int 0], okd (k + 2) (B + 20) x = true := fun x hx' => by
      have : x = .int 0 := by simpa using hx'
      rw [this]
      simp only [okd, Bool.and_eq_true, decide_eq_true_eq]
      omega
    exact ⟨.tup ((xs.take n ++ [.int 0]) ++ xs.drop n), a', b', _, okt (by rw [List.length_append, List.length_append]; simp only [List.length_cons, List.length_nil]; omega) (app_ok (app_ok (okT _) ok0) (okD _)), .inl (by simp only [spTail]; simp [gather, after, back, finR, outsG, isL, runF, truD, blD, MP.strOf, MP.intD, seqOf, ixD, lenD, cmpD, atI_zero, cutL_tail, slF, slD, itD, tupD, lstF, allF, lstD, frz, wipeE, back0, e, eqi_e, ad, cut_take, cut_drop, s1, s2, -List.append_assoc]; exact rfl), rfl⟩
  · have l1 := cut_m1 xs
    have t1 : (xs.take 1).length ≤ 1 := by rw [List.length_take]; omega
    have s1 : addD (.tup (cutL xs none (some (-1)))) (.tup (xs.take 1)) = some (.tup (cutL xs none (some (-1)) ++ xs.take 1)) := addT (by omega)
    exact ⟨.tup (cutL xs none (some (-1)) ++ xs.take 1), a', b', _, okt (by rw [List.length_append]; omega) (app_ok (cut_ok _ _ hx2) (okT _)), .inl (by simp only [spTail]; simp [gather, after, back, finR, outsG, isL, runF, truD, blD, MP.strOf, MP.intD, seqOf, ixD, lenD, cmpD, atI_zero, cutL_tail, slF, slD, itD, tupD, lstF, allF, lstD, frz, wipeE, back0, e, eqi_e, cut_1, s1]; exact rfl), rfl⟩
  · exact ⟨.non, a', b', _, rfl, .inl (by simp [gather, after, back, finR, outsG, isL, runF, truD, blD, MP.strOf, MP.intD, seqOf, ixD, lenD, cmpD, atI_zero, cutL_tail, slF, slD, itD, tupD, lstF, allF, lstD, frz, wipeE, back0, spTail, e, eqi_e]; exact rfl), rfl⟩
end
end LW

namespace LW
open PySem MP
theorem add_i (i j : Int) : addD (.int i) (.int j) = some (.int (i + j)) := rfl
theorem sub_i (i j : Int) : subD (.int i) (.int j) = some (.int (i - j)) := rfl
theorem lt_i (i j : Int) : cmpD (fun i j => decide (j < i)) (.int i) (.int j) = some (.bl (decide (j < i))) := rfl
section
variable {B : Int}
theorem rest_str {R : Fn} {s : Tx} {a b deep : Int} {k : Nat} (hB0 : 30 ≤ B) (hB : B ≤ 800) (hs : (s.length : Int) ≤ B) : ∃ w a' b', okd (k + 3) (B + 20) w = true ∧ m__law_spoilt R [some (.ml [.int a, .int b]), some (.p (.str s)), some (.p (.int deep)), none, none] = .ok (.rt w) [some (.ml [.int a', .int b']), some (.p (.str s)), some (.p (.int deep)), none, none] := by
  have s1 : addD (.str s) (.str [98]) = some (.str (s ++ [98])) := if_pos (by simp only [List.length_cons, List.length_nil]; omega)
  have s2 : addD (.str [97]) (.str s) = some (.str (97 :: s)) := if_pos (by simp only [List.length_cons, List.length_nil]; omega)
  obtain ⟨c, a', b', hc, e⟩ := pickL_e a b [.str (s ++ [98]), .str [], .str (cutL s (some 1) none), .str (97 :: s), .int 0] (by simp) (by simp only [List.length_cons, List.length_nil]; omega)
  have l1 : (cutL s (some 1) none).length ≤ s.length := by
    unfold cutL
    rw [List.length_take, List.length_drop]
    omega
  refine ⟨c, a', b', ?_, ?_⟩
  · simp only [List.mem_cons, List.not_mem_nil, or_false] at hc
    rcases hc with rfl | rfl | rfl | rfl | rfl <;> simp [okd] <;> omega
  · rw [sp_eq]
    simp only [spRest]
    simp [gather, after, back, finR, outsG, isL, runF, truD, blD, MP.strOf, MP.intD, seqOf, ixD, lenD, cmpD, atI_zero, cutL_tail, slF, slD, itD, tupD, lstF, allF, lstD, frz, wipeE, back0, s1, s2, e]
theorem rest_int {R : Fn} {i : Int} {a b deep : Int} {k : Nat} (hB0 : 30 ≤ B) (hB : B ≤ 800) (h0 : -B ≤ i) (h1 : i ≤ B) : ∃ w a' b', okd (k + 3) (B + 20) w = true ∧ m__law_spoilt R [some (.ml [.int a, .int b]), some (.p (.int i)), some (.p (.int deep)), none, none] = .ok (.rt w) [some (.ml [.int a', .int b']), some (.p (.int i)), some (.p (.int deep)), none, none] := by
  have s1 : strF (.int i) = some (.str (digs i)) := if_pos (log_small (by omega) (by omega))
  obtain ⟨c, a', b', hc, e⟩ := pickL_e a b [.int (i + 1), .int (i - 1), .bl (decide (0 < i)), .int (-1 - i), .tup [.int i], .non, .str (digs i), .int (i + 16)] (by simp) (by simp only [List.length_cons, List.length_nil]; omega)
  have l1 : (digs i).length ≤ 4 := dig_len (by omega) (by omega)
  refine ⟨c, a', b', ?_, ?_⟩
  · simp only [List.mem_cons, List.not_mem_nil, or_false] at hc
    rcases hc with rfl | rfl | rfl | rfl | rfl | rfl | rfl | rfl <;> simp [okd, okds] <;> omega
  · rw [sp_eq]
    simp only [spRest]
    simp [gather, after, back, finR, outsG, isL, runF, truD, blD, MP.strOf, MP.intD, seqOf, ixD, lenD, cmpD, atI_zero, cutL_tail, slF, slD, itD, tupD, lstF, allF, lstD, frz, wipeE, back0, s1, whole_e, add_i, sub_i, lt_i, e]
theorem rest_other {R : Fn} {v : D} {a b deep : Int} {k n : Nat} (hB0 : 30 ≤ B) (hk : okd n B v = true) (hv : (match v with
      | .tup _ => false
      | .str _ => false
      | .int _ => false
      | _ => true) = true) : ∃ w a' b', okd (k + 3) (B + 20) w = true ∧ m__law_spoilt R [some (.ml [.int a, .int b]), some (.p v), some (.p (.int deep)), none, none] = .ok (.rt w) [some (.ml [.int a', .int b']), some (.p v), some (.p (.int deep)), none, none] := by
  obtain ⟨c, a', b', hc, e⟩ := pickL_e a b [.int 0, .tup [], .str [110, 111, 110, 101]] (by simp) (by simp only [List.length_cons, List.length_nil]; omega)
  have wh := whole_d (okd_plain hk)
  refine ⟨c, a', b', ?_, ?_⟩
  · simp only [List.mem_cons, List.not_mem_nil, or_false] at hc
    rcases hc with rfl | rfl | rfl <;> simp [okd, okds] <;> omega
  · rw [sp_eq]
    simp only [spRest]
    cases v with
    | tup xs => cases hv
    | str s => cases hv
    | int i => cases hv
    | ins c f => cases hk
    | non => simp [gather, after, back, finR, outsG, isL, runF, truD, blD, MP.strOf, MP.intD, seqOf, ixD, lenD, cmpD, atI_zero, cutL_tail, slF, slD, itD, tupD, lstF, allF, lstD, frz, wipeE, back0, wh, e]
    | bl x => simp [gather, after, back, finR, outsG, isL, runF, truD, blD, MP.strOf, MP.intD, seqOf, ixD, lenD, cmpD, atI_zero, cutL_tail, slF, slD, itD, tupD, lstF, allF, lstD, frz, wipeE, back0, wh, e]
    | lst xs => simp [gather, after, back, finR, outsG, isL, runF, truD, blD, MP.strOf, MP.intD, seqOf, ixD, lenD, cmpD, atI_zero, cutL_tail, slF, slD, itD, tupD, lstF, allF, lstD, frz, wipeE, back0, wh, e]
theorem spoilt_e (hB0 : 30 ≤ B) (hB : B ≤ 800) : ∀ (m k : Nat) (v : D) (a b deep : Int), k ≤ 20 → okd k B v = true → 0 ≤ deep → deep < m → ∃ w a' b', okd (k + 3) (B + 20) w = true ∧ Fr__law_spoilt m [.ml [.int a, .int b], .p v, .p (.int deep)] = .ok w [.ml [.int a', .int b'], .p v, .p (.int deep)]
  | 0, k, v, a, b, deep, _, _, h0, h1 => by omega
  | m + 1, k, v, a, b, deep, hk, hv, h0, h1 => by
    have wrap : ∀ w a' b', m__law_spoilt (Fr__law_spoilt m) [some (.ml [.int a, .int b]), some (.p v), some (.p (.int deep)), none, none] = .ok (.rt w) [some (.ml [.int a', .int b']), some (.p v), some (.p (.int deep)), none, none] → Fr__law_spoilt (m + 1) [.ml [.int a, .int b], .p v, .p (.int deep)] = .ok w [.ml [.int a', .int b'], .p v, .p (.int deep)] := fun w a' b' e => by
      simp [Fr__law_spoilt, gather, after, back, finR, outsG, isL, runF, truD, blD, MP.strOf, MP.intD, seqOf, ixD, lenD, cmpD, atI_zero, cutL_tail, slF, slD, itD, tupD, lstF, allF, lstD, frz, wipeE, back0, e, r__law_spoilt]
    cases v with
    | str s =>
      simp only [okd, decide_eq_true_eq] at hv
      obtain ⟨w, a', b', hw, e⟩ := rest_str (R := Fr__law_spoilt m) (a := a) (b := b) (deep := deep) (k := k) hB0 hB hv
      exact ⟨w, a', b', hw, wrap w a' b' e⟩
    | int i =>
      simp only [okd, Bool.and_eq_true, decide_eq_true_eq] at hv
      obtain ⟨w, a', b', hw, e⟩ := rest_int (R := Fr__law_spoilt m) (a := a) (b := b) (deep := deep) (k := k) hB0 hB hv.1 hv.2
      exact ⟨w, a', b', hw, wrap w a' b' e⟩
    | ins c f => cases hv
    | non =>
      obtain ⟨w, a', b', hw, e⟩ := rest_other (R := Fr__law_spoilt m) (a := a) (b := b) (deep := deep) (k := k) hB0 hv rfl
      exact ⟨w, a', b', hw, wrap w a' b' e⟩
    | bl x =>
      obtain ⟨w, a', b', hw, e⟩ := rest_other (R := Fr__law_spoilt m) (a := a) (b := b) (deep := deep) (k := k) hB0 hv rfl
      exact ⟨w, a', b', hw, wrap w a' b' e⟩
    | lst xs =>
      obtain ⟨w, a', b', hw, e⟩ := rest_other (R := Fr__law_spoilt m) (a := a) (b := b) (deep := deep) (k := k) hB0 hv rfl
      exact ⟨w, a', b', hw, wrap w a' b' e⟩
    | tup xs =>
      obtain ⟨k', rfl⟩ : ∃ k', k = k' + 1 := by
        cases k with
        | zero => cases hv
        | succ k' => exact ⟨k', rfl⟩
      have ly := (okd_60 hv (by omega)).1
      simp only [okd, Bool.and_eq_true, decide_eq_true_eq] at hv
      obtain ⟨hl, hx⟩ := hv
      rw [okds_iff] at hx
      have q : neD (.tup xs) (.tup []) = some (.bl (!xs.isEmpty)) := by
        unfold neD
        rw [if_pos ⟨ly, rfl⟩]
        show some (D.bl (!eqvDs _ [])) = _
        rw [eqvs_nilD]
      obtain ⟨r, a1, b1, r0, r1, e1⟩ := take_e a b ((xs.length : Int) + 1) (by omega) (by omega)
      have s0 : sp0 [some (.ml [.int a, .int b]), some (.p (.tup xs)), some (.p (.int deep)), none, none] = .ok .nx [some (.ml [.int a1, .int b1]), some (.p (.tup xs)), some (.p (.int deep)), some (.p (.int r)), none] := by
        simp [gather, after, back, finR, outsG, isL, runF, truD, blD, MP.strOf, MP.intD, seqOf, ixD, lenD, cmpD, atI_zero, cutL_tail, slF, slD, itD, tupD, lstF, allF, lstD, frz, wipeE, back0, sp0, add_i, e1]
      have fin : ∀ w e' a' b', e'[0]? = some (some (.ml [.int a', .int b'])) → (m__law_spoilt (Fr__law_spoilt m) [some (.ml [.int a, .int b]), some (.p (.tup xs)), some (.p (.int deep)), none, none] = .ok (.rt w) e' ∨ ∃ ws, w = .lst ws ∧ m__law_spoilt (Fr__law_spoilt m) [some (.ml [.int a, .int b]), some (.p (.tup xs)), some (.p (.int deep)), none, none] = .ok (.rtf ws) e') → Fr__law_spoilt (m + 1) [.ml [.int a, .int b], .p (.tup xs), .p (.int deep)] = .ok w [.ml [.int a', .int b'], .p (.tup xs), .p (.int deep)] := fun w e' a' b' h0 h => by
        rcases h with h | ⟨ws, rfl, h⟩
        · simp [Fr__law_spoilt, gather, after, back, finR, outsG, isL, runF, truD, blD, MP.strOf, MP.intD, seqOf, ixD, lenD, cmpD, atI_zero, cutL_tail, slF, slD, itD, tupD, lstF, allF, lstD, frz, wipeE, back0, h, r__law_spoilt, h0]
        · simp [Fr__law_spoilt, gather, after, back, finR, outsG, isL, runF, truD, blD, MP.strOf, MP.intD, seqOf, ixD, lenD, cmpD, atI_zero, cutL_tail, slF, slD, itD, tupD, lstF, allF, lstD, frz, wipeE, back0, h, r__law_spoilt, h0]
      have go : ∀ a2 b2, sp1 (Fr__law_spoilt m) [some (.ml [.int a1, .int b1]), some (.p (.tup xs)), some (.p (.int deep)), some (.p (.int r)), none] = .ok .nx [some (.ml [.int a2, .int b2]), some (.p (.tup xs)), some (.p (.int deep)), some (.p (.int r)), none] → ∃ w a' b', okd (k' + 1 + 3) (B + 20) w = true ∧ Fr__law_spoilt (m + 1) [.ml [.int a, .int b], .p (.tup xs), .p (.int deep)] = .ok w [.ml [.int a', .int b'], .p (.tup xs), .p (.int deep)] := fun a2 b2 e2 => by
        obtain ⟨w, a', b', e', hw, h, h0⟩ := tail_e (k := k') (B := B) (a := a2) (b := b2) (deep := deep) hB0 hB hl hx r0 (by omega)
        refine ⟨w, a', b', okd_mono _ _ _ _ _ (by omega) (Int.le_refl _) hw, fin w e' a' b' h0 ?_⟩
        rcases h with h | ⟨ws, rfl, h⟩
        · refine .inl ?_
          rw [sp_eq]
          simp [gather, after, back, finR, outsG, isL, runF, truD, blD, MP.strOf, MP.intD, seqOf, ixD, lenD, cmpD, atI_zero, cutL_tail, slF, slD, itD, tupD, lstF, allF, lstD, frz, wipeE, back0, s0, e2, h]
        · refine .inr ⟨ws, rfl, ?_⟩
          rw [sp_eq]
          simp [gather, after, back, finR, outsG, isL, runF, truD, blD, MP.strOf, MP.intD, seqOf, ixD, lenD, cmpD, atI_zero, cutL_tail, slF, slD, itD, tupD, lstF, allF, lstD, frz, wipeE, back0, s0, e2, h]
      by_cases hn : xs = []
      · exact go a1 b1 (by subst hn; simp [gather, after, back, finR, outsG, isL, runF, truD, blD, MP.strOf, MP.intD, seqOf, ixD, lenD, cmpD, atI_zero, cutL_tail, slF, slD, itD, tupD, lstF, allF, lstD, frz, wipeE, back0, sp1, q])
      · have hn' : xs.isEmpty = false := by simpa using hn
        have hpos : 0 < xs.length := List.length_pos_iff.mpr hn
        by_cases hd : 0 < deep
        · obtain ⟨r5, a2, b2, r50, r51, e5⟩ := take_e a1 b1 5 (by omega) (by omega)
          by_cases h5 : 0 < r5
          · obtain ⟨n, hnr⟩ : ∃ n : Nat, r % (xs.length : Int) = n := ⟨(r % (xs.length : Int)).toNat, by
              have := Int.emod_nonneg r (b := (xs.length : Int)) (by omega)
              omega⟩
            have nlt : n < xs.length := by
              have := Int.emod_lt_of_pos r (b := (xs.length : Int)) (by omega)
              omega
            obtain ⟨w, a', b', hw, e3⟩ := spoilt_e hB0 hB m k' xs[n] a2 b2 (deep - 1) (by omega) (hx _ (List.getElem_mem nlt)) (by omega) (by omega)
            have md : modD (.int r) (.int (xs.length : Int)) = some (.int n) := by rw [mod_e (by omega), hnr]
            have at1 : L2.atI xs (n : Int) = some xs[n] := by rw [atI_nat]; exact List.getElem?_eq_getElem nlt
            have tk : (xs.take n).length ≤ n := by rw [List.length_take]; omega
            have dr1 : (xs.drop (n + 1)).length = xs.length - (n + 1) := List.length_drop
            have ie : ∀ i : Int, intF (.int i) = some (.int i) := fun _ => rfl
            have p1 : addD (.tup (xs.take n)) (.tup [w]) = some (.tup (xs.take n ++ [w])) := addT (by simp only [List.length_cons, List.length_nil]; omega)
            have p2 : addD (.tup (xs.take n ++ [w])) (.tup (xs.drop (n + 1))) = some (.tup ((xs.take n ++ [w]) ++ xs.drop (n + 1))) := addT (by rw [List.length_append]; simp only [List.length_cons, List.length_nil]; omega)
            have hx3 : ∀ x ∈ xs, okd (k' + 3) (B + 20) x = true := fun x hx' => okd_mono k' (k' + 3) B (B + 20) x (by omega) (by omega) (hx x hx')
            have okw : ∀ x ∈ [w], okd (k' + 3) (B + 20) x = true := fun x hx' => by
              have : x = w := by simpa using hx'
              rw [this]
              exact hw
            have r1e : sp1 (Fr__law_spoilt m) [some (.ml [.int a1, .int b1]), some (.p (.tup xs)), some (.p (.int deep)), some (.p (.int r)), none] = .ok (.rt (.tup ((xs.take n ++ [w]) ++ xs.drop (n + 1)))) [some (.ml [.int a', .int b']), some (.p (.tup xs)), some (.p (.int deep)), some (.p (.int n)), none] := by
              simp only [sp1]
              simp [gather, after, back, finR, outsG, isL, runF, truD, blD, MP.strOf, MP.intD, seqOf, ixD, lenD, cmpD, atI_zero, cutL_tail, slF, slD, itD, tupD, lstF, allF, lstD, frz, wipeE, back0, q, hn', lt_i, hd, e5, h5, ie, md, at1, sub_i, e3, cut_take, p1, add_i, cut_drop1, p2, -List.append_assoc]
            refine ⟨.tup ((xs.take n ++ [w]) ++ xs.drop (n + 1)), a', b', okt (n := k' + 3) (by rw [List.length_append, List.length_append]; simp only [List.length_cons, List.length_nil]; omega) (app_ok (app_ok (fun x h => hx3 x (List.mem_of_mem_take h)) okw) (fun x h => hx3 x (List.mem_of_mem_drop h))), fin _ [some (.ml [.int a', .int b']), some (.p (.tup xs)), some (.p (.int deep)), some (.p (.int n)), none] a' b' rfl (.inl ?_)⟩
            · rw [sp_eq]
              simp [gather, after, back, finR, outsG, isL, runF, truD, blD, MP.strOf, MP.intD, seqOf, ixD, lenD, cmpD, atI_zero, cutL_tail, slF, slD, itD, tupD, lstF, allF, lstD, frz, wipeE, back0, s0, r1e, -List.append_assoc]
          · exact go a2 b2 (by simp only [sp1]; simp [gather, after, back, finR, outsG, isL, runF, truD, blD, MP.strOf, MP.intD, seqOf, ixD, lenD, cmpD, atI_zero, cutL_tail, slF, slD, itD, tupD, lstF, allF, lstD, frz, wipeE, back0, q, hn', lt_i, hd, e5, h5])
        · exact go a1 b1 (by simp only [sp1]; simp [gather, after, back, finR, outsG, isL, runF, truD, blD, MP.strOf, MP.intD, seqOf, ixD, lenD, cmpD, atI_zero, cutL_tail, slF, slD, itD, tupD, lstF, allF, lstD, frz, wipeE, back0, q, hn', lt_i, hd])
end
end LW

namespace LW
open PySem MP
theorem target_e (a b at' : Int) (p : Bool) (h0 : 0 ≤ at') (h1 : at' < 12) : ∃ j a' b', 0 ≤ j ∧ j < 12 ∧ F__law_target [.ml [.int a, .int b], .p (.int at'), .p (.int 12), .p (.bl p)] = .ok (.int j) [.ml [.int a', .int b'], .p (.int at'), .p (.int 12), .p (.bl p)] := by
  have ss : subD (.int 12) (.int 1) = some (.int 11) := rfl
  cases p with
  | false =>
    obtain ⟨r, a', b', r0, r1, e⟩ := take_e a b 12 (by omega) (by omega)
    exact ⟨r, a', b', r0, r1, by simp [gather, after, back, finR, outsG, isL, runF, truD, blD, MP.strOf, MP.intD, seqOf, ixD, lenD, cmpD, atI_zero, cutL_tail, slF, slD, itD, tupD, lstF, allF, lstD, frz, wipeE, back0, F__law_target, m__law_target, e, r__law_target]⟩
  | true =>
    obtain ⟨r, a1, b1, r0, r1, e⟩ := take_e a b 4 (by omega) (by omega)
    by_cases hr : 0 < r
    · obtain ⟨r2, a2, b2, r20, r21, e2⟩ := take_e a1 b1 4 (by omega) (by omega)
      have mn : min2F [.int 11, .int (at' + 1 + r2)] = some (.int (if at' + 1 + r2 < 11 then at' + 1 + r2 else 11)) := rfl
      refine ⟨if at' + 1 + r2 < 11 then at' + 1 + r2 else 11, a2, b2, by split <;> omega, by split <;> omega, ?_⟩
      simp only [F__law_target, m__law_target]
      simp [gather, after, back, finR, outsG, isL, runF, truD, blD, MP.strOf, MP.intD, seqOf, ixD, lenD, cmpD, atI_zero, cutL_tail, slF, slD, itD, tupD, lstF, allF, lstD, frz, wipeE, back0, e, lt_i, hr, ss, add_i, e2, mn, r__law_target, -Int.add_assoc, -ite_eq_left_iff]
    · obtain ⟨r2, a2, b2, r20, r21, e2⟩ := take_e a1 b1 12 (by omega) (by omega)
      refine ⟨r2, a2, b2, r20, r21, ?_⟩
      simp only [F__law_target, m__law_target]
      simp [gather, after, back, finR, outsG, isL, runF, truD, blD, MP.strOf, MP.intD, seqOf, ixD, lenD, cmpD, atI_zero, cutL_tail, slF, slD, itD, tupD, lstF, allF, lstD, frz, wipeE, back0, e, lt_i, hr, e2, r__law_target]
def odds1 (t m : Int) : List D := [.tup [.str [103, 111], .int t], .tup [.str [99, 97, 108, 108], .int t], .tup [.str [97, 115, 107], .str [97], .tup []], .tup [.str [97, 115, 107], .str [97], .tup [.int m, .int m, .int m, .int m, .int m]], .tup [.str [97, 115, 107], .str [97], .lst [.int m]], .tup [.str [100, 111]], .tup [.str [100, 111], .str [97, 98, 99, 100, 101]]]
def odds2 (m : Int) : List D := [.tup [.str [100, 111], .str [97, 46, 49, 54]], .tup [.str [98, 97, 99, 107], .int 0], .lst [.str [98, 97, 99, 107]], .tup [.str [103, 111], .int (-1)], .tup [.str [103, 111], .bl true], .tup [.str [68, 111], .str [97]], .tup [.str [97, 115, 107], .str [97, 46, 49, 62, 50], .tup [.int m]], .non, .tup [.str [99, 97, 108, 108], .int m]]
theorem cat_e {xs ys : List D} (h : xs.length + ys.length ≤ 1000000) : catD (.lst xs) (.lst ys) = some (xs ++ ys) := if_pos h
theorem odd_e (a b t : Int) (h0 : 1 ≤ t) (h1 : t ≤ 32) : ∃ w a' b', okd 3 50 w = true ∧ F__law_odd_line [.ml [.int a, .int b], .p (.int t)] = .ok w [.ml [.int a', .int b'], .p (.int t)] := by
  obtain ⟨r, a1, b1, r0, r1, e⟩ := take_e a b 16 (by omega) (by omega)
  obtain ⟨m, a2, b2, m0, m1, e2⟩ := take_e a1 b1 (t + 2) (by omega) (by omega)
  obtain ⟨n, rfl⟩ : ∃ n : Nat, r = n := ⟨r.toNat, by omega⟩
  have hn : n < (odds1 t m ++ odds2 m).length := by simp [odds1, odds2]; omega
  have at1 : L2.atI (odds1 t m ++ odds2 m) (n : Int) = some (odds1 t m ++ odds2 m)[n] := by rw [atI_nat]; exact List.getElem?_eq_getElem hn
  have ct : catD (.lst (odds1 t m)) (.lst (odds2 m)) = some (odds1 t m ++ odds2 m) := cat_e (by simp [odds1, odds2])
  have hok : ∀ x ∈ odds1 t m ++ odds2 m, okd 3 50 x = true := fun x hx => by
    simp only [odds1, odds2, List.cons_append, List.nil_append, List.mem_cons, List.not_mem_nil, or_false] at hx
    rcases hx with rfl | rfl | rfl | rfl | rfl | rfl | rfl | rfl | rfl | rfl | rfl | rfl | rfl | rfl | rfl | rfl <;> simp [okd, okds] <;> omega
  refine ⟨(odds1 t m ++ odds2 m)[n], a2, b2, hok _ (List.getElem_mem hn), ?_⟩
  generalize (odds1 t m ++ odds2 m)[n] = w at *
  generalize odds1 t m ++ odds2 m = oo at ct at1
  unfold odds1 odds2 at ct
  simp only [F__law_odd_line, m__law_odd_line]
  simp [gather, after, back, finR, outsG, isL, runF, truD, blD, MP.strOf, MP.intD, seqOf, ixD, lenD, cmpD, atI_zero, cutL_tail, slF, slD, itD, tupD, lstF, allF, lstD, frz, wipeE, back0, e, add_i, e2, u_sSetF, u_mBinFL, ct, at1, r__law_odd_line]
/-- a name as it is drawn -/
def nmd (d : D) : Prop := ∃ w : Tx, d = .str w ∧ w.length ≤ 40
theorem az_find (c : Nat) (h : c ∈ letters) : eqD (.str [c]) (.str [122]) = some (.bl (decide (c = 122))) := by
  rw [eqs_e]
  simp
theorem az_next (c : Nat) (h : c ∈ letters) (hz : c ≠ 122) : ∃ d, (∃ i, findF letters (.str [c]) = some (.int i) ∧ L2.atI letters (i + 1) = some d) := by
  refine ⟨c + 1, ?_⟩
  have k : letters.all (fun c => decide (c = 122) || (match findF letters (.str [c]) with
    | some (.int i) => (match L2.atI letters (i + 1) with
      | some t => decide (t = c + 1)
      | _ => false)
    | _ => false)) = true := by decide +kernel
  have := List.all_eq_true.mp k c h
  have hz' : decide (c = 122) = false := by simpa using hz
  rw [hz', Bool.false_or] at this
  split at this
  · rename_i i hi
    split at this
    · rename_i t ht
      exact ⟨i, hi, by rw [ht]; simpa using this⟩
    · cases this
  · cases this
theorem pool_e (a b : Int) : ∃ x y z a' b', nmd x ∧ nmd y ∧ nmd z ∧ F__law_pool [.ml [.int a, .int b]] = .ok (.lst [x, y, z]) [.ml [.int a', .int b']] := by
  obtain ⟨f, rs, ws, a1, b1, hf, hf1, hf4, hr, hw, h1, h2, e1⟩ := word_e a b
  obtain ⟨f2, rs2, ws2, a2, b2, _, _, hf42, hr2, hw2, h12, h22, e2⟩ := word_e a1 b1
  have ml := mk_len hf4 hr hw h1 h2
  have ml2 := mk_len hf42 hr2 hw2 h12 h22
  obtain ⟨c, w', ew, hc⟩ : ∃ c w', mk f rs ws = c :: w' ∧ c ∈ letters := by
    cases f with
    | nil => simp at hf1
    | cons c f => exact ⟨c, _, rfl, hf c List.mem_cons_self⟩
  rw [ew] at e1 ml
  generalize mk f2 rs2 ws2 = v at *
  have lw : w'.length ≤ 15 := by simpa using ml
  have ix0 : L2.atI (c :: w') 0 = some c := atI_zero c w'
  have ct : cutL (c :: w') (some 1) none = w' := cutL_tail c w'
  have az := az_find c hc
  by_cases hz : c = 122
  · subst hz
    have az : eqD (.str [122]) (.str [122]) = some (.bl true) := rfl
    have ad : addD (.str [97]) (.str w') = some (.str (97 :: w')) := add_s (by simp; omega)
    refine ⟨.str (122 :: w'), .str (97 :: w'), .str v, a2, b2, ⟨_, rfl, by simp; omega⟩, ⟨_, rfl, by simp; omega⟩, ⟨_, rfl, by omega⟩, ?_⟩
    simp only [F__law_pool, m__law_pool]
    simp [gather, after, back, finR, outsG, isL, runF, truD, blD, MP.strOf, MP.intD, seqOf, ixD, lenD, cmpD, atI_zero, cutL_tail, slF, slD, itD, tupD, lstF, allF, lstD, frz, wipeE, back0, e1, ix0, az, ct, ad, e2, r__law_pool]
  · obtain ⟨d, i, hi, hd⟩ := az_next c hc hz
    unfold letters at hi hd
    have ad : addD (.str [d]) (.str w') = some (.str (d :: w')) := add_s (by simp; omega)
    refine ⟨.str (c :: w'), .str (d :: w'), .str v, a2, b2, ⟨_, rfl, by simp; omega⟩, ⟨_, rfl, by simp; omega⟩, ⟨_, rfl, by omega⟩, ?_⟩
    simp only [F__law_pool, m__law_pool]
    simp [gather, after, back, finR, outsG, isL, runF, truD, blD, MP.strOf, MP.intD, seqOf, ixD, lenD, cmpD, atI_zero, cutL_tail, slF, slD, itD, tupD, lstF, allF, lstD, frz, wipeE, back0, e1, ix0, az, hz, ct, hi, add_i, hd, ad, e2, r__law_pool]
end LW

namespace LW
open PySem MP
def shp (d : D) : Prop := d = .tup [.str [98, 97, 99, 107]] ∨ (∃ j : Int, (0 ≤ j ∧ j < 12) ∧ d = .tup [.str [103, 111], .int j]) ∨ (∃ j : Int, (0 ≤ j ∧ j < 12) ∧ d = .tup [.str [99, 97, 108, 108], .int j]) ∨ (∃ w, nmd w ∧ d = .tup [.str [100, 111], w]) ∨ ∃ w, ∃ js : List Int, nmd w ∧ js.length ≤ 4 ∧ (∀ j ∈ js, 0 ≤ j ∧ j < 12) ∧ d = .tup [.str [97, 115, 107], w, .tup (js.map D.int)]
theorem own1_e (i : Nat) (f : D → List D → Option (D × List D)) (m : M D) (e e1 : En) (xs ys : List D) (x d : D) (h0 : e[i]? = some (some (.ml xs))) (h1 : m e = .ok x e1) (h2 : e1[i]? = some (some (.ml xs))) (h3 : f x xs = some (d, ys)) : mOwn1 i f m e = .ok d (e1.set i (some (.ml ys))) := by
  have c : chkO i e = .ok () e := by simp [chkO, h0]
  have o : ownD i e1 = some xs := by simp [ownD, h2]
  show (chkO i >>= fun _ => m >>= fun x => mOwn i (f x)) e = _
  rw [bnd, c]
  show (m >>= fun x => mOwn i (f x)) e = _
  rw [bnd, h1]
  show mOwn i (f x) e1 = _
  simp [mOwn, o, h3]
namespace RW
def Ask : MS := (sSeq (sSet 9 (mTup (mCons (mCall F__law_target [.r 0, .e (mVar 6), .e (mVar 1), .e (mVar 4)]) mNil))) (sSeq (sFor (mArgs rngD1 (mCons (mBin ixD (mFE (mLst (mCons (mC (.int 0)) (mCons (mC (.int 0)) (mCons (mC (.int 0)) (mCons (mC (.int 1)) (mCons (mC (.int 2)) (mCons (mC (.int 3)) mNil)))))))) (mCall F__law_take [.r 0, .e (mC (.int 6))])) mNil)) (.nm 10) (sSet 9 (mBinL addD 9 (mTup (mCons (mCall F__law_target [.r 0, .e (mVar 6), .e (mVar 1), .e (mVar 4)]) mNil))))) (sSet 8 (mTup (mCons (mC (.str [97, 115, 107])) (mCons (mCall F__law_pick [.r 0, .e (mVar 2)]) (mCons (mVar 9) mNil)))))))
def q0 : MS := (sSet 3 (mCall F__law_pick [.r 0, .e (mFE (mLst (mCons (mC (.str [98, 98, 98, 100, 100, 100, 100, 100, 100, 97, 97, 97, 99, 99, 99, 103])) (mCons (mC (.str [98, 100, 100, 100, 100, 100, 100, 100, 97, 97, 97, 99, 99, 99, 99, 103])) (mCons (mC (.str [100, 100, 100, 100, 100, 100, 100, 100, 100, 100, 100, 97, 97, 99, 99, 103])) (mCons (mC (.str [100, 100, 100, 100, 100, 100, 100, 100, 100, 100, 100, 100, 100, 100, 97, 99])) mNil))))))]))
def q1 : MS := (sSet 4 (mBin eqD (mCall F__law_take [.r 0, .e (mC (.int 2))]) (mC (.int 1))))
def q2 : MS := (sSetF 5 (mLst mNil))
def q3_src : M (List D) := (mArgs rngD1 (mCons (mVar 1) mNil))
def q3_0 : MS := (sSet 7 (mCall F__law_pick [.r 0, .e (mVar 3)]))
def q3_1 : MS := (sIf (mTest (mBinL eqD 6 (mBinL subD 1 (mC (.int 1))))) (sSet 8 (mIf (mTest (mBin (cmpD fun i j => decide (j < i)) (mCall F__law_take [.r 0, .e (mC (.int 4))]) (mC (.int 0)))) (mTup (mCons (mC (.str [98, 97, 99, 107])) mNil)) (mTup (mCons (mC (.str [103, 111])) (mCons (mCall F__law_take [.r 0, .e (mVar 1)]) mNil))))) (sIf (mTest (mBinL eqD 7 (mC (.str [98])))) (sSet 8 (mTup (mCons (mC (.str [98, 97, 99, 107])) mNil))) (sIf (mTest (mBinL eqD 7 (mC (.str [100])))) (sSet 8 (mTup (mCons (mC (.str [100, 111])) (mCons (mCall F__law_pick [.r 0, .e (mVar 2)]) mNil)))) (sIf (mTest (mBinL eqD 7 (mC (.str [97])))) Ask (sSet 8 (mTup (mCons (mIf (mTest (mBinL eqD 7 (mC (.str [99])))) (mC (.str [99, 97, 108, 108])) (mC (.str [103, 111]))) (mCons (mCall F__law_target [.r 0, .e (mVar 6), .e (mVar 1), .e (mVar 4)]) mNil))))))))
def q3_2 : MS := (sDrop (mOwn1 5 appF (mVar 8)))
def q3_ : MS := (sSeq q3_0 (sSeq q3_1 q3_2))
def q3 : MS := sFor q3_src (.nm 6) q3_
def q4 : MS := (sRetX 5)
def q : MS := (sSeq q0 (sSeq q1 (sSeq q2 (sSeq q3 q4))))

theorem q_eq : m__law_raw = q := rfl
section
variable {a b : Int} {pl : List D} {x3 x4 x5 x6 x7 x8 x9 x10 : Option Val}
theorem s_0 : ∃ sh a' b', sh.length = 16 ∧ q0 [some (.ml [.int a, .int b]), some (.p (.int 12)), some (.p (.lst pl)), x3, x4, x5, x6, x7, x8, x9, x10] = .ok .nx [some (.ml [.int a', .int b']), some (.p (.int 12)), some (.p (.lst pl)), some (.p (.str sh)), x4, x5, x6, x7, x8, x9, x10] := by
  obtain ⟨c, a', b', hc, e⟩ := pickL_e a b [.str [98, 98, 98, 100, 100, 100, 100, 100, 100, 97, 97, 97, 99, 99, 99, 103], .str [98, 100, 100, 100, 100, 100, 100, 100, 97, 97, 97, 99, 99, 99, 99, 103], .str [100, 100, 100, 100, 100, 100, 100, 100, 100, 100, 100, 97, 97, 99, 99, 103], .str [100, 100, 100, 100, 100, 100, 100, 100, 100, 100, 100, 100, 100, 100, 97, 99]] (by simp) (by simp)
  obtain ⟨sh, rfl, hs⟩ : ∃ sh : Tx, c = .str sh ∧ sh.length = 16 := by
    simp only [List.mem_cons, List.not_mem_nil, or_false] at hc
    rcases hc with rfl | rfl | rfl | rfl <;> exact ⟨_, rfl, rfl⟩
  exact ⟨sh, a', b', hs, by simp [gather, after, back, finR, outsG, isL, runF, truD, blD, MP.strOf, MP.intD, seqOf, ixD, lenD, cmpD, atI_zero, cutL_tail, slF, slD, itD, tupD, lstF, allF, lstD, frz, wipeE, back0, q0, e]⟩
theorem s_1 : ∃ p a' b', q1 [some (.ml [.int a, .int b]), some (.p (.int 12)), some (.p (.lst pl)), x3, x4, x5, x6, x7, x8, x9, x10] = .ok .nx [some (.ml [.int a', .int b']), some (.p (.int 12)), some (.p (.lst pl)), x3, some (.p (.bl p)), x5, x6, x7, x8, x9, x10] := by
  obtain ⟨r, a', b', _, _, e⟩ := take_e a b 2 (by omega) (by omega)
  exact ⟨decide (r = 1), a', b', by simp [gather, after, back, finR, outsG, isL, runF, truD, blD, MP.strOf, MP.intD, seqOf, ixD, lenD, cmpD, atI_zero, cutL_tail, slF, slD, itD, tupD, lstF, allF, lstD, frz, wipeE, back0, q1, e, eqi_e]⟩
theorem s_ask {p : Bool} {i : Int} {ch : Nat} (hp : 0 < pl.length) (hp2 : pl.length ≤ 10) (hn : ∀ x ∈ pl, nmd x) (i0 : 0 ≤ i) (i1 : i < 12) : ∃ d a' b' y9 y10, shp d ∧ Ask [some (.ml [.int a, .int b]), some (.p (.int 12)), some (.p (.lst pl)), x3, some (.p (.bl p)), x5, some (.p (.int i)), x7, x8, x9, x10] = .ok .nx [some (.ml [.int a', .int b']), some (.p (.int 12)), some (.p (.lst pl)), x3, some (.p (.bl p)), x5, some (.p (.int i)), x7, some (.p d), y9, y10] := by
  obtain ⟨j, a1, b1, j0, j1, e1⟩ := target_e a b i p i0 i1
  obtain ⟨r, a2, b2, r0, r1, e2⟩ := take_e a1 b1 6 (by omega) (by omega)
  obtain ⟨m, m0, m3, em⟩ : ∃ m : Int, 0 ≤ m ∧ m ≤ 3 ∧ L2.atI [D.int 0, .int 0, .int 0, .int 1, .int 2, .int 3] r = some (.int m) := by
    have : r = 0 ∨ r = 1 ∨ r = 2 ∨ r = 3 ∨ r = 4 ∨ r = 5 := by omega
    rcases this with rfl | rfl | rfl | rfl | rfl | rfl <;> exact ⟨_, by decide, by decide, rfl⟩
  have g : rngD1 [.int m] = some (rng 0 m.toNat) := rng1_e m0 (by omega)
  obtain ⟨e', h1, a3, b3, js, y10, rfl, hl, hj⟩ := loop_ix (tg := .nm 10) (body := sSet 9 (mBinL addD 9 (mTup (mCons (mCall F__law_target [.r 0, .e (mVar 6), .e (mVar 1), .e (mVar 4)]) mNil)))) (ds := rng 0 m.toNat) (n := 3) (Q := fun k e => ∃ (a b : Int) (js : List Int) (y10 : Option Val), e = [some (.ml [.int a, .int b]), some (.p (.int 12)), some (.p (.lst pl)), x3, some (.p (.bl p)), x5, some (.p (.int i)), x7, x8, some (.p (.tup (js.map D.int))), y10] ∧ js.length = k + 1 ∧ ∀ j ∈ js, 0 ≤ j ∧ j < 12) 0 (by rw [rng_n]; omega) (fun d hd k e hk q => by
    obtain ⟨a, b, js, y10, rfl, hl, hj⟩ := q
    obtain ⟨j, a1, b1, j0, j1, e1⟩ := target_e a b i p i0 i1
    have ad : addD (.tup (js.map D.int)) (.tup [.int j]) = some (.tup (js.map D.int ++ [.int j])) := addT (by simp; omega)
    refine ⟨_, _, rfl, by simp [gather, after, back, finR, outsG, isL, runF, truD, blD, MP.strOf, MP.intD, seqOf, ixD, lenD, cmpD, atI_zero, cutL_tail, slF, slD, itD, tupD, lstF, allF, lstD, frz, wipeE, back0, e1, ad]; exact rfl, a1, b1, js ++ [j], _, by simp; exact rfl, by simp [hl], fun x hx => ?_⟩
    rcases List.mem_append.mp hx with h | h
    · exact hj x h
    · have : x = j := by simpa using h
      rw [this]; exact ⟨j0, j1⟩) [some (.ml [.int a2, .int b2]), some (.p (.int 12)), some (.p (.lst pl)), x3, some (.p (.bl p)), x5, some (.p (.int i)), x7, x8, some (.p (.tup [.int j])), x10] ⟨a2, b2, [j], x10, rfl, rfl, fun x hx => by
    have : x = j := by simpa using hx
    rw [this]; exact ⟨j0, j1⟩⟩
  rw [rng_n] at hl
  have F : sFor (mArgs rngD1 (mCons (mBin ixD (mFE (mLst (mCons (mC (.int 0)) (mCons (mC (.int 0)) (mCons (mC (.int 0)) (mCons (mC (.int 1)) (mCons (mC (.int 2)) (mCons (mC (.int 3)) mNil)))))))) (mCall F__law_take [.r 0, .e (mC (.int 6))])) mNil)) (.nm 10) (sSet 9 (mBinL addD 9 (mTup (mCons (mCall F__law_target [.r 0, .e (mVar 6), .e (mVar 1), .e (mVar 4)]) mNil)))) [some (.ml [.int a1, .int b1]), some (.p (.int 12)), some (.p (.lst pl)), x3, some (.p (.bl p)), x5, some (.p (.int i)), x7, x8, some (.p (.tup [.int j])), x10] = .ok .nx [some (.ml [.int a3, .int b3]), some (.p (.int 12)), some (.p (.lst pl)), x3, some (.p (.bl p)), x5, some (.p (.int i)), x7, x8, some (.p (.tup (js.map D.int))), y10] :=
    for_ok (by simp [gather, after, back, finR, outsG, isL, runF, truD, blD, MP.strOf, MP.intD, seqOf, ixD, lenD, cmpD, atI_zero, cutL_tail, slF, slD, itD, tupD, lstF, allF, lstD, frz, wipeE, back0, e2, em, g]) h1
  obtain ⟨c, a4, b4, hc, e4⟩ := pickL_e a3 b3 pl hp (by omega)
  refine ⟨.tup [.str [97, 115, 107], c, .tup (js.map D.int)], a4, b4, some (.p (.tup (js.map D.int))), y10, .inr (.inr (.inr (.inr ⟨c, js, hn c hc, by omega, hj, rfl⟩))), ?_⟩
  simp only [Ask]
  simp [gather, after, back, finR, outsG, isL, runF, truD, blD, MP.strOf, MP.intD, seqOf, ixD, lenD, cmpD, atI_zero, cutL_tail, slF, slD, itD, tupD, lstF, allF, lstD, frz, wipeE, back0, e1, F, e4]
theorem s_line {p : Bool} {i : Int} {ch : Nat} (hp : 0 < pl.length) (hp2 : pl.length ≤ 10) (hn : ∀ x ∈ pl, nmd x) (i0 : 0 ≤ i) (i1 : i < 12) : ∃ d a' b' y9 y10, shp d ∧ q3_1 [some (.ml [.int a, .int b]), some (.p (.int 12)), some (.p (.lst pl)), x3, some (.p (.bl p)), x5, some (.p (.int i)), some (.p (.str [ch])), x8, x9, x10] = .ok .nx [some (.ml [.int a', .int b']), some (.p (.int 12)), some (.p (.lst pl)), x3, some (.p (.bl p)), x5, some (.p (.int i)), some (.p (.str [ch])), some (.p d), y9, y10] := by
  by_cases h11 : i = 11
  · obtain ⟨r, a1, b1, r0, r1, e⟩ := take_e a b 4 (by omega) (by omega)
    by_cases hr : 0 < r
    · exact ⟨_, a1, b1, x9, x10, .inl rfl, by simp only [q3_1]; simp [gather, after, back, finR, outsG, isL, runF, truD, blD, MP.strOf, MP.intD, seqOf, ixD, lenD, cmpD, atI_zero, cutL_tail, slF, slD, itD, tupD, lstF, allF, lstD, frz, wipeE, back0, sub_i, eqi_e, h11, e, lt_i, hr]⟩
    · obtain ⟨j, a2, b2, j0, j1, e2⟩ := take_e a1 b1 12 (by omega) (by omega)
      exact ⟨_, a2, b2, x9, x10, .inr (.inl ⟨j, ⟨j0, j1⟩, rfl⟩), by simp only [q3_1]; simp [gather, after, back, finR, outsG, isL, runF, truD, blD, MP.strOf, MP.intD, seqOf, ixD, lenD, cmpD, atI_zero, cutL_tail, slF, slD, itD, tupD, lstF, allF, lstD, frz, wipeE, back0, sub_i, eqi_e, h11, e, lt_i, hr, e2]⟩
  · by_cases c1 : ch = 98
    · exact ⟨_, a, b, x9, x10, .inl rfl, by simp only [q3_1]; simp [gather, after, back, finR, outsG, isL, runF, truD, blD, MP.strOf, MP.intD, seqOf, ixD, lenD, cmpD, atI_zero, cutL_tail, slF, slD, itD, tupD, lstF, allF, lstD, frz, wipeE, back0, sub_i, eqi_e, h11, eqs_e, c1]⟩
    · by_cases c2 : ch = 100
      · obtain ⟨c, a4, b4, hc, e4⟩ := pickL_e a b pl hp (by omega)
        exact ⟨_, a4, b4, x9, x10, .inr (.inr (.inr (.inl ⟨c, hn c hc, rfl⟩))), by simp only [q3_1]; simp [gather, after, back, finR, outsG, isL, runF, truD, blD, MP.strOf, MP.intD, seqOf, ixD, lenD, cmpD, atI_zero, cutL_tail, slF, slD, itD, tupD, lstF, allF, lstD, frz, wipeE, back0, sub_i, eqi_e, h11, eqs_e, c1, c2, e4]⟩
      · by_cases c3 : ch = 97
        · obtain ⟨d, a', b', y9, y10, hd, e⟩ := s_ask (a := a) (b := b) (pl := pl) (x3 := x3) (x5 := x5) (x7 := some (.p (.str [ch]))) (x8 := x8) (x9 := x9) (x10 := x10) (p := p) (ch := ch) hp hp2 hn i0 i1
          exact ⟨d, a', b', y9, y10, hd, by simp only [q3_1]; simp [gather, after, back, finR, outsG, isL, runF, truD, blD, MP.strOf, MP.intD, seqOf, ixD, lenD, cmpD, atI_zero, cutL_tail, slF, slD, itD, tupD, lstF, allF, lstD, frz, wipeE, back0, sub_i, eqi_e, h11, eqs_e, c1, c2, c3]; rw [c3] at e; exact e⟩
        · obtain ⟨j, a1, b1, j0, j1, e1⟩ := target_e a b i p i0 i1
          by_cases c4 : ch = 99
          · exact ⟨_, a1, b1, x9, x10, .inr (.inr (.inl ⟨j, ⟨j0, j1⟩, rfl⟩)), by simp only [q3_1]; simp [gather, after, back, finR, outsG, isL, runF, truD, blD, MP.strOf, MP.intD, seqOf, ixD, lenD, cmpD, atI_zero, cutL_tail, slF, slD, itD, tupD, lstF, allF, lstD, frz, wipeE, back0, sub_i, eqi_e, h11, eqs_e, c4, e1]⟩
          · exact ⟨_, a1, b1, x9, x10, .inr (.inl ⟨j, ⟨j0, j1⟩, rfl⟩), by simp only [q3_1]; simp [gather, after, back, finR, outsG, isL, runF, truD, blD, MP.strOf, MP.intD, seqOf, ixD, lenD, cmpD, atI_zero, cutL_tail, slF, slD, itD, tupD, lstF, allF, lstD, frz, wipeE, back0, sub_i, eqi_e, h11, eqs_e, c1, c2, c3, c4, e1]⟩
def Fam (pl : List D) (k : Nat) (e : En) : Prop := ∃ (a b : Int) (sh : Tx) (p : Bool) (ls : List D) (x6 x7 x8 x9 x10 : Option Val), e = [some (.ml [.int a, .int b]), some (.p (.int 12)), some (.p (.lst pl)), some (.p (.str sh)), some (.p (.bl p)), some (.ml ls), x6, x7, x8, x9, x10] ∧ sh.length = 16 ∧ ls.length = k ∧ ∀ d ∈ ls, shp d
theorem raw_e (hp : 0 < pl.length) (hp2 : pl.length ≤ 10) (hn : ∀ x ∈ pl, nmd x) : ∃ ls a' b', ls.length = 12 ∧ (∀ d ∈ ls, shp d) ∧ F__law_raw [.ml [.int a, .int b], .p (.int 12), .p (.lst pl)] = .ok (.lst ls) [.ml [.int a', .int b'], .p (.int 12), .p (.lst pl)] := by
  obtain ⟨sh, a1, b1, hs, e1⟩ := s_0 (a := a) (b := b) (pl := pl) (x3 := none) (x4 := none) (x5 := none) (x6 := none) (x7 := none) (x8 := none) (x9 := none) (x10 := none)
  obtain ⟨p, a2, b2, e2⟩ := s_1 (a := a1) (b := b1) (pl := pl) (x3 := some (.p (.str sh))) (x4 := none) (x5 := none) (x6 := none) (x7 := none) (x8 := none) (x9 := none) (x10 := none)
  have e3 : q2 [some (.ml [.int a2, .int b2]), some (.p (.int 12)), some (.p (.lst pl)), some (.p (.str sh)), some (.p (.bl p)), none, none, none, none, none, none] = .ok .nx [some (.ml [.int a2, .int b2]), some (.p (.int 12)), some (.p (.lst pl)), some (.p (.str sh)), some (.p (.bl p)), some (.ml []), none, none, none, none, none] := by
    simp [gather, after, back, finR, outsG, isL, runF, truD, blD, MP.strOf, MP.intD, seqOf, ixD, lenD, cmpD, atI_zero, cutL_tail, slF, slD, itD, tupD, lstF, allF, lstD, frz, wipeE, back0, q2, u_sSetF]
  obtain ⟨e', h1, a3, b3, sh3, p3, ls, x6, x7, x8, x9, x10, rfl, _, hl, hj⟩ := loop_ix (tg := .nm 6) (body := q3_) (ds := rng 0 12) (n := 12) (Q := Fam pl) 0 (by rw [rng_n]; omega) (fun d hd k e hk q => by
    obtain ⟨a, b, sh, p, ls, x6, x7, x8, x9, x10, rfl, hs, hl, hj⟩ := q
    obtain ⟨i, hi, rfl⟩ := List.mem_map.mp hd
    have hi' : i < 12 := by simpa using hi
    obtain ⟨c, a1, b1, hm, e1⟩ := pick_e a b sh (by omega) (by omega)
    obtain ⟨d, a2, b2, y9, y10, hd, e2⟩ := s_line (a := a1) (b := b1) (pl := pl) (x3 := some (.p (.str sh))) (x5 := some (.ml ls)) (x8 := x8) (x9 := x9) (x10 := x10) (p := p) (ch := c) (i := (0 : Int) + (i : Int)) hp hp2 hn (by omega) (by omega)
    have s0 : q3_0 [some (.ml [.int a, .int b]), some (.p (.int 12)), some (.p (.lst pl)), some (.p (.str sh)), some (.p (.bl p)), some (.ml ls), some (.p (.int ((0 : Int) + (i : Int)))), x7, x8, x9, x10] = .ok .nx [some (.ml [.int a1, .int b1]), some (.p (.int 12)), some (.p (.lst pl)), some (.p (.str sh)), some (.p (.bl p)), some (.ml ls), some (.p (.int ((0 : Int) + (i : Int)))), some (.p (.str [c])), x8, x9, x10] := by
      simp [gather, after, back, finR, outsG, isL, runF, truD, blD, MP.strOf, MP.intD, seqOf, ixD, lenD, cmpD, atI_zero, cutL_tail, slF, slD, itD, tupD, lstF, allF, lstD, frz, wipeE, back0, q3_0, e1]
    have ap : appF d ls = some (.non, ls ++ [d]) := if_pos (by omega)
    have s2 : q3_2 [some (.ml [.int a2, .int b2]), some (.p (.int 12)), some (.p (.lst pl)), some (.p (.str sh)), some (.p (.bl p)), some (.ml ls), some (.p (.int ((0 : Int) + (i : Int)))), some (.p (.str [c])), some (.p d), y9, y10] = .ok .nx [some (.ml [.int a2, .int b2]), some (.p (.int 12)), some (.p (.lst pl)), some (.p (.str sh)), some (.p (.bl p)), some (.ml (ls ++ [d])), some (.p (.int ((0 : Int) + (i : Int)))), some (.p (.str [c])), some (.p d), y9, y10] := by
      have o := own1_e 5 appF (mVar 8) [some (.ml [.int a2, .int b2]), some (.p (.int 12)), some (.p (.lst pl)), some (.p (.str sh)), some (.p (.bl p)), some (.ml ls), some (.p (.int ((0 : Int) + (i : Int)))), some (.p (.str [c])), some (.p d), y9, y10] [some (.ml [.int a2, .int b2]), some (.p (.int 12)), some (.p (.lst pl)), some (.p (.str sh)), some (.p (.bl p)), some (.ml ls), some (.p (.int ((0 : Int) + (i : Int)))), some (.p (.str [c])), some (.p d), y9, y10] ls (ls ++ [d]) d .non rfl rfl rfl ap
      simp only [q3_2, u_sDrop, sE_e]
      rw [o]
      rfl
    have E2 := (seq_ok (b := q3_2) e2).trans s2
    have E1 := (seq_ok s0).trans E2
    refine ⟨_, _, rfl, E1, a2, b2, sh, p, ls ++ [d], _, _, _, y9, y10, rfl, hs, by simp [hl], fun x hx => ?_⟩
    rcases List.mem_append.mp hx with h | h
    · exact hj x h
    · have : x = d := by simpa using h
      rw [this]; exact hd) [some (.ml [.int a2, .int b2]), some (.p (.int 12)), some (.p (.lst pl)), some (.p (.str sh)), some (.p (.bl p)), some (.ml []), none, none, none, none, none] ⟨a2, b2, sh, p, [], none, none, none, none, none, rfl, hs, rfl, fun x hx => by cases hx⟩
  rw [rng_n] at hl
  have g : rngD1 [.int 12] = some (rng 0 12) := rng1_e (by omega) (by omega)
  have F : q3 [some (.ml [.int a2, .int b2]), some (.p (.int 12)), some (.p (.lst pl)), some (.p (.str sh)), some (.p (.bl p)), some (.ml []), none, none, none, none, none] = .ok .nx [some (.ml [.int a3, .int b3]), some (.p (.int 12)), some (.p (.lst pl)), some (.p (.str sh3)), some (.p (.bl p3)), some (.ml ls), x6, x7, x8, x9, x10] :=
    for_ok (by simp [gather, after, back, finR, outsG, isL, runF, truD, blD, MP.strOf, MP.intD, seqOf, ixD, lenD, cmpD, atI_zero, cutL_tail, slF, slD, itD, tupD, lstF, allF, lstD, frz, wipeE, back0, q3_src, g]) h1
  have E : m__law_raw [some (.ml [.int a, .int b]), some (.p (.int 12)), some (.p (.lst pl)), none, none, none, none, none, none, none, none] = q4 [some (.ml [.int a3, .int b3]), some (.p (.int 12)), some (.p (.lst pl)), some (.p (.str sh3)), some (.p (.bl p3)), some (.ml ls), x6, x7, x8, x9, x10] := by
    rw [q_eq]
    exact (seq_ok e1).trans ((seq_ok e2).trans ((seq_ok e3).trans (seq_ok F)))
  refine ⟨ls, a3, b3, by omega, hj, ?_⟩
  simp only [F__law_raw]
  simp [gather, after, back, finR, outsG, isL, runF, truD, blD, MP.strOf, MP.intD, seqOf, ixD, lenD, cmpD, atI_zero, cutL_tail, slF, slD, itD, tupD, lstF, allF, lstD, frz, wipeE, back0, E, q4, r__law_raw]
end
end RW
end LW

namespace LW
open PySem MP
namespace LL
def q0 : MS := (sSetF 1 (mCallF F__law_box [.e (mVar 0), .e (mC (.int 0))]))
def q1 : MS := (sSetF 2 (mCallF F__law_pool [.r 1]))
def q2 : MS := (sSet 3 (mBin addD (mC (.int 1)) (mCall F__law_take [.r 1, .e (mC (.int 32))])))
def q3_src : M (List D) := (mIter (mFE (mCallF F__law_raw [.f (mCallF F__law_box [.e (mVar 0), .e (mC (.int 1))]), .e (mC (.int 12)), .e (mVar 2)])))
def q3_0 : MS := (sSet 5 (mVar 4))
def q3_1 : MS := (sIf (mTest (mBin eqD (mBinL ixD 4 (mC (.int 0))) (mC (.str [97, 115, 107])))) (sSet 5 (mTup (mCons (mC (.str [97, 115, 107])) (mCons (mBinL ixD 4 (mC (.int 1))) (mCons (mUn tupD (mFE (mLc [8] (mIter (mBinL ixD 4 (mC (.int 2)))) (.nm 8) mYes (mBin modD (mUn intF (mBin subD (mBin addD (mBinL mulD 8 (mC (.int 5))) (mPeek 3)) (mC (.int 1)))) (mPeek 3))))) mNil))))) (sIf (mOrB (mTest (mBin eqD (mBinL ixD 4 (mC (.int 0))) (mC (.str [103, 111])))) (mTest (mBin eqD (mBinL ixD 4 (mC (.int 0))) (mC (.str [99, 97, 108, 108]))))) (sSet 5 (mTup (mCons (mBinL ixD 4 (mC (.int 0))) (mCons (mBin modD (mUn intF (mBin subD (mBin addD (mBin mulD (mBinL ixD 4 (mC (.int 1))) (mC (.int 5))) (mPeek 3)) (mC (.int 1)))) (mPeek 3)) mNil)))) sNx))
def q3_2_src : M (List D) := (mIter (mFE (mLst (mCons (mVar 4) (mCons (mVar 5) (mCons (mCall F__law_spoilt [.r 1, .e (mVar 5), .e (mCall F__law_take [.r 1, .e (mC (.int 4))])]) (mCons (mCall F__law_odd_line [.r 1, .e (mVar 3)]) mNil)))))))
def q3_2_0_src : M (List D) := (mIter (mFE (mLst (mCons (mVar 3) (mCons (mBinL addD 3 (mC (.int 1))) (mCons (mBinL subD 3 (mC (.int 1))) (mCons (mC (.int 0)) (mCons (mC (.int 32)) mNil))))))))
def q3_2_0_0 : MS := (sIf (mNotB (mTru (mCall F__law_is_due [.e (mCall F_is_line [.e (mVar 6), .e (mVar 7)]), .e (mCall F__law_is_line [.e (mVar 6), .e (mVar 7)])]))) (sRet (mC (.bl false))) sNx)
def q3_2_0_ : MS := q3_2_0_0
def q3_2_0 : MS := sFor q3_2_0_src (.nm 7) q3_2_0_
def q3_2_ : MS := q3_2_0
def q3_2 : MS := sFor q3_2_src (.nm 6) q3_2_
def q3_ : MS := (sSeq q3_0 (sSeq q3_1 q3_2))
def q3 : MS := sFor q3_src (.nm 4) q3_
def q4_src : M (List D) := (mIter (mFE (mLst (mCons (mC .non) (mCons (mTup mNil) (mCons (mC (.str [98, 97, 99, 107])) (mCons (mFE (mLst (mCons (mC (.str [98, 97, 99, 107])) mNil))) (mCons (mTup (mCons (mC (.str [98, 97, 99, 107])) (mCons (mC (.int 1)) mNil))) (mCons (mTup (mCons (mC (.str [103, 111])) mNil)) (mCons (mTup (mCons (mC (.str [103, 111])) (mCons (mC (.int 0)) (mCons (mC (.int 0)) mNil)))) (mCons (mTup (mCons (mC (.str [100, 111])) (mCons (mC (.str [97])) (mCons (mTup mNil) mNil)))) (mCons (mTup (mCons (mC (.str [100, 111])) (mCons (mC (.int 1)) mNil))) (mCons (mTup (mCons (mC (.int 1)) mNil)) (mCons (mTup (mCons (mC (.str [97, 115, 107])) (mCons (mC (.str [97])) mNil))) (mCons (mTup (mCons (mC (.str [97, 115, 107])) (mCons (mC (.str [97])) (mCons (mC (.int 0)) mNil)))) mNil)))))))))))))))
def q4_0 : MS := (sIf (mTest (mBin isNotD (mCall F_is_line [.e (mVar 6), .e (mVar 3)]) (mC (.bl false)))) (sRet (mC (.bl false))) sNx)
def q4_ : MS := q4_0
def q4 : MS := sFor q4_src (.nm 6) q4_
def q5 : MS := (sRet (mC (.bl true)))
def q : MS := (sSeq q0 (sSeq q1 (sSeq q2 (sSeq q3 (sSeq q4 q5)))))

theorem q_eq : m_law = q := rfl
theorem int_e (i : Int) : intF (.int i) = some (.int i) := rfl
theorem notD_e (x : Bool) : isNotD (.bl x) (.bl false) = some (.bl (!(x == false))) := rfl
theorem shp_ok {d : D} (h : shp d) : okd 3 50 d = true := by
  rcases h with rfl | ⟨j, hj, rfl⟩ | ⟨j, hj, rfl⟩ | ⟨w, ⟨s, rfl, hs⟩, rfl⟩ | ⟨w, js, ⟨s, rfl, hs⟩, hl, hj, rfl⟩
  · rfl
  · simp [okd, okds]; omega
  · simp [okd, okds]; omega
  · simp [okd, okds]; omega
  · simp only [okd, okds, Bool.and_eq_true, decide_eq_true_eq, okds_iff, List.mem_map]
    refine ⟨by simp, by simp, by omega, ⟨by simp; omega, fun x hx => ?_⟩, trivial⟩
    obtain ⟨j, h, rfl⟩ := hx
    have := hj j h
    simp [okd]; omega
section
variable {a b t : Int} {s0 s2 x4 x5 x6 x7 : Option Val}
theorem led_e {d : D} (t0 : 1 ≤ t) (t1 : t ≤ 32) (h : shp d) : ∃ d', okd 3 50 d' = true ∧ q3_1 [s0, some (.ml [.int a, .int b]), s2, some (.p (.int t)), some (.p d), some (.p d), x6, x7, none] = .ok .nx [s0, some (.ml [.int a, .int b]), s2, some (.p (.int t)), some (.p d), some (.p d'), x6, x7, none] := by
  have ml : ∀ j : Int, mulD (.int j) (.int 5) = some (.int (j * 5)) := fun j => mul_e (by omega)
  have md : ∀ j : Int, modD (.int j) (.int t) = some (.int (j % t)) := fun j => mod_e (by omega)
  have bd : ∀ j : Int, 0 ≤ j % t ∧ j % t ≤ 32 := fun j => by
    have h1 := Int.emod_nonneg j (b := t) (by omega)
    have h2 := Int.emod_lt_of_pos j (b := t) (by omega)
    omega
  have at0 : ∀ (x : D) (xs : List D), L2.atI (x :: xs) 0 = some x := fun x xs => atI_zero x xs
  have at1 : ∀ (x y : D) (xs : List D), L2.atI (x :: y :: xs) 1 = some y := fun x y xs => LW.at1 x y xs
  rcases h with rfl | ⟨j, hj, rfl⟩ | ⟨j, hj, rfl⟩ | ⟨w, ⟨s, rfl, hs⟩, rfl⟩ | ⟨w, js, ⟨s, rfl, hs⟩, hl, hj, rfl⟩
  · exact ⟨_, shp_ok (.inl rfl), by simp only [q3_1]; simp [gather, after, back, finR, outsG, isL, runF, truD, blD, MP.strOf, MP.intD, seqOf, ixD, lenD, cmpD, atI_zero, cutL_tail, slF, slD, itD, tupD, lstF, allF, lstD, frz, wipeE, back0, at0, eqs_e]⟩
  · refine ⟨.tup [.str [103, 111], .int ((j * 5 + t - 1) % t)], ?_, by simp only [q3_1]; simp [gather, after, back, finR, outsG, isL, runF, truD, blD, MP.strOf, MP.intD, seqOf, ixD, lenD, cmpD, atI_zero, cutL_tail, slF, slD, itD, tupD, lstF, allF, lstD, frz, wipeE, back0, at0, at1, eqs_e, ml, add_i, sub_i, int_e, md]⟩
    have := bd (j * 5 + t - 1)
    simp [okd, okds]; omega
  · refine ⟨.tup [.str [99, 97, 108, 108], .int ((j * 5 + t - 1) % t)], ?_, by simp only [q3_1]; simp [gather, after, back, finR, outsG, isL, runF, truD, blD, MP.strOf, MP.intD, seqOf, ixD, lenD, cmpD, atI_zero, cutL_tail, slF, slD, itD, tupD, lstF, allF, lstD, frz, wipeE, back0, at0, at1, eqs_e, ml, add_i, sub_i, int_e, md]⟩
    have := bd (j * 5 + t - 1)
    simp [okd, okds]; omega
  · exact ⟨_, shp_ok (.inr (.inr (.inr (.inl ⟨_, ⟨s, rfl, hs⟩, rfl⟩)))), by simp only [q3_1]; simp [gather, after, back, finR, outsG, isL, runF, truD, blD, MP.strOf, MP.intD, seqOf, ixD, lenD, cmpD, atI_zero, cutL_tail, slF, slD, itD, tupD, lstF, allF, lstD, frz, wipeE, back0, at0, eqs_e]⟩
  · have at2 : ∀ x y z : D, L2.atI [x, y, z] 2 = some z := fun _ _ _ => rfl
    have lc : ∀ y4 y5, lcD [8] (.nm 8) mYes (mBin modD (mUn intF (mBin subD (mBin addD (mBinL mulD 8 (mC (.int 5))) (mPeek 3)) (mC (.int 1)))) (mPeek 3)) (js.map D.int) [s0, some (.ml [.int a, .int b]), s2, some (.p (.int t)), y4, y5, x6, x7, none] = .ok ((js.map D.int).map fun d => match d with
        | .int j => .int ((j * 5 + t - 1) % t)
        | d => d) [s0, some (.ml [.int a, .int b]), s2, some (.p (.int t)), y4, y5, x6, x7, none] := fun y4 y5 => lc_map rfl (fun d hd => by
      obtain ⟨j, _, rfl⟩ := List.mem_map.mp hd
      simp [gather, after, back, finR, outsG, isL, runF, truD, blD, MP.strOf, MP.intD, seqOf, ixD, lenD, cmpD, atI_zero, cutL_tail, slF, slD, itD, tupD, lstF, allF, lstD, frz, wipeE, back0, ml, add_i, sub_i, int_e, md])
    refine ⟨.tup [.str [97, 115, 107], .str s, .tup (js.map fun j => .int ((j * 5 + t - 1) % t))], ?_, ?_⟩
    · simp only [okd, okds, Bool.and_eq_true, decide_eq_true_eq, okds_iff, List.mem_map]
      refine ⟨by simp, by simp, by omega, ⟨by simp; omega, fun x hx => ?_⟩, trivial⟩
      obtain ⟨j, h, rfl⟩ := hx
      have := bd (j * 5 + t - 1)
      simp [okd]; omega
    · simp only [q3_1]
      have hl2 : js.length ≤ 1000000 := by omega
      have cm : (js.map ((fun d => match d with
        | .int j => .int ((j * 5 + t - 1) % t)
        | d => d) ∘ D.int)) = js.map fun j => D.int ((j * 5 + t - 1) % t) := rfl
      simp [gather, after, back, finR, outsG, isL, runF, truD, blD, MP.strOf, MP.intD, seqOf, ixD, lenD, cmpD, atI_zero, cutL_tail, slF, slD, itD, tupD, lstF, allF, lstD, frz, wipeE, back0, at0, at1, at2, eqs_e, lc, tupD, hl2]
      first | done | rfl
theorem one_e {v : D} {n : Int} {x1 : Option Val} (h : okd 6 70 v = true) : q3_2_0_0 [s0, x1, s2, some (.p (.int t)), x4, x5, some (.p v), some (.p (.int n)), none] = .ok .nx [s0, x1, s2, some (.p (.int t)), x4, x5, some (.p v), some (.p (.int n)), none] := by
  have e1 := is_line_e (n := n) h (by omega)
  have e2 := law_line_e (n := n) h (by omega) (by omega)
  simp [gather, after, back, finR, outsG, isL, runF, truD, blD, MP.strOf, MP.intD, seqOf, ixD, lenD, cmpD, atI_zero, cutL_tail, slF, slD, itD, tupD, lstF, allF, lstD, frz, wipeE, back0, q3_2_0_0, e1, e2, due_e]
theorem sizes_e {v : D} {x1 : Option Val} (h : okd 6 70 v = true) : ∃ y7, q3_2_0 [s0, x1, s2, some (.p (.int t)), x4, x5, some (.p v), x7, none] = .ok .nx [s0, x1, s2, some (.p (.int t)), x4, x5, some (.p v), y7, none] := by
  obtain ⟨e', h1, y7, rfl⟩ := loop_all (tg := .nm 7) (body := q3_2_0_) (Q := fun e => ∃ y7, e = [s0, x1, s2, some (.p (.int t)), x4, x5, some (.p v), y7, none]) (ds := [.int t, .int (t + 1), .int (t - 1), .int 0, .int 32]) (fun d hd e q => by
    obtain ⟨y7, rfl⟩ := q
    obtain ⟨n, rfl⟩ : ∃ n : Int, d = .int n := by
      simp only [List.mem_cons, List.not_mem_nil, or_false] at hd
      rcases hd with rfl | rfl | rfl | rfl | rfl <;> exact ⟨_, rfl⟩
    exact ⟨_, _, rfl, one_e h, _, rfl⟩) _ ⟨x7, rfl⟩
  exact ⟨y7, for_ok (by simp [gather, after, back, finR, outsG, isL, runF, truD, blD, MP.strOf, MP.intD, seqOf, ixD, lenD, cmpD, atI_zero, cutL_tail, slF, slD, itD, tupD, lstF, allF, lstD, frz, wipeE, back0, q3_2_0_src, add_i, sub_i]) h1⟩
theorem vals_e {d d' : D} (t0 : 1 ≤ t) (t1 : t ≤ 32) (h : okd 3 50 d = true) (h' : okd 3 50 d' = true) : ∃ a' b' y6 y7, q3_2 [s0, some (.ml [.int a, .int b]), s2, some (.p (.int t)), some (.p d), some (.p d'), x6, x7, none] = .ok .nx [s0, some (.ml [.int a', .int b']), s2, some (.p (.int t)), some (.p d), some (.p d'), y6, y7, none] := by
  obtain ⟨r, a1, b1, r0, r1, e1⟩ := take_e a b 4 (by omega) (by omega)
  obtain ⟨w, a2, b2, hw, e2⟩ := spoilt_e (B := 50) (by omega) (by omega) 5 3 d' a1 b1 r (by omega) h' r0 (by omega)
  obtain ⟨o, a3, b3, ho, e3⟩ := odd_e a2 b2 t t0 t1
  obtain ⟨e', h1, y6, y7, rfl⟩ := loop_all (tg := .nm 6) (body := q3_2_) (Q := fun e => ∃ y6 y7, e = [s0, some (.ml [.int a3, .int b3]), s2, some (.p (.int t)), some (.p d), some (.p d'), y6, y7, none]) (ds := [d, d', w, o]) (fun v hd e q => by
    obtain ⟨y6, y7, rfl⟩ := q
    have hv : okd 6 70 v = true := by
      simp only [List.mem_cons, List.not_mem_nil, or_false] at hd
      rcases hd with rfl | rfl | rfl | rfl
      · exact okd_mono _ _ _ _ _ (by omega) (by omega) h
      · exact okd_mono _ _ _ _ _ (by omega) (by omega) h'
      · exact okd_mono _ _ _ _ _ (by omega) (by omega) hw
      · exact okd_mono _ _ _ _ _ (by omega) (by omega) ho
    obtain ⟨y7', e⟩ := sizes_e (t := t) (s0 := s0) (s2 := s2) (x1 := some (.ml [.int a3, .int b3])) (x4 := some (.p d)) (x5 := some (.p d')) (x7 := y7) hv
    exact ⟨_, _, rfl, e, _, _, rfl⟩) _ ⟨x6, x7, rfl⟩
  have e2' : F__law_spoilt [.ml [.int a1, .int b1], .p d', .p (.int r)] = .ok w [.ml [.int a2, .int b2], .p d', .p (.int r)] := e2
  exact ⟨a3, b3, y6, y7, for_ok (by simp [gather, after, back, finR, outsG, isL, runF, truD, blD, MP.strOf, MP.intD, seqOf, ixD, lenD, cmpD, atI_zero, cutL_tail, slF, slD, itD, tupD, lstF, allF, lstD, frz, wipeE, back0, q3_2_src, e1, e2', e3]) h1⟩
def consts : List D := [.non, .tup [], .str [98, 97, 99, 107], .lst [.str [98, 97, 99, 107]], .tup [.str [98, 97, 99, 107], .int 1], .tup [.str [103, 111]], .tup [.str [103, 111], .int 0, .int 0], .tup [.str [100, 111], .str [97], .tup []], .tup [.str [100, 111], .int 1], .tup [.int 1], .tup [.str [97, 115, 107], .str [97]], .tup [.str [97, 115, 107], .str [97], .int 0]]
theorem const_e {v : D} (h : v ∈ consts) : okd 6 70 v = true ∧ lnB t v = false := by
  simp only [consts, List.mem_cons, List.not_mem_nil, or_false] at h
  rcases h with rfl | rfl | rfl | rfl | rfl | rfl | rfl | rfl | rfl | rfl | rfl | rfl <;> exact ⟨by rfl, by simp [lnB, isW, allB]⟩
theorem s_4 {x1 : Option Val} : ∃ y6, q4 [s0, x1, s2, some (.p (.int t)), x4, x5, x6, x7, none] = .ok .nx [s0, x1, s2, some (.p (.int t)), x4, x5, y6, x7, none] := by
  obtain ⟨e', h1, y6, rfl⟩ := loop_all (tg := .nm 6) (body := q4_) (Q := fun e => ∃ y6, e = [s0, x1, s2, some (.p (.int t)), x4, x5, y6, x7, none]) (ds := consts) (fun v hd e q => by
    obtain ⟨y6, rfl⟩ := q
    obtain ⟨hv, hn⟩ := const_e (t := t) hd
    have e1 := is_line_e (n := t) hv (by omega)
    rw [hn] at e1
    exact ⟨_, _, rfl, by simp [gather, after, back, finR, outsG, isL, runF, truD, blD, MP.strOf, MP.intD, seqOf, ixD, lenD, cmpD, atI_zero, cutL_tail, slF, slD, itD, tupD, lstF, allF, lstD, frz, wipeE, back0, q4_, q4_0, e1, notD_e]; exact rfl, _, rfl⟩) _ ⟨x6, rfl⟩
  exact ⟨y6, for_ok (by simp [gather, after, back, finR, outsG, isL, runF, truD, blD, MP.strOf, MP.intD, seqOf, ixD, lenD, cmpD, atI_zero, cutL_tail, slF, slD, itD, tupD, lstF, allF, lstD, frz, wipeE, back0, q4_src, consts]) h1⟩
end
theorem math (ns : List Int) : ∃ outs, F_law [.p (.lst (ns.map D.int))] = .ok (.bl true) outs := by
  obtain ⟨a0, b0, e0⟩ := box_e ns 0 (by omega)
  obtain ⟨ax, bx, ex⟩ := box_e ns 1 (by omega)
  obtain ⟨x, y, z, a1, b1, hx, hy, hz, e1⟩ := pool_e a0 b0
  obtain ⟨r, a2, b2, r0, r1, e2⟩ := take_e a1 b1 32 (by omega) (by omega)
  obtain ⟨ls, ay, by', hl, hs, e3⟩ := RW.raw_e (a := ax) (b := bx) (pl := [x, y, z]) (by simp) (by simp) (fun d hd => by
    simp only [List.mem_cons, List.not_mem_nil, or_false] at hd
    rcases hd with rfl | rfl | rfl
    · exact hx
    · exact hy
    · exact hz)
  generalize hS : (.lst (ns.map D.int) : D) = S at *
  have c0 : ((0 : Nat) : Int) = 0 := rfl
  have c1 : ((1 : Nat) : Int) = 1 := rfl
  rw [c0] at e0
  rw [c1] at ex
  have E0 : q0 [some (.p S), none, none, none, none, none, none, none, none] = .ok .nx [some (.p S), some (.ml [.int a0, .int b0]), none, none, none, none, none, none, none] := by
    simp [gather, after, back, finR, outsG, isL, runF, truD, blD, MP.strOf, MP.intD, seqOf, ixD, lenD, cmpD, atI_zero, cutL_tail, slF, slD, itD, tupD, lstF, allF, lstD, frz, wipeE, back0, q0, u_sSetF, e0]
  have E1 : q1 [some (.p S), some (.ml [.int a0, .int b0]), none, none, none, none, none, none, none] = .ok .nx [some (.p S), some (.ml [.int a1, .int b1]), some (.ml [x, y, z]), none, none, none, none, none, none] := by
    simp [gather, after, back, finR, outsG, isL, runF, truD, blD, MP.strOf, MP.intD, seqOf, ixD, lenD, cmpD, atI_zero, cutL_tail, slF, slD, itD, tupD, lstF, allF, lstD, frz, wipeE, back0, q1, u_sSetF, e1]
  have E2 : q2 [some (.p S), some (.ml [.int a1, .int b1]), some (.ml [x, y, z]), none, none, none, none, none, none] = .ok .nx [some (.p S), some (.ml [.int a2, .int b2]), some (.ml [x, y, z]), some (.p (.int (1 + r))), none, none, none, none, none] := by
    simp [gather, after, back, finR, outsG, isL, runF, truD, blD, MP.strOf, MP.intD, seqOf, ixD, lenD, cmpD, atI_zero, cutL_tail, slF, slD, itD, tupD, lstF, allF, lstD, frz, wipeE, back0, q2, add_i, e2]
  have Es : q3_src [some (.p S), some (.ml [.int a2, .int b2]), some (.ml [x, y, z]), some (.p (.int (1 + r))), none, none, none, none, none] = .ok ls [some (.p S), some (.ml [.int a2, .int b2]), some (.p (.lst [x, y, z])), some (.p (.int (1 + r))), none, none, none, none, none] := by
    simp only [q3_src]
    simp [gather, after, back, finR, outsG, isL, runF, truD, blD, MP.strOf, MP.intD, seqOf, ixD, lenD, cmpD, atI_zero, cutL_tail, slF, slD, itD, tupD, lstF, allF, lstD, frz, wipeE, back0, ex, e3]
  obtain ⟨e', h1, a3, b3, x4, x5, x6, x7, rfl⟩ := loop_all (tg := .nm 4) (body := q3_) (Q := fun e => ∃ (a b : Int) (x4 x5 x6 x7 : Option Val), e = [some (.p S), some (.ml [.int a, .int b]), some (.p (.lst [x, y, z])), some (.p (.int (1 + r))), x4, x5, x6, x7, none]) (ds := ls) (fun d hd e q => by
    obtain ⟨a, b, x4, x5, x6, x7, rfl⟩ := q
    have sd := hs d hd
    obtain ⟨d', hd', el⟩ := led_e (a := a) (b := b) (t := 1 + r) (s0 := some (.p S)) (s2 := some (.p (.lst [x, y, z]))) (x6 := x6) (x7 := x7) (by omega) (by omega) sd
    obtain ⟨a', b', y6, y7, ev⟩ := vals_e (a := a) (b := b) (t := 1 + r) (s0 := some (.p S)) (s2 := some (.p (.lst [x, y, z]))) (x6 := x6) (x7 := x7) (by omega) (by omega) (shp_ok sd) hd'
    have s0 : q3_0 [some (.p S), some (.ml [.int a, .int b]), some (.p (.lst [x, y, z])), some (.p (.int (1 + r))), some (.p d), x5, x6, x7, none] = .ok .nx [some (.p S), some (.ml [.int a, .int b]), some (.p (.lst [x, y, z])), some (.p (.int (1 + r))), some (.p d), some (.p d), x6, x7, none] := by
      simp [gather, after, back, finR, outsG, isL, runF, truD, blD, MP.strOf, MP.intD, seqOf, ixD, lenD, cmpD, atI_zero, cutL_tail, slF, slD, itD, tupD, lstF, allF, lstD, frz, wipeE, back0, q3_0]
    exact ⟨_, _, rfl, (seq_ok s0).trans ((seq_ok (b := q3_2) el).trans ev), a', b', _, _, y6, y7, rfl⟩) _ ⟨a2, b2, none, none, none, none, rfl⟩
  have E3 : q3 [some (.p S), some (.ml [.int a2, .int b2]), some (.ml [x, y, z]), some (.p (.int (1 + r))), none, none, none, none, none] = .ok .nx [some (.p S), some (.ml [.int a3, .int b3]), some (.p (.lst [x, y, z])), some (.p (.int (1 + r))), x4, x5, x6, x7, none] := for_ok Es h1
  obtain ⟨y6, E4⟩ := s_4 (t := 1 + r) (s0 := some (.p S)) (s2 := some (.p (.lst [x, y, z]))) (x1 := some (.ml [.int a3, .int b3])) (x4 := x4) (x5 := x5) (x6 := x6) (x7 := x7)
  have E : m_law [some (.p S), none, none, none, none, none, none, none, none] = .ok (.rt (.bl true)) [some (.p S), some (.ml [.int a3, .int b3]), some (.p (.lst [x, y, z])), some (.p (.int (1 + r))), x4, x5, y6, x7, none] := by
    rw [q_eq]
    exact (seq_ok E0).trans ((seq_ok E1).trans ((seq_ok E2).trans ((seq_ok E3).trans ((seq_ok E4).trans rfl))))
  exact ⟨[.p S], by simp only [F_law]; simp [gather, after, back, finR, outsG, isL, runF, truD, blD, MP.strOf, MP.intD, seqOf, ixD, lenD, cmpD, atI_zero, cutL_tail, slF, slD, itD, tupD, lstF, allF, lstD, frz, wipeE, back0, E, r_law]⟩
end LL
end LW

theorem PySem.Challenge.cw_calltrim_k03_lines_holds : PySem.Challenge.rw_calltrim_k03_lines.Holds :=
  law_holds fun ns _ => LW.LL.math ns

