import PyProof.Rows.All
import Wide.All
import OpenK.AllK
import Wide.FinOn
import HandS.ForMost
import HandS.Exc
import HandS.TryMany
import HandS.HeadHook4
import HandS.More
import HandS.TupAny
import HandS.Deep
import HandS.IsInst
import HandS.StrMore
import PyProof.StrOps2
import HandS.Style
import KE.KDictPairs
import HandS.Conv
import HandS.Replace
import HandS.CallSlots
import HandS.ExcOwn
import HandS.Defaults
import HandS.Zip
import HandS.Comp
import HandS.DictComp
import HandS.Set
import HandS.SetFor
import HandS.Strs
import PyProof.Rows.SortShellAny
import HandS.Head0
import HandS.Head1
import HandS.Head2
import HandS.HeadEnd
import HandS.NoneIn
import KE.KStateDown
import PySem.Challenge.RW_maketrue_k09_main_lengths_and_letters
set_option Elab.async false
set_option linter.all false
set_option maxRecDepth 100000
set_option maxHeartbeats 4000000
/-! data by value over the hand layer: deep data D, a store of changing things, what a state means -/
namespace VX
open PySem PySem.Spec PyProof.Rows L2

/-! ### data -/
inductive KS where
  | int (i : Int) | str (s : List Nat)
  deriving DecidableEq
inductive D where
  | non | bl (b : Bool) | int (i : Int) | str (s : List Nat)
  | tup (xs : List D) | lst (xs : List D)
  | dct (kvs : List (KS × D)) | dctT (kvs : List (List KS × D))
  | obj (n : Nat) | fn (x : Str) | bm (n : Nat) (c m : Str)
  | scr (ns : List Int) | tab (kvs : List (List Nat × D))
abbrev st (s : List Nat) : Str := ⟨s.toArray⟩
def KS.key : KS → Key
  | .int i => .inl i
  | .str s => .inr (st s)
theorem st_inj {a b : List Nat} (h : st a = st b) : a = b := by
  have h1 := congrArg Str.cps h
  have h2 : a.toArray = b.toArray := h1
  exact congrArg Array.toList h2
theorem KS.key_inj {a b : KS} (h : a.key = b.key) : a = b := by
  cases a <;> cases b <;> simp only [KS.key, Sum.inl.injEq, Sum.inr.injEq, reduceCtorEq] at h
  · rw [h]
  · exact congrArg KS.str (st_inj h)

/-- what changes -/
inductive Cell where
  | ins (cls : Str) (fs : List (Str × D)) | lst (xs : List D) | dct (kvs : List (KS × D)) | dctT (kvs : List (List KS × D))
abbrev Sto := List Cell
structure Ex where
  cls : Str
  fs : List (Str × D)
/-- what a slot holds: data, or a list, a dict of its own -/
inductive SV where
  | dat (d : D) | lst (xs : List D) | dct (kvs : List (KS × D)) | dctT (kvs : List (List KS × D))
def SV.d : SV → D
  | .dat d => d
  | .lst xs => .lst xs
  | .dct kvs => .dct kvs
  | .dctT kvs => .dctT kvs
def SV.own : SV → Bool
  | .dat _ => false
  | _ => true
abbrev Env := List (Option SV)

/-! ### outcomes -/
def M (α : Type) := Sto → Option (Except Ex α × Sto)
namespace M
def pure {α : Type} (a : α) : M α := fun S => some (.ok a, S)
def bind {α β : Type} (m : M α) (f : α → M β) : M β := fun S => match m S with
  | some (.ok a, S') => f a S'
  | some (.error e, S') => some (.error e, S')
  | none => none
def fail {α : Type} : M α := fun _ => none
def raise {α : Type} (e : Ex) : M α := fun S => some (.error e, S)
def opt {α : Type} : Option α → M α
  | some a => pure a
  | none => fail
def get : M Sto := fun S => some (.ok S, S)
end M
instance : Monad M where
  pure := M.pure
  bind := M.bind
theorem M.pure_bind {α β : Type} (a : α) (f : α → M β) : M.bind (M.pure a) f = f a := rfl
theorem M.bind_pure {α : Type} (m : M α) : M.bind m M.pure = m := by
  funext S
  unfold M.bind M.pure
  cases h : m S with
  | none => rfl
  | some r =>
    obtain ⟨r, S'⟩ := r
    cases r <;> rfl
theorem M.bind_assoc {α β γ : Type} (m : M α) (f : α → M β) (g : β → M γ) : M.bind (M.bind m f) g = M.bind m fun a => M.bind (f a) g := by
  funext S
  unfold M.bind
  cases h : m S with
  | none => rfl
  | some r =>
    obtain ⟨r, S'⟩ := r
    cases r <;> rfl
instance : LawfulMonad M := LawfulMonad.mk' (id_map := fun m => M.bind_pure m) (pure_bind := fun a f => rfl) (bind_assoc := fun m f g => M.bind_assoc m f g)

/-! ### what data stands for -/
section
variable (K : PySem.W.Frag) (w : World) (mg : Str → Option Value)
/-- a tuple without attributes, kept as it is (or written) -/
def TupAt (K : PySem.W.Frag) (G : Hp) (a : Addr) (vs : List V) : Prop := (∃ o, G a = some (.frz o (.tup vs)) ∧ o.dict = none) ∨
  ∃ (o : Obj) (its : Array Value) (n : Nat), K.lookup a = some o ∧ o.cls = .type "tuple" ∧ o.dict = none ∧ o.data = .seq its n ∧ its.size ≤ sizeLine ∧ Vals vs its.toList
/-- a written dict with text keys -/
def KTab (a : Addr) (kvs : List (List Nat × V)) : Prop := ∃ es n, KDict K w a es n ∧ ∀ z : List Nat, ∃ r, PySem.W.nsIn K a (st z) = some r ∧ RelO (kvs.lookup z) r
mutual
inductive Rep (G : Hp) (ρ : List Addr) : V → D → Prop
  | non : Rep G ρ .non .non
  | bl (b : Bool) : Rep G ρ (.bl b) (.bl b)
  | int (i : Int) : Rep G ρ (.int i) (.int i)
  | str (s : List Nat) : Rep G ρ (.str (st s)) (.str s)
  | tup {a : Addr} {vs : List V} {ds : List D} : TupAt K G a vs → Reps G ρ vs ds → Rep G ρ (.ref a) (.tup ds)
  | lst {a : Addr} {vs : List V} {ds : List D} : G a = some (.lst vs) → Reps G ρ vs ds → Rep G ρ (.ref a) (.lst ds)
  | scr {a : Addr} {ns : List Int} : SqL K G a (ns.map V.int) → Rep G ρ (.ref a) (.scr ns)
  | dct {a : Addr} {l : List (Key × V)} {ds : List (KS × D)} : G a = some (.dK l) → RKs G ρ l ds → Rep G ρ (.ref a) (.dct ds)
  | dctT {a : Addr} {l : List (List Key × V)} {ds : List (List KS × D)} : G a = some (.dT l) → RKt G ρ l ds → Rep G ρ (.ref a) (.dctT ds)
  | tab {a : Addr} {l : List (List Nat × V)} {ds : List (List Nat × D)} : KTab K w a l → RKn G ρ l ds → Rep G ρ (.ref a) (.tab ds)
  | obj {n : Nat} {a : Addr} : ρ[n]? = some a → Rep G ρ (.ref a) (.obj n)
  | fn {x : Str} {a : Addr} : mg x = some (.ref a) → Rep G ρ (.ref a) (.fn x)
  | bm {a f x C : Addr} {n : Nat} {c m : Str} : G a = some (.met f x) → ρ[n]? = some x → mg c = some (.ref C) → BMeth K C m f → Rep G ρ (.ref a) (.bm n c m)
inductive Reps (G : Hp) (ρ : List Addr) : List V → List D → Prop
  | nil : Reps G ρ [] []
  | cons {v : V} {vs : List V} {d : D} {ds : List D} : Rep G ρ v d → Reps G ρ vs ds → Reps G ρ (v :: vs) (d :: ds)
inductive RKs (G : Hp) (ρ : List Addr) : List (Key × V) → List (KS × D) → Prop
  | nil : RKs G ρ [] []
  | cons {k : KS} {v : V} {d : D} {l : List (Key × V)} {ds : List (KS × D)} : Rep G ρ v d → RKs G ρ l ds → RKs G ρ ((k.key, v) :: l) ((k, d) :: ds)
inductive RKt (G : Hp) (ρ : List Addr) : List (List Key × V) → List (List KS × D) → Prop
  | nil : RKt G ρ [] []
  | cons {k : List KS} {v : V} {d : D} {l : List (List Key × V)} {ds : List (List KS × D)} : Rep G ρ v d → RKt G ρ l ds → RKt G ρ ((k.map KS.key, v) :: l) ((k, d) :: ds)
inductive RKn (G : Hp) (ρ : List Addr) : List (List Nat × V) → List (List Nat × D) → Prop
  | nil : RKn G ρ [] []
  | cons {k : List Nat} {v : V} {d : D} {l : List (List Nat × V)} {ds : List (List Nat × D)} : Rep G ρ v d → RKn G ρ l ds → RKn G ρ ((k, v) :: l) ((k, d) :: ds)
end
end

/-- more is known: frozen things stay, the store's places grow -/
structure Up (G : Hp) (ρ : List Addr) (G' : Hp) (ρ' : List Addr) : Prop where
  g : Same G G'
  r : ∀ (n : Nat) (a : Addr), ρ[n]? = some a → ρ'[n]? = some a
theorem Up.refl (G : Hp) (ρ : List Addr) : Up G ρ G ρ := ⟨Same.refl _, fun _ _ h => h⟩
theorem Up.trans {G G1 G2 : Hp} {ρ ρ1 ρ2 : List Addr} (a : Up G ρ G1 ρ1) (b : Up G1 ρ1 G2 ρ2) : Up G ρ G2 ρ2 := ⟨a.g.trans b.g, fun n x h => b.r n x (a.r n x h)⟩
theorem Same.rd {G G' : Hp} {a : Addr} {u : HO} (e : Same G G') (h : Rd G a u) : Rd G' a u := by
  rcases h with h | ⟨o, h⟩
  · exact .inl (e _ _ h)
  · exact .inr ⟨o, e _ _ h⟩
theorem TupAt.up {K : PySem.W.Frag} {G G' : Hp} {a : Addr} {vs : List V} (e : Same G G') (h : TupAt K G a vs) : TupAt K G' a vs := by
  rcases h with ⟨o, h, d⟩ | h
  · exact .inl ⟨o, e _ _ h, d⟩
  · exact .inr h
theorem TupAt.sqT {K : PySem.W.Frag} {G H : Hp} {a : Addr} {vs : List V} (e : Same G H) (h : TupAt K G a vs) : SqT K H a vs := by
  rcases h with ⟨o, h, d⟩ | ⟨o, its, n, h1, h2, h3, h4, h5, h6⟩
  · exact .inl (.inr ⟨o, e _ _ h⟩)
  · exact .inr ⟨o, its, n, h1, h2, h4, h5, h6⟩
theorem Same.sqT {K : PySem.W.Frag} {G G' : Hp} {a : Addr} {xs : List V} (e : Same G G') (h : SqT K G a xs) : SqT K G' a xs := by
  rcases h with h | h
  · exact .inl (VX.Same.rd e h)
  · exact .inr h
section
variable {K : PySem.W.Frag} {w : World} {mg : Str → Option Value} {G G' : Hp} {ρ ρ' : List Addr}
mutual
theorem Rep.up (u : Up G ρ G' ρ') : ∀ {v : V} {d : D}, Rep K w mg G ρ v d → Rep K w mg G' ρ' v d
  | _, _, .non => .non
  | _, _, .bl b => .bl b
  | _, _, .int i => .int i
  | _, _, .str s => .str s
  | _, _, .tup h r => .tup (TupAt.up u.g h) (Reps.up u r)
  | _, _, .lst h r => .lst (u.g _ _ h) (Reps.up u r)
  | _, _, .scr h => .scr (u.g.seq h)
  | _, _, .dct h r => .dct (u.g _ _ h) (RKs.up u r)
  | _, _, .dctT h r => .dctT (u.g _ _ h) (RKt.up u r)
  | _, _, .tab h r => .tab h (RKn.up u r)
  | _, _, .obj h => .obj (u.r _ _ h)
  | _, _, .fn h => .fn h
  | _, _, .bm h1 h2 h3 h4 => .bm (u.g _ _ h1) (u.r _ _ h2) h3 h4
theorem Reps.up (u : Up G ρ G' ρ') : ∀ {v : List V} {d : List D}, Reps K w mg G ρ v d → Reps K w mg G' ρ' v d
  | _, _, .nil => .nil
  | _, _, .cons h r => .cons (Rep.up u h) (Reps.up u r)
theorem RKs.up (u : Up G ρ G' ρ') : ∀ {v : List (Key × V)} {d : List (KS × D)}, RKs K w mg G ρ v d → RKs K w mg G' ρ' v d
  | _, _, .nil => .nil
  | _, _, .cons h r => .cons (Rep.up u h) (RKs.up u r)
theorem RKt.up (u : Up G ρ G' ρ') : ∀ {v : List (List Key × V)} {d : List (List KS × D)}, RKt K w mg G ρ v d → RKt K w mg G' ρ' v d
  | _, _, .nil => .nil
  | _, _, .cons h r => .cons (Rep.up u h) (RKt.up u r)
theorem RKn.up (u : Up G ρ G' ρ') : ∀ {v : List (List Nat × V)} {d : List (List Nat × D)}, RKn K w mg G ρ v d → RKn K w mg G' ρ' v d
  | _, _, .nil => .nil
  | _, _, .cons h r => .cons (Rep.up u h) (RKn.up u r)
end
end

/-! ### states -/
section
variable (K : PySem.W.Frag) (w : World) (mg : Str → Option Value)
inductive FsR (G : Hp) (ρ : List Addr) : List (Str × V) → List (Str × D) → Prop
  | nil : FsR G ρ [] []
  | cons {f : Str} {v : V} {d : D} {l : List (Str × V)} {ds : List (Str × D)} : Rep K w mg G ρ v d → FsR G ρ l ds → FsR G ρ ((f, v) :: l) ((f, d) :: ds)
/-- a changing thing at a -/
def CellR (G : Hp) (ρ : List Addr) (H : Hp) (a : Addr) : Cell → Prop
  | .ins cls fs => ∃ C dx l, mg cls = some (.ref C) ∧ H a = some (.ins C dx l) ∧ FsR K w mg G ρ l fs
  | .lst xs => ∃ vs, H a = some (.lst vs) ∧ Reps K w mg G ρ vs xs
  | .dct kvs => ∃ l, H a = some (.dK l) ∧ RKs K w mg G ρ l kvs
  | .dctT kvs => ∃ l, H a = some (.dT l) ∧ RKt K w mg G ρ l kvs
structure Wd (G : Hp) (ρ : List Addr) (S : Sto) (H : Hp) : Prop where
  g : Same G H
  nd : ρ.Nodup
  out : ∀ b ∈ ρ, G b = none
  len : ρ.length = S.length
  cell : ∀ (n : Nat) (c : Cell) (a : Addr), S[n]? = some c → ρ[n]? = some a → CellR K w mg G ρ H a c
/-- a thing of one's own at p -/
def OwnAt (G : Hp) (ρ : List Addr) (H : Hp) (p : Addr) : SV → Prop
  | .dat _ => False
  | .lst xs => ∃ vs, H p = some (.lst vs) ∧ Reps K w mg G ρ vs xs
  | .dct kvs => ∃ l, H p = some (.dK l) ∧ RKs K w mg G ρ l kvs
  | .dctT kvs => ∃ l, H p = some (.dT l) ∧ RKt K w mg G ρ l kvs
def SVR (G : Hp) (ρ : List Addr) (H : Hp) (v : V) (sv : SV) : Prop :=
  (∃ d, sv = .dat d ∧ Rep K w mg G ρ v d) ∨ ∃ p, v = .ref p ∧ G p = none ∧ p ∉ ρ ∧ OwnAt K w mg G ρ H p sv
structure FrV (B : Addr → Prop) (G : Hp) (ρ : List Addr) (H : Hp) (env : Env) (σ : L2.St) : Prop where
  old : ∀ b, B b → H b ≠ none
  new : ∀ (i : Nat) (sv : SV) (p : Addr), env[i]? = some (some sv) → sv.own = true → σ[i]? = some (some (V.ref p)) → ¬ B p
  len : env.length = σ.length
  at_ : ∀ (i : Nat) (sv : SV), env[i]? = some (some sv) → ∃ v, σ[i]? = some (some v) ∧ SVR K w mg G ρ H v sv
  ne : ∀ (i j : Nat) (si sj : SV) (p : Addr), i ≠ j → env[i]? = some (some si) → env[j]? = some (some sj) → si.own = true → sj.own = true → σ[i]? = some (some (V.ref p)) → σ[j]? ≠ some (some (V.ref p))
/-- from a state on: what was frozen stays, the store's things may change, all else stays -/
structure Ext (G : Hp) (ρ : List Addr) (H : Hp) (G' : Hp) (ρ' : List Addr) (H' : Hp) : Prop where
  up : Up G ρ G' ρ'
  keep : ∀ b o, H b = some o → b ∉ ρ → H' b = some o
  dom : ∀ b, H' b = none → H b = none
  newG : ∀ b, G b = none → H b ≠ none → G' b = none
  newR : ∀ b ∈ ρ', b ∈ ρ ∨ H b = none
end
/-- .. of a whole statement: B, what stood ahead of the body -/
structure ExtS (B : Addr → Prop) (G : Hp) (ρ : List Addr) (H : Hp) (G' : Hp) (ρ' : List Addr) (H' : Hp) : Prop where
  up : Up G ρ G' ρ'
  keep : ∀ b o, B b → H b = some o → b ∉ ρ → H' b = some o
  dom : ∀ b, H' b = none → H b = none
  newG : ∀ b, B b → G b = none → G' b = none
  newR : ∀ b ∈ ρ', b ∈ ρ ∨ ¬ B b
section
variable {K : PySem.W.Frag} {w : World} {mg : Str → Option Value} {G G1 G2 : Hp} {ρ ρ1 ρ2 : List Addr} {H H1 H2 : Hp} {S S1 : Sto} {env : Env} {σ : L2.St} {B : Addr → Prop}
theorem ExtS.refl (B : Addr → Prop) (G : Hp) (ρ : List Addr) (H : Hp) : ExtS B G ρ H G ρ H := ⟨Up.refl _ _, fun _ _ _ h _ => h, fun _ h => h, fun _ _ h => h, fun _ h => .inl h⟩
theorem ExtS.trans (a : ExtS B G ρ H G1 ρ1 H1) (b : ExtS B G1 ρ1 H1 G2 ρ2 H2) : ExtS B G ρ H G2 ρ2 H2 where
  up := a.up.trans b.up
  keep := fun c o hb h hc => b.keep c o hb (a.keep c o hb h hc) fun z => (a.newR c z).elim hc fun q => q hb
  dom := fun c h => a.dom c (b.dom c h)
  newG := fun c hb h1 => b.newG c hb (a.newG c hb h1)
  newR := fun c h => (b.newR c h).elim (a.newR c) .inr
theorem Ext.s (x : Ext G ρ H G1 ρ1 H1) (hb : ∀ b, B b → H b ≠ none) : ExtS B G ρ H G1 ρ1 H1 :=
  ⟨x.up, fun b o _ h hr => x.keep b o h hr, x.dom, fun b h1 h2 => x.newG b h2 (hb b h1), fun b h => (x.newR b h).elim .inl fun q => .inr fun z => hb b z q⟩
theorem Ext.refl (G : Hp) (ρ : List Addr) (H : Hp) : Ext G ρ H G ρ H := ⟨Up.refl _ _, fun _ _ h _ => h, fun _ h => h, fun _ h _ => h, fun _ h => .inl h⟩
theorem Ext.trans (a : Ext G ρ H G1 ρ1 H1) (b : Ext G1 ρ1 H1 G2 ρ2 H2) : Ext G ρ H G2 ρ2 H2 where
  up := a.up.trans b.up
  keep := fun c o h hc => b.keep c o (a.keep c o h hc) fun z => (a.newR c z).elim hc fun q => by rw [h] at q; cases q
  dom := fun c h => a.dom c (b.dom c h)
  newG := fun c h1 h2 => b.newG c (a.newG c h1 h2) fun z => h2 (a.dom c z)
  newR := fun c h => (b.newR c h).elim (a.newR c) fun q => .inr (a.dom c q)
theorem FsR.up (u : Up G ρ G1 ρ1) : ∀ {l : List (Str × V)} {ds : List (Str × D)}, FsR K w mg G ρ l ds → FsR K w mg G1 ρ1 l ds
  | _, _, .nil => .nil
  | _, _, .cons h r => .cons (h.up u) (FsR.up u r)
theorem OwnAt.up (u : Up G ρ G1 ρ1) {p : Addr} {sv : SV} (k : ∀ o, H p = some o → H1 p = some o) (h : OwnAt K w mg G ρ H p sv) : OwnAt K w mg G1 ρ1 H1 p sv := by
  cases sv with
  | dat d => exact h
  | lst xs => obtain ⟨vs, e, r⟩ := h; exact ⟨vs, k _ e, r.up u⟩
  | dct xs => obtain ⟨vs, e, r⟩ := h; exact ⟨vs, k _ e, r.up u⟩
  | dctT xs => obtain ⟨vs, e, r⟩ := h; exact ⟨vs, k _ e, r.up u⟩
theorem CellR.up (u : Up G ρ G1 ρ1) {a : Addr} {c : Cell} (k : ∀ o, H a = some o → H1 a = some o) (h : CellR K w mg G ρ H a c) : CellR K w mg G1 ρ1 H1 a c := by
  cases c with
  | ins cls fs => obtain ⟨C, dx, l, e1, e2, r⟩ := h; exact ⟨C, dx, l, e1, k _ e2, FsR.up u r⟩
  | lst xs => obtain ⟨vs, e, r⟩ := h; exact ⟨vs, k _ e, r.up u⟩
  | dct xs => obtain ⟨vs, e, r⟩ := h; exact ⟨vs, k _ e, r.up u⟩
  | dctT xs => obtain ⟨vs, e, r⟩ := h; exact ⟨vs, k _ e, r.up u⟩
theorem OwnAt.has {p : Addr} {sv : SV} (h : OwnAt K w mg G ρ H p sv) : ∃ o, H p = some o := by
  cases sv with
  | dat d => exact h.elim
  | lst xs => obtain ⟨vs, e, r⟩ := h; exact ⟨_, e⟩
  | dct xs => obtain ⟨vs, e, r⟩ := h; exact ⟨_, e⟩
  | dctT xs => obtain ⟨vs, e, r⟩ := h; exact ⟨_, e⟩
theorem SVR.ext (x : Ext G ρ H G1 ρ1 H1) {v : V} {sv : SV} (h : SVR K w mg G ρ H v sv) : SVR K w mg G1 ρ1 H1 v sv := by
  rcases h with ⟨d, e, r⟩ | ⟨p, e, n1, n2, o⟩
  · exact .inl ⟨d, e, r.up x.up⟩
  · obtain ⟨q, hq⟩ := OwnAt.has o
    refine .inr ⟨p, e, x.newG p n1 (by rw [hq]; simp), (fun z => (x.newR p z).elim n2 fun z => by (rw [hq] at z; cases z)), o.up x.up fun u hu => x.keep p u hu n2⟩
theorem FrV.ext {B : Addr → Prop} (x : Ext G ρ H G1 ρ1 H1) (h : FrV K w mg B G ρ H env σ) : FrV K w mg B G1 ρ1 H1 env σ :=
  ⟨fun b hb z => h.old b hb (x.dom b z), h.new, h.len, fun i sv e => by obtain ⟨v, e1, r⟩ := h.at_ i sv e; exact ⟨v, e1, r.ext x⟩, h.ne⟩
/-- a new thing, frozen at once -/
theorem Wd.laid {p : Addr} {o : HO} (wd : Wd K w mg G ρ S H) (hp : H p = none) : Wd K w mg (upd G p o) ρ S (upd H p o) ∧ Ext G ρ H (upd G p o) ρ (upd H p o) := by
  have gp : G p = none := by
    cases q : G p with
    | none => rfl
    | some u => rw [wd.g p u q] at hp; cases hp
  have np : p ∉ ρ := fun z => by
    obtain ⟨n, hn, e⟩ := List.mem_iff_getElem.mp z
    have hn' : n < S.length := by rw [← wd.len]; exact hn
    have c := wd.cell n S[n] p (by rw [List.getElem?_eq_getElem hn']) (by rw [List.getElem?_eq_getElem hn, e])
    cases h : S[n] with
    | ins cls fs => rw [h] at c; obtain ⟨C, dx, l, e1, e2, r⟩ := c; rw [hp] at e2; cases e2
    | lst xs => rw [h] at c; obtain ⟨vs, e, r⟩ := c; rw [hp] at e; cases e
    | dct xs => rw [h] at c; obtain ⟨vs, e, r⟩ := c; rw [hp] at e; cases e
    | dctT xs => rw [h] at c; obtain ⟨vs, e, r⟩ := c; rw [hp] at e; cases e
  have u : Up G ρ (upd G p o) ρ := ⟨fun b q e => by rw [upd_ne (ne_of_none e gp)]; exact e, fun _ _ h => h⟩
  refine ⟨⟨fun b q e => ?_, wd.nd, fun b hb => ?_, wd.len, fun n c a e1 e2 => ?_⟩, ⟨u, fun b q e _ => ?_, fun b e => ?_, fun b e1 e2 => ?_, fun b hb => .inl hb⟩⟩
  · by_cases hb : b = p
    · subst hb; rw [upd_same] at e ⊢; exact e
    · rw [upd_ne hb] at e ⊢; exact wd.g b q e
  · rw [upd_ne (by rintro rfl; exact np hb)]; exact wd.out b hb
  · have hm : a ∈ ρ := List.mem_of_getElem? e2
    exact (wd.cell n c a e1 e2).up u fun q e => by rw [upd_ne (ne_of_none e hp)]; exact e
  · rw [upd_ne (ne_of_none e hp)]; exact e
  · by_cases hb : b = p
    · subst hb; exact hp
    · rw [upd_ne hb] at e; exact e
  · rw [upd_ne (by rintro rfl; exact e2 hp)]; exact e1
/-- a new thing of one's own -/
theorem Wd.own {p : Addr} {o : HO} (wd : Wd K w mg G ρ S H) (hp : H p = none) : Wd K w mg G ρ S (upd H p o) ∧ Ext G ρ H G ρ (upd H p o) ∧ G p = none ∧ p ∉ ρ := by
  have gp : G p = none := by
    cases q : G p with
    | none => rfl
    | some u => rw [wd.g p u q] at hp; cases hp
  have np : p ∉ ρ := fun z => by
    obtain ⟨n, hn, e⟩ := List.mem_iff_getElem.mp z
    have hn' : n < S.length := by rw [← wd.len]; exact hn
    have c := wd.cell n S[n] p (by rw [List.getElem?_eq_getElem hn']) (by rw [List.getElem?_eq_getElem hn, e])
    cases h : S[n] with
    | ins cls fs => rw [h] at c; obtain ⟨C, dx, l, e1, e2, r⟩ := c; rw [hp] at e2; cases e2
    | lst xs => rw [h] at c; obtain ⟨vs, e, r⟩ := c; rw [hp] at e; cases e
    | dct xs => rw [h] at c; obtain ⟨vs, e, r⟩ := c; rw [hp] at e; cases e
    | dctT xs => rw [h] at c; obtain ⟨vs, e, r⟩ := c; rw [hp] at e; cases e
  refine ⟨⟨fun b q e => ?_, wd.nd, wd.out, wd.len, fun n c a e1 e2 => ?_⟩, ⟨Up.refl _ _, fun b q e _ => ?_, fun b e => ?_, fun b e1 e2 => e1, fun b hb => .inl hb⟩, gp, np⟩
  · rw [upd_ne (ne_of_none e gp)]; exact wd.g b q e
  · exact (wd.cell n c a e1 e2).up (Up.refl _ _) fun q e => by rw [upd_ne (ne_of_none e hp)]; exact e
  · rw [upd_ne (ne_of_none e hp)]; exact e
  · by_cases hb : b = p
    · subst hb; exact hp
    · rw [upd_ne hb] at e; exact e
end

/-! ### runs -/
/-- an exception's class and dict -/
def ExR (K : PySem.W.Frag) (w : World) (mg : Str → Option Value) (G : Hp) (ρ : List Addr) (H : Hp) (cls : Value) (dd : Option Addr) (x : Ex) : Prop :=
  mg x.cls = some cls ∧ ((x.fs = [] ∧ dd = none) ∨ ∃ d l, dd = some d ∧ H d = some (.xd l) ∧ FsR K w mg G ρ l x.fs)
section
variable (K : PySem.W.Frag) (w : World) (mg : Str → Option Value)
/-- the run of m from a state: its value's wish k, its exceptions' wish x -/
def Run {α : Type} (m : M α) (G : Hp) (ρ : List Addr) (S : Sto) (H : Hp) (x : Ex → Hp → List Addr → Sto → Hp → Prop) (k : α → Hp → List Addr → Sto → Hp → Prop) : Prop :=
  match m S with
  | none => False
  | some (.ok a, S') => ∀ G' ρ' H', Ext G ρ H G' ρ' H' → Wd K w mg G' ρ' S' H' → k a G' ρ' S' H'
  | some (.error e, S') => ∀ G' ρ' H', Ext G ρ H G' ρ' H' → Wd K w mg G' ρ' S' H' → x e G' ρ' S' H'
/-- the wish of a context about exceptions, at slots σ -/
def WxE (W : WX) (σ : L2.St) : Ex → Hp → List Addr → Sto → Hp → Prop := fun e G ρ S H => ∀ cls dd, ExR K w mg G ρ H cls dd e → W cls dd σ H
end
section
variable {K : PySem.W.Frag} {w : World} {mg : Str → Option Value} {G : Hp} {ρ : List Addr} {H : Hp} {S : Sto} {α β : Type}
theorem Run.imp {m : M α} {x : Ex → Hp → List Addr → Sto → Hp → Prop} {k k' : α → Hp → List Addr → Sto → Hp → Prop} (h : Run K w mg m G ρ S H x k) (i : ∀ a G' ρ' S' H', k a G' ρ' S' H' → k' a G' ρ' S' H') : Run K w mg m G ρ S H x k' := by
  unfold Run at h ⊢
  cases e : m S with
  | none => rw [e] at h; exact h
  | some r =>
    obtain ⟨r, S'⟩ := r
    rw [e] at h
    cases r with
    | ok a => exact fun G' ρ' H' e1 e2 => i _ _ _ _ _ (h G' ρ' H' e1 e2)
    | error e => exact h
theorem Run.imp2 {m : M α} {x x' : Ex → Hp → List Addr → Sto → Hp → Prop} {k k' : α → Hp → List Addr → Sto → Hp → Prop} (h : Run K w mg m G ρ S H x k) (i : ∀ a G' ρ' S' H', k a G' ρ' S' H' → k' a G' ρ' S' H') (j : ∀ a G' ρ' S' H', x a G' ρ' S' H' → x' a G' ρ' S' H') : Run K w mg m G ρ S H x' k' := by
  unfold Run at h ⊢
  cases e : m S with
  | none => rw [e] at h; exact h
  | some r =>
    obtain ⟨r, S'⟩ := r
    rw [e] at h
    cases r with
    | ok a => exact fun G' ρ' H' e1 e2 => i _ _ _ _ _ (h G' ρ' H' e1 e2)
    | error e => exact fun G' ρ' H' e1 e2 => j _ _ _ _ _ (h G' ρ' H' e1 e2)
/-- the first step, with what is left behind it -/
theorem Run.bind {m : M α} {f : α → M β} {W : WX} {σ : L2.St} {k : β → Hp → List Addr → Sto → Hp → Prop} (h : Run K w mg (M.bind m f) G ρ S H (WxE K w mg W σ) k) :
    Run K w mg m G ρ S H (WxE K w mg W σ) fun a G1 ρ1 S1 H1 => Ext G ρ H G1 ρ1 H1 ∧ Wd K w mg G1 ρ1 S1 H1 ∧ Run K w mg (f a) G1 ρ1 S1 H1 (WxE K w mg W σ) fun b G2 ρ2 S2 H2 => Ext G ρ H G2 ρ2 H2 ∧ k b G2 ρ2 S2 H2 := by
  unfold Run M.bind at h
  unfold Run
  cases e : m S with
  | none => rw [e] at h; exact h
  | some r =>
    obtain ⟨r, S'⟩ := r
    rw [e] at h
    cases r with
    | error e => exact h
    | ok a =>
      refine fun G1 ρ1 H1 x1 w1 => ⟨x1, w1, ?_⟩
      dsimp only at h ⊢
      cases e2 : f a S' with
      | none => rw [e2] at h; exact h
      | some r2 =>
        obtain ⟨r2, S2⟩ := r2
        rw [e2] at h
        cases r2 with
        | error e => exact fun G2 ρ2 H2 x2 w2 => h G2 ρ2 H2 (x1.trans x2) w2
        | ok b => exact fun G2 ρ2 H2 x2 w2 => ⟨x1.trans x2, h G2 ρ2 H2 (x1.trans x2) w2⟩
theorem Run.pure {a : α} {x : Ex → Hp → List Addr → Sto → Hp → Prop} {k : α → Hp → List Addr → Sto → Hp → Prop} (h : Run K w mg (M.pure a) G ρ S H x k) : ∀ G' ρ' H', Ext G ρ H G' ρ' H' → Wd K w mg G' ρ' S H' → k a G' ρ' S H' := h
theorem Run.opt {o : Option α} {x : Ex → Hp → List Addr → Sto → Hp → Prop} {k : α → Hp → List Addr → Sto → Hp → Prop} (h : Run K w mg (M.opt o) G ρ S H x k) : ∃ a, o = some a ∧ ∀ G' ρ' H', Ext G ρ H G' ρ' H' → Wd K w mg G' ρ' S H' → k a G' ρ' S H' := by
  cases o with
  | none => exact h.elim
  | some a => exact ⟨a, rfl, h⟩
end

/-! ### readings -/
/-- a body's wish of exceptions; what stood ahead of it -/
structure Zt where
  W : WX
  B : Addr → Prop
section
variable (K : PySem.W.Frag) (w : World) (mg : Str → Option Value) (Z : Zt)
/-- an expression whose value is data that stays -/
def tV (g : Env → M D) : TE := fun σ H Q => ∃ G ρ S env, Wd K w mg G ρ S H ∧ FrV K w mg Z.B G ρ H env σ ∧
  Run K w mg (g env) G ρ S H (WxE K w mg Z.W σ) fun d G' ρ' S' H' => ∀ v, Rep K w mg G' ρ' v d → Q v H'
/-- .. a new thing, or data -/
def tF (g : Env → M SV) : TE := fun σ H Q => ∃ G ρ S env, Wd K w mg G ρ S H ∧ FrV K w mg Z.B G ρ H env σ ∧
  Run K w mg (g env) G ρ S H (WxE K w mg Z.W σ) fun d G' ρ' S' H' => ∀ v, SVR K w mg G' ρ' H' v d → (d.own = true → ∀ p, v = .ref p → H p = none) → Q v H'
/-- .. data, or what a slot holds, to be read at once -/
def SD (G : Hp) (ρ : List Addr) (H : Hp) (v : V) (d : D) : Prop := ∃ sv, sv.d = d ∧ SVR K w mg G ρ H v sv
def tP (g : Env → M D) : TE := fun σ H Q => ∃ G ρ S env, Wd K w mg G ρ S H ∧ FrV K w mg Z.B G ρ H env σ ∧
  Run K w mg (g env) G ρ S H (WxE K w mg Z.W σ) fun d G' ρ' S' H' => ∀ v, SD K w mg G' ρ' H' v d → Q v H'
def tT (g : Env → M Bool) : TT := fun σ H Q => ∃ G ρ S env, Wd K w mg G ρ S H ∧ FrV K w mg Z.B G ρ H env σ ∧
  Run K w mg (g env) G ρ S H (WxE K w mg Z.W σ) fun b _ _ _ H' => Q b H'
def tA (g : Env → M (List D)) : TA := fun σ H Q => ∃ G ρ S env, Wd K w mg G ρ S H ∧ FrV K w mg Z.B G ρ H env σ ∧
  Run K w mg (g env) G ρ S H (WxE K w mg Z.W σ) fun ds G' ρ' S' H' => ∀ vs, Reps K w mg G' ρ' vs ds → Q vs H'
def tPs (g : Env → M (List D)) : TA := fun σ H Q => ∃ G ρ S env, Wd K w mg G ρ S H ∧ FrV K w mg Z.B G ρ H env σ ∧
  Run K w mg (g env) G ρ S H (WxE K w mg Z.W σ) fun ds G' ρ' S' H' => ∀ vs, Paired (SD K w mg G' ρ' H') vs ds → Q vs H'
end
/-- a statement's end -/
inductive Fl where
  | nx (e : Env) | rt (v : SV) | bk (e : Env) | ct (e : Env) | xc (x : Ex) (e : Env)
abbrev SM := Sto → Option (Fl × Sto)
section
variable (K : PySem.W.Frag) (w : World) (mg : Str → Option Value) (Z : Zt)
def FlR (D : Ends) (G : Hp) (ρ : List Addr) (S : Sto) (H : Hp) : Fl → Prop
  | .nx env => ∀ σ, FrV K w mg Z.B G ρ H env σ → D.nx σ H
  | .bk env => ∀ σ, FrV K w mg Z.B G ρ H env σ → D.bk σ H
  | .ct env => ∀ σ, FrV K w mg Z.B G ρ H env σ → D.ct σ H
  | .rt sv => ∀ v, SVR K w mg G ρ H v sv → (sv.own = true → ∀ p, v = .ref p → ¬ Z.B p) → D.rt v H
  | .xc x env => ∀ σ cls dd, FrV K w mg Z.B G ρ H env σ → ExR K w mg G ρ H cls dd x → Z.W cls dd σ H
def RunS (m : SM) (G : Hp) (ρ : List Addr) (S : Sto) (H : Hp) (k : Hp → List Addr → Sto → Hp → Fl → Prop) : Prop :=
  match m S with
  | none => False
  | some (f, S') => ∀ G' ρ' H', ExtS Z.B G ρ H G' ρ' H' → Wd K w mg G' ρ' S' H' → k G' ρ' S' H' f
def tS (g : Env → SM) : TS := fun D σ H => ∃ G ρ S env, Wd K w mg G ρ S H ∧ FrV K w mg Z.B G ρ H env σ ∧ RunS K w mg Z (g env) G ρ S H fun G' ρ' S' H' f => FlR K w mg Z D G' ρ' S' H' f
end
theorem PE.mono {X : Cx} {e : Expr} {t t' : TE} (h : PE X e t') (i : ∀ σ H Q, t σ H Q → t' σ H Q) : PE X e t := ⟨fun pins s σ H Q I q => h.run pins s σ H Q I (i _ _ _ q)⟩
theorem PT.mono {X : Cx} {e : Expr} {t t' : TT} (h : PT X e t') (i : ∀ σ H Q, t σ H Q → t' σ H Q) : PT X e t := ⟨fun pins s σ H Q I q => h.run pins s σ H Q I (i _ _ _ q)⟩
theorem PA.mono {X : Cx} {e : List Expr} {t t' : TA} (h : PA X e t') (i : ∀ σ H Q, t σ H Q → t' σ H Q) : PA X e t := ⟨fun pos pins s σ H Q I q => h.run pos pins s σ H Q I (i _ _ _ q)⟩
theorem PS.mono {X : Cx} {e : Stmt} {t t' : TS} (h : PS X e t') (i : ∀ D σ H, t D σ H → t' D σ H) : PS X e t := ⟨fun pins s σ H D I q => h.run pins s σ H D I (i _ _ _ q)⟩
theorem PSs.mono {X : Cx} {e : List Stmt} {t t' : TS} (h : PSs X e t') (i : ∀ D σ H, t D σ H → t' D σ H) : PSs X e t := ⟨fun pins s σ H D I q => h.run pins s σ H D I (i _ _ _ q)⟩
end VX
set_option Elab.async false
set_option linter.all false
set_option maxRecDepth 100000
set_option maxHeartbeats 4000000
/-! expressions by value -/
namespace VX
open PySem PySem.Spec PyProof.Rows L2

def Sto.see (S : Sto) : D → D
  | .obj n => match S[n]? with
    | some (.lst xs) => .lst xs
    | some (.dct kvs) => .dct kvs
    | some (.dctT kvs) => .dctT kvs
    | _ => .obj n
  | d => d
def look (d : D) : M D := fun S => some (.ok (Sto.see S d), S)

section
variable (K : PySem.W.Frag) (w : World) (mg : Str → Option Value)
inductive SeeR (G : Hp) (ρ : List Addr) (H : Hp) : V → D → Prop
  | rep {v : V} {d : D} : Rep K w mg G ρ v d → SeeR G ρ H v d
  | lst {p : Addr} {vs : List V} {xs : List D} : H p = some (.lst vs) → Reps K w mg G ρ vs xs → SeeR G ρ H (.ref p) (.lst xs)
  | dct {p : Addr} {l : List (Key × V)} {xs : List (KS × D)} : H p = some (.dK l) → RKs K w mg G ρ l xs → SeeR G ρ H (.ref p) (.dct xs)
  | dctT {p : Addr} {l : List (List Key × V)} {xs : List (List KS × D)} : H p = some (.dT l) → RKt K w mg G ρ l xs → SeeR G ρ H (.ref p) (.dctT xs)
end
section
variable {K : PySem.W.Frag} {w : World} {mg : Str → Option Value} {G : Hp} {ρ : List Addr} {H : Hp} {S : Sto} {v : V}
theorem see_of (wd : Wd K w mg G ρ S H) {d : D} (h : SD K w mg G ρ H v d) : SeeR K w mg G ρ H v (S.see d) := by
  obtain ⟨sv, rfl, h⟩ := h
  rcases h with ⟨d, rfl, r⟩ | ⟨p, rfl, _, _, o⟩
  · show SeeR K w mg G ρ H v (S.see d)
    cases r with
    | @obj n a e =>
      show SeeR K w mg G ρ H _ (match S[n]? with
        | some (.lst xs) => .lst xs
        | some (.dct kvs) => .dct kvs
        | some (.dctT kvs) => .dctT kvs
        | _ => .obj n)
      cases hc : S[n]? with
      | none => exact .rep (.obj e)
      | some c =>
        have q := wd.cell n c _ hc e
        cases c with
        | ins cls fs => exact .rep (.obj e)
        | lst xs => obtain ⟨vs, e1, r1⟩ := q; exact .lst e1 r1
        | dct xs => obtain ⟨vs, e1, r1⟩ := q; exact .dct e1 r1
        | dctT xs => obtain ⟨vs, e1, r1⟩ := q; exact .dctT e1 r1
    | non => exact .rep .non
    | bl b => exact .rep (.bl b)
    | int b => exact .rep (.int b)
    | str b => exact .rep (.str b)
    | tup h r => exact .rep (.tup h r)
    | lst h r => exact .rep (.lst h r)
    | scr h => exact .rep (.scr h)
    | dct h r => exact .rep (.dct h r)
    | dctT h r => exact .rep (.dctT h r)
    | tab h r => exact .rep (.tab h r)
    | fn h => exact .rep (.fn h)
    | bm h h2 h3 h4 => exact .rep (.bm h h2 h3 h4)
  · cases sv with
    | dat d => exact o.elim
    | lst xs => obtain ⟨vs, e1, r1⟩ := o; exact .lst e1 r1
    | dct xs => obtain ⟨vs, e1, r1⟩ := o; exact .dct e1 r1
    | dctT xs => obtain ⟨vs, e1, r1⟩ := o; exact .dctT e1 r1
theorem SD.of {d : D} (h : Rep K w mg G ρ v d) : SD K w mg G ρ H v d := ⟨.dat d, rfl, .inl ⟨d, rfl, h⟩⟩
theorem SD.ext {G1 : Hp} {ρ1 : List Addr} {H1 : Hp} {d : D} (x : Ext G ρ H G1 ρ1 H1) (h : SD K w mg G ρ H v d) : SD K w mg G1 ρ1 H1 v d := by
  obtain ⟨sv, e, r⟩ := h
  exact ⟨sv, e, r.ext x⟩
theorem SeeR.int {i : Int} (h : SeeR K w mg G ρ H v (.int i)) : v = .int i := by cases h with | rep r => cases r; rfl
theorem SeeR.bl {i : Bool} (h : SeeR K w mg G ρ H v (.bl i)) : v = .bl i := by cases h with | rep r => cases r; rfl
theorem SeeR.non (h : SeeR K w mg G ρ H v .non) : v = .non := by cases h with | rep r => cases r; rfl
theorem SeeR.str {s : List Nat} (h : SeeR K w mg G ρ H v (.str s)) : v = .str (st s) := by cases h with | rep r => cases r; rfl
theorem SeeR.tup {s : List D} (g : Same G H) (h : SeeR K w mg G ρ H v (.tup s)) : ∃ p vs, v = .ref p ∧ SqT K H p vs ∧ Reps K w mg G ρ vs s := by
  cases h with
  | rep r =>
    cases r with
    | tup h r => exact ⟨_, _, rfl, h.sqT g, r⟩
theorem SeeR.tup_rep {s : List D} (h : SeeR K w mg G ρ H v (.tup s)) : Rep K w mg G ρ v (.tup s) := by
  cases h with | rep r => exact r
theorem SeeR.lst_at {s : List D} (g : Same G H) (h : SeeR K w mg G ρ H v (.lst s)) : ∃ p vs, v = .ref p ∧ H p = some (.lst vs) ∧ Reps K w mg G ρ vs s := by
  cases h with
  | rep r =>
    cases r with
    | lst h r => exact ⟨_, _, rfl, g _ _ h, r⟩
  | lst h r => exact ⟨_, _, rfl, h, r⟩
theorem SeeR.seq {s : List D} (g : Same G H) (h : SeeR K w mg G ρ H v (.lst s)) : ∃ p vs, v = .ref p ∧ SqL K H p vs ∧ Reps K w mg G ρ vs s := by
  obtain ⟨p, vs, e, h, r⟩ := SeeR.lst_at g h
  exact ⟨p, vs, e, .of h, r⟩
theorem SeeR.scr {s : List Int} (g : Same G H) (h : SeeR K w mg G ρ H v (.scr s)) : ∃ p, v = .ref p ∧ SqL K H p (s.map V.int) := by
  cases h with
  | rep r => cases r with | scr h => exact ⟨_, rfl, g.seq h⟩
theorem SeeR.dic {s : List (KS × D)} (g : Same G H) (h : SeeR K w mg G ρ H v (.dct s)) : ∃ p l, v = .ref p ∧ H p = some (.dK l) ∧ RKs K w mg G ρ l s := by
  cases h with
  | rep r => cases r with | dct h r => exact ⟨_, _, rfl, g _ _ h, r⟩
  | dct h r => exact ⟨_, _, rfl, h, r⟩
theorem SeeR.tab {s : List (List Nat × D)} (h : SeeR K w mg G ρ H v (.tab s)) : ∃ p l, v = .ref p ∧ KTab K w p l ∧ RKn K w mg G ρ l s := by
  cases h with
  | rep r => cases r with | tab h r => exact ⟨_, _, rfl, h, r⟩
theorem SeeR.dicT {s : List (List KS × D)} (g : Same G H) (h : SeeR K w mg G ρ H v (.dctT s)) : ∃ p l, v = .ref p ∧ H p = some (.dT l) ∧ RKt K w mg G ρ l s := by
  cases h with
  | rep r => cases r with | dctT h r => exact ⟨_, _, rfl, g _ _ h, r⟩
  | dctT h r => exact ⟨_, _, rfl, h, r⟩
theorem Reps.length : ∀ {vs : List V} {ds : List D}, Reps K w mg G ρ vs ds → vs.length = ds.length
  | _, _, .nil => rfl
  | _, _, .cons _ r => congrArg Nat.succ (Reps.length r)
theorem Reps.get : ∀ {vs : List V} {ds : List D} {i : Nat} {d : D}, Reps K w mg G ρ vs ds → ds[i]? = some d → ∃ v, vs[i]? = some v ∧ Rep K w mg G ρ v d
  | _, _, _, _, .nil, e => by simp at e
  | _, _, 0, _, .cons h _, e => by simp at e; subst e; exact ⟨_, rfl, h⟩
  | _, _, i + 1, _, .cons _ r, e => by
    obtain ⟨v, h1, h2⟩ := Reps.get (i := i) r (by simpa using e)
    exact ⟨v, by simpa using h1, h2⟩
theorem Reps.getV : ∀ {vs : List V} {ds : List D} {i : Nat} {v : V}, Reps K w mg G ρ vs ds → vs[i]? = some v → ∃ d, ds[i]? = some d ∧ Rep K w mg G ρ v d
  | _, _, _, _, .nil, e => by simp at e
  | _, _, 0, _, .cons h _, e => by simp at e; subst e; exact ⟨_, rfl, h⟩
  | _, _, i + 1, _, .cons _ r, e => by
    obtain ⟨v, h1, h2⟩ := Reps.getV (i := i) r (by simpa using e)
    exact ⟨v, by simpa using h1, h2⟩
theorem Reps.append : ∀ {vs : List V} {ds : List D} {us : List V} {es : List D}, Reps K w mg G ρ vs ds → Reps K w mg G ρ us es → Reps K w mg G ρ (vs ++ us) (ds ++ es)
  | _, _, _, _, .nil, r => r
  | _, _, _, _, .cons h q, r => .cons h (Reps.append q r)
theorem Reps.take : ∀ {vs : List V} {ds : List D} (n : Nat), Reps K w mg G ρ vs ds → Reps K w mg G ρ (vs.take n) (ds.take n)
  | _, _, 0, _ => by simp; exact .nil
  | _, _, n + 1, .nil => by simp; exact .nil
  | _, _, n + 1, .cons h r => by simp only [List.take_succ_cons]; exact .cons h (Reps.take n r)
theorem Reps.drop : ∀ {vs : List V} {ds : List D} (n : Nat), Reps K w mg G ρ vs ds → Reps K w mg G ρ (vs.drop n) (ds.drop n)
  | _, _, 0, r => r
  | _, _, n + 1, .nil => by simp; exact .nil
  | _, _, n + 1, .cons h r => by simp only [List.drop_succ_cons]; exact Reps.drop n r
theorem Reps.reverse {vs : List V} {ds : List D} (r : Reps K w mg G ρ vs ds) : Reps K w mg G ρ vs.reverse ds.reverse := by
  induction r using Reps.rec (motive_1 := fun _ _ _ => True) (motive_3 := fun _ _ _ => True) (motive_4 := fun _ _ _ => True) (motive_5 := fun _ _ _ => True) with
  | nil => exact .nil
  | cons h r _ ih => rw [List.reverse_cons, List.reverse_cons]; exact ih.append (.cons h .nil)
  | _ => trivial
theorem Reps.rep {vs : List V} {ds : List D} (r : Reps K w mg G ρ vs ds) : ∀ k : Nat, Reps K w mg G ρ (List.replicate k vs).flatten (List.replicate k ds).flatten
  | 0 => .nil
  | k + 1 => by rw [List.replicate_succ, List.replicate_succ, List.flatten_cons, List.flatten_cons]; exact r.append (Reps.rep r k)
theorem Reps.set {v : V} {d : D} (h : Rep K w mg G ρ v d) : ∀ {vs : List V} {ds : List D} (n : Nat), Reps K w mg G ρ vs ds → Reps K w mg G ρ (vs.set n v) (ds.set n d)
  | _, _, 0, .nil => .nil
  | _, _, n + 1, .nil => .nil
  | _, _, 0, .cons _ r => .cons h r
  | _, _, n + 1, .cons h' r => .cons h' (Reps.set h n r)
end

/-! ### tuples whose object is told -/
section
variable {X : Cx} {es : List Expr} {t : TA} {pos : Pos}
theorem laid_tup {pins : List (Addr × Obj)} {σ : L2.St} {H : Hp} {s : Shared} {xs : List V} {its : List Value} (I : Inv X pins σ H s) (r : Vals xs its) (z : xs.length ≤ sizeLine) :
    Inv X pins σ (upd H s.heap.objs.size (.frz { cls := .type "tuple", data := .seq its.toArray } (.tup xs))) { s with heap := s.heap.push { cls := .type "tuple", data := .seq its.toArray } } :=
  I.laid (t' := s.toks) (fun b u e => Heap.get?_push_of_some _ e) (Nat.le_refl _) ⟨Heap.get?_push_size _ rfl, z, its, r, IsTup.new _ _⟩
def tTupF (t : TA) : TE := fun σ H Q => t σ H fun xs H1 => xs.length ≤ sizeLine ∧ ∀ p o, H1 p = none → o.dict = none → Q (.ref p) (upd H1 p (.frz o (.tup xs)))
theorem pe_tupF {x1} (h : PA X es t) : PE X (.Tuple es x1 pos) (tTupF t) := by
  refine ⟨fun pins s σ H Q I hq => ?_⟩
  refine wpAny_Tuple_spliced (thn (h.run pos pins s σ H _ I hq) fun us s1 ⟨xs, H1, I1, r, z, q⟩ => ⟨by rw [← r.length]; exact z, ?_⟩)
  exact ⟨.ref s1.heap.objs.size, _, laid_tup I1 r z, rfl, q _ _ (I1.hok.fresh (Nat.le_refl _)) rfl⟩
def rTupOf (K : PySem.W.Frag) : List V → Hp → VK → Prop := fun xs H Q => ∃ p ys, xs = [.ref p] ∧ ((SqL K H p ys ∧ ∀ l o, H l = none → o.dict = none → Q (.ref l) (upd H l (.frz o (.tup ys)))) ∨ (SqT K H p ys ∧ Q (.ref p) H))
theorem call_tupF : CallR X (.type "tuple") (rTupOf X.K) := by
  intro pins s σ H xs us Q I r h
  obtain ⟨p, ys, rfl, h⟩ := h
  obtain ⟨u, rfl, rx⟩ := vals1 r
  cases rx
  rcases h with ⟨hq, q⟩ | ⟨hq, q⟩
  · obtain ⟨its, r', pl, hz⟩ := I.list hq
    have hlen := r'.length
    refine call_tuple_list pl.isList (fun h' kp => ?_) (by simp only [List.size_toArray] <;> omega)
    have I1 : Inv X pins σ H { s with heap := h' } := I.kept (t' := s.toks) kp
    exact ⟨.ref h'.objs.size, _, laid_tup I1 r' hz, rfl, q _ _ (I1.hok.fresh (Nat.le_refl _)) rfl⟩
  · obtain ⟨its, r', pl, hz⟩ := I.tuple hq
    exact call_tuple_same pl ⟨.ref p, H, I, rfl, q⟩
def rCatF (K : PySem.W.Frag) : R2 := fun x y H Q => ∃ a b xs ys, x = .ref a ∧ y = .ref b ∧ SqT K H a xs ∧ SqT K H b ys ∧ xs.length + ys.length ≤ sizeLine ∧
  (xs = [] → Q (.ref b) H) ∧ (xs ≠ [] → ys = [] → Q (.ref a) H) ∧ (xs ≠ [] → ys ≠ [] → ∀ p o, H p = none → o.dict = none → Q (.ref p) (upd H p (.frz o (.tup (xs ++ ys)))))
theorem op_catF : OpR X (binaryOp .Add) (rCatF X.K) := by
  intro pins s σ H x y v u Q I rx ry h
  obtain ⟨a, b, xs, ys, rfl, rfl, ha, hb, hz, q0, q1, q2⟩ := h
  cases rx
  cases ry
  obtain ⟨its, r1, p1, _⟩ := I.tuple ha
  obtain ⟨its2, r2, p2, _⟩ := I.tuple hb
  by_cases hx : xs = []
  · subst hx
    cases r1
    exact cat_tup0 p1 p2 ⟨.ref b, H, I, rfl, q0 rfl⟩
  · refine HT.cat_tup p1 p2 (fun z => hx (r1.nil_iff.mp z)) (fun z => ⟨.ref a, H, I, rfl, q1 hx (r2.nil_iff.mp z)⟩) (fun z => ?_) (by rw [← r1.length, ← r2.length]; exact hz)
    exact ⟨.ref s.heap.objs.size, _, laid_tup I (r1.append r2) (by rw [List.length_append]; exact hz), rfl, q2 hx (fun w => z (r2.nil_iff.mpr w)) _ _ (I.hok.fresh (Nat.le_refl _)) rfl⟩
def rSlF (K : PySem.W.Frag) : V → Option Int → Option Int → Hp → VK → Prop := fun x lo hi H Q => ∃ a xs, x = .ref a ∧ SqT K H a xs ∧
  (HT.sIx xs.length 0 lo = 0 ∧ HT.sIx xs.length xs.length hi = xs.length → Q (.ref a) H) ∧ (¬ (HT.sIx xs.length 0 lo = 0 ∧ HT.sIx xs.length xs.length hi = xs.length) → ∀ p o, H p = none → o.dict = none → Q (.ref p) (upd H p (.frz o (.tup (cutV xs lo hi)))))
theorem sl_tupF : SlR X (rSlF X.K) := by
  intro pins s σ H x v vl vu lo hi sl Q I rx hs pl pu h
  obtain ⟨a, xs, rfl, hx, q1, q2⟩ := h
  by_cases hw : HT.sIx xs.length 0 lo = 0 ∧ HT.sIx xs.length xs.length hi = xs.length
  · exact sl_tupA pins s σ H _ v vl vu lo hi sl Q I rx hs pl pu ⟨a, xs, rfl, hx, q1, fun z => absurd hw z⟩
  · cases rx
    obtain ⟨its, r, ht, hz⟩ := I.tuple hx
    have hlen : its.toArray.size = xs.length := by rw [List.size_toArray]; exact r.length.symm
    refine ⟨"tuple", _, PyProof.Rows.slot_tuple_getitem.lookup, ht.typeIs, ?_⟩
    refine HT.getItem_tuple_cut ht hs pl pu (by rw [hlen]; exact hw) ?_ (by rw [hlen]; exact hz)
    rw [hlen]
    exact ⟨.ref s.heap.objs.size, _, laid_tup I ((r.drop (HT.sIx xs.length 0 lo)).take (HT.sIx xs.length xs.length hi - HT.sIx xs.length 0 lo)) (Nat.le_trans (cutV_length xs lo hi) hz), rfl, q2 hw _ _ (I.hok.fresh (Nat.le_refl _)) rfl⟩
end

/-! ### what a reading asks, by values -/
section
variable (K : PySem.W.Frag) (w : World) (mg : Str → Option Value)
/-- Q for data d, at any later state with the same store -/
def Wish (G : Hp) (ρ : List Addr) (S : Sto) (H : Hp) (d : D) (Q : V → Hp → Prop) : Prop := ∀ G' ρ' H', Ext G ρ H G' ρ' H' → Wd K w mg G' ρ' S H' → ∀ v, Rep K w mg G' ρ' v d → Q v H'
/-- Q for a new thing (or data) -/
def WishF (G : Hp) (ρ : List Addr) (S : Sto) (H : Hp) (sv : SV) (Q : V → Hp → Prop) : Prop := ∀ G' ρ' H', Ext G ρ H G' ρ' H' → Wd K w mg G' ρ' S H' → ∀ v, SVR K w mg G' ρ' H' v sv → (sv.own = true → ∀ p, v = .ref p → H p = none) → Q v H'
end
section
variable {K : PySem.W.Frag} {w : World} {mg : Str → Option Value} {G : Hp} {ρ : List Addr} {H : Hp} {S : Sto} {v : V} {Q : V → Hp → Prop}
theorem Wish.here {d : D} (h : Wish K w mg G ρ S H d Q) (wd : Wd K w mg G ρ S H) (r : Rep K w mg G ρ v d) : Q v H := h _ _ _ (Ext.refl _ _ _) wd _ r
theorem Wish.tup {ds : List D} {vs : List V} (h : Wish K w mg G ρ S H (.tup ds) Q) (wd : Wd K w mg G ρ S H) (r : Reps K w mg G ρ vs ds) : ∀ p o, H p = none → o.dict = none → Q (.ref p) (upd H p (.frz o (.tup vs))) := fun p o hp ho => by
  obtain ⟨w1, x1⟩ := wd.laid (o := .frz o (.tup vs)) hp
  exact h _ _ _ x1 w1 _ (.tup (.inl ⟨o, upd_same, ho⟩) (r.up x1.up))
theorem WishF.dat {d : D} (h : WishF K w mg G ρ S H (.dat d) Q) (wd : Wd K w mg G ρ S H) (r : Rep K w mg G ρ v d) : Q v H := h _ _ _ (Ext.refl _ _ _) wd _ (.inl ⟨d, rfl, r⟩) (fun z => nomatch z)
theorem WishF.tup {ds : List D} {vs : List V} (h : WishF K w mg G ρ S H (.dat (.tup ds)) Q) (wd : Wd K w mg G ρ S H) (r : Reps K w mg G ρ vs ds) : ∀ p o, H p = none → o.dict = none → Q (.ref p) (upd H p (.frz o (.tup vs))) := fun p o hp ho => by
  obtain ⟨w1, x1⟩ := wd.laid (o := .frz o (.tup vs)) hp
  exact h _ _ _ x1 w1 _ (.inl ⟨_, rfl, .tup (.inl ⟨o, upd_same, ho⟩) (r.up x1.up)⟩) (fun z => nomatch z)
theorem WishF.own {sv : SV} {p : Addr} {o : HO} (h : WishF K w mg G ρ S H sv Q) (wd : Wd K w mg G ρ S H) (hp : H p = none) (r : OwnAt K w mg G ρ (upd H p o) p sv) : Q (.ref p) (upd H p o) := by
  obtain ⟨w1, x1, gp, np⟩ := wd.own (o := o) hp
  exact h _ _ _ x1 w1 _ (.inr ⟨p, rfl, gp, np, r⟩) (fun _ q e => by injection e with e; subst e; exact hp)
theorem WishF.lst {ds : List D} {vs : List V} (h : WishF K w mg G ρ S H (.lst ds) Q) (wd : Wd K w mg G ρ S H) (r : Reps K w mg G ρ vs ds) : ∀ p, H p = none → Q (.ref p) (upd H p (.lst vs)) := fun p hp =>
  h.own wd hp ⟨vs, upd_same, r⟩
end

/-! ### the four judgements' step -/
section
variable {K : PySem.W.Frag} {w : World} {mg : Str → Option Value} {Z : Zt} {σ : L2.St} {H : Hp}
abbrev op1 (h : D → Option D) (ga : Env → M D) : Env → M D := fun env => M.bind (ga env) fun a => M.bind (look a) fun a => M.opt (h a)
abbrev op2 (h : D → D → Option D) (ga gb : Env → M D) : Env → M D := fun env => M.bind (ga env) fun a => M.bind (gb env) fun b => M.bind (look a) fun a => M.bind (look b) fun b => M.opt (h a b)
abbrev op1F (h : D → Option SV) (ga : Env → M D) : Env → M SV := fun env => M.bind (ga env) fun a => M.bind (look a) fun a => M.opt (h a)
abbrev op2F (h : D → D → Option SV) (ga gb : Env → M D) : Env → M SV := fun env => M.bind (ga env) fun a => M.bind (gb env) fun b => M.bind (look a) fun a => M.bind (look b) fun b => M.opt (h a b)
abbrev op1B (h : D → Option Bool) (ga : Env → M D) : Env → M Bool := fun env => M.bind (ga env) fun a => M.bind (look a) fun a => M.opt (h a)
abbrev op2B (h : D → D → Option Bool) (ga gb : Env → M D) : Env → M Bool := fun env => M.bind (ga env) fun a => M.bind (gb env) fun b => M.bind (look a) fun a => M.bind (look b) fun b => M.opt (h a b)
variable (K w mg) in
def Snd1 (h : D → Option D) (rr : V → Hp → VK → Prop) : Prop := ∀ G ρ S H x d r Q, Wd K w mg G ρ S H → SeeR K w mg G ρ H x d → h d = some r → Wish K w mg G ρ S H r Q → rr x H Q
variable (K w mg) in
def Snd2 (h : D → D → Option D) (rr : R2) : Prop := ∀ G ρ S H x y d e r Q, Wd K w mg G ρ S H → SeeR K w mg G ρ H x d → SeeR K w mg G ρ H y e → h d e = some r → Wish K w mg G ρ S H r Q → rr x y H Q
variable (K w mg) in
def Snd1F (h : D → Option SV) (rr : V → Hp → VK → Prop) : Prop := ∀ G ρ S H x d r Q, Wd K w mg G ρ S H → SeeR K w mg G ρ H x d → h d = some r → WishF K w mg G ρ S H r Q → rr x H Q
variable (K w mg) in
def Snd2F (h : D → D → Option SV) (rr : R2) : Prop := ∀ G ρ S H x y d e r Q, Wd K w mg G ρ S H → SeeR K w mg G ρ H x d → SeeR K w mg G ρ H y e → h d e = some r → WishF K w mg G ρ S H r Q → rr x y H Q
variable (K w mg) in
def Snd1B (h : D → Option Bool) (rr : V → Hp → VK → Prop) : Prop := ∀ G ρ S H x d r (Q : VK), Wd K w mg G ρ S H → SeeR K w mg G ρ H x d → h d = some r → Q (.bl r) H → rr x H Q
variable (K w mg) in
def Snd2B (h : D → D → Option Bool) (rr : R2) : Prop := ∀ G ρ S H x y d e r (Q : VK), Wd K w mg G ρ S H → SeeR K w mg G ρ H x d → SeeR K w mg G ρ H y e → h d e = some r → Q (.bl r) H → rr x y H Q
theorem Run.look {α : Type} {G : Hp} {ρ : List Addr} {S : Sto} {d : D} {f : D → M α} {x : Ex → Hp → List Addr → Sto → Hp → Prop} {k : α → Hp → List Addr → Sto → Hp → Prop} (h : Run K w mg (M.bind (look d) f) G ρ S H x k) : Run K w mg (f (S.see d)) G ρ S H x k := h
theorem tV_op1 {h : D → Option D} {ga : Env → M D} {rr : V → Hp → VK → Prop} (snd : Snd1 K w mg h rr) {Q : VK} (q : tV K w mg Z (op1 h ga) σ H Q) : tP K w mg Z ga σ H fun x H1 => rr x H1 Q := by
  obtain ⟨G, ρ, S, env, wd, fr, run⟩ := q
  refine ⟨G, ρ, S, env, wd, fr, run.bind.imp fun a G1 ρ1 S1 H1 ⟨x1, w1, r1⟩ v sd => ?_⟩
  obtain ⟨r, e, k⟩ := r1.look.opt
  exact snd _ _ _ _ _ _ _ _ w1 (see_of w1 sd) e fun G2 ρ2 H2 x2 w2 u ru => (k G2 ρ2 H2 x2 w2).2 u ru
theorem tV_op2 {h : D → D → Option D} {ga gb : Env → M D} {rr : R2} (snd : Snd2 K w mg h rr) {Q : VK} (q : tV K w mg Z (op2 h ga gb) σ H Q) : tP K w mg Z ga σ H fun x H1 => tP K w mg Z gb σ H1 fun y H2 => rr x y H2 Q := by
  obtain ⟨G, ρ, S, env, wd, fr, run⟩ := q
  refine ⟨G, ρ, S, env, wd, fr, run.bind.imp fun a G1 ρ1 S1 H1 ⟨x1, w1, r1⟩ v sd => ?_⟩
  refine ⟨G1, ρ1, S1, env, w1, fr.ext x1, r1.bind.imp fun b G2 ρ2 S2 H2 ⟨x2, w2, r2⟩ u sd2 => ?_⟩
  obtain ⟨r, e, k⟩ := r2.look.look.opt
  exact snd _ _ _ _ _ _ _ _ _ _ w2 (see_of w2 (sd.ext x2)) (see_of w2 sd2) e fun G3 ρ3 H3 x3 w3 z rz => (k G3 ρ3 H3 x3 w3).2.2 z rz
theorem tF_op1 {h : D → Option SV} {ga : Env → M D} {rr : V → Hp → VK → Prop} (snd : Snd1F K w mg h rr) {Q : VK} (q : tF K w mg Z (op1F h ga) σ H Q) : tP K w mg Z ga σ H fun x H1 => rr x H1 Q := by
  obtain ⟨G, ρ, S, env, wd, fr, run⟩ := q
  refine ⟨G, ρ, S, env, wd, fr, run.bind.imp fun a G1 ρ1 S1 H1 ⟨x1, w1, r1⟩ v sd => ?_⟩
  obtain ⟨r, e, k⟩ := r1.look.opt
  exact snd _ _ _ _ _ _ _ _ w1 (see_of w1 sd) e fun G2 ρ2 H2 x2 w2 u ru fr' => (k G2 ρ2 H2 x2 w2).2 u ru fun o p e => x1.dom p (fr' o p e)
theorem tF_op2 {h : D → D → Option SV} {ga gb : Env → M D} {rr : R2} (snd : Snd2F K w mg h rr) {Q : VK} (q : tF K w mg Z (op2F h ga gb) σ H Q) : tP K w mg Z ga σ H fun x H1 => tP K w mg Z gb σ H1 fun y H2 => rr x y H2 Q := by
  obtain ⟨G, ρ, S, env, wd, fr, run⟩ := q
  refine ⟨G, ρ, S, env, wd, fr, run.bind.imp fun a G1 ρ1 S1 H1 ⟨x1, w1, r1⟩ v sd => ?_⟩
  refine ⟨G1, ρ1, S1, env, w1, fr.ext x1, r1.bind.imp fun b G2 ρ2 S2 H2 ⟨x2, w2, r2⟩ u sd2 => ?_⟩
  obtain ⟨r, e, k⟩ := r2.look.look.opt
  exact snd _ _ _ _ _ _ _ _ _ _ w2 (see_of w2 (sd.ext x2)) (see_of w2 sd2) e fun G3 ρ3 H3 x3 w3 z rz fr' => (k G3 ρ3 H3 x3 w3).2.2 z rz fun o p e => x1.dom p (x2.dom p (fr' o p e))
theorem tT_op1 {h : D → Option Bool} {ga : Env → M D} {rr : V → Hp → VK → Prop} (snd : Snd1B K w mg h rr) {Q : Bool → Hp → Prop} (q : tT K w mg Z (op1B h ga) σ H Q) : tP K w mg Z ga σ H fun x H1 => rr x H1 fun x H' => ∃ k, x = .bl k ∧ Q k H' := by
  obtain ⟨G, ρ, S, env, wd, fr, run⟩ := q
  refine ⟨G, ρ, S, env, wd, fr, run.bind.imp fun a G1 ρ1 S1 H1 ⟨x1, w1, r1⟩ v sd => ?_⟩
  obtain ⟨r, e, k⟩ := r1.look.opt
  exact snd _ _ _ _ _ _ _ _ w1 (see_of w1 sd) e ⟨_, rfl, (k _ _ _ (Ext.refl _ _ _) w1).2⟩
theorem tT_op2 {h : D → D → Option Bool} {ga gb : Env → M D} {rr : R2} (snd : Snd2B K w mg h rr) {Q : Bool → Hp → Prop} (q : tT K w mg Z (op2B h ga gb) σ H Q) : tP K w mg Z ga σ H fun x H1 => tP K w mg Z gb σ H1 fun y H2 => rr x y H2 fun x H' => ∃ k, x = .bl k ∧ Q k H' := by
  obtain ⟨G, ρ, S, env, wd, fr, run⟩ := q
  refine ⟨G, ρ, S, env, wd, fr, run.bind.imp fun a G1 ρ1 S1 H1 ⟨x1, w1, r1⟩ v sd => ?_⟩
  refine ⟨G1, ρ1, S1, env, w1, fr.ext x1, r1.bind.imp fun b G2 ρ2 S2 H2 ⟨x2, w2, r2⟩ u sd2 => ?_⟩
  obtain ⟨r, e, k⟩ := r2.look.look.opt
  exact snd _ _ _ _ _ _ _ _ _ _ w2 (see_of w2 (sd.ext x2)) (see_of w2 sd2) e ⟨_, rfl, (k _ _ _ (Ext.refl _ _ _) w2).2.2⟩
theorem Snd1B.v {h : D → Option Bool} {rr : V → Hp → VK → Prop} (s : Snd1B K w mg h rr) : Snd1 K w mg (fun d => (h d).map .bl) rr := by
  intro G ρ S H x d r Q wd sx e q
  obtain ⟨b, hb, rfl⟩ := Option.map_eq_some_iff.mp e
  exact s _ _ _ _ _ _ _ _ wd sx hb (q.here wd (.bl b))
theorem Snd2B.v {h : D → D → Option Bool} {rr : R2} (s : Snd2B K w mg h rr) : Snd2 K w mg (fun d e => (h d e).map .bl) rr := by
  intro G ρ S H x y d e' r Q wd sx sy e q
  obtain ⟨b, hb, rfl⟩ := Option.map_eq_some_iff.mp e
  exact s _ _ _ _ _ _ _ _ _ _ wd sx sy hb (q.here wd (.bl b))
theorem Snd1F.of {h : D → Option D} {rr : V → Hp → VK → Prop} (s : Snd1 K w mg h rr) : Snd1F K w mg (fun d => (h d).map .dat) rr := by
  intro G ρ S H x d r Q wd sx e q
  obtain ⟨b, hb, rfl⟩ := Option.map_eq_some_iff.mp e
  exact s _ _ _ _ _ _ _ _ wd sx hb fun G1 ρ1 H1 x1 w1 v r => q _ _ _ x1 w1 v (.inl ⟨_, rfl, r⟩) fun z => nomatch z
end

/-! ### a list literal, a call's result: kept or frozen -/
section
variable {K : PySem.W.Frag} {w : World} {mg : Str → Option Value} {Z : Zt} {σ : L2.St} {G G1 : Hp} {ρ ρ1 : List Addr} {H H1 : Hp} {S S1 : Sto}
theorem Wd.freeze {p : Addr} {o : HO} (wd : Wd K w mg G1 ρ1 S1 H1) (x : Ext G ρ H G1 ρ1 H1) (gp : G1 p = none) (np : p ∉ ρ1) (hp : H1 p = some o) (h0 : H p = none) :
    Wd K w mg (upd G1 p o) ρ1 S1 H1 ∧ Ext G ρ H (upd G1 p o) ρ1 H1 ∧ Up G1 ρ1 (upd G1 p o) ρ1 := by
  have u : Up G1 ρ1 (upd G1 p o) ρ1 := ⟨fun b q e => by rw [upd_ne (ne_of_none e gp)]; exact e, fun _ _ h => h⟩
  refine ⟨⟨fun b q e => ?_, wd.nd, fun b hb => ?_, wd.len, fun n c a e1 e2 => (wd.cell n c a e1 e2).up u fun _ h => h⟩, ⟨x.up.trans u, x.keep, x.dom, fun b e1 e2 => ?_, x.newR⟩, u⟩
  · by_cases hb : b = p
    · subst hb; rw [upd_same] at e; cases e; exact hp
    · rw [upd_ne hb] at e; exact wd.g b q e
  · rw [upd_ne (by rintro rfl; exact np hb)]; exact wd.out b hb
  · rw [upd_ne (by rintro rfl; exact e2 h0)]; exact x.newG b e1 e2
theorem OwnAt.rep {p : Addr} {sv : SV} (h : OwnAt K w mg G ρ H p sv) : ∃ o, H p = some o ∧ ∀ G', Up G ρ G' ρ → G' p = some o → Rep K w mg G' ρ (.ref p) sv.d := by
  cases sv with
  | dat d => exact h.elim
  | lst xs => obtain ⟨vs, e, r⟩ := h; exact ⟨_, e, fun G' u e' => .lst e' (r.up u)⟩
  | dct xs => obtain ⟨vs, e, r⟩ := h; exact ⟨_, e, fun G' u e' => .dct e' (r.up u)⟩
  | dctT xs => obtain ⟨vs, e, r⟩ := h; exact ⟨_, e, fun G' u e' => .dctT e' (r.up u)⟩
abbrev frz (g : Env → M SV) : Env → M D := fun env => M.bind (g env) fun sv => M.pure sv.d
theorem tV_frz {g : Env → M SV} {Q : VK} (q : tV K w mg Z (frz g) σ H Q) : tF K w mg Z g σ H Q := by
  obtain ⟨G, ρ, S, env, wd, fr, run⟩ := q
  refine ⟨G, ρ, S, env, wd, fr, ?_⟩
  unfold Run frz M.bind M.pure at run
  unfold Run
  cases e : g env S with
  | none => rw [e] at run; exact run
  | some r =>
    obtain ⟨r, S'⟩ := r
    rw [e] at run
    cases r with
    | error e => exact run
    | ok sv =>
      intro G1 ρ1 H1 x1 w1 v r f
      rcases r with ⟨d, rfl, r⟩ | ⟨p, rfl, gp, np, o⟩
      · exact run _ _ _ x1 w1 v r
      · obtain ⟨o', ho, k⟩ := o.rep
        have own : sv.own = true := by cases sv <;> first | rfl | exact o.elim
        obtain ⟨w2, x2, u2⟩ := w1.freeze x1 gp np ho (f own p rfl)
        exact run _ _ _ x2 w2 _ (k _ u2 upd_same)
theorem tP_of_tV {g : Env → M D} {Q : VK} (q : tP K w mg Z g σ H Q) : tV K w mg Z g σ H Q := by
  obtain ⟨G, ρ, S, env, wd, fr, run⟩ := q
  exact ⟨G, ρ, S, env, wd, fr, run.imp fun a G1 ρ1 S1 H1 k v r => k v (.of r)⟩
theorem tF_of_tV {g : Env → M D} {Q : VK} (q : tF K w mg Z (fun env => M.bind (g env) fun d => M.pure (.dat d)) σ H Q) : tV K w mg Z g σ H Q := by
  obtain ⟨G, ρ, S, env, wd, fr, run⟩ := q
  refine ⟨G, ρ, S, env, wd, fr, run.bind.imp fun a G1 ρ1 S1 H1 ⟨x1, w1, r1⟩ v r => ?_⟩
  exact (r1.pure _ _ _ (Ext.refl _ _ _) w1).2 v (.inl ⟨_, rfl, r⟩) fun z => nomatch z
end

/-! ### the judgements -/
abbrev EV (X : Cx) (Z : Zt) (e : Expr) (g : Env → M D) : Prop := PE X e (tV X.K X.w X.mg Z g)
abbrev EF (X : Cx) (Z : Zt) (e : Expr) (g : Env → M SV) : Prop := PE X e (tF X.K X.w X.mg Z g)
abbrev EP (X : Cx) (Z : Zt) (e : Expr) (g : Env → M D) : Prop := PE X e (tP X.K X.w X.mg Z g)
abbrev ET (X : Cx) (Z : Zt) (e : Expr) (g : Env → M Bool) : Prop := PT X e (tT X.K X.w X.mg Z g)
abbrev EA (X : Cx) (Z : Zt) (es : List Expr) (g : Env → M (List D)) : Prop := PA X es (tA X.K X.w X.mg Z g)
section
variable {X : Cx} {Z : Zt} {e a b : Expr} {ga gb : Env → M D} {pos : Pos}
theorem EV.p {g : Env → M D} (h : EV X Z e g) : EP X Z e g := PE.mono h fun _ _ _ q => tP_of_tV q
theorem EF.v {g : Env → M SV} (h : EF X Z e g) : EV X Z e (frz g) := PE.mono h fun _ _ _ q => tV_frz q
theorem EF.p {g : Env → M SV} (h : EF X Z e g) : EP X Z e (frz g) := (EF.v h).p
theorem EV.f {g : Env → M D} (h : EV X Z e g) : EF X Z e (fun env => M.bind (g env) fun d => M.pure (.dat d)) := PE.mono h fun _ _ _ q => tF_of_tV q

/-! ### names, constants -/
def evar (i : Nat) : Env → M D := fun env => match env[i]? with
  | some (some (.dat d)) => M.pure d
  | _ => M.fail
def pvar (i : Nat) : Env → M D := fun env => match env[i]? with
  | some (some sv) => M.pure sv.d
  | _ => M.fail
theorem ev_var (i : Nat) {x : Str} (hN : X.N[i]? = some x := by rfl) (hv : Vis X.env.scope x := by first | exact Or.inl rfl | exact Or.inr (Or.inl rfl) | exact Or.inr (Or.inr rfl)) (hd : (x == ("__debug__" : Str)) = false := by decide)
    (hcd : (x == ("__classdict__" : Str)) = false := by decide) : EV X Z (.Name x pos) (evar i) := by
  refine PE.mono (pe_var hN hv hd hcd) fun σ H Q q => ?_
  obtain ⟨G, ρ, S, env, wd, fr, run⟩ := q
  cases h : env[i]? with
  | none => simp only [evar, h] at run; exact run.elim
  | some o =>
    cases o with
    | none => simp only [evar, h] at run; exact run.elim
    | some sv =>
      obtain ⟨v, e1, r⟩ := fr.at_ i sv h
      cases sv with
      | dat d =>
        simp only [evar, h] at run
        rcases r with ⟨d', e, r⟩ | ⟨_, _, _, _, o⟩
        · cases e; exact ⟨v, e1, run.pure _ _ _ (Ext.refl _ _ _) wd v r⟩
        · exact o.elim
      | _ => simp only [evar, h] at run; exact run.elim
theorem ep_var (i : Nat) {x : Str} (hN : X.N[i]? = some x := by rfl) (hv : Vis X.env.scope x := by first | exact Or.inl rfl | exact Or.inr (Or.inl rfl) | exact Or.inr (Or.inr rfl)) (hd : (x == ("__debug__" : Str)) = false := by decide)
    (hcd : (x == ("__classdict__" : Str)) = false := by decide) : EP X Z (.Name x pos) (pvar i) := by
  refine PE.mono (pe_var hN hv hd hcd) fun σ H Q q => ?_
  obtain ⟨G, ρ, S, env, wd, fr, run⟩ := q
  cases h : env[i]? with
  | none => simp only [pvar, h] at run; exact run.elim
  | some o =>
    cases o with
    | none => simp only [pvar, h] at run; exact run.elim
    | some sv =>
      obtain ⟨v, e1, r⟩ := fr.at_ i sv h
      simp only [pvar, h] at run
      exact ⟨v, e1, run.pure _ _ _ (Ext.refl _ _ _) wd v ⟨sv, rfl, r⟩⟩
abbrev ecst (d : D) : Env → M D := fun _ => M.pure d
theorem ev_cst {v : V} {d : D} (h : PE X e (tC v)) (r : ∀ G ρ, Rep X.K X.w X.mg G ρ v d) : EV X Z e (ecst d) := PE.mono h fun σ H Q q => by
  obtain ⟨G, ρ, S, env, wd, fr, run⟩ := q
  exact run.pure _ _ _ (Ext.refl _ _ _) wd v (r _ _)
theorem ev_int {i j} : EV X Z (.Constant (.int i) j pos) (ecst (.int i)) := ev_cst pe_int fun _ _ => .int i
theorem ev_bl {i j} : EV X Z (.Constant (.bool i) j pos) (ecst (.bl i)) := ev_cst pe_bl fun _ _ => .bl i
theorem ev_non {j} : EV X Z (.Constant .none j pos) (ecst .non) := ev_cst pe_non fun _ _ => .non
/-- the signs of a text -/
def cs (z : String) : List Nat := z.toList.map Char.toNat
theorem st_cs (z : String) : st (cs z) = Str.ofString z := by rw [Str.ofString_eq_toList]; rfl
theorem ev_str {z : String} {j} : EV X Z (.Constant (.str (Str.ofString z)) j pos) (ecst (.str (cs z))) := ev_cst pe_str fun _ _ => by rw [← st_cs]; exact .str _
/-- a constant of the module -/
structure Glb (K : PySem.W.Frag) (w : World) (mg : Str → Option Value) (x : Str) (d : D) : Prop where
  ex : ∃ u v, mg x = some u ∧ RelV v u ∧ ∀ G ρ, Rep K w mg G ρ v d
theorem ev_glb {x : Str} {d : D} (h : Glb X.K X.w X.mg x d) (hg : Gl X x := by rfl) (hd : (x == ("__debug__" : Str)) = false := by decide) : EV X Z (.Name x pos) (ecst d) := by
  obtain ⟨u, v, hm, r, k⟩ := h.ex
  exact ev_cst (pe_glob hg hm r hd) k

/-! ### operators -/
theorem ev_op {op : Operator} {rr : R2} {h : D → D → Option D} (snd : Snd2 X.K X.w X.mg h rr) (ho : OpR X (binaryOp op) rr) (ha : EP X Z a ga) (hb : EP X Z b gb) : EV X Z (.BinOp a op b pos) (op2 h ga gb) := PE.mono (pe_op ho ha hb) fun _ _ _ q => tV_op2 snd q
theorem ef_op {op : Operator} {rr : R2} {h : D → D → Option SV} (snd : Snd2F X.K X.w X.mg h rr) (ho : OpR X (binaryOp op) rr) (ha : EP X Z a ga) (hb : EP X Z b gb) : EF X Z (.BinOp a op b pos) (op2F h ga gb) := PE.mono (pe_op ho ha hb) fun _ _ _ q => tF_op2 snd q
theorem et_cmp {op : CmpOp} {rr : R2} {h : D → D → Option Bool} (snd : Snd2B X.K X.w X.mg h rr) (ho : OpR X (compareOp op) rr) (hm : behindInMarks op b = false) (ha : EP X Z a ga) (hb : EP X Z b gb) : ET X Z (.Compare a [op] [b] pos) (op2B h ga gb) :=
  PT.mono (pt_cmpR ho ha hb hm) fun _ _ _ q => tT_op2 snd q
theorem ev_cmp {op : CmpOp} {rr : R2} {h : D → D → Option Bool} (snd : Snd2B X.K X.w X.mg h rr) (ho : OpR X (compareOp op) rr) (hm : behindInMarks op b = false) (ha : EP X Z a ga) (hb : EP X Z b gb) : EV X Z (.Compare a [op] [b] pos) (op2 (fun d e => (h d e).map .bl) ga gb) :=
  PE.mono (pe_cmpR ho ha hb hm) fun _ _ _ q => tV_op2 snd.v q
end
end VX
set_option Elab.async false
set_option linter.all false
set_option maxRecDepth 100000
set_option maxHeartbeats 4000000
/-! the operators, by value -/
namespace VX
open PySem PySem.Spec PyProof.Rows L2

/-! ### == -/
mutual
def D.py : D → Option PyData
  | .non => some .none
  | .bl b => some (.bool b)
  | .int i => some (.int i)
  | .str s => some (.str (st s))
  | .tup xs => (D.pys xs).map .tuple
  | .lst xs => (D.pys xs).map .list
  | _ => none
def D.pys : List D → Option (List PyData)
  | [] => some []
  | x :: xs => match D.py x, D.pys xs with
    | some p, some ps => some (p :: ps)
    | _, _ => none
end
def eqB (d e : D) : Option Bool := match d.py, e.py with
  | some p, some q => if SeqAt.shaped p = true ∧ SeqAt.shaped q = true then some (PyData.eqv p q) else none
  | _, _ => none
def neB (d e : D) : Option Bool := (eqB d e).map (! ·)
section
variable {K : PySem.W.Frag} {w : World} {mg : Str → Option Value} {G : Hp} {ρ : List Addr} {H : Hp} {S : Sto}
mutual
theorem Rep.dp (g : Same G H) : ∀ {d : D} {v : V} {p : PyData}, Rep K w mg G ρ v d → d.py = some p → Dp K H v p
  | .non, _, _, h, e => by cases h; simp only [D.py, Option.some.injEq] at e; subst e; exact .non
  | .bl b, _, _, h, e => by cases h; simp only [D.py, Option.some.injEq] at e; subst e; exact .bl b
  | .int b, _, _, h, e => by cases h; simp only [D.py, Option.some.injEq] at e; subst e; exact .int b
  | .str b, _, _, h, e => by cases h; simp only [D.py, Option.some.injEq] at e; subst e; exact .str _
  | .tup xs, _, _, h, e => by
    simp only [D.py] at e
    obtain ⟨ps, e1, rfl⟩ := Option.map_eq_some_iff.mp e
    cases h with
    | tup h r => exact .tup (h.sqT g) (Reps.dp g r e1)
  | .lst xs, _, _, h, e => by
    simp only [D.py] at e
    obtain ⟨ps, e1, rfl⟩ := Option.map_eq_some_iff.mp e
    cases h with
    | lst h r => exact .lst (.of (g _ _ h)) (Reps.dp g r e1)
  | .dct _, _, _, _, e => by simp [D.py] at e
  | .dctT _, _, _, _, e => by simp [D.py] at e
  | .obj _, _, _, _, e => by simp [D.py] at e
  | .fn _, _, _, _, e => by simp [D.py] at e
  | .bm _ _ _, _, _, _, e => by simp [D.py] at e
  | .scr _, _, _, _, e => by simp [D.py] at e
  | .tab _, _, _, _, e => by simp [D.py] at e
theorem Reps.dp (g : Same G H) : ∀ {d : List D} {v : List V} {p : List PyData}, Reps K w mg G ρ v d → D.pys d = some p → DpAll K H v p
  | [], _, _, h, e => by cases h; simp only [D.pys, Option.some.injEq] at e; subst e; exact .nil
  | x :: xs, _, _, h, e => by
    cases h with
    | cons h r =>
      simp only [D.pys] at e
      cases e1 : x.py with
      | none => simp [e1] at e
      | some p =>
        cases e2 : D.pys xs with
        | none => simp [e1, e2] at e
        | some ps =>
          simp only [e1, e2, Option.some.injEq] at e
          subst e
          exact .cons (Rep.dp g h e1) (Reps.dp g r e2)
end
theorem SeeR.dp (g : Same G H) {d : D} {v : V} {p : PyData} (h : SeeR K w mg G ρ H v d) (e : d.py = some p) : Dp K H v p := by
  cases h with
  | rep r => exact r.dp g e
  | lst h r =>
    simp only [D.py] at e
    obtain ⟨ps, e1, rfl⟩ := Option.map_eq_some_iff.mp e
    exact .lst (.of h) (Reps.dp g r e1)
  | dct h r => simp [D.py] at e
  | dctT h r => simp [D.py] at e
theorem snd_eq : Snd2B K w mg eqB (rEqD K) := by
  intro G ρ S H x y d e r Q wd sx sy h q
  unfold eqB at h
  cases e1 : d.py with
  | none => simp [e1] at h
  | some p =>
    cases e2 : e.py with
    | none => simp [e1, e2] at h
    | some p2 =>
      simp only [e1, e2] at h
      split at h
      · rename_i hs
        cases h
        exact ⟨p, p2, sx.dp wd.g e1, sy.dp wd.g e2, hs.1, hs.2, q⟩
      · cases h
theorem snd_ne : Snd2B K w mg neB (rNeD K) := by
  intro G ρ S H x y d e r Q wd sx sy h q
  obtain ⟨b, h', rfl⟩ := Option.map_eq_some_iff.mp (show (eqB d e).map (! ·) = some r from h)
  clear h
  have h := h'
  unfold eqB at h
  cases e1 : d.py with
  | none => simp [e1] at h
  | some p =>
    cases e2 : e.py with
    | none => simp [e1, e2] at h
    | some p2 =>
      simp only [e1, e2] at h
      split at h
      · rename_i hs
        cases h
        exact ⟨p, p2, sx.dp wd.g e1, sy.dp wd.g e2, hs.1, hs.2, q⟩
      · cases h
end

/-! ### numbers, texts, sequences: +, -, *, //, %, ** -/
def addF : D → D → Option SV
  | .int i, .int j => some (.dat (.int (i + j)))
  | .str a, .str b => if a.length + b.length ≤ sizeLine then some (.dat (.str (a ++ b))) else none
  | .tup a, .tup b => if a.length + b.length ≤ sizeLine then some (.dat (.tup (a ++ b))) else none
  | .lst a, .lst b => if a.length + b.length ≤ sizeLine then some (.lst (a ++ b)) else none
  | _, _ => none
def rAddF (K : PySem.W.Frag) : R2 := fun x y H Q => (rI0 (fun i j => .int (i + j)) x y H Q) ∨ (fun x y H Q => ∃ i j, x = .str i ∧ y = .str j ∧ i.length + j.length ≤ sizeLine ∧ Q (.str (i ++ j)) H : R2) x y H Q ∨ rCatF K x y H Q ∨ rCat x y H Q
theorem op_addF {X : Cx} : OpR X (binaryOp .Add) (rAddF X.K) := op_add.or (op_add_str.or (op_catF.or op_cat))
theorem st_app (a b : List Nat) : st a ++ st b = st (a ++ b) := by
  show (⟨a.toArray ++ b.toArray⟩ : Str) = ⟨(a ++ b).toArray⟩
  rw [List.append_toArray]
theorem st_len (a : List Nat) : (st a).length = a.length := rfl
section
variable {K : PySem.W.Frag} {w : World} {mg : Str → Option Value}
theorem snd_addF : Snd2F K w mg addF (rAddF K) := by
  intro G ρ S H x y d e r Q wd sx sy h q
  unfold addF at h
  split at h
  · cases h; exact .inl ⟨_, _, sx.int, sy.int, q.dat wd (.int _)⟩
  · split at h
    · cases h
      refine .inr (.inl ⟨_, _, sx.str, sy.str, by simpa [st_len] using ‹_ ≤ _›, ?_⟩)
      rw [st_app]
      exact q.dat wd (.str _)
    · cases h
  · split at h
    · rename_i hl
      cases h
      obtain ⟨p, vs, rfl, h1, r1⟩ := sx.tup wd.g
      obtain ⟨p2, vs2, rfl, h2, r2⟩ := sy.tup wd.g
      have l1 := r1.length
      have l2 := r2.length
      refine .inr (.inr (.inl ⟨p, p2, vs, vs2, rfl, rfl, h1, h2, by omega, fun z => ?_, fun _ z => ?_, fun _ _ => q.tup wd (r1.append r2)⟩))
      · subst z; cases r1; rw [List.nil_append] at q; exact q.dat wd sy.tup_rep
      · subst z; cases r2; rw [List.append_nil] at q; exact q.dat wd sx.tup_rep
    · cases h
  · split at h
    · rename_i hl
      cases h
      obtain ⟨p, vs, rfl, h1, r1⟩ := sx.lst_at wd.g
      obtain ⟨p2, vs2, rfl, h2, r2⟩ := sy.lst_at wd.g
      have l1 := r1.length
      have l2 := r2.length
      exact .inr (.inr (.inr ⟨p, p2, vs, vs2, rfl, rfl, h1, h2, by omega, q.lst wd (r1.append r2)⟩))
    · cases h
  · cases h
end
/-- ints alone -/
def intOp (C : Int → Int → Bool) (f : Int → Int → Int) : D → D → Option D
  | .int i, .int j => if C i j = true then some (.int (f i j)) else none
  | _, _ => none
theorem snd_intOp {K : PySem.W.Frag} {w : World} {mg : Str → Option Value} {C : Int → Int → Bool} {f : Int → Int → Int} {P : Int → Int → Prop} (h : ∀ i j, C i j = true → P i j) : Snd2 K w mg (intOp C f) (rI P fun i j => .int (f i j)) := by
  intro G ρ S H x y d e r Q wd sx sy h1 q
  unfold intOp at h1
  split at h1
  · split at h1
    · cases h1; exact ⟨_, _, sx.int, sy.int, h _ _ ‹_›, q.here wd (.int _)⟩
    · cases h1
  · cases h1
def subD : D → D → Option D := intOp (fun _ _ => true) fun i j => i - j
def modD : D → D → Option D := intOp (fun _ j => decide (0 < j)) fun i j => i % j
def fdivD : D → D → Option D := intOp (fun _ j => decide (0 < j ∧ j < 1073741824)) fun i j => i / j
def powD : D → D → Option D := intOp (fun i j => decide (0 ≤ j ∧ j ≤ 1000000 ∧ i.natAbs < 2 ^ 64)) fun i j => i ^ j.toNat
section
variable {K : PySem.W.Frag} {w : World} {mg : Str → Option Value}
theorem snd_sub : Snd2 K w mg subD (rI (fun _ _ => True) fun i j => .int (i - j)) := snd_intOp fun _ _ _ => trivial
theorem op_subI {X : Cx} : OpR X (binaryOp .Sub) (rI (fun _ _ => True) fun i j => .int (i - j)) := fun pins s σ H x y v u Q I rx ry h => by
  obtain ⟨i, j, e1, e2, _, q⟩ := h
  exact op_sub pins s σ H x y v u Q I rx ry ⟨i, j, e1, e2, q⟩
theorem snd_mod : Snd2 K w mg modD (rI (fun _ j => 0 < j) fun i j => .int (i % j)) := snd_intOp fun _ _ h => of_decide_eq_true h
theorem snd_fdiv : Snd2 K w mg fdivD (rI CDiv fun i j => .int (i / j)) := snd_intOp fun i j h => (of_decide_eq_true (p := 0 < j ∧ j < 1073741824) h)
theorem snd_pow : Snd2 K w mg powD (rI CPow fun i j => .int (i ^ j.toNat)) := snd_intOp fun i j h => (of_decide_eq_true (p := 0 ≤ j ∧ j ≤ 1000000 ∧ i.natAbs < 2 ^ 64) h)
end
/-- a list, a text, a number times a number -/
def mulF : D → D → Option SV
  | .int i, .int j => if (-(2 ^ 64) < i ∧ i < 2 ^ 64) ∨ (-(2 ^ 64) < j ∧ j < 2 ^ 64) then some (.dat (.int (i * j))) else none
  | .str a, .int k => if -(2 ^ 63) ≤ k ∧ k < 2 ^ 63 ∧ a.length * k.toNat ≤ sizeLine then some (.dat (.str (List.replicate k.toNat a).flatten)) else none
  | .lst a, .int k => if -(2 ^ 63) ≤ k ∧ k < 2 ^ 63 ∧ a.length * k.toNat ≤ sizeLine then some (.lst (List.replicate k.toNat a).flatten) else none
  | _, _ => none
def rMulS : R2 := fun x y H Q => ∃ a k, x = .str (st a) ∧ y = .int k ∧ -(2 ^ 63) ≤ k ∧ k < 2 ^ 63 ∧ a.length * k.toNat ≤ sizeLine ∧ Q (.str (st (List.replicate k.toNat a).flatten)) H
theorem flat_arr (a : List Nat) : ∀ (n : Nat) (acc : List Nat), (List.replicate n a.toArray).foldl (fun x y => x ++ y) acc.toArray = (acc ++ (List.replicate n a).flatten).toArray
  | 0, acc => by simp
  | n + 1, acc => by
    rw [List.replicate_succ, List.foldl_cons, List.append_toArray, flat_arr a n, List.replicate_succ, List.flatten_cons, List.append_assoc]
theorem op_mulS {X : Cx} : OpR X (binaryOp .Mult) rMulS := by
  intro pins s σ H x y v u Q I rx ry h
  obtain ⟨a, k, rfl, rfl, h1, h2, hz, q⟩ := h
  obtain ⟨t, rfl⟩ := rx
  obtain ⟨t2, rfl⟩ := ry
  have hz' : a.length * k.toNat ≤ 16777216 := hz
  refine PySem.P.mul_str (by simp; omega) (fun h3 h4 => ?_) (fun h3 h4 => ?_) ?_
  · have hk : (1 : Int) ≤ k := by omega
    have e1 : ((st a).length : Int) = (a.length : Int) := rfl
    rw [e1]
    have : (a.length : Int) ≤ (2 ^ 63 - 1) / k := by
      refine (Int.le_ediv_iff_mul_le (by omega)).mpr ?_
      have e2 : (a.length : Int) * k = ((a.length * k.toNat : Nat) : Int) := by
        rw [Int.natCast_mul, Int.toNat_of_nonneg (by omega)]
      rw [e2]
      omega
    omega
  · unfold Builtin.Str.tooLong
    have e1 : (st a).length = a.length := rfl
    rw [e1]
    first
      | exact decide_eq_false (by omega)
      | (simp only [decide_eq_false_iff_not]; simp only [sizeLine] at *; omega)
  · split
    · rename_i h3
      have e : k.toNat = 0 := by omega
      rw [e] at q
      exact ⟨Nat.zero_le _, .str (st (List.replicate 0 a).flatten), H, I.tok _, ⟨_, rfl⟩, q⟩
    · split
      · rename_i h3 h4
        have e : (List.replicate k.toNat a).flatten = a := by
          simp only [Bool.or_eq_true, beq_iff_eq] at h4
          rcases h4 with h4 | h4
          · have : k.toNat = 1 := by omega
            rw [this]; simp
          · have : a = [] := List.eq_nil_of_length_eq_zero h4
            subst this
            simp
        rw [e] at q
        exact ⟨.str (st a), H, I, ⟨_, rfl⟩, q⟩
      · have e : List.foldl (fun x1 x2 => x1 ++ x2) #[] (List.replicate k.toNat (st a).cps) = ((List.replicate k.toNat a).flatten).toArray := by
          have := flat_arr a k.toNat []
          rw [List.nil_append] at this
          exact this
        rw [e]
        refine ⟨?_, .str (st (List.replicate k.toNat a).flatten), H, I.tok _, ⟨_, rfl⟩, q⟩
        show (List.replicate k.toNat a).flatten.toArray.size ≤ sizeLine
        rw [List.size_toArray, List.length_flatten, List.map_replicate, List.sum_replicate_nat, Nat.mul_comm]
        exact hz
def rMulF : R2 := fun x y H Q => (rI CMul (fun i j => .int (i * j)) x y H Q) ∨ rMulS x y H Q ∨ rRep x y H Q
theorem op_mulF {X : Cx} : OpR X (binaryOp .Mult) rMulF := op_mul.or (op_mulS.or op_rep)
theorem snd_mulF {K : PySem.W.Frag} {w : World} {mg : Str → Option Value} : Snd2F K w mg mulF rMulF := by
  intro G ρ S H x y d e r Q wd sx sy h q
  unfold mulF at h
  split at h
  · split at h
    · cases h; exact .inl ⟨_, _, sx.int, sy.int, ‹_›, q.dat wd (.int _)⟩
    · cases h
  · split at h
    · rename_i hc
      cases h; exact .inr (.inl ⟨_, _, sx.str, sy.int, hc.1, hc.2.1, hc.2.2, q.dat wd (.str _)⟩)
    · cases h
  · split at h
    · rename_i hc
      cases h
      obtain ⟨p, vs, rfl, h1, r1⟩ := sx.lst_at wd.g
      have l1 := r1.length
      exact .inr (.inr ⟨p, _, vs, rfl, sy.int, h1, hc.1, hc.2.1, by rw [l1]; exact hc.2.2, q.lst wd (r1.rep _)⟩)
    · cases h
  · cases h
end VX
set_option Elab.async false
set_option linter.all false
set_option maxRecDepth 100000
set_option maxHeartbeats 4000000
/-! comparisons, tests, built-ins, by value -/
namespace VX
open PySem PySem.Spec PyProof.Rows L2

/-! ### order -/
def ltB : D → D → Option Bool
  | .int i, .int j => some (decide (i < j))
  | .str i, .str j => some (decide (i < j))
  | _, _ => none
def leB : D → D → Option Bool
  | .int i, .int j => some (decide (i ≤ j))
  | _, _ => none
def gtB : D → D → Option Bool
  | .int i, .int j => some (decide (j < i))
  | _, _ => none
def geB : D → D → Option Bool
  | .int i, .int j => some (decide (j ≤ i))
  | _, _ => none
def rLtS : R2 := fun x y H Q => ∃ i j, x = .str i ∧ y = .str j ∧ Q (.bl (decide (i.cps.toList < j.cps.toList))) H
def rLtB : R2 := fun x y H Q => rI0 (fun i j => .bl (decide (i < j))) x y H Q ∨ rLtS x y H Q
section
variable {X : Cx} {K : PySem.W.Frag} {w : World} {mg : Str → Option Value}
theorem op_ltB : OpR X (compareOp .Lt) rLtB := op_lt.or op_lt_str
theorem snd_lt : Snd2B K w mg ltB rLtB := by
  intro G ρ S H x y d e r Q wd sx sy h q
  unfold ltB at h
  split at h
  · cases h; exact .inl ⟨_, _, sx.int, sy.int, q⟩
  · cases h; exact .inr ⟨_, _, sx.str, sy.str, q⟩
  · cases h
theorem snd_le : Snd2B K w mg leB (rI0 fun i j => .bl (decide (i ≤ j))) := by
  intro G ρ S H x y d e r Q wd sx sy h q
  unfold leB at h
  split at h
  · cases h; exact ⟨_, _, sx.int, sy.int, q⟩
  · cases h
theorem snd_gt : Snd2B K w mg gtB (rI0 fun i j => .bl (decide (j < i))) := by
  intro G ρ S H x y d e r Q wd sx sy h q
  unfold gtB at h
  split at h
  · cases h; exact ⟨_, _, sx.int, sy.int, q⟩
  · cases h
theorem snd_ge : Snd2B K w mg geB (rI0 fun i j => .bl (decide (j ≤ i))) := by
  intro G ρ S H x y d e r Q wd sx sy h q
  unfold geB at h
  split at h
  · cases h; exact ⟨_, _, sx.int, sy.int, q⟩
  · cases h
end
/-! ### is None -/
def D.isNon : D → Bool
  | .non => true
  | _ => false
section
variable {K : PySem.W.Frag} {w : World} {mg : Str → Option Value} {G : Hp} {ρ : List Addr} {H : Hp} {S : Sto} {v : V} {d : D}
theorem SeeR.isNon (h : SeeR K w mg G ρ H v d) : decide (v = .non) = d.isNon := by
  cases h with
  | rep r => cases r <;> first | rfl | exact decide_eq_true rfl | exact decide_eq_false (by simp)
  | _ => exact decide_eq_false (by simp)
theorem SD.isNon (h : SD K w mg G ρ H v d) : decide (v = .non) = d.isNon := by
  obtain ⟨sv, rfl, h⟩ := h
  rcases h with ⟨d, rfl, r⟩ | ⟨p, rfl, _, _, o⟩
  · exact SeeR.isNon (.rep r : SeeR K w mg G ρ H v d)
  · cases sv with
    | dat d => exact o.elim
    | _ => exact decide_eq_false (by simp)
end
abbrev isNonB (ga : Env → M D) : Env → M Bool := fun env => M.bind (ga env) fun a => M.pure a.isNon
abbrev isNotNonB (ga : Env → M D) : Env → M Bool := fun env => M.bind (ga env) fun a => M.pure (!a.isNon)
section
variable {X : Cx} {Z : Zt} {e a b c : Expr} {ga gb gc : Env → M D} {ta tb : Env → M Bool} {pos : Pos} {rest : List Expr}
theorem et_isN {j pos'} (ha : EP X Z a ga) : ET X Z (.Compare a [.Is] [.Constant .none j pos'] pos) (isNonB ga) := PT.mono (pt_cmp (pc_isN ha)) fun σ H Q q => by
  obtain ⟨G, ρ, S, env, wd, fr, run⟩ := q
  refine ⟨G, ρ, S, env, wd, fr, run.bind.imp fun d G1 ρ1 S1 H1 ⟨x1, w1, r1⟩ v sd => ⟨_, rfl, ?_⟩⟩
  rw [sd.isNon]
  exact (r1.pure _ _ _ (Ext.refl _ _ _) w1).2
theorem et_notN {j pos'} (ha : EP X Z a ga) : ET X Z (.Compare a [.IsNot] [.Constant .none j pos'] pos) (isNotNonB ga) := PT.mono (pt_cmp (pc_notN ha)) fun σ H Q q => by
  obtain ⟨G, ρ, S, env, wd, fr, run⟩ := q
  refine ⟨G, ρ, S, env, wd, fr, run.bind.imp fun d G1 ρ1 S1 H1 ⟨x1, w1, r1⟩ v sd => ⟨_, rfl, ?_⟩⟩
  rw [sd.isNon]
  exact (r1.pure _ _ _ (Ext.refl _ _ _) w1).2
theorem ev_isN {j pos'} (ha : EP X Z a ga) : EV X Z (.Compare a [.Is] [.Constant .none j pos'] pos) (fun env => M.bind (isNonB ga env) fun b => M.pure (D.bl b)) := PE.mono (pe_cmp (pc_isN ha)) fun σ H Q q => by
  obtain ⟨G, ρ, S, env, wd, fr, run⟩ := q
  simp only [M.bind_assoc, M.pure_bind] at run
  refine ⟨G, ρ, S, env, wd, fr, run.bind.imp fun d G1 ρ1 S1 H1 ⟨x1, w1, r1⟩ v sd => ?_⟩
  dsimp only
  rw [sd.isNon]
  exact (r1.pure _ _ _ (Ext.refl _ _ _) w1).2 _ (.bl _)
theorem ev_notN {j pos'} (ha : EP X Z a ga) : EV X Z (.Compare a [.IsNot] [.Constant .none j pos'] pos) (fun env => M.bind (isNotNonB ga env) fun b => M.pure (D.bl b)) := PE.mono (pe_cmp (pc_notN ha)) fun σ H Q q => by
  obtain ⟨G, ρ, S, env, wd, fr, run⟩ := q
  simp only [M.bind_assoc, M.pure_bind] at run
  refine ⟨G, ρ, S, env, wd, fr, run.bind.imp fun d G1 ρ1 S1 H1 ⟨x1, w1, r1⟩ v sd => ?_⟩
  dsimp only
  rw [sd.isNon]
  exact (r1.pure _ _ _ (Ext.refl _ _ _) w1).2 _ (.bl _)

/-! ### tests: and, or, not, a value that is a bool, if-else -/
abbrev EW (X : Cx) (Z : Zt) (e : Expr) (g : Env → M Bool) : Prop := PW X e (tT X.K X.w X.mg Z g)
theorem PW.mono {e : Expr} {t t' : TT} (h : PW X e t') (i : ∀ σ H Q, t σ H Q → t' σ H Q) : PW X e t := ⟨fun wh pins s σ H Q I q => h.run wh pins s σ H Q I (i _ _ _ q)⟩
abbrev andT (ta tb : Env → M Bool) : Env → M Bool := fun env => M.bind (ta env) fun c => if c = true then tb env else M.pure false
abbrev orT (ta tb : Env → M Bool) : Env → M Bool := fun env => M.bind (ta env) fun c => if c = true then M.pure true else tb env
abbrev notT (ta : Env → M Bool) : Env → M Bool := fun env => M.bind (ta env) fun c => M.pure (!c)
theorem ew_and1 (ha : ET X Z a ta) : EW X Z (.BoolOp .And [a] pos) ta := pw_and1 ha
theorem ew_or1 (ha : ET X Z a ta) : EW X Z (.BoolOp .Or [a] pos) ta := pw_or1 ha
theorem ew_and (ha : ET X Z a ta) (hb : EW X Z (.BoolOp .And (b :: rest) pos) tb) : EW X Z (.BoolOp .And (a :: b :: rest) pos) (andT ta tb) := PW.mono (pw_and ha hb) fun σ H Q q => by
  obtain ⟨G, ρ, S, env, wd, fr, run⟩ := q
  refine ⟨G, ρ, S, env, wd, fr, run.bind.imp fun c G1 ρ1 S1 H1 ⟨x1, w1, r1⟩ => ?_⟩
  cases c with
  | true => exact iteT ⟨G1, ρ1, S1, env, w1, fr.ext x1, r1.imp fun _ _ _ _ _ k => k.2⟩
  | false => exact iteF (r1.pure _ _ _ (Ext.refl _ _ _) w1).2
theorem ew_or (ha : ET X Z a ta) (hb : EW X Z (.BoolOp .Or (b :: rest) pos) tb) : EW X Z (.BoolOp .Or (a :: b :: rest) pos) (orT ta tb) := PW.mono (pw_or ha hb) fun σ H Q q => by
  obtain ⟨G, ρ, S, env, wd, fr, run⟩ := q
  refine ⟨G, ρ, S, env, wd, fr, run.bind.imp fun c G1 ρ1 S1 H1 ⟨x1, w1, r1⟩ => ?_⟩
  cases c with
  | false => exact iteF ⟨G1, ρ1, S1, env, w1, fr.ext x1, r1.imp fun _ _ _ _ _ k => k.2⟩
  | true => exact iteT (r1.pure _ _ _ (Ext.refl _ _ _) w1).2
theorem et_w {g : Env → M Bool} (h : EW X Z e g) : ET X Z e g := h.pt
theorem et_not (ha : ET X Z a ta) : ET X Z (.UnaryOp .Not a pos) (notT ta) := PT.mono (pt_not ha) fun σ H Q q => by
  obtain ⟨G, ρ, S, env, wd, fr, run⟩ := q
  exact ⟨G, ρ, S, env, wd, fr, run.bind.imp fun c G1 ρ1 S1 H1 ⟨x1, w1, r1⟩ => (r1.pure _ _ _ (Ext.refl _ _ _) w1).2⟩
def D.asB : D → Option Bool
  | .bl b => some b
  | _ => none
abbrev valT (ga : Env → M D) : Env → M Bool := fun env => M.bind (ga env) fun a => M.opt a.asB
theorem Rep.asB {K : PySem.W.Frag} {w : World} {mg : Str → Option Value} {G : Hp} {ρ : List Addr} {v : V} {d : D} {b : Bool} (h : Rep K w mg G ρ v d) (e : d.asB = some b) : v = .bl b := by
  cases h with
  | bl c => have e : some c = some b := e; cases e; rfl
  | _ => cases e
theorem et_val {g : Env → M D} (h : EV X Z e g) (he : ∀ whole, isTrue e X.env whole = (do let v ← whole; standAt e.pos; holding [v] (truthy v)) := by intro _; rfl) : ET X Z e (valT g) := PT.mono (pt_val h he) fun σ H Q q => by
  obtain ⟨G, ρ, S, env, wd, fr, run⟩ := q
  refine ⟨G, ρ, S, env, wd, fr, run.bind.imp fun d G1 ρ1 S1 H1 ⟨x1, w1, r1⟩ v r => ?_⟩
  obtain ⟨b, e, k⟩ := r1.opt
  exact ⟨b, r.asB e, (k _ _ _ (Ext.refl _ _ _) w1).2⟩
/-- and, or, not of bools, as values -/
abbrev andV (ga gb : Env → M D) : Env → M D := fun env => M.bind (ga env) fun a => M.bind (M.opt a.asB) fun c => if c = true then gb env else M.pure (D.bl false)
abbrev orV (ga gb : Env → M D) : Env → M D := fun env => M.bind (ga env) fun a => M.bind (M.opt a.asB) fun c => if c = true then M.pure (D.bl true) else gb env
abbrev notV (ga : Env → M D) : Env → M D := fun env => M.bind (ga env) fun a => M.bind (M.opt a.asB) fun c => M.pure (D.bl (!c))
theorem ev_one {op} {g : Env → M D} (h : EV X Z a g) : EV X Z (.BoolOp op [a] pos) g := pe_one h
theorem ev_and (ha : EV X Z a ga) (hb : EV X Z (.BoolOp .And (b :: rest) pos) gb) : EV X Z (.BoolOp .And (a :: b :: rest) pos) (andV ga gb) := PE.mono (pe_and ha hb) fun σ H Q q => by
  obtain ⟨G, ρ, S, env, wd, fr, run⟩ := q
  refine ⟨G, ρ, S, env, wd, fr, run.bind.imp fun d G1 ρ1 S1 H1 ⟨x1, w1, r1⟩ v r => ?_⟩
  cases e : d.asB with
  | none => rw [e] at r1; exact r1.elim
  | some c =>
    rw [e] at r1
    refine ⟨c, r.asB e, ?_⟩
    have r1 : Run X.K X.w X.mg (if c = true then gb env else M.pure (D.bl false)) G1 ρ1 S1 H1 _ _ := r1
    cases c with
    | true => exact iteT ⟨G1, ρ1, S1, env, w1, fr.ext x1, r1.imp fun _ _ _ _ _ k => k.2⟩
    | false => exact iteF ((Run.pure (show Run X.K X.w X.mg (M.pure (D.bl false)) G1 ρ1 S1 H1 _ _ from r1) _ _ _ (Ext.refl _ _ _) w1).2 _ (.bl _))
theorem ev_or (ha : EV X Z a ga) (hb : EV X Z (.BoolOp .Or (b :: rest) pos) gb) : EV X Z (.BoolOp .Or (a :: b :: rest) pos) (orV ga gb) := PE.mono (pe_or ha hb) fun σ H Q q => by
  obtain ⟨G, ρ, S, env, wd, fr, run⟩ := q
  refine ⟨G, ρ, S, env, wd, fr, run.bind.imp fun d G1 ρ1 S1 H1 ⟨x1, w1, r1⟩ v r => ?_⟩
  cases e : d.asB with
  | none => rw [e] at r1; exact r1.elim
  | some c =>
    rw [e] at r1
    refine ⟨c, r.asB e, ?_⟩
    have r1 : Run X.K X.w X.mg (if c = true then M.pure (D.bl true) else gb env) G1 ρ1 S1 H1 _ _ := r1
    cases c with
    | false => exact iteF ⟨G1, ρ1, S1, env, w1, fr.ext x1, r1.imp fun _ _ _ _ _ k => k.2⟩
    | true => exact iteT ((Run.pure (show Run X.K X.w X.mg (M.pure (D.bl true)) G1 ρ1 S1 H1 _ _ from r1) _ _ _ (Ext.refl _ _ _) w1).2 _ (.bl _))
theorem ev_not (ha : EV X Z a ga) : EV X Z (.UnaryOp .Not a pos) (notV ga) := PE.mono (pe_not ha) fun σ H Q q => by
  obtain ⟨G, ρ, S, env, wd, fr, run⟩ := q
  refine ⟨G, ρ, S, env, wd, fr, run.bind.imp fun d G1 ρ1 S1 H1 ⟨x1, w1, r1⟩ v r => ?_⟩
  cases e : d.asB with
  | none => rw [e] at r1; exact r1.elim
  | some c =>
    rw [e] at r1
    exact ⟨c, r.asB e, (Run.pure (show Run X.K X.w X.mg (M.pure (D.bl (!c))) G1 ρ1 S1 H1 _ _ from r1) _ _ _ (Ext.refl _ _ _) w1).2 _ (.bl _)⟩
abbrev iteE {α : Type} (t : Env → M Bool) (ga gb : Env → M α) : Env → M α := fun env => M.bind (t env) fun c => if c = true then ga env else gb env
theorem ev_if {t : Env → M Bool} (hc : ET X Z c t) (ha : EV X Z a ga) (hb : EV X Z b gb) : EV X Z (.IfExp c a b pos) (iteE t ga gb) := PE.mono (pe_ifExp hc ha hb) fun σ H Q q => by
  obtain ⟨G, ρ, S, env, wd, fr, run⟩ := q
  refine ⟨G, ρ, S, env, wd, fr, run.bind.imp fun c G1 ρ1 S1 H1 ⟨x1, w1, r1⟩ => ?_⟩
  cases c with
  | true => exact iteT ⟨G1, ρ1, S1, env, w1, fr.ext x1, r1.imp fun _ _ _ _ _ k => k.2⟩
  | false => exact iteF ⟨G1, ρ1, S1, env, w1, fr.ext x1, r1.imp fun _ _ _ _ _ k => k.2⟩
/-- a < b < c -/
abbrev chain2 (h h' : D → D → Option Bool) (ga gb gc : Env → M D) : Env → M Bool := fun env => M.bind (ga env) fun a => M.bind (gb env) fun b => M.bind (M.opt (h a b)) fun k => if k = true then M.bind (gc env) fun c => M.opt (h' b c) else M.pure false
theorem SeeR.of_rep {K : PySem.W.Frag} {w : World} {mg : Str → Option Value} {G : Hp} {ρ : List Addr} {H : Hp} {v : V} {d : D} (h : Rep K w mg G ρ v d) : SeeR K w mg G ρ H v d := .rep h
theorem ev_chain {op op' : CmpOp} {r r' : R2} {h h' : D → D → Option Bool} (s1 : Snd2B X.K X.w X.mg h r) (s2 : Snd2B X.K X.w X.mg h' r') (ho : OpR X (compareOp op) r) (ho' : OpR X (compareOp op') r')
    (ha : EV X Z a ga) (hb : EV X Z b gb) (hc : EV X Z c gc) (hm : lastMarks [op, op'] [b, c] = false := by rfl) : EV X Z (.Compare a [op, op'] [b, c] pos) (fun env => M.bind (chain2 h h' ga gb gc env) fun b => M.pure (D.bl b)) := PE.mono (pe_chain ho ho' ha hb hc hm) fun σ H Q q => by
  obtain ⟨G, ρ, S, env, wd, fr, run⟩ := q
  simp only [chain2, M.bind_assoc] at run
  refine ⟨G, ρ, S, env, wd, fr, run.bind.imp fun d G1 ρ1 S1 H1 ⟨x1, w1, r1⟩ v rv => ?_⟩
  refine ⟨G1, ρ1, S1, env, w1, fr.ext x1, r1.bind.imp fun e G2 ρ2 S2 H2 ⟨x2, w2, r2⟩ u ru => ?_⟩
  cases q1 : h d e with
  | none => rw [q1] at r2; exact r2.elim
  | some k =>
    rw [q1] at r2
    refine s1 _ _ _ _ _ _ _ _ _ _ w2 (.rep (rv.up x2.up)) (.rep ru) q1 ⟨k, rfl, ?_⟩
    cases k with
    | false => exact iteF ((Run.pure (show Run X.K X.w X.mg (M.pure (D.bl false)) G2 ρ2 S2 H2 _ _ from r2) _ _ _ (Ext.refl _ _ _) w2).2.2 _ (.bl _))
    | true =>
      refine iteT ⟨G2, ρ2, S2, env, w2, (fr.ext x1).ext x2, ?_⟩
      have r2 : Run X.K X.w X.mg (M.bind (M.bind (gc env) fun c => M.opt (h' e c)) fun b => M.pure (D.bl b)) G2 ρ2 S2 H2 _ _ := r2
      rw [M.bind_assoc] at r2
      refine r2.bind.imp fun f G3 ρ3 S3 H3 ⟨x3, w3, r3⟩ z rz => ?_
      cases q2 : h' e f with
      | none => rw [q2] at r3; exact r3.elim
      | some k =>
        rw [q2] at r3
        exact s2 _ _ _ _ _ _ _ _ _ _ w3 (.rep (ru.up x3.up)) (.rep rz) q2 ((Run.pure (show Run X.K X.w X.mg (M.pure (D.bl k)) G3 ρ3 S3 H3 _ _ from r3) _ _ _ (Ext.refl _ _ _) w3).2.2.2 _ (.bl _))
end
end VX
set_option Elab.async false
set_option linter.all false
set_option maxRecDepth 100000
set_option maxHeartbeats 4000000
/-! displays, subscripts, slices, built-in calls, by value -/
namespace VX
open PySem PySem.Spec PyProof.Rows L2

/-! ### argument lists, displays -/
section
variable {X : Cx} {Z : Zt} {e a b : Expr} {es : List Expr} {g ga gb : Env → M D} {gs : Env → M (List D)} {pos : Pos}
abbrev consA (g : Env → M D) (gs : Env → M (List D)) : Env → M (List D) := fun env => M.bind (g env) fun d => M.bind (gs env) fun ds => M.pure (d :: ds)
theorem ea_nil : EA X Z [] (fun _ => M.pure []) := PA.mono pa_nil fun σ H Q q => by
  obtain ⟨G, ρ, S, env, wd, fr, run⟩ := q
  exact run.pure _ _ _ (Ext.refl _ _ _) wd [] .nil
theorem ea_cons (h : EV X Z e g) (hr : EA X Z es gs) (hs : starEach (e :: es) X.env = (false, eval e X.env) :: starEach es X.env := by rfl) : EA X Z (e :: es) (consA g gs) := PA.mono (pa_cons h hr hs) fun σ H Q q => by
  obtain ⟨G, ρ, S, env, wd, fr, run⟩ := q
  refine ⟨G, ρ, S, env, wd, fr, run.bind.imp fun d G1 ρ1 S1 H1 ⟨x1, w1, r1⟩ v rv => ?_⟩
  refine ⟨G1, ρ1, S1, env, w1, fr.ext x1, r1.bind.imp fun ds G2 ρ2 S2 H2 ⟨x2, w2, r2⟩ vs rvs => ?_⟩
  exact (r2.pure _ _ _ (Ext.refl _ _ _) w2).2.2 _ (.cons (rv.up x2.up) rvs)
abbrev tupE (gs : Env → M (List D)) : Env → M D := fun env => M.bind (gs env) fun ds => if ds.length ≤ sizeLine then M.pure (D.tup ds) else M.fail
abbrev lstE (gs : Env → M (List D)) : Env → M SV := fun env => M.bind (gs env) fun ds => if ds.length ≤ sizeLine then M.pure (SV.lst ds) else M.fail
theorem ev_tup {k} (h : EA X Z es gs) : EV X Z (.Tuple es k pos) (tupE gs) := PE.mono (pe_tupF h) fun σ H Q q => by
  obtain ⟨G, ρ, S, env, wd, fr, run⟩ := q
  refine ⟨G, ρ, S, env, wd, fr, run.bind.imp fun ds G1 ρ1 S1 H1 ⟨x1, w1, r1⟩ vs rv => ?_⟩
  have hl := rv.length
  by_cases hz : ds.length ≤ sizeLine
  · rw [if_pos hz] at r1
    refine ⟨by omega, Wish.tup (S := S1) (fun G2 ρ2 H2 x2 w2 v r => (r1.pure _ _ _ x2 w2).2 v r) w1 rv⟩
  · rw [if_neg hz] at r1; exact r1.elim
theorem ef_lst (h : EA X Z es gs) : EF X Z (.List es pos) (lstE gs) := PE.mono (pe_lst h) fun σ H Q q => by
  obtain ⟨G, ρ, S, env, wd, fr, run⟩ := q
  refine ⟨G, ρ, S, env, wd, fr, run.bind.imp fun ds G1 ρ1 S1 H1 ⟨x1, w1, r1⟩ vs rv => ?_⟩
  have hl := rv.length
  by_cases hz : ds.length ≤ sizeLine
  · rw [if_pos hz] at r1
    refine ⟨by omega, WishF.lst (S := S1) (fun G2 ρ2 H2 x2 w2 v r f => (r1.pure _ _ _ x2 w2).2 v r fun o p e => x1.dom p (f o p e)) w1 rv⟩
  · rw [if_neg hz] at r1; exact r1.elim
/-- {} whose keys are ints and texts -/
theorem ef_dnew : EF X Z (.Dict [] [] pos) (fun _ => M.pure (SV.dct [])) := PE.mono pe_dnewK fun σ H Q q => by
  obtain ⟨G, ρ, S, env, wd, fr, run⟩ := q
  exact fun p hp => WishF.own (S := S) (fun G2 ρ2 H2 x2 w2 v r f => run.pure _ _ _ x2 w2 v r f) wd hp ⟨[], upd_same, .nil⟩
end

/-! ### a[i] -/
def rIxD : R2 := fun x y H Q => ∃ a v, x = .ref a ∧ DGet H a y (some v) ∧ Q v H
theorem ix_of {X : Cx} {value slice : Expr} {s : Shared} {o i : Value} {T id : String} {Q : Value → Shared → Prop} {E : Value → Shared → Prop} (hl : typeLookup (.type T) "__getitem__" = pure (some (.builtin id))) (hs : subscripted slice false o i = operate [o, i] (getItem o i))
    (hT : s.TypeIs o T) (h : wpAny (model X.prog X.w) X.A (getItem o i) Q E s) : wpAny (model X.prog X.w) X.A (subscriptTail value slice o i) Q E s := by
  unfold subscriptTail
  refine wpAny_bind ?_
  rw [getitemInPython_of_ne hT.not_modules]
  refine wpAny_bind (wpAny_specialOf hT hl ?_)
  have fin : wpAny (model X.prog X.w) X.A (subscripted slice false o i) (fun r s₃ => wpAny (model X.prog X.w) X.A (letTemporaryGo value o r >>= fun _ => pure r) Q E s₃) E s := by
    rw [hs]
    exact wpAny_operating (wpAny_mono h (fun r s₃ h₃ => wpAny_bind (wpAny_letTemporaryGo (wpAny_pure h₃))) fun _ _ x => x)
  first
    | exact wpAny_pure (wpAny_bind fin)
    | exact wpAny_bind (wpAny_pure (wpAny_bind fin))
    | exact wpAny_bind fin
theorem ix_dict {X : Cx} (hu : X.A.units + 100 < cLine) : IxR X rIxD := by
  intro value slice pins s σ H x y v u Q I rx ry h hs
  obtain ⟨a, v', rfl, g, q⟩ := h
  obtain rfl : v = Value.ref a := rx
  exact ix_of PySem.F.slot_dict_getitem.lookup hs (dict_typeIs I g) (d_getItem (by omega) I g ry fun w' s3 I3 rw' => ⟨v', H, I3, rw', q⟩)
/-- a written dict -/
def rIxKD (K : PySem.W.Frag) (w : World) : R2 := fun x y H Q => ∃ (d : Addr) (es : Array DictEntry) (n : Nat), KDict K w d es n ∧ ∃ (z : Str) (u0 : Value) (v0 : V), x = .ref d ∧ y = .str z ∧ PySem.W.nsIn K d z = some (some u0) ∧ RelV v0 u0 ∧ Q v0 H
theorem ix_kd {X : Cx} : IxR X (rIxKD X.K X.w) := by
  intro value slice pins s σ H x y v u Q I rx ry h hs
  obtain ⟨d, es, n, D, z, u0, v0, rfl, rfl, e, r, q⟩ := h
  have hT : s.TypeIs v "dict" := by
    cases rx
    exact kd_type D I
  exact ix_of PySem.F.slot_dict_getitem.lookup hs hT (op_item_kd D pins s σ H _ _ v u Q I rx ry ⟨z, u0, v0, rfl, rfl, e, r, q⟩)
def D.ks : D → Option KS
  | .int i => some (.int i)
  | .str s => some (.str s)
  | _ => none
def KS.d : KS → D
  | .int i => .int i
  | .str s => .str s
/-- a dict's value at a key -/
def dval {κ : Type} [DecidableEq κ] (kvs : List (κ × D)) (k : κ) : Option D := (kvs.find? fun kv => decide (kv.1 = k)).map (·.2)
def ixD : D → D → Option D
  | .lst xs, .int i => atI xs i
  | .tup xs, .int i => atI xs i
  | .str s, .int i => if s.length ≤ sizeLine then (atI s i).map fun c => .str [c] else none
  | .dct kvs, k => match k.ks with
    | some k => dval kvs k
    | none => none
  | .tab kvs, .str s => kvs.lookup s
  | _, _ => none
def rIxA (K : PySem.W.Frag) (w : World) : R2 := fun x y H Q => rIx K x y H Q ∨ rIxD x y H Q ∨ rIxKD K w x y H Q
theorem ix_any {X : Cx} (hu : X.A.units + 100 < cLine) : IxR X (rIxA X.K X.w) := ix_seq.or ((ix_dict hu).or ix_kd)
section
variable {K : PySem.W.Frag} {w : World} {mg : Str → Option Value} {G : Hp} {ρ : List Addr} {H : Hp} {S : Sto} {v : V}
theorem atI_rep {vs : List V} {ds : List D} (r : Reps K w mg G ρ vs ds) {i : Int} {d : D} (h : atI ds i = some d) : ∃ v, atI vs i = some v ∧ Rep K w mg G ρ v d := by
  unfold atI at h ⊢
  rw [r.length]
  cases e : ixN ds.length i with
  | none => rw [e] at h; cases h
  | some j =>
    rw [e] at h
    exact r.get h
theorem ks_rep {d : D} {k : KS} (h : SeeR K w mg G ρ H v d) (e : d.ks = some k) : v = kV k.key := by
  cases d <;> simp only [D.ks, Option.some.injEq, reduceCtorEq] at e
  · subst e; exact h.int
  · subst e; exact h.str
theorem RKs.val : ∀ {l : List (Key × V)} {ds : List (KS × D)} (k : KS), RKs K w mg G ρ l ds → (∀ d, dval ds k = some d → ∃ v, valV l k.key = some v ∧ Rep K w mg G ρ v d) ∧ (dval ds k = none → valV l k.key = none)
  | _, _, k, .nil => ⟨fun d h => (by simp [dval] at h), fun _ => rfl⟩
  | _, _, k, .cons (k := k') (l := l) (ds := ds) h r => by
    obtain ⟨i1, i2⟩ := RKs.val k r
    by_cases e : k' = k
    · subst e
      refine ⟨fun d hd => ?_, fun hd => ?_⟩
      · simp only [dval, List.find?_cons, decide_true, Option.map_some, Option.some.injEq] at hd
        subst hd
        exact ⟨_, valV_pos rfl, h⟩
      · simp [dval] at hd
    · have ne : ¬ k'.key = k.key := fun z => e (KS.key_inj z)
      refine ⟨fun d hd => ?_, fun hd => ?_⟩
      · rw [valV_neg ne]
        exact i1 d (by simpa [dval, List.find?_cons, e] using hd)
      · rw [valV_neg ne]
        exact i2 (by simpa [dval, List.find?_cons, e] using hd)
theorem RKn.look : ∀ {l : List (List Nat × V)} {ds : List (List Nat × D)} (k : List Nat), RKn K w mg G ρ l ds → (∀ d, ds.lookup k = some d → ∃ v, l.lookup k = some v ∧ Rep K w mg G ρ v d) ∧ (ds.lookup k = none → l.lookup k = none)
  | _, _, k, .nil => ⟨fun d h => (by simp at h), fun _ => rfl⟩
  | _, _, k, .cons (k := k') (l := l) (ds := ds) h r => by
    obtain ⟨i1, i2⟩ := RKn.look k r
    simp only [List.lookup_cons]
    cases e : k == k' with
    | true =>
      refine ⟨fun d hd => ?_, fun hd => by cases hd⟩
      have hd := Option.some.inj hd
      subst hd
      exact ⟨_, rfl, h⟩
    | false => exact ⟨i1, i2⟩
theorem snd_ix : Snd2 K w mg ixD (rIxA K w) := by
  intro G ρ S H x y d e r Q wd sx sy h q
  unfold ixD at h
  split at h
  · obtain ⟨p, vs, rfl, h1, r1⟩ := sx.seq wd.g
    obtain ⟨v, e1, rv⟩ := atI_rep r1 h
    exact .inl (.inl ⟨p, vs, _, v, rfl, sy.int, h1, e1, q.here wd rv⟩)
  · obtain ⟨p, vs, rfl, h1, r1⟩ := sx.tup wd.g
    obtain ⟨v, e1, rv⟩ := atI_rep r1 h
    exact .inl (.inr (.inl ⟨p, vs, _, v, rfl, sy.int, h1, e1, q.here wd rv⟩))
  · split at h
    · obtain ⟨c, e1, rfl⟩ := Option.map_eq_some_iff.mp h
      exact .inl (.inr (.inr ⟨_, _, c, sx.str, sy.int, ‹_›, e1, q.here wd (.str [c])⟩))
    · cases h
  · split at h
    · rename_i k hk
      obtain ⟨p, l, rfl, h1, r1⟩ := sx.dic wd.g
      obtain ⟨v, e1, rv⟩ := (r1.val k).1 _ h
      refine .inr (.inl ⟨p, v, rfl, ?_, q.here wd rv⟩)
      rw [ks_rep sy hk, ← e1]
      exact DGet.k h1
    · cases h
  · obtain ⟨p, l, rfl, ⟨es, n, KD, kt⟩, r1⟩ := sx.tab
    obtain ⟨v, e1, rv⟩ := (r1.look _).1 _ h
    obtain ⟨r0, e2, ro⟩ := kt _
    rw [e1] at ro
    cases r0 with
    | none => exact ro.elim
    | some u0 => exact .inr (.inr ⟨p, es, n, KD, _, u0, v, rfl, sy.str, e2, ro, q.here wd rv⟩)
  · cases h
end
section
variable {X : Cx} {Z : Zt} {e a b : Expr} {es : List Expr} {g ga gb : Env → M D} {pos : Pos}
theorem ev_ix (hu : X.A.units + 100 < cLine) (ha : EP X Z a ga) (hb : EP X Z b gb) (hs : PlainIx b := by exact fun _ _ => rfl) : EV X Z (.Subscript a b pos) (op2 ixD ga gb) := PE.mono (pe_ix (ix_any hu) ha hb hs) fun _ _ _ q => tV_op2 snd_ix q
end

/-! ### a[i:j] -/
/-- a part that is left out, or a number -/
def partE : Option (Env → M D) → Env → M (Option Int)
  | none => fun _ => M.pure none
  | some g => fun env => M.bind (g env) fun d => match d with
    | .int i => M.pure (some i)
    | _ => M.fail
section
variable (K : PySem.W.Frag) (w : World) (mg : Str → Option Value) (Z : Zt)
def tO (g : Env → M (Option Int)) : TO := fun σ H Q => ∃ G ρ S env, Wd K w mg G ρ S H ∧ FrV K w mg Z.B G ρ H env σ ∧ Run K w mg (g env) G ρ S H (WxE K w mg Z.W σ) fun o _ _ _ H' => Q o H'
end
abbrev EO (X : Cx) (Z : Zt) (e : Option Expr) (g : Env → M (Option Int)) : Prop := PO X e (tO X.K X.w X.mg Z g)
theorem PO.mono {X : Cx} {e : Option Expr} {t t' : TO} (h : PO X e t') (i : ∀ σ H Q, t σ H Q → t' σ H Q) : PO X e t := ⟨fun pins s σ H Q I q => h.run pins s σ H Q I (i _ _ _ q)⟩
section
variable {X : Cx} {Z : Zt} {e : Expr} {g : Env → M D}
theorem eo_none : EO X Z none (partE none) := PO.mono po_none fun σ H Q q => by
  obtain ⟨G, ρ, S, env, wd, fr, run⟩ := q
  exact run.pure _ _ _ (Ext.refl _ _ _) wd
theorem eo_some (h : EV X Z e g) : EO X Z (some e) (partE (some g)) := PO.mono (po_some h) fun σ H Q q => by
  obtain ⟨G, ρ, S, env, wd, fr, run⟩ := q
  refine ⟨G, ρ, S, env, wd, fr, (show Run X.K X.w X.mg (M.bind (g env) _) G ρ S H _ _ from run).bind.imp fun d G1 ρ1 S1 H1 ⟨x1, w1, r1⟩ v rv => ?_⟩
  cases d with
  | int i =>
    have e : v = .int i := by cases rv; rfl
    exact ⟨i, e, ((Run.pure (show Run X.K X.w X.mg (M.pure (some i)) G1 ρ1 S1 H1 _ _ from r1)) _ _ _ (Ext.refl _ _ _) w1).2⟩
  | _ => exact r1.elim
end
/-- the items from lo up to hi -/
def cut {α : Type} (xs : List α) (lo hi : Option Int) : List α := (xs.drop (HT.sIx xs.length 0 lo)).take (HT.sIx xs.length xs.length hi - HT.sIx xs.length 0 lo)
def slF (d : D) (lo hi : Option Int) : Option SV := match d with
  | .str s => if s.length ≤ sizeLine then some (.dat (.str (cut s lo hi))) else none
  | .tup xs => some (.dat (.tup (cut xs lo hi)))
  | .lst xs => some (.lst (cut xs lo hi))
  | .scr ns => some (.lst ((cut ns lo hi).map D.int))
  | _ => none
def rSlAll (K : PySem.W.Frag) : V → Option Int → Option Int → Hp → VK → Prop := fun x lo hi H Q => rSlS x lo hi H Q ∨ rSlF K x lo hi H Q ∨ rSlL K x lo hi H Q
theorem sl_all {X : Cx} : SlR X (rSlAll X.K) := sl_str.or (sl_tupF.or sl_list)
theorem cut_whole {α : Type} {xs : List α} {lo hi : Option Int} (h : HT.sIx xs.length 0 lo = 0 ∧ HT.sIx xs.length xs.length hi = xs.length) : cut xs lo hi = xs := by
  unfold cut
  rw [h.1, h.2, List.drop_zero, Nat.sub_zero, List.take_length]
theorem cut_len {α : Type} (xs : List α) (lo hi : Option Int) : (cut xs lo hi).length ≤ xs.length := by
  unfold cut
  rw [List.length_take, List.length_drop]
  omega
section
variable {K : PySem.W.Frag} {w : World} {mg : Str → Option Value} {G : Hp} {ρ : List Addr} {H : Hp} {S : Sto} {v : V}
theorem Reps.cut {vs : List V} {ds : List D} (r : Reps K w mg G ρ vs ds) (lo hi : Option Int) : Reps K w mg G ρ (cutV vs lo hi) (cut ds lo hi) := by
  unfold cutV VX.cut
  rw [r.length]
  exact (r.drop _).take _
theorem Reps.ints : ∀ ns : List Int, Reps K w mg G ρ (ns.map V.int) (ns.map D.int)
  | [] => .nil
  | i :: r => .cons (.int i) (Reps.ints r)
theorem cutS_st (s : List Nat) (lo hi : Option Int) : cutS (st s) lo hi = st (cut s lo hi) := by
  unfold cutS VX.cut
  first
    | rfl
    | (congr 1)
theorem cutV_ints (ns : List Int) (lo hi : Option Int) : cutV (ns.map V.int) lo hi = (cut ns lo hi).map V.int := by
  unfold cutV VX.cut
  rw [List.length_map, List.map_take, List.map_drop]
theorem snd_sl {d : D} {lo hi : Option Int} {r : SV} {Q : VK} (wd : Wd K w mg G ρ S H) (sx : SeeR K w mg G ρ H v d) (h : slF d lo hi = some r) (q : WishF K w mg G ρ S H r Q) : rSlAll K v lo hi H Q := by
  unfold slF at h
  split at h
  · split at h
    · cases h
      refine .inl ⟨_, sx.str, ‹_›, ?_⟩
      rw [cutS_st]
      exact q.dat wd (.str _)
    · cases h
  · cases h
    obtain ⟨p, vs, rfl, h1, r1⟩ := sx.tup wd.g
    refine .inr (.inl ⟨p, vs, rfl, h1, fun z => ?_, fun z => q.tup wd (r1.cut lo hi)⟩)
    rw [r1.length] at z
    rw [cut_whole z] at q
    exact q.dat wd sx.tup_rep
  · cases h
    obtain ⟨p, vs, rfl, h1, r1⟩ := sx.seq wd.g
    exact .inr (.inr ⟨p, vs, rfl, h1, q.lst wd (r1.cut lo hi)⟩)
  · cases h
    obtain ⟨p, rfl, h1⟩ := sx.scr wd.g
    refine .inr (.inr ⟨p, _, rfl, h1, ?_⟩)
    rw [cutV_ints]
    exact q.lst wd (Reps.ints _)
  · cases h
end
section
variable {X : Cx} {Z : Zt} {e : Expr} {lo hi : Option Expr} {g : Env → M D} {gl gh : Env → M (Option Int)} {pos p2 : Pos}
abbrev slE (g : Env → M D) (gl gh : Env → M (Option Int)) : Env → M SV := fun env => M.bind (g env) fun d => M.bind (gl env) fun l => M.bind (gh env) fun h => M.bind (look d) fun d => M.opt (slF d l h)
theorem ef_sl (he : EP X Z e g) (hl : EO X Z lo gl) (hh : EO X Z hi gh) : EF X Z (.Subscript e (.Slice lo hi none p2) pos) (slE g gl gh) := PE.mono (pe_slice sl_all he hl hh) fun σ H Q q => by
  obtain ⟨G, ρ, S, env, wd, fr, run⟩ := q
  refine ⟨G, ρ, S, env, wd, fr, run.bind.imp fun d G1 ρ1 S1 H1 ⟨x1, w1, r1⟩ v sd => ?_⟩
  refine ⟨G1, ρ1, S1, env, w1, fr.ext x1, r1.bind.imp fun l G2 ρ2 S2 H2 ⟨x2, w2, r2⟩ => ?_⟩
  refine ⟨G2, ρ2, S2, env, w2, (fr.ext x1).ext x2, r2.bind.imp fun h G3 ρ3 S3 H3 ⟨x3, w3, r3⟩ => ?_⟩
  obtain ⟨r, er, k⟩ := r3.look.opt
  refine snd_sl w3 (see_of w3 ((sd.ext x2).ext x3)) er fun G4 ρ4 H4 x4 w4 u ru f => (k G4 ρ4 H4 x4 w4).2.2.2 u ru fun o p e => x1.dom p (x2.dom p (x3.dom p (f o p e)))
end
end VX
set_option Elab.async false
set_option linter.all false
set_option maxRecDepth 100000
set_option maxHeartbeats 4000000
/-! in, not in, len, isinstance, .. by value -/
namespace VX
open PySem PySem.Spec PyProof.Rows L2

/-! ### in, not in -/
def D.flat : D → Bool
  | .non => true
  | .int _ => true
  | .str _ => true
  | _ => false
def flatEq : D → D → Bool
  | .non, .non => true
  | .int i, .int j => decide (i = j)
  | .str i, .str j => decide (i = j)
  | _, _ => false
def inB (x y : D) : Option Bool := match y with
  | .lst ds => match x.py, D.pys ds with
    | some p, some ps => if SeqAt.shaped p = true ∧ SeqAt.shaped (.list ps) = true then some (ps.any fun z => PyData.eqv z p) else none
    | _, _ => none
  | .tup ds => if x.flat = true ∧ ds.all D.flat = true then some (ds.any fun y => flatEq y x) else none
  | .str s => match x with
    | .str [c] => some (decide (c ∈ s))
    | _ => none
  | .dct kvs => match x.ks with
    | some k => some (dval kvs k).isSome
    | none => none
  | .tab kvs => match x with
    | .str s => some (kvs.lookup s).isSome
    | _ => none
  | _ => none
def notInB (x y : D) : Option Bool := (inB x y).map (! ·)
def rInDic (neg : Bool) : R2 := fun y x H Q => ∃ a o, x = .ref a ∧ DGet H a y o ∧ Q (.bl (if neg = true then !o.isSome else o.isSome)) H
def rInTab (K : PySem.W.Frag) (w : World) (neg : Bool) : R2 := fun x y H Q => ∃ (d : Addr) (es : Array DictEntry) (n : Nat), KDict K w d es n ∧ ∃ (z : Str) (r : Option Value), x = .str z ∧ y = .ref d ∧ PySem.W.nsIn K d z = some r ∧ Q (.bl (if neg = true then !r.isSome else r.isSome)) H
def rInSign (neg : Bool) : R2 := fun x y H Q => ∃ (c : Nat) (z : Str), x = .str ⟨#[c]⟩ ∧ y = .str z ∧ Q (.bl (if neg = true then !decide (c ∈ z.cps.toList) else decide (c ∈ z.cps.toList))) H
def rInData (K : PySem.W.Frag) (neg : Bool) : R2 := fun x y H Q => ∃ d ds, Dp K H x d ∧ Dp K H y (.list ds) ∧ SeqAt.shaped d = true ∧ SeqAt.shaped (.list ds) = true ∧ Q (.bl (if neg = true then !ds.any fun z => PyData.eqv z d else ds.any fun z => PyData.eqv z d)) H
def rInAll (K : PySem.W.Frag) (w : World) (neg : Bool) : R2 := fun x y H Q => rIn K neg x y H Q ∨ rInData K neg x y H Q ∨ rInSign neg x y H Q ∨ rInDic neg x y H Q ∨ rInTab K w neg x y H Q
section
variable {X : Cx}
theorem op_in_dic (hu : X.A.units + 100 < cLine) : OpR X (compareOp .In) (rInDic false) := by
  intro pins s σ H y x u v Q I ry rx h
  obtain ⟨a, o, rfl, g, q⟩ := h
  obtain rfl : v = Value.ref a := rx
  exact d_in (by omega) I g ry fun s3 I3 => ⟨.bl o.isSome, H, I3, rfl, q⟩
theorem op_notIn_dic (hu : X.A.units + 100 < cLine) : OpR X (compareOp .NotIn) (rInDic true) := by
  intro pins s σ H y x u v Q I ry rx h
  obtain ⟨a, o, rfl, g, q⟩ := h
  obtain rfl : v = Value.ref a := rx
  exact d_notIn (by omega) I g ry fun s3 I3 => ⟨.bl (!o.isSome), H, I3, rfl, q⟩
theorem op_in_tab : OpR X (compareOp .In) (rInTab X.K X.w false) := by
  intro pins s σ H x y v u Q I rx ry h
  obtain ⟨d, es, n, D, z, r, e1, e2, e3, q⟩ := h
  exact op_in_kd D pins s σ H x y v u Q I rx ry ⟨z, r, e1, e2, e3, q⟩
theorem op_notIn_tab : OpR X (compareOp .NotIn) (rInTab X.K X.w true) := by
  intro pins s σ H x y v u Q I rx ry h
  obtain ⟨d, es, n, D, z, r, e1, e2, e3, q⟩ := h
  exact op_notIn_kd D pins s σ H x y v u Q I rx ry ⟨z, r, e1, e2, e3, q⟩
theorem op_inAll (hu : X.A.units + 100 < cLine) : OpR X (compareOp .In) (rInAll X.K X.w false) := by
  refine op_in_seq.or (OpR.or ?_ (OpR.or ?_ ((op_in_dic hu).or op_in_tab)))
  · exact op_inD (by omega)
  · exact op_in_sign
theorem op_notInAll (hu : X.A.units + 100 < cLine) : OpR X (compareOp .NotIn) (rInAll X.K X.w true) := by
  refine op_notIn_seq.or (OpR.or ?_ (OpR.or ?_ ((op_notIn_dic hu).or op_notIn_tab)))
  · exact op_notInD (by omega)
  · exact op_notIn_sign
end
section
variable {K : PySem.W.Frag} {w : World} {mg : Str → Option Value} {G : Hp} {ρ : List Addr} {H : Hp} {S : Sto} {v : V}
theorem flat_rep {d : D} (h : SeeR K w mg G ρ H v d) (f : d.flat = true) : flatV v = true ∧ ∀ d' v', SeeR K w mg G ρ H v' d' → d'.flat = true → eqV v v' = flatEq d d' := by
  cases d with
  | non =>
    have := h.non; subst this
    refine ⟨rfl, fun d' v' h' f' => ?_⟩
    cases d' with
    | non => have := h'.non; subst this; rfl
    | int i => have := h'.int; subst this; rfl
    | str i => have := h'.str; subst this; rfl
    | _ => cases f'
  | int j =>
    have := h.int; subst this
    refine ⟨rfl, fun d' v' h' f' => ?_⟩
    cases d' with
    | non => have := h'.non; subst this; rfl
    | int i =>
      have := h'.int; subst this
      show (j == i) = decide (j = i)
      rw [Bool.eq_iff_iff]; simp
    | str i => have := h'.str; subst this; rfl
    | _ => cases f'
  | str j =>
    have := h.str; subst this
    refine ⟨rfl, fun d' v' h' f' => ?_⟩
    cases d' with
    | non => have := h'.non; subst this; rfl
    | int i => have := h'.int; subst this; rfl
    | str i =>
      have := h'.str; subst this
      show (st j == st i) = decide (j = i)
      by_cases e : j = i
      · subst e; simp
      · rw [decide_eq_false e]
        exact beq_eq_false_iff_ne.mpr fun z => e (st_inj z)
    | _ => cases f'
  | _ => cases f
theorem flats_rep : ∀ {vs : List V} {ds : List D}, Reps K w mg G ρ vs ds → ds.all D.flat = true → vs.all flatV = true ∧ ∀ d' v', SeeR K w mg G ρ H v' d' → d'.flat = true → (vs.any fun y => eqV y v') = ds.any fun y => flatEq y d'
  | _, _, .nil, _ => ⟨rfl, fun _ _ _ _ => rfl⟩
  | _, _, .cons (v := v) (d := d) h r, f => by
    simp only [List.all_cons, Bool.and_eq_true] at f
    obtain ⟨a1, a2⟩ := flat_rep (H := H) (.rep h) f.1
    obtain ⟨b1, b2⟩ := flats_rep r f.2
    refine ⟨by simp [a1, b1], fun d' v' h' f' => ?_⟩
    rw [List.any_cons, List.any_cons, a2 d' v' h' f', b2 d' v' h' f']
theorem snd_inAll (neg : Bool) : Snd2B K w mg (fun x y => (inB x y).map fun b => if neg = true then !b else b) (rInAll K w neg) := by
  intro G ρ S H x y d e r Q wd sx sy h q
  obtain ⟨b, h', rfl⟩ := Option.map_eq_some_iff.mp h
  clear h
  have h := h'
  clear h'
  unfold inB at h
  split at h
  · split at h
    · rename_i ds _ _ p ps e1 e2
      split at h
      · rename_i hs
        cases h
        refine .inr (.inl ⟨p, ps, sx.dp wd.g e1, sy.dp wd.g (by simp [D.py, e2]), hs.1, hs.2, ?_⟩)
        cases neg <;> exact q
      · cases h
    · cases h
  · split at h
    · rename_i hf
      cases h
      obtain ⟨p, vs, rfl, h1, r1⟩ := sy.tup wd.g
      obtain ⟨a1, _⟩ := flat_rep sx hf.1
      obtain ⟨b1, b2⟩ := flats_rep r1 hf.2
      refine .inl ⟨p, vs, rfl, .inr h1, a1, b1, ?_⟩
      unfold inV
      rw [b2 _ _ sx hf.1]
      exact q
    · cases h
  · split at h
    · cases h
      refine .inr (.inr (.inl ⟨_, _, sx.str, sy.str, ?_⟩))
      exact q
    · cases h
  · split at h
    · rename_i kvs _ k hk
      cases h
      obtain ⟨p, l, rfl, h1, r1⟩ := sy.dic wd.g
      refine .inr (.inr (.inr (.inl ⟨p, valV l k.key, rfl, ?_, ?_⟩)))
      · rw [ks_rep sx hk]; exact DGet.k h1
      · have e : (valV l k.key).isSome = (dval kvs k).isSome := by
          cases q : dval kvs k with
          | none => rw [(r1.val k).2 q]; rfl
          | some d => obtain ⟨v, e, _⟩ := (r1.val k).1 d q; rw [e]; rfl
        rw [e]; exact q
    · cases h
  · split at h
    · rename_i kvs _ s
      cases h
      obtain ⟨p, l, rfl, ⟨es, n, KD, kt⟩, r1⟩ := sy.tab
      obtain ⟨r0, e2, ro⟩ := kt s
      refine .inr (.inr (.inr (.inr ⟨p, es, n, KD, _, r0, sx.str, rfl, e2, ?_⟩)))
      have e : r0.isSome = (kvs.lookup s).isSome := by
        rw [← ro.isSome_eq]
        cases q : kvs.lookup s with
        | none => rw [(r1.look _).2 q]; rfl
        | some d => obtain ⟨v, e, _⟩ := (r1.look _).1 d q; rw [e]; rfl
      rw [e]; exact q
    · cases h
  · cases h
theorem snd_in : Snd2B K w mg inB (rInAll K w false) := by
  intro G ρ S H x y d e r Q wd sx sy h q
  exact snd_inAll false G ρ S H x y d e r Q wd sx sy (by simp [h]) q
theorem snd_notIn : Snd2B K w mg notInB (rInAll K w true) := by
  intro G ρ S H x y d e r Q wd sx sy h q
  exact snd_inAll true G ρ S H x y d e r Q wd sx sy h q
end

/-! ### calls of built-ins of one argument -/
section
variable {X : Cx} {Z : Zt} {e : Expr} {g : Env → M D} {x : Str} {p pos : Pos} {id T : String} {rr : List V → Hp → VK → Prop}
theorem tCB1 {σ : L2.St} {H : Hp} {Q : VK} {t : TE} (h : t σ H fun x H1 => rr [x] H1 Q) : tCB rr (tCons t tNil) σ H Q := h
theorem ev_callB {h : D → Option D} (snd : Snd1 X.K X.w X.mg h fun x H Q => rr [x] H Q) (hc : CallR X (.builtin id) rr) (hm : X.mg x = none) (he : EP X Z e g) (hv : bootBuiltins x = some (.builtin id) := by decide +kernel) (hg : Gl X x := by rfl) (hn : x ≠ "__name__" := by decide) (hdb : (x == ("__debug__" : Str)) = false := by decide)
    (hs : starEach [e] X.env = (false, eval e X.env) :: starEach [] X.env := by rfl) : EV X Z (.Call (.Name x p) [e] [] pos) (op1 h g) :=
  PE.mono (pe_callB hc hg hm hv (pa_cons he pa_nil hs) hn hdb hs) fun _ _ _ q => tCB1 (tV_op1 snd q)
theorem ef_callB {h : D → Option SV} (snd : Snd1F X.K X.w X.mg h fun x H Q => rr [x] H Q) (hc : CallR X (.builtin id) rr) (hm : X.mg x = none) (he : EP X Z e g) (hv : bootBuiltins x = some (.builtin id) := by decide +kernel) (hg : Gl X x := by rfl) (hn : x ≠ "__name__" := by decide) (hdb : (x == ("__debug__" : Str)) = false := by decide)
    (hs : starEach [e] X.env = (false, eval e X.env) :: starEach [] X.env := by rfl) : EF X Z (.Call (.Name x p) [e] [] pos) (op1F h g) :=
  PE.mono (pe_callB hc hg hm hv (pa_cons he pa_nil hs) hn hdb hs) fun _ _ _ q => tCB1 (tF_op1 snd q)
theorem ev_callT {h : D → Option D} (snd : Snd1 X.K X.w X.mg h fun x H Q => rr [x] H Q) (hc : CallR X (.type T) rr) (hm : X.mg x = none) (he : EP X Z e g) (hv : bootBuiltins x = some (.type T) := by decide +kernel) (hg : Gl X x := by rfl) (hn : x ≠ "__name__" := by decide) (hdb : (x == ("__debug__" : Str)) = false := by decide)
    (hs : starEach [e] X.env = (false, eval e X.env) :: starEach [] X.env := by rfl) : EV X Z (.Call (.Name x p) [e] [] pos) (op1 h g) :=
  PE.mono (pe_callTy hc hg hm hv (pa_cons he pa_nil hs) hn hdb hs) fun _ _ _ q => tCB1 (tV_op1 snd q)
theorem ef_callT {h : D → Option SV} (snd : Snd1F X.K X.w X.mg h fun x H Q => rr [x] H Q) (hc : CallR X (.type T) rr) (hm : X.mg x = none) (he : EP X Z e g) (hv : bootBuiltins x = some (.type T) := by decide +kernel) (hg : Gl X x := by rfl) (hn : x ≠ "__name__" := by decide) (hdb : (x == ("__debug__" : Str)) = false := by decide)
    (hs : starEach [e] X.env = (false, eval e X.env) :: starEach [] X.env := by rfl) : EF X Z (.Call (.Name x p) [e] [] pos) (op1F h g) :=
  PE.mono (pe_callTy hc hg hm hv (pa_cons he pa_nil hs) hn hdb hs) fun _ _ _ q => tCB1 (tF_op1 snd q)
end

/-! ### len -/
def lenD : D → Option D
  | .str s => if s.length ≤ sizeLine then some (.int s.length) else none
  | .lst xs => some (.int xs.length)
  | .tup xs => some (.int xs.length)
  | .dct kvs => some (.int kvs.length)
  | .scr ns => some (.int ns.length)
  | _ => none
def rLenA (K : PySem.W.Frag) : List V → Hp → VK → Prop := fun xs H Q => (∃ x n, xs = [x] ∧ LenV K x H n ∧ Q (.int n) H) ∨ ∃ a kvs, xs = [V.ref a] ∧ H a = some (.dK kvs) ∧ Q (.int kvs.length) H
theorem cr_len {X : Cx} : CallR X (.builtin "len") (rLenA X.K) := call_len.or call_lenD
section
variable {K : PySem.W.Frag} {w : World} {mg : Str → Option Value} {G : Hp} {ρ : List Addr} {H : Hp} {S : Sto} {v : V}
theorem RKs.length : ∀ {l : List (Key × V)} {ds : List (KS × D)}, RKs K w mg G ρ l ds → l.length = ds.length
  | _, _, .nil => rfl
  | _, _, .cons _ r => congrArg Nat.succ (RKs.length r)
theorem snd_len : Snd1 K w mg lenD fun x H Q => rLenA K [x] H Q := by
  intro G ρ S H x d r Q wd sx h q
  unfold lenD at h
  split at h
  · split at h
    · cases h; exact .inl ⟨x, _, rfl, by rw [sx.str]; exact ⟨‹_›, rfl⟩, q.here wd (.int _)⟩
    · cases h
  · cases h
    obtain ⟨p, vs, rfl, h1, r1⟩ := sx.seq wd.g
    exact .inl ⟨_, _, rfl, .inl ⟨vs, h1, rfl⟩, by rw [r1.length]; exact q.here wd (.int _)⟩
  · cases h
    obtain ⟨p, vs, rfl, h1, r1⟩ := sx.tup wd.g
    exact .inl ⟨_, _, rfl, .inr ⟨vs, h1, rfl⟩, by rw [r1.length]; exact q.here wd (.int _)⟩
  · cases h
    obtain ⟨p, l, rfl, h1, r1⟩ := sx.dic wd.g
    exact .inr ⟨p, l, rfl, h1, by rw [r1.length]; exact q.here wd (.int _)⟩
  · cases h
    obtain ⟨p, rfl, h1⟩ := sx.scr wd.g
    exact .inl ⟨_, _, rfl, .inl ⟨_, h1, rfl⟩, by rw [List.length_map]; exact q.here wd (.int _)⟩
  · cases h
end

/-! ### isinstance(x, T) -/
def D.ty : D → Option String
  | .non => some "NoneType"
  | .bl _ => some "bool"
  | .int _ => some "int"
  | .str _ => some "str"
  | .tup _ => some "tuple"
  | .lst _ => some "list"
  | .scr _ => some "list"
  | .dct _ => some "dict"
  | .dctT _ => some "dict"
  | .tab _ => some "dict"
  | _ => none
def isiS (a T : String) : Bool := a == T || (a == "bool" && T == "int")
def isiB (T : String) (d : D) : Option Bool := d.ty.map fun a => isiS a T
theorem kit_tab : ∀ a ∈ ["NoneType", "bool", "int", "str", "tuple", "list", "dict"], ∀ T ∈ ["bool", "int", "str", "tuple", "list", "dict"], kitB a T = some (isiS a T) := by decide +kernel
section
variable {X : Cx} {Z : Zt} {e : Expr} {g : Env → M D} {x : Str} {p p2 pos : Pos} {T : String} {t : Str}
theorem D.ty_in {d : D} {a : String} (h : d.ty = some a) : a ∈ ["NoneType", "bool", "int", "str", "tuple", "list", "dict"] := by
  cases d <;> simp only [D.ty, Option.some.injEq, reduceCtorEq] at h <;> subst h <;> decide
theorem SeeR.ty {K : PySem.W.Frag} {w : World} {mg : Str → Option Value} {G : Hp} {ρ : List Addr} {H : Hp} {v : V} {d : D} {a : String} (g : Same G H) (h : SeeR K w mg G ρ H v d) (e : d.ty = some a) : TyX K H v (.type a) := by
  cases h with
  | rep r =>
    cases r with
    | non => cases e; exact .base .non
    | bl b => cases e; exact .base (.bl b)
    | int b => cases e; exact .base (.int b)
    | str b => cases e; exact .base (.str _)
    | tup h r =>
      cases e
      rcases h with ⟨o, h, _⟩ | ⟨o, its, n, h1, h2, _⟩
      · exact .fTuple (g _ _ h)
      · exact .kTuple h1 h2
    | lst h r => cases e; exact .base (.lst (g _ _ h))
    | scr h =>
      cases e
      rcases h with (h | ⟨o, h⟩) | ⟨o, its, n, h1, h2, _⟩
      · exact .base (.lst (g _ _ h))
      · exact .base (.frz (g _ _ h))
      · exact .kList h1 h2
    | dct h r => cases e; exact .base (.dK (g _ _ h))
    | dctT h r => cases e; exact .base (.dT (g _ _ h))
    | tab h r => cases e; obtain ⟨es, n, KD, _⟩ := h; exact .kDict KD.at_ rfl
    | obj _ => cases e
    | fn _ => cases e
    | bm _ _ _ _ => cases e
  | lst h r => cases e; exact .base (.lst h)
  | dct h r => cases e; exact .base (.dK h)
  | dctT h r => cases e; exact .base (.dT h)
theorem snd_isi (hT : T ∈ ["bool", "int", "str", "tuple", "list", "dict"]) : Snd1B X.K X.w X.mg (isiB T) fun x H Q => rIsi X.K [x, .ty T] H Q := by
  intro G ρ S H x d r Q wd sx h q
  obtain ⟨a, ha, rfl⟩ := Option.map_eq_some_iff.mp h
  exact ⟨x, .ty T, .type a, .type T, isiS a T, rfl, .ty T, sx.ty wd.g ha, kit_ty (kit_tab a (D.ty_in ha) T hT), q⟩
theorem ev_isi (hT : T ∈ ["bool", "int", "str", "tuple", "list", "dict"]) (hm : X.mg "isinstance" = none) (hm2 : X.mg t = none) (he : EP X Z e g) (hv2 : bootBuiltins t = some (.type T) := by decide +kernel) (hg : Gl X "isinstance" := by rfl) (hg2 : Gl X t := by rfl) (hn2 : t ≠ "__name__" := by decide) (hd2 : (t == ("__debug__" : Str)) = false := by decide)
    (hs : starEach [e, .Name t p2] X.env = (false, eval e X.env) :: starEach [.Name t p2] X.env := by rfl) : EV X Z (.Call (.Name "isinstance" p) [e, .Name t p2] [] pos) (op1 (fun d => (isiB T d).map .bl) g) :=
  PE.mono (pe_callB call_isi hg hm (by decide +kernel) (pa_cons he (pa_cons (pe_bltn (v := .ty T) hg2 hm2 hv2 rfl hn2 hd2) pa_nil) hs) (by decide) (by decide) hs) fun σ H Q q => (show tP X.K X.w X.mg Z g σ H fun x H1 => rIsi X.K [x, .ty T] H1 Q from tV_op1 (snd_isi hT).v q)
end

/-! ### all, any, sum, abs, int, tuple, list, dict, sorted -/
def D.bools : List D → Option (List Bool)
  | [] => some []
  | .bl b :: r => (D.bools r).map (b :: ·)
  | _ => none
def D.intsOf : List D → Option (List Int)
  | [] => some []
  | .int b :: r => (D.intsOf r).map (b :: ·)
  | _ => none
def D.strsOf : List D → Option (List (List Nat))
  | [] => some []
  | .str b :: r => (D.strsOf r).map (b :: ·)
  | _ => none
section
variable {K : PySem.W.Frag} {w : World} {mg : Str → Option Value} {G : Hp} {ρ : List Addr} {H : Hp} {S : Sto} {v : V}
theorem Reps.bools : ∀ {vs : List V} {ds : List D} {bs : List Bool}, Reps K w mg G ρ vs ds → D.bools ds = some bs → vs = bs.map V.bl
  | _, _, _, .nil, h => by cases h; rfl
  | _, _, _, .cons (d := d) hr r, h => by
    cases d <;> simp only [D.bools, reduceCtorEq] at h
    obtain ⟨bs, h1, rfl⟩ := Option.map_eq_some_iff.mp h
    cases hr
    rw [Reps.bools r h1, List.map_cons]
theorem Reps.intsOf : ∀ {vs : List V} {ds : List D} {bs : List Int}, Reps K w mg G ρ vs ds → D.intsOf ds = some bs → vs = bs.map V.int
  | _, _, _, .nil, h => by cases h; rfl
  | _, _, _, .cons (d := d) hr r, h => by
    cases d <;> simp only [D.intsOf, reduceCtorEq] at h
    obtain ⟨bs, h1, rfl⟩ := Option.map_eq_some_iff.mp h
    cases hr
    rw [Reps.intsOf r h1, List.map_cons]
theorem Reps.strsOf : ∀ {vs : List V} {ds : List D} {bs : List (List Nat)}, Reps K w mg G ρ vs ds → D.strsOf ds = some bs → vs = (bs.map st).map V.str
  | _, _, _, .nil, h => by cases h; rfl
  | _, _, _, .cons (d := d) hr r, h => by
    cases d <;> simp only [D.strsOf, reduceCtorEq] at h
    obtain ⟨bs, h1, rfl⟩ := Option.map_eq_some_iff.mp h
    cases hr
    rw [Reps.strsOf r h1, List.map_cons, List.map_cons]
end
def allD : D → Option D
  | .lst ds => (D.bools ds).map fun bs => .bl (bs.all id)
  | _ => none
def anyD : D → Option D
  | .lst ds => (D.bools ds).map fun bs => .bl (bs.any id)
  | _ => none
def sumD : D → Option D
  | .lst ds => (D.intsOf ds).map fun bs => .int bs.sum
  | _ => none
def absD : D → Option D
  | .int i => some (.int (if i < 0 then -i else i))
  | _ => none
def intD : D → Option D
  | .int i => some (.int i)
  | _ => none
def tupD : D → Option D
  | .lst xs => some (.tup xs)
  | .tup xs => some (.tup xs)
  | _ => none
def listF : D → Option SV
  | .lst xs => some (.lst xs)
  | .tup xs => some (.lst xs)
  | .dct kvs => some (.lst (kvs.map fun kv => kv.1.d))
  | _ => none
section
variable {K : PySem.W.Frag} {w : World} {mg : Str → Option Value}
theorem snd_all : Snd1 K w mg allD fun x H Q => rAll K [x] H Q := by
  intro G ρ S H x d r Q wd sx h q
  unfold allD at h
  split at h
  · obtain ⟨bs, hb, rfl⟩ := Option.map_eq_some_iff.mp h
    obtain ⟨p, vs, rfl, h1, r1⟩ := sx.seq wd.g
    exact ⟨p, bs, rfl, by rw [← r1.bools hb]; exact h1, q.here wd (.bl _)⟩
  · cases h
theorem snd_any : Snd1 K w mg anyD fun x H Q => rAny K [x] H Q := by
  intro G ρ S H x d r Q wd sx h q
  unfold anyD at h
  split at h
  · obtain ⟨bs, hb, rfl⟩ := Option.map_eq_some_iff.mp h
    obtain ⟨p, vs, rfl, h1, r1⟩ := sx.seq wd.g
    exact ⟨p, bs, rfl, by rw [← r1.bools hb]; exact h1, q.here wd (.bl _)⟩
  · cases h
theorem snd_sum : Snd1 K w mg sumD fun x H Q => rSum K [x] H Q := by
  intro G ρ S H x d r Q wd sx h q
  unfold sumD at h
  split at h
  · obtain ⟨bs, hb, rfl⟩ := Option.map_eq_some_iff.mp h
    obtain ⟨p, vs, rfl, h1, r1⟩ := sx.seq wd.g
    exact ⟨p, bs, rfl, by rw [← r1.intsOf hb]; exact h1, q.here wd (.int _)⟩
  · cases h
theorem snd_abs : Snd1 K w mg absD fun x H Q => ∃ i, [x] = [V.int i] ∧ Q (.int (if i < 0 then -i else i)) H := by
  intro G ρ S H x d r Q wd sx h q
  unfold absD at h
  split at h
  · cases h; exact ⟨_, by rw [sx.int], q.here wd (.int _)⟩
  · cases h
theorem snd_int : Snd1 K w mg intD fun x H Q => (∃ i, [x] = [V.int i] ∧ Q (.int i) H) ∨ ∃ k, [x] = [V.bl k] ∧ Q (.int (if k then 1 else 0)) H := by
  intro G ρ S H x d r Q wd sx h q
  unfold intD at h
  split at h
  · cases h; exact .inl ⟨_, by rw [sx.int], q.here wd (.int _)⟩
  · cases h
theorem snd_tup : Snd1 K w mg tupD fun x H Q => rTupOf K [x] H Q := by
  intro G ρ S H x d r Q wd sx h q
  unfold tupD at h
  split at h
  · cases h
    obtain ⟨p, vs, rfl, h1, r1⟩ := sx.seq wd.g
    exact ⟨p, vs, rfl, .inl ⟨h1, q.tup wd r1⟩⟩
  · cases h
    obtain ⟨p, vs, rfl, h1, r1⟩ := sx.tup wd.g
    exact ⟨p, vs, rfl, .inr ⟨h1, q.here wd sx.tup_rep⟩⟩
  · cases h
def rListA (K : PySem.W.Frag) : List V → Hp → VK → Prop := fun xs H Q => (∃ p ys, xs = [.ref p] ∧ (SqL K H p ys ∨ SqT K H p ys) ∧ ∀ l, H l = none → Q (.ref l) (upd H l (.lst ys))) ∨
  ∃ (a : Addr) (kvs : List (Key × V)), xs = [.ref a] ∧ Rd H a (.dK kvs) ∧ ∀ p, H p = none → Q (.ref p) (upd H p (.lst (kvs.map fun kv => kV kv.1)))
theorem cr_list {X : Cx} (hc : X.calm = true) : CallR X (.type "list") (rListA X.K) := call_list_of.or (call_listD hc)
theorem RKs.keys {G : Hp} {ρ : List Addr} : ∀ {l : List (Key × V)} {ds : List (KS × D)}, RKs K w mg G ρ l ds → Reps K w mg G ρ (l.map fun kv => kV kv.1) (ds.map fun kv => kv.1.d)
  | _, _, .nil => .nil
  | _, _, .cons (k := k) _ r => by
    refine .cons ?_ (RKs.keys r)
    cases k with
    | int i => exact .int i
    | str s => exact .str s
theorem snd_list : Snd1F K w mg listF fun x H Q => rListA K [x] H Q := by
  intro G ρ S H x d r Q wd sx h q
  unfold listF at h
  split at h
  · cases h
    obtain ⟨p, vs, rfl, h1, r1⟩ := sx.seq wd.g
    exact .inl ⟨p, vs, rfl, .inl h1, q.lst wd r1⟩
  · cases h
    obtain ⟨p, vs, rfl, h1, r1⟩ := sx.tup wd.g
    exact .inl ⟨p, vs, rfl, .inr h1, q.lst wd r1⟩
  · cases h
    obtain ⟨p, l, rfl, h1, r1⟩ := sx.dic wd.g
    exact .inr ⟨p, l, rfl, .of h1, q.lst wd r1.keys⟩
  · cases h
end
end VX
set_option Elab.async false
set_option linter.all false
set_option maxRecDepth 100000
set_option maxHeartbeats 4000000
/-! sorted, dict, join, index, get, by value -/
namespace VX
open PySem PySem.Spec PyProof.Rows L2

/-! ### sorted, of texts -/
def insS (a : List Nat) : List (List Nat) → List (List Nat)
  | [] => [a]
  | b :: r => if b < a then b :: insS a r else a :: b :: r
def sortS : List (List Nat) → List (List Nat)
  | [] => []
  | a :: r => insS a (sortS r)
theorem insS_perm (a : List Nat) : ∀ l : List (List Nat), (insS a l).Perm (a :: l)
  | [] => .refl _
  | b :: r => by
    unfold insS
    split
    · exact ((insS_perm a r).cons b).trans (.swap a b r)
    · exact .refl _
theorem sortS_perm : ∀ l : List (List Nat), (sortS l).Perm l
  | [] => .refl _
  | a :: r => (insS_perm a (sortS r)).trans ((sortS_perm r).cons a)
theorem insS_sorted (a : List Nat) : ∀ l : List (List Nat), l.Pairwise (fun x y => ¬ y < x) → (insS a l).Pairwise fun x y => ¬ y < x
  | [], _ => by simp [insS]
  | b :: r, h => by
    obtain ⟨h1, h2⟩ := List.pairwise_cons.mp h
    unfold insS
    split
    · rename_i hb
      refine List.pairwise_cons.mpr ⟨fun y hy => ?_, insS_sorted a r h2⟩
      rcases List.mem_cons.mp ((insS_perm a r).mem_iff.mp hy) with e | hy
      · subst e; exact fun z => List.lt_asymm hb z
      · exact h1 y hy
    · rename_i hb
      refine List.pairwise_cons.mpr ⟨fun y hy => ?_, h⟩
      rcases List.mem_cons.mp hy with e | hy
      · subst e; exact hb
      · exact List.not_lt.mpr (List.le_trans (List.not_lt.mp hb) (List.not_lt.mp (h1 y hy)))
theorem sortS_sorted : ∀ l : List (List Nat), (sortS l).Pairwise fun x y => ¬ y < x
  | [] => .nil
  | a :: r => insS_sorted a _ (sortS_sorted r)
theorem rising_pair : ∀ (p : Str) (l : List Str), risingS p l = true → (p :: l).Pairwise fun x y => ¬ y.cps.toList < x.cps.toList := by
  intro p l
  induction l generalizing p with
  | nil => intro _; simp
  | cons q r ih =>
    intro h
    unfold risingS at h
    rw [ltCps_eq] at h
    simp only [Bool.and_eq_true, Bool.not_eq_true', decide_eq_false_iff_not] at h
    have i := ih q h.2
    obtain ⟨i1, i2⟩ := List.pairwise_cons.mp i
    have h1 : ¬ q.cps.toList < p.cps.toList := h.1
    refine List.pairwise_cons.mpr ⟨fun y hy => ?_, i⟩
    rcases List.mem_cons.mp hy with e | hy
    · subst e; exact h1
    · exact List.not_lt.mpr (List.le_trans (List.not_lt.mp h1) (List.not_lt.mp (i1 y hy)))
theorem sorted_is {ys : List Str} {xs : List (List Nat)} (h1 : ys.Perm (xs.map st)) (h2 : sortedS ys = true) : ys = (sortS xs).map st := by
  have p1 : ys.Pairwise fun x y => ¬ y.cps.toList < x.cps.toList := by
    cases ys with
    | nil => exact .nil
    | cons x r => exact rising_pair x r h2
  have p2 : ((sortS xs).map st).Pairwise fun x y => ¬ y.cps.toList < x.cps.toList := by
    rw [List.pairwise_map]
    exact sortS_sorted xs
  refine List.Perm.eq_of_pairwise (le := fun x y : Str => ¬ y.cps.toList < x.cps.toList) (fun a b _ _ h h' => ?_) p1 p2 (h1.trans ((sortS_perm xs).map st).symm)
  have : a.cps.toList = b.cps.toList := List.le_antisymm (List.not_lt.mp h) (List.not_lt.mp h')
  cases a; cases b
  exact congrArg Str.mk (Array.toList_inj.mp this)
def KS.strOf : List KS → Option (List (List Nat))
  | [] => some []
  | .str s :: r => (KS.strOf r).map (s :: ·)
  | _ => none
def sortF : D → Option SV
  | .lst ds => match D.strsOf ds with
    | some ss => if ss.length < 64 then some (.lst ((sortS ss).map D.str)) else none
    | none => none
  | .dct kvs => match KS.strOf (kvs.map (·.1)) with
    | some ss => if ss.length < 64 then some (.lst ((sortS ss).map D.str)) else none
    | none => none
  | _ => none
def rSortA (K : PySem.W.Frag) : List V → Hp → VK → Prop := fun xs H Q => rSortedS K xs H Q ∨ ∃ (a : Addr) (kvs : List (Key × V)) (ks : List Str), xs = [.ref a] ∧ Rd H a (.dK kvs) ∧ kvs.map (·.1) = ks.map Sum.inr ∧ ks.length < 64 ∧
    ∀ ys p, ys.Perm ks → sortedS ys = true → H p = none → Q (.ref p) (upd H p (.lst (ys.map V.str)))
theorem cr_sortA {X : Cx} (hc : X.calm = true) : CallR X (.builtin "sorted") (rSortA X.K) := cr_sortedS.or (call_sortedD hc)
section
variable {K : PySem.W.Frag} {w : World} {mg : Str → Option Value} {G : Hp} {ρ : List Addr} {H : Hp} {S : Sto} {v : V}
theorem Reps.strs : ∀ ss : List (List Nat), Reps K w mg G ρ ((ss.map st).map V.str) (ss.map D.str)
  | [] => .nil
  | s :: r => .cons (.str s) (Reps.strs r)
theorem RKs.strs : ∀ {l : List (Key × V)} {ds : List (KS × D)} {ss : List (List Nat)}, RKs K w mg G ρ l ds → KS.strOf (ds.map (·.1)) = some ss → l.map (·.1) = (ss.map st).map Sum.inr
  | _, _, _, .nil, h => by cases h; rfl
  | _, _, _, .cons (k := k) _ r, h => by
    cases k with
    | int i => cases h
    | str s =>
      obtain ⟨ss, h1, rfl⟩ := Option.map_eq_some_iff.mp (show (KS.strOf _).map (s :: ·) = some _ from h)
      rw [List.map_cons, RKs.strs r h1]
      rfl
theorem snd_sort : Snd1F K w mg sortF fun x H Q => rSortA K [x] H Q := by
  intro G ρ S H x d r Q wd sx h q
  unfold sortF at h
  split at h
  · split at h
    · rename_i ss hs
      split at h
      · cases h
        obtain ⟨p, vs, rfl, h1, r1⟩ := sx.seq wd.g
        refine .inl ⟨p, ss.map st, rfl, by rw [← r1.strsOf hs]; exact h1, by rw [List.length_map]; assumption, fun ys p2 e1 e2 hp => ?_⟩
        rw [sorted_is e1 e2]
        exact q.lst wd (Reps.strs _) p2 hp
      · cases h
    · cases h
  · split at h
    · rename_i ss hs
      split at h
      · cases h
        obtain ⟨p, l, rfl, h1, r1⟩ := sx.dic wd.g
        refine .inr ⟨p, l, ss.map st, rfl, .of h1, r1.strs hs, by rw [List.length_map]; assumption, fun ys p2 e1 e2 hp => ?_⟩
        rw [sorted_is e1 e2]
        exact q.lst wd (Reps.strs _) p2 hp
      · cases h
    · cases h
  · cases h
end

/-! ### dict(..) -/
def putD {κ : Type} [DecidableEq κ] (kvs : List (κ × D)) (k : κ) (d : D) : List (κ × D) := if (kvs.any fun kv => decide (kv.1 = k)) = true then kvs.map fun kv => if kv.1 = k then (kv.1, d) else kv else kvs ++ [(k, d)]
def mergeD {κ : Type} [DecidableEq κ] (kvs more : List (κ × D)) : List (κ × D) := more.foldl (fun acc kv => putD acc kv.1 kv.2) kvs
def pairsOf : List D → Option (List (KS × D))
  | [] => some []
  | .tup [k, d] :: r => match k.ks, pairsOf r with
    | some k, some l => some ((k, d) :: l)
    | _, _ => none
  | _ => none
def dictF : D → Option SV
  | .lst ds => (pairsOf ds).map fun l => .dct (mergeD [] l)
  | .tup ds => (pairsOf ds).map fun l => .dct (mergeD [] l)
  | .dct kvs => some (.dct kvs)
  | _ => none
def rDictP (K : PySem.W.Frag) : List V → Hp → VK → Prop := fun xs H Q => ∃ (a : Addr) (ps : List Addr) (kvs : List (Key × V)), xs = [.ref a] ∧ (SqL K H a (ps.map V.ref) ∨ TupAt K H a (ps.map V.ref)) ∧ Paired (fun p kv => SqT K H p [kV kv.1, kv.2]) ps kvs ∧
    ∀ p, H p = none → Q (.ref p) (upd H p (.dK (mergeK [] kvs)))
def rDictA (K : PySem.W.Frag) : List V → Hp → VK → Prop := fun xs H Q => rDictP K xs H Q ∨ ∃ (a : Addr) (kvs : List (Key × V)), xs = [.ref a] ∧ Rd H a (.dK kvs) ∧ ∀ p, H p = none → Q (.ref p) (upd H p (.dK kvs))
section
variable {X : Cx}
theorem plain_tup {pins : List (Addr × Obj)} {σ : L2.St} {H : Hp} {s : Shared} {a : Addr} {vs : List V} (I : Inv X pins σ H s) (h : TupAt X.K H a vs) : ∃ its : List Value, Vals vs its ∧ PlainSeq "tuple" s.heap a its.toArray ∧ vs.length ≤ sizeLine := by
  rcases h with ⟨o, h, d⟩ | ⟨o, its, n, h1, h2, h3, h4, h5, h6⟩
  · obtain ⟨e, z, its, r, o', e', c, n, hd⟩ := I.hok a _ h
    rw [e] at e'; cases e'
    exact ⟨its, r, ⟨o, n, e, c, d, hd⟩, z⟩
  · refine ⟨its.toList, h6, ⟨o, n, I.kIn a o h1, h2, h3, by simpa using h4⟩, ?_⟩
    have e := h6.length
    have e2 : its.toList.length = its.size := Array.length_toList
    rw [e, e2]; exact h5
theorem call_dictPA (hcalm : X.calm = true) : CallR X (.type "dict") (rDictP X.K) := by
  intro pins s σ H xs us Q I r q
  obtain ⟨a, ps, kvs, ex, hq, hp, q⟩ := q
  rcases hq with hq | hq
  · exact call_dictP hcalm pins s σ H xs us Q I r ⟨a, ps, kvs, ex, hq, hp, q⟩
  subst ex
  obtain ⟨u, eu, rx⟩ := vals1 r
  subst eu
  cases rx
  obtain ⟨its, rv, pl, hz⟩ := plain_tup I hq
  have ei := refs_at rv
  subst ei
  rw [List.length_map] at hz
  obtain ⟨prs, rel, hl, hpr⟩ := pairs_of I hp
  -- the pairs' keys as values
  have hk : ∃ kus : List (Value × Value), kus.length = ps.length ∧ ∀ (j : Nat) (q : Value × Value), kus[j]? = some q → ∃ (b : Addr) (k : Key), ps[j]? = some b ∧ IsTup s.heap b #[q.1, q.2] ∧ prs[j]? = some (k, q.2) ∧ keyIs k q.1 = true := by
    clear q pl rv rel hq hp
    induction prs generalizing ps with
    | nil =>
      cases ps with
      | nil => exact ⟨[], rfl, fun j q e => by simp at e⟩
      | cons _ _ => cases hl
    | cons pr prs ih =>
      cases ps with
      | nil => cases hl
      | cons p ps =>
        obtain ⟨kus, h1, h2⟩ := ih ps (by simp at hz; omega) (by simpa using hl) (fun j q e => by
          obtain ⟨b, u, e1, e2, e3⟩ := hpr (j + 1) q (by simpa using e)
          exact ⟨b, u, by simpa using e1, e2, e3⟩)
        obtain ⟨b, u, e1, e2, e3⟩ := hpr 0 pr rfl
        refine ⟨(u, pr.2) :: kus, by simp [h1], fun j q e => ?_⟩
        cases j with
        | zero =>
          cases e
          exact ⟨b, pr.1, e1, e2, rfl, e3⟩
        | succ j =>
          obtain ⟨b, k, f1, f2, f3, f4⟩ := h2 j q (by simpa using e)
          exact ⟨b, k, by simpa using f1, f2, by simpa using f3, f4⟩
  obtain ⟨kus, hkl, hkus⟩ := hk
  have hat : ∀ j (hj : j < kus.length), ∃ b, ps[j]? = some b := fun j hj => by
    obtain ⟨b, k, e1, _⟩ := hkus j kus[j] (List.getElem?_eq_getElem hj)
    exact ⟨b, e1⟩
  refine PySem.call_dict_pairs (knd := mixKind X.prog X.w) (kvs := prs) (PairArg.tuple a (ps.map Value.ref).toArray (fun j => ps.getD j 0) kus) (I.ok.hd hcalm) ⟨pl, ?_, fun j k v e => ?_⟩ ⟨by rw [hl, hkl], fun i key v e => ?_⟩ (by rw [hkl]; exact hz) fun h' tk hd' k => ?_
  · simp [hkl]
  · obtain ⟨b, k', e1, e2, e3, e4⟩ := hkus j (k, v) e
    refine ⟨by simp [List.getD, e1], .inl ?_⟩
    show IsTup s.heap (ps.getD j 0) _
    simp only [List.getD, e1, Option.getD_some]
    exact e2
  · obtain ⟨b, k', e1, e2, e3, e4⟩ := hkus i (key, v) e
    exact ⟨k', e3, e4⟩
  · have hm : (s.heap.objs.size == sysModules) = false := beq_eq_false_iff_ne.mpr (Nat.ne_of_gt I.big)
    have hlen : (mergeK [] kvs).length ≤ sizeLine := by
      refine Nat.le_trans (length_mergeK kvs []) ?_
      rw [List.length_nil, Nat.zero_add, rel.length, hl]
      exact hz
    exact ⟨.ref s.heap.objs.size, upd H s.heap.objs.size (.dK (mergeK [] kvs)), I.laid (t' := tk) (fun b o e => k b o (by simp) e) (Nat.le_refl _) (show ObjOk X.prog X.w _ _ _ (.dK (mergeK [] kvs)) from ⟨hlen, hm, merged [] prs, KV.merge rel .nil, hd'⟩), rfl, q _ (I.hok.fresh (Nat.le_refl _))⟩
theorem cr_dict (hc : X.calm = true) : CallR X (.type "dict") (rDictA X.K) := (call_dictPA hc).or call_dictD
end
section
variable {K : PySem.W.Frag} {w : World} {mg : Str → Option Value} {G : Hp} {ρ : List Addr} {H : Hp} {S : Sto} {v : V}
theorem RKs.any : ∀ {l : List (Key × V)} {ds : List (KS × D)} (k : KS), RKs K w mg G ρ l ds → (l.any fun kv => decide (kv.1 = k.key)) = ds.any fun kv => decide (kv.1 = k)
  | _, _, k, .nil => rfl
  | _, _, k, .cons (k := k') h r => by
    rw [List.any_cons, List.any_cons, RKs.any k r]
    congr 1
    by_cases e : k' = k
    · subst e; simp
    · rw [decide_eq_false e, decide_eq_false fun z => e (KS.key_inj z)]
theorem RKs.repl {v : V} {d : D} (h0 : Rep K w mg G ρ v d) : ∀ {l : List (Key × V)} {ds : List (KS × D)} (k : KS), RKs K w mg G ρ l ds → RKs K w mg G ρ (l.map fun kv => if kv.1 = k.key then (kv.1, v) else kv) (ds.map fun kv => if kv.1 = k then (kv.1, d) else kv)
  | _, _, k, .nil => .nil
  | _, _, k, .cons (k := k') h r => by
    rw [List.map_cons, List.map_cons]
    by_cases e : k' = k
    · subst e
      rw [if_pos rfl, if_pos rfl]
      exact .cons h0 (RKs.repl h0 k' r)
    · rw [if_neg e, if_neg fun z => e (KS.key_inj z)]
      exact .cons h (RKs.repl h0 k r)
theorem RKs.append : ∀ {l l' : List (Key × V)} {ds ds' : List (KS × D)}, RKs K w mg G ρ l ds → RKs K w mg G ρ l' ds' → RKs K w mg G ρ (l ++ l') (ds ++ ds')
  | _, _, _, _, .nil, r => r
  | _, _, _, _, .cons h r, r' => .cons h (RKs.append r r')
theorem RKs.put {v : V} {d : D} (h0 : Rep K w mg G ρ v d) {l : List (Key × V)} {ds : List (KS × D)} (k : KS) (r : RKs K w mg G ρ l ds) : RKs K w mg G ρ (putK l k.key v) (putD ds k d) := by
  unfold putK putD
  rw [r.any k]
  split
  · exact r.repl h0 k
  · exact r.append (.cons h0 .nil)
theorem RKs.merge : ∀ {m : List (Key × V)} {es : List (KS × D)} {l : List (Key × V)} {ds : List (KS × D)} (_ : RKs K w mg G ρ m es), RKs K w mg G ρ l ds → RKs K w mg G ρ (mergeK l m) (mergeD ds es)
  | _, _, _, _, .nil, r => r
  | _, _, _, _, .cons (k := k) h m, r => RKs.merge (l := putK _ k.key _) (ds := putD _ k _) m (r.put h k)
theorem Reps.pairs (g : Same G H) : ∀ {vs : List V} {ds : List D} {es : List (KS × D)}, Reps K w mg G ρ vs ds → pairsOf ds = some es → ∃ (ps : List Addr) (kvs : List (Key × V)), vs = ps.map V.ref ∧ Paired (fun p kv => SqT K H p [kV kv.1, kv.2]) ps kvs ∧ RKs K w mg G ρ kvs es
  | _, _, _, .nil, h => by cases h; exact ⟨[], [], rfl, .nil, .nil⟩
  | _, _, _, .cons (d := d) hr r, h => by
    unfold pairsOf at h
    split at h
    · rename_i heq
      cases heq
    · rename_i k d' r' heq
      injection heq with e1 e2
      subst e1 e2
      split at h
      · rename_i k' l hk hl
        cases h
        obtain ⟨ps, kvs, rfl, h1, h2⟩ := Reps.pairs g r hl
        cases hr with
        | tup ht rr =>
          cases rr with
          | cons r1 rr =>
            cases rr with
            | cons r2 rr =>
              cases rr
              have ek := ks_rep (H := H) (.rep r1) hk
              subst ek
              exact ⟨_ :: ps, (k'.key, _) :: kvs, rfl, .cons (ht.sqT g) h1, .cons r2 h2⟩
      · cases h
    · cases h
theorem snd_dict : Snd1F K w mg dictF fun x H Q => rDictA K [x] H Q := by
  intro G ρ S H x d r Q wd sx h q
  unfold dictF at h
  split at h
  · obtain ⟨es, he, rfl⟩ := Option.map_eq_some_iff.mp h
    obtain ⟨p, vs, rfl, h1, r1⟩ := sx.seq wd.g
    obtain ⟨ps, kvs, rfl, h2, h3⟩ := r1.pairs wd.g he
    exact .inl ⟨p, ps, kvs, rfl, .inl h1, h2, fun p2 hp => q.own wd hp ⟨_, upd_same, h3.merge .nil⟩⟩
  · obtain ⟨es, he, rfl⟩ := Option.map_eq_some_iff.mp h
    cases sx.tup_rep with
    | @tup p vs _ ht r1 =>
      obtain ⟨ps, kvs, rfl, h2, h3⟩ := r1.pairs wd.g he
      exact .inl ⟨p, ps, kvs, rfl, .inr (ht.up wd.g), h2, fun p2 hp => q.own wd hp ⟨_, upd_same, h3.merge .nil⟩⟩
  · cases h
    obtain ⟨p, l, rfl, h1, r1⟩ := sx.dic wd.g
    exact .inr ⟨p, l, rfl, .of h1, fun p2 hp => q.own wd hp ⟨l, upd_same, r1⟩⟩
  · cases h
end

/-! ### sep.join(xs) -/
def joinD (a : D) (x : D) : Option D := match a with
  | .str a => match x with
    | .lst ds => match D.strsOf ds with
      | some ss => if (ss.map List.length).sum + ss.length * a.length ≤ sizeLine then some (.str (TL.joinL a ss)) else none
      | none => none
    | .tup ds => match D.strsOf ds with
      | some ss => if (ss.map List.length).sum + ss.length * a.length ≤ sizeLine then some (.str (TL.joinL a ss)) else none
      | none => none
    | _ => none
  | _ => none
theorem join_st (a : List Nat) (ss : List (List Nat)) : Txt.join (st a) (ss.map st) = st (TL.joinL a ss) := by
  have h := TL.tl_join (st a) (ss.map st)
  rw [TL.join_eq]
  have e : (ss.map st).map TL.tl = ss := by
    rw [List.map_map]
    exact List.map_id ss
  rw [e] at h
  have h2 : TL.tl (st a) = a := rfl
  rw [h2] at h
  exact congrArg (fun l => (⟨l.toArray⟩ : Str)) h
section
variable {X : Cx} {Z : Zt} {o e : Expr} {ga gb : Env → M D} {apos pos : Pos}
theorem ev_join (ha : EP X Z o ga) (hb : EP X Z e gb) (hs : starEach [e] X.env = [(false, eval e X.env)] := by rfl) (hbase : attributeBase o "join" X.env (eval o X.env) = eval o X.env := by rfl) (hline : (apos.endLine == pos.line) = true := by rfl)
    (hstr : ∀ env S d S', ga env S = some (.ok d, S') → ∃ s, d = .str s) : EV X Z (.Call (.Attribute o "join" apos) [e] [] pos) (op2 joinD ga gb) := PE.mono (pe_join ha hb hs hbase hline) fun σ H Q q => by
  obtain ⟨G, ρ, S, env, wd, fr, run⟩ := q
  refine ⟨G, ρ, S, env, wd, fr, ?_⟩
  have run2 := run.bind
  unfold Run at run2 ⊢
  cases e1 : ga env S with
  | none => rw [e1] at run2; exact run2
  | some r =>
    obtain ⟨r, S'⟩ := r
    rw [e1] at run2
    cases r with
    | error e => exact run2
    | ok d =>
      obtain ⟨s, rfl⟩ := hstr _ _ _ _ e1
      intro G1 ρ1 H1 x1 w1 v sd
      obtain ⟨x1', w1', r1⟩ := run2 G1 ρ1 H1 x1 w1
      have r1 : Run X.K X.w X.mg (M.bind (gb env) fun b => M.bind (look (D.str s)) fun a => M.bind (look b) fun b => M.opt (joinD a b)) G1 ρ1 S' H1 (WxE X.K X.w X.mg Z.W σ) _ := r1
      have sv := (see_of w1 sd).str
      refine ⟨⟨_, sv⟩, ?_⟩
      refine ⟨G1, ρ1, S', env, w1, fr.ext x1, r1.bind.imp fun b G2 ρ2 S2 H2 ⟨x2, w2, r2⟩ u sd2 => ?_⟩
      obtain ⟨r, e, k⟩ := r2.look.look.opt
      have se := see_of w2 sd2
      have e : joinD (.str s) (S2.see b) = some r := e
      unfold joinD at e
      dsimp only at e
      split at e
      · rename_i ds hds
        rw [hds] at se
        split at e
        · rename_i ss hss
          split at e
          · rename_i hz
            cases e
            obtain ⟨p, vs, rfl, h1, r1⟩ := se.seq w2.g
            refine ⟨st s, p, ss.map st, sv, rfl, .inl (by rw [← r1.strsOf hss]; exact h1), ?_, ?_⟩
            · rw [List.map_map, List.length_map]; exact hz
            · rw [join_st]; exact (k _ _ _ (Ext.refl _ _ _) w2).2.2 _ (.str _)
          · cases e
        · cases e
      · rename_i ds hds
        rw [hds] at se
        split at e
        · rename_i ss hss
          split at e
          · rename_i hz
            cases e
            obtain ⟨p, vs, rfl, h1, r1⟩ := se.tup w2.g
            refine ⟨st s, p, ss.map st, sv, rfl, .inr (by rw [← r1.strsOf hss]; exact h1), ?_, ?_⟩
            · rw [List.map_map, List.length_map]; exact hz
            · rw [join_st]; exact (k _ _ _ (Ext.refl _ _ _) w2).2.2 _ (.str _)
          · cases e
        · cases e
      · cases e
theorem cst_str {s : List Nat} : ∀ (env : Env) S d S', ecst (.str s) env S = some (.ok d, S') → ∃ s, d = .str s := fun env S d S' h => by
  cases h; exact ⟨s, rfl⟩
end
end VX
set_option Elab.async false
set_option linter.all false
set_option maxRecDepth 100000
set_option maxHeartbeats 4000000
/-! statements, by value -/
namespace VX
open PySem PySem.Spec PyProof.Rows L2

abbrev sNx (env : Env) : SM := fun S => some (.nx env, S)
abbrev sFail : SM := fun _ => none
/-- an expression, then what its value leads to -/
def liftE {α : Type} (m : M α) (env : Env) (k : α → SM) : SM := fun S => match m S with
  | some (.ok a, S') => k a S'
  | some (.error e, S') => some (.xc e env, S')
  | none => none
def sSeq (a b : Env → SM) : Env → SM := fun env S => match a env S with
  | some (.nx env', S') => b env' S'
  | r => r
abbrev sAsg (i : Nat) (g : Env → M D) : Env → SM := fun env => liftE (g env) env fun d => sNx (env.set i (some (.dat d)))
abbrev sAsgF (i : Nat) (g : Env → M SV) : Env → SM := fun env => liftE (g env) env fun sv => sNx (env.set i (some sv))
abbrev sIf (t : Env → M Bool) (a b : Env → SM) : Env → SM := fun env => liftE (t env) env fun c => if c = true then a env else b env
abbrev sRet (g : Env → M D) : Env → SM := fun env => liftE (g env) env fun d S => some (.rt (.dat d), S)
abbrev sRetF (g : Env → M SV) : Env → SM := fun env => liftE (g env) env fun d S => some (.rt d, S)
abbrev sDrop (g : Env → M D) : Env → SM := fun env => liftE (g env) env fun _ => sNx env
abbrev sRetN : Env → SM := fun _ S => some (.rt (.dat .non), S)
abbrev sPass : Env → SM := sNx
def frzAt (i : Nat) (env : Env) : Env := match env[i]? with
  | some (some sv) => env.set i (some (.dat sv.d))
  | _ => env
abbrev sFrz (i : Nat) (g : Env → SM) : Env → SM := fun env => g (frzAt i env)
/-- slots forgotten -/
def drp : List Nat → Env → Env
  | [], env => env
  | i :: r, env => (drp r env).set i none
abbrev sDrp (l : List Nat) (g : Env → SM) : Env → SM := fun env => g (drp l env)

section
variable {K : PySem.W.Frag} {w : World} {mg : Str → Option Value} {Z : Zt} {B : Addr → Prop} {G G1 : Hp} {ρ ρ1 : List Addr} {H H1 : Hp} {S S1 : Sto} {σ : L2.St} {env : Env} {α : Type}
theorem RunS.imp {m : SM} {k k' : Hp → List Addr → Sto → Hp → Fl → Prop} (h : RunS K w mg Z m G ρ S H k) (i : ∀ G' ρ' S' H' f, k G' ρ' S' H' f → k' G' ρ' S' H' f) : RunS K w mg Z m G ρ S H k' := by
  unfold RunS at h ⊢
  cases e : m S with
  | none => rw [e] at h; exact h
  | some r => rw [e] at h; exact fun G' ρ' H' e1 e2 => i _ _ _ _ _ (h G' ρ' H' e1 e2)
/-- from a later state -/
theorem RunS.ext {m : SM} {k : Hp → List Addr → Sto → Hp → Fl → Prop} (h : RunS K w mg Z m G ρ S H k) (x : ExtS Z.B G ρ H G1 ρ1 H1) : RunS K w mg Z m G1 ρ1 S H1 k := by
  unfold RunS at h ⊢
  cases e : m S with
  | none => rw [e] at h; exact h
  | some r => rw [e] at h; exact fun G' ρ' H' e1 e2 => h G' ρ' H' (x.trans e1) e2
theorem RunS.lift {m : M α} {k : α → SM} {D : Ends} (fr : FrV K w mg Z.B G ρ H env σ) (h : RunS K w mg Z (liftE m env k) G ρ S H fun G' ρ' S' H' f => FlR K w mg Z D G' ρ' S' H' f) :
    Run K w mg m G ρ S H (WxE K w mg Z.W σ) fun a G1 ρ1 S1 H1 => Ext G ρ H G1 ρ1 H1 ∧ Wd K w mg G1 ρ1 S1 H1 ∧ FrV K w mg Z.B G1 ρ1 H1 env σ ∧ RunS K w mg Z (k a) G1 ρ1 S1 H1 fun G' ρ' S' H' f => FlR K w mg Z D G' ρ' S' H' f := by
  unfold RunS liftE at h
  unfold Run
  cases e : m S with
  | none => rw [e] at h; exact h
  | some r =>
    obtain ⟨r, S'⟩ := r
    rw [e] at h
    cases r with
    | error e => exact fun G' ρ' H' x1 w1 cls dd xr => h G' ρ' H' (x1.s fr.old) w1 σ cls dd (fr.ext x1) xr
    | ok a =>
      intro G1 ρ1 H1 x1 w1
      refine ⟨x1, w1, fr.ext x1, ?_⟩
      have h : RunS K w mg Z (k a) G ρ S' H fun G' ρ' S' H' f => FlR K w mg Z D G' ρ' S' H' f := h
      exact h.ext (x1.s fr.old)
theorem RunS.nx {env : Env} {k : Hp → List Addr → Sto → Hp → Fl → Prop} (h : RunS K w mg Z (sNx env) G ρ S H k) (wd : Wd K w mg G ρ S H) : k G ρ S H (.nx env) := h _ _ _ (ExtS.refl _ _ _ _) wd
theorem FrV.set {i : Nat} {v : V} {sv : SV} (fr : FrV K w mg B G ρ H env σ) (r : SVR K w mg G ρ H v sv) (hn : sv.own = true → ∀ p, v = .ref p → ¬ B p)
    (hd : sv.own = true → ∀ p, v = .ref p → ∀ (j : Nat) (sj : SV), j ≠ i → env[j]? = some (some sj) → sj.own = true → σ[j]? ≠ some (some (.ref p))) : FrV K w mg B G ρ H (env.set i (some sv)) (σ.set i (some v)) := by
  have lt : ∀ {j : Nat} {x : Option SV}, env[j]? = some x → j < σ.length := fun {j x} e => by rw [← fr.len]; exact (List.getElem?_eq_some_iff.mp e).1
  refine ⟨fr.old, fun j sj p e1 e2 e3 => ?_, by rw [List.length_set, List.length_set, fr.len], fun j sj e1 => ?_, fun j k sj sk p e0 e1 e2 e3 e4 e5 e6 => ?_⟩
  · by_cases hj : i = j
    · subst hj
      by_cases hl : i < env.length
      · rw [List.getElem?_set_self hl] at e1
        rw [List.getElem?_set_self (by rw [← fr.len]; exact hl)] at e3
        cases e1
        cases e3
        exact hn e2 p rfl
      · rw [List.getElem?_eq_none (by simpa using hl)] at e1; cases e1
    · rw [List.getElem?_set_ne hj] at e1 e3
      exact fr.new j sj p e1 e2 e3
  · by_cases hj : i = j
    · subst hj
      by_cases hl : i < env.length
      · rw [List.getElem?_set_self hl] at e1
        cases e1
        exact ⟨v, by rw [List.getElem?_set_self (by rw [← fr.len]; exact hl)], r⟩
      · rw [List.getElem?_eq_none (by simpa using hl)] at e1; cases e1
    · rw [List.getElem?_set_ne hj] at e1 ⊢
      exact fr.at_ j sj e1
  · by_cases hj : i = j
    · subst hj
      have hk : i ≠ k := e0
      rw [List.getElem?_set_ne hk] at e2 e6
      by_cases hl : i < env.length
      · rw [List.getElem?_set_self hl] at e1
        rw [List.getElem?_set_self (by rw [← fr.len]; exact hl)] at e5
        cases e1
        cases e5
        exact hd e3 p rfl k sk (Ne.symm hk) e2 e4 e6
      · rw [List.getElem?_eq_none (by simpa using hl)] at e1; cases e1
    · rw [List.getElem?_set_ne hj] at e1 e5
      by_cases hk : i = k
      · subst hk
        by_cases hl : i < env.length
        · rw [List.getElem?_set_self hl] at e2
          rw [List.getElem?_set_self (by rw [← fr.len]; exact hl)] at e6
          cases e2
          cases e6
          exact hd e4 p rfl j sj e0 e1 e3 e5
        · rw [List.getElem?_eq_none (by simpa using hl)] at e2; cases e2
      · rw [List.getElem?_set_ne hk] at e2 e6
        exact fr.ne j k sj sk p e0 e1 e2 e3 e4 e5 e6
theorem FrV.setD {i : Nat} {v : V} {d : D} (fr : FrV K w mg B G ρ H env σ) (r : Rep K w mg G ρ v d) : FrV K w mg B G ρ H (env.set i (some (.dat d))) (σ.set i (some v)) :=
  fr.set (.inl ⟨d, rfl, r⟩) (fun z => nomatch z) fun z => nomatch z
/-- a slot forgotten -/
theorem FrV.unset {i : Nat} (fr : FrV K w mg B G ρ H env σ) : FrV K w mg B G ρ H (env.set i none) σ := by
  have key : ∀ {j : Nat} {sv : SV}, (env.set i none)[j]? = some (some sv) → env[j]? = some (some sv) := fun {j sv} e => by
    by_cases hj : i = j
    · subst hj
      by_cases hl : i < env.length
      · rw [List.getElem?_set_self hl] at e; cases e
      · rw [List.getElem?_eq_none (by simpa using hl)] at e; cases e
    · rwa [List.getElem?_set_ne hj] at e
  exact ⟨fr.old, fun j sv p e => fr.new j sv p (key e), by rw [List.length_set, fr.len], fun j sv e => fr.at_ j sv (key e), fun j k sj sk p e0 e1 e2 => fr.ne j k sj sk p e0 (key e1) (key e2)⟩
theorem FrV.drp : ∀ (l : List Nat), FrV K w mg B G ρ H env σ → FrV K w mg B G ρ H (drp l env) σ
  | [], fr => fr
  | _ :: r, fr => (FrV.drp r fr).unset
/-- a slot's own thing frozen -/
theorem FrV.frz {i : Nat} (wd : Wd K w mg G ρ S H) (fr : FrV K w mg B G ρ H env σ) : ∃ G', Wd K w mg G' ρ S H ∧ ExtS B G ρ H G' ρ H ∧ FrV K w mg B G' ρ H (frzAt i env) σ := by
  unfold frzAt
  split
  · rename_i sv hsv
    obtain ⟨v, e1, r⟩ := fr.at_ i sv hsv
    have hi : i < env.length := (List.getElem?_eq_some_iff.mp hsv).1
    have hσ : σ.set i (some v) = σ := by
      apply List.ext_getElem?
      intro j
      by_cases hj : i = j
      · subst hj
        rw [List.getElem?_set_self (by rw [← fr.len]; exact hi), e1]
      · rw [List.getElem?_set_ne hj]
    rcases r with ⟨d, rfl, r⟩ | ⟨p, rfl, gp, np, o⟩
    · refine ⟨G, wd, ExtS.refl _ _ _ _, ?_⟩
      have := fr.setD (i := i) r
      rwa [hσ] at this
    · obtain ⟨ob, ho, k⟩ := o.rep
      have own : sv.own = true := by cases sv <;> first | rfl | exact o.elim
      have u : Up G ρ (upd G p ob) ρ := ⟨fun b q e => by rw [upd_ne (ne_of_none e gp)]; exact e, fun _ _ h => h⟩
      have hB : ¬ B p := fr.new i sv p hsv own e1
      refine ⟨upd G p ob, ⟨fun b q e => ?_, wd.nd, fun b hb => ?_, wd.len, fun n c a e1 e2 => (wd.cell n c a e1 e2).up u fun _ h => h⟩, ⟨u, fun _ _ _ h _ => h, fun _ h => h, fun b h1 h2 => ?_, fun _ h => .inl h⟩, ?_⟩
      · by_cases hb : b = p
        · subst hb; rw [upd_same] at e; cases e; exact ho
        · rw [upd_ne hb] at e; exact wd.g b q e
      · rw [upd_ne (by rintro rfl; exact np hb)]; exact wd.out b hb
      · rw [upd_ne (by rintro rfl; exact hB h1)]; exact h2
      · -- the other slots
        have fr2 : FrV K w mg B (upd G p ob) ρ H (env.set i none) σ := by
          have f := fr.unset (i := i)
          refine ⟨f.old, f.new, f.len, fun j sj e => ?_, f.ne⟩
          have hj : i ≠ j := by
            rintro rfl
            rw [List.getElem?_set_self hi] at e; cases e
          obtain ⟨v', e', r'⟩ := f.at_ j sj e
          refine ⟨v', e', ?_⟩
          rcases r' with ⟨d, rfl, r'⟩ | ⟨p', rfl, gp', np', o'⟩
          · exact .inl ⟨d, rfl, r'.up u⟩
          · rw [List.getElem?_set_ne hj] at e
            have own' : sj.own = true := by cases sj <;> first | rfl | exact o'.elim
            have hpp : p' ≠ p := by
              rintro rfl
              exact fr.ne i j sv sj p' hj hsv e own own' e1 e'
            exact .inr ⟨p', rfl, by rw [upd_ne hpp]; exact gp', np', o'.up u fun _ h => h⟩
        have f3 := fr2.setD (i := i) (v := .ref p) (k (upd G p ob) u upd_same)
        rw [hσ] at f3
        have e : (env.set i none).set i (some (SV.dat sv.d)) = env.set i (some (.dat sv.d)) := by rw [List.set_set]
        rw [e] at f3
        exact f3
  · exact ⟨G, wd, ExtS.refl _ _ _ _, fr⟩
end

abbrev SS (X : Cx) (Z : Zt) (st : Stmt) (g : Env → SM) : Prop := PS X st (tS X.K X.w X.mg Z g)
abbrev SSs (X : Cx) (Z : Zt) (st : List Stmt) (g : Env → SM) : Prop := PSs X st (tS X.K X.w X.mg Z g)
section
variable {X : Cx} {Z : Zt} {st : Stmt} {rest : List Stmt} {e c : Expr} {g h : Env → SM} {ge : Env → M D} {gf : Env → M SV} {gt : Env → M Bool} {pos pos' : Pos}
theorem ss_nil : SSs X Z [] sNx := PSs.mono pss_nil fun D σ H q => by
  obtain ⟨G, ρ, S, env, wd, fr, run⟩ := q
  exact run.nx wd σ fr
theorem ss_one (h1 : SS X Z st g) : SSs X Z [st] g := pss_one h1
theorem ss_cons (h1 : SS X Z st g) (h2 : SSs X Z rest h) : SSs X Z (st :: rest) (sSeq g h) := PSs.mono (pss_cons h1 h2) fun D σ H q => by
  obtain ⟨G, ρ, S, env, wd, fr, run⟩ := q
  refine ⟨G, ρ, S, env, wd, fr, ?_⟩
  unfold RunS sSeq at run
  unfold RunS
  cases e : g env S with
  | none => rw [e] at run; exact run
  | some r =>
    obtain ⟨f, S'⟩ := r
    rw [e] at run
    intro G1 ρ1 H1 x1 w1
    cases f with
    | nx env' =>
      intro σ1 fr1
      refine ⟨G1, ρ1, S', env', w1, fr1, ?_⟩
      have run : RunS X.K X.w X.mg Z (h env') G ρ S' H fun G' ρ' S' H' f => FlR X.K X.w X.mg Z D G' ρ' S' H' f := run
      exact run.ext x1
    | rt v => exact run G1 ρ1 H1 x1 w1
    | bk env' => exact run G1 ρ1 H1 x1 w1
    | ct env' => exact run G1 ρ1 H1 x1 w1
    | xc x env' => exact run G1 ρ1 H1 x1 w1
/-- x = e, frozen -/
theorem ss_set {x : Str} (i : Nat) (hN : X.N.Nodup) (he : EV X Z e ge) (hi : X.N[i]? = some x := by rfl) (hx : Loc X.env.scope x := by first | exact Or.inl rfl | exact Or.inr rfl) (hs : swapsWith e (some (.Name x pos')) pos.line X.env = pure false := by rfl)
    (hf : X.fn x = true ∨ X.env.scope.names.lookup x = some .local := by first | exact .inl rfl | exact .inr rfl) : SS X Z (.Assign [.Name x pos'] e pos) (sAsg i ge) := PS.mono (ps_set hN hi hx he hs hf) fun D σ H q => by
  obtain ⟨G, ρ, S, env, wd, fr, run⟩ := q
  refine ⟨G, ρ, S, env, wd, fr, (RunS.lift fr run).imp fun d G1 ρ1 S1 H1 ⟨x1, w1, f1, r1⟩ v rv => ?_⟩
  exact r1.nx w1 _ (f1.setD rv)
/-- x = e, of one's own -/
theorem ss_setF {x : Str} (i : Nat) (hN : X.N.Nodup) (he : EF X Z e gf) (hi : X.N[i]? = some x := by rfl) (hx : Loc X.env.scope x := by first | exact Or.inl rfl | exact Or.inr rfl) (hs : swapsWith e (some (.Name x pos')) pos.line X.env = pure false := by rfl)
    (hf : X.fn x = true ∨ X.env.scope.names.lookup x = some .local := by first | exact .inl rfl | exact .inr rfl) : SS X Z (.Assign [.Name x pos'] e pos) (sAsgF i gf) := PS.mono (ps_set hN hi hx he hs hf) fun D σ H q => by
  obtain ⟨G, ρ, S, env, wd, fr, run⟩ := q
  refine ⟨G, ρ, S, env, wd, fr, (RunS.lift fr run).imp fun sv G1 ρ1 S1 H1 ⟨x1, w1, f1, r1⟩ v rv fresh => ?_⟩
  refine r1.nx w1 _ (f1.set rv (fun o p e hb => fr.old p hb (fresh o p e)) fun o p e j sj hj e1 e2 e3 => ?_)
  obtain ⟨v', e4, r'⟩ := fr.at_ j sj e1
  rw [e3] at e4
  cases e4
  rcases r' with ⟨d, rfl, _⟩ | ⟨p', e5, _, _, o'⟩
  · cases e2
  · injection e5 with e5
    subst e5
    obtain ⟨ob, ho⟩ := o'.has
    rw [fresh o p e] at ho
    cases ho
theorem ss_if {a b : List Stmt} (hc : ET X Z c gt) (ha : SSs X Z a g) (hb : SSs X Z b h) : SS X Z (.If c a b pos) (sIf gt g h) := PS.mono (ps_if hc ha hb) fun D σ H q => by
  obtain ⟨G, ρ, S, env, wd, fr, run⟩ := q
  refine ⟨G, ρ, S, env, wd, fr, (RunS.lift fr run).imp fun c G1 ρ1 S1 H1 ⟨x1, w1, f1, r1⟩ => ?_⟩
  cases c with
  | true => exact iteT ⟨G1, ρ1, S1, env, w1, f1, r1⟩
  | false => exact iteF ⟨G1, ρ1, S1, env, w1, f1, r1⟩
theorem ss_ret (he : EV X Z e ge) : SS X Z (.Return (some e) pos) (sRet ge) := PS.mono (ps_ret he) fun D σ H q => by
  obtain ⟨G, ρ, S, env, wd, fr, run⟩ := q
  refine ⟨G, ρ, S, env, wd, fr, (RunS.lift fr run).imp fun d G1 ρ1 S1 H1 ⟨x1, w1, f1, r1⟩ v rv => ?_⟩
  exact (show FlR X.K X.w X.mg Z D G1 ρ1 S1 H1 (.rt (.dat d)) from r1 _ _ _ (ExtS.refl _ _ _ _) w1) v (.inl ⟨d, rfl, rv⟩) fun z => nomatch z
theorem ss_retF (he : EF X Z e gf) : SS X Z (.Return (some e) pos) (sRetF gf) := PS.mono (ps_ret he) fun D σ H q => by
  obtain ⟨G, ρ, S, env, wd, fr, run⟩ := q
  refine ⟨G, ρ, S, env, wd, fr, (RunS.lift fr run).imp fun d G1 ρ1 S1 H1 ⟨x1, w1, f1, r1⟩ v rv fresh => ?_⟩
  exact (show FlR X.K X.w X.mg Z D G1 ρ1 S1 H1 (.rt d) from r1 _ _ _ (ExtS.refl _ _ _ _) w1) v rv fun o p e hb => fr.old p hb (fresh o p e)
/-- return x, x of one's own (or data) -/
def sRetV (i : Nat) : Env → SM := fun env => match env[i]? with
  | some (some sv) => fun S => some (.rt sv, S)
  | _ => sFail
theorem ss_retV {x : Str} (i : Nat) (hN : X.N[i]? = some x := by rfl) (hv : Vis X.env.scope x := by first | exact Or.inl rfl | exact Or.inr (Or.inl rfl) | exact Or.inr (Or.inr rfl)) (hd : (x == ("__debug__" : Str)) = false := by decide)
    (hcd : (x == ("__classdict__" : Str)) = false := by decide) : SS X Z (.Return (some (.Name x pos')) pos) (sRetV i) := PS.mono (ps_ret (pe_var hN hv hd hcd)) fun D σ H q => by
  obtain ⟨G, ρ, S, env, wd, fr, run⟩ := q
  cases h : env[i]? with
  | none => simp only [sRetV, h] at run; exact run.elim
  | some o =>
    cases o with
    | none => simp only [sRetV, h] at run; exact run.elim
    | some sv =>
      simp only [sRetV, h] at run
      obtain ⟨v, e1, r⟩ := fr.at_ i sv h
      refine ⟨v, e1, ?_⟩
      exact (show FlR X.K X.w X.mg Z D G ρ S H (.rt sv) from run _ _ _ (ExtS.refl _ _ _ _) wd) v r fun o p e => fr.new i sv p h o (by rw [e1, e])
theorem ss_retN : SS X Z (.Return none pos) sRetN := PS.mono ps_retN fun D σ H q => by
  obtain ⟨G, ρ, S, env, wd, fr, run⟩ := q
  exact (show FlR X.K X.w X.mg Z D G ρ S H (.rt (.dat .non)) from run _ _ _ (ExtS.refl _ _ _ _) wd) _ (.inl ⟨_, rfl, .non⟩) fun z => nomatch z
theorem ss_drop (he : EV X Z e ge) (hs : swapsWith e none pos.line X.env = pure false := by rfl) : SS X Z (.Expr e pos) (sDrop ge) := PS.mono (ps_expr he hs) fun D σ H q => by
  obtain ⟨G, ρ, S, env, wd, fr, run⟩ := q
  refine ⟨G, ρ, S, env, wd, fr, (RunS.lift fr run).imp fun d G1 ρ1 S1 H1 ⟨x1, w1, f1, r1⟩ v rv => ?_⟩
  exact r1.nx w1 _ f1
theorem ss_pass : SS X Z (.Pass pos) sPass := PS.mono ps_pass fun D σ H q => by
  obtain ⟨G, ρ, S, env, wd, fr, run⟩ := q
  exact run.nx wd σ fr
theorem ss_frz (i : Nat) (h1 : SSs X Z rest g) : SSs X Z rest (sFrz i g) := PSs.mono h1 fun D σ H q => by
  obtain ⟨G, ρ, S, env, wd, fr, run⟩ := q
  obtain ⟨G1, w1, x1, f1⟩ := FrV.frz (i := i) wd fr
  exact ⟨G1, ρ, S, _, w1, f1, run.ext x1⟩
theorem ss_drp (l : List Nat) (h1 : SSs X Z rest g) : SSs X Z rest (sDrp l g) := PSs.mono h1 fun D σ H q => by
  obtain ⟨G, ρ, S, env, wd, fr, run⟩ := q
  exact ⟨G, ρ, S, _, wd, fr.drp l, run⟩
/-- xs.append(e), xs of one's own -/
def sApp (i : Nat) (ge : Env → M D) : Env → SM := fun env => match env[i]? with
  | some (some (.lst xs)) => liftE (ge env) env fun d => if xs.length < sizeLine then sNx (env.set i (some (.lst (xs ++ [d])))) else sFail
  | _ => sFail
theorem own_upd {K : PySem.W.Frag} {w : World} {mg : Str → Option Value} {B : Addr → Prop} {G : Hp} {ρ : List Addr} {H : Hp} {S : Sto} {σ : L2.St} {env : Env} {i : Nat} {p : Addr} {sv sv' : SV} {o : HO} (wd : Wd K w mg G ρ S H) (fr : FrV K w mg B G ρ H env σ)
    (e1 : env[i]? = some (some sv)) (own : sv.own = true) (own' : sv'.own = true) (e2 : σ[i]? = some (some (.ref p))) (gp : G p = none) (np : p ∉ ρ) (there : ∃ u, H p = some u) (r : OwnAt K w mg G ρ (upd H p o) p sv') :
    Wd K w mg G ρ S (upd H p o) ∧ ExtS B G ρ H G ρ (upd H p o) ∧ FrV K w mg B G ρ (upd H p o) (env.set i (some sv')) σ := by
  have hB : ¬ B p := fr.new i sv p e1 own e2
  have hi : i < env.length := (List.getElem?_eq_some_iff.mp e1).1
  have hσ : σ.set i (some (V.ref p)) = σ := by
    apply List.ext_getElem?
    intro j
    by_cases hj : i = j
    · subst hj
      rw [List.getElem?_set_self (by rw [← fr.len]; exact hi), e2]
    · rw [List.getElem?_set_ne hj]
  refine ⟨⟨fun b q e => ?_, wd.nd, wd.out, wd.len, fun n c a f1 f2 => (wd.cell n c a f1 f2).up (Up.refl _ _) fun q e => ?_⟩, ⟨Up.refl _ _, fun b q hb e _ => ?_, fun b e => ?_, fun _ _ h => h, fun _ h => .inl h⟩, ?_⟩
  · rw [upd_ne (ne_of_none e gp)]; exact wd.g b q e
  · have : a ∈ ρ := List.mem_of_getElem? f2
    rw [upd_ne (by rintro rfl; exact np this)]; exact e
  · rw [upd_ne (by rintro rfl; exact hB hb)]; exact e
  · by_cases hb : b = p
    · subst hb; rw [upd_same] at e; cases e
    · rw [upd_ne hb] at e; exact e
  · have f1 : FrV K w mg B G ρ (upd H p o) (env.set i none) σ := by
      have f := fr.unset (i := i)
      refine ⟨fun b hb => by rw [upd_ne (by rintro rfl; exact hB hb)]; exact f.old b hb, f.new, f.len, fun j sj e => ?_, f.ne⟩
      have hj : i ≠ j := by
        rintro rfl
        rw [List.getElem?_set_self hi] at e; cases e
      obtain ⟨v', e', r'⟩ := f.at_ j sj e
      refine ⟨v', e', ?_⟩
      rcases r' with ⟨d, rfl, r'⟩ | ⟨p', rfl, gp', np', o'⟩
      · exact .inl ⟨d, rfl, r'⟩
      · rw [List.getElem?_set_ne hj] at e
        have ow : sj.own = true := by cases sj <;> first | rfl | exact o'.elim
        have hpp : p' ≠ p := by
          rintro rfl
          exact fr.ne i j sv sj p' hj e1 e own ow e2 e'
        exact .inr ⟨p', rfl, gp', np', o'.up (Up.refl _ _) fun q hq => by rw [upd_ne hpp]; exact hq⟩
    have f2 := f1.set (i := i) (v := .ref p) (sv := sv') (.inr ⟨p, rfl, gp, np, r⟩) (fun _ q e => by injection e with e; subst e; exact hB) fun _ q e j sj hj e3 e4 e5 => by
      injection e with e
      subst e
      rw [List.getElem?_set_ne (Ne.symm hj)] at e3
      exact fr.ne i j sv sj p (Ne.symm hj) e1 e3 own e4 e2 e5
    rw [hσ, List.set_set] at f2
    exact f2
theorem SVR.own_inv {K : PySem.W.Frag} {w : World} {mg : Str → Option Value} {G : Hp} {ρ : List Addr} {H : Hp} {v : V} {sv : SV} (h : SVR K w mg G ρ H v sv) (o : sv.own = true) : ∃ p, v = .ref p ∧ G p = none ∧ p ∉ ρ ∧ OwnAt K w mg G ρ H p sv := by
  rcases h with ⟨d, rfl, _⟩ | h
  · cases o
  · exact h
theorem ss_app {x : Str} {apos cpos : Pos} (i : Nat) (he : EV X Z e ge) (hN : X.N[i]? = some x := by rfl) (hv : Vis X.env.scope x := by first | exact Or.inl rfl | exact Or.inr (Or.inl rfl) | exact Or.inr (Or.inr rfl)) (hd : (x == ("__debug__" : Str)) = false := by decide)
    (hcd : (x == ("__classdict__" : Str)) = false := by decide)
    (hbase : attributeBase (.Name x pos') "append" X.env (eval (.Name x pos') X.env) = eval (.Name x pos') X.env := by rfl)
    (hfew : ((backTo cpos (starEach [e] X.env)).all (fun x => !x.1) && (backToKw cpos (keywordEach [] X.env)).all (fun x => x.1.isSome) && decide (([e] : List Expr).length + ([] : List Keyword).length + (if ([] : List Keyword).isEmpty then 0 else 1) < 30)) = true := by rfl)
    (hline : (apos.endLine == cpos.line) = true := by rfl) (hs : starEach [e] X.env = (false, eval e X.env) :: starEach [] X.env := by rfl) (hplain : (backTo cpos (starEach [] X.env)).any (·.1) = false := by rfl)
    (hsw : swapsWith (.Call (.Attribute (.Name x pos') "append" apos) [e] [] cpos) none pos.line X.env = pure false := by rfl) :
    SS X Z (.Expr (.Call (.Attribute (.Name x pos') "append" apos) [e] [] cpos) pos) (sApp i ge) :=
  PS.mono (ps_expr (pe_bm PySem.F.plainAttrs_list PySem.F.slot_list_append PySem.F.type_list_append mt_append (pe_var (i := i) hN hv hd hcd) (pa_cons he pa_nil hs) hbase hfew hline hs hplain) hsw) fun D σ H q => by
    obtain ⟨G, ρ, S, env, wd, fr, run⟩ := q
    unfold sApp at run
    split at run
    · rename_i xs hxs
      obtain ⟨v, e1, r⟩ := fr.at_ i _ hxs
      obtain ⟨p, rfl, gp, np, vs, hp, rv⟩ := r.own_inv rfl
      refine ⟨.ref p, e1, .inl ⟨rfl, vs, .of hp⟩, ?_⟩
      refine ⟨G, ρ, S, env, wd, fr, (RunS.lift fr run).imp fun d G1 ρ1 S1 H1 ⟨x1, w1, f1, r1⟩ u ru => ?_⟩
      split at r1
      · rename_i hl
        have hp1 := x1.keep p _ hp np
        have np1 : p ∉ ρ1 := fun z => (x1.newR p z).elim np fun z => by rw [hp] at z; cases z
        have gp1 := x1.newG p gp (by rw [hp]; simp)
        refine ⟨p, vs, u, rfl, rfl, hp1, by rw [rv.length]; exact hl, ?_⟩
        obtain ⟨w2, x2, f2⟩ := own_upd (o := .lst (vs ++ [u])) (sv' := .lst (xs ++ [d])) w1 f1 hxs rfl rfl e1 gp1 np1 ⟨_, hp1⟩ ⟨_, upd_same, (rv.up x1.up).append (.cons ru .nil)⟩
        exact (r1.ext x2).nx w2 _ f2
      · exact r1.elim
    · exact run.elim
end
end VX
set_option Elab.async false
set_option linter.all false
set_option maxRecDepth 100000
set_option maxHeartbeats 4000000
/-! calls, by value -/
namespace VX
open PySem PySem.Spec PyProof.Rows L2

section
variable (K : PySem.W.Frag) (w : World) (mg : Str → Option Value)
/-- what a def promises: called with data ds it does as F says -/
def spF (F : List D → M SV) (n : Nat) : Sp := fun vs H Q E => vs.length = n ∧ ∃ G ρ S ds, Wd K w mg G ρ S H ∧ Reps K w mg G ρ vs ds ∧
  Run K w mg (F ds) G ρ S H (fun e G' ρ' S' H' => ∀ cls dd, ExR K w mg G' ρ' H' cls dd e → E cls dd H') fun sv G' ρ' S' H' => ∀ v, SVR K w mg G' ρ' H' v sv → (sv.own = true → ∀ p, v = .ref p → H p = none) → Q v H'
/-- a def called with n values -/
structure FnK (P : Program) (base : Heap) (k : Nat) (x : Str) (n : Nat) (F : List D → M SV) : Prop where
  ex : ∃ (f : Addr) (fd : FuncData) (ps : List Str) (sp : Sp) (dvs : List V) (ds : List Value), mg x = some (.ref f) ∧ PySem.W.keepIn K (.ref f) = true ∧ Binds K fd ps ds ∧ Vals dvs ds ∧ FnOk P w K mg base (L2.CX P w) k f fd ps sp ∧
    ∀ vs H Q E, spF K w mg F n vs H Q E → sp (vs ++ dvs) H Q E
/-- a method m of the class x, called with n values behind self -/
structure MtK (P : Program) (base : Heap) (k : Nat) (x m : Str) (n : Nat) (F : List D → M SV) : Prop where
  ex : ∃ (C f : Addr) (fd : FuncData) (ps : List Str) (sp : Sp) (dvs : List V) (ds : List Value), mg x = some (.ref C) ∧ Cls K C ∧ Meth K C m f ∧ Binds K fd ps ds ∧ Vals dvs ds ∧ FnOk P w K mg base (L2.CX P w) k f fd ps sp ∧
    ∀ vs H Q E, spF K w mg F (n + 1) vs H Q E → sp (vs ++ dvs) H Q E
/-- the class x made with n values: its __init__ -/
structure MkK (P : Program) (base : Heap) (k : Nat) (x : Str) (n : Nat) (F : List D → M SV) : Prop where
  ex : ∃ (C f : Addr) (fd : FuncData) (ps : List Str) (sp : Sp) (dvs : List V) (ds : List Value), mg x = some (.ref C) ∧ Mk K C f ∧ Binds K fd ps ds ∧ Vals dvs ds ∧ FnOk P w K mg base (L2.CX P w) k f fd ps sp ∧
    ∀ vs H Q E, spF K w mg F (n + 1) vs H Q E → sp (vs ++ dvs) H Q E
end
section
variable {K : PySem.W.Frag} {w : World} {mg : Str → Option Value} {P : Program} {base : Heap} {k j : Nat} {x m : Str} {n : Nat} {F : List D → M SV}
theorem FnK.mono (h : FnK K w mg P base j x n F) (l : j ≤ k) : FnK K w mg P base k x n F := by
  obtain ⟨f, fd, ps, sp, dvs, ds, h1, h2, h3, h4, h5, h6⟩ := h.ex
  exact ⟨f, fd, ps, sp, dvs, ds, h1, h2, h3, h4, h5.mono l, h6⟩
theorem MtK.mono (h : MtK K w mg P base j x m n F) (l : j ≤ k) : MtK K w mg P base k x m n F := by
  obtain ⟨C, f, fd, ps, sp, dvs, ds, h0, h1, h2, h3, h4, h5, h6⟩ := h.ex
  exact ⟨C, f, fd, ps, sp, dvs, ds, h0, h1, h2, h3, h4, h5.mono l, h6⟩
theorem MkK.mono (h : MkK K w mg P base j x n F) (l : j ≤ k) : MkK K w mg P base k x n F := by
  obtain ⟨C, f, fd, ps, sp, dvs, ds, h0, h1, h3, h4, h5, h6⟩ := h.ex
  exact ⟨C, f, fd, ps, sp, dvs, ds, h0, h1, h3, h4, h5.mono l, h6⟩
end

/-! ### f(..) -/
abbrev callF (F : List D → M SV) (gs : Env → M (List D)) : Env → M SV := fun env => M.bind (gs env) F
section
variable {X : Cx} {Z : Zt} {e o : Expr} {es : List Expr} {gs : Env → M (List D)} {g : Env → M D} {p pos apos : Pos} {k : Nat} {x m : Str} {F : List D → M SV}
/-- from a call's wish to the promise -/
theorem sp_of {σ : L2.St} {H : Hp} {Q : VK} {n : Nat} {sp : Sp} {dvs : List V} (hsp : ∀ vs H Q E, spF X.K X.w X.mg F n vs H Q E → sp (vs ++ dvs) H Q E) (hl : ∀ env S ds S', gs env S = some (.ok ds, S') → ds.length = n)
    (q : tF X.K X.w X.mg Z (callF F gs) σ H Q) : tA X.K X.w X.mg Z gs σ H fun vs H1 => sp (vs ++ dvs) H1 Q (WE Z.W σ) := by
  obtain ⟨G, ρ, S, env, wd, fr, run⟩ := q
  refine ⟨G, ρ, S, env, wd, fr, ?_⟩
  have r := run.bind
  unfold Run at r ⊢
  cases e1 : gs env S with
  | none => rw [e1] at r; exact r
  | some z =>
    obtain ⟨z, S'⟩ := z
    rw [e1] at r
    cases z with
    | error e => exact r
    | ok ds =>
      intro G1 ρ1 H1 x1 w1 vs rv
      obtain ⟨_, _, r1⟩ := r G1 ρ1 H1 x1 w1
      refine hsp _ _ _ _ ⟨by rw [rv.length]; exact hl _ _ _ _ e1, G1, ρ1, S', ds, w1, rv, ?_⟩
      have r1 : Run X.K X.w X.mg (F ds) G1 ρ1 S' H1 (WxE X.K X.w X.mg Z.W σ) _ := r1
      exact r1.imp2 (fun sv G2 ρ2 S2 H2 ⟨x2, k⟩ v rv f => k v rv fun o p e => x1.dom p (f o p e)) fun e G2 ρ2 S2 H2 k => k
theorem ef_call (f : FnK X.K X.w X.mg X.prog X.base k x (es.length + 1) F) (tk : Takes X Z.W) (hr : Room k X.A) (ha : EA X Z (e :: es) gs) (hl : ∀ env S ds S', gs env S = some (.ok ds, S') → ds.length = es.length + 1) (hg : Gl X x := by rfl) (hdb : (x == ("__debug__" : Str)) = false := by decide)
    (he : starEach (e :: es) X.env = (false, eval e X.env) :: starEach es X.env := by rfl) (hpl : (backTo pos (starEach es X.env)).any (·.1) = false := by rfl) : EF X Z (.Call (.Name x p) (e :: es) [] pos) (callF F gs) := by
  obtain ⟨f, fd, ps, sp, dvs, ds, h1, h2, h3, h4, h5, h6⟩ := f.ex
  exact PE.mono (pe_callSD h5 hr hg h1 h2 h3 h4 (passAt tk) ha hdb he hpl) fun σ H Q q => sp_of h6 hl q
theorem ef_call0 (f : FnK X.K X.w X.mg X.prog X.base k x 0 F) (tk : Takes X Z.W) (hr : Room k X.A) (hg : Gl X x := by rfl) (hdb : (x == ("__debug__" : Str)) = false := by decide) : EF X Z (.Call (.Name x p) [] [] pos) (callF F fun _ => M.pure []) := by
  obtain ⟨f, fd, ps, sp, dvs, ds, h1, h2, h3, h4, h5, h6⟩ := f.ex
  refine ⟨fun pins s σ H Q I h => ?_⟩
  have q := sp_of (gs := fun _ => M.pure []) h6 (fun env S ds S' h => by cases h; rfl) h
  obtain ⟨G, ρ, S, env, wd, fr, run⟩ := q
  refine wpAny_Call_Name_kw (ld_glob I hg h1 ?_ hdb)
  exact PySem.W.callWith_K0 I.kIn h2 (run_fnSD (us := []) (vs := []) h5 hr h3 h4 (passAt tk σ) I .nil (run.pure _ _ _ (Ext.refl _ _ _) wd [] .nil))
/-! ### o.m(..) -/
/-- the receiver: an object of the class x that has no attribute of the method's name -/
def asObj (x m : Str) (d : D) : M D := fun S => match d with
  | .obj n => match S[n]? with
    | some (.ins c fs) => if c = x ∧ fs.lookup m = none then some (.ok (.obj n), S) else none
    | _ => none
  | _ => none
theorem FsR.lookup {K : PySem.W.Frag} {w : World} {mg : Str → Option Value} {G : Hp} {ρ : List Addr} (f : Str) : ∀ {l : List (Str × V)} {ds : List (Str × D)}, FsR K w mg G ρ l ds → (ds.lookup f = none → l.lookup f = none) ∧ ∀ d, ds.lookup f = some d → ∃ v, l.lookup f = some v ∧ Rep K w mg G ρ v d
  | _, _, .nil => ⟨fun _ => rfl, fun d h => by cases h⟩
  | _, _, .cons (f := f') h r => by
    obtain ⟨i1, i2⟩ := FsR.lookup f r
    simp only [List.lookup_cons]
    cases e : f == f' with
    | true =>
      refine ⟨fun h => (by cases h), fun d hd => ?_⟩
      cases hd
      exact ⟨_, rfl, h⟩
    | false => exact ⟨i1, i2⟩
theorem ef_meth {pl : Sem Bool} (f : MtK X.K X.w X.mg X.prog X.base k x m (es.length + 1) F) (tk : Takes X Z.W) (hr : Room k X.A) (ho : EV X Z o g) (ha : EA X Z (e :: es) gs) (hl : ∀ env S ds S', gs env S = some (.ok ds, S') → ds.length = es.length + 1)
    (hst : starEach (e :: es) X.env = (false, eval e X.env) :: starEach es X.env := by rfl) (hpl : (backTo pos (starEach es X.env)).any (·.1) = false := by rfl)
    (ht : eval (.Call (.Attribute o m apos) (e :: es) [] pos) X.env = (do
      let ov ← eval o X.env
      standAt apos.atName
      let (f, first) ← holding [ov] (getMethod ov m pl)
      callWith pos f first (backTo pos (starEach (e :: es) X.env)) (backToKw pos (keywordEach [] X.env))) := by rfl) :
    EF X Z (.Call (.Attribute o m apos) (e :: es) [] pos) (fun env => M.bind (g env) fun d => M.bind (asObj x m d) fun r => M.bind (gs env) fun ds => F (r :: ds)) := by
  obtain ⟨C, f, fd, ps, sp, dvs, ds, h0, h1, h2, h3, h4, h5, h6⟩ := f.ex
  refine ⟨fun pins s σ H Q I h => ?_⟩
  obtain ⟨G, ρ, S, env, wd, fr, run⟩ := h
  refine PySem.W.methodCall_KW (pl := pl) (Q := L2.EP X pins σ Q) ?_ ht
  have hO : tV X.K X.w X.mg Z g σ H fun v H1 => ∃ a dx l n G1 ρ1 S1, v = .ref a ∧ H1 a = some (.ins C dx l) ∧ l.lookup m = none ∧ Ext G ρ H G1 ρ1 H1 ∧ Wd X.K X.w X.mg G1 ρ1 S1 H1 ∧ Rep X.K X.w X.mg G1 ρ1 v (.obj n) ∧
      Run X.K X.w X.mg (M.bind (gs env) fun ds => F (.obj n :: ds)) G1 ρ1 S1 H1 (WxE X.K X.w X.mg Z.W σ) fun sv G' ρ' S' H' => ∀ v, SVR X.K X.w X.mg G' ρ' H' v sv → (sv.own = true → ∀ p, v = .ref p → H p = none) → Q v H' := by
    refine ⟨G, ρ, S, env, wd, fr, ?_⟩
    refine run.bind.imp fun d G1 ρ1 S1 H1 ⟨x1, w1, r1⟩ v rv => ?_
    unfold Run M.bind asObj at r1
    cases d with
    | obj n =>
      cases rv with
      | @obj _ a ea =>
        dsimp only at r1
        cases hc : S1[n]? with
        | none => rw [hc] at r1; exact r1.elim
        | some c =>
          rw [hc] at r1
          cases c with
          | ins c fs =>
            dsimp only at r1
            by_cases hcx : c = x ∧ fs.lookup m = none
            · rw [if_pos hcx] at r1
              obtain ⟨C', dx, l, f1, f2, f3⟩ := w1.cell n _ a hc ea
              obtain ⟨e1, e2⟩ := hcx
              subst e1
              rw [h0] at f1
              cases f1
              refine ⟨a, dx, l, n, G1, ρ1, S1, rfl, f2, (FsR.lookup m f3).1 e2, x1, w1, .obj ea, ?_⟩
              have r1 : Run X.K X.w X.mg (M.bind (gs env) fun ds => F (.obj n :: ds)) G1 ρ1 S1 H1 (WxE X.K X.w X.mg Z.W σ) _ := r1
              exact r1.imp fun sv G2 ρ2 S2 H2 k => k.2
            · rw [if_neg hcx] at r1; exact r1.elim
          | _ => exact r1.elim
    | _ => exact r1.elim
  refine thn (ho.run pins s σ H _ I hO) fun u s1 ⟨v, H1, I1, rx, a, dx, l, n, G1, ρ1, S1, ev, ea, el, x1, w1, rob, r1⟩ => ?_
  subst ev
  obtain rfl : u = Value.ref a := rx
  refine getmeth_ok I1 ea h1 h2 el ?_
  have q : tA X.K X.w X.mg Z gs σ H1 fun vs H2 => sp ((.ref a :: vs) ++ dvs) H2 Q (WE Z.W σ) := by
    refine ⟨G1, ρ1, S1, env, w1, fr.ext x1, ?_⟩
    have r2 := r1.bind
    unfold Run at r2 ⊢
    cases e1 : gs env S1 with
    | none => rw [e1] at r2; exact r2
    | some z =>
      obtain ⟨z, S'⟩ := z
      rw [e1] at r2
      cases z with
      | error e => exact r2
      | ok ds =>
        intro G2 ρ2 H2 x2 w2 vs rv
        obtain ⟨_, _, r3⟩ := r2 G2 ρ2 H2 x2 w2
        refine h6 _ _ _ _ ⟨by rw [List.length_cons, rv.length, hl _ _ _ _ e1], G2, ρ2, S', .obj n :: ds, w2, .cons (rob.up x2.up) rv, ?_⟩
        have r3 : Run X.K X.w X.mg (F (.obj n :: ds)) G2 ρ2 S' H2 (WxE X.K X.w X.mg Z.W σ) _ := r3
        exact r3.imp2 (fun sv G4 ρ4 S4 H4 ⟨x4, k⟩ v rv f => k v rv fun o p e => x1.dom p (x2.dom p (f o p e))) fun e G4 ρ4 S4 H4 k => k
  refine PySem.W.callWith_K (first := [.ref a]) (h₀ := X.base) I1.ok.mod.kin h2.kp (thn (ha.run pos pins s1 σ H1 _ I1 q) fun us s2 ⟨vs, H2, I2, r, q2⟩ => ⟨I2.kIn, ?_⟩) hst hpl
  exact run_fnSD (us := .ref a :: us) (vs := .ref a :: vs) h5 hr h3 h4 (passAt tk σ) I2 (.cons rfl r) q2
theorem ef_meth0 {pl : Sem Bool} (f : MtK X.K X.w X.mg X.prog X.base k x m 0 F) (tk : Takes X Z.W) (hr : Room k X.A) (ho : EV X Z o g)
    (ht : eval (.Call (.Attribute o m apos) [] [] pos) X.env = (do
      let ov ← eval o X.env
      standAt apos.atName
      let (f, first) ← holding [ov] (getMethod ov m pl)
      callWith pos f first (backTo pos (starEach [] X.env)) (backToKw pos (keywordEach [] X.env))) := by rfl) :
    EF X Z (.Call (.Attribute o m apos) [] [] pos) (fun env => M.bind (g env) fun d => M.bind (asObj x m d) fun r => F [r]) := by
  obtain ⟨C, f, fd, ps, sp, dvs, ds, h0, h1, h2, h3, h4, h5, h6⟩ := f.ex
  refine ⟨fun pins s σ H Q I h => ?_⟩
  obtain ⟨G, ρ, S, env, wd, fr, run⟩ := h
  refine PySem.W.methodCall_KW (pl := pl) (Q := L2.EP X pins σ Q) ?_ ht
  have hO : tV X.K X.w X.mg Z g σ H fun v H1 => ∃ a dx l n G1 ρ1 S1, v = .ref a ∧ H1 a = some (.ins C dx l) ∧ l.lookup m = none ∧ Ext G ρ H G1 ρ1 H1 ∧ Wd X.K X.w X.mg G1 ρ1 S1 H1 ∧ Rep X.K X.w X.mg G1 ρ1 v (.obj n) ∧
      Run X.K X.w X.mg (F [.obj n]) G1 ρ1 S1 H1 (WxE X.K X.w X.mg Z.W σ) fun sv G' ρ' S' H' => ∀ v, SVR X.K X.w X.mg G' ρ' H' v sv → (sv.own = true → ∀ p, v = .ref p → H p = none) → Q v H' := by
    refine ⟨G, ρ, S, env, wd, fr, ?_⟩
    refine run.bind.imp fun d G1 ρ1 S1 H1 ⟨x1, w1, r1⟩ v rv => ?_
    unfold Run M.bind asObj at r1
    cases d with
    | obj n =>
      cases rv with
      | @obj _ a ea =>
        dsimp only at r1
        cases hc : S1[n]? with
        | none => rw [hc] at r1; exact r1.elim
        | some c =>
          rw [hc] at r1
          cases c with
          | ins c fs =>
            dsimp only at r1
            by_cases hcx : c = x ∧ fs.lookup m = none
            · rw [if_pos hcx] at r1
              obtain ⟨C', dx, l, f1, f2, f3⟩ := w1.cell n _ a hc ea
              obtain ⟨e1, e2⟩ := hcx
              subst e1
              rw [h0] at f1
              cases f1
              refine ⟨a, dx, l, n, G1, ρ1, S1, rfl, f2, (FsR.lookup m f3).1 e2, x1, w1, .obj ea, ?_⟩
              have r1 : Run X.K X.w X.mg (F [.obj n]) G1 ρ1 S1 H1 (WxE X.K X.w X.mg Z.W σ) _ := r1
              exact r1.imp fun sv G2 ρ2 S2 H2 k => k.2
            · rw [if_neg hcx] at r1; exact r1.elim
          | _ => exact r1.elim
    | _ => exact r1.elim
  refine thn (ho.run pins s σ H _ I hO) fun u s1 ⟨v, H1, I1, rx, a, dx, l, n, G1, ρ1, S1, ev, ea, el, x1, w1, rob, r1⟩ => ?_
  subst ev
  obtain rfl : u = Value.ref a := rx
  refine getmeth_ok I1 ea h1 h2 el ?_
  refine PySem.W.callWith_K0 (first := [.ref a]) I1.kIn h2.kp (run_fnSD (us := [.ref a]) (vs := [.ref a]) h5 hr h3 h4 (passAt tk σ) I1 (.cons rfl .nil) ?_)
  refine h6 _ _ _ _ ⟨rfl, G1, ρ1, S1, [.obj n], w1, .cons rob .nil, ?_⟩
  exact r1.imp2 (fun sv G4 ρ4 S4 H4 k v rv f => k v rv fun o p e => x1.dom p (f o p e)) fun e G4 ρ4 S4 H4 k => k
/-! ### C(..) -/
/-- a new object, then its __init__ -/
def mkF (x : Str) (F : List D → M SV) (ds : List D) : M SV := fun S => match F (.obj S.length :: ds) (S ++ [.ins x []]) with
  | some (.ok (.dat .non), S') => some (.ok (.dat (.obj S.length)), S')
  | some (.ok _, _) => none
  | some (.error e, S') => some (.error e, S')
  | none => none
theorem run_makeSD {pins : List (Addr × Obj)} {σ : L2.St} {H : Hp} {s : Shared} {Q : VK} {us : List Value} {vs : List V} {C f : Addr} {fd : FuncData} {ps : List Str} {sp : Sp} {dvs : List V} {ds : List Value} {E : L2.St → XK} (Mm : Mk X.K C f) (F : FnOk X.prog X.w X.K X.mg X.base (L2.CX X.prog X.w) k f fd ps sp) (hr : Room (k + 1) X.A) (hb : Binds X.K fd ps ds) (hd : Vals dvs ds)
    (hx : PassesAt (L2.CX X.prog X.w) X σ (E σ)) (I : Inv X pins σ H s) (r : Vals vs us)
    (h : ∀ x dx, H x = none → H dx = none → dx ≠ x → sp (.ref x :: (vs ++ dvs)) (upd (upd H dx (.own x)) x (.ins C dx [])) (fun v H2 => v = .non ∧ Q (.ref x) H2) (E σ)) :
    wpAny (model X.prog X.w) X.A (call (.ref C) us) (L2.EP X pins σ Q) X.xe s := by
  have hq := h (s.heap.objs.size + 1) s.heap.objs.size (I.hok.fresh (Nat.le_succ _)) (I.hok.fresh (Nat.le_refl _)) (Nat.ne_of_lt (Nat.lt_succ_self _))
  have I2 := Inv.made (C := C) I
  have r2 : Vals (V.ref (s.heap.objs.size + 1) :: (vs ++ dvs)) (Value.ref (s.heap.objs.size + 1) :: (us ++ ds)) := .cons rfl (r.append hd)
  have hl : (Value.ref (s.heap.objs.size + 1) :: us ++ ds).length = ps.length := by
    have e := r2.length
    rw [F.len _ _ _ _ hq] at e
    exact e.symm
  refine wpAny_call (make_map (f := f) I.kIn Mm.makes Mm.init (beq_iff_eq.mp Mm.fn) (codeAny_mono (F.run _ X.stack _ _ ⟨Value.ref (s.heap.objs.size + 1) :: us, []⟩ (Value.ref (s.heap.objs.size + 1) :: (us ++ ds)) _ _ (E σ) (hr.make C us [])
    (I2.env0.make C us []) (hb _ (Value.ref (s.heap.objs.size + 1) :: us) I2.kIn hl) r2 hq) fun r s' hq' => ?_))
  cases r with
  | error e => exact hx pins _ _ e s' I2 hq'
  | ok fl =>
    cases fl with
    | ret u =>
      obtain ⟨v, H', I3, rv, ev, q3⟩ := I2.after hq'
      subst ev
      exact ⟨rv, ⟨V.ref (s.heap.objs.size + 1), H', I3, rfl, q3⟩⟩
    | next => exact False.elim hq'
    | brk => exact False.elim hq'
    | cont => exact False.elim hq'
/-- a new object is laid -/
theorem Wd.made {K : PySem.W.Frag} {w : World} {mg : Str → Option Value} {G : Hp} {ρ : List Addr} {S : Sto} {H : Hp} {a dx C : Addr} (wd : Wd K w mg G ρ S H) (hc : mg x = some (.ref C)) (ha : H a = none) (hd : H dx = none) (ne : dx ≠ a) :
    Wd K w mg G (ρ ++ [a]) (S ++ [.ins x []]) (upd (upd H dx (.own a)) a (.ins C dx [])) ∧ Ext G ρ H G (ρ ++ [a]) (upd (upd H dx (.own a)) a (.ins C dx [])) := by
  obtain ⟨_, _, ga, na⟩ := wd.own (p := a) (o := .lst []) ha
  have gd : G dx = none := (wd.own (p := dx) (o := .lst []) hd).2.2.1
  have up : ∀ b o, H b = some o → (upd (upd H dx (.own a)) a (.ins C dx [])) b = some o := fun b o e => by
    rw [upd_ne (ne_of_none e ha), upd_ne (ne_of_none e hd)]; exact e
  refine ⟨⟨fun b o e => up b o (wd.g b o e), ?_, fun b hb => ?_, by simp [wd.len], fun n c b e1 e2 => ?_⟩, ⟨⟨Same.refl _, fun n b e => ?_⟩, fun b o e _ => up b o e, fun b e => ?_, fun b e1 e2 => e1, fun b hb => ?_⟩⟩
  · rw [List.nodup_append]
    refine ⟨wd.nd, by simp, fun b hb c hc => ?_⟩
    have := List.mem_singleton.mp hc
    subst this
    rintro rfl
    exact na hb
  · rcases List.mem_append.mp hb with h | h
    · exact wd.out b h
    · have := List.mem_singleton.mp h; subst this; exact ga
  · by_cases hn : n < S.length
    · rw [List.getElem?_append_left hn] at e1
      rw [List.getElem?_append_left (by rw [wd.len]; exact hn)] at e2
      have u : Up G ρ G (ρ ++ [a]) := ⟨Same.refl _, fun n b e => by rw [List.getElem?_append_left (List.getElem?_eq_some_iff.mp e).1]; exact e⟩
      exact (wd.cell n c b e1 e2).up u fun o e => up b o e
    · have hn' : n = S.length := by
        have := (List.getElem?_eq_some_iff.mp e1).1
        simp at this; omega
      subst hn'
      simp at e1
      rw [← wd.len] at e2
      simp at e2
      subst e1 e2
      exact ⟨C, dx, [], hc, upd_same, .nil⟩
  · rw [List.getElem?_append_left (List.getElem?_eq_some_iff.mp e).1]; exact e
  · by_cases h1 : b = a
    · subst h1; exact ha
    · by_cases h2 : b = dx
      · subst h2; exact hd
      · rw [upd_ne h1, upd_ne h2] at e; exact e
  · rcases List.mem_append.mp hb with h | h
    · exact .inl h
    · have := List.mem_singleton.mp h; subst this; exact .inr ha
theorem ef_make (f : MkK X.K X.w X.mg X.prog X.base k x (es.length + 1) F) (tk : Takes X Z.W) (hr : Room (k + 1) X.A) (ha : EA X Z (e :: es) gs) (hl : ∀ env S ds S', gs env S = some (.ok ds, S') → ds.length = es.length + 1) (hg : Gl X x := by rfl) (hdb : (x == ("__debug__" : Str)) = false := by decide)
    (he : starEach (e :: es) X.env = (false, eval e X.env) :: starEach es X.env := by rfl) (hpl : (backTo pos (starEach es X.env)).any (·.1) = false := by rfl) : EF X Z (.Call (.Name x p) (e :: es) [] pos) (callF (mkF x F) gs) := by
  obtain ⟨C, f, fd, ps, sp, dvs, ds, h0, h1, h3, h4, h5, h6⟩ := f.ex
  refine ⟨fun pins s σ H Q I h => ?_⟩
  have q : tA X.K X.w X.mg Z gs σ H fun vs H1 => ∀ y dx, H1 y = none → H1 dx = none → dx ≠ y → sp (.ref y :: (vs ++ dvs)) (upd (upd H1 dx (.own y)) y (.ins C dx [])) (fun v H2 => v = .non ∧ Q (.ref y) H2) (WE Z.W σ) := by
    obtain ⟨G, ρ, S, env, wd, fr, run⟩ := h
    refine ⟨G, ρ, S, env, wd, fr, ?_⟩
    have r := run.bind
    unfold Run at r ⊢
    cases e1 : gs env S with
    | none => rw [e1] at r; exact r
    | some z =>
      obtain ⟨z, S'⟩ := z
      rw [e1] at r
      cases z with
      | error e => exact r
      | ok ds =>
        intro G1 ρ1 H1 x1 w1 vs rv y dx ny nd ne
        obtain ⟨_, _, r1⟩ := r G1 ρ1 H1 x1 w1
        obtain ⟨w2, x2⟩ := Wd.made w1 h0 ny nd ne
        have rself : Rep X.K X.w X.mg G1 (ρ1 ++ [y]) (.ref y) (.obj S'.length) := .obj (by rw [← w1.len]; simp)
        refine h6 (.ref y :: vs) _ _ _ ⟨by rw [List.length_cons, rv.length, hl _ _ _ _ e1], G1, ρ1 ++ [y], S' ++ [.ins x []], .obj S'.length :: ds, w2, .cons rself (rv.up x2.up), ?_⟩
        have r1 : Run X.K X.w X.mg (mkF x F ds) G1 ρ1 S' H1 (WxE X.K X.w X.mg Z.W σ) _ := r1
        unfold Run mkF at r1
        unfold Run
        cases e2 : F (.obj S'.length :: ds) (S' ++ [.ins x []]) with
        | none => rw [e2] at r1; exact r1
        | some z =>
          obtain ⟨z, S2⟩ := z
          rw [e2] at r1
          cases z with
          | error e => exact fun G3 ρ3 H3 x3 w3 cls dd xr => r1 G3 ρ3 H3 (x2.trans x3) w3 cls dd xr
          | ok sv =>
            cases sv with
            | dat d =>
              cases d with
              | non =>
                intro G3 ρ3 H3 x3 w3 v rv _
                refine ⟨?_, (r1 G3 ρ3 H3 (x2.trans x3) w3).2 _ (.inl ⟨_, rfl, rself.up x3.up⟩) fun z => nomatch z⟩
                rcases rv with ⟨d, e, r⟩ | ⟨_, _, _, _, o⟩
                · cases e; cases r; rfl
                · exact o.elim
              | _ => exact r1.elim
            | _ => exact r1.elim
  refine wpAny_Call_Name_kw (ld_glob I hg h0 ?_ hdb)
  refine PySem.W.callWith_K (h₀ := X.base) I.ok.mod.kin h1.kp (thn (ha.run pos pins s σ H _ I q) fun us s1 ⟨vs, H1, I1, r, q⟩ => ⟨I1.kIn, ?_⟩) he hpl
  exact run_makeSD h1 h5 hr h3 h4 (passAt tk σ) I1 r q
end
end VX
set_option Elab.async false
set_option linter.all false
set_option maxRecDepth 100000
set_option maxHeartbeats 4000000
/-! a def's body; raise, try; loops, by value -/
namespace VX
open PySem PySem.Spec PyProof.Rows L2

/-- a body's end as a call's -/
def fnB (n : Nat) (g : Env → SM) (ds : List D) : M SV := fun S => match g (ds.map (fun d => some (.dat d)) ++ List.replicate (n - ds.length) none) S with
  | some (.rt sv, S') => some (.ok sv, S')
  | some (.nx _, S') => some (.ok (.dat .non), S')
  | some (.xc e _, S') => some (.error e, S')
  | _ => none
/-- the context's wishes in a def's body -/
abbrev zFn (E : XK) (H : Hp) : Zt := ⟨fun cls d _ H' => E cls d H', fun b => H b ≠ none⟩
section
variable {K : PySem.W.Frag} {w : World} {mg : Str → Option Value} {P : Program} {base : Heap}
theorem ExtS.e {G G1 : Hp} {ρ ρ1 : List Addr} {H H1 : Hp} (x : ExtS (fun b => H b ≠ none) G ρ H G1 ρ1 H1) : Ext G ρ H G1 ρ1 H1 :=
  ⟨x.up, fun b o e hr => x.keep b o (by rw [e]; simp) e hr, x.dom, fun b h1 h2 => x.newG b h2 h1, fun b hb => (x.newR b hb).imp_right fun z => Classical.byContradiction z⟩
theorem start_fr {N : List Str} {G : Hp} {ρ : List Addr} {H : Hp} : ∀ {vs : List V} {ds : List D}, Reps K w mg G ρ vs ds → FrV K w mg (fun b => H b ≠ none) G ρ H (ds.map (fun d => some (SV.dat d)) ++ List.replicate (N.length - ds.length) none) (L2.start N vs) := fun {vs ds} r => by
  have hl := r.length
  have key : ∀ {i : Nat} {sv : SV}, (ds.map (fun d => some (SV.dat d)) ++ List.replicate (N.length - ds.length) none)[i]? = some (some sv) → ∃ d, sv = .dat d ∧ ds[i]? = some d := fun {i sv} e => by
    by_cases hi : i < ds.length
    · rw [List.getElem?_append_left (by simpa using hi), List.getElem?_map] at e
      cases h : ds[i]? with
      | none => rw [h] at e; cases e
      | some d => rw [h] at e; cases e; exact ⟨d, rfl, rfl⟩
    · rw [List.getElem?_append_right (by simpa using hi), List.getElem?_replicate] at e
      split at e <;> cases e
  refine ⟨fun _ h => h, fun i sv p e o => ?_, ?_, fun i sv e => ?_, fun i j si sj p _ e _ o => ?_⟩
  · obtain ⟨d, rfl, _⟩ := key e; cases o
  · unfold L2.start; simp [hl]
  · obtain ⟨d, rfl, hd⟩ := key e
    obtain ⟨v, hv, rv⟩ := r.get hd
    refine ⟨v, ?_, .inl ⟨d, rfl, rv⟩⟩
    have hi : i < vs.length := (List.getElem?_eq_some_iff.mp hv).1
    unfold L2.start
    rw [List.getElem?_append_left (by simpa using hi), List.getElem?_map, hv]; rfl
  · obtain ⟨d, rfl, _⟩ := key e; cases o
/-- THE RULE of a def -/
theorem fn_ok {x qual : Str} {params : Arguments} {body : List Stmt} {scope : Scope} {dvs : List V} {kws : List (Str × V)} {f : Addr} {fd : FuncData} {N ps : List Str} {k : Nat} {g : Env → SM} (F : FunD K x qual params body scope dvs kws f fd) (Sc : FnScope N ps scope)
    (hb : ∀ (cdv : Value) (A : Around) (outer : List PySem.Env) (s : Shared) (H : Hp) (E : XK), Room k (cxOf (L2.CX P w) P w K mg base N qual scope f cdv A outer s H E).A → Takes (cxOf (L2.CX P w) P w K mg base N qual scope f cdv A outer s H E) (zFn E H).W →
      PassesOwn (model P w) (cxOf (L2.CX P w) P w K mg base N qual scope f cdv A outer s H E).A (cxOf (L2.CX P w) P w K mg base N qual scope f cdv A outer s H E).env (cxOf (L2.CX P w) P w K mg base N qual scope f cdv A outer s H E).xe →
      SSs (cxOf (L2.CX P w) P w K mg base N qual scope f cdv A outer s H E) (zFn E H) body g) :
    FnOk P w K mg base (L2.CX P w) (k + 1) f fd ps (spF K w mg (fnB N.length g) ps.length) := by
  refine F.ok Sc (fun vs H Q E h => h.1) fun cdv A outer s H vs Q E hr h => ?_
  refine ⟨_, hb cdv A outer s H E hr (takes_of rfl rfl rfl rfl) (passes_of rfl), ?_⟩
  obtain ⟨hl, G, ρ, S, ds, wd, r, run⟩ := h
  refine ⟨G, ρ, S, _, wd, start_fr (N := N) r, ?_⟩
  have hds : ds.length = ps.length := by rw [← r.length]; exact hl
  unfold Run fnB at run
  unfold RunS
  cases e : g (ds.map (fun d => some (SV.dat d)) ++ List.replicate (N.length - ds.length) none) S with
  | none => rw [e] at run; exact run
  | some z =>
    obtain ⟨fl, S'⟩ := z
    rw [e] at run
    intro G1 ρ1 H1 x1 w1
    cases fl with
    | rt sv => exact fun v rv f => run G1 ρ1 H1 x1.e w1 v rv fun o p e => Classical.byContradiction fun z => f o p e z
    | nx env' => exact fun σ _ => run G1 ρ1 H1 x1.e w1 _ (.inl ⟨_, rfl, .non⟩) fun z => nomatch z
    | bk env' => exact run.elim
    | ct env' => exact run.elim
    | xc x env' => exact fun σ cls dd _ xr => run G1 ρ1 H1 x1.e w1 cls dd xr
/-- .. as what is called, no default filled up -/
theorem FnK.of {x qual : Str} {params : Arguments} {body : List Stmt} {scope : Scope} {f : Addr} {fd : FuncData} {ps : List Str} {k : Nat} {F : List D → M SV} (FD : FunD K x qual params body scope [] [] f fd) (hm : mg x = some (.ref f))
    (hbind : ∀ (kV doc pm : Value) (an : Option Addr) (cdv ct : Value) (us : List Value), us.length = ps.length → bindArgs (PySem.W.fnOf x qual params body scope .none kV doc pm an cdv ct) ⟨us, []⟩ = pure (ps.zip us))
    (h : FnOk P w K mg base (L2.CX P w) k f fd ps (spF K w mg F ps.length)) : FnK K w mg P base k x ps.length F :=
  ⟨f, fd, ps, _, [], [], hm, FD.kp, FD.bindsN hbind, .nil, h, fun vs H Q E q => by rw [List.append_nil]; exact q⟩
theorem MtK.of {c m qual : Str} {params : Arguments} {body : List Stmt} {scope : Scope} {C f : Addr} {fd : FuncData} {ps : List Str} {k n : Nat} {F : List D → M SV} (FD : FunD K m qual params body scope [] [] f fd) (hm : mg c = some (.ref C)) (hc : Cls K C) (hmt : Meth K C m f)
    (hbind : ∀ (kV doc pm : Value) (an : Option Addr) (cdv ct : Value) (us : List Value), us.length = ps.length → bindArgs (PySem.W.fnOf m qual params body scope .none kV doc pm an cdv ct) ⟨us, []⟩ = pure (ps.zip us))
    (h : FnOk P w K mg base (L2.CX P w) k f fd ps (spF K w mg F ps.length)) (hn : ps.length = n + 1) : MtK K w mg P base k c m n F :=
  ⟨C, f, fd, ps, _, [], [], hm, hc, hmt, FD.bindsN hbind, .nil, h, fun vs H Q E q => by rw [List.append_nil, hn]; exact q⟩
theorem MkK.of {c m qual : Str} {params : Arguments} {body : List Stmt} {scope : Scope} {C f : Addr} {fd : FuncData} {ps : List Str} {k n : Nat} {F : List D → M SV} (FD : FunD K m qual params body scope [] [] f fd) (hm : mg c = some (.ref C)) (hmk : Mk K C f)
    (hbind : ∀ (kV doc pm : Value) (an : Option Addr) (cdv ct : Value) (us : List Value), us.length = ps.length → bindArgs (PySem.W.fnOf m qual params body scope .none kV doc pm an cdv ct) ⟨us, []⟩ = pure (ps.zip us))
    (h : FnOk P w K mg base (L2.CX P w) k f fd ps (spF K w mg F ps.length)) (hn : ps.length = n + 1) : MkK K w mg P base k c n F :=
  ⟨C, f, fd, ps, _, [], [], hm, hmk, FD.bindsN hbind, .nil, h, fun vs H Q E q => by rw [List.append_nil, hn]; exact q⟩
end

/-! ### raise X('..') -/
/-- an own exception class without __init__ of its own -/
structure XcK (K : PySem.W.Frag) (mg : Str → Option Value) (x : Str) : Prop where
  ex : ∃ C, mg x = some (.ref C) ∧ PySem.W.excIn K C He.veBase "ValueError.__new__" = true ∧ PySem.W.keepIn K (.ref C) = true ∧ PySem.W.subIn K (.ref C) (.type "BaseException") = some true ∧ PySem.W.typeIn K (.ref C) = some (.type "type")
abbrev sRaise (x : Str) : Env → SM := fun env S => some (.xc ⟨x, []⟩ env, S)
section
variable {X : Cx} {Z : Zt} {e o : Expr} {es : List Expr} {gs : Env → M (List D)} {g : Env → M D} {p p2 pos apos : Pos} {k : Nat} {x m : Str} {F : List D → M SV}
theorem ss_raise {j : Nat} (xk : XcK X.K X.mg x) (tk : Takes X Z.W) (hc : X.calm = true := by rfl) (hg : Gl X x := by rfl) (hdb : (x == ("__debug__" : Str)) = false := by decide) : SS X Z (.Raise (some (.Call (.Name x p) [.Constant (.str m) j p2] [] apos)) none pos) (sRaise x) := by
  obtain ⟨C, h1, h2, h3, h4, h5⟩ := xk.ex
  refine PS.mono (ps_raise hc tk (pmk_own PySem.F.excBase_ValueError h2 h1 h3 (raises_own h4 h5) hg hdb)) fun D σ H q => ?_
  obtain ⟨G, ρ, S, env, wd, fr, run⟩ := q
  exact (show FlR X.K X.w X.mg Z D G ρ S H (.xc ⟨x, []⟩ env) from run _ _ _ (ExtS.refl _ _ _ _) wd) σ _ _ fr ⟨h1, .inl ⟨rfl, rfl⟩⟩
end
end VX
set_option Elab.async false
set_option linter.all false
set_option maxRecDepth 100000
set_option maxHeartbeats 4000000
/-! loops by value -/
namespace VX
open PySem PySem.Spec PyProof.Rows L2

/-! ### targets -/
abbrev TgF := D → Env → Option Env
section
variable (K : PySem.W.Frag) (w : World) (mg : Str → Option Value)
abbrev YR := Hp → List Addr → Hp → V → D → Prop
/-- what comes is data that stays -/
def yR : YR := fun G ρ _ v d => Rep K w mg G ρ v d
/-- .. or a new pair, to be taken apart at once -/
def yP : YR := fun G ρ H v d => Rep K w mg G ρ v d ∨ ∃ a us ds, v = .ref a ∧ SqT K H a us ∧ d = .tup ds ∧ Reps K w mg G ρ us ds
def gT (Y : YR) (B : Addr → Prop) (vs : List Nat) (tf : TgF) : TG := fun v σ H Q => ∃ G ρ S env d env', Wd K w mg G ρ S H ∧ FrV K w mg B G ρ H env σ ∧ Y G ρ H v d ∧ tf d env = some env' ∧
  ∀ σ', FrV K w mg B G ρ H env' σ' → σ'.length = σ.length → (∀ j, j ∉ vs → σ'[j]? = σ[j]?) → Q σ' H
def gTs (B : Addr → Prop) (vs : List Nat) (tf : List D → Env → Option Env) : TGs := fun us σ H Q => ∃ G ρ S env ds env', Wd K w mg G ρ S H ∧ FrV K w mg B G ρ H env σ ∧ Reps K w mg G ρ us ds ∧ tf ds env = some env' ∧
  ∀ σ', FrV K w mg B G ρ H env' σ' → σ'.length = σ.length → (∀ j, j ∉ vs → σ'[j]? = σ[j]?) → Q σ' H
end
abbrev GT (X : Cx) (Z : Zt) (Y : YR) (tg : Expr) (vs : List Nat) (tf : TgF) : Prop := PG X tg (gT X.K X.w X.mg Y Z.B vs tf)
abbrev GR (X : Cx) (Z : Zt) (tg : Expr) (vs : List Nat) (tf : TgF) : Prop := GT X Z (yR X.K X.w X.mg) tg vs tf
abbrev GP (X : Cx) (Z : Zt) (tg : Expr) (vs : List Nat) (tf : TgF) : Prop := GT X Z (yP X.K X.w X.mg) tg vs tf
abbrev GRs (X : Cx) (Z : Zt) (ts : List Expr) (vs : List Nat) (tf : List D → Env → Option Env) : Prop := PGs X ts (gTs X.K X.w X.mg Z.B vs tf)
def gnam (i : Nat) : TgF := fun d env => some (env.set i (some (.dat d)))
def gtup (f : List D → Env → Option Env) : TgF := fun d env => match d with
  | .tup ds => f ds env
  | _ => none
def gnil : List D → Env → Option Env := fun ds env => match ds with
  | [] => some env
  | _ => none
def gcons (f : TgF) (g : List D → Env → Option Env) : List D → Env → Option Env := fun ds env => match ds with
  | [] => none
  | d :: ds => match f d env with
    | some env' => g ds env'
    | none => none
theorem PG.mono {X : Cx} {e : Expr} {t t' : TG} (h : PG X e t') (i : ∀ v σ H Q, t v σ H Q → t' v σ H Q) : PG X e t := ⟨fun pins s σ H v u Q I r q => h.run pins s σ H v u Q I r (i _ _ _ _ q)⟩
theorem PGs.mono {X : Cx} {e : List Expr} {t t' : TGs} (h : PGs X e t') (i : ∀ v σ H Q, t v σ H Q → t' v σ H Q) : PGs X e t := ⟨fun pins s σ H v u Q I r q => h.run pins s σ H v u Q I r (i _ _ _ _ q)⟩
section
variable {X : Cx} {Z : Zt} {tg e : Expr} {es : List Expr} {vs us : List Nat} {tf : TgF} {ts : List D → Env → Option Env} {pos : Pos}
theorem gr_nam {x : Str} (i : Nat) (hN : X.N.Nodup) (hi : X.N[i]? = some x := by rfl) (hx : Loc X.env.scope x := by first | exact Or.inl rfl | exact Or.inr rfl)
    (hf : X.fn x = true ∨ X.env.scope.names.lookup x = some .local := by first | exact .inl rfl | exact .inr rfl) : GR X Z (.Name x pos) [i] (gnam i) := PG.mono (pg_name hN hi hx hf) fun v σ H Q q => by
  obtain ⟨G, ρ, S, env, d, env', wd, fr, y, e, k⟩ := q
  cases e
  exact k _ (fr.setD y) (List.length_set) fun j hj => by rw [List.getElem?_set_ne (fun z => hj (by simp [z]))]
theorem grs_nil : GRs X Z [] [] gnil := PGs.mono pgs_nil fun v σ H Q q => by
  obtain ⟨G, ρ, S, env, ds, env', wd, fr, y, e, k⟩ := q
  cases y with
  | nil => cases e; exact ⟨rfl, k _ fr rfl fun _ _ => rfl⟩
  | cons _ _ => cases e
theorem grs_cons (h1 : GR X Z e vs tf) (h2 : GRs X Z es us ts) (hs : (assignEach (e :: es) X.env).map (·.2) = assign e X.env :: (assignEach es X.env).map (·.2) := by rfl) : GRs X Z (e :: es) (vs ++ us) (gcons tf ts) := PGs.mono (pgs_cons h1 h2 hs) fun v σ H Q q => by
  obtain ⟨G, ρ, S, env, ds, env', wd, fr, y, e, k⟩ := q
  cases y with
  | nil => cases e
  | @cons v vr d dr r rr =>
    unfold gcons at e
    dsimp only at e
    split at e
    · rename_i env1 e1
      exact ⟨v, vr, rfl, G, ρ, S, env, d, env1, wd, fr, r, e1, fun σ1 f1 l1 a1 => ⟨G, ρ, S, env1, dr, env', wd, f1, rr, e, fun σ2 f2 l2 a2 => k σ2 f2 (l2.trans l1) fun j hj => by
        rw [List.mem_append, not_or] at hj
        rw [a2 j hj.2, a1 j hj.1]⟩⟩
    · cases e
/-- (a, b, ..) -/
theorem gp_tup {k n : Nat} (hc : X.calm = true) (h : GRs X Z es vs ts) (hl : ∀ ds env env', ts ds env = some env' → ds.length = n) (hn : (assignEach es X.env).length = n := by rfl) (hst : (assignEach es X.env).findIdx? (·.1) = none := by rfl) : GP X Z (.Tuple es k pos) vs (gtup ts) := PG.mono (pg_tup hc h hn hst) fun v σ H Q q => by
  obtain ⟨G, ρ, S, env, d, env', wd, fr, y, e, kk⟩ := q
  have main : ∀ {a us ds}, v = .ref a → SqT X.K H a us → d = .tup ds → Reps X.K X.w X.mg G ρ us ds → gTup X.K n (gTs X.K X.w X.mg Z.B vs ts) v σ H Q := fun {a us ds} ev hq ed r => by
    subst ed
    exact ⟨a, us, ev, hq, by rw [r.length]; exact hl _ _ _ e, G, ρ, S, env, ds, env', wd, fr, r, e, kk⟩
  rcases y with y | ⟨a, us, ds, ev, hq, ed, r⟩
  · cases d with
    | tup ds =>
      cases y with
      | tup h r => exact main rfl (h.sqT wd.g) rfl r
    | _ => cases e
  · exact main ev hq ed r
theorem GP.r (h : GP X Z tg vs tf) : GR X Z tg vs tf := PG.mono h fun v σ H Q q => by
  obtain ⟨G, ρ, S, env, d, env', wd, fr, y, e, k⟩ := q
  exact ⟨G, ρ, S, env, d, env', wd, fr, .inl y, e, k⟩
theorem gnil_len : ∀ ds env env', gnil ds env = some env' → ds.length = 0 := fun ds env env' h => by
  cases ds with
  | nil => rfl
  | cons _ _ => cases h
theorem gcons_len {n : Nat} (h : ∀ ds env env', ts ds env = some env' → ds.length = n) : ∀ ds env env', gcons tf ts ds env = some env' → ds.length = n + 1 := fun ds env env' e => by
  cases ds with
  | nil => cases e
  | cons d ds =>
    unfold gcons at e
    dsimp only at e
    split at e
    · rw [List.length_cons, h _ _ _ e]
    · cases e
end

/-! ### what is walked -/
structure ItD (K : PySem.W.Frag) (w : World) (mg : Str → Option Value) (Y : YR) (J : It) (C : Hp → List Addr → Prop) (ds : List D) : Prop where
  up : ∀ G ρ G' ρ', Up G ρ G' ρ' → C G ρ → C G' ρ'
  stop : ∀ G ρ S H, Wd K w mg G ρ S H → C G ρ → J.stop ds.length H
  go : ∀ G ρ S H (i : Nat), Wd K w mg G ρ S H → C G ρ → i < ds.length → J.go i H
  yld : ∀ G ρ S H (i : Nat) x H' d, Wd K w mg G ρ S H → C G ρ → J.yld i H x H' → ds[i]? = some d → Wd K w mg G ρ S H' ∧ Ext G ρ H G ρ H' ∧ Y G ρ H' x d
section
variable (K : PySem.W.Frag) (w : World) (mg : Str → Option Value) (Z : Zt)
def tI (Y : YR) (g : Env → M (List D)) : TI := fun σ H R => ∃ G ρ S env, Wd K w mg G ρ S H ∧ FrV K w mg Z.B G ρ H env σ ∧
  Run K w mg (g env) G ρ S H (WxE K w mg Z.W σ) fun ds G' ρ' S' H' => ∀ J C, ItD K w mg Y J C ds → C G' ρ' → R J H'
end
abbrev EI (X : Cx) (Z : Zt) (Y : YR) (tg iter : Expr) (g : Env → M (List D)) : Prop := PI X tg iter (tI X.K X.w X.mg Z Y g)
theorem PI.mono {X : Cx} {tg e : Expr} {t t' : TI} (h : PI X tg e t') (i : ∀ σ H R, t σ H R → t' σ H R) : PI X tg e t := ⟨fun pins s σ H R I q => h.run pins s σ H R I (i _ _ _ q)⟩
/-- what data gives in turn -/
def D.items : D → Option (List D)
  | .lst xs => some xs
  | .tup xs => some xs
  | .scr ns => some (ns.map .int)
  | .str s => some (s.map fun c => .str [c])
  | _ => none
abbrev itm (g : Env → M D) : Env → M (List D) := fun env => M.bind (g env) fun d => M.opt d.items
section
variable {X : Cx} {tg e : Expr} {te : TE}
/-- any of the three -/
def iAny (K : PySem.W.Frag) (te : TE) : TI := fun σ H R => te σ H fun v H1 => (∃ a xs, v = .ref a ∧ SqL K H1 a xs ∧ R (Itl K a) H1) ∨ (∃ a xs, v = .ref a ∧ SqT K H1 a xs ∧ R (Itt K a) H1) ∨ ∃ x, v = .str x ∧ R (Its x) H1
theorem pi_any (he : PE X e te) : PI X tg e (iAny X.K te) := by
  refine ⟨fun pins s σ H R I h => ?_⟩
  refine thn (he.run pins s σ H _ I h) fun v s1 ⟨y, H1, I1, r1, q1⟩ => ?_
  have key : ∀ {t : TE}, t = (fun σ' H' Q' => H' = H1 ∧ Q' y H1) → PE X e t → True := fun _ _ => trivial
  rcases q1 with ⟨a, xs, ey, hq, q⟩ | ⟨a, xs, ey, hq, q⟩ | ⟨x, ey, q⟩
  · subst ey
    cases r1
    obtain ⟨its, rv, p, hz⟩ := I1.list hq
    refine wpAny_pyIter_list p.isList ?_
    refine ⟨s1.heap.objs.size, [s1.heap.objs.size], _, _, H1, rfl, I1.kept (t' := s1.toks) fun b o e => Heap.get?_push_of_some _ e, turn_list a _, ⟨_, Heap.get?_push_size _ rfl, rfl, rfl⟩, fun b hb => ?_, q⟩
    have e : b = s1.heap.objs.size := by simpa using hb
    subst e
    exact I1.fpOk (Nat.le_refl _) (I1.hok.fresh (Nat.le_refl _))
  · subst ey
    cases r1
    obtain ⟨its, rv, p, hz⟩ := I1.tuple hq
    refine wpAny_pyIter_tuple (show s1.heap.IsTuple a its.toArray from p) ?_
    refine ⟨s1.heap.objs.size, [s1.heap.objs.size], _, _, H1, rfl, I1.kept (t' := s1.toks) fun b o e => Heap.get?_push_of_some _ e, turn_tuple a _, ⟨_, Heap.get?_push_size _ rfl, rfl, rfl⟩, fun b hb => ?_, q⟩
    have e : b = s1.heap.objs.size := by simpa using hb
    subst e
    exact I1.fpOk (Nat.le_refl _) (I1.hok.fresh (Nat.le_refl _))
  · subst ey
    obtain ⟨t, rfl⟩ := r1
    cases ha : x.cps.all (· < 128)
    · exact wpAny_pyIter_wide ha (pi_one (tk := s1.toks) I1 _ (turn_str _ x t "str_iterator" (.inr rfl)) ⟨_, Heap.get?_push_size _ rfl, rfl, rfl⟩ q)
    · exact wpAny_pyIter_ascii ha (pi_one (tk := s1.toks) I1 _ (turn_str _ x t "str_ascii_iterator" (.inl rfl)) ⟨_, Heap.get?_push_size _ rfl, rfl, rfl⟩ q)
end
section
variable {K : PySem.W.Frag} {w : World} {mg : Str → Option Value}
theorem it_seqL {a : Addr} {C : Hp → List Addr → Prop} {ds : List D} (up : ∀ G ρ G' ρ', Up G ρ G' ρ' → C G ρ → C G' ρ') (k : ∀ G ρ, C G ρ → ∃ vs, SqL K G a vs ∧ Reps K w mg G ρ vs ds) : ItD K w mg (yR K w mg) (Itl K a) C ds where
  up := up
  stop := fun G ρ S H wd c => by
    obtain ⟨vs, h, r⟩ := k G ρ c
    exact ⟨vs, wd.g.seq h, by rw [r.length]; exact Nat.le_refl _⟩
  go := fun G ρ S H i wd c hi => by
    obtain ⟨vs, h, r⟩ := k G ρ c
    have hv : i < vs.length := by rw [r.length]; exact hi
    exact ⟨vs, vs[i], wd.g.seq h, by simp [hv]⟩
  yld := fun G ρ S H i x H' d wd c y hd => by
    obtain ⟨vs, h, r⟩ := k G ρ c
    obtain ⟨rfl, y⟩ := y
    obtain ⟨v, hv, rv⟩ := r.get hd
    have := y vs (wd.g.seq h)
    rw [hv] at this
    cases this
    exact ⟨wd, Ext.refl _ _ _, rv⟩
theorem it_seqT {a : Addr} {C : Hp → List Addr → Prop} {ds : List D} (up : ∀ G ρ G' ρ', Up G ρ G' ρ' → C G ρ → C G' ρ') (k : ∀ G ρ, C G ρ → ∃ vs, TupAt K G a vs ∧ Reps K w mg G ρ vs ds) : ItD K w mg (yR K w mg) (Itt K a) C ds where
  up := up
  stop := fun G ρ S H wd c => by
    obtain ⟨vs, h, r⟩ := k G ρ c
    exact ⟨vs, h.sqT wd.g, by rw [r.length]; exact Nat.le_refl _⟩
  go := fun G ρ S H i wd c hi => by
    obtain ⟨vs, h, r⟩ := k G ρ c
    have hv : i < vs.length := by rw [r.length]; exact hi
    exact ⟨vs, vs[i], h.sqT wd.g, by simp [hv]⟩
  yld := fun G ρ S H i x H' d wd c y hd => by
    obtain ⟨vs, h, r⟩ := k G ρ c
    obtain ⟨rfl, y⟩ := y
    obtain ⟨v, hv, rv⟩ := r.get hd
    have := y vs (h.sqT wd.g)
    rw [hv] at this
    cases this
    exact ⟨wd, Ext.refl _ _ _, rv⟩
theorem it_str {s : List Nat} : ItD K w mg (yR K w mg) (Its (st s)) (fun _ _ => True) (s.map fun c => .str [c]) where
  up := fun _ _ _ _ _ _ => trivial
  stop := fun G ρ S H wd c => by show (st s).cps.size ≤ _; simp [st]
  go := fun G ρ S H i wd c hi => by show i < (st s).cps.size; simpa [st] using hi
  yld := fun G ρ S H i x H' d wd c y hd => by
    obtain ⟨rfl, c, hc, rfl⟩ := y
    rw [List.getElem?_map] at hd
    have hc' : s[i]? = some c := by simpa [st] using hc
    rw [hc'] at hd
    cases hd
    exact ⟨wd, Ext.refl _ _ _, .str [c]⟩
theorem it_range (lo : Int) (n : Nat) : ItD K w mg (yR K w mg) (Itr lo n) (fun _ _ => True) ((List.range n).map fun i => .int (lo + (i : Nat))) where
  up := fun _ _ _ _ _ _ => trivial
  stop := fun G ρ S H wd c => by show n ≤ _; simp
  go := fun G ρ S H i wd c hi => by show i < n; simpa using hi
  yld := fun G ρ S H i x H' d wd c y hd => by
    obtain ⟨rfl, rfl⟩ := y
    have hi : i < n := by
      have : i < ((List.range n).map fun i => D.int (lo + (i : Nat))).length := (List.getElem?_eq_some_iff.mp hd).1
      simpa using this
    rw [List.getElem?_map, List.getElem?_range hi] at hd
    cases hd
    exact ⟨wd, Ext.refl _ _ _, .int _⟩
end
section
variable {X : Cx} {Z : Zt} {tg e : Expr} {g g2 : Env → M D} {p pos : Pos}
theorem ei_any (he : EV X Z e g) : EI X Z (yR X.K X.w X.mg) tg e (itm g) := PI.mono (pi_any he) fun σ H R q => by
  obtain ⟨G, ρ, S, env, wd, fr, run⟩ := q
  refine ⟨G, ρ, S, env, wd, fr, run.bind.imp fun d G1 ρ1 S1 H1 ⟨x1, w1, r1⟩ v rv => ?_⟩
  obtain ⟨ds, ed, k⟩ := r1.opt
  have k := (k _ _ _ (Ext.refl _ _ _) w1).2
  cases rv with
  | tup h r =>
    cases ed
    exact .inr (.inl ⟨_, _, rfl, h.sqT w1.g, k _ _ (it_seqT (C := fun G ρ => ∃ vs, TupAt X.K G _ vs ∧ Reps X.K X.w X.mg G ρ vs _) (fun G ρ G' ρ' u ⟨vs, h, r⟩ => ⟨vs, TupAt.up u.g h, r.up u⟩) fun _ _ h => h) ⟨_, h, r⟩⟩)
  | lst h r =>
    cases ed
    exact .inl ⟨_, _, rfl, w1.g.seq (.of h), k _ _ (it_seqL (C := fun G ρ => ∃ vs, SqL X.K G _ vs ∧ Reps X.K X.w X.mg G ρ vs _) (fun G ρ G' ρ' u ⟨vs, h, r⟩ => ⟨vs, u.g.seq h, r.up u⟩) fun _ _ h => h) ⟨_, .of h, r⟩⟩
  | @scr a ns h =>
    cases ed
    exact .inl ⟨_, _, rfl, w1.g.seq h, k _ _ (it_seqL (C := fun G ρ => SqL X.K G a (ns.map V.int)) (fun G ρ G' ρ' u h => u.g.seq h) fun G ρ h => ⟨_, h, Reps.ints ns⟩) h⟩
  | str s =>
    cases ed
    exact .inr (.inr ⟨_, rfl, k _ _ it_str trivial⟩)
  | _ => cases ed
def rngI (d : D) : Option (List D) := match d with
  | .int j => if -(2 ^ 62) ≤ j ∧ j < 2 ^ 62 then some ((List.range j.toNat).map fun i => .int (i : Nat)) else none
  | _ => none
theorem ei_range (hm : X.mg "range" = none) (he : EV X Z e g) (hg : Gl X "range" := by rfl) (hs : starEach [e] X.env = [(false, eval e X.env)] := by rfl) : EI X Z (yR X.K X.w X.mg) tg (.Call (.Name "range" p) [e] [] pos) (fun env => M.bind (g env) fun d => M.opt (rngI d)) :=
  PI.mono (pi_range1 hg hm (pa_cons he pa_nil hs) hs) fun σ H R q => by
    obtain ⟨G, ρ, S, env, wd, fr, run⟩ := q
    refine ⟨G, ρ, S, env, wd, fr, run.bind.imp fun d G1 ρ1 S1 H1 ⟨x1, w1, r1⟩ v rv => ?_⟩
    obtain ⟨ds, ed, k⟩ := r1.opt
    have k := (k _ _ _ (Ext.refl _ _ _) w1).2
    cases rv with
    | int j =>
      unfold rngI at ed
      dsimp only at ed
      split at ed
      · rename_i hj
        cases ed
        refine ⟨j, rfl, hj.1, hj.2, ?_⟩
        have := it_range (K := X.K) (w := X.w) (mg := X.mg) 0 j.toNat
        simp only [Int.zero_add] at this
        exact k _ _ this trivial
      · cases ed
    | _ => cases ed
/-- numbered -/
def numI (ds : List D) : List D := (List.range ds.length).zipWith (fun i d => .tup [.int (i : Nat), d]) ds
def enuI (d : D) : Option (List D) := match d with
  | .lst ds => some (numI ds)
  | _ => none
theorem yP_new {K : PySem.W.Frag} {w : World} {mg : Str → Option Value} {G : Hp} {ρ : List Addr} {H : Hp} {S : Sto} {T : Addr} {us : List V} {ds : List D} (wd : Wd K w mg G ρ S H) (hT : H T = none) (r : Reps K w mg G ρ us ds) :
    Wd K w mg G ρ S (upd H T (.tup us)) ∧ Ext G ρ H G ρ (upd H T (.tup us)) ∧ yP K w mg G ρ (upd H T (.tup us)) (.ref T) (.tup ds) := by
  obtain ⟨w1, x1, _, _⟩ := wd.own (o := .tup us) hT
  exact ⟨w1, x1, .inr ⟨T, us, ds, rfl, .inl (.inl upd_same), rfl, r⟩⟩
theorem it_enum {K : PySem.W.Frag} {w : World} {mg : Str → Option Value} {a : Addr} {ds : List D} : ItD K w mg (yP K w mg) (Ite K a) (fun G ρ => ∃ vs, SqL K G a vs ∧ Reps K w mg G ρ vs ds) (numI ds) where
  up := fun G ρ G' ρ' u ⟨vs, h, r⟩ => ⟨vs, u.g.seq h, r.up u⟩
  stop := fun G ρ S H wd ⟨vs, h, r⟩ => ⟨vs, wd.g.seq h, by rw [r.length]; simp [numI]⟩
  go := fun G ρ S H i wd ⟨vs, h, r⟩ hi => by
    have hv : i < vs.length := by rw [r.length]; simpa [numI] using hi
    exact ⟨vs, vs[i], wd.g.seq h, by simp [hv]⟩
  yld := fun G ρ S H i x H' d wd ⟨vs, h, r⟩ y hd => by
    obtain ⟨T, u, rfl, hT, rfl, y⟩ := y
    have hu := y vs (wd.g.seq h)
    obtain ⟨d', hd', rd⟩ := r.getV hu
    have hi : i < ds.length := (List.getElem?_eq_some_iff.mp hd').1
    have : d = .tup [.int (i : Nat), d'] := by
      unfold numI at hd
      rw [List.getElem?_zipWith, List.getElem?_range hi, hd'] at hd
      exact (Option.some.inj hd).symm
    subst this
    exact yP_new wd hT (.cons (.int _) (.cons rd .nil))
theorem ei_enum {elts : List Expr} {kk : Nat} {tpos : Pos} (hm : X.mg "enumerate" = none) (he : EV X Z e g) (hg : Gl X "enumerate" := by rfl) (hs : starEach [e] X.env = [(false, eval e X.env)] := by rfl) : EI X Z (yP X.K X.w X.mg) (.Tuple elts kk tpos) (.Call (.Name "enumerate" p) [e] [] pos) (fun env => M.bind (g env) fun d => M.opt (enuI d)) :=
  PI.mono (pi_enum hg hm (pa_cons he pa_nil hs) hs) fun σ H R q => by
    obtain ⟨G, ρ, S, env, wd, fr, run⟩ := q
    refine ⟨G, ρ, S, env, wd, fr, run.bind.imp fun d G1 ρ1 S1 H1 ⟨x1, w1, r1⟩ v rv => ?_⟩
    obtain ⟨ds, ed, k⟩ := r1.opt
    have k := (k _ _ _ (Ext.refl _ _ _) w1).2
    cases rv with
    | lst h r =>
      cases ed
      exact ⟨_, _, rfl, w1.g.seq (.of h), k _ _ it_enum ⟨_, .of h, r⟩⟩
    | _ => cases ed
def zipI (d e : D) : Option (List D) := match d, e with
  | .lst ds, .lst es => some (ds.zipWith (fun a b => .tup [a, b]) es)
  | .tup ds, .tup es => some (ds.zipWith (fun a b => .tup [a, b]) es)
  | _, _ => none
theorem it_zip {K : PySem.W.Frag} {w : World} {mg : Str → Option Value} {a b : Addr} {ds es : List D} : ItD K w mg (yP K w mg) (Itz K a b) (fun G ρ => ∃ vs us, SqL K G a vs ∧ SqL K G b us ∧ Reps K w mg G ρ vs ds ∧ Reps K w mg G ρ us es) (ds.zipWith (fun a b => .tup [a, b]) es) where
  up := fun G ρ G' ρ' u ⟨vs, us, h, h2, r, r2⟩ => ⟨vs, us, u.g.seq h, u.g.seq h2, r.up u, r2.up u⟩
  stop := fun G ρ S H wd ⟨vs, us, h, h2, r, r2⟩ => ⟨vs, us, wd.g.seq h, wd.g.seq h2, by rw [r.length, r2.length, List.length_zipWith]; omega⟩
  go := fun G ρ S H i wd ⟨vs, us, h, h2, r, r2⟩ hi => by
    rw [List.length_zipWith] at hi
    have hv : i < vs.length := by rw [r.length]; omega
    have hu : i < us.length := by rw [r2.length]; omega
    exact ⟨vs, us, vs[i], us[i], wd.g.seq h, wd.g.seq h2, by simp [hv], by simp [hu]⟩
  yld := fun G ρ S H i x H' d wd ⟨vs, us, h, h2, r, r2⟩ y hd => by
    obtain ⟨T, u, v, rfl, hT, rfl, y, y2⟩ := y
    obtain ⟨d', hd', rd⟩ := r.getV (y vs (wd.g.seq h))
    obtain ⟨e', he', re⟩ := r2.getV (y2 us (wd.g.seq h2))
    rw [List.getElem?_zipWith, hd', he'] at hd
    cases hd
    exact yP_new wd hT (.cons rd (.cons re .nil))
theorem it_zipT {K : PySem.W.Frag} {w : World} {mg : Str → Option Value} {a b : Addr} {ds es : List D} : ItD K w mg (yP K w mg) (RZ.ItzT K a b) (fun G ρ => ∃ vs us, TupAt K G a vs ∧ TupAt K G b us ∧ Reps K w mg G ρ vs ds ∧ Reps K w mg G ρ us es) (ds.zipWith (fun a b => .tup [a, b]) es) where
  up := fun G ρ G' ρ' u ⟨vs, us, h, h2, r, r2⟩ => ⟨vs, us, TupAt.up u.g h, TupAt.up u.g h2, r.up u, r2.up u⟩
  stop := fun G ρ S H wd ⟨vs, us, h, h2, r, r2⟩ => ⟨vs, us, h.sqT wd.g, h2.sqT wd.g, by rw [r.length, r2.length, List.length_zipWith]; omega⟩
  go := fun G ρ S H i wd ⟨vs, us, h, h2, r, r2⟩ hi => by
    rw [List.length_zipWith] at hi
    have hv : i < vs.length := by rw [r.length]; omega
    have hu : i < us.length := by rw [r2.length]; omega
    exact ⟨vs, us, vs[i], us[i], h.sqT wd.g, h2.sqT wd.g, by simp [hv], by simp [hu]⟩
  yld := fun G ρ S H i x H' d wd ⟨vs, us, h, h2, r, r2⟩ y hd => by
    obtain ⟨T, u, v, rfl, hT, rfl, y, y2⟩ := y
    obtain ⟨d', hd', rd⟩ := r.getV (y vs (h.sqT wd.g))
    obtain ⟨e', he', re⟩ := r2.getV (y2 us (h2.sqT wd.g))
    rw [List.getElem?_zipWith, hd', he'] at hd
    cases hd
    exact yP_new wd hT (.cons rd (.cons re .nil))
theorem ei_zip {e2 : Expr} {elts : List Expr} {kk : Nat} {tpos : Pos} (hm : X.mg "zip" = none) (he : EV X Z e g) (he2 : EV X Z e2 g2) (hg : Gl X "zip" := by rfl) (hs : starEach [e, e2] X.env = (false, eval e X.env) :: starEach [e2] X.env := by rfl) (hs2 : starEach [e2] X.env = (false, eval e2 X.env) :: starEach [] X.env := by rfl) (hpl : (backTo pos (starEach [e2] X.env)).any (·.1) = false := by rfl) :
    EI X Z (yP X.K X.w X.mg) (.Tuple elts kk tpos) (.Call (.Name "zip" p) [e, e2] [] pos) (fun env => M.bind (g env) fun d => M.bind (g2 env) fun d2 => M.opt (zipI d d2)) :=
  PI.mono (RZ.pi_zipA hg hm (pa_cons he (pa_cons he2 pa_nil hs2) hs) hs hpl) fun σ H R q => by
    obtain ⟨G, ρ, S, env, wd, fr, run⟩ := q
    refine ⟨G, ρ, S, env, wd, fr, run.bind.imp fun d G1 ρ1 S1 H1 ⟨x1, w1, r1⟩ v rv => ?_⟩
    refine ⟨G1, ρ1, S1, env, w1, fr.ext x1, r1.bind.imp fun d2 G2 ρ2 S2 H2 ⟨x2, w2, r2⟩ v2 rv2 => ?_⟩
    obtain ⟨ds, ed, k⟩ := r2.opt
    have k := (k _ _ _ (Ext.refl _ _ _) w2).2.2
    have rv := rv.up x2.up
    cases rv with
    | lst h r =>
      cases rv2 with
      | lst h2 q2 => cases ed; exact ⟨_, _, _, _, rfl, .inl ⟨w2.g.seq (.of h), w2.g.seq (.of h2), k _ _ it_zip ⟨_, _, .of h, .of h2, r, q2⟩⟩⟩
      | _ => cases ed
    | tup h r =>
      cases rv2 with
      | tup h2 q2 => cases ed; exact ⟨_, _, _, _, rfl, .inr ⟨h.sqT w2.g, h2.sqT w2.g, k _ _ it_zipT ⟨_, _, h, h2, r, q2⟩⟩⟩
      | _ => cases ed
    | _ => cases ed
end

/-! ### for -/
def forL (tf : TgF) (body : Env → SM) : List D → Env → SM
  | [], env => sNx env
  | d :: ds, env => match tf d env with
    | none => sFail
    | some env1 => fun S => match body env1 S with
      | some (.nx env2, S') => forL tf body ds env2 S'
      | some (.ct env2, S') => forL tf body ds env2 S'
      | some (.bk env2, S') => some (.nx env2, S')
      | r => r
abbrev sFor (gi : Env → M (List D)) (tf : TgF) (body : Env → SM) : Env → SM := fun env => liftE (gi env) env fun ds => forL tf body ds env
abbrev sBrk : Env → SM := fun env S => some (.bk env, S)
abbrev sCnt : Env → SM := fun env S => some (.ct env, S)
section
variable {X : Cx} {Z : Zt} {tg iter : Expr} {vs : List Nat} {tf : TgF} {gi : Env → M (List D)} {body : List Stmt} {gb : Env → SM} {Y : YR} {pos : Pos}
theorem ss_for (hp : PassesOwn (model X.prog X.w) X.A X.env X.xe) (hi : EI X Z Y tg iter gi) (hg : GT X Z Y tg vs tf) (hb : SSs X Z body gb) (hc : X.calm = true := by rfl) (hs : ∀ x, foldedSetIterable iter X.env x = pure x := by intro _; rfl) :
    SS X Z (.For tg iter body [] pos) (sFor gi tf gb) := PS.mono (ps_for hp hc hi hg hb hs) fun D σ H q => by
  obtain ⟨G, ρ, S, env, wd, fr, run⟩ := q
  refine ⟨G, ρ, S, env, wd, fr, (RunS.lift fr run).imp fun ds G1 ρ1 S1 H1 ⟨x1, w1, f1, r1⟩ J C it c1 => ?_⟩
  refine ⟨fun i m σ H => m = ds.length - i ∧ i ≤ ds.length ∧ ∃ G ρ S env, Wd X.K X.w X.mg G ρ S H ∧ FrV X.K X.w X.mg Z.B G ρ H env σ ∧ C G ρ ∧ RunS X.K X.w X.mg Z (forL tf gb (ds.drop i) env) G ρ S H fun G' ρ' S' H' f => FlR X.K X.w X.mg Z D G' ρ' S' H' f,
    ⟨ds.length, by simp, Nat.zero_le _, G1, ρ1, S1, env, w1, f1, c1, r1⟩, ?_⟩
  rintro i m σ H ⟨rfl, hi, G, ρ, S, env, wd, fr, c, run⟩
  by_cases hlt : i < ds.length
  · refine .inr ⟨it.go _ _ _ _ _ wd c hlt, fun σ' H' => ∃ G ρ S env, Wd X.K X.w X.mg G ρ S H' ∧ FrV X.K X.w X.mg Z.B G ρ H' env σ' ∧ C G ρ ∧ RunS X.K X.w X.mg Z (forL tf gb (ds.drop (i + 1)) env) G ρ S H' fun G' ρ' S' H' f => FlR X.K X.w X.mg Z D G' ρ' S' H' f,
      fun σ' H' z => ⟨_, by omega, rfl, hlt, z⟩, fun x H' y => ?_⟩
    obtain ⟨w2, x2, yy⟩ := it.yld _ _ _ _ _ _ _ ds[i] wd c y (by simp [hlt])
    rw [List.drop_eq_getElem_cons hlt] at run
    unfold forL at run
    cases e1 : tf ds[i] env with
    | none => rw [e1] at run; exact run.elim
    | some env1 =>
      rw [e1] at run
      have run := run.ext (x2.s fr.old)
      refine ⟨G, ρ, S, env, _, env1, w2, fr.ext x2, yy, e1, fun σ3 f3 _ _ => ⟨G, ρ, S, env1, w2, f3, ?_⟩⟩
      unfold RunS at run ⊢
      dsimp only at run
      cases e2 : gb env1 S with
      | none => rw [e2] at run; exact run
      | some r =>
        obtain ⟨f, S'⟩ := r
        rw [e2] at run
        intro G4 ρ4 H4 x4 w4
        cases f with
        | nx env2 =>
          intro σ4 f4
          have run : RunS X.K X.w X.mg Z (forL tf gb (ds.drop (i + 1)) env2) G ρ S' H' fun G' ρ' S' H' f => FlR X.K X.w X.mg Z D G' ρ' S' H' f := run
          exact ⟨G4, ρ4, S', env2, w4, f4, it.up _ _ _ _ x4.up c, run.ext x4⟩
        | ct env2 =>
          intro σ4 f4
          have run : RunS X.K X.w X.mg Z (forL tf gb (ds.drop (i + 1)) env2) G ρ S' H' fun G' ρ' S' H' f => FlR X.K X.w X.mg Z D G' ρ' S' H' f := run
          exact ⟨G4, ρ4, S', env2, w4, f4, it.up _ _ _ _ x4.up c, run.ext x4⟩
        | bk env2 => exact run _ _ _ x4 w4
        | rt v => exact run _ _ _ x4 w4
        | xc e env2 => exact run _ _ _ x4 w4
  · have e : i = ds.length := by omega
    subst e
    refine .inl ⟨it.stop _ _ _ _ wd c, ?_⟩
    rw [List.drop_length] at run
    exact (show RunS X.K X.w X.mg Z (sNx env) G ρ S H _ from run).nx wd σ fr
theorem ss_brk : SS X Z (.Break pos) sBrk := PS.mono ps_break fun D σ H q => by
  obtain ⟨G, ρ, S, env, wd, fr, run⟩ := q
  exact run _ _ _ (ExtS.refl _ _ _ _) wd σ fr
theorem ss_cnt : SS X Z (.Continue pos) sCnt := PS.mono ps_continue fun D σ H q => by
  obtain ⟨G, ρ, S, env, wd, fr, run⟩ := q
  exact run _ _ _ (ExtS.refl _ _ _ _) wd σ fr
end
end VX
set_option Elab.async false
set_option linter.all false
set_option maxRecDepth 100000
set_option maxHeartbeats 4000000
/-! comprehensions by value -/
namespace VX
open PySem PySem.Spec PyProof.Rows L2

theorem M.bind_ok {α β : Type} {m : M α} {f : α → M β} {S S'' : Sto} {b : β} (h : M.bind m f S = some (.ok b, S'')) : ∃ a S', m S = some (.ok a, S') ∧ f a S' = some (.ok b, S'') := by
  unfold M.bind at h
  split at h
  · exact ⟨_, _, by assumption, h⟩
  · cases h
  · cases h
/-- no exception may leave -/
def noX {α : Type} (m : M α) : M α := fun S => match m S with
  | some (.ok a, S') => some (.ok a, S')
  | _ => none
def compL (tf : TgF) (gt : Env → M Bool) (ge : Env → M D) (env : Env) : List D → M (List D)
  | [] => M.pure []
  | d :: ds => match tf d env with
    | none => M.fail
    | some env1 => M.bind (gt env1) fun b => if b = true then M.bind (ge env1) fun y => M.bind (compL tf gt ge env ds) fun ys => M.pure (y :: ys) else compL tf gt ge env ds
abbrev lcF (vs : List Nat) (gi : Env → M (List D)) (tf : TgF) (gt : Env → M Bool) (ge : Env → M D) : Env → M SV := fun env => M.bind (gi env) fun ds => M.bind (noX (compL tf gt ge (drp vs env) ds)) fun r => if r.length ≤ sizeLine then M.pure (.lst r) else M.fail
/-- the inner wishes: no exception -/
abbrev z0 (Z : Zt) : Zt := ⟨fun _ _ _ _ => False, Z.B⟩
abbrev ETs (X : Cx) (Z : Zt) (ifs : List Expr) (g : Env → M Bool) : Prop := PTs X ifs (tT X.K X.w X.mg Z g)
theorem PTs.mono {X : Cx} {e : List Expr} {t t' : TT} (h : PTs X e t') (i : ∀ σ H Q, t σ H Q → t' σ H Q) : PTs X e t := ⟨fun pins s σ H Q I q => h.run pins s σ H Q I (i _ _ _ q)⟩
section
variable {K : PySem.W.Frag} {w : World} {mg : Str → Option Value} {B : Addr → Prop} {G G1 : Hp} {ρ ρ1 : List Addr} {H H1 : Hp} {S S1 : Sto} {σ : L2.St} {env : Env}
theorem FrV.wipe (fr : FrV K w mg B G ρ H env σ) : ∀ vs : List Nat, FrV K w mg B G ρ H (VX.drp vs env) (L2.wipe σ vs)
  | [] => fr
  | v :: vs => by
    have f := (FrV.wipe fr vs).unset (i := v)
    show FrV K w mg B G ρ H ((VX.drp vs env).set v none) ((L2.wipe σ vs).set v none)
    have key : ∀ {j : Nat} {sv : SV}, ((VX.drp vs env).set v none)[j]? = some (some sv) → v ≠ j := fun {j sv} e z => by
      subst z
      by_cases hl : v < (VX.drp vs env).length
      · rw [List.getElem?_set_self hl] at e; cases e
      · rw [List.getElem?_eq_none (by simpa using hl)] at e; cases e
    refine ⟨f.old, fun i sv p e o e2 => ?_, by rw [f.len, List.length_set], fun i sv e => ?_, fun i j si sj p e0 e1 e2 o1 o2 e3 => ?_⟩
    · rw [List.getElem?_set_ne (key e)] at e2
      exact f.new i sv p e o e2
    · obtain ⟨u, hu, r⟩ := f.at_ i sv e
      exact ⟨u, by rw [List.getElem?_set_ne (key e)]; exact hu, r⟩
    · rw [List.getElem?_set_ne (key e1)] at e3
      rw [List.getElem?_set_ne (key e2)]
      exact f.ne i j si sj p e0 e1 e2 o1 o2 e3
theorem wipe_in {σ : L2.St} {j : Nat} : ∀ {vs : List Nat}, j ∈ vs → j < σ.length → (L2.wipe σ vs)[j]? = some none
  | [], h, _ => nomatch h
  | v :: vs, h, hl => by
    unfold L2.wipe
    by_cases e : v = j
    · subst e; rw [List.getElem?_set_self (by rw [wipe_length]; exact hl)]
    · rw [List.getElem?_set_ne e]
      exact wipe_in ((List.mem_cons.mp h).elim (fun z => absurd z.symm e) id) hl
theorem wipe_eq {σ σ' : L2.St} {vs us : List Nat} (hl : σ'.length = (L2.wipe σ vs).length) (hs : ∀ j, j ∉ us → σ'[j]? = (L2.wipe σ vs)[j]?) (hu : ∀ j ∈ us, j ∈ vs) : L2.wipe σ' vs = L2.wipe σ vs := by
  rw [wipe_length] at hl
  apply List.ext_getElem?
  intro j
  by_cases hj : j ∈ vs
  · by_cases h : j < σ.length
    · rw [wipe_in hj h, wipe_in hj (by rw [hl]; exact h)]
    · rw [List.getElem?_eq_none (by rw [wipe_length, hl]; omega), List.getElem?_eq_none (by rw [wipe_length]; omega)]
  · rw [wipe_out hj, hs j fun z => hj (hu j z)]
/-- a thing nobody else has, written over -/
theorem Wd.put {p : Addr} {o : HO} (wd : Wd K w mg G ρ S H) (gp : G p = none) (np : p ∉ ρ) (hp : H p ≠ none) : Wd K w mg G ρ S (upd H p o) := by
  refine ⟨fun b q e => ?_, wd.nd, wd.out, wd.len, fun n c a f1 f2 => (wd.cell n c a f1 f2).up (Up.refl _ _) fun q e => ?_⟩
  · rw [upd_ne (ne_of_none e gp)]; exact wd.g b q e
  · have : a ∈ ρ := List.mem_of_getElem? f2
    rw [upd_ne (by rintro rfl; exact np this)]; exact e
theorem Ext.put {p : Addr} {o : HO} (x : Ext G1 ρ1 H1 G ρ H) (h0 : H1 p = none) : Ext G1 ρ1 H1 G ρ (upd H p o) :=
  ⟨x.up, fun b u h hb => by rw [upd_ne (by rintro rfl; rw [h0] at h; cases h)]; exact x.keep b u h hb, fun b e => by
    by_cases hb : b = p
    · subst hb; exact h0
    · rw [upd_ne hb] at e; exact x.dom b e, x.newG, x.newR⟩
theorem Run.okB {α : Type} {m : M α} {x : Ex → Hp → List Addr → Sto → Hp → Prop} {k : α → Hp → List Addr → Sto → Hp → Prop} {a : α} {S' : Sto} (h : m S = some (.ok a, S')) (q : ∀ G' ρ' H', Ext G ρ H G' ρ' H' → Wd K w mg G' ρ' S' H' → k a G' ρ' S' H') : Run K w mg m G ρ S H x k := by
  unfold Run
  rw [h]
  exact q
end
section
variable {X : Cx} {Z : Zt} {c tg iter elt kx vx : Expr} {ifs : List Expr} {vs : List Nat} {tf : TgF} {gi : Env → M (List D)} {gt : Env → M Bool} {ge gk : Env → M D} {Y : YR} {pos pos' : Pos} {scope : Scope} {own : List (Str × Nat)}
theorem ets_nil : ETs X Z [] (fun _ => M.pure true) := PTs.mono pts_nil fun σ H Q q => by
  obtain ⟨G, ρ, S, env, wd, fr, run⟩ := q
  exact run.pure _ _ _ (Ext.refl _ _ _) wd
theorem ets_one (h : ET X Z c gt) : ETs X Z [c] gt := pts_one h
theorem lc_law (hv : ∀ j ∈ vs, j ∈ own.map (·.2)) {σ : L2.St} {H : Hp} {Q : VK} (q : tF X.K X.w X.mg Z (lcF (own.map (·.2)) gi tf gt ge) σ H Q) :
    tLc (tI X.K X.w X.mg Z Y gi) (gT X.K X.w X.mg Y Z.B vs tf) (tT X.K X.w X.mg (z0 Z) gt) (tV X.K X.w X.mg (z0 Z) ge) (own.map (·.2)) σ H Q := by
  obtain ⟨G, ρ, S, env, wd, fr, run⟩ := q
  refine ⟨G, ρ, S, env, wd, fr, run.bind.imp fun ds G1 ρ1 S1 H1 ⟨x1, w1, r1⟩ J C it c1 D hD => ?_⟩
  generalize own.map (·.2) = vv at hv r1 ⊢
  have key : ∃ r Sf, compL tf gt ge (drp vv env) ds S1 = some (.ok r, Sf) ∧ r.length ≤ sizeLine ∧ ∀ G' ρ' H', Ext G1 ρ1 H1 G' ρ' H' → Wd X.K X.w X.mg G' ρ' Sf H' → ∀ v, SVR X.K X.w X.mg G' ρ' H' v (.lst r) → (∀ p, v = .ref p → H p = none) → Q v H' := by
    unfold Run M.bind noX at r1
    cases e : compL tf gt ge (drp vv env) ds S1 with
    | none => rw [e] at r1; exact r1.elim
    | some z =>
      obtain ⟨z, Sf⟩ := z
      rw [e] at r1
      cases z with
      | error _ => exact r1.elim
      | ok r =>
        dsimp only at r1
        by_cases hz : r.length ≤ sizeLine
        · rw [if_pos hz] at r1
          exact ⟨r, Sf, rfl, hz, fun G' ρ' H' x' w' v rv f => (r1 G' ρ' H' x' w').2 v rv fun _ => f⟩
        · rw [if_neg hz] at r1; exact r1.elim
  obtain ⟨r, Sf, er, hz, fin⟩ := key
  obtain ⟨w2, x2, gp, np⟩ := w1.own (o := .lst []) hD
  refine ⟨fun i m H => m = ds.length - i ∧ i ≤ ds.length ∧ ∃ G ρ S acv acc rest, Wd X.K X.w X.mg G ρ S H ∧ Ext G1 ρ1 H1 G ρ H ∧ C G ρ ∧ H D = some (.lst acv) ∧ G D = none ∧ D ∉ ρ ∧ Reps X.K X.w X.mg G ρ acv acc ∧ compL tf gt ge (drp vv env) (ds.drop i) S = some (.ok rest, Sf) ∧ acc ++ rest = r,
    ⟨ds.length, by simp, Nat.zero_le _, G1, ρ1, S1, [], [], r, w2, x2, c1, upd_same, gp, np, .nil, er, rfl⟩, ?_⟩
  rintro i m H2 ⟨rfl, hi, G2, ρ2, S2, acv, acc, rest, w2, x2, c2, hD2, gp2, np2, ra, e2, ea⟩
  by_cases hlt : i < ds.length
  · refine .inr ⟨it.go _ _ _ _ _ w2 c2 hlt, fun H => ∃ G ρ S acv acc rest, Wd X.K X.w X.mg G ρ S H ∧ Ext G1 ρ1 H1 G ρ H ∧ C G ρ ∧ H D = some (.lst acv) ∧ G D = none ∧ D ∉ ρ ∧ Reps X.K X.w X.mg G ρ acv acc ∧ compL tf gt ge (drp vv env) (ds.drop (i + 1)) S = some (.ok rest, Sf) ∧ acc ++ rest = r,
      fun H' z => ⟨_, by omega, rfl, hlt, z⟩, fun x H3 y => ?_⟩
    obtain ⟨w3, x3, yy⟩ := it.yld _ _ _ _ _ _ _ ds[i] w2 c2 y (by simp [hlt])
    rw [List.drop_eq_getElem_cons hlt] at e2
    unfold compL at e2
    cases et : tf ds[i] (drp vv env) with
    | none => rw [et] at e2; cases e2
    | some env1 =>
      rw [et] at e2
      obtain ⟨b, S4, eb, e4⟩ := M.bind_ok e2
      refine ⟨G2, ρ2, S2, _, _, env1, w3, (fr.ext (x1.trans (x2.trans x3))).wipe vv, yy, et, fun σ3 f3 l3 a3 => ⟨wipe_eq l3 a3 hv, G2, ρ2, S2, env1, w3, f3, Run.okB eb fun G4 ρ4 H4 x4 w4 => ?_⟩⟩
      have x14 := x2.trans (x3.trans x4)
      have x24 := x3.trans x4
      have out : ∀ {G' : Hp} {ρ' : List Addr} {H' : Hp}, Ext G2 ρ2 H2 G' ρ' H' → H' D = some (.lst acv) ∧ G' D = none ∧ D ∉ ρ' := fun {G' ρ' H'} x => ⟨x.keep D _ hD2 np2, x.newG D gp2 (by rw [hD2]; simp), fun z => (x.newR D z).elim np2 fun z => by rw [hD2] at z; cases z⟩
      cases b with
      | false =>
        rw [if_neg Bool.false_ne_true] at e4
        refine iteF ?_
        obtain ⟨o1, o2, o3⟩ := out x24
        exact ⟨G4, ρ4, S4, acv, acc, rest, w4, x14, it.up _ _ _ _ x24.up c2, o1, o2, o3, ra.up x24.up, e4, ea⟩
      | true =>
        rw [if_pos rfl] at e4
        refine iteT ?_
        obtain ⟨d, S5, ed, e5⟩ := M.bind_ok e4
        obtain ⟨ys, S6, ey, e6⟩ := M.bind_ok e5
        injection e6 with e6
        injection e6 with e6 e7
        injection e6 with e6
        subst e6 e7
        refine ⟨G4, ρ4, S4, env1, w4, f3.ext x4, Run.okB ed fun G5 ρ5 H5 x5 w5 v rv => ?_⟩
        have x25 := x24.trans x5
        obtain ⟨o1, o2, o3⟩ := out x25
        have hlen : acc.length < sizeLine := by
          have : (acc ++ d :: ys).length = r.length := by rw [ea]
          rw [List.length_append, List.length_cons] at this
          omega
        refine ⟨acv, o1, by rw [ra.length]; exact hlen, G5, ρ5, S5, acv ++ [v], acc ++ [d], ys, w5.put o2 o3 (by rw [o1]; simp), (x14.trans x5).put hD, it.up _ _ _ _ x25.up c2, upd_same, o2, o3, (ra.up x25.up).append (.cons rv .nil), ey, by rw [List.append_assoc]; exact ea⟩
  · have e : i = ds.length := by omega
    subst e
    rw [List.drop_length] at e2
    injection e2 with e2
    injection e2 with e2 e3
    injection e2 with e2
    subst e2 e3
    rw [List.append_nil] at ea
    subst ea
    exact .inl ⟨it.stop _ _ _ _ w2 c2, fin _ _ _ x2 w2 _ (.inr ⟨D, rfl, gp2, np2, acv, hD2, ra⟩) fun p e => by injection e with e; subst e; exact x1.dom _ hD⟩
/-- [elt for target in iter if ..] -/
theorem ef_lc (hN : X.N.Nodup) (hi : EI X Z Y tg iter gi) (ok : BlkOk X.N X.env.scope scope own) (hv : ∀ j ∈ vs, j ∈ own.map (·.2))
    (hg : ∀ (s : Shared) (H : Hp) (C : Addr) (cl : List (Str × Addr)) (fp : List Addr), GT (X.blk s H scope (compEnvC scope cl C X.env) fp) (z0 Z) Y tg vs tf)
    (ht : ∀ (s : Shared) (H : Hp) (C : Addr) (cl : List (Str × Addr)) (fp : List Addr), ETs (X.blk s H scope (compEnvC scope cl C X.env) fp) (z0 Z) ifs gt)
    (he : ∀ (s : Shared) (H : Hp) (C : Addr) (cl : List (Str × Addr)) (fp : List Addr), EV (X.blk s H scope (compEnvC scope cl C X.env) fp) (z0 Z) elt ge)
    (hc : X.calm = true := by rfl) (hs : ∀ x, foldedSetIterable iter X.env x = pure x := by intro _; rfl) :
    EF X Z (.ListComp elt [⟨tg, iter, ifs, 0⟩] scope pos) (lcF (own.map (·.2)) gi tf gt ge) := PE.mono (pe_lc hc hN hi ok hg ht he hs) fun σ H Q q => lc_law hv q
/-- name = [..] on one line -/
theorem ss_setLc {x : Str} {px : Pos} (i : Nat) (hN : X.N.Nodup) (hi : EI X Z Y tg iter gi) (ok : BlkOk X.N X.env.scope scope own) (hv : ∀ j ∈ vs, j ∈ own.map (·.2))
    (hg : ∀ (s : Shared) (H : Hp) (C : Addr) (cl : List (Str × Addr)) (fp : List Addr), GT (X.blk s H scope (compEnvC scope cl C X.env) fp) (z0 Z) Y tg vs tf)
    (ht : ∀ (s : Shared) (H : Hp) (C : Addr) (cl : List (Str × Addr)) (fp : List Addr), ETs (X.blk s H scope (compEnvC scope cl C X.env) fp) (z0 Z) ifs gt)
    (he : ∀ (s : Shared) (H : Hp) (C : Addr) (cl : List (Str × Addr)) (fp : List Addr), EV (X.blk s H scope (compEnvC scope cl C X.env) fp) (z0 Z) elt ge)
    (hx : X.N[i]? = some x := by rfl) (hxl : X.env.scope.names.lookup x = some .local := by rfl)
    (hsw : swapsWith (.ListComp elt [⟨tg, iter, ifs, 0⟩] scope pos) (some (.Name x px)) pos'.line X.env = pure true := by exact sw_true rfl rfl rfl rfl)
    (hc : X.calm = true := by rfl) (hs : ∀ x, foldedSetIterable iter X.env x = pure x := by intro _; rfl) :
    SS X Z (.Assign [.Name x px] (.ListComp elt [⟨tg, iter, ifs, 0⟩] scope pos) pos') (sAsgF i (lcF (own.map (·.2)) gi tf gt ge)) := PS.mono (ps_setLc hc hN hx hxl hsw hi ok hg ht he hs) fun D σ H q => by
  obtain ⟨G, ρ, S, env, wd, fr, run⟩ := q
  refine lc_law (Z := Z) (Q := fun x H1 => gName i x σ H1 D.nx) hv ⟨G, ρ, S, env, wd, fr, (RunS.lift fr run).imp fun sv G1 ρ1 S1 H1 ⟨x1, w1, f1, r1⟩ v rv fresh => ?_⟩
  refine r1.nx w1 _ (f1.set rv (fun o p e hb => fr.old p hb (fresh o p e)) fun o p e j sj hj e1 e2 e3 => ?_)
  obtain ⟨v', e4, r'⟩ := fr.at_ j sj e1
  rw [e3] at e4
  cases e4
  rcases r' with ⟨d, rfl, _⟩ | ⟨p', e5, _, _, o'⟩
  · cases e2
  · injection e5 with e5
    subst e5
    obtain ⟨ob, ho⟩ := o'.has
    rw [fresh o p e] at ho
    cases ho
end
end VX
set_option Elab.async false
set_option linter.all false
set_option maxRecDepth 100000
set_option maxHeartbeats 4000000
/-! a dict comprehension with two clauses: the proof turned from the library's for lists -/
namespace VX
open PySem PySem.Spec PyProof.Rows L2
theorem compTurn2D_out (kx vx t0 i0 t1 i1 : Expr) (ifs0 ifs1 : List Expr) (scope : Scope) (pos : Pos) (it : Value) (D : Addr) (env : PySem.Env) :
    compTurn (.DictComp kx vx [⟨t0, i0, ifs0, 0⟩, ⟨t1, i1, ifs1, 0⟩] scope pos) 0 it (.ref D) env = (do
      standAt i0.pos
      match ← pyNext it with
      | none => pure (.done .next)
      | some v =>
        letOwnedTupleGo t0 it v
        assign t0 env v
        let mut ok := true
        for c in ifs0 do
          if ok then ok ← isTrue c env (eval c env)
        if ok then
          let x ← eval i1 env
          standAt i1.pos
          let x ← foldedSetIterable i1 env x
          let _ ← runOwn (.compStart (.DictComp kx vx [⟨t0, i0, ifs0, 0⟩, ⟨t1, i1, ifs1, 0⟩] scope pos) 1 (← holding [x] (pyIter x)) (.ref D) env) env
        again (.compLoop (.DictComp kx vx [⟨t0, i0, ifs0, 0⟩, ⟨t1, i1, ifs1, 0⟩] scope pos) 0 it (.ref D) env)) := by rfl
theorem compTurn2D_in (kx vx t0 i0 t1 i1 : Expr) (ifs0 ifs1 : List Expr) (scope : Scope) (pos : Pos) (it : Value) (D : Addr) (env : PySem.Env) :
    compTurn (.DictComp kx vx [⟨t0, i0, ifs0, 0⟩, ⟨t1, i1, ifs1, 0⟩] scope pos) 1 it (.ref D) env = (do
      standAt i1.pos
      match ← pyNext it with
      | none => pure (.done .next)
      | some v =>
        letOwnedTupleGo t1 it v
        assign t1 env v
        let mut ok := true
        for c in ifs1 do
          if ok then ok ← isTrue c env (eval c env)
        if ok then
          (do
            let kv ← eval kx env
            let vv ← holding [kv] (eval vx env)
            standAt { kx.pos with endLine := vx.pos.endLine, endCol := vx.pos.endCol }
            holding [kv, vv] (dictSet D kv vv))
        again (.compLoop (.DictComp kx vx [⟨t0, i0, ifs0, 0⟩, ⟨t1, i1, ifs1, 0⟩] scope pos) 1 it (.ref D) env)) := by rfl

section
variable {prog : Program} {w : World} {A : Around} {R : Result → Shared → Prop} {s : Shared} {kx vx t0 i0 t1 i1 : Expr} {ifs0 ifs1 : List Expr} {scope : Scope} {pos : Pos} {it : Value} {D : Addr} {env : PySem.Env}
/-- the loop of the first clause -/
theorem compLoop2D_out (hs : ∀ x, foldedSetIterable i1 env x = pure x) (I : Nat → Shared → Prop)
    (turn : ∀ n s, I n s → wpAny (model prog w) A (pyNext it) (fun r s₁ => match r with
      | none => R (.ok .next) s₁
      | some v => wpAny (model prog w) A (letOwnedTupleGo t0 it v) (fun _ s₁' => wpAny (model prog w) A (assign t0 env v) (fun _ s₂ =>
          wpAny (model prog w) A (forIn ifs0 true fun c r => if r = true then do let ok ← isTrue c env (eval c env); pure (ForInStep.yield ok) else pure (ForInStep.yield r)) (fun ok s₃ =>
            if ok = true then wpAny (model prog w) A (eval i1 env) (fun x s₄ => wpAny (model prog w) A (pyIter x) (fun it1 s₅ =>
              codeAny (model prog w) A (.compStart (.DictComp kx vx [⟨t0, i0, ifs0, 0⟩, ⟨t1, i1, ifs1, 0⟩] scope pos) 1 it1 (.ref D) env) (fun r s' => match r with
                | .ok _ => ∃ m, m < n ∧ I m s'
                | .error _ => False) s₅) (notedBy (model prog w) A env fun e s' => R (.error e) s') s₄) (notedBy (model prog w) A env fun e s' => R (.error e) s') s₃
            else ∃ m, m < n ∧ I m s₃) (notedBy (model prog w) A env fun e s' => R (.error e) s') s₂) (notedBy (model prog w) A env fun e s' => R (.error e) s') s₁') (notedBy (model prog w) A env fun e s' => R (.error e) s') s₁) (notedBy (model prog w) A env fun e s' => R (.error e) s') s)
    (n : Nat) (h : I n s) :
    codeAny (model prog w) A (.compLoop (.DictComp kx vx [⟨t0, i0, ifs0, 0⟩, ⟨t1, i1, ifs1, 0⟩] scope pos) 0 it (.ref D) env) R s := by
  refine codeAny_loop rfl I (fun n s hI => ?_) n h
  show wpAny _ A ((compTurn (.DictComp kx vx [⟨t0, i0, ifs0, 0⟩, ⟨t1, i1, ifs1, 0⟩] scope pos) 0 it (.ref D) env).onRaise (fun x => do noteFrame x env; theTreesLotGoes x)) _ _ s
  refine wpAny_noted ?_
  rw [compTurn2D_out]
  refine wpAny_bind (wpAny_standAt (wpAny_bind (wpAny_mono (turn n s hI) (fun r s₁ h₁ => ?_) fun _ _ h' => h')))
  cases r with
  | none => exact wpAny_pure h₁
  | some v =>
    refine wpAny_bind (wpAny_mono h₁ (fun _ s₁' h₁' => ?_) fun _ _ h' => h')
    refine wpAny_bind (wpAny_mono h₁' (fun _ s₂ h₂ => wpAny_bind (wpAny_mono h₂ (fun ok s₃ h₃ => ?_) fun _ _ h' => h')) fun _ _ h' => h')
    cases ok with
    | false => exact wpAny_pure ⟨rfl, h₃⟩
    | true =>
      refine wpAny_bind (wpAny_mono h₃ (fun x s₄ h₄ => ?_) fun _ _ h' => h')
      refine wpAny_bind (wpAny_standAt (wpAny_bind (wpAny_of_eq (hs x) (wpAny_bind (wpAny_holding (wpAny_mono h₄ (fun it1 s₅ h₅ => ?_) fun _ _ h' => h'))))))
      refine wpAny_bind (wpAny_runOwn ?_)
      rw [Around.mark_none]
      refine codeAny_mono h₅ fun r s' hr => ?_
      cases r with
      | ok f =>
        first
          | exact wpAny_pure ⟨rfl, hr⟩
          | exact wpAny_bind (wpAny_pure (wpAny_pure ⟨rfl, hr⟩))
      | error e => exact hr.elim
/-- the loop of the second -/
theorem compLoop2D_in (I : Nat → Shared → Prop)
    (turn : ∀ n s, I n s → wpAny (model prog w) A (pyNext it) (fun r s₁ => match r with
      | none => R (.ok .next) s₁
      | some v => wpAny (model prog w) A (letOwnedTupleGo t1 it v) (fun _ s₁' => wpAny (model prog w) A (assign t1 env v) (fun _ s₂ =>
          wpAny (model prog w) A (forIn ifs1 true fun c r => if r = true then do let ok ← isTrue c env (eval c env); pure (ForInStep.yield ok) else pure (ForInStep.yield r)) (fun ok s₃ =>
            if ok = true then wpAny (model prog w) A (eval kx env) (fun kv s₄ => wpAny (model prog w) A (eval vx env) (fun vv s₅ =>
              wpAny (model prog w) A (dictSet D kv vv) (fun _ s₆ => ∃ m, m < n ∧ I m s₆) (notedBy (model prog w) A env fun e s' => R (.error e) s') s₅) (notedBy (model prog w) A env fun e s' => R (.error e) s') s₄) (notedBy (model prog w) A env fun e s' => R (.error e) s') s₃
            else ∃ m, m < n ∧ I m s₃) (notedBy (model prog w) A env fun e s' => R (.error e) s') s₂) (notedBy (model prog w) A env fun e s' => R (.error e) s') s₁') (notedBy (model prog w) A env fun e s' => R (.error e) s') s₁) (notedBy (model prog w) A env fun e s' => R (.error e) s') s)
    (n : Nat) (h : I n s) :
    codeAny (model prog w) A (.compLoop (.DictComp kx vx [⟨t0, i0, ifs0, 0⟩, ⟨t1, i1, ifs1, 0⟩] scope pos) 1 it (.ref D) env) R s := by
  refine codeAny_loop rfl I (fun n s hI => ?_) n h
  show wpAny _ A ((compTurn (.DictComp kx vx [⟨t0, i0, ifs0, 0⟩, ⟨t1, i1, ifs1, 0⟩] scope pos) 1 it (.ref D) env).onRaise (fun x => do noteFrame x env; theTreesLotGoes x)) _ _ s
  refine wpAny_noted ?_
  rw [compTurn2D_in]
  refine wpAny_bind (wpAny_standAt (wpAny_bind (wpAny_mono (turn n s hI) (fun r s₁ h₁ => ?_) fun _ _ h' => h')))
  cases r with
  | none => exact wpAny_pure h₁
  | some v =>
    refine wpAny_bind (wpAny_mono h₁ (fun _ s₁' h₁' => ?_) fun _ _ h' => h')
    refine wpAny_bind (wpAny_mono h₁' (fun _ s₂ h₂ => wpAny_bind (wpAny_mono h₂ (fun ok s₃ h₃ => ?_) fun _ _ h' => h')) fun _ _ h' => h')
    cases ok with
    | false => exact wpAny_pure ⟨rfl, h₃⟩
    | true =>
      exact wpAny_bind (wpAny_bind (wpAny_mono h₃ (fun kv s₄ h₄ => wpAny_bind (wpAny_holding (wpAny_mono h₄ (fun vv s₅ h₅ => wpAny_bind (wpAny_standAt (wpAny_holding (wpAny_mono h₅ (fun _ s₆ h₆ => wpAny_pure ⟨rfl, h₆⟩) fun _ _ h' => h')))) fun _ _ h' => h'))) fun _ _ h' => h'))
/-- the second clause's start -/
theorem compStart1D_ok (h0 : codeAny (model prog w) A (.compLoop (.DictComp kx vx [⟨t0, i0, ifs0, 0⟩, ⟨t1, i1, ifs1, 0⟩] scope pos) 1 it (.ref D) env) R s)
    (h : wpAny (model prog w) A (pyIter it) (fun it' s' => codeAny (model prog w) A (.compLoop (.DictComp kx vx [⟨t0, i0, ifs0, 0⟩, ⟨t1, i1, ifs1, 0⟩] scope pos) 1 it' (.ref D) env) R s')
      (notedBy (model prog w) A env fun x s' => R (.error x) s') s) :
    codeAny (model prog w) A (.compStart (.DictComp kx vx [⟨t0, i0, ifs0, 0⟩, ⟨t1, i1, ifs1, 0⟩] scope pos) 1 it (.ref D) env) R s := by
  refine codeAny_of_tree ?_
  show wpAny _ _ ((compStart (.DictComp kx vx [⟨t0, i0, ifs0, 0⟩, ⟨t1, i1, ifs1, 0⟩] scope pos) 1 it (.ref D) env).onRaise (fun x => do noteFrame x env; standAt theWindowsPlace)) _ _ s
  refine wpAny_notedAt ?_
  unfold compStart
  show wpAny _ _ (ask >>= _) _ _ s
  refine wpAny_bind (wpAny_askSetting (wpAny_ite ?_))
  split
  · first
      | exact wpAny_bind (wpAny_pure (wpAny_pure (And.intro rfl h0)))
      | exact wpAny_pure (And.intro rfl h0)
  · first
      | exact wpAny_bind (wpAny_rule (wpAny_bind (wpAny_standAt (wpAny_bind (wpAny_mono h (fun it' s' h' => wpAny_pure (And.intro rfl h')) fun _ _ x => x)))))
      | (refine wpAny_bind (wpAny_rule ?_); show wpAny _ _ (standAt i1.pos >>= _) _ _ s; exact wpAny_bind (wpAny_standAt (wpAny_bind (wpAny_mono h (fun it' s' h' => wpAny_pure (And.intro rfl h')) fun _ _ x => x))))
end

section
variable {X : Cx}
/-- [elt for tg in iter if .. for tg1 in iter1 if ..]: behind the first clause's store and tests the second source's own loop, from which Nx is reached. vs: the block's names; vs1: those of the second target -/
def tDc2 (wi : TI) (g : TG) (tt : TT) (wi1 : TI) (g1 : TG) (tt1 : TT) (tk tv : TE) (vs vs1 : List Nat) : TE := fun σ H Q => wi σ H fun J H1 => ∀ D, H1 D = none → ∃ W : Nat → Nat → Hp → Prop, (∃ m, W 0 m (upd H1 D (.dK []))) ∧ ∀ i m H, W i m H →
  (J.stop i H ∧ Q (.ref D) H) ∨ (J.go i H ∧ ∃ Nx : Hp → Prop, (∀ H', Nx H' → ∃ m', m' < m ∧ W (i + 1) m' H') ∧ ∀ x H', J.yld i H x H' → g x (wipe σ vs) H' fun σ2 H2 => wipe σ2 vs = wipe σ vs ∧ tt σ2 H2 fun b H3 =>
    if b = true then wi1 σ2 H3 fun J1 H4 => ∃ W1 : Nat → Nat → Hp → Prop, (∃ m, W1 0 m H4) ∧ ∀ j k H, W1 j k H →
      (J1.stop j H ∧ Nx H) ∨ (J1.go j H ∧ ∃ Nx1 : Hp → Prop, (∀ H', Nx1 H' → ∃ k', k' < k ∧ W1 (j + 1) k' H') ∧ ∀ x H', J1.yld j H x H' → g1 x (wipe σ2 vs1) H' fun σ3 H5 => wipe σ3 vs1 = wipe σ2 vs1 ∧ tt1 σ3 H5 fun b H6 =>
        if b = true then tk σ3 H6 fun y H7 => tv σ3 H7 fun z H8 => ∃ kvs k, y = kV k ∧ H8 D = some (.dK kvs) ∧ kvs.length < sizeLine ∧ Nx1 (upd H8 D (.dK (putK kvs k z))) else Nx1 H6)
    else Nx H3)
theorem dc2_core {pins : List (Addr × Obj)} {s : Shared} {σ : L2.St} {H : Hp} {Q : VK} {kx vx tg iter tg1 iter1 : Expr} {ifs ifs1 : List Expr} {scope : Scope} {own : List (Str × Nat)} {vs1 : List Nat} {pos pos' : Pos} {wi wi1 : TI} {g g1 : TG} {tt tt1 : TT} {tk tv : TE} {use : Option (Value → Sem Unit)} {Qf : Value → Shared → Prop}
    (hc : X.calm = true) (hN : X.N.Nodup) (I : Inv X pins σ H s) (hi : PI X tg iter wi) (ok : BlkOk X.N X.env.scope scope own) (hv : ∀ i ∈ vs1, i ∈ own.map (·.2))
    (hg : ∀ (s : Shared) (H : Hp) (C : Addr) (cl : List (Str × Addr)) (fp : List Addr), PG (X.blk s H scope (compEnvC scope cl C X.env) fp) tg g) (ht : ∀ (s : Shared) (H : Hp) (C : Addr) (cl : List (Str × Addr)) (fp : List Addr), PTs (X.blk s H scope (compEnvC scope cl C X.env) fp) ifs tt)
    (hk : ∀ (s : Shared) (H : Hp) (C : Addr) (cl : List (Str × Addr)) (fp : List Addr), PE (X.blk s H scope (compEnvC scope cl C X.env) fp) kx tk) (he : ∀ (s : Shared) (H : Hp) (C : Addr) (cl : List (Str × Addr)) (fp : List Addr), PE (X.blk s H scope (compEnvC scope cl C X.env) fp) vx tv) (hs : ∀ x, foldedSetIterable iter X.env x = pure x)
    (hi1 : ∀ (s : Shared) (H : Hp) (C : Addr) (cl : List (Str × Addr)) (fp : List Addr), PI (X.blk s H scope (compEnvC scope cl C X.env) fp) tg1 iter1 wi1)
    (hg1 : ∀ (s : Shared) (H : Hp) (C : Addr) (cl : List (Str × Addr)) (fp : List Addr), PG (X.blk s H scope (compEnvC scope cl C X.env) fp) tg1 g1)
    (ht1 : ∀ (s : Shared) (H : Hp) (C : Addr) (cl : List (Str × Addr)) (fp : List Addr), PTs (X.blk s H scope (compEnvC scope cl C X.env) fp) ifs1 tt1)
    (hs1 : ∀ env x, foldedSetIterable iter1 env x = pure x)
    (h : tDc2 wi g tt wi1 g1 tt1 tk tv (own.map (·.2)) vs1 σ H Q)
    (hRR : ∀ D C s' m H', Inv X pins σ H' s' → Q (.ref D) H' → s'.heap.Ns C m → FpOk X pins H' C → compPost (model X.prog X.w) X.A X.xe use Qf (.ref D) C (.ok .next) s') :
    wpAny (model X.prog X.w) X.A (comprehension (.DictComp kx vx [⟨tg, iter, ifs, 0⟩, ⟨tg1, iter1, ifs1, 0⟩] scope pos) scope X.env pos' newDict false (eval iter X.env) use) Qf X.xe s := by
  have hfree : ∀ y ∈ scope.names, y.2 = .free → ∃ c, X.env.cells.lookup y.1 = some c := fun y hy e => by
    rcases ok.free y hy e with k | k
    · exact I.ok.has _ (.inl k)
    · exact I.ok.has _ (.inr k)
  refine wpAny_comprehension_free (use := use) rfl hs (closure_ok hfree) ok.kind (fun y hy e => by rw [ok.uniq y hy, e])
    (thn (hi.run pins s σ H _ I h) fun xv s1 hx => thn hx fun itv s2 h2 => ?_)
  obtain ⟨it, fp, tn, J, H2, e, I2, T, st2, f2, q⟩ := h2
  subst e
  refine wpAny_newObj_type (newEnv_comp ?_)
  generalize hD : s2.heap.objs.size = D
  have hDn : H2 D = none := I2.hok.fresh (Nat.le_of_eq hD)
  obtain ⟨W, ⟨m0, w0⟩, turn⟩ := q D hDn
  -- the new list
  generalize hs3 : ({ s2 with heap := s2.heap.push { cls := .type "dict", data := .dict #[] } } : Shared) = s3
  have I3 : Inv X pins σ (upd H2 D (.dK [])) s3 := by
    rw [← hs3]
    refine I2.laid (t' := s2.toks) (fun b o e => Heap.get?_push_of_some _ e) (Nat.le_of_eq hD) ?_
    rw [← hD]
    exact dk_empty s2.heap I2.big
  have h3 : s3.heap = s2.heap.push { cls := .type "dict", data := .dict #[] } := by rw [← hs3]
  have sz : ∀ b ∈ fp, b < s2.heap.objs.size := fun b hb => by
    obtain ⟨o, e, _⟩ := T.obj _ _ st2 b hb
    exact Heap.lt_size e
  have f3 : ∀ b ∈ fp, FpOk X pins (upd H2 D (.dK [])) b ∧ b < s3.heap.objs.size := fun b hb => by
    have hlt := sz b hb
    refine ⟨⟨?_, (f2 b hb).2⟩, by rw [h3, Heap.size_push]; exact Nat.lt_succ_of_lt hlt⟩
    rw [upd_ne (by rw [← hD]; exact Nat.ne_of_lt hlt)]
    exact (f2 b hb).1
  have st3 : tn 0 s3.heap := T.keep _ _ _ st2 fun b _ o e => by rw [h3]; exact Heap.get?_push_of_some _ e
  have I4 := block_start I3 ok hN f3
  have pg := hg s3 (upd H2 D (.dK [])) s3.heap.objs.size (cellsFrom (s3.heap.objs.size + 1) scope.names (cloFrom X.env.cells scope.names [])) fp
  have pt := ht s3 (upd H2 D (.dK [])) s3.heap.objs.size (cellsFrom (s3.heap.objs.size + 1) scope.names (cloFrom X.env.cells scope.names [])) fp
  have pk := hk s3 (upd H2 D (.dK [])) s3.heap.objs.size (cellsFrom (s3.heap.objs.size + 1) scope.names (cloFrom X.env.cells scope.names [])) fp
  have pe := he s3 (upd H2 D (.dK [])) s3.heap.objs.size (cellsFrom (s3.heap.objs.size + 1) scope.names (cloFrom X.env.cells scope.names [])) fp
  have pi1 := hi1 s3 (upd H2 D (.dK [])) s3.heap.objs.size (cellsFrom (s3.heap.objs.size + 1) scope.names (cloFrom X.env.cells scope.names [])) fp
  have pg1 := hg1 s3 (upd H2 D (.dK [])) s3.heap.objs.size (cellsFrom (s3.heap.objs.size + 1) scope.names (cloFrom X.env.cells scope.names [])) fp
  have pt1 := ht1 s3 (upd H2 D (.dK [])) s3.heap.objs.size (cellsFrom (s3.heap.objs.size + 1) scope.names (cloFrom X.env.cells scope.names [])) fp
  show codeAny _ _ (.compStart (.DictComp kx vx [⟨tg, iter, ifs, 0⟩, ⟨tg1, iter1, ifs1, 0⟩] scope pos) 0 (.ref it) (.ref D) (compEnvC scope (cellsFrom (s3.heap.objs.size + 1) scope.names (cloFrom X.env.cells scope.names [])) s3.heap.objs.size X.env)) (compPost (model X.prog X.w) X.A X.xe use Qf (.ref D) s3.heap.objs.size) { s3 with heap := pushCells (s3.heap.push { cls := .type "dict", data := .dict #[] }) scope.names }
  have nfp : ∀ b ∈ fp, (upd H2 D (.dK [])) b = none := fun b hb => (f3 b hb).1.1
  generalize hce : compEnvC scope (cellsFrom (s3.heap.objs.size + 1) scope.names (cloFrom X.env.cells scope.names [])) s3.heap.objs.size X.env = ce at I4 pg pt pk pe pi1 pg1 pt1 ⊢
  have cL : ce.locals = s3.heap.objs.size := by subst hce; rfl
  generalize hH3 : upd H2 D (.dK []) = H3 at I3 I4 pg pt pk pe pi1 pg1 pt1 w0 nfp f3
  generalize hs4 : ({ s3 with heap := pushCells (s3.heap.push { cls := .type "dict", data := .dict #[] }) scope.names } : Shared) = s4 at I4 ⊢
  have st4 : tn 0 s4.heap := T.keep _ _ _ st3 fun b _ o e => by rw [← hs4]; exact pushCells_keeps _ _ _ _ (Heap.get?_push_of_some _ e)
  have stat : ∀ {σ' : L2.St} {H' : Hp} {s' : Shared}, Inv (X.blk s3 H3 scope ce fp) [] σ' H' s' → (∀ b ∈ fp, H' b = none) → ∀ b ∈ fp, FpOk (X.blk s3 H3 scope ce fp) [] H' b := fun {σ' H' s'} I' hn b hb =>
    ⟨hn b hb, (I'.ok.exf b hb).1, I'.ok.exfs b hb, .inl hb, fun x c e => (I'.ok.exf b hb).2 x c e, fun p hp => absurd (show p ∈ ([] : List (Addr × Obj)) ++ [] from hp) (by simp)⟩
  have loop : codeAny (model X.prog X.w) X.A (.compLoop (.DictComp kx vx [⟨tg, iter, ifs, 0⟩, ⟨tg1, iter1, ifs1, 0⟩] scope pos) 0 (.ref it) (.ref D) ce) (compPost (model X.prog X.w) X.A X.xe use Qf (.ref D) s3.heap.objs.size) s4 := by
    refine compLoop2D_out (hs1 ce) (fun n s' => ∃ i H', Inv (X.blk s3 H3 scope ce fp) [] (wipe σ (own.map (·.2))) H' s' ∧ tn i s'.heap ∧ (∀ b ∈ fp, H' b = none) ∧ W i n H') ?_ m0 ⟨0, H3, I4, st4, nfp, w0⟩
    rintro n s5 ⟨i, H5, I5, st5, n5, w5⟩
    rcases turn i n H5 w5 with ⟨stop, qq⟩ | ⟨go, Nx, hNx, step⟩
    · have td := T.done (X.blk s3 H3 scope ce fp) rfl rfl rfl hc i [] s5 _ H5 (fun _ _ => False) I5 (stat I5 n5) st5 stop
      refine thnF td fun r s6 ⟨hr, I6⟩ => ?_
      subst hr
      -- back in the def's context
      have I7 : Inv X pins σ H5 s6 := I3.call' (ch := fp) I6.os I6.base I6.hok I6.bare fun b hb => ⟨(f3 b hb).1.2.2.2.1, (f3 b hb).1.2.1, (f3 b hb).1.2.2.2.2.1, (f3 b hb).1.2.2.2.2.2⟩
      have nC : H5 s3.heap.objs.size = none := by
        have z : H5 ce.locals = none := I6.free
        rw [cL] at z
        exact z
      obtain ⟨m, hn, _⟩ := I6.loc
      have hn : s6.heap.Ns ce.locals m := hn
      rw [cL] at hn
      exact hRR D s3.heap.objs.size s6 m H5 I7 qq hn (I3.fpOk (Nat.le_refl _) nC)
    · have ti := T.item (X.blk s3 H3 scope ce fp) rfl rfl rfl hc i [] s5 _ H5 (fun _ _ => False) I5 (stat I5 n5) st5 go
      refine thnF ti fun r s6 ⟨u, hr, h6⟩ => ?_
      subst hr
      refine thnF h6 fun _ s7 ⟨x, H7, I7, r7, y7, st7, n7⟩ => ?_
      have I7' := I7.pinned (stat I7 n7) (T.obj _ _ st7)
      refine thnF (pg.run _ s7 _ H7 x u _ I7' r7 (step x H7 y7)) fun _ s8 ⟨σ8, H8, I8, hw8, q8⟩ => ?_
      refine thnF (pt.run _ s8 σ8 H8 _ I8 q8) fun b s9 ⟨H9, I9, q9⟩ => ?_
      -- the turn's end, from any slots that know what the block knew at its start
      have fin : ∀ {σ9 : L2.St} {s' : Shared} {H' : Hp}, Inv (X.blk s3 H3 scope ce fp) ([] ++ pinsAt fp s7.heap) σ9 H' s' → (wipe σ (own.map (·.2))).length = σ9.length → (∀ (j : Nat) v, (wipe σ (own.map (·.2)))[j]? = some (some v) → σ9[j]? = some (some v)) → Nx H' →
          ∃ m, m < n ∧ ∃ i H', Inv (X.blk s3 H3 scope ce fp) [] (wipe σ (own.map (·.2))) H' s' ∧ tn i s'.heap ∧ (∀ b ∈ fp, H' b = none) ∧ W i m H' := fun {σ9 s' H'} I' hl hk nx => by
        obtain ⟨m', hm, w'⟩ := hNx H' nx
        have pin' : ∀ b ∈ fp, ∀ o, s7.heap.get? b = some o → s'.heap.get? b = some o ∧ H' b = none := fun b hb o e =>
          let z := I'.pin (b, o) (List.mem_append_right _ (List.mem_append_right _ (mem_pinsAt hb e)))
          ⟨z.1, z.2.1⟩
        refine ⟨m', hm, i + 1, H', (I'.unpinned (pins := [])).weak hl hk, T.keep _ _ _ st7 fun b hb o e => (pin' b hb o e).1, fun b hb => ?_, w'⟩
        obtain ⟨o, e, _⟩ := T.obj _ _ st7 b hb
        exact (pin' b hb o e).2
      have hl8 : (wipe σ (own.map (·.2))).length = σ8.length := by rw [← hw8, wipe_length]
      have hk8 : ∀ (j : Nat) v, (wipe σ (own.map (·.2)))[j]? = some (some v) → σ8[j]? = some (some v) := fun j v e => by
        rw [← hw8] at e
        exact (wipe_some e).1
      have hk9 : ∀ (j : Nat) v, (wipe σ (own.map (·.2)))[j]? = some (some v) → (wipe σ8 vs1)[j]? = some (some v) := fun j v e => by
        rw [← hw8] at e
        obtain ⟨e1, e2⟩ := wipe_some e
        rw [wipe_out fun z => e2 (hv j z)]
        exact e1
      cases b with
      | false =>
        simp only [Bool.false_eq_true, if_false] at q9 ⊢
        exact fin I9 hl8 hk8 q9
      | true =>
        simp only [if_true] at q9 ⊢
        refine thnF (pi1.run _ s9 σ8 H9 _ I9 q9) fun xv s10 hx => thnF hx fun itv s11 h11 => ?_
        obtain ⟨it1, fp1, tn1, J1, H11, e1, I11, T1, st11, f11, W1, ⟨m1, w1⟩, turn1⟩ := h11
        subst e1
        -- the inner loop
        have stat1 : ∀ {H' : Hp}, (∀ b ∈ fp1, H' b = none) → ∀ b ∈ fp1, FpOk (X.blk s3 H3 scope ce fp) ([] ++ pinsAt fp s7.heap) H' b := fun hn b hb => ⟨hn b hb, (f11 b hb).2⟩
        have loop1 : codeAny (model X.prog X.w) X.A (.compLoop (.DictComp kx vx [⟨tg, iter, ifs, 0⟩, ⟨tg1, iter1, ifs1, 0⟩] scope pos) 1 (.ref it1) (.ref D) ce)
            (fun r s' => match r with
              | .ok _ => ∃ m, m < n ∧ ∃ i H', Inv (X.blk s3 H3 scope ce fp) [] (wipe σ (own.map (·.2))) H' s' ∧ tn i s'.heap ∧ (∀ b ∈ fp, H' b = none) ∧ W i m H'
              | .error _ => False) s11 := by
          refine compLoop2D_in (fun k s' => ∃ j H', Inv (X.blk s3 H3 scope ce fp) ([] ++ pinsAt fp s7.heap) (wipe σ8 vs1) H' s' ∧ tn1 j s'.heap ∧ (∀ b ∈ fp1, H' b = none) ∧ W1 j k H') ?_ m1 ⟨0, H11, I11.weak (wipe_length _ _) (fun j v e => (wipe_some e).1), st11, fun b hb => (f11 b hb).1, w1⟩
          rintro k s12 ⟨j, H12, I12, st12, n12, w12⟩
          rcases turn1 j k H12 w12 with ⟨stop1, nx1⟩ | ⟨go1, Nx1, hNx1, step1⟩
          · refine thnF (T1.done (X.blk s3 H3 scope ce fp) rfl rfl rfl hc j _ s12 (wipe σ8 vs1) H12 (fun _ _ => False) I12 (stat1 n12) st12 stop1) fun r s13 ⟨hr, I13⟩ => ?_
            subst hr
            exact fin I13 (hl8.trans (wipe_length σ8 vs1).symm) hk9 nx1
          · refine thnF (T1.item (X.blk s3 H3 scope ce fp) rfl rfl rfl hc j _ s12 (wipe σ8 vs1) H12 (fun _ _ => False) I12 (stat1 n12) st12 go1) fun r s13 ⟨u1, hr, h13⟩ => ?_
            subst hr
            refine thnF h13 fun _ s14 ⟨x1, H14, I14, r14, y14, st14, n14⟩ => ?_
            have I14' := I14.pinned (stat1 n14) (T1.obj _ _ st14)
            refine thnF (pg1.run _ s14 (wipe σ8 vs1) H14 x1 u1 _ I14' r14 (step1 x1 H14 y14)) fun _ s15 ⟨σ15, H15, I15, hw15, q15⟩ => ?_
            refine thnF (pt1.run _ s15 σ15 H15 _ I15 q15) fun b1 s16 ⟨H16, I16, q16⟩ => ?_
            have fin1 : ∀ {s' : Shared} {H' : Hp}, Inv (X.blk s3 H3 scope ce fp) (([] ++ pinsAt fp s7.heap) ++ pinsAt fp1 s14.heap) σ15 H' s' → Nx1 H' → ∃ m, m < k ∧ ∃ j H', Inv (X.blk s3 H3 scope ce fp) ([] ++ pinsAt fp s7.heap) (wipe σ8 vs1) H' s' ∧ tn1 j s'.heap ∧ (∀ b ∈ fp1, H' b = none) ∧ W1 j m H' := fun {s' H'} I' nx => by
              obtain ⟨m', hm, w'⟩ := hNx1 H' nx
              have pin' : ∀ b ∈ fp1, ∀ o, s14.heap.get? b = some o → s'.heap.get? b = some o ∧ H' b = none := fun b hb o e =>
                let z := I'.pin (b, o) (List.mem_append_right _ (List.mem_append_right _ (mem_pinsAt hb e)))
                ⟨z.1, z.2.1⟩
              refine ⟨m', hm, j + 1, H', I'.unpinned.weak (by rw [← hw15, wipe_length]) (fun j v e => by rw [← hw15] at e; exact (wipe_some e).1), T1.keep _ _ _ st14 fun b hb o e => (pin' b hb o e).1, fun b hb => ?_, w'⟩
              obtain ⟨o, e, _⟩ := T1.obj _ _ st14 b hb
              exact (pin' b hb o e).2
            cases b1 with
            | false =>
              simp only [Bool.false_eq_true, if_false] at q16 ⊢
              exact fin1 I16 q16
            | true =>
              simp only [if_true] at q16 ⊢
              refine thnF (pk.run _ s16 σ15 H16 _ I16 q16) fun z s17 ⟨yk, H17, I17, r17, q17⟩ => ?_
              refine thnF (pe.run _ s17 σ15 H17 _ I17 q17) fun z2 s18 ⟨yv, H18, I18, r18, kvs, k, ek, hD18, hz18, nx⟩ => ?_
              subst ek
              exact d_dictSet (X := X.blk s3 H3 scope ce fp) I18 hD18 hz18 r17 r18 fun s19 I19 => fin1 I19 nx
        exact compStart1D_ok loop1 (T1.self X.A 0 _ _ _ st11 loop1)
  exact codeAny_compStart_dict loop (T.self X.A 0 _ _ _ st4 loop)
/-- as a value -/
theorem pe_dc2 {kx vx tg iter tg1 iter1 : Expr} {ifs ifs1 : List Expr} {scope : Scope} {own : List (Str × Nat)} {vs1 : List Nat} {pos : Pos} {wi wi1 : TI} {g g1 : TG} {tt tt1 : TT} {tk tv : TE} (hc : X.calm = true) (hN : X.N.Nodup) (hi : PI X tg iter wi) (ok : BlkOk X.N X.env.scope scope own) (hv : ∀ i ∈ vs1, i ∈ own.map (·.2))
    (hg : ∀ (s : Shared) (H : Hp) (C : Addr) (cl : List (Str × Addr)) (fp : List Addr), PG (X.blk s H scope (compEnvC scope cl C X.env) fp) tg g) (ht : ∀ (s : Shared) (H : Hp) (C : Addr) (cl : List (Str × Addr)) (fp : List Addr), PTs (X.blk s H scope (compEnvC scope cl C X.env) fp) ifs tt)
    (hi1 : ∀ (s : Shared) (H : Hp) (C : Addr) (cl : List (Str × Addr)) (fp : List Addr), PI (X.blk s H scope (compEnvC scope cl C X.env) fp) tg1 iter1 wi1)
    (hg1 : ∀ (s : Shared) (H : Hp) (C : Addr) (cl : List (Str × Addr)) (fp : List Addr), PG (X.blk s H scope (compEnvC scope cl C X.env) fp) tg1 g1) (ht1 : ∀ (s : Shared) (H : Hp) (C : Addr) (cl : List (Str × Addr)) (fp : List Addr), PTs (X.blk s H scope (compEnvC scope cl C X.env) fp) ifs1 tt1)
    (hk : ∀ (s : Shared) (H : Hp) (C : Addr) (cl : List (Str × Addr)) (fp : List Addr), PE (X.blk s H scope (compEnvC scope cl C X.env) fp) kx tk) (he : ∀ (s : Shared) (H : Hp) (C : Addr) (cl : List (Str × Addr)) (fp : List Addr), PE (X.blk s H scope (compEnvC scope cl C X.env) fp) vx tv) (hs : ∀ x, foldedSetIterable iter X.env x = pure x := by intro _; rfl) (hs1 : ∀ env x, foldedSetIterable iter1 env x = pure x := by intro _ _; rfl) :
    PE X (.DictComp kx vx [⟨tg, iter, ifs, 0⟩, ⟨tg1, iter1, ifs1, 0⟩] scope pos) (tDc2 wi g tt wi1 g1 tt1 tk tv (own.map (·.2)) vs1) := by
  refine ⟨fun pins s σ H Q I h => ?_⟩
  rw [arm_eval_DictComp]
  refine dc2_core hc hN I hi ok hv hg ht hk he hs hi1 hg1 ht1 hs1 h fun D C s' m H' I' q hn f => ⟨m, hn, fun h'' sb => ?_⟩
  obtain ⟨f0, f1, f2, f3, f4, f5⟩ := f
  exact ⟨.ref D, H', I'.turned (t' := s'.toks) (fun b o hb e => (sb.2 b hb).trans e) f0 f1 f3 f4 f5, rfl, q⟩
end
end VX
set_option Elab.async false
set_option linter.all false
set_option maxRecDepth 100000
set_option maxHeartbeats 4000000
/-! dict comprehensions, list comprehensions with two clauses, by value -/
namespace VX
open PySem PySem.Spec PyProof.Rows L2

def compP (tf : TgF) (gt : Env → M Bool) (gk ge : Env → M D) (env : Env) : List D → M (List (KS × D))
  | [] => M.pure []
  | d :: ds => match tf d env with
    | none => M.fail
    | some env1 => M.bind (gt env1) fun b => if b = true then M.bind (gk env1) fun k => M.bind (ge env1) fun y => M.bind (M.opt k.ks) fun k => M.bind (compP tf gt gk ge env ds) fun ys => M.pure ((k, y) :: ys) else compP tf gt gk ge env ds
abbrev dcF (vs : List Nat) (gi : Env → M (List D)) (tf : TgF) (gt : Env → M Bool) (gk ge : Env → M D) : Env → M SV := fun env => M.bind (gi env) fun ds => M.bind (noX (compP tf gt gk ge (drp vs env) ds)) fun r => if r.length ≤ sizeLine then M.pure (.dct (mergeD [] r)) else M.fail
/-- the slots that hold data -/
def dOnly (env : Env) : Env := env.map fun o => match o with
  | some (.dat d) => some (.dat d)
  | _ => none
def compP2 (tf : TgF) (gt : Env → M Bool) (vs1 : List Nat) (gi1 : Env → M (List D)) (tf1 : TgF) (gt1 : Env → M Bool) (gk ge : Env → M D) (env : Env) : List D → M (List (KS × D))
  | [] => M.pure []
  | d :: ds => match tf d env with
    | none => M.fail
    | some env1 => M.bind (gt env1) fun b => if b = true then M.bind (gi1 env1) fun ds1 => M.bind (compP tf1 gt1 gk ge (drp vs1 (dOnly env1)) ds1) fun l1 => M.bind (compP2 tf gt vs1 gi1 tf1 gt1 gk ge env ds) fun l => M.pure (l1 ++ l) else compP2 tf gt vs1 gi1 tf1 gt1 gk ge env ds
abbrev dc2F (vs : List Nat) (gi : Env → M (List D)) (tf : TgF) (gt : Env → M Bool) (vs1 : List Nat) (gi1 : Env → M (List D)) (tf1 : TgF) (gt1 : Env → M Bool) (gk ge : Env → M D) : Env → M SV := fun env => M.bind (gi env) fun ds => M.bind (noX (compP2 tf gt vs1 gi1 tf1 gt1 gk ge (drp vs env) ds)) fun r => if r.length ≤ sizeLine then M.pure (.dct (mergeD [] r)) else M.fail
theorem mergeD_snoc (l : List (KS × D)) (k : KS) (d : D) : mergeD [] (l ++ [(k, d)]) = putD (mergeD [] l) k d := by unfold mergeD; rw [List.foldl_append]; rfl
theorem putD_len (l : List (KS × D)) (k : KS) (d : D) : (putD l k d).length ≤ l.length + 1 := by
  unfold putD
  split
  · simp
  · simp
theorem mergeD_len : ∀ (m l : List (KS × D)), (mergeD l m).length ≤ l.length + m.length
  | [], l => Nat.le_refl _
  | (k, d) :: m, l => by
    have := mergeD_len m (putD l k d)
    have := putD_len l k d
    show (mergeD (putD l k d) m).length ≤ _
    simp only [List.length_cons]
    omega
section
variable {K : PySem.W.Frag} {w : World} {mg : Str → Option Value} {B : Addr → Prop} {G : Hp} {ρ : List Addr} {H : Hp} {σ : L2.St} {env : Env}
theorem dOnly_at {j : Nat} {sv : SV} (h : (dOnly env)[j]? = some (some sv)) : ∃ d, sv = .dat d ∧ env[j]? = some (some (.dat d)) := by
  unfold dOnly at h
  rw [List.getElem?_map] at h
  cases e : env[j]? with
  | none => rw [e] at h; cases h
  | some o =>
    rw [e] at h
    simp only [Option.map_some, Option.some.injEq] at h
    split at h
    · rename_i d
      cases h
      exact ⟨d, rfl, rfl⟩
    · cases h
theorem FrV.dOnly (fr : FrV K w mg B G ρ H env σ) : FrV K w mg B G ρ H (VX.dOnly env) σ := by
  refine ⟨fr.old, fun i sv p e o => ?_, by unfold VX.dOnly; rw [List.length_map, fr.len], fun i sv e => ?_, fun i j si sj p _ e _ o => ?_⟩
  · obtain ⟨d, rfl, _⟩ := dOnly_at e; cases o
  · obtain ⟨d, rfl, h⟩ := dOnly_at e; exact fr.at_ i _ h
  · obtain ⟨d, rfl, _⟩ := dOnly_at e; cases o
theorem FrV.dPut {p : Addr} {o : HO} (fr : FrV K w mg B G ρ H (VX.dOnly env) σ) : FrV K w mg B G ρ (upd H p o) (VX.dOnly env) σ := by
  refine ⟨fun b hb z => fr.old b hb ?_, fr.new, fr.len, fun i sv e => ?_, fr.ne⟩
  · by_cases hp : b = p
    · subst hp; rw [upd_same] at z; cases z
    · rwa [upd_ne hp] at z
  · obtain ⟨v, hv, r⟩ := fr.at_ i sv e
    obtain ⟨d, rfl, _⟩ := dOnly_at e
    rcases r with ⟨d', e', r⟩ | ⟨_, _, _, _, o⟩
    · cases e'; exact ⟨v, hv, .inl ⟨d, rfl, r⟩⟩
    · exact o.elim
end
theorem M.opt_ok {α : Type} {o : Option α} {S S' : Sto} {a : α} (h : M.opt o S = some (.ok a, S')) : o = some a ∧ S = S' := by
  cases o with
  | none => cases h
  | some x =>
    injection h with h
    injection h with h1 h2
    injection h1 with h1
    exact ⟨by rw [h1], h2⟩
theorem M.pure_ok {α : Type} {x a : α} {S S' : Sto} (h : M.pure x S = some (.ok a, S')) : x = a ∧ S = S' := by
  injection h with h
  injection h with h1 h2
  injection h1 with h1
  exact ⟨h1, h2⟩
section
variable {X : Cx} {Z : Zt} {tg iter tg1 iter1 elt kx vx : Expr} {ifs ifs1 : List Expr} {vs us : List Nat} {tf tf1 : TgF} {gi gi1 : Env → M (List D)} {gt gt1 : Env → M Bool} {ge gk : Env → M D} {Y Y1 : YR} {pos pos' : Pos} {scope : Scope} {own : List (Str × Nat)}
/-- the new dict at d, as it stands: l was put in -/
structure DcAt (X : Cx) (G1 : Hp) (ρ1 : List Addr) (H1 : Hp) (d : Addr) (l : List (KS × D)) (G : Hp) (ρ : List Addr) (S : Sto) (H : Hp) : Prop where
  wd : Wd X.K X.w X.mg G ρ S H
  ext : Ext G1 ρ1 H1 G ρ H
  at_ : ∃ acv, H d = some (.dK acv) ∧ RKs X.K X.w X.mg G ρ acv (mergeD [] l)
  gn : G d = none
  rn : d ∉ ρ
theorem DcAt.on {G1 G G' : Hp} {ρ1 ρ ρ' : List Addr} {H1 H H' : Hp} {d : Addr} {l : List (KS × D)} {S S' : Sto} (a : DcAt X G1 ρ1 H1 d l G ρ S H) (x : Ext G ρ H G' ρ' H') (w : Wd X.K X.w X.mg G' ρ' S' H') : DcAt X G1 ρ1 H1 d l G' ρ' S' H' := by
  obtain ⟨acv, h1, h2⟩ := a.at_
  exact ⟨w, a.ext.trans x, ⟨acv, x.keep d _ h1 a.rn, h2.up x.up⟩, x.newG d a.gn (by rw [h1]; simp), fun z => (x.newR d z).elim a.rn fun z => by rw [h1] at z; cases z⟩
theorem DcAt.put {G1 G : Hp} {ρ1 ρ : List Addr} {H1 H : Hp} {d : Addr} {l : List (KS × D)} {S : Sto} (a : DcAt X G1 ρ1 H1 d l G ρ S H) (h0 : H1 d = none) {kd e : D} {k : KS} (hk : kd.ks = some k) {kv v : V} (rk : Rep X.K X.w X.mg G ρ kv kd) (rv : Rep X.K X.w X.mg G ρ v e) (hl : l.length < sizeLine) :
    ∃ kvs kk, kv = kV kk ∧ H d = some (.dK kvs) ∧ kvs.length < sizeLine ∧ DcAt X G1 ρ1 H1 d (l ++ [(k, e)]) G ρ S (upd H d (.dK (putK kvs kk v))) := by
  obtain ⟨acv, h1, h2⟩ := a.at_
  refine ⟨acv, k.key, ?_, h1, ?_, a.wd.put a.gn a.rn (by rw [h1]; simp), a.ext.put h0, ⟨_, upd_same, ?_⟩, a.gn, a.rn⟩
  · cases rk <;> first | (cases hk; rfl) | cases hk
  · rw [h2.length]
    have := mergeD_len l []
    simp only [List.length_nil] at this
    omega
  · rw [mergeD_snoc]
    exact h2.put rv k
theorem dc_law (hv : ∀ j ∈ vs, j ∈ own.map (·.2)) {σ : L2.St} {H : Hp} {Q : VK} (q : tF X.K X.w X.mg Z (dcF (own.map (·.2)) gi tf gt gk ge) σ H Q) :
    tDc (tI X.K X.w X.mg Z Y gi) (gT X.K X.w X.mg Y Z.B vs tf) (tT X.K X.w X.mg (z0 Z) gt) (tV X.K X.w X.mg (z0 Z) gk) (tV X.K X.w X.mg (z0 Z) ge) (own.map (·.2)) σ H Q := by
  obtain ⟨G, ρ, S, env, wd, fr, run⟩ := q
  refine ⟨G, ρ, S, env, wd, fr, run.bind.imp fun ds G1 ρ1 S1 H1 ⟨x1, w1, r1⟩ J C it c1 D hD => ?_⟩
  generalize own.map (·.2) = vv at hv r1 ⊢
  have key : ∃ r Sf, compP tf gt gk ge (drp vv env) ds S1 = some (.ok r, Sf) ∧ r.length ≤ sizeLine ∧ ∀ G' ρ' H', Ext G1 ρ1 H1 G' ρ' H' → Wd X.K X.w X.mg G' ρ' Sf H' → ∀ v, SVR X.K X.w X.mg G' ρ' H' v (.dct (mergeD [] r)) → (∀ p, v = .ref p → H p = none) → Q v H' := by
    unfold Run M.bind noX at r1
    cases e : compP tf gt gk ge (drp vv env) ds S1 with
    | none => rw [e] at r1; exact r1.elim
    | some z =>
      obtain ⟨z, Sf⟩ := z
      rw [e] at r1
      cases z with
      | error _ => exact r1.elim
      | ok r =>
        dsimp only at r1
        by_cases hz : r.length ≤ sizeLine
        · rw [if_pos hz] at r1
          exact ⟨r, Sf, rfl, hz, fun G' ρ' H' x' w' v rv f => (r1 G' ρ' H' x' w').2 v rv fun _ => f⟩
        · rw [if_neg hz] at r1; exact r1.elim
  obtain ⟨r, Sf, er, hz, fin⟩ := key
  obtain ⟨w2, x2, gp, np⟩ := w1.own (o := .dK []) hD
  refine ⟨fun i m H => m = ds.length - i ∧ i ≤ ds.length ∧ ∃ G ρ S acc rest, DcAt X G1 ρ1 H1 D acc G ρ S H ∧ C G ρ ∧ compP tf gt gk ge (drp vv env) (ds.drop i) S = some (.ok rest, Sf) ∧ acc ++ rest = r,
    ⟨ds.length, by simp, Nat.zero_le _, G1, ρ1, S1, [], r, ⟨w2, x2, ⟨[], upd_same, .nil⟩, gp, np⟩, c1, er, rfl⟩, ?_⟩
  rintro i m H2 ⟨rfl, hi, G2, ρ2, S2, acc, rest, a2, c2, e2, ea⟩
  by_cases hlt : i < ds.length
  · refine .inr ⟨it.go _ _ _ _ _ a2.wd c2 hlt, fun H => ∃ G ρ S acc rest, DcAt X G1 ρ1 H1 D acc G ρ S H ∧ C G ρ ∧ compP tf gt gk ge (drp vv env) (ds.drop (i + 1)) S = some (.ok rest, Sf) ∧ acc ++ rest = r,
      fun H' z => ⟨_, by omega, rfl, hlt, z⟩, fun x H3 y => ?_⟩
    obtain ⟨w3, x3, yy⟩ := it.yld _ _ _ _ _ _ _ ds[i] a2.wd c2 y (by simp [hlt])
    have a3 := a2.on x3 w3
    rw [List.drop_eq_getElem_cons hlt] at e2
    unfold compP at e2
    cases et : tf ds[i] (drp vv env) with
    | none => rw [et] at e2; cases e2
    | some env1 =>
      rw [et] at e2
      obtain ⟨b, S4, eb, e4⟩ := M.bind_ok e2
      refine ⟨G2, ρ2, S2, _, _, env1, w3, (fr.ext (x1.trans a3.ext)).wipe vv, yy, et, fun σ3 f3 l3 s3 => ⟨wipe_eq l3 s3 hv, G2, ρ2, S2, env1, w3, f3, Run.okB eb fun G4 ρ4 H4 x4 w4 => ?_⟩⟩
      have a4 := a3.on x4 w4
      have c4 := it.up _ _ _ _ (x3.trans x4).up c2
      cases b with
      | false =>
        rw [if_neg Bool.false_ne_true] at e4
        exact iteF ⟨G4, ρ4, S4, acc, rest, a4, c4, e4, ea⟩
      | true =>
        rw [if_pos rfl] at e4
        obtain ⟨kd, S5, ek, e5⟩ := M.bind_ok e4
        obtain ⟨vd, S6, ev, e6⟩ := M.bind_ok e5
        obtain ⟨k, S7, ekk, e7⟩ := M.bind_ok e6
        obtain ⟨hk, rfl⟩ := M.opt_ok ekk
        obtain ⟨ys, S8, ey, e8⟩ := M.bind_ok e7
        obtain ⟨rfl, rfl⟩ := M.pure_ok e8
        refine iteT ⟨G4, ρ4, S4, env1, w4, f3.ext x4, Run.okB ek fun G5 ρ5 H5 x5 w5 kv rk => ⟨G5, ρ5, S5, env1, w5, (f3.ext x4).ext x5, Run.okB ev fun G6 ρ6 H6 x6 w6 v rv => ?_⟩⟩
        have a6 := (a4.on x5 w5).on x6 w6
        have hlen : acc.length < sizeLine := by
          have : (acc ++ (k, vd) :: ys).length = r.length := by rw [ea]
          rw [List.length_append, List.length_cons] at this
          omega
        obtain ⟨kvs, kk, z1, z2, z3, z4⟩ := a6.put hD hk (rk.up x6.up) rv hlen
        exact ⟨kvs, kk, z1, z2, z3, G6, ρ6, S6, _, ys, z4, it.up _ _ _ _ (x5.trans x6).up c4, ey, by rw [List.append_assoc]; exact ea⟩
  · have e : i = ds.length := by omega
    subst e
    rw [List.drop_length] at e2
    obtain ⟨rfl, rfl⟩ := M.pure_ok e2
    rw [List.append_nil] at ea
    subst ea
    obtain ⟨acv, h1, h2⟩ := a2.at_
    exact .inl ⟨it.stop _ _ _ _ a2.wd c2, fin _ _ _ a2.ext a2.wd _ (.inr ⟨D, rfl, a2.gn, a2.rn, acv, h1, h2⟩) fun p e => by injection e with e; subst e; exact x1.dom _ hD⟩
theorem dc2_law (hv : ∀ j ∈ vs, j ∈ own.map (·.2)) {σ : L2.St} {vs1 : List Nat} (hv1 : ∀ j ∈ us, j ∈ vs1) {H : Hp} {Q : VK} (q : tF X.K X.w X.mg Z (dc2F (own.map (·.2)) gi tf gt vs1 gi1 tf1 gt1 gk ge) σ H Q) :
    tDc2 (tI X.K X.w X.mg Z Y gi) (gT X.K X.w X.mg Y Z.B vs tf) (tT X.K X.w X.mg (z0 Z) gt) (tI X.K X.w X.mg (z0 Z) Y1 gi1) (gT X.K X.w X.mg Y1 Z.B us tf1) (tT X.K X.w X.mg (z0 Z) gt1) (tV X.K X.w X.mg (z0 Z) gk) (tV X.K X.w X.mg (z0 Z) ge) (own.map (·.2)) vs1 σ H Q := by
  obtain ⟨G, ρ, S, env, wd, fr, run⟩ := q
  refine ⟨G, ρ, S, env, wd, fr, run.bind.imp fun ds G1 ρ1 S1 H1 ⟨x1, w1, r1⟩ J C it c1 D hD => ?_⟩
  generalize own.map (·.2) = vv at hv r1 ⊢
  have key : ∃ r Sf, compP2 tf gt vs1 gi1 tf1 gt1 gk ge (drp vv env) ds S1 = some (.ok r, Sf) ∧ r.length ≤ sizeLine ∧ ∀ G' ρ' H', Ext G1 ρ1 H1 G' ρ' H' → Wd X.K X.w X.mg G' ρ' Sf H' → ∀ v, SVR X.K X.w X.mg G' ρ' H' v (.dct (mergeD [] r)) → (∀ p, v = .ref p → H p = none) → Q v H' := by
    unfold Run M.bind noX at r1
    cases e : compP2 tf gt vs1 gi1 tf1 gt1 gk ge (drp vv env) ds S1 with
    | none => rw [e] at r1; exact r1.elim
    | some z =>
      obtain ⟨z, Sf⟩ := z
      rw [e] at r1
      cases z with
      | error _ => exact r1.elim
      | ok r =>
        dsimp only at r1
        by_cases hz : r.length ≤ sizeLine
        · rw [if_pos hz] at r1
          exact ⟨r, Sf, rfl, hz, fun G' ρ' H' x' w' v rv f => (r1 G' ρ' H' x' w').2 v rv fun _ => f⟩
        · rw [if_neg hz] at r1; exact r1.elim
  obtain ⟨r, Sf, er, hz, fin⟩ := key
  obtain ⟨w2, x2, gp, np⟩ := w1.own (o := .dK []) hD
  refine ⟨fun i m H => m = ds.length - i ∧ i ≤ ds.length ∧ ∃ G ρ S acc rest, DcAt X G1 ρ1 H1 D acc G ρ S H ∧ C G ρ ∧ compP2 tf gt vs1 gi1 tf1 gt1 gk ge (drp vv env) (ds.drop i) S = some (.ok rest, Sf) ∧ acc ++ rest = r,
    ⟨ds.length, by simp, Nat.zero_le _, G1, ρ1, S1, [], r, ⟨w2, x2, ⟨[], upd_same, .nil⟩, gp, np⟩, c1, er, rfl⟩, ?_⟩
  rintro i m H2 ⟨rfl, hi, G2, ρ2, S2, acc, rest, a2, c2, e2, ea⟩
  by_cases hlt : i < ds.length
  · refine .inr ⟨it.go _ _ _ _ _ a2.wd c2 hlt, fun H => ∃ G ρ S acc rest, DcAt X G1 ρ1 H1 D acc G ρ S H ∧ C G ρ ∧ compP2 tf gt vs1 gi1 tf1 gt1 gk ge (drp vv env) (ds.drop (i + 1)) S = some (.ok rest, Sf) ∧ acc ++ rest = r,
      fun H' z => ⟨_, by omega, rfl, hlt, z⟩, fun x H3 y => ?_⟩
    obtain ⟨w3, x3, yy⟩ := it.yld _ _ _ _ _ _ _ ds[i] a2.wd c2 y (by simp [hlt])
    have a3 := a2.on x3 w3
    rw [List.drop_eq_getElem_cons hlt] at e2
    unfold compP2 at e2
    cases et : tf ds[i] (drp vv env) with
    | none => rw [et] at e2; cases e2
    | some env1 =>
      rw [et] at e2
      obtain ⟨b, S4, eb, e4⟩ := M.bind_ok e2
      refine ⟨G2, ρ2, S2, _, _, env1, w3, (fr.ext (x1.trans a3.ext)).wipe vv, yy, et, fun σ3 f3 l3 s3 => ⟨wipe_eq l3 s3 hv, G2, ρ2, S2, env1, w3, f3, Run.okB eb fun G4 ρ4 H4 x4 w4 => ?_⟩⟩
      have a4 := a3.on x4 w4
      have c4 := it.up _ _ _ _ (x3.trans x4).up c2
      cases b with
      | false =>
        rw [if_neg Bool.false_ne_true] at e4
        exact iteF ⟨G4, ρ4, S4, acc, rest, a4, c4, e4, ea⟩
      | true =>
        rw [if_pos rfl] at e4
        obtain ⟨ds1, S5, eds, e5⟩ := M.bind_ok e4
        obtain ⟨l1, S6, el1, e6⟩ := M.bind_ok e5
        obtain ⟨ls, S7, els, e7⟩ := M.bind_ok e6
        obtain ⟨rfl, rfl⟩ := M.pure_ok e7
        refine iteT ⟨G4, ρ4, S4, env1, w4, f3.ext x4, Run.okB eds fun G5 ρ5 H5 x5 w5 J1 C1 it1 k1 => ?_⟩
        have a5 := a4.on x5 w5
        have f5 := ((f3.ext x4).ext x5).dOnly
        have c5 := it.up _ _ _ _ x5.up c4
        refine ⟨fun j m H => m = ds1.length - j ∧ j ≤ ds1.length ∧ ∃ G ρ S ac1 re1, DcAt X G1 ρ1 H1 D (acc ++ ac1) G ρ S H ∧ FrV X.K X.w X.mg Z.B G ρ H (dOnly env1) σ3 ∧ C1 G ρ ∧ C G ρ ∧ compP tf1 gt1 gk ge (drp vs1 (dOnly env1)) (ds1.drop j) S = some (.ok re1, S6) ∧ ac1 ++ re1 = l1,
          ⟨ds1.length, by simp, Nat.zero_le _, G5, ρ5, S5, [], l1, by rw [List.append_nil]; exact a5, f5, k1, c5, el1, rfl⟩, ?_⟩
        rintro j m H8 ⟨rfl, hj, G8, ρ8, S8, ac1, re1, a8, x8, k8, c8, e8, ea8⟩
        by_cases hlt1 : j < ds1.length
        · refine .inr ⟨it1.go _ _ _ _ _ a8.wd k8 hlt1, fun H => ∃ G ρ S ac1 re1, DcAt X G1 ρ1 H1 D (acc ++ ac1) G ρ S H ∧ FrV X.K X.w X.mg Z.B G ρ H (dOnly env1) σ3 ∧ C1 G ρ ∧ C G ρ ∧ compP tf1 gt1 gk ge (drp vs1 (dOnly env1)) (ds1.drop (j + 1)) S = some (.ok re1, S6) ∧ ac1 ++ re1 = l1,
            fun H' z => ⟨_, by omega, rfl, hlt1, z⟩, fun x H9 y => ?_⟩
          obtain ⟨w9, x9, yy9⟩ := it1.yld _ _ _ _ _ _ _ ds1[j] a8.wd k8 y (by simp [hlt1])
          have a9 := a8.on x9 w9
          rw [List.drop_eq_getElem_cons hlt1] at e8
          unfold compP at e8
          cases et1 : tf1 ds1[j] (drp vs1 (dOnly env1)) with
          | none => rw [et1] at e8; cases e8
          | some env2 =>
            rw [et1] at e8
            obtain ⟨b1, S10, eb1, e10⟩ := M.bind_ok e8
            refine ⟨G8, ρ8, S8, _, _, env2, w9, (x8.ext x9).wipe vs1, yy9, et1, fun σ10 f10 l10 s10 => ⟨wipe_eq l10 s10 hv1, G8, ρ8, S8, env2, w9, f10, Run.okB eb1 fun G10 ρ10 H10 x10 w10 => ?_⟩⟩
            have a10 := a9.on x10 w10
            have k10 := it1.up _ _ _ _ (x9.trans x10).up k8
            have c10 := it.up _ _ _ _ (x9.trans x10).up c8
            have x5a := (x8.ext x9).ext x10
            cases b1 with
            | false =>
              rw [if_neg Bool.false_ne_true] at e10
              exact iteF ⟨G10, ρ10, S10, ac1, re1, a10, x5a, k10, c10, e10, ea8⟩
            | true =>
              rw [if_pos rfl] at e10
              obtain ⟨kd, S11, ek, e11⟩ := M.bind_ok e10
              obtain ⟨vd, S12, ev, e12⟩ := M.bind_ok e11
              obtain ⟨k, S13, ekk, e13⟩ := M.bind_ok e12
              obtain ⟨hk, rfl⟩ := M.opt_ok ekk
              obtain ⟨ys, S14, ey, e14⟩ := M.bind_ok e13
              obtain ⟨rfl, rfl⟩ := M.pure_ok e14
              refine iteT ⟨G10, ρ10, S10, env2, w10, f10.ext x10, Run.okB ek fun G11 ρ11 H11 x11 w11 kv rk => ⟨G11, ρ11, S11, env2, w11, (f10.ext x10).ext x11, Run.okB ev fun G12 ρ12 H12 x12 w12 v rv => ?_⟩⟩
              have a12 := (a10.on x11 w11).on x12 w12
              have hlen : (acc ++ ac1).length < sizeLine := by
                have h1 : (acc ++ (l1 ++ ls)).length = r.length := by rw [ea]
                have h2 : (ac1 ++ (k, vd) :: ys).length = l1.length := by rw [ea8]
                simp only [List.length_append, List.length_cons] at h1 h2 ⊢
                omega
              obtain ⟨kvs, kk, z1, z2, z3, z4⟩ := a12.put hD hk (rk.up x12.up) rv hlen
              exact ⟨kvs, kk, z1, z2, z3, G12, ρ12, S12, ac1 ++ [(k, vd)], ys, by rw [← List.append_assoc]; exact z4, ((x5a.ext x11).ext x12).dPut, it1.up _ _ _ _ (x11.trans x12).up k10, it.up _ _ _ _ (x11.trans x12).up c10, ey, by rw [List.append_assoc]; exact ea8⟩
        · have e : j = ds1.length := by omega
          subst e
          rw [List.drop_length] at e8
          obtain ⟨rfl, rfl⟩ := M.pure_ok e8
          rw [List.append_nil] at ea8
          subst ea8
          exact .inl ⟨it1.stop _ _ _ _ a8.wd k8, G8, ρ8, S8, acc ++ ac1, ls, a8, c8, els, by rw [List.append_assoc]; exact ea⟩
  · have e : i = ds.length := by omega
    subst e
    rw [List.drop_length] at e2
    obtain ⟨rfl, rfl⟩ := M.pure_ok e2
    rw [List.append_nil] at ea
    subst ea
    obtain ⟨acv, h1, h2⟩ := a2.at_
    exact .inl ⟨it.stop _ _ _ _ a2.wd c2, fin _ _ _ a2.ext a2.wd _ (.inr ⟨D, rfl, a2.gn, a2.rn, acv, h1, h2⟩) fun p e => by injection e with e; subst e; exact x1.dom _ hD⟩
theorem ef_dc (hN : X.N.Nodup) (hi : EI X Z Y tg iter gi) (ok : BlkOk X.N X.env.scope scope own) (hv : ∀ j ∈ vs, j ∈ own.map (·.2))
    (hg : ∀ (s : Shared) (H : Hp) (C : Addr) (cl : List (Str × Addr)) (fp : List Addr), GT (X.blk s H scope (compEnvC scope cl C X.env) fp) (z0 Z) Y tg vs tf) (ht : ∀ (s : Shared) (H : Hp) (C : Addr) (cl : List (Str × Addr)) (fp : List Addr), ETs (X.blk s H scope (compEnvC scope cl C X.env) fp) (z0 Z) ifs gt)
    (hk : ∀ (s : Shared) (H : Hp) (C : Addr) (cl : List (Str × Addr)) (fp : List Addr), EV (X.blk s H scope (compEnvC scope cl C X.env) fp) (z0 Z) kx gk) (he : ∀ (s : Shared) (H : Hp) (C : Addr) (cl : List (Str × Addr)) (fp : List Addr), EV (X.blk s H scope (compEnvC scope cl C X.env) fp) (z0 Z) vx ge)
    (hc : X.calm = true := by rfl) (hs : ∀ x, foldedSetIterable iter X.env x = pure x := by intro _; rfl) :
    EF X Z (.DictComp kx vx [⟨tg, iter, ifs, 0⟩] scope pos) (dcF (own.map (·.2)) gi tf gt gk ge) := PE.mono (pe_dc hc hN hi ok hg ht hk he hs) fun σ H Q q => dc_law hv q
theorem ef_dc2 (vs1 : List Nat) (hN : X.N.Nodup) (hi : EI X Z Y tg iter gi) (ok : BlkOk X.N X.env.scope scope own) (hv : ∀ j ∈ vs, j ∈ own.map (·.2)) (hv1 : ∀ j ∈ us, j ∈ vs1) (hv2 : ∀ j ∈ vs1, j ∈ own.map (·.2))
    (hg : ∀ (s : Shared) (H : Hp) (C : Addr) (cl : List (Str × Addr)) (fp : List Addr), GT (X.blk s H scope (compEnvC scope cl C X.env) fp) (z0 Z) Y tg vs tf) (ht : ∀ (s : Shared) (H : Hp) (C : Addr) (cl : List (Str × Addr)) (fp : List Addr), ETs (X.blk s H scope (compEnvC scope cl C X.env) fp) (z0 Z) ifs gt)
    (hi1 : ∀ (s : Shared) (H : Hp) (C : Addr) (cl : List (Str × Addr)) (fp : List Addr), EI (X.blk s H scope (compEnvC scope cl C X.env) fp) (z0 Z) Y1 tg1 iter1 gi1)
    (hg1 : ∀ (s : Shared) (H : Hp) (C : Addr) (cl : List (Str × Addr)) (fp : List Addr), GT (X.blk s H scope (compEnvC scope cl C X.env) fp) (z0 Z) Y1 tg1 us tf1) (ht1 : ∀ (s : Shared) (H : Hp) (C : Addr) (cl : List (Str × Addr)) (fp : List Addr), ETs (X.blk s H scope (compEnvC scope cl C X.env) fp) (z0 Z) ifs1 gt1)
    (hk : ∀ (s : Shared) (H : Hp) (C : Addr) (cl : List (Str × Addr)) (fp : List Addr), EV (X.blk s H scope (compEnvC scope cl C X.env) fp) (z0 Z) kx gk) (he : ∀ (s : Shared) (H : Hp) (C : Addr) (cl : List (Str × Addr)) (fp : List Addr), EV (X.blk s H scope (compEnvC scope cl C X.env) fp) (z0 Z) vx ge)
    (hc : X.calm = true := by rfl) (hs : ∀ x, foldedSetIterable iter X.env x = pure x := by intro _; rfl) (hs1 : ∀ env x, foldedSetIterable iter1 env x = pure x := by intro _ _; rfl) :
    EF X Z (.DictComp kx vx [⟨tg, iter, ifs, 0⟩, ⟨tg1, iter1, ifs1, 0⟩] scope pos) (dc2F (own.map (·.2)) gi tf gt vs1 gi1 tf1 gt1 gk ge) := PE.mono (pe_dc2 hc hN hi ok hv2 hg ht hi1 hg1 ht1 hk he hs hs1) fun σ H Q q => dc2_law hv hv1 q
end
end VX
set_option Elab.async false
set_option linter.all false
set_option maxRecDepth 100000
set_option maxHeartbeats 4000000
/-! sets of texts, sorted: turned from the library's sets of whole numbers -/
namespace VXT
open PySem PySem.Spec PyProof.Rows L2
def keyS (e : Int × Value) : Str := match e.2 with | .str k _ => k | _ => Str.empty
def GoodS (w : World) (e : Int × Value) : Prop := ∃ k tk, e.2 = Value.str k tk ∧ e.1 = hashStr w k

/-- the set of ints at a: S its members, n their number; its table rises and can be walked -/
def SetRS (w : World) (h : Heap) (a : Addr) (S : Str → Bool) (n : Nat) : Prop :=
  ∃ o es ep t, h.get? a = some o ∧ o.ExactSet ∧ o.data = .set es ep t ∧ (∀ e ∈ es.toList, GoodS w e) ∧ (es.toList.map keyS).Nodup ∧ (∀ k, S k = true ↔ k ∈ es.toList.map keyS) ∧
    es.size < scanBound ∧ t.fits es.size = true ∧ es.size = n ∧ Ris t.place.toList ∧ (w.params.followText "set-order" = true ∨ t.led = true)

section
variable {P : Program} {w : World} {h h' : Heap} {a : Addr} {S : Str → Bool} {n : Nat}

theorem SetRS.at (R : SetRS w h a S n) (k : ∀ o, h.get? a = some o → h'.get? a = some o) : SetRS w h' a S n := by
  obtain ⟨o, es, ep, t, ho, r⟩ := R
  exact ⟨o, es, ep, t, k o ho, r⟩
theorem SetRS.lt (R : SetRS w h a S n) : a < h.objs.size := by
  obtain ⟨o, es, ep, t, ho, r⟩ := R
  exact Heap.lt_size ho
theorem SetRS.congr {S' : Str → Bool} (R : SetRS w h a S n) (e : ∀ k, S' k = S k) : SetRS w h a S' n := by
  have q : S' = S := funext e
  rw [q]; exact R
theorem goodS_elems {l : List (Int × Value)} (g : ∀ e ∈ l, GoodS w e) : ElemsOf (PySem.strKind P w) l := fun e he => by
  obtain ⟨k, tk, h1, h2⟩ := g e he
  exact ⟨⟨k, by rw [h1]; exact strKind_is P w k tk, h2⟩, by rw [h1] <;> rfl⟩
theorem goodS_is {e : Int × Value} (g : GoodS w e) (k : Str) : (PySem.strKind P w).is k e.2 = true ↔ keyS e = k := by
  obtain ⟨k0, tk, h1, _⟩ := g
  unfold keyS
  rw [h1]
  constructor
  · intro h
    have h : Value.isStrOf k (Value.str k0 tk) = true := h
    obtain ⟨t, e⟩ := Value.isStrOf_shape h
    injection e
  · intro h
    subst h
    exact strKind_is P w _ _
theorem goodS_mem {l : List (Int × Value)} (g : ∀ e ∈ l, GoodS w e) (k : Str) : k ∈ l.map keyS ↔ ∃ e ∈ l, (PySem.strKind P w).is k e.2 = true := by
  rw [List.mem_map]
  constructor
  · rintro ⟨e, he, q⟩
    exact ⟨e, he, (goodS_is (g e he) k).2 q⟩
  · rintro ⟨e, he, q⟩
    exact ⟨e, he, (goodS_is (g e he) k).1 q⟩
theorem SetRS.setOf (R : SetRS w h a S n) : h.SetOf (PySem.strKind P w) a S n := by
  obtain ⟨o, es, ep, t, ho, hx, hd, g, nd, hm, hb, hf, hn, _⟩ := R
  exact ⟨o, es, ep, t, ho, hx, hd, goodS_elems g, fun k => (hm k).trans (goodS_mem g k), hb, hf, hn⟩
end

section
variable {P : Program} {w : World} {A : Around} {E : Value → Shared → Prop} {s : Shared} {a : Addr} {S : Str → Bool} {n : Nat}

/-! ### add -/
theorem storeS_at {h : Heap} {a : Addr} {o : Obj} {es es' : Array (Int × Value)} {ep : Nat} {t t' : SetTable} (ho : h.get? a = some o) (hd : o.data = .set es ep t) :
    (h.update a (Obj.putSet es' t')).get? a = some { o with data := .set es' (ep + 1) t' } := by
  have q := Heap.get?_update_self (Obj.putSet es' t') ho (by rw [putSet_of es' t' hd]; rfl)
  rw [putSet_of es' t' hd] at q
  exact q

theorem setRS_add_tail {g : Bool → Sem Unit} (hg : ∀ (b : Bool) (s₁ : Shared) (Q' : Unit → Shared → Prop), Q' () s₁ → wpAny (model P w) A (g b) Q' E s₁)
    {o : Obj} {es : Array (Int × Value)} {ep : Nat} {t : SetTable} (ho : s.heap.get? a = some o) (hex : o.ExactSet) (hd : o.data = .set es ep t)
    {es1 : Array (Int × Value)} {t2 : SetTable} {S' : Str → Bool} (g1 : ∀ e ∈ es1.toList, GoodS w e) (nd1 : (es1.toList.map keyS).Nodup) (m1 : ∀ k, S' k = true ↔ k ∈ es1.toList.map keyS)
    (hb1 : es1.size < scanBound) (hf2 : t2.fits es1.size = true) (hr : Ris t2.place.toList) (hl : w.params.followText "set-order" = true ∨ t2.led = true) {wasDummy : Bool} {R : Option Bool → Shared → Prop}
    (hR : ∀ h', Heap.SameBut a s.heap h' → SetRS w h' a S' es1.size → R (some true) { s with heap := h' }) :
    wpAny (model P w) A (do
        storeSet a es1 t2
        if (!wasDummy && t2.tooFull) = true then do
            g (relayAll t2 es1 (SetTable.grown es1.size)).2.2
            storeSet a (relayAll t2 es1 (SetTable.grown es1.size)).1 (relayAll t2 es1 (SetTable.grown es1.size)).2.1
            pure (some true)
          else pure (some true)) R E s := by
  refine wpAny_bind (wpAny_storeSet_of ho hd ?_ (fits_of_scanBound hb1))
  have ho1 := storeS_at (es' := es1) (t' := t2) ho hd
  have sb1 := Heap.SameBut.update s.heap a (Obj.putSet es1 t2)
  split
  · have pm := relayAll_perm t2 es1 (SetTable.grown es1.size)
    have hf3 := relayAll_fits t2 es1 (SetTable.grown es1.size)
    have hr3 := relayAll_ris t2 es1 (SetTable.grown es1.size)
    have hl3 := relayAll_led t2 es1 (SetTable.grown es1.size)
    generalize relayAll t2 es1 (SetTable.grown es1.size) = Z at pm hf3 hr3 hl3 ⊢
    obtain ⟨es2, t3, gave⟩ := Z
    dsimp only at pm hf3 hr3 hl3 ⊢
    have hsz : es2.size = es1.size := by rw [← Array.length_toList, pm.length_eq, Array.length_toList]
    have hb2 : es2.size < scanBound := by rw [hsz]; exact hb1
    refine wpAny_bind (hg _ _ _ ?_)
    refine wpAny_bind (wpAny_storeSet_of ho1 rfl ?_ (fits_of_scanBound hb2))
    have ho2 := storeS_at (es' := es2) (t' := t3) ho1 rfl
    refine wpAny_pure (hR _ (sb1.trans (Heap.SameBut.update _ a _)) ?_)
    exact ⟨_, es2, _, t3, ho2, hex, rfl, fun e he => g1 e (pm.mem_iff.mp he), (pm.map keyS).nodup_iff.mpr nd1, fun k => (m1 k).trans (pm.map keyS).mem_iff.symm, hb2, hf3, hsz, hr3,
      hl.imp id fun z => by rw [hl3]; exact z⟩
  · exact wpAny_pure (hR _ sb1 ⟨_, es1, _, t2, ho1, hex, rfl, g1, nd1, m1, hb1, hf2, rfl, hr, hl⟩)

theorem setRS_add_hashed {k : Str} {tk : Tok} {Q : Bool → Shared → Prop} (R : SetRS w s.heap a S n) (room : n + 1 < scanBound)
    (hQ : ∀ h', Heap.SameBut a s.heap h' → SetRS w h' a (fun j => S j || decide (j = k)) (if S k = true then n else n + 1) → Q (!S k) { s with heap := h' }) :
    wpAny (model P w) A (setAddHashed a (.str k tk) ((PySem.strKind P w).hash k)) Q E s := by
  obtain ⟨o, es, ep, t, ho, hex, hd, g, nd, hm, hb, hf, hn, hr, hl⟩ := R
  have hkey : (PySem.strKind P w).is k (.str k tk) = true := strKind_is P w k tk
  have hsc : (Value.str k tk).scannable = true := rfl
  have hel : ElemsOf (PySem.strKind P w) es.toList := goodS_elems g
  unfold setAddHashed setAddHashedIn
  refine wpAny_holding (wpAny_bind (wpAny_setState_of ho hd hf ?_))
  dsimp only
  rw [byScan_of hsc hb hel]
  simp only [↓reduceIte]
  unfold setAddByScan
  refine wpAny_bind ?_
  refine wpAny_bind (wpAny_rule ?_)
  refine wpAny_bind (wpAny_setScan_of hkey ho hd hf hel ?_)
  cases hfi : List.findIdx? (fun e => (PySem.strKind P w).is k e.2) es.toList with
  | some j =>
    dsimp only
    obtain ⟨hj, pj, _⟩ := List.findIdx?_eq_some_iff_getElem.mp hfi
    have hSk : S k = true := (hm k).2 ((goodS_mem (P := P) (w := w) g k).2 ⟨es.toList[j], List.getElem_mem hj, pj⟩)
    refine wpAny_pure (wpAny_pure ?_)
    have q := hQ s.heap (Heap.SameBut.refl a s.heap) ⟨o, es, ep, t, ho, hex, hd, g, nd, fun i => by
      rw [Bool.or_eq_true, decide_eq_true_eq, ← hm i]
      exact ⟨fun z => z.elim id (fun e => e ▸ hSk), .inl⟩, hb, hf, by rw [if_pos hSk]; exact hn, hr, hl⟩
    rw [hSk] at q
    exact q
  | none =>
    dsimp only
    have hnk : k ∉ es.toList.map keyS := fun z => by
      obtain ⟨e, he, q⟩ := (goodS_mem (P := P) (w := w) g k).1 z
      have c := List.findIdx?_eq_none_iff.mp hfi e he
      rw [q] at c
      cases c
    have hSk : S k = false := by
      cases q : S k with
      | false => rfl
      | true => exact absurd ((hm k).1 q) hnk
    have hgw : ∀ (b : Bool) {s₁ : Shared} {Q' : Unit → Shared → Prop}, Q' () s₁ → wpAny (model P w) A (match b with | true => rule "set.scan.the-table-gave-way" | false => pure ()) Q' E s₁ :=
      fun b s₁ Q' q => by cases b <;> first | exact wpAny_pure q | exact wpAny_rule q
    have pm := layNew_perm t es ((PySem.strKind P w).hash k) (.str k tk)
    have hf1 := layNew_fits t es ((PySem.strKind P w).hash k) (.str k tk)
    have hr1 := layNew_ris t es ((PySem.strKind P w).hash k) (.str k tk) hr
    have hl1 := layNew_led t es ((PySem.strKind P w).hash k) (.str k tk)
    generalize layNew t es ((PySem.strKind P w).hash k) (.str k tk) = Z at pm hf1 hr1 hl1 ⊢
    obtain ⟨es1, t1, wasDummy, gave⟩ := Z
    dsimp only at pm hf1 hr1 hl1 ⊢
    rw [Array.toList_push] at pm
    have pc : es1.toList.Perm (((PySem.strKind P w).hash k, Value.str k tk) :: es.toList) := pm.trans (List.perm_append_singleton _ _)
    have pk : (es1.toList.map keyS).Perm (k :: es.toList.map keyS) := pc.map keyS
    have g1 : ∀ e ∈ es1.toList, GoodS w e := fun e he => by
      rcases List.mem_cons.mp (pc.mem_iff.mp he) with z | z
      · rw [z]; exact ⟨k, tk, rfl, rfl⟩
      · exact g e z
    have nd1 : (es1.toList.map keyS).Nodup := pk.nodup_iff.mpr (List.nodup_cons.mpr ⟨hnk, nd⟩)
    have m1 : ∀ i, (S i || decide (i = k)) = true ↔ i ∈ es1.toList.map keyS := fun i => by
      rw [Bool.or_eq_true, decide_eq_true_eq, hm i, pk.mem_iff, List.mem_cons]
      exact Or.comm
    have hsz : es1.size = n + 1 := by rw [← Array.length_toList, pc.length_eq, List.length_cons, Array.length_toList, hn]
    have hb1 : es1.size < scanBound := by rw [hsz]; exact room
    have hled : w.params.followText "set-order" = true ∨ t1.led = true := hl.imp id fun z => by rw [hl1]; exact z
    have fin : ∀ h', Heap.SameBut a s.heap h' → SetRS w h' a (fun j => S j || decide (j = k)) es1.size → Q true { s with heap := h' } := fun h' sb r => by
      have q := hQ h' sb
      rw [hSk] at q
      rw [hsz] at r
      exact q r
    refine wpAny_bind (hgw _ ?_)
    split
    · refine wpAny_bind ?_
      rw [hashByValue_scannable 8 hsc]
      refine wpAny_pure ?_
      refine setRS_add_tail ?_ ho hex hd g1 nd1 m1 hb1 ?_ ?_ ?_ ?_
      · intro b s₁ Q' q; cases b <;> first | exact wpAny_pure q | exact wpAny_rule q
      · first | (split <;> first | exact hf1 | exact SetTable.fits_plain_off hf1) | exact hf1
      · first | (split <;> exact hr1) | exact hr1
      · first | (split <;> exact hled) | exact hled
      · intro h' sb r; dsimp only; exact wpAny_pure (fin h' sb r)
    · refine wpAny_bind (wpAny_pure ?_)
      simp only [↓reduceIte]
      refine setRS_add_tail ?_ ho hex hd g1 nd1 m1 hb1 hf1 hr1 hled ?_
      · intro b s₁ Q' q; cases b <;> first | exact wpAny_pure q | exact wpAny_rule q
      · intro h' sb r; dsimp only; exact wpAny_pure (fin h' sb r)

end
theorem setRS_new_at {w : World} {h : Heap} {a : Addr} {ns : List Str} (ho : h.get? a = some { cls := .type "set", dict := none, data := .set #[] 0 (.fresh 0 0 (!w.params.followText "set-order")) }) : SetRS w h a (fun j => decide (j ∈ ns.take 0)) 0 :=
  ⟨_, #[], 0, _, ho, ⟨rfl, rfl, rfl⟩, rfl, (fun e he => by simp at he), (by simp), (fun k => by simp), (by decide), (by rfl), rfl, List.Pairwise.nil, by
    show _ ∨ (!w.params.followText "set-order") = true
    cases w.params.followText "set-order"
    · exact .inr rfl
    · exact .inl rfl⟩
section
variable {P : Program} {w : World} {A : Around} {E : Value → Shared → Prop} {s : Shared}
theorem set_update_strs {I : Addr} {fp wr : List Addr} {G : Array GenState → Array GenState → Prop} {n : Nat} {Pv : Nat → Value → Prop} {St : Nat → Shared → Prop} {R : Result → Shared → Prop}
    (W : WalksS P w A.in1 I fp wr G n Pv St) (S : Addr) (hSf : S ∉ fp) (ns : List Str) (hn : n = ns.length) (hb : ns.length + 1 < scanBound) (hval : ∀ i v, Pv i v → ∃ k t, ns[i]? = some k ∧ v = .str k t) :
    ∀ (k i : Nat) (s : Shared), n - i = k → i ≤ n → St i s → (∃ c, c ≤ i ∧ SetRS w s.heap S (fun j => decide (j ∈ ns.take i)) c) →
      (∀ s' c, Moved (S :: wr) G s s' → c ≤ n → SetRS w s'.heap S (fun j => decide (j ∈ ns)) c → R (.ok (.ret .none)) s') →
      codeAny (model P w) A (.builtin "set.update.loop" ⟨[.ref S, .ref I], []⟩) R s := by
  have hSw : S ∉ wr := fun h => hSf (W.sub _ h)
  have hsub : ∀ b ∈ wr, b ∈ S :: wr := fun b hb => List.mem_cons_of_mem _ hb
  intro k
  induction k with
  | zero =>
    intro i s hk' hi hst ⟨c, hc, hS⟩ hR
    have hin : i = n := by omega
    subst hin
    refine codeAny_builtin F.entry_set_update_loop ?_
    rw [Around.under_plainId F.plain_set_update_loop _]
    show wpAny _ A.in1 (pyNext (.ref I) >>= _) _ _ s
    refine wpAny_bind (W.done s _ _ hst fun s' hm => ?_)
    show wpAny _ A.in1 (ret Value.none) _ _ s'
    have e : ns.take i = ns := List.take_of_length_le (by omega)
    rw [e] at hS
    exact wpAny_pure (hR s' c (hm.mono hsub) hc (hS.at fun o e => hm.heap S o hSw e))
  | succ k ih =>
    intro i s hk' hi hst ⟨c, hc, hS⟩ hR
    have hlt : i < n := by omega
    refine codeAny_builtin F.entry_set_update_loop ?_
    rw [Around.under_plainId F.plain_set_update_loop _]
    show wpAny _ A.in1 (pyNext (.ref I) >>= _) _ _ s
    refine wpAny_bind (W.item i s _ _ hlt hst fun v s' hP hst' hm => ?_)
    obtain ⟨z, t, hz, rfl⟩ := hval i v hP
    have hS' : SetRS w s'.heap S (fun j => decide (j ∈ ns.take i)) c := hS.at fun o e => hm.heap S o hSw e
    show wpAny _ A.in1 (holding [Value.str z t] (setAdd S (.str z t)) >>= _) _ _ s'
    refine wpAny_bind (wpAny_holding ?_)
    unfold setAdd
    refine wpAny_holding ?_
    refine wpAny_bind ((PySem.strKind P w).pyHash (k := z) (strKind_is _ _ _ _) ?_)
    refine setRS_add_hashed (s := { s' with toks := s'.toks + 1 }) hS' (by omega) fun h' hsb hS2 => ?_
    have hS3 : SetRS w h' S (fun j => decide (j ∈ ns.take (i + 1))) (if decide (z ∈ ns.take i) = true then c else c + 1) := hS2.congr fun j => by
      rw [List.take_add_one, hz]
      simp [List.mem_append]
    have hc3 : (if decide (z ∈ ns.take i) = true then c else c + 1) ≤ i + 1 := by
      split <;> omega
    refine wpAny_pure ⟨plainId_quiet F.plain_set_update_loop _, ih (i + 1) _ (by omega) hlt (W.frame _ s' _ _ hst' (Nat.le_succ _) fun b hb o e => ?_) ⟨_, hc3, hS3⟩ fun s'' c2 hm'' hc'' hS'' => ?_⟩
    · rw [hsb.2 b (fun h : b = S => hSf (by rw [← h]; exact hb))]; exact e
    · refine hR s'' c2 (Moved.trans W.gtrans ((hm.mono hsub).then_heap (Nat.le_succ _) fun b o hb e => ?_) hm'') hc'' hS''
      rw [hsb.2 b (fun h : b = S => hb (by rw [h]; exact List.mem_cons_self))]; exact e


theorem strsL : ∀ {vs : List Value} {ss : List Str}, StrsAre vs ss → vs.length = ss.length
  | _, _, .nil => rfl
  | _, _, .cons _ _ r => congrArg Nat.succ (strsL r)
def strV (v : Value) : Str := match v with | .str s _ => s | _ => Str.empty
theorem strs_ofV : ∀ (l : List Value), (∀ v ∈ l, ∃ k tk, v = Value.str k tk) → StrsAre l (l.map strV)
  | [], _ => .nil
  | v :: l, h => by
    obtain ⟨k, tk, e⟩ := h v List.mem_cons_self
    subst e
    exact .cons k tk (strs_ofV l fun x hx => h x (List.mem_cons_of_mem _ hx))
theorem list_sort_strs {prog : Program} {w : World} {A : Around} {E : Value → Shared → Prop} {s : Shared} {a : Addr} {vs : List Value} {ns : List Str} {n : Nat} {P : Fin → Shared → Prop} (ho : s.heap.get? a = some (seqObj "list" vs.toArray n))
    (hI : StrsAre vs ns) (hL : vs.length ≤ sizeLine)
    (h : ∀ (out : Array Value) (ns' : List Str), StrsAre out.toList ns' → ns'.Perm ns → sortedS ns' = true → P (.done (.ret .none)) { s with heap := sortedHeap s.heap a vs out }) :
    wpAny (model prog w) A (Builtin.«list.sort» ⟨[.ref a], []⟩) P E s := by
  refine list_sort_treeKAny strKind_oneLt ho hI.keysOf (fun v₁ v₂ rest e => keyKind_strs (by rw [← e]; exact hI)) hL fun st' hp hs => ?_
  obtain ⟨ss', h1, h2, h3⟩ := sorted_out_str hI hp hs
  exact h _ ss' h1 h2 h3
set_option maxRecDepth 100000 in
set_option maxHeartbeats 3200000 in
theorem call_set_lstS {l : Addr} {items : Array Value} (ns : List Str) {Q : Value → Shared → Prop} (hh : A.handled = none) (hl : s.heap.IsList l items) (hit : StrsAre items.toList ns) (hb : ns.length + 1 < scanBound)
    (h : ∀ (h' : Heap) (tk c : Nat), SetRS w h' s.heap.objs.size (fun j => decide (j ∈ ns)) c → c ≤ ns.length → (∀ b o, s.heap.get? b = some o → h'.get? b = some o) → Q (.ref s.heap.objs.size) { s with heap := h', toks := tk }) :
    wpAny (model P w) A (call (.type "set") [.ref l]) Q E s := by
  have hisz : items.size = ns.length := by
    have q := strsL hit
    rw [Array.length_toList] at q
    exact q
  obtain ⟨c, tl, hmro⟩ := F.called_set.mro
  have hmade := F.called_set.made
  have hsub := F.called_set.sub
  refine wpAny_call (codeAny_of_tree ?_)
  show wpAny _ _ (callAny (.type "set") _) _ _ _
  refine wpAny_pure ⟨Code.quiet_builtin _ (by decide +kernel), codeAny_builtin F.entry_type_call ?_⟩
  rw [Around.under_plain (weight_type_call_type "set" [.ref l] []) rfl]
  have h1 := F.called_set.notType
  have h2 := F.called_set.canCreate
  have hct := F.typeCall_set_1 (.ref l)
  repeat (any_goals (first | assumption | wp_step))

  refine codeAny_mono (code_set_led1 (.ref l) (E := E) (Q₁ := fun obj s₁ => obj = .ref s.heap.objs.size ∧ s₁ = { s with heap := s.heap.push { cls := .type "set", dict := none, data := .set #[] 0 (.fresh 0 0 (!w.params.followText "set-order")) } }) ⟨rfl, rfl⟩) fun r s₁ hr => ?_
  cases r with
  | error e => exact hr
  | ok fl =>
    cases fl with
    | ret obj =>
      obtain ⟨rfl, rfl⟩ := hr
      have hS : (s.heap.push { cls := .type "set", dict := none, data := .set #[] 0 (.fresh 0 0 (!w.params.followText "set-order")) }).get? s.heap.objs.size = some { cls := .type "set", dict := none, data := .set #[] 0 (.fresh 0 0 (!w.params.followText "set-order")) } := Heap.get?_push_size _ rfl
      have hT : Shared.TypeIs { s with heap := s.heap.push { cls := .type "set", dict := none, data := .set #[] 0 (.fresh 0 0 (!w.params.followText "set-order")) } } (.ref s.heap.objs.size) "set" := ⟨_, hS, rfl⟩
      have hli := F.called_set.init.lookup
      have hbi := F.called_set.init.bind (.ref s.heap.objs.size)
      repeat (any_goals (first | assumption | wp_step))

      refine codeAny_mono (codeAny_call_builtin (R := wants (fun r s₂ => r = .none ∧ ∃ h' tk c, s₂ = { s with heap := h', toks := tk } ∧ SetRS w h' s.heap.objs.size (fun j => decide (j ∈ ns)) c ∧ c ≤ ns.length ∧
          (∀ b o, s.heap.get? b = some o → h'.get? b = some o)) E) F.called_set.init.plain F.entry_set_init (check_set_init_1 hT ?_)) fun r₂ s₂ hr₂ => ?_
      · obtain ⟨ol, hol, hcl, nl, hdl⟩ := hl
        obtain ⟨ocls, odict, odata, oslots⟩ := ol
        simp only at hcl hdl
        subst hcl; subst hdl
        have hol' : (s.heap.push { cls := .type "set", dict := none, data := .set #[] 0 (.fresh 0 0 (!w.params.followText "set-order")) }).get? l = some { cls := .type "list", dict := odict, data := .seq items nl, slots := oslots } := Heap.get?_push_of_some _ hol
        have hsls := F.sub_list_set
        have hslf := F.sub_list_frozenset
        have hne : (Value.type "list" == Value.type "dict") = false := by decide
        have hl1 : (s.heap.push { cls := .type "set", dict := none, data := .set #[] 0 (.fresh 0 0 (!w.params.followText "set-order")) }).IsList l items := ⟨_, hol', rfl, nl, rfl⟩
        unfold Builtin.«set.__init__» noKeywords Builtin.Frozenset.updateFrom
        generalize hPI : pyIter = PI
        wp_walk
        subst hPI

        refine wpAny_pyIter_list hl1 ?_
        refine wpAny_bind (wpAny_runValue ?_)
        have hlS : l < s.heap.objs.size := Heap.lt_size hol
        have hh3 : A.in1.in1.in1.handled = none := by simp [hh]
        have hz1 : (s.heap.push { cls := .type "set", dict := none, data := .set #[] 0 (.fresh 0 0 (!w.params.followText "set-order")) }).objs.size = s.heap.objs.size + 1 := Heap.size_push ..
        have hneI : l ≠ (s.heap.push { cls := .type "set", dict := none, data := .set #[] 0 (.fresh 0 0 (!w.params.followText "set-order")) }).objs.size := by
          rw [Heap.size_push]; exact Nat.ne_of_lt (Nat.lt_succ_of_lt hlS)
        have hSf : s.heap.objs.size ∉ [(s.heap.push { cls := .type "set", dict := none, data := .set #[] 0 (.fresh 0 0 (!w.params.followText "set-order")) }).objs.size, l] := by
          rw [Heap.size_push]; simp only [List.mem_cons, List.mem_singleton, List.not_mem_nil, or_false, not_or]
          exact ⟨Nat.ne_of_lt (Nat.lt_succ_self _), Nat.ne_of_gt hlS⟩
        have hval : ∀ (i : Nat) (v : Value), items[i]? = some v → ∃ k t, ns[i]? = some k ∧ v = .str k t := fun i v hv => by
          have hi : i < ns.length := by rw [← hisz]; exact (Array.getElem?_eq_some_iff.mp hv).1
          obtain ⟨t, e⟩ := SS.strs_at hit i v (by rw [Array.getElem?_toList]; exact hv)
          refine ⟨ns[i], t, List.getElem?_eq_getElem hi, ?_⟩
          rw [e, List.getD_eq_getElem?_getD, List.getElem?_eq_getElem hi] <;> rfl
        refine set_update_strs ((Walks.list hh3 _ l hneI items).toS) s.heap.objs.size
          hSf ns hisz hb hval (items.size - 0) 0 _ (by omega) (Nat.zero_le _)
          ⟨⟨_, Heap.get?_push_size _ rfl, rfl, rfl⟩, (hl1.push _)⟩ ?hS0 ?hR
        case hS0 =>
          have hget : ((s.heap.push { cls := .type "set", dict := none, data := .set #[] 0 (.fresh 0 0 (!w.params.followText "set-order")) }).push { cls := .type "list_iterator", data := .fields #[.ref l, .int 0 0] }).get? s.heap.objs.size
              = some { cls := .type "set", dict := none, data := .set #[] 0 (.fresh 0 0 (!w.params.followText "set-order")) } := Heap.get?_push_of_some _ hS
          exact ⟨0, Nat.le_refl 0, setRS_new_at hget⟩
        case hR =>
          intro s' c' hm hc' hS'
          obtain ⟨h', g2, d', tk', os'⟩ := s'
          have eg : g2 = s.gens := hm.gens
          have ed : d' = s.drawn := hm.drawn
          have eo : os' = s.os := hm.os
          subst eg; subst ed; subst eo
          show wpAny _ _ _ _ _ _
          refine wpAny_pure ?_
          show wpAny _ _ (ret Value.none) _ _ _
          rw [hisz] at hc'
          refine wpAny_pure ⟨rfl, h', tk', c', rfl, hS', hc', fun b o e => ?_⟩
          have hb0 : b < s.heap.objs.size := Heap.lt_size e
          have hb1 : b ≠ s.heap.objs.size := Nat.ne_of_lt hb0
          have hb2 : b ≠ (s.heap.push { cls := .type "set", dict := none, data := .set #[] 0 (.fresh 0 0 (!w.params.followText "set-order")) }).objs.size := by
            rw [Heap.size_push]; exact Nat.ne_of_lt (Nat.lt_succ_of_lt hb0)
          exact hm.heap b o (by simp only [List.mem_cons, List.mem_singleton, List.not_mem_nil, or_false, not_or]; exact ⟨hb1, hb2⟩) (Heap.get?_push_of_some _ (Heap.get?_push_of_some _ e))

      · cases r₂ with
        | error e => exact hr₂
        | ok fl₂ =>
          cases fl₂ with
          | ret r =>
            obtain ⟨rfl, h', tk, c', rfl, hS', hc', hk'⟩ := hr₂
            repeat (any_goals (first | assumption | wp_step))
            exact h _ _ _ hS' hc' hk'
          | _ => exact hr₂.elim
    | _ => exact hr.elim
end
section
variable {P : Program} {w : World} {A : Around} {E : Value → Shared → Prop} {s : Shared} {a : Addr} {n : Nat}
theorem sorted_setS {S : Str → Bool} {n : Nat} {Q : Value → Shared → Prop} (R : SetRS w s.heap a S n) (hh : A.handled = none) (h64 : n < 64)
    (hQ : ∀ s' p (out : Array Value) (c : Nat) (ns : List Str), (∀ b o, s.heap.get? b = some o → s'.heap.get? b = some o) → s'.gens = s.gens → s'.os = s.os → s.heap.objs.size ≤ p →
      s'.heap.get? p = some (seqObj "list" out c) → StrsAre out.toList ns → sortedS ns = true → ns.Nodup → (∀ k, k ∈ ns ↔ S k = true) → Q (.ref p) s') :
    wpAny (model P w) A (call (.builtin "sorted") [.ref a]) Q E s := by
  obtain ⟨o, es, ep, t, ho, hex, hd, g, nd, hm, hb, hf, hn, hr, hl⟩ := R
  refine Calls.call_function_entry kind_sorted plain_sorted entry_sorted (args_sorted1 _) ?_
  unfold Builtin.«sorted»
  refine wpAny_bind (m := checkCount "sorted" 1 1 _) (wpAny_pure ?_)
  refine wpAny_bind (collect_set (A := A.in1) hh ⟨o, ho, hex.1, hd⟩ hf hb hr hl fun s1 vs k1 hz g1 o1 pm => ?_)
  have hvl : vs.length = n := by rw [pm.length_eq, List.length_map, Array.length_toList]; exact hn
  have hI : StrsAre vs (vs.map strV) := strs_ofV vs fun v hv => by
    obtain ⟨e, he, q⟩ := List.mem_map.mp (pm.mem_iff.mp hv)
    obtain ⟨k, tk, h1, _⟩ := g e he
    exact ⟨k, tk, by rw [← q]; exact h1⟩
  have pk : (vs.map strV).Perm (es.toList.map keyS) := by
    have q := pm.map strV
    rw [List.map_map] at q
    exact q
  refine wpAny_bind (wpAny_newList ?_ (by rw [hvl, sizeLine_eq]; omega))
  have hoL : (s1.heap.push (seqObj "list" vs.toArray 0)).get? s1.heap.objs.size = some (seqObj "list" vs.toArray 0) := Heap.get?_push_size _ rfl
  refine wpAny_bind (wpAny_holding (wpAny_call_entry slot_list_sort ⟨_, hoL, rfl⟩ entry_list_sort (list_sort_strs hoL hI (by rw [hvl, sizeLine_eq]; omega) fun out ns' a1 a2 a3 => ⟨_, rfl, ?_⟩) (args_list_sort _)))
  obtain ⟨c, hc⟩ := sortedHeap_at (vs := vs) (out := out) hoL
  have pn : ns'.Perm (es.toList.map keyS) := a2.trans pk
  refine wpAny_pure ⟨_, rfl, hQ _ s1.heap.objs.size out c ns' (fun b u e => ?_) g1 o1 hz hc a1 a3 (pn.nodup_iff.mpr nd) (fun k => by rw [pn.mem_iff, ← hm k])⟩
  · have q := k1 b u e
    have hlt := Heap.lt_size q
    show (sortedHeap (s1.heap.push (seqObj "list" vs.toArray 0)) s1.heap.objs.size vs out).get? b = some u
    rw [sortedHeap_old (Nat.ne_of_lt hlt) (by rw [size_push']; exact Nat.lt_succ_of_lt hlt)]
    exact Heap.get?_push_of_some _ q
end
end VXT
set_option Elab.async false
set_option linter.all false
set_option maxRecDepth 100000
set_option maxHeartbeats 4000000
/-! sorted(set(xs)) of texts, by value -/
namespace VX
open PySem PySem.Spec PyProof.Rows L2

def SetSO (w : World) (a : Addr) (S : Str → Bool) (n : Nat) : HO := .ext fun h => VXT.SetRS w h a S n
section
variable {X : Cx}
theorem setSO_new {w : World} {P : Program} {H : Hp} {h : Heap} {a : Addr} {S : Str → Bool} {n : Nat} (R : VXT.SetRS w h a S n) : ObjOk P w H h a (SetSO w a S n) := by
  have ⟨o, _, _, _, ho, _⟩ := R
  exact ⟨R, ⟨o, ho⟩, fun h1 h2 p k => VXT.SetRS.at p k⟩
/-- set(xs) of a list of texts -/
def rSetS (K : PySem.W.Frag) (w : World) : List V → Hp → VK → Prop := fun vs H Q => ∃ (a : Addr) (xs : List Str), vs = [V.ref a] ∧ SqL K H a (xs.map V.str) ∧ xs.length + 1 < scanBound ∧
  ∀ T c, c ≤ xs.length → H T = none → Q (.ref T) (upd H T (SetSO w T (fun j => decide (j ∈ xs)) c))
theorem cr_setS (hc : X.calm = true) : CallR X (.type "set") (rSetS X.K X.w) := by
  intro pins s σ H vs us Q I r h
  obtain ⟨a, xs, rfl, hs, hb, q⟩ := h
  obtain ⟨its, rv, pl, hz⟩ := I.list hs
  rw [Vals.ref1 r]
  refine VXT.call_set_lstS xs (I.ok.hd hc) pl.isList (by simpa using strsAre_of rv) hb fun h' tk c R hc' hk => ?_
  exact ⟨.ref _, _, I.laid (t' := tk) hk (Nat.le_refl _) (setSO_new R), rfl, q _ c hc' (I.hok.fresh (Nat.le_refl _))⟩
/-- sorted(s) of such a set -/
def rSortedSS (w : World) : List V → Hp → VK → Prop := fun vs H Q => ∃ (T : Addr) (S : Str → Bool) (c : Nat), vs = [V.ref T] ∧ H T = some (SetSO w T S c) ∧ c < 64 ∧
  ∀ (ys : List Str) (p : Addr), sortedS ys = true → ys.Nodup → (∀ k, k ∈ ys ↔ S k = true) → ys.length < 64 → H p = none → Q (.ref p) (upd H p (.lst (ys.map V.str)))
theorem cr_sortedSS (hc : X.calm = true) : CallR X (.builtin "sorted") (rSortedSS X.w) := by
  intro pins s σ H vs us Q I r h
  obtain ⟨T, S, c, rfl, hT, h64, q⟩ := h
  have R : VXT.SetRS X.w s.heap T S c := (I.hok T _ hT).1
  rw [Vals.ref1 r]
  have hn : ∀ ys : List Str, ys.Nodup → (∀ k, k ∈ ys ↔ S k = true) → ys.length < 64 := fun ys nd hm => by
    obtain ⟨o, es, ep, t, ho, hex, hd, g, nd2, hm2, hb, hf, hn, _⟩ := R
    have pm : ys.Perm (es.toList.map VXT.keyS) := (List.perm_ext_iff_of_nodup nd nd2).mpr fun k => (hm k).trans (hm2 k)
    rw [pm.length_eq, List.length_map, Array.length_toList, hn]
    exact h64
  refine VXT.sorted_setS R (I.ok.hd hc) h64 fun s' p out c' ys k g o hp hg hi hs nd hm => ?_
  have hl := hn ys nd hm
  have hlen : (ys.map V.str).length ≤ sizeLine := by rw [List.length_map]; exact small64 hl
  have hpn : H p = none := I.hok.fresh hp
  have J : Inv X pins σ (upd H p (.lst (ys.map V.str))) { s with heap := s'.heap, gens := s'.gens, drawn := s'.drawn, toks := s'.toks } :=
    I.call (ch := []) (Un.laid k hp hpn) (I.hok.laid k hp ⟨hlen, out.toList, c', vals_of_strs hi, hg⟩) (by rw [g]; exact I.bare) (fun _ z => nomatch z)
  have e : s' = { s with heap := s'.heap, gens := s'.gens, drawn := s'.drawn, toks := s'.toks } := by
    cases s'
    cases s
    cases o
    rfl
  rw [e]
  exact ⟨.ref p, _, J, rfl, q ys p hs nd hm hl hpn⟩
end
/-- each once -/
def dedupS : List (List Nat) → List (List Nat)
  | [] => []
  | a :: l => if a ∈ l then dedupS l else a :: dedupS l
theorem mem_dedupS {a : List Nat} : ∀ {l : List (List Nat)}, a ∈ dedupS l ↔ a ∈ l
  | [] => Iff.rfl
  | b :: l => by
    unfold dedupS
    split
    · rename_i h
      rw [mem_dedupS, List.mem_cons]
      exact ⟨.inr, fun z => z.elim (fun e => e ▸ h) id⟩
    · rw [List.mem_cons, mem_dedupS, List.mem_cons]
theorem nodup_dedupS : ∀ l : List (List Nat), (dedupS l).Nodup
  | [] => List.nodup_nil
  | b :: l => by
    unfold dedupS
    split
    · exact nodup_dedupS l
    · rename_i h
      exact List.nodup_cons.mpr ⟨fun z => h (mem_dedupS.mp z), nodup_dedupS l⟩
theorem nodup_st : ∀ {l : List (List Nat)}, l.Nodup → (l.map st).Nodup
  | [], _ => List.nodup_nil
  | a :: l, h => by
    obtain ⟨h1, h2⟩ := List.nodup_cons.mp h
    rw [List.map_cons]
    exact List.nodup_cons.mpr ⟨fun z => by
      obtain ⟨b, hb, e⟩ := List.mem_map.mp z
      exact h1 (st_inj e ▸ hb), nodup_st h2⟩
/-- sorted(set(xs)) -/
def ssetF (d : D) : Option SV := match d with
  | .lst ds => match D.strsOf ds with
    | some ss => if ss.length < 64 then some (.lst ((sortS (dedupS ss)).map .str)) else none
    | none => none
  | _ => none
section
variable {X : Cx} {Z : Zt} {e : Expr} {g : Env → M D} {p p2 pos q : Pos}
theorem ef_sset (hc : X.calm = true) (hm : X.mg "sorted" = none) (hm2 : X.mg "set" = none) (he : EP X Z e g) (hg : Gl X "sorted" := by rfl) (hg2 : Gl X "set" := by rfl)
    (hv : bootBuiltins "sorted" = some (.builtin "sorted") := by decide +kernel) (hv2 : bootBuiltins "set" = some (.type "set") := by decide +kernel)
    (hs : starEach [e] X.env = [(false, eval e X.env)] := by rfl) (hs2 : starEach [.Call (.Name "set" p2) [e] [] q] X.env = [(false, eval (.Call (.Name "set" p2) [e] [] q) X.env)] := by rfl) :
    EF X Z (.Call (.Name "sorted" p) [.Call (.Name "set" p2) [e] [] q] [] pos) (op1F ssetF g) := by
  refine PE.mono (pe_callB (cr_sortedSS hc) hg hm hv (pa_cons (pe_callTy (cr_setS hc) hg2 hm2 hv2 (pa_cons he pa_nil hs) (he := hs) (hpl := rfl)) pa_nil hs2) (he := hs2) (hpl := rfl)) fun σ H Q h => ?_
  obtain ⟨G, ρ, S, env, wd, fr, run⟩ := h
  refine ⟨G, ρ, S, env, wd, fr, run.bind.imp fun d G1 ρ1 S1 H1 ⟨x1, w1, r1⟩ v sd => ?_⟩
  obtain ⟨r, er, k⟩ := r1.look.opt
  have se := see_of w1 sd
  unfold ssetF at er
  split at er
  · rename_i ds hds
    rw [hds] at se
    split at er
    · rename_i ss hss
      split at er
      · rename_i hl
        cases er
        obtain ⟨a, vs, rfl, hq, rv⟩ := se.seq w1.g
        have hvs := rv.strsOf hss
        refine ⟨a, ss.map st, rfl, by rw [← hvs]; exact hq, by rw [List.length_map]; unfold scanBound; omega, fun T c hcl hT => ?_⟩
        obtain ⟨w2, x2, _, _⟩ := w1.own (o := SetSO X.w T (fun j => decide (j ∈ ss.map st)) c) hT
        refine ⟨T, _, c, rfl, upd_same, by rw [List.length_map] at hcl; omega, fun ys p hs nd hmem hyl hp => ?_⟩
        have pm : ys.Perm ((dedupS ss).map st) := (List.perm_ext_iff_of_nodup nd (nodup_st (nodup_dedupS ss))).mpr fun k => by
          rw [hmem k, decide_eq_true_eq, List.mem_map, List.mem_map]
          exact ⟨fun ⟨b, hb, e⟩ => ⟨b, mem_dedupS.mpr hb, e⟩, fun ⟨b, hb, e⟩ => ⟨b, mem_dedupS.mp hb, e⟩⟩
        have ey := sorted_is pm hs
        obtain ⟨w3, x3, gp, np⟩ := w2.own (o := .lst (ys.map V.str)) hp
        have hp1 : H1 p = none := x2.dom p hp
        refine (k _ _ _ (x2.trans x3) w3).2 _ (.inr ⟨p, rfl, gp, np, _, upd_same, ?_⟩) fun _ q e => by injection e with e; subst e; exact x1.dom _ hp1
        rw [ey]
        exact Reps.strs _
      · cases er
    · cases er
  · cases er
end
end VX
set_option Elab.async false
set_option linter.all false
set_option maxRecDepth 100000
set_option maxHeartbeats 4000000
/-! attributes, methods of data, values that are called, try: by value -/
namespace VX
open PySem PySem.Spec PyProof.Rows L2

/-! ### what is never come to -/
section
variable {X : Cx} {Z : Zt} {e : Expr} {es : List Expr} {st : Stmt} {sts : List Stmt} {i : Nat}
theorem ev_never : EV X Z e (fun _ => M.fail) := ⟨fun _ _ _ _ _ _ ⟨_, _, _, _, _, _, run⟩ => run.elim⟩
theorem ef_never : EF X Z e (fun _ => M.fail) := ⟨fun _ _ _ _ _ _ ⟨_, _, _, _, _, _, run⟩ => run.elim⟩
theorem et_never : ET X Z e (fun _ => M.fail) := ⟨fun _ _ _ _ _ _ ⟨_, _, _, _, _, _, run⟩ => run.elim⟩
theorem ss_never : SS X Z st (fun _ => sFail) := ⟨fun _ _ _ _ _ _ ⟨_, _, _, _, _, _, run⟩ => run.elim⟩
theorem sss_never : SSs X Z sts (fun _ => sFail) := ⟨fun _ _ _ _ _ _ ⟨_, _, _, _, _, _, run⟩ => run.elim⟩
end

/-! ### o.f -/
def getF (c f : Str) (d : D) : M D := fun S => match d with
  | .obj n => match S[n]? with
    | some (.ins x fs) => if x = c then match fs.lookup f with
      | some v => some (.ok v, S)
      | none => none else none
    | _ => none
  | _ => none
structure FldK (K : PySem.W.Frag) (mg : Str → Option Value) (c f : Str) : Prop where
  ex : ∃ C, mg c = some (.ref C) ∧ Cls K C ∧ NoAttr K C f
abbrev fldE (c f : Str) (g : Env → M D) : Env → M D := fun env => M.bind (g env) fun d => getF c f d
def putFD (f : Str) (d : D) : List (Str × D) → List (Str × D)
  | [] => [(f, d)]
  | (g, x) :: r => if g = f then (g, d) :: r else (g, x) :: putFD f d r
def setF (c f : Str) (y : D) (d : D) : M Unit := fun S => match d with
  | .obj n => match S[n]? with
    | some (.ins x fs) => if x = c ∧ fs.length < 1000 then some (.ok (), S.set n (.ins x (putFD f y fs))) else none
    | _ => none
  | _ => none
abbrev sFld (c f : Str) (ga gv : Env → M D) : Env → SM := fun env => liftE (gv env) env fun y => liftE (ga env) env fun o => liftE (setF c f y o) env fun _ => sNx env
section
variable {K : PySem.W.Frag} {w : World} {mg : Str → Option Value} {G : Hp} {ρ : List Addr} {H : Hp} {S : Sto}
/-- a thing of the store changed -/
theorem Wd.cellSet {n : Nat} {a : Addr} {c c' : Cell} {o : HO} (wd : Wd K w mg G ρ S H) (hr : ρ[n]? = some a) (hc : S[n]? = some c) (hp : ∃ u, H a = some u) (h : CellR K w mg G ρ (upd H a o) a c') : Wd K w mg G ρ (S.set n c') (upd H a o) ∧ Ext G ρ H G ρ (upd H a o) := by
  have hG : G a = none := wd.out a (List.mem_of_getElem? hr)
  have hn : n < S.length := (List.getElem?_eq_some_iff.mp hc).1
  refine ⟨⟨fun b q e => ?_, wd.nd, wd.out, by rw [List.length_set]; exact wd.len, fun m c2 b e1 e2 => ?_⟩, ⟨Up.refl _ _, fun b q e hb => ?_, fun b e => ?_, fun b e1 _ => e1, fun b hb => .inl hb⟩⟩
  · rw [upd_ne (ne_of_none e hG)]; exact wd.g b q e
  · by_cases hm : n = m
    · subst hm
      rw [List.getElem?_set_self hn] at e1
      rw [hr] at e2
      cases e1; cases e2
      exact h
    · rw [List.getElem?_set_ne hm] at e1
      have hab : b ≠ a := fun z => by
        subst z
        obtain ⟨h1, h1'⟩ := List.getElem?_eq_some_iff.mp hr
        obtain ⟨h2, h2'⟩ := List.getElem?_eq_some_iff.mp e2
        exact hm ((List.getElem_inj (h₀ := h1) (h₁ := h2) wd.nd).mp (h1'.trans h2'.symm))
      exact (wd.cell m c2 b e1 e2).up (Up.refl _ _) fun q e => by rw [upd_ne hab]; exact e
  · rw [upd_ne (by rintro rfl; exact hb (List.mem_of_getElem? hr))]; exact e
  · by_cases hb : b = a
    · subst hb; rw [upd_same] at e; cases e
    · rw [upd_ne hb] at e; exact e
theorem FsR.put {v : V} {d : D} (f : Str) (h0 : Rep K w mg G ρ v d) : ∀ {l : List (Str × V)} {ds : List (Str × D)}, FsR K w mg G ρ l ds → FsR K w mg G ρ (putF f v l) (putFD f d ds)
  | _, _, .nil => .cons h0 .nil
  | _, _, .cons (f := g) h r => by
    unfold putF putFD
    by_cases e : g = f
    · rw [if_pos e, if_pos e]; exact .cons h0 r
    · rw [if_neg e, if_neg e]; exact .cons h (FsR.put f h0 r)
theorem FsR.length : ∀ {l : List (Str × V)} {ds : List (Str × D)}, FsR K w mg G ρ l ds → l.length = ds.length
  | _, _, .nil => rfl
  | _, _, .cons _ r => congrArg Nat.succ (FsR.length r)
end
section
variable {X : Cx} {Z : Zt} {e o f2 : Expr} {g ga gv : Env → M D} {p p1 p2 p3 pos pos' apos cpos spos : Pos} {c f : Str}
theorem ev_fld (fk : FldK X.K X.mg c f) (he : EV X Z e g) (hb : attributeBase e f X.env (eval e X.env) = eval e X.env := by rfl) : EV X Z (.Attribute e f pos) (fldE c f g) := PE.mono (pe_fld he hb) fun σ H Q q => by
  obtain ⟨C, m1, m2, m3⟩ := fk.ex
  obtain ⟨G, ρ, S, env, wd, fr, run⟩ := q
  refine ⟨G, ρ, S, env, wd, fr, run.bind.imp fun d G1 ρ1 S1 H1 ⟨x1, w1, r1⟩ v rv => ?_⟩
  unfold Run getF at r1
  cases d with
  | obj n =>
    cases rv with
    | @obj _ a ea =>
      dsimp only at r1
      cases hc : S1[n]? with
      | none => rw [hc] at r1; exact r1.elim
      | some cl =>
        rw [hc] at r1
        cases cl with
        | ins x fs =>
          dsimp only at r1
          by_cases hx : x = c
          · rw [if_pos hx] at r1
            subst hx
            obtain ⟨C', dx, l, f1, f2, f3⟩ := w1.cell n _ a hc ea
            rw [m1] at f1
            cases f1
            cases hl : fs.lookup f with
            | none => rw [hl] at r1; exact r1.elim
            | some d =>
              rw [hl] at r1
              obtain ⟨u, hu, ru⟩ := (f3.lookup f).2 d hl
              exact ⟨a, C, dx, l, u, rfl, f2, m2, m3, hu, (r1 _ _ _ (Ext.refl _ _ _) w1).2 u ru⟩
          · rw [if_neg hx] at r1; exact r1.elim
        | lst _ => exact r1.elim
        | dct _ => exact r1.elim
        | dctT _ => exact r1.elim
  | _ => exact r1.elim
theorem ss_fld (fk : FldK X.K X.mg c f) (ho : EV X Z o ga) (hv : EV X Z e gv) (hs : swapsWith e (some (.Attribute o f pos')) pos.line X.env = pure false := by rfl) : SS X Z (.Assign [.Attribute o f pos'] e pos) (sFld c f ga gv) := PS.mono (ps_fld ho hv hs) fun D σ H q => by
  obtain ⟨C, m1, m2, m3⟩ := fk.ex
  obtain ⟨G, ρ, S, env, wd, fr, run⟩ := q
  refine ⟨G, ρ, S, env, wd, fr, (RunS.lift fr run).imp fun d G1 ρ1 S1 H1 ⟨x1, w1, f1, r1⟩ y ry => ?_⟩
  refine ⟨G1, ρ1, S1, env, w1, f1, (RunS.lift f1 r1).imp fun ob G2 ρ2 S2 H2 ⟨x2, w2, f2, r2⟩ v rv => ?_⟩
  have q2 := RunS.lift f2 r2
  unfold Run setF at q2
  cases ob with
  | obj n =>
    cases rv with
    | @obj _ a ea =>
      dsimp only at q2
      cases hc : S2[n]? with
      | none => rw [hc] at q2; exact q2.elim
      | some cl =>
        rw [hc] at q2
        cases cl with
        | ins x fs =>
          dsimp only at q2
          by_cases hx : x = c ∧ fs.length < 1000
          · rw [if_pos hx] at q2
            obtain ⟨hx, hl⟩ := hx
            subst hx
            obtain ⟨C', dx, l, g1, g2, g3⟩ := w2.cell n _ a hc ea
            rw [m1] at g1
            cases g1
            refine ⟨a, C, dx, l, rfl, g2, m2, m3, by rw [g3.length]; exact hl, ?_⟩
            obtain ⟨w3, x3⟩ := w2.cellSet (o := .ins C dx (putF f y l)) (c' := .ins x (putFD f d fs)) ea hc ⟨_, g2⟩ ⟨C, dx, _, m1, upd_same, g3.put f (ry.up x2.up)⟩
            obtain ⟨_, w4, f4, r4⟩ := q2 _ _ _ x3 w3
            exact r4.nx w4 _ f4
          · rw [if_neg hx] at q2; exact q2.elim
        | lst _ => exact q2.elim
        | dct _ => exact q2.elim
        | dctT _ => exact q2.elim
  | _ => exact q2.elim

/-! ### a new thing, into the store -/
def SV.cell : SV → Option Cell
  | .dat _ => none
  | .lst xs => some (.lst xs)
  | .dct kvs => some (.dct kvs)
  | .dctT kvs => some (.dctT kvs)
abbrev stE (g : Env → M SV) : Env → M D := fun env => M.bind (g env) fun sv => match sv.cell with
  | some c => fun S => some (.ok (.obj S.length), S ++ [c])
  | none => M.fail
theorem ev_st {gf : Env → M SV} (h : EF X Z e gf) : EV X Z e (stE gf) := PE.mono h fun σ H Q q => by
  obtain ⟨G, ρ, S, env, wd, fr, run⟩ := q
  refine ⟨G, ρ, S, env, wd, fr, ?_⟩
  unfold Run stE M.bind at run
  unfold Run
  cases e1 : gf env S with
  | none => rw [e1] at run; exact run
  | some z =>
    obtain ⟨z, S1⟩ := z
    rw [e1] at run
    cases z with
    | error _ => exact run
    | ok sv =>
      dsimp only at run ⊢
      intro G1 ρ1 H1 x1 w1 v rv fresh
      cases hcl : sv.cell with
      | none => rw [hcl] at run; exact run.elim
      | some cl =>
        rw [hcl] at run
        dsimp only at run
        have own : sv.own = true := by cases sv <;> first | rfl | cases hcl
        obtain ⟨p, rfl, gp, np, o⟩ := rv.own_inv own
        have hp : H p = none := fresh own p rfl
        have u : Up G1 ρ1 G1 (ρ1 ++ [p]) := ⟨Same.refl _, fun n a h => by
          have hn : n < ρ1.length := (List.getElem?_eq_some_iff.mp h).1
          rw [List.getElem?_append_left hn]; exact h⟩
        have hC : CellR X.K X.w X.mg G1 ρ1 H1 p cl := by
          cases sv with
          | dat d => cases hcl
          | lst xs => cases hcl; exact o
          | dct xs => cases hcl; exact o
          | dctT xs => cases hcl; exact o
        have w2 : Wd X.K X.w X.mg G1 (ρ1 ++ [p]) (S1 ++ [cl]) H1 := by
          refine ⟨w1.g, ?_, fun b hb => ?_, by rw [List.length_append, List.length_append, w1.len]; rfl, fun n c2 b e1 e2 => ?_⟩
          · rw [List.nodup_append]
            exact ⟨w1.nd, by simp, fun x hx y hy e => np (by simp at hy; rw [← hy, ← e]; exact hx)⟩
          · rcases List.mem_append.mp hb with z | z
            · exact w1.out b z
            · simp at z; rw [z]; exact gp
          · by_cases hn : n < S1.length
            · rw [List.getElem?_append_left hn] at e1
              rw [List.getElem?_append_left (by rw [w1.len]; exact hn)] at e2
              exact (w1.cell n c2 b e1 e2).up u fun _ h => h
            · rw [List.getElem?_append_right (by omega)] at e1
              rw [List.getElem?_append_right (by rw [w1.len]; omega)] at e2
              have h0 : n - S1.length = 0 := by
                have := (List.getElem?_eq_some_iff.mp e1).1
                simp at this; omega
              rw [h0] at e1
              rw [w1.len, h0] at e2
              cases e1; cases e2
              exact hC.up u fun _ h => h
        refine run G1 (ρ1 ++ [p]) H1 ⟨x1.up.trans u, x1.keep, x1.dom, x1.newG, fun b hb => ?_⟩ w2 _ (.obj ?_)
        · rcases List.mem_append.mp hb with z | z
          · exact x1.newR b z
          · simp at z; rw [z]; exact .inr hp
        · rw [← w1.len, List.getElem?_append_right (Nat.le_refl _)]
          simp
end
end VX
set_option Elab.async false
set_option linter.all false
set_option maxRecDepth 100000
set_option maxHeartbeats 4000000
/-! methods of data, by value -/
namespace VX
open PySem PySem.Spec PyProof.Rows L2

/-! ### o.xs.append(e), the list in the store -/
def isLst (d : D) : M Unit := fun S => match d with
  | .obj n => match S[n]? with
    | some (.lst _) => some (.ok (), S)
    | _ => none
  | _ => none
def appC (d o : D) : M Unit := fun S => match o with
  | .obj n => match S[n]? with
    | some (.lst xs) => if xs.length < sizeLine then some (.ok (), S.set n (.lst (xs ++ [d]))) else none
    | _ => none
  | _ => none
abbrev sAppS (go ge : Env → M D) : Env → SM := fun env => liftE (go env) env fun o => liftE (isLst o) env fun _ => liftE (ge env) env fun d => liftE (appC d o) env fun _ => sNx env
section
variable {K : PySem.W.Frag} {w : World} {mg : Str → Option Value} {G : Hp} {ρ : List Addr} {H : Hp} {S : Sto} {v : V}
theorem isLst_at {d : D} {S' : Sto} {u : Unit} (h : isLst d S = some (.ok u, S')) (wd : Wd K w mg G ρ S H) (r : Rep K w mg G ρ v d) : S' = S ∧ ∃ n a xs vs, d = .obj n ∧ v = .ref a ∧ ρ[n]? = some a ∧ S[n]? = some (.lst xs) ∧ H a = some (.lst vs) ∧ Reps K w mg G ρ vs xs := by
  unfold isLst at h
  cases d with
  | obj n =>
    cases r with
    | @obj _ a ea =>
      dsimp only at h
      cases hc : S[n]? with
      | none => rw [hc] at h; cases h
      | some cl =>
        rw [hc] at h
        cases cl with
        | lst xs =>
          cases h
          obtain ⟨vs, h1, h2⟩ := wd.cell n _ a hc ea
          exact ⟨rfl, n, a, xs, vs, rfl, rfl, ea, hc, h1, h2⟩
        | _ => cases h
  | _ => cases h
end
section
variable {X : Cx} {Z : Zt} {e o f2 : Expr} {g go ge ga gv : Env → M D} {p p1 p2 p3 pos pos' apos cpos spos : Pos} {c f : Str} {k : Nat}
theorem Run.ok_of {α : Type} {m : M α} {G : Hp} {ρ : List Addr} {S : Sto} {H : Hp} {W : WX} {σ : L2.St} {q : α → Hp → List Addr → Sto → Hp → Prop} {K : PySem.W.Frag} {w : World} {mg : Str → Option Value} (h : Run K w mg m G ρ S H (WxE K w mg W σ) q) (ne : ∀ e S', m S ≠ some (.error e, S')) :
    ∃ a S', m S = some (.ok a, S') ∧ ∀ G' ρ' H', Ext G ρ H G' ρ' H' → Wd K w mg G' ρ' S' H' → q a G' ρ' S' H' := by
  unfold Run at h
  cases e : m S with
  | none => rw [e] at h; exact h.elim
  | some z =>
    obtain ⟨z, S'⟩ := z
    cases z with
    | error x => exact absurd e (ne x S')
    | ok a => rw [e] at h; exact ⟨a, S', rfl, h⟩
theorem isLst_ne {d : D} {S : Sto} : ∀ e S', isLst d S ≠ some (.error e, S') := fun e S' h => by
  unfold isLst at h
  split at h
  · split at h <;> cases h
  · cases h
theorem ss_appS (ho : EV X Z o go) (he : EV X Z e ge) (hbase : attributeBase o "append" X.env (eval o X.env) = eval o X.env := by rfl)
    (hfew : ((backTo cpos (starEach [e] X.env)).all (fun x => !x.1) && (backToKw cpos (keywordEach [] X.env)).all (fun x => x.1.isSome) && decide (([e] : List Expr).length + ([] : List Keyword).length + (if ([] : List Keyword).isEmpty then 0 else 1) < 30)) = true := by rfl)
    (hline : (apos.endLine == cpos.line) = true := by rfl) (hs : starEach [e] X.env = (false, eval e X.env) :: starEach [] X.env := by rfl) (hplain : (backTo cpos (starEach [] X.env)).any (·.1) = false := by rfl)
    (hsw : swapsWith (.Call (.Attribute o "append" apos) [e] [] cpos) none pos.line X.env = pure false := by rfl) :
    SS X Z (.Expr (.Call (.Attribute o "append" apos) [e] [] cpos) pos) (sAppS go ge) :=
  PS.mono (ps_expr (pe_bm PySem.F.plainAttrs_list PySem.F.slot_list_append PySem.F.type_list_append mt_append ho (pa_cons he pa_nil hs) hbase hfew hline hs hplain) hsw) fun D σ H q => by
    obtain ⟨G, ρ, S, env, wd, fr, run⟩ := q
    refine ⟨G, ρ, S, env, wd, fr, (RunS.lift fr run).imp fun d G1 ρ1 S1 H1 ⟨x1, w1, f1, r1⟩ v rv => ?_⟩
    obtain ⟨u, S1', hl, q1⟩ := (RunS.lift f1 r1).ok_of isLst_ne
    obtain ⟨rfl, n, a, xs, vs, rfl, rfl, ea, hc, hH, rr⟩ := isLst_at hl w1 rv
    obtain ⟨_, _, _, r2⟩ := q1 _ _ _ (Ext.refl _ _ _) w1
    refine ⟨.inl ⟨rfl, vs, .of hH⟩, G1, ρ1, _, env, w1, f1, (RunS.lift f1 r2).imp fun y G3 ρ3 S3 H3 ⟨x3, w3, f3, r3⟩ z rz => ?_⟩
    have r4 := RunS.lift f3 r3
    unfold Run appC at r4
    dsimp only at r4
    cases hc3 : S3[n]? with
    | none => rw [hc3] at r4; exact r4.elim
    | some cl =>
      rw [hc3] at r4
      cases cl with
      | lst xs3 =>
        dsimp only at r4
        by_cases hz : xs3.length < sizeLine
        · rw [if_pos hz] at r4
          have ea3 := x3.up.r n a ea
          obtain ⟨vs3, h3, rr3⟩ := w3.cell n _ a hc3 ea3
          refine ⟨a, vs3, z, rfl, rfl, h3, by rw [rr3.length]; exact hz, ?_⟩
          obtain ⟨w4, x4⟩ := w3.cellSet (o := .lst (vs3 ++ [z])) (c' := .lst (xs3 ++ [y])) ea3 hc3 ⟨_, h3⟩ ⟨_, upd_same, rr3.append (.cons rz .nil)⟩
          obtain ⟨_, w5, f5, r5⟩ := r4 _ _ _ x4 w4
          exact r5.nx w5 _ f5
        · rw [if_neg hz] at r4; exact r4.elim
      | _ => exact r4.elim

/-! ### xs.extend(e), xs of one's own -/
def sExt (i : Nat) (ge : Env → M D) : Env → SM := fun env => match env[i]? with
  | some (some (.lst xs)) => liftE (ge env) env fun d => match d with
    | .lst ys => if xs.length + ys.length ≤ sizeLine then sNx (env.set i (some (.lst (xs ++ ys)))) else sFail
    | _ => sFail
  | _ => sFail
theorem ss_ext {x : Str} (i : Nat) (he : EV X Z e ge) (hN : X.N[i]? = some x := by rfl) (hv : Vis X.env.scope x := by first | exact Or.inl rfl | exact Or.inr (Or.inl rfl) | exact Or.inr (Or.inr rfl)) (hd : (x == ("__debug__" : Str)) = false := by decide)
    (hcd : (x == ("__classdict__" : Str)) = false := by decide)
    (hbase : attributeBase (.Name x pos') "extend" X.env (eval (.Name x pos') X.env) = eval (.Name x pos') X.env := by rfl)
    (hfew : ((backTo cpos (starEach [e] X.env)).all (fun x => !x.1) && (backToKw cpos (keywordEach [] X.env)).all (fun x => x.1.isSome) && decide (([e] : List Expr).length + ([] : List Keyword).length + (if ([] : List Keyword).isEmpty then 0 else 1) < 30)) = true := by rfl)
    (hline : (apos.endLine == cpos.line) = true := by rfl) (hs : starEach [e] X.env = (false, eval e X.env) :: starEach [] X.env := by rfl) (hplain : (backTo cpos (starEach [] X.env)).any (·.1) = false := by rfl)
    (hsw : swapsWith (.Call (.Attribute (.Name x pos') "extend" apos) [e] [] cpos) none pos.line X.env = pure false := by rfl) :
    SS X Z (.Expr (.Call (.Attribute (.Name x pos') "extend" apos) [e] [] cpos) pos) (sExt i ge) :=
  PS.mono (ps_expr (pe_bm PySem.F.plainAttrs_list PySem.F.slot_list_extend PySem.F.type_list_extend mt_extend (pe_var (i := i) hN hv hd hcd) (pa_cons he pa_nil hs) hbase hfew hline hs hplain) hsw) fun D σ H q => by
    obtain ⟨G, ρ, S, env, wd, fr, run⟩ := q
    unfold sExt at run
    split at run
    · rename_i xs hxs
      obtain ⟨v, e1, r⟩ := fr.at_ i _ hxs
      obtain ⟨p, rfl, gp, np, vs, hp, rv⟩ := r.own_inv rfl
      refine ⟨.ref p, e1, .inl ⟨rfl, vs, .of hp⟩, ?_⟩
      refine ⟨G, ρ, S, env, wd, fr, (RunS.lift fr run).imp fun d G1 ρ1 S1 H1 ⟨x1, w1, f1, r1⟩ u ru => ?_⟩
      split at r1
      · rename_i ys
        cases ru with
        | @lst b us _ hb rb =>
          split at r1
          · rename_i hl
            have hp1 := x1.keep p _ hp np
            have np1 : p ∉ ρ1 := fun z => (x1.newR p z).elim np fun z => by rw [hp] at z; cases z
            have gp1 := x1.newG p gp (by rw [hp]; simp)
            refine ⟨p, b, vs, us, rfl, rfl, hp1, w1.g _ _ hb, by rw [rv.length, rb.length]; exact hl, ?_⟩
            obtain ⟨w2, x2, f2⟩ := own_upd (o := .lst (vs ++ us)) (sv' := .lst (xs ++ _)) w1 f1 hxs rfl rfl e1 gp1 np1 ⟨_, hp1⟩ ⟨_, upd_same, (rv.up x1.up).append rb⟩
            exact (r1.ext x2).nx w2 _ f2
          · exact r1.elim
      · exact r1.elim
    · exact run.elim

/-! ### d.get(k) -/
def isDct (d : D) : Option Unit := match d with
  | .dct _ => some ()
  | _ => none
def getDk (d k : D) : Option D := match d with
  | .dct kvs => match k.ks with
    | some k => some ((dval kvs k).getD .non)
    | none => none
  | _ => none
abbrev getE (go ge : Env → M D) : Env → M D := fun env => M.bind (go env) fun d => M.bind (M.opt (isDct d)) fun _ => M.bind (ge env) fun k => M.opt (getDk d k)
theorem ev_get (hu : X.A.units + 100 < cLine) (ho : EV X Z o go) (he : EV X Z e ge) (h1 : attributeBase o "get" X.env (eval o X.env) = eval o X.env := by rfl)
    (h2 : ((backTo cpos (starEach [e] X.env)).all (fun x => !x.1) && (backToKw cpos (keywordEach [] X.env)).all (fun x => x.1.isSome) && decide (([e] : List Expr).length + ([] : List Keyword).length + (if ([] : List Keyword).isEmpty then 0 else 1) < 30)) = true := by rfl)
    (h3 : (apos.endLine == cpos.line) = true := by rfl) (h4 : backTo cpos (starEach [e] X.env) = [(false, eval e X.env)] := by rfl) : EV X Z (.Call (.Attribute o "get" apos) [e] [] cpos) (getE go ge) := PE.mono (pe_dget1 (by omega) ho he ⟨h1, h2, h3, h4⟩) fun σ H Q q => by
  obtain ⟨G, ρ, S, env, wd, fr, run⟩ := q
  refine ⟨G, ρ, S, env, wd, fr, run.bind.imp fun d G1 ρ1 S1 H1 ⟨x1, w1, r1⟩ v rv => ?_⟩
  obtain ⟨_, hd, k1⟩ := r1.bind.opt
  cases d with
  | dct kvs =>
    cases rv with
    | @dct a l _ ga rl =>
      obtain ⟨_, _, r2⟩ := k1 _ _ _ (Ext.refl _ _ _) w1
      refine ⟨a, rfl, .inl ⟨l, .inl (w1.g _ _ ga)⟩, G1, ρ1, S1, env, w1, fr.ext x1, r2.bind.imp fun kd G2 ρ2 S2 H2 ⟨x2, w2, r3⟩ y ry => ?_⟩
      obtain ⟨r, er, k3⟩ := r3.opt
      unfold getDk at er
      dsimp only at er
      cases hk : kd.ks with
      | none => rw [hk] at er; cases er
      | some kk =>
        rw [hk] at er
        dsimp only at er
        have ey : y = kV kk.key := ks_rep (H := H2) (.rep ry) hk
        subst ey
        have fin := (k3 _ _ _ (Ext.refl _ _ _) w2).2.2.2
        refine ⟨_, .inl ⟨l, kk.key, .inl (w2.g _ _ (x2.up.g _ _ ga)), rfl, rfl⟩, ?_⟩
        have rl2 := rl.up x2.up
        cases hv : dval kvs kk with
        | none =>
          rw [hv] at er
          cases er
          rw [(rl2.val kk).2 hv]
          exact fin _ .non
        | some x =>
          rw [hv] at er
          cases er
          obtain ⟨u, hu', ru⟩ := (rl2.val kk).1 x hv
          rw [hu']
          exact fin _ ru
  | _ => cases hd

/-! ### text.index(sign) -/
def idxD (a b : D) : Option D := match a, b with
  | .str a, .str b => match Builtin.Str.occurrences (st a) (st b) 0 a.length 1 with
    | i :: _ => some (.int (i : Nat))
    | [] => none
  | _, _ => none
def isStr (d : D) : Option Unit := match d with
  | .str _ => some ()
  | _ => none
abbrev idxE (go ge : Env → M D) : Env → M D := fun env => M.bind (go env) fun d => M.bind (M.opt (isStr d)) fun _ => M.bind (ge env) fun k => M.opt (idxD d k)
theorem ev_index (ho : EV X Z o go) (he : EV X Z e ge) (hbase : attributeBase o "index" X.env (eval o X.env) = eval o X.env := by rfl)
    (hfew : ((backTo cpos (starEach [e] X.env)).all (fun x => !x.1) && (backToKw cpos (keywordEach [] X.env)).all (fun x => x.1.isSome) && decide (([e] : List Expr).length + ([] : List Keyword).length + (if ([] : List Keyword).isEmpty then 0 else 1) < 30)) = true := by rfl)
    (hline : (apos.endLine == cpos.line) = true := by rfl) (hs : starEach [e] X.env = (false, eval e X.env) :: starEach [] X.env := by rfl) (hplain : (backTo cpos (starEach [] X.env)).any (·.1) = false := by rfl) :
    EV X Z (.Call (.Attribute o "index" apos) [e] [] cpos) (idxE go ge) := PE.mono (pe_bm PySem.F.plainAttrs_str PySem.F.slot_str_index PySem.F.type_str_index mt_sindex ho (pa_cons he pa_nil hs) hbase hfew hline hs hplain) fun σ H Q q => by
  obtain ⟨G, ρ, S, env, wd, fr, run⟩ := q
  refine ⟨G, ρ, S, env, wd, fr, run.bind.imp fun d G1 ρ1 S1 H1 ⟨x1, w1, r1⟩ v rv => ?_⟩
  obtain ⟨_, hd, k1⟩ := r1.bind.opt
  cases d with
  | str s =>
    cases rv
    obtain ⟨_, _, r2⟩ := k1 _ _ _ (Ext.refl _ _ _) w1
    refine ⟨rfl, G1, ρ1, S1, env, w1, fr.ext x1, r2.bind.imp fun kd G2 ρ2 S2 H2 ⟨x2, w2, r3⟩ y ry => ?_⟩
    obtain ⟨r, er, k3⟩ := r3.opt
    cases kd with
    | str t =>
      cases ry
      unfold idxD at er
      dsimp only at er
      have fin := (k3 _ _ _ (Ext.refl _ _ _) w2).2.2.2
      split at er
      · rename_i i rest ho
        cases er
        exact ⟨st s, st t, i, rest, rfl, rfl, ho, fin _ (.int _)⟩
      · cases er
    | _ => cases er
  | _ => cases hd

/-! ### xs[::-1] -/
def revL (d : D) : Option SV := match d with
  | .lst xs => some (.lst xs.reverse)
  | _ => none
theorem ef_revL {j : Nat} (he : EP X Z e g) : EF X Z (.Subscript e (.Slice none none (some (.UnaryOp .USub (.Constant (.int 1) j p1) p2)) p3) pos) (op1F revL g) := PE.mono (pe_revL he) fun σ H Q q => by
  refine tF_op1 (rr := fun x H1 Q => ∃ a xs, x = .ref a ∧ SqL X.K H1 a xs ∧ ∀ p, H1 p = none → Q (.ref p) (upd H1 p (.lst xs.reverse))) ?_ q
  intro G ρ S H x d r Q wd sx hr qq
  unfold revL at hr
  split at hr
  · cases hr
    obtain ⟨a, vs, rfl, hq, rv⟩ := sx.seq wd.g
    exact ⟨a, vs, rfl, hq, qq.lst wd rv.reverse⟩
  · cases hr
/-! ### a method as a value -/
structure BmK (K : PySem.W.Frag) (mg : Str → Option Value) (c m : Str) : Prop where
  ex : ∃ C f, mg c = some (.ref C) ∧ Cls K C ∧ BMeth K C m f
abbrev bmE (c m : Str) (g : Env → M D) : Env → M D := fun env => M.bind (g env) fun d => M.bind (asObj c m d) fun r => match r with
  | .obj n => M.pure (.bm n c m)
  | _ => M.fail
theorem asObj_at {K : PySem.W.Frag} {w : World} {mg : Str → Option Value} {G : Hp} {ρ : List Addr} {H : Hp} {S S' : Sto} {v : V} {d r : D} {c m : Str} {C : Addr} (hm : mg c = some (.ref C)) (h : asObj c m d S = some (.ok r, S')) (wd : Wd K w mg G ρ S H) (rv : Rep K w mg G ρ v d) :
    S' = S ∧ ∃ n a dx l, d = .obj n ∧ r = .obj n ∧ v = .ref a ∧ ρ[n]? = some a ∧ H a = some (.ins C dx l) ∧ l.lookup m = none := by
  unfold asObj at h
  cases d with
  | obj n =>
    cases rv with
    | @obj _ a ea =>
      dsimp only at h
      cases hc : S[n]? with
      | none => rw [hc] at h; cases h
      | some cl =>
        rw [hc] at h
        cases cl with
        | ins x fs =>
          dsimp only at h
          by_cases hx : x = c ∧ fs.lookup m = none
          · rw [if_pos hx] at h
            cases h
            obtain ⟨hx, hl⟩ := hx
            subst hx
            obtain ⟨C', dx, l, g1, g2, g3⟩ := wd.cell n _ a hc ea
            rw [hm] at g1
            cases g1
            exact ⟨rfl, n, a, dx, l, rfl, rfl, rfl, ea, g2, (g3.lookup m).1 hl⟩
          · rw [if_neg hx] at h; cases h
        | _ => cases h
  | _ => cases h
theorem asObj_ne {c m : Str} {d : D} {S : Sto} : ∀ e S', asObj c m d S ≠ some (.error e, S') := fun e S' h => by
  unfold asObj at h
  split at h
  · split at h
    · split at h <;> cases h
    · cases h
  · cases h
theorem ev_bm {m : Str} (bk : BmK X.K X.mg c m) (he : EV X Z e g) (hb : attributeBase e m X.env (eval e X.env) = eval e X.env := by rfl) : EV X Z (.Attribute e m pos) (bmE c m g) := by
  obtain ⟨C, fa, m1, m2, m3⟩ := bk.ex
  refine ⟨fun pins s σ H Q I h => ?_⟩
  refine attr_of hb ?_
  have hO : tV X.K X.w X.mg Z g σ H fun v H1 => ∃ a dx l, v = .ref a ∧ H1 a = some (.ins C dx l) ∧ l.lookup m = none ∧ ∀ p, H1 p = none → Q (.ref p) (upd H1 p (.met fa a)) := by
    obtain ⟨G, ρ, S, env, wd, fr, run⟩ := h
    refine ⟨G, ρ, S, env, wd, fr, run.bind.imp fun d G1 ρ1 S1 H1 ⟨x1, w1, r1⟩ v rv => ?_⟩
    obtain ⟨r, S', hl, q1⟩ := r1.bind.ok_of asObj_ne
    obtain ⟨rfl, n, a, dx, l, rfl, rfl, rfl, ea, hH, hlk⟩ := asObj_at m1 hl w1 rv
    obtain ⟨_, _, r2⟩ := q1 _ _ _ (Ext.refl _ _ _) w1
    refine ⟨a, dx, l, rfl, hH, hlk, fun p hp => ?_⟩
    obtain ⟨w2, x2⟩ := w1.laid (o := .met fa a) hp
    exact (r2.pure _ _ _ x2 w2).2.2 _ (.bm upd_same (x2.up.r n a ea) m1 m3)
  exact thn (he.run pins s σ H _ I hO) fun u s1 ⟨x, H1, I1, rx, a, dx, l, ex, ea, hl, q⟩ => by
    subst ex
    obtain rfl : u = Value.ref a := rx
    exact getbound_ok I1 ea m2 m3 hl fun p s2 hp I2 => ⟨.ref p, _, I2, rfl, q p hp⟩
/-! ### f(..), f a slot that holds a method -/
def asBm (c m : Str) (d : D) : M D := match d with
  | .bm n c' m' => if c' = c ∧ m' = m then asObj c m (.obj n) else M.fail
  | _ => M.fail
abbrev cbmE (c m : Str) (i : Nat) (gs : Env → M (List D)) (F : List D → M SV) : Env → M SV := fun env => M.bind (evar i env) fun d => M.bind (asBm c m d) fun r => M.bind (gs env) fun ds => F (r :: ds)
end
end VX
set_option Elab.async false
set_option linter.all false
set_option maxRecDepth 100000
set_option maxHeartbeats 4000000
/-! methods that are called as values, pairs of names, try: by value -/
namespace VX
open PySem PySem.Spec PyProof.Rows L2

section
variable {X : Cx} {Z : Zt} {e o f2 : Expr} {es : List Expr} {g go ge ga gv : Env → M D} {gs : Env → M (List D)} {p p1 p2 p3 pos pos' apos cpos spos : Pos} {c f m : Str} {k : Nat} {F : List D → M SV}
theorem asBm_at {K : PySem.W.Frag} {w : World} {mg : Str → Option Value} {G : Hp} {ρ : List Addr} {H : Hp} {S S' : Sto} {v : V} {d r : D} {C fa : Addr} (hm : mg c = some (.ref C)) (hmt : Meth K C m fa) (h : asBm c m d S = some (.ok r, S')) (wd : Wd K w mg G ρ S H) (rv : Rep K w mg G ρ v d) :
    S' = S ∧ ∃ n q a, r = .obj n ∧ v = .ref q ∧ G q = some (.met fa a) ∧ ρ[n]? = some a ∧ BMeth K C m fa := by
  unfold asBm at h
  split at h
  · rename_i n c' m'
    split at h
    · rename_i hcm
      obtain ⟨e1, e2⟩ := hcm
      subst e1 e2
      cases rv with
      | @bm q f0 x C0 _ _ _ g1 g2 g3 g4 =>
        rw [hm] at g3
        cases g3
        have ef : f0 = fa := by
          have h1 := g4.mt.at_
          rw [hmt.at_] at h1
          injection h1 with h1
          injection h1 with h1
          injection h1 with h1
          exact h1.symm
        subst ef
        obtain ⟨hS, n', a, dx, l, e1, e2, _, ea, _⟩ := asObj_at (C := C) (v := .ref x) hm h wd (.obj g2)
        cases e1
        rw [g2] at ea
        cases ea
        exact ⟨hS, n, q, x, e2, rfl, g1, g2, g4⟩
    · cases h
  · cases h
theorem asBm_ne {d : D} {S : Sto} : ∀ e S', asBm c m d S ≠ some (.error e, S') := fun e S' h => by
  unfold asBm at h
  split at h
  · split at h
    · exact asObj_ne _ _ h
    · cases h
  · cases h
theorem ef_cbm {x : Str} (i : Nat) (fk : MtK X.K X.w X.mg X.prog X.base k c m (es.length + 1) F) (tk : Takes X Z.W) (hr : Room k X.A) (ha : EA X Z (e :: es) gs) (hl : ∀ env S ds S', gs env S = some (.ok ds, S') → ds.length = es.length + 1)
    (hN : X.N[i]? = some x := by rfl) (hv : Vis X.env.scope x := by first | exact Or.inl rfl | exact Or.inr (Or.inl rfl) | exact Or.inr (Or.inr rfl)) (hd : (x == ("__debug__" : Str)) = false := by decide) (hcd : (x == ("__classdict__" : Str)) = false := by decide)
    (he : starEach (e :: es) X.env = (false, eval e X.env) :: starEach es X.env := by rfl) (hpl : ((backTo pos (starEach (e :: es) X.env)).any (·.1) || (backToKw pos (keywordEach [] X.env)).any (·.1.isNone)) = false := by rfl)
    (hkw : backToKw pos (keywordEach [] X.env) = [] := by rfl) (hpl2 : (backTo pos (starEach es X.env)).any (·.1) = false := by rfl) :
    EF X Z (.Call (.Name x p) (e :: es) [] pos) (cbmE c m i gs F) := by
  obtain ⟨C, fa, fd, ps, sp, dvs, ds0, h0, h1, h2, h3, h4, h5, h6⟩ := fk.ex
  refine ⟨fun pins s σ H Q I h => ?_⟩
  obtain ⟨G, ρ, S, env, wd, fr, run⟩ := h
  have hO : tV X.K X.w X.mg Z (evar i) σ H fun v H1 => ∃ q a n G1 ρ1 S1, v = .ref q ∧ H1 q = some (.met fa a) ∧ PySem.W.fnIn X.K fa = true ∧ Ext G ρ H G1 ρ1 H1 ∧ Wd X.K X.w X.mg G1 ρ1 S1 H1 ∧ G1 q = some (.met fa a) ∧ ρ1[n]? = some a ∧
      Run X.K X.w X.mg (M.bind (gs env) fun ds => F (.obj n :: ds)) G1 ρ1 S1 H1 (WxE X.K X.w X.mg Z.W σ) fun sv G' ρ' S' H' => ∀ v, SVR X.K X.w X.mg G' ρ' H' v sv → (sv.own = true → ∀ p, v = .ref p → H p = none) → Q v H' := by
    refine ⟨G, ρ, S, env, wd, fr, run.bind.imp fun d G1 ρ1 S1 H1 ⟨x1, w1, r1⟩ v rv => ?_⟩
    obtain ⟨r, S', hl, q1⟩ := r1.bind.ok_of asBm_ne
    obtain ⟨rfl, n, q, a, rfl, rfl, hq, ea, hb⟩ := asBm_at h0 h2 hl w1 rv
    obtain ⟨_, _, r2⟩ := q1 _ _ _ (Ext.refl _ _ _) w1
    exact ⟨q, a, n, G1, ρ1, _, rfl, w1.g _ _ hq, hb.fi, x1, w1, hq, ea, r2.imp fun sv G3 ρ3 S3 H3 z => z.2.2⟩
  refine wpAny_Call_Name_kw (thn ((ev_var i hN hv hd hcd).run pins s σ H _ I hO) fun u s1 ⟨v, H1, I1, rv, q, a, n, G1, ρ1, S1, ev, hq, hfi, x1, w1, hg, ea, r1⟩ => ?_)
  subst ev
  obtain rfl : u = Value.ref q := rv
  have hq2 : tF X.K X.w X.mg Z (callF (fun ds => F (.obj n :: ds)) gs) σ H1 Q := ⟨G1, ρ1, S1, env, w1, fr.ext x1, r1.imp fun sv G3 ρ3 S3 H3 k v rv f => k v rv fun o p e => x1.dom p (f o p e)⟩
  -- the arguments, and the receiver ahead of them
  have hA : tA X.K X.w X.mg Z gs σ H1 fun vs H2 => H2 q = some (.met fa a) ∧ sp (.ref a :: vs ++ dvs) H2 Q (WE Z.W σ) := by
    obtain ⟨G1', ρ1', S1', env', w1', fr', run'⟩ := id hq2
    clear run' fr' w1'
    refine ⟨G1, ρ1, S1, env, w1, fr.ext x1, ?_⟩
    have r := r1.bind
    unfold Run at r ⊢
    cases e1 : gs env S1 with
    | none => rw [e1] at r; exact r
    | some z =>
      obtain ⟨z, S'⟩ := z
      rw [e1] at r
      cases z with
      | error e => exact r
      | ok ds =>
        intro G2 ρ2 H2 x2 w2 vs rvs
        obtain ⟨_, _, r2⟩ := r G2 ρ2 H2 x2 w2
        refine ⟨w2.g _ _ (x2.up.g _ _ hg), h6 (.ref a :: vs) H2 Q _ ⟨by rw [List.length_cons, rvs.length, hl _ _ _ _ e1], G2, ρ2, S', .obj n :: ds, w2, .cons (.obj (x2.up.r n a ea)) rvs, ?_⟩⟩
        have r2 : Run X.K X.w X.mg (F (.obj n :: ds)) G2 ρ2 S' H2 (WxE X.K X.w X.mg Z.W σ) _ := r2
        exact r2.imp2 (fun sv G3 ρ3 S3 H3 ⟨x3, k⟩ v rv f => k v rv fun o p e => x1.dom p (x2.dom p (f o p e))) fun e G3 ρ3 S3 H3 k => k
  rw [hkw]
  refine callwith_met (g := fa) (a := a) (by rw [← hkw]; exact hpl) hfi ?_
  have hE := ha.run pos pins s1 σ H1 _ I1 hA
  rw [he] at hE ⊢
  refine Calls.evalArgs_plain ?_
  refine thn hE fun us s2 ⟨vs, H2, I2, r2, hm2, hsp⟩ => ⟨met_P I2 hm2, ?_⟩
  refine wpAny_call (call_met I2 hm2 ?_)
  have rr : Vals (V.ref a :: vs ++ dvs) (Value.ref a :: us ++ ds0) := by
    have : Vals (V.ref a :: vs) (Value.ref a :: us) := .cons rfl r2
    exact this.append h4
  have hlen : (Value.ref a :: us ++ ds0).length = ps.length := by rw [← rr.length]; exact h5.len _ _ _ _ hsp
  refine codeAny_mono (h5.run X.A X.stack s2 H2 ⟨Value.ref a :: us, []⟩ _ _ Q (WE Z.W σ) hr I2.env0 (h3 s2 (Value.ref a :: us) I2.kIn hlen) rr hsp) fun r s' hq => ?_
  cases r with
  | error e => exact (passAt tk σ) pins H2 s2 e s' I2 hq
  | ok fl =>
    cases fl with
    | ret u => exact I2.after hq
    | next => exact False.elim hq
    | brk => exact False.elim hq
    | cont => exact False.elim hq

/-! ### a, b = x, y -/
abbrev sPar (i j : Nat) (gs : Env → M (List D)) : Env → SM := fun env => liftE (gs env) env fun ds => match ds with
  | [d, e] => sNx ((env.set i (some (.dat d))).set j (some (.dat e)))
  | _ => sFail
theorem ss_par {x y : Str} {a b : Expr} {px py pt : Pos} {kt k2 pt2} (i j : Nat) (hN : X.N.Nodup) (hij : i ≠ j) (ha : EA X Z [a, b] gs) (hi : X.N[i]? = some x := by rfl) (hj : X.N[j]? = some y := by rfl)
    (hx : X.env.scope.names.lookup x = some .local := by rfl) (hy : X.env.scope.names.lookup y = some .local := by rfl)
    (hw : swappedStores [.Tuple [.Name x px, .Name y py] kt pt] (.Tuple [a, b] k2 pt2) X.env = pure (some [x, y]) := by rfl)
    (hs : swapsWithSole [.Tuple [.Name x px, .Name y py] kt pt] (.Tuple [a, b] k2 pt2) pos.line X.env = pure false := by rfl) (hc : X.calm = true := by rfl) :
    SS X Z (.Assign [.Tuple [.Name x px, .Name y py] kt pt] (.Tuple [a, b] k2 pt2) pos) (sPar i j gs) := PS.mono (ps_par hc hN hi hj hij hx hy ha hw hs) fun D σ H q => by
  obtain ⟨G, ρ, S, env, wd, fr, run⟩ := q
  refine ⟨G, ρ, S, env, wd, fr, (RunS.lift fr run).imp fun ds G1 ρ1 S1 H1 ⟨x1, w1, f1, r1⟩ vs rv => ?_⟩
  split at r1
  · cases rv with
    | cons r2 rv =>
      cases rv with
      | cons r3 rv =>
        cases rv
        exact ⟨_, _, rfl, r1.nx w1 _ ((f1.setD r2).setD r3)⟩
  · exact r1.elim

/-! ### try .. except -/
/-- the class of an exception, against a clause's -/
structure ExmK (K : PySem.W.Frag) (mg : Str → Option Value) (x h : Str) (b : Bool) : Prop where
  ex : ∃ cls c, mg x = some cls ∧ mg h = some c ∧ PySem.W.exmOne K cls c = some b
def handL (tab : Str → Str → Option Bool) (x : Ex) : List (Str × (Env → SM)) → Env → SM
  | [], env => fun S => some (.xc x env, S)
  | (h, g) :: r, env => match tab x.cls h with
    | some true => g env
    | some false => handL tab x r env
    | none => sFail
def sTry (tab : Str → Str → Option Bool) (gb : Env → SM) (hs : List (Str × (Env → SM))) : Env → SM := fun env S => match gb env S with
  | some (.xc x env', S') => handL tab x hs env' S'
  | r => r
inductive Hds (X : Cx) (Z : Zt) : List ExceptHandler → List (Str × (Env → SM)) → Prop
  | nil : Hds X Z [] []
  | cons {x : Str} {b₀ : Stmt} {suite : List Stmt} {np pos' : Pos} {hds : List ExceptHandler} {l : List (Str × (Env → SM))} {g : Env → SM} (hg : Gl X x) (hdb : (x == ("__debug__" : Str)) = false) (hm : ∃ c, X.mg x = some c)
      (hsu : ∀ (a : Addr) (oe : Obj) (pn : List (Addr × Obj)), SSs (X.suite a ((a, oe) :: pn)) Z (b₀ :: suite) g) (r : Hds X Z hds l) :
      Hds X Z (.ExceptHandler (some (.Name x np)) none (b₀ :: suite) pos' :: hds) ((x, g) :: l)
theorem hds_ok {hds : List ExceptHandler} {l : List (Str × (Env → SM))} (h : Hds X Z hds l) : ∃ cl : List Value, cl.length = l.length ∧ HdsOk X hds ((cl.zip l).map fun z => (z.1, fun (_ : Addr) (_ : Value) (_ : Option Addr) => tS X.K X.w X.mg Z z.2.2)) ∧ ∀ z ∈ cl.zip l, X.mg z.2.1 = some z.1 := by
  induction h with
  | nil => exact ⟨[], rfl, .nil, fun z h => nomatch h⟩
  | cons hg hdb hm hsu r ih =>
    obtain ⟨c, hc⟩ := hm
    obtain ⟨cl, h1, h2, h3⟩ := ih
    refine ⟨c :: cl, by simp [h1], .cons ⟨hg, hdb, .inl hc⟩ (fun a oe cls d pn _ _ => hsu a oe pn) h2, fun z hz => ?_⟩
    rcases List.mem_cons.mp hz with e | hz
    · subst e; exact hc
    · exact h3 z hz
theorem hand_w {tab : Str → Str → Option Bool} (ht : ∀ x h b, tab x h = some b → ExmK X.K X.mg x h b) {D : Ends} {G : Hp} {ρ : List Addr} {S : Sto} {H : Hp} {env : Env} {σ : L2.St} {x : Ex} {cls : Value} {dd : Option Addr} (wd : Wd X.K X.w X.mg G ρ S H) (fr : FrV X.K X.w X.mg Z.B G ρ H env σ) (xr : ExR X.K X.w X.mg G ρ H cls dd x) :
    ∀ (cl : List Value) (l : List (Str × (Env → SM))), cl.length = l.length → (∀ z ∈ cl.zip l, X.mg z.2.1 = some z.1) → RunS X.K X.w X.mg Z (handL tab x l env) G ρ S H (fun G' ρ' S' H' f => FlR X.K X.w X.mg Z D G' ρ' S' H' f) →
      wMany X.K Z.W D ((cl.zip l).map fun z => (z.1, fun (_ : Addr) (_ : Value) (_ : Option Addr) => tS X.K X.w X.mg Z z.2.2)) cls dd σ H
  | [], [], _, _, run => (show FlR X.K X.w X.mg Z D G ρ S H (.xc x env) from run _ _ _ (ExtS.refl _ _ _ _) wd) σ cls dd fr xr
  | c :: cl, (h, g) :: l, hl, hm, run => by
    unfold handL at run
    cases ht' : tab x.cls h with
    | none => rw [ht'] at run; exact run.elim
    | some b =>
      rw [ht'] at run
      obtain ⟨cls', c', e1, e2, e3⟩ := (ht _ _ _ ht').ex
      have ec : cls' = cls := Option.some.inj (e1.symm.trans xr.1)
      have e4 : X.mg h = some c := hm (c, (h, g)) (by simp)
      have ec' : c' = c := Option.some.inj (e2.symm.trans e4)
      subst ec ec'
      refine ⟨b, e3, fun hb a ha => ?_, fun hb => ?_⟩
      · subst hb
        exact ⟨G, ρ, S, env, wd, fr, run⟩
      · subst hb
        exact hand_w ht wd fr xr cl l (by simpa using hl) (fun z hz => hm z (by simp [hz])) run
  | [], _ :: _, hl, _, _ => by simp at hl
  | _ :: _, [], hl, _, _ => by simp at hl
theorem ss_try {body : List Stmt} {h₀ : ExceptHandler} {hds : List ExceptHandler} {l : List (Str × (Env → SM))} {gb : Env → SM} (tab : Str → Str → Option Bool) (ht : ∀ x h b, tab x h = some b → ExmK X.K X.mg x h b) (tk : Takes X Z.W)
    (hb : ∀ (W : WX) (pn : List (Addr × Obj)) (xe : Value → Shared → Prop), Takes (X.tr pn xe) W → PassesOwn (model X.prog X.w) X.A X.env xe → SSs (X.tr pn xe) ⟨W, Z.B⟩ body gb) (hh : Hds X Z (h₀ :: hds) l)
    (hs : X.stack = X.env :: X.outer := by rfl) (hf : X.env.frame = some X.env.locals := by rfl) : SS X Z (.Try body (h₀ :: hds) [] [] pos) (sTry tab gb l) := by
  obtain ⟨cl, h1, h2, h3⟩ := hds_ok hh
  refine PS.mono (ps_try_many (tb := fun W => tS X.K X.w X.mg ⟨W, Z.B⟩ gb) hs hf tk hb h2) fun D σ H q => ?_
  obtain ⟨G, ρ, S, env, wd, fr, run⟩ := q
  refine ⟨G, ρ, S, env, wd, fr, ?_⟩
  unfold RunS sTry at run
  unfold RunS
  cases e : gb env S with
  | none => rw [e] at run; exact run
  | some z =>
    obtain ⟨fl, S'⟩ := z
    rw [e] at run
    intro G1 ρ1 H1 x1 w1
    cases fl with
    | nx env' => exact run _ _ _ x1 w1
    | rt v => exact run _ _ _ x1 w1
    | bk env' => exact run _ _ _ x1 w1
    | ct env' => exact run _ _ _ x1 w1
    | xc x env' =>
      intro σ1 cls dd f1 xr
      have run : RunS X.K X.w X.mg Z (handL tab x l env') G ρ S' H fun G' ρ' S' H' f => FlR X.K X.w X.mg Z D G' ρ' S' H' f := run
      exact hand_w (Z := Z) ht w1 f1 xr cl l h1 h3 (run.ext (Z := Z) x1)
/-! ### text[::-1] -/
def revS (d : D) : Option D := match d with
  | .str s => if s.length ≤ sizeLine then some (.str s.reverse) else none
  | _ => none
theorem rev_ix (z : Str) : ((Builtin.Str.strSliceIndices none none (-1) z.length).filterMap (z.cps[·]?)) = z.cps.toList.reverse := by
  show ((sliceRange ((z.length : Int) - 1) (-1) (-1)).filterMap (z.cps[·]?)) = _
  rw [PySem.W.krv_sliceRange]
  have h := PySem.W.krv_all z.cps
  rw [PySem.W.krv_range, List.filterMap_reverse]
  exact congrArg List.reverse h
theorem ev_revS {j : Nat} (he : EP X Z e g) : EV X Z (.Subscript e (.Slice none none (some (.UnaryOp .USub (.Constant (.int 1) j p1) p2)) p3) pos) (op1 revS g) := by
  have key : PE X (.Subscript e (.Slice none none (some (.UnaryOp .USub (.Constant (.int 1) j p1) p2)) p3) pos) (fun σ H Q => tP X.K X.w X.mg Z g σ H fun x H1 => ∃ s : List Nat, x = .str (st s) ∧ s.length ≤ sizeLine ∧ Q (.str (st s.reverse)) H1) := by
    refine ⟨fun pins s σ H Q I h => ?_⟩
    refine Subscript_ (thn (he.run pins s σ H _ I h) fun v s1 ⟨x, H1, I1, r1, q1⟩ => ?_)
    obtain ⟨z, ex, hz, q⟩ := q1
    subst ex
    obtain ⟨t, rfl⟩ := r1
    have hst : PO X (some (.UnaryOp .USub (.Constant (.int 1) j p1) p2)) (tPart (tUn (rU fun i => .int (-i)) (tC (.int 1)))) := po_some (pe_un un_neg pe_int)
    refine wpAny_Slice (thn (po_none.run pins s1 σ H1 (fun o H2 => o = none ∧ H2 = H1) I1 ⟨rfl, rfl⟩) fun vl s2 ⟨l, H2, I2, pl, el, e2⟩ => ?_)
    subst el e2
    refine thn (po_none.run pins s2 σ H2 (fun o H3 => o = none ∧ H3 = H2) I2 ⟨rfl, rfl⟩) fun vu s3 ⟨u, H3, I3, pu, eu, e3⟩ => ?_
    subst eu e3
    refine thn (hst.run pins s3 σ H3 (fun o H4 => o = some (-1) ∧ H4 = H3) I3 ⟨1, rfl, -1, rfl, rfl, rfl⟩) fun vs s4 ⟨o, H4, I4, ps, eo, e4⟩ => ?_
    subst eo e4
    have I5 : Inv X pins σ H4 { s4 with heap := s4.heap.push { cls := .type "slice", data := .fields #[vl, vu, vs] } } := I4.kept (t' := s4.toks) fun b ob q => Heap.get?_push_of_some _ q
    obtain ⟨l, rfl, hl⟩ := IsPart.raw pl
    obtain ⟨u, rfl, hu⟩ := IsPart.raw pu
    obtain ⟨w', rfl, hw⟩ := IsPart.raw ps
    have el : l = none := by
      cases l with
      | none => rfl
      | some _ => cases hl
    have eu : u = none := by
      cases u with
      | none => rfl
      | some _ => cases hu
    subst el eu
    cases w' with
    | none => cases hw
    | some w' =>
      obtain ⟨w1, tk⟩ := w'
      cases hw
      refine tail_any (ops := [.str (st z) t, .ref s4.heap.objs.size]) (typeIs_str _ _ _) (PySem.F.slot_str_getitem.lookup) ?_ (by with_unfolding_all rfl)
      refine wpAny_getItem_str_slice (l := none) (u := none) (st := some (-1, tk)) ⟨_, Heap.get?_push_size _ rfl, rfl, rfl⟩ rfl ?_
      show Made.post (if ((-1 : Int) == 1 && (Builtin.Str.strSliceIndices none none (-1) (st z).length).length == (st z).length) = true then Made.val (.str (st z) t)
        else Made.str ⟨((Builtin.Str.strSliceIndices none none (-1) (st z).length).filterMap ((st z).cps[·]?)).toArray⟩) (L2.EP X pins σ Q) _
      rw [if_neg (by simp)]
      rw [rev_ix]
      refine ⟨?_, .str _, H4, I5.tok _, ⟨_, rfl⟩, q⟩
      show z.reverse.toArray.size ≤ sizeLine
      simpa using hz
  refine PE.mono key fun σ H Q q => ?_
  refine tV_op1 (rr := fun x H1 Q => ∃ s : List Nat, x = .str (st s) ∧ s.length ≤ sizeLine ∧ Q (.str (st s.reverse)) H1) ?_ q
  intro G ρ S H x d r Q wd sx hr qq
  unfold revS at hr
  split at hr
  · split at hr
    · cases hr
      exact ⟨_, sx.str, by assumption, qq.here wd (.str _)⟩
    · cases hr
  · cases hr
end
end VX
set_option Elab.async false
set_option linter.all false
set_option maxRecDepth 100000
set_option maxHeartbeats 4000000
/-! short words for the printed derivations -/
namespace VX
open PySem PySem.Spec PyProof.Rows L2

theorem takes00 {X : Cx} : Takes X (fun _ _ _ _ => False) := fun _ _ x => by
  obtain ⟨_, _, _, _, _, _, _, _, _, _, _, _, _, _, _, _, z⟩ := x
  exact z.elim
section
variable {A : Around} {k : Nat}
theorem hu_of (r : Room k A) : A.units + 100 < cLine := by have := r.un; omega
theorem hq_of (r : Room k A) : A.units + 64 < cLine := by have := r.un; omega
end
abbrev rngE (g : Env → M D) : Env → M (List D) := fun env => M.bind (g env) fun d => M.opt (rngI d)
abbrev enuE (g : Env → M D) : Env → M (List D) := fun env => M.bind (g env) fun d => M.opt (enuI d)
abbrev zipE (g g2 : Env → M D) : Env → M (List D) := fun env => M.bind (g env) fun d => M.bind (g2 env) fun d2 => M.opt (zipI d d2)
abbrev nilA : Env → M (List D) := fun _ => M.pure []
abbrev cmpE (h : D → D → Option Bool) (ga gb : Env → M D) : Env → M D := op2 (fun d e => (h d e).map .bl) ga gb
abbrev chnE (h h' : D → D → Option Bool) (ga gb gc : Env → M D) : Env → M D := fun env => M.bind (chain2 h h' ga gb gc env) fun b => M.pure (D.bl b)
abbrev isNE (ga : Env → M D) : Env → M D := fun env => M.bind (isNonB ga env) fun b => M.pure (D.bl b)
abbrev notNE (ga : Env → M D) : Env → M D := fun env => M.bind (isNotNonB ga env) fun b => M.pure (D.bl b)
abbrev isiE (T : String) (ga : Env → M D) : Env → M D := op1 (fun d => (isiB T d).map .bl) ga
abbrev methF (x m : Str) (g : Env → M D) (gs : Env → M (List D)) (F : List D → M SV) : Env → M SV := fun env => M.bind (g env) fun d => M.bind (asObj x m d) fun r => M.bind (gs env) fun ds => F (r :: ds)
abbrev meth0F (x m : Str) (g : Env → M D) (F : List D → M SV) : Env → M SV := fun env => M.bind (g env) fun d => M.bind (asObj x m d) fun r => F [r]
abbrev upF (g : Env → M D) : Env → M SV := fun env => M.bind (g env) fun d => M.pure (SV.dat d)
abbrev yesT : Env → M Bool := fun _ => M.pure true
def AL (gs : Env → M (List D)) (n : Nat) : Prop := ∀ env S ds S', gs env S = some (.ok ds, S') → ds.length = n
theorem al_nil : AL nilA 0 := fun env S ds S' h => by
  obtain ⟨rfl, _⟩ := M.pure_ok h
  rfl
theorem al_cons {g : Env → M D} {gs : Env → M (List D)} {n : Nat} (h : AL gs n) : AL (consA g gs) (n + 1) := fun env S ds S' e => by
  obtain ⟨d, S1, _, e2⟩ := M.bind_ok e
  obtain ⟨dr, S2, e3, e4⟩ := M.bind_ok e2
  obtain ⟨rfl, _⟩ := M.pure_ok e4
  rw [List.length_cons, h _ _ _ _ e3]
theorem str_cst (s : List Nat) : ∀ (env : Env) (S : Sto) (d : D) (S' : Sto), ecst (.str s) env S = some (.ok d, S') → ∃ s, d = .str s := fun env S d S' h => by
  obtain ⟨rfl, _⟩ := M.pure_ok h
  exact ⟨_, rfl⟩
section
variable {X : Cx} {Z : Zt} {c tg iter elt kx vx : Expr} {ifs : List Expr} {vs : List Nat} {tf : TgF} {gi : Env → M (List D)} {gt : Env → M Bool} {ge gk : Env → M D} {Y : YR} {pos pos' : Pos} {scope : Scope} {own : List (Str × Nat)}
/-- name = [..] on one line, frozen -/
theorem ss_setLcV {x : Str} {px : Pos} (i : Nat) (hN : X.N.Nodup) (hi : EI X Z Y tg iter gi) (ok : BlkOk X.N X.env.scope scope own) (hv : ∀ j ∈ vs, j ∈ own.map (·.2))
    (hg : ∀ (s : Shared) (H : Hp) (C : Addr) (cl : List (Str × Addr)) (fp : List Addr), GT (X.blk s H scope (compEnvC scope cl C X.env) fp) (z0 Z) Y tg vs tf)
    (ht : ∀ (s : Shared) (H : Hp) (C : Addr) (cl : List (Str × Addr)) (fp : List Addr), ETs (X.blk s H scope (compEnvC scope cl C X.env) fp) (z0 Z) ifs gt)
    (he : ∀ (s : Shared) (H : Hp) (C : Addr) (cl : List (Str × Addr)) (fp : List Addr), EV (X.blk s H scope (compEnvC scope cl C X.env) fp) (z0 Z) elt ge)
    (hx : X.N[i]? = some x := by rfl) (hxl : X.env.scope.names.lookup x = some .local := by rfl)
    (hsw : swapsWith (.ListComp elt [⟨tg, iter, ifs, 0⟩] scope pos) (some (.Name x px)) pos'.line X.env = pure true := by exact sw_true rfl rfl rfl rfl)
    (hc : X.calm = true := by rfl) (hs : ∀ x, foldedSetIterable iter X.env x = pure x := by intro _; rfl) :
    SS X Z (.Assign [.Name x px] (.ListComp elt [⟨tg, iter, ifs, 0⟩] scope pos) pos') (sAsg i (frz (lcF (own.map (·.2)) gi tf gt ge))) := PS.mono (ps_setLc hc hN hx hxl hsw hi ok hg ht he hs) fun D σ H q => by
  obtain ⟨G, ρ, S, env, wd, fr, run⟩ := q
  refine lc_law (Z := Z) (Q := fun x H1 => gName i x σ H1 D.nx) hv (tV_frz ⟨G, ρ, S, env, wd, fr, (RunS.lift fr run).imp fun d G1 ρ1 S1 H1 ⟨x1, w1, f1, r1⟩ v rv => ?_⟩)
  exact r1.nx w1 _ (f1.setD rv)
end
section
variable {K : PySem.W.Frag} {w : World} {mg : Str → Option Value} {P : Program} {base : Heap}
/-- a def whose last parameter is left at None -/
theorem FnK.ofN {x qual : Str} {params : Arguments} {body : List Stmt} {scope : Scope} {f : Addr} {fd : FuncData} {ps : List Str} {k n : Nat} {F : List D → M SV} (FD : FunD K x qual params body scope [.non] [] f fd) (hm : mg x = some (.ref f)) (hn : n + 1 = ps.length)
    (hbind : ∀ (T : Addr) (kV doc pm : Value) (an : Option Addr) (cdv ct : Value) (us its : List Value), us.length = n → its.length = 1 →
      ∃ k, bindArgs (PySem.W.fnOf x qual params body scope (.ref T) kV doc pm an cdv ct) ⟨us, []⟩ = seqItems? (.ref T) >>= k ∧ k (some its.toArray) = pure (ps.zip (us ++ its.drop 0)))
    (h : FnOk P w K mg base (L2.CX P w) k f fd ps (spF K w mg F ps.length)) : FnK K w mg P base k x n (fun ds => F (ds ++ [.non])) := by
  obtain ⟨ds, hv, hb⟩ := FD.binds1 (ps := ps) n 0 (by simp) (by simpa using hn) (fun T kV doc pm an cdv ct us its h1 h2 => hbind T kV doc pm an cdv ct us its h1 (by simpa using h2))
  refine ⟨f, fd, ps, _, [.non], ds, hm, FD.kp, hb, hv, h, fun vs H Q E q => ?_⟩
  obtain ⟨hl, G, ρ, S, es, wd, r, run⟩ := q
  exact ⟨by rw [List.length_append, hl]; exact hn, G, ρ, S, es ++ [.non], wd, r.append (.cons .non .nil), run⟩
end
end VX
set_option Elab.async false
set_option linter.all false
set_option maxRecDepth 100000
set_option maxHeartbeats 4000000
/-! the head's facts, by value -/
namespace VX
open PySem PySem.Spec PyProof.Rows L2

/-- a tuple of the top, without attributes -/
def tupN (K : PySem.W.Frag) (x : Str) (vs : List V) : Bool := match K.lookup (He.ga K x) with
  | some ⟨.type c, none, .seq its _, _⟩ => decide (c = "tuple") && (decide (its.size ≤ sizeLine) && He.relAll vs its.toList)
  | _ => false
theorem tupN_ok {K : PySem.W.Frag} {x : Str} {vs : List V} (h : tupN K x vs = true) (G : Hp) : TupAt K G (He.ga K x) vs := by
  unfold tupN at h
  cases q : K.lookup (He.ga K x) with
  | none =>
    rw [q] at h
    cases h
  | some o =>
    obtain ⟨oc, od, dt, osl⟩ := o
    rw [q] at h
    cases oc with
    | type c =>
      cases od with
      | none =>
        cases dt with
        | seq its n =>
          obtain ⟨h1, h2⟩ := He.ba (show (decide (c = "tuple") && (decide (its.size ≤ sizeLine) && He.relAll vs its.toList)) = true from h)
          obtain ⟨h3, h4⟩ := He.ba h2
          have e1 : c = "tuple" := of_decide_eq_true h1
          subst e1
          exact .inr ⟨_, its, n, q, rfl, rfl, rfl, of_decide_eq_true h3, He.relAll_ok h4⟩
        | _ => cases h
      | some d => cases dt <;> cases h
    | _ => cases od <;> cases dt <;> cases h
/-- flat data as a value -/
def D.fv : D → V
  | .bl b => .bl b
  | .int i => .int i
  | .str s => .str (st s)
  | _ => .non
def D.isF : D → Bool
  | .non => true
  | .bl _ => true
  | .int _ => true
  | .str _ => true
  | _ => false
section
variable {K : PySem.W.Frag} {w : World} {mg : Str → Option Value} {h : Heap}
theorem D.rep_fv {G : Hp} {ρ : List Addr} {d : D} (hf : d.isF = true) : Rep K w mg G ρ d.fv d := by
  cases d with
  | non => exact .non
  | bl b => exact .bl b
  | int i => exact .int i
  | str s => exact .str s
  | _ => cases hf
theorem reps_fv {G : Hp} {ρ : List Addr} : ∀ {ds : List D}, ds.all D.isF = true → Reps K w mg G ρ (ds.map D.fv) ds
  | [], _ => .nil
  | d :: ds, h => by
    rw [List.all_cons, Bool.and_eq_true] at h
    exact .cons (D.rep_fv h.1) (reps_fv h.2)
theorem glb_int (X : K.In h) (G : h.Ns mainGlobals mg) {x : Str} {i : Int} (c : (He.Fa.int x i).ok K = true) : Glb K w mg x (.int i) := by
  obtain ⟨t, e⟩ := He.int_ok X G c
  exact ⟨_, .int i, e, ⟨t, rfl⟩, fun _ _ => .int i⟩
theorem glb_str (X : K.In h) (G : h.Ns mainGlobals mg) {x : Str} {s : List Nat} (c : (He.Fa.str x (st s)).ok K = true) : Glb K w mg x (.str s) := by
  obtain ⟨t, e⟩ := He.str_ok X G c
  exact ⟨_, .str (st s), e, ⟨t, rfl⟩, fun _ _ => .str s⟩
theorem glb_tup (X : K.In h) (G : h.Ns mainGlobals mg) {x : Str} {ds : List D} (c : (He.Fa.glo x).ok K = true) (t : tupN K x (ds.map D.fv) = true) (hf : ds.all D.isF = true) : Glb K w mg x (.tup ds) :=
  ⟨_, .ref (He.ga K x), He.glo_ok X G c, rfl, fun G _ => .tup (tupN_ok t G) (reps_fv hf)⟩
/-- the entries' keys -/
theorem find_tab {P : Params} : ∀ {l : List DictEntry} {ks : List Str}, l.map He.keyOf = He.keysIn P ks → (l.any (·.refKey)) = false ∧ ∀ z, z ∉ ks → l.find? (·.key.isStr z) = none
  | [], [], _ => ⟨rfl, fun _ _ => rfl⟩
  | [], _ :: _, h => by cases h
  | _ :: _, [], h => by cases h
  | e :: r, k :: ks, h => by
    have h1 : He.keyOf e :: r.map He.keyOf = some (k, PyData.keyHash P k) :: He.keysIn P ks := h
    injection h1 with h2 h3
    obtain ⟨i1, i2⟩ := find_tab h3
    unfold He.keyOf at h2
    split at h2
    · rename_i x t q
      obtain ⟨h5, h6⟩ := Prod.mk.inj (Option.some.inj h2)
      subst h5
      refine ⟨?_, fun z hz => ?_⟩
      · rw [List.any_cons, i1, Bool.or_false]
        unfold DictEntry.refKey
        rw [q]
      · rw [List.mem_cons, not_or] at hz
        rw [List.find?_cons]
        have : e.key.isStr z = false := by
          rw [q]
          show (_ == _) = false
          exact beq_eq_false_iff_ne.mpr fun e => hz.1 (by first | exact e | exact e.symm)
        rw [this]
        exact i2 z hz.2
    · cases h2
theorem dicW_ns {K : PySem.W.Frag} {P : Params} {a : Addr} {ks : List Str} (h : He.dicW K a = some (He.keysIn P ks)) {z : Str} (hz : z ∉ ks) : PySem.W.nsIn K a z = some none := by
  unfold He.dicW at h
  cases q : K.lookup a with
  | none =>
    rw [q] at h
    cases h
  | some o =>
    obtain ⟨oc, od, dt, osl⟩ := o
    rw [q] at h
    cases oc with
    | type c =>
      cases od with
      | none =>
        cases dt with
        | dict es n =>
          have h1 : (match decide (c = "dict") && (osl.isEmpty && !(a == sysModules)) with
            | true => some (es.toList.map He.keyOf)
            | false => none) = some (He.keysIn P ks) := h
          cases z1 : decide (c = "dict") && (osl.isEmpty && !(a == sysModules)) with
          | false =>
            rw [z1] at h1
            cases h1
          | true =>
            rw [z1] at h1
            obtain ⟨i1, i2⟩ := find_tab (Option.some.inj h1)
            unfold PySem.W.nsIn
            rw [q]
            dsimp only
            rw [i2 z hz]
            dsimp only
            rw [i1]
            rfl
        | _ => cases h
      | some b => cases dt <;> cases h
    | _ => cases od <;> cases dt <;> cases h
/-- a table with text keys and flat values -/
def valsF (K : PySem.W.Frag) (a : Addr) (kvs : List (List Nat × D)) : Bool := kvs.all fun q => match PySem.W.nsIn K a (st q.1) with
  | some (some u) => He.relB q.2.fv u
  | _ => false
theorem look_map {l : List (List Nat × D)} {z : List Nat} : (l.map fun q => (q.1, q.2.fv)).lookup z = (l.lookup z).map D.fv := by
  induction l with
  | nil => rfl
  | cons a l ih =>
    obtain ⟨k, d⟩ := a
    rw [List.map_cons, List.lookup_cons, List.lookup_cons]
    cases z == k with
    | true => rfl
    | false => exact ih
theorem look_mem {l : List (List Nat × D)} {z : List Nat} {d : D} (h : l.lookup z = some d) : (z, d) ∈ l := by
  induction l with
  | nil => cases h
  | cons a l ih =>
    obtain ⟨k, e⟩ := a
    rw [List.lookup_cons] at h
    cases q : z == k with
    | true =>
      rw [q] at h
      cases h
      rw [beq_iff_eq.mp q]
      exact List.mem_cons_self
    | false =>
      rw [q] at h
      exact List.mem_cons_of_mem _ (ih h)
theorem look_none {l : List (List Nat × D)} {z : List Nat} (h : l.lookup z = none) : st z ∉ l.map fun q => st q.1 := by
  induction l with
  | nil => simp
  | cons a l ih =>
    obtain ⟨k, e⟩ := a
    rw [List.lookup_cons] at h
    cases q : z == k with
    | true => rw [q] at h; cases h
    | false =>
      rw [q] at h
      rw [List.map_cons, List.mem_cons, not_or]
      exact ⟨fun e => by rw [st_inj e] at q; simp at q, ih h⟩
theorem glb_tab (X : K.In h) (G : h.Ns mainGlobals mg) {x : Str} {kvs : List (List Nat × D)} (c : (He.Fa.glo x).ok K = true) (t : He.dicW K (He.ga K x) = some (He.keysIn w.params (kvs.map fun q => st q.1))) (v : valsF K (He.ga K x) kvs = true) (hf : (kvs.all fun q => q.2.isF) = true) :
    Glb K w mg x (.tab kvs) := by
  obtain ⟨es, n, kd⟩ := He.dicW_ok t
  have rn : ∀ G ρ, ∀ l : List (List Nat × D), (l.all fun q => q.2.isF) = true → RKn K w mg G ρ (l.map fun q => (q.1, q.2.fv)) l := fun G ρ l => by
    induction l with
    | nil => exact fun _ => .nil
    | cons a l ih =>
      intro h
      rw [List.all_cons, Bool.and_eq_true] at h
      exact .cons (D.rep_fv h.1) (ih h.2)
  refine ⟨_, .ref (He.ga K x), He.glo_ok X G c, rfl, fun G ρ => .tab (l := kvs.map fun q => (q.1, q.2.fv)) ⟨es, n, kd, fun z => ?_⟩ (rn G ρ kvs hf)⟩
  rw [look_map]
  cases e : kvs.lookup z with
  | none =>
    exact ⟨none, dicW_ns t (look_none e), trivial⟩
  | some d =>
    have hm := List.all_eq_true.mp v _ (look_mem e)
    dsimp only at hm
    cases e2 : PySem.W.nsIn K (He.ga K x) (st z) with
    | none => rw [e2] at hm; cases hm
    | some r =>
      rw [e2] at hm
      cases r with
      | none => cases hm
      | some u => exact ⟨some u, rfl, He.relB_ok hm⟩
theorem fldK_of (X : K.In h) (G : h.Ns mainGlobals mg) {c f : Str} (c1 : (He.Fa.glo c).ok K = true) (c2 : (He.Fa.cls c).ok K = true) (c3 : (He.Fa.noat c f).ok K = true) : FldK K mg c f := ⟨_, He.glo_ok X G c1, He.cls_ok c2, He.noat_ok c3⟩
theorem xcK_of (X : K.In h) (G : h.Ns mainGlobals mg) {x : Str} (c1 : (He.Fa.glo x).ok K = true) (c2 : (He.Fa.exc x).ok K = true) : XcK K mg x := ⟨_, He.glo_ok X G c1, (He.exc_ok c2).1, (He.exc_ok c2).2.1, (He.exc_ok c2).2.2.1, (He.exc_ok c2).2.2.2⟩
theorem exmK_of (X : K.In h) (G : h.Ns mainGlobals mg) {x y : Str} {b : Bool} (c1 : (He.Fa.glo x).ok K = true) (c2 : (He.Fa.glo y).ok K = true) (c3 : (He.Fa.exm x y b).ok K = true) : ExmK K mg x y b := ⟨_, _, He.glo_ok X G c1, He.glo_ok X G c2, He.exm_ok c3⟩
/-- a method that can be a value -/
def bmB (K : PySem.W.Frag) (c m : Str) : Bool := He.eqO (PySem.W.specialIn K (.ref (He.ma K (He.ga K c) m)) "__get__") (some (some (.builtin "function.__get__"))) && (decide (PySem.W.takesIn K (.ref (He.ma K (He.ga K c) m)) = some false) && PySem.W.fnIn K (He.ma K (He.ga K c) m))
theorem bmK_of (X : K.In h) (G : h.Ns mainGlobals mg) {c m : Str} (c1 : (He.Fa.glo c).ok K = true) (c2 : (He.Fa.cls c).ok K = true) (c3 : (He.Fa.meth c m).ok K = true) (c4 : bmB K c m = true) (hc : PySem.W.copiedNames.contains m = false) : BmK K mg c m := by
  obtain ⟨h1, h2⟩ := He.ba c4
  obtain ⟨h3, h4⟩ := He.ba h2
  exact ⟨_, _, He.glo_ok X G c1, He.cls_ok c2, He.meth_ok c3, He.eqO_ok h1, of_decide_eq_true h3, hc, h4⟩
end
theorem saysT_tab {fa : List He.Fa} {fn : List He.DefD} {ts : List He.Tab} {w : World} {K : PySem.W.Frag} (c : He.SaysT fa fn ts w K) (i : Nat) {t : He.Tab} (h : ts[i]? = some t := by rfl) : He.dicW K (t.1 K) = some (He.keysIn w.params t.2) := by
  have e : ts.map (fun t => He.dicW K (t.1 K)) = ts.map fun t => some (He.keysIn w.params t.2) := congrArg (fun z : He.AlT => z.2) c
  have e2 : (ts.map fun t => He.dicW K (t.1 K))[i]? = (ts.map fun t => some (He.keysIn w.params t.2))[i]? := by rw [e]
  rw [List.getElem?_map, List.getElem?_map, h] at e2
  exact Option.some.inj e2
theorem cx_on {P : Program} {w : World} {K : PySem.W.Frag} {mg : Str → Option Value} {base : Heap} {CX CX' : CXT} {k : Nat} {f : Addr} {fd : FuncData} {ps : List Str} {sp : Sp} (F : FnOk P w K mg base CX k f fd ps sp)
    (h : ∀ outer H s E e s', CX outer H s E e s' → CX' outer H s E e s') : FnOk P w K mg base CX' k f fd ps sp := ⟨F.len, fun A outer s H args us vs Q E hr he hb hv hs => codeAny_mono (F.run A outer s H args us vs Q E hr he hb hv hs) fun r s' q => by
  cases r with
  | ok fl => cases fl <;> exact q
  | error e => exact h _ _ _ _ _ _ q⟩
/-- whatever the program and the world -/
def CXA : CXT := fun outer H s E u s' => ∃ (P : Program) (w : World), L2.CX P w outer H s E u s'
theorem cxA_none (H : Hp) (s : Shared) (e : Value) (s' : Shared) (h : CXA [] H s (fun _ _ _ => False) e s') : False := by
  obtain ⟨P, w, a, B, H', cls, d, _, _, _, _, _, _, _, z⟩ := h
  exact z
/-- a law that answers true at every script -/
theorem law_of {K : PySem.W.Frag} {w : World} {mg : Str → Option Value} {F : List D → M SV} (H : Hp) (a : Addr) (ns : List Int) {S' : Sto} (e : F [.scr ns] [] = some (.ok (.dat (.bl true)), S')) (hS : SqL K H a (ns.map V.int)) :
    spF K w mg F 1 [.ref a] H (fun v _ => v = .bl true) fun _ _ _ => False := by
  refine ⟨rfl, H, [], [], [.scr ns], ⟨Same.refl _, List.nodup_nil, (fun _ h => nomatch h), rfl, fun n c a e _ => by simp at e⟩, .cons (.scr hS) .nil, ?_⟩
  unfold Run
  rw [e]
  intro G' ρ' H' _ _ v r _
  rcases r with ⟨d, ed, r⟩ | ⟨_, _, _, _, o⟩
  · cases ed; cases r; rfl
  · exact o.elim
end VX
set_option Elab.async false
set_option linter.all false
set_option maxRecDepth 100000
set_option maxHeartbeats 4000000
/-! more statements by value: unpacking, o[i] = e in the store; list comprehensions with two clauses -/
namespace VX
open PySem PySem.Spec PyProof.Rows L2

abbrev sAsgT (g : Env → M D) (tf : TgF) : Env → SM := fun env => liftE (g env) env fun d => match tf d env with
  | some env1 => sNx env1
  | none => sFail
def setC (y o i : D) : M Unit := fun S => match o with
  | .obj n => match i with
    | .int k => match S[n]? with
      | some (.lst xs) => match ixN xs.length k with
        | some j => some (.ok (), S.set n (.lst (xs.set j y)))
        | none => none
      | _ => none
    | _ => none
  | _ => none
abbrev sSetIx (go gi ge : Env → M D) : Env → SM := fun env => liftE (ge env) env fun y => liftE (go env) env fun o => liftE (gi env) env fun i => liftE (setC y o i) env fun _ => sNx env
def compL2 (tf : TgF) (gt : Env → M Bool) (vs1 : List Nat) (gi1 : Env → M (List D)) (tf1 : TgF) (gt1 : Env → M Bool) (ge : Env → M D) (env : Env) : List D → M (List D)
  | [] => M.pure []
  | d :: ds => match tf d env with
    | none => M.fail
    | some env1 => M.bind (gt env1) fun b => if b = true then M.bind (gi1 env1) fun ds1 => M.bind (compL tf1 gt1 ge (drp vs1 (dOnly env1)) ds1) fun l1 => M.bind (compL2 tf gt vs1 gi1 tf1 gt1 ge env ds) fun l => M.pure (l1 ++ l) else compL2 tf gt vs1 gi1 tf1 gt1 ge env ds
abbrev lc2F (vs : List Nat) (gi : Env → M (List D)) (tf : TgF) (gt : Env → M Bool) (vs1 : List Nat) (gi1 : Env → M (List D)) (tf1 : TgF) (gt1 : Env → M Bool) (ge : Env → M D) : Env → M SV := fun env => M.bind (gi env) fun ds => M.bind (noX (compL2 tf gt vs1 gi1 tf1 gt1 ge (drp vs env) ds)) fun r => if r.length ≤ sizeLine then M.pure (.lst r) else M.fail
section
variable {X : Cx} {Z : Zt} {tg e o i : Expr} {vs : List Nat} {tf : TgF} {ge go gi : Env → M D} {pos pos' : Pos}
theorem ss_asgT (he : EV X Z e ge) (hg : GR X Z tg vs tf) (hs : swapsWithSole [tg] e pos.line X.env = pure false := by rfl) (hw : swappedStores [tg] e X.env = pure none := by rfl)
    (h1 : (assignEach [tg] X.env).map (·.2) = [assign tg X.env] := by rfl) : SS X Z (.Assign [tg] e pos) (sAsgT ge tf) := PS.mono (ps_asg he hg hs hw h1) fun D σ H q => by
  obtain ⟨G, ρ, S, env, wd, fr, run⟩ := q
  refine ⟨G, ρ, S, env, wd, fr, (RunS.lift fr run).imp fun d G1 ρ1 S1 H1 ⟨x1, w1, f1, r1⟩ v rv => ?_⟩
  cases ht : tf d env with
  | none => rw [ht] at r1; exact r1.elim
  | some env1 =>
    rw [ht] at r1
    exact ⟨G1, ρ1, S1, env, d, env1, w1, f1, rv, ht, fun σ' f2 _ _ => r1.nx w1 σ' f2⟩
theorem setC_at {K : PySem.W.Frag} {w : World} {mg : Str → Option Value} {G : Hp} {ρ : List Addr} {H : Hp} {S S' : Sto} {vo vi : V} {y o i : D} {u : Except Ex Unit} (h : setC y o i S = some (u, S')) (wd : Wd K w mg G ρ S H) (ro : Rep K w mg G ρ vo o) (ri : Rep K w mg G ρ vi i) :
    u = .ok () ∧ ∃ n a k j xs ys, vo = .ref a ∧ vi = .int k ∧ ρ[n]? = some a ∧ S[n]? = some (.lst xs) ∧ H a = some (.lst ys) ∧ Reps K w mg G ρ ys xs ∧ ixN ys.length k = some j ∧ S' = S.set n (.lst (xs.set j y)) := by
  unfold setC at h
  cases o with
  | obj n =>
    cases ro with
    | @obj _ a ea =>
      cases i with
      | int k =>
        cases ri
        dsimp only at h
        cases hc : S[n]? with
        | none => rw [hc] at h; cases h
        | some cl =>
          rw [hc] at h
          cases cl with
          | lst xs =>
            dsimp only at h
            obtain ⟨ys, h1, h2⟩ := wd.cell n _ a hc ea
            cases hj : ixN xs.length k with
            | none => rw [hj] at h; cases h
            | some j =>
              rw [hj] at h
              cases h
              exact ⟨rfl, n, a, k, j, xs, ys, rfl, rfl, ea, hc, h1, h2, by rw [h2.length]; exact hj, rfl⟩
          | _ => cases h
      | _ => cases h
  | _ => cases h
theorem ss_setIx (he : EV X Z e ge) (ho : EV X Z o go) (hi : EV X Z i gi) (hs : swapsWithSole [.Subscript o i pos'] e pos.line X.env = pure false := by rfl) (hw : swappedStores [.Subscript o i pos'] e X.env = pure none := by rfl)
    (h1 : (assignEach [.Subscript o i pos'] X.env).map (·.2) = [assign (.Subscript o i pos') X.env] := by rfl)
    (ha : ∀ v, assign (.Subscript o i pos') X.env v = (do
      let ov ← holding [v] (eval o X.env)
      let iv ← holding [v, ov] (eval i X.env)
      standAt pos'
      holding [v, ov, iv] (setItem ov iv v)
      release [v, ov, iv] []) := by intro _; rfl) : SS X Z (.Assign [.Subscript o i pos'] e pos) (sSetIx go gi ge) := PS.mono (ps_asg he (pg_sub ho hi set_list ha) hs hw h1) fun D σ H q => by
  obtain ⟨G, ρ, S, env, wd, fr, run⟩ := q
  refine ⟨G, ρ, S, env, wd, fr, (RunS.lift fr run).imp fun y G1 ρ1 S1 H1 ⟨x1, w1, f1, r1⟩ v rv => ?_⟩
  refine ⟨G1, ρ1, S1, env, w1, f1, (RunS.lift f1 r1).imp fun od G2 ρ2 S2 H2 ⟨x2, w2, f2, r2⟩ vo ro => ?_⟩
  refine ⟨G2, ρ2, S2, env, w2, f2, (RunS.lift f2 r2).imp fun id G3 ρ3 S3 H3 ⟨x3, w3, f3, r3⟩ vi ri => ?_⟩
  have r4 := RunS.lift f3 r3
  unfold Run at r4
  cases hc : setC y od id S3 with
  | none => rw [hc] at r4; exact r4.elim
  | some z =>
    obtain ⟨z, S4⟩ := z
    rw [hc] at r4
    obtain ⟨rfl, n, a, k, j, xs, ys, rfl, rfl, ea, hn, hH, rr, hj, rfl⟩ := setC_at hc w3 (ro.up x3.up) ri
    dsimp only at r4
    obtain ⟨w4, x4⟩ := w3.cellSet (o := .lst (ys.set j v)) (c' := .lst (xs.set j y)) ea hn ⟨_, hH⟩ ⟨_, upd_same, Reps.set ((rv.up x2.up).up x3.up) j rr⟩
    obtain ⟨_, w5, f5, r5⟩ := r4 _ _ _ x4 w4
    exact ⟨a, ys, k, j, rfl, rfl, hH, hj, r5.nx w5 _ f5⟩
end
/-! ### [e for .. for ..] -/
section
variable {X : Cx} {Z : Zt} {tg iter tg1 iter1 elt : Expr} {ifs ifs1 : List Expr} {vs us : List Nat} {tf tf1 : TgF} {gi gi1 : Env → M (List D)} {gt gt1 : Env → M Bool} {ge : Env → M D} {Y Y1 : YR} {pos pos' : Pos} {scope : Scope} {own : List (Str × Nat)}
structure LcAt (X : Cx) (G1 : Hp) (ρ1 : List Addr) (H1 : Hp) (d : Addr) (l : List D) (G : Hp) (ρ : List Addr) (S : Sto) (H : Hp) : Prop where
  wd : Wd X.K X.w X.mg G ρ S H
  ext : Ext G1 ρ1 H1 G ρ H
  at_ : ∃ acv, H d = some (.lst acv) ∧ Reps X.K X.w X.mg G ρ acv l
  gn : G d = none
  rn : d ∉ ρ
theorem LcAt.on {G1 G G' : Hp} {ρ1 ρ ρ' : List Addr} {H1 H H' : Hp} {d : Addr} {l : List D} {S S' : Sto} (a : LcAt X G1 ρ1 H1 d l G ρ S H) (x : Ext G ρ H G' ρ' H') (w : Wd X.K X.w X.mg G' ρ' S' H') : LcAt X G1 ρ1 H1 d l G' ρ' S' H' := by
  obtain ⟨acv, h1, h2⟩ := a.at_
  exact ⟨w, a.ext.trans x, ⟨acv, x.keep d _ h1 a.rn, h2.up x.up⟩, x.newG d a.gn (by rw [h1]; simp), fun z => (x.newR d z).elim a.rn fun z => by rw [h1] at z; cases z⟩
theorem LcAt.put {G1 G : Hp} {ρ1 ρ : List Addr} {H1 H : Hp} {d : Addr} {l : List D} {S : Sto} (a : LcAt X G1 ρ1 H1 d l G ρ S H) (h0 : H1 d = none) {e : D} {v : V} (rv : Rep X.K X.w X.mg G ρ v e) (hl : l.length < sizeLine) :
    ∃ acc, H d = some (.lst acc) ∧ acc.length < sizeLine ∧ LcAt X G1 ρ1 H1 d (l ++ [e]) G ρ S (upd H d (.lst (acc ++ [v]))) := by
  obtain ⟨acv, h1, h2⟩ := a.at_
  exact ⟨acv, h1, by rw [h2.length]; exact hl, a.wd.put a.gn a.rn (by rw [h1]; simp), a.ext.put h0, ⟨_, upd_same, h2.append (.cons rv .nil)⟩, a.gn, a.rn⟩
theorem lc2_law (hv : ∀ j ∈ vs, j ∈ own.map (·.2)) {σ : L2.St} {vs1 : List Nat} (hv1 : ∀ j ∈ us, j ∈ vs1) {H : Hp} {Q : VK} (q : tF X.K X.w X.mg Z (lc2F (own.map (·.2)) gi tf gt vs1 gi1 tf1 gt1 ge) σ H Q) :
    tLc2 (tI X.K X.w X.mg Z Y gi) (gT X.K X.w X.mg Y Z.B vs tf) (tT X.K X.w X.mg (z0 Z) gt) (tI X.K X.w X.mg (z0 Z) Y1 gi1) (gT X.K X.w X.mg Y1 Z.B us tf1) (tT X.K X.w X.mg (z0 Z) gt1) (tV X.K X.w X.mg (z0 Z) ge) (own.map (·.2)) vs1 σ H Q := by
  obtain ⟨G, ρ, S, env, wd, fr, run⟩ := q
  refine ⟨G, ρ, S, env, wd, fr, run.bind.imp fun ds G1 ρ1 S1 H1 ⟨x1, w1, r1⟩ J C it c1 D hD => ?_⟩
  generalize own.map (·.2) = vv at hv r1 ⊢
  have key : ∃ r Sf, compL2 tf gt vs1 gi1 tf1 gt1 ge (drp vv env) ds S1 = some (.ok r, Sf) ∧ r.length ≤ sizeLine ∧ ∀ G' ρ' H', Ext G1 ρ1 H1 G' ρ' H' → Wd X.K X.w X.mg G' ρ' Sf H' → ∀ v, SVR X.K X.w X.mg G' ρ' H' v (.lst r) → (∀ p, v = .ref p → H p = none) → Q v H' := by
    unfold Run M.bind noX at r1
    cases e : compL2 tf gt vs1 gi1 tf1 gt1 ge (drp vv env) ds S1 with
    | none => rw [e] at r1; exact r1.elim
    | some z =>
      obtain ⟨z, Sf⟩ := z
      rw [e] at r1
      cases z with
      | error _ => exact r1.elim
      | ok r =>
        dsimp only at r1
        by_cases hz : r.length ≤ sizeLine
        · rw [if_pos hz] at r1
          exact ⟨r, Sf, rfl, hz, fun G' ρ' H' x' w' v rv f => (r1 G' ρ' H' x' w').2 v rv fun _ => f⟩
        · rw [if_neg hz] at r1; exact r1.elim
  obtain ⟨r, Sf, er, hz, fin⟩ := key
  obtain ⟨w2, x2, gp, np⟩ := w1.own (o := .lst []) hD
  refine ⟨fun i m H => m = ds.length - i ∧ i ≤ ds.length ∧ ∃ G ρ S acc rest, LcAt X G1 ρ1 H1 D acc G ρ S H ∧ C G ρ ∧ compL2 tf gt vs1 gi1 tf1 gt1 ge (drp vv env) (ds.drop i) S = some (.ok rest, Sf) ∧ acc ++ rest = r,
    ⟨ds.length, by simp, Nat.zero_le _, G1, ρ1, S1, [], r, ⟨w2, x2, ⟨[], upd_same, .nil⟩, gp, np⟩, c1, er, rfl⟩, ?_⟩
  rintro i m H2 ⟨rfl, hi, G2, ρ2, S2, acc, rest, a2, c2, e2, ea⟩
  by_cases hlt : i < ds.length
  · refine .inr ⟨it.go _ _ _ _ _ a2.wd c2 hlt, fun H => ∃ G ρ S acc rest, LcAt X G1 ρ1 H1 D acc G ρ S H ∧ C G ρ ∧ compL2 tf gt vs1 gi1 tf1 gt1 ge (drp vv env) (ds.drop (i + 1)) S = some (.ok rest, Sf) ∧ acc ++ rest = r,
      fun H' z => ⟨_, by omega, rfl, hlt, z⟩, fun x H3 y => ?_⟩
    obtain ⟨w3, x3, yy⟩ := it.yld _ _ _ _ _ _ _ ds[i] a2.wd c2 y (by simp [hlt])
    have a3 := a2.on x3 w3
    rw [List.drop_eq_getElem_cons hlt] at e2
    unfold compL2 at e2
    cases et : tf ds[i] (drp vv env) with
    | none => rw [et] at e2; cases e2
    | some env1 =>
      rw [et] at e2
      obtain ⟨b, S4, eb, e4⟩ := M.bind_ok e2
      refine ⟨G2, ρ2, S2, _, _, env1, w3, (fr.ext (x1.trans a3.ext)).wipe vv, yy, et, fun σ3 f3 l3 s3 => ⟨wipe_eq l3 s3 hv, G2, ρ2, S2, env1, w3, f3, Run.okB eb fun G4 ρ4 H4 x4 w4 => ?_⟩⟩
      have a4 := a3.on x4 w4
      have c4 := it.up _ _ _ _ (x3.trans x4).up c2
      cases b with
      | false =>
        rw [if_neg Bool.false_ne_true] at e4
        exact iteF ⟨G4, ρ4, S4, acc, rest, a4, c4, e4, ea⟩
      | true =>
        rw [if_pos rfl] at e4
        obtain ⟨ds1, S5, eds, e5⟩ := M.bind_ok e4
        obtain ⟨l1, S6, el1, e6⟩ := M.bind_ok e5
        obtain ⟨ls, S7, els, e7⟩ := M.bind_ok e6
        obtain ⟨rfl, rfl⟩ := M.pure_ok e7
        refine iteT ⟨G4, ρ4, S4, env1, w4, f3.ext x4, Run.okB eds fun G5 ρ5 H5 x5 w5 J1 C1 it1 k1 => ?_⟩
        have a5 := a4.on x5 w5
        have f5 := ((f3.ext x4).ext x5).dOnly
        have c5 := it.up _ _ _ _ x5.up c4
        refine ⟨fun j m H => m = ds1.length - j ∧ j ≤ ds1.length ∧ ∃ G ρ S ac1 re1, LcAt X G1 ρ1 H1 D (acc ++ ac1) G ρ S H ∧ FrV X.K X.w X.mg Z.B G ρ H (dOnly env1) σ3 ∧ C1 G ρ ∧ C G ρ ∧ compL tf1 gt1 ge (drp vs1 (dOnly env1)) (ds1.drop j) S = some (.ok re1, S6) ∧ ac1 ++ re1 = l1,
          ⟨ds1.length, by simp, Nat.zero_le _, G5, ρ5, S5, [], l1, by rw [List.append_nil]; exact a5, f5, k1, c5, el1, rfl⟩, ?_⟩
        rintro j m H8 ⟨rfl, hj, G8, ρ8, S8, ac1, re1, a8, x8, k8, c8, e8, ea8⟩
        by_cases hlt1 : j < ds1.length
        · refine .inr ⟨it1.go _ _ _ _ _ a8.wd k8 hlt1, fun H => ∃ G ρ S ac1 re1, LcAt X G1 ρ1 H1 D (acc ++ ac1) G ρ S H ∧ FrV X.K X.w X.mg Z.B G ρ H (dOnly env1) σ3 ∧ C1 G ρ ∧ C G ρ ∧ compL tf1 gt1 ge (drp vs1 (dOnly env1)) (ds1.drop (j + 1)) S = some (.ok re1, S6) ∧ ac1 ++ re1 = l1,
            fun H' z => ⟨_, by omega, rfl, hlt1, z⟩, fun x H9 y => ?_⟩
          obtain ⟨w9, x9, yy9⟩ := it1.yld _ _ _ _ _ _ _ ds1[j] a8.wd k8 y (by simp [hlt1])
          have a9 := a8.on x9 w9
          rw [List.drop_eq_getElem_cons hlt1] at e8
          unfold compL at e8
          cases et1 : tf1 ds1[j] (drp vs1 (dOnly env1)) with
          | none => rw [et1] at e8; cases e8
          | some env2 =>
            rw [et1] at e8
            obtain ⟨b1, S10, eb1, e10⟩ := M.bind_ok e8
            refine ⟨G8, ρ8, S8, _, _, env2, w9, (x8.ext x9).wipe vs1, yy9, et1, fun σ10 f10 l10 s10 => ⟨wipe_eq l10 s10 hv1, G8, ρ8, S8, env2, w9, f10, Run.okB eb1 fun G10 ρ10 H10 x10 w10 => ?_⟩⟩
            have a10 := a9.on x10 w10
            have k10 := it1.up _ _ _ _ (x9.trans x10).up k8
            have c10 := it.up _ _ _ _ (x9.trans x10).up c8
            have x5a := (x8.ext x9).ext x10
            cases b1 with
            | false =>
              rw [if_neg Bool.false_ne_true] at e10
              exact iteF ⟨G10, ρ10, S10, ac1, re1, a10, x5a, k10, c10, e10, ea8⟩
            | true =>
              rw [if_pos rfl] at e10
              obtain ⟨vd, S12, ev, e12⟩ := M.bind_ok e10
              obtain ⟨ys, S14, ey, e14⟩ := M.bind_ok e12
              obtain ⟨rfl, rfl⟩ := M.pure_ok e14
              refine iteT ⟨G10, ρ10, S10, env2, w10, f10.ext x10, Run.okB ev fun G12 ρ12 H12 x12 w12 v rv => ?_⟩
              have a12 := a10.on x12 w12
              have hlen : (acc ++ ac1).length < sizeLine := by
                have h1 : (acc ++ (l1 ++ ls)).length = r.length := by rw [ea]
                have h2 : (ac1 ++ vd :: ys).length = l1.length := by rw [ea8]
                simp only [List.length_append, List.length_cons] at h1 h2 ⊢
                omega
              obtain ⟨acv, z2, z3, z4⟩ := a12.put hD rv hlen
              exact ⟨acv, z2, z3, G12, ρ12, S12, ac1 ++ [vd], ys, by rw [← List.append_assoc]; exact z4, (x5a.ext x12).dPut, it1.up _ _ _ _ x12.up k10, it.up _ _ _ _ x12.up c10, ey, by rw [List.append_assoc]; exact ea8⟩
        · have e : j = ds1.length := by omega
          subst e
          rw [List.drop_length] at e8
          obtain ⟨rfl, rfl⟩ := M.pure_ok e8
          rw [List.append_nil] at ea8
          subst ea8
          exact .inl ⟨it1.stop _ _ _ _ a8.wd k8, G8, ρ8, S8, acc ++ ac1, ls, a8, c8, els, by rw [List.append_assoc]; exact ea⟩
  · have e : i = ds.length := by omega
    subst e
    rw [List.drop_length] at e2
    obtain ⟨rfl, rfl⟩ := M.pure_ok e2
    rw [List.append_nil] at ea
    subst ea
    obtain ⟨acv, h1, h2⟩ := a2.at_
    exact .inl ⟨it.stop _ _ _ _ a2.wd c2, fin _ _ _ a2.ext a2.wd _ (.inr ⟨D, rfl, a2.gn, a2.rn, acv, h1, h2⟩) fun p e => by injection e with e; subst e; exact x1.dom _ hD⟩
theorem ef_lc2 (vs1 : List Nat) (hN : X.N.Nodup) (hi : EI X Z Y tg iter gi) (ok : BlkOk X.N X.env.scope scope own) (hv : ∀ j ∈ vs, j ∈ own.map (·.2)) (hv1 : ∀ j ∈ us, j ∈ vs1) (hv2 : ∀ j ∈ vs1, j ∈ own.map (·.2))
    (hg : ∀ (s : Shared) (H : Hp) (C : Addr) (cl : List (Str × Addr)) (fp : List Addr), GT (X.blk s H scope (compEnvC scope cl C X.env) fp) (z0 Z) Y tg vs tf) (ht : ∀ (s : Shared) (H : Hp) (C : Addr) (cl : List (Str × Addr)) (fp : List Addr), ETs (X.blk s H scope (compEnvC scope cl C X.env) fp) (z0 Z) ifs gt)
    (hi1 : ∀ (s : Shared) (H : Hp) (C : Addr) (cl : List (Str × Addr)) (fp : List Addr), EI (X.blk s H scope (compEnvC scope cl C X.env) fp) (z0 Z) Y1 tg1 iter1 gi1)
    (hg1 : ∀ (s : Shared) (H : Hp) (C : Addr) (cl : List (Str × Addr)) (fp : List Addr), GT (X.blk s H scope (compEnvC scope cl C X.env) fp) (z0 Z) Y1 tg1 us tf1) (ht1 : ∀ (s : Shared) (H : Hp) (C : Addr) (cl : List (Str × Addr)) (fp : List Addr), ETs (X.blk s H scope (compEnvC scope cl C X.env) fp) (z0 Z) ifs1 gt1)
    (he : ∀ (s : Shared) (H : Hp) (C : Addr) (cl : List (Str × Addr)) (fp : List Addr), EV (X.blk s H scope (compEnvC scope cl C X.env) fp) (z0 Z) elt ge)
    (hc : X.calm = true := by rfl) (hs : ∀ x, foldedSetIterable iter X.env x = pure x := by intro _; rfl) (hs1 : ∀ env x, foldedSetIterable iter1 env x = pure x := by intro _ _; rfl) :
    EF X Z (.ListComp elt [⟨tg, iter, ifs, 0⟩, ⟨tg1, iter1, ifs1, 0⟩] scope pos) (lc2F (own.map (·.2)) gi tf gt vs1 gi1 tf1 gt1 ge) := PE.mono (pe_lc2 hc hN hi ok hv2 hg ht hi1 hg1 ht1 he hs hs1) fun σ H Q q => lc2_law hv hv1 q
/-- name = [.. for .. for ..] on one line -/
theorem ss_setLc2 {x : Str} {px : Pos} (vs1 : List Nat) (i : Nat) (hN : X.N.Nodup) (hi : EI X Z Y tg iter gi) (ok : BlkOk X.N X.env.scope scope own) (hv : ∀ j ∈ vs, j ∈ own.map (·.2)) (hv1 : ∀ j ∈ us, j ∈ vs1) (hv2 : ∀ j ∈ vs1, j ∈ own.map (·.2))
    (hg : ∀ (s : Shared) (H : Hp) (C : Addr) (cl : List (Str × Addr)) (fp : List Addr), GT (X.blk s H scope (compEnvC scope cl C X.env) fp) (z0 Z) Y tg vs tf) (ht : ∀ (s : Shared) (H : Hp) (C : Addr) (cl : List (Str × Addr)) (fp : List Addr), ETs (X.blk s H scope (compEnvC scope cl C X.env) fp) (z0 Z) ifs gt)
    (hi1 : ∀ (s : Shared) (H : Hp) (C : Addr) (cl : List (Str × Addr)) (fp : List Addr), EI (X.blk s H scope (compEnvC scope cl C X.env) fp) (z0 Z) Y1 tg1 iter1 gi1)
    (hg1 : ∀ (s : Shared) (H : Hp) (C : Addr) (cl : List (Str × Addr)) (fp : List Addr), GT (X.blk s H scope (compEnvC scope cl C X.env) fp) (z0 Z) Y1 tg1 us tf1) (ht1 : ∀ (s : Shared) (H : Hp) (C : Addr) (cl : List (Str × Addr)) (fp : List Addr), ETs (X.blk s H scope (compEnvC scope cl C X.env) fp) (z0 Z) ifs1 gt1)
    (he : ∀ (s : Shared) (H : Hp) (C : Addr) (cl : List (Str × Addr)) (fp : List Addr), EV (X.blk s H scope (compEnvC scope cl C X.env) fp) (z0 Z) elt ge)
    (hx : X.N[i]? = some x := by rfl) (hxl : X.env.scope.names.lookup x = some .local := by rfl)
    (hsw : swapsWith (.ListComp elt [⟨tg, iter, ifs, 0⟩, ⟨tg1, iter1, ifs1, 0⟩] scope pos) (some (.Name x px)) pos'.line X.env = pure true := by exact sw_true rfl rfl rfl rfl)
    (hc : X.calm = true := by rfl) (hs : ∀ x, foldedSetIterable iter X.env x = pure x := by intro _; rfl) (hs1 : ∀ env x, foldedSetIterable iter1 env x = pure x := by intro _ _; rfl) :
    SS X Z (.Assign [.Name x px] (.ListComp elt [⟨tg, iter, ifs, 0⟩, ⟨tg1, iter1, ifs1, 0⟩] scope pos) pos') (sAsgF i (lc2F (own.map (·.2)) gi tf gt vs1 gi1 tf1 gt1 ge)) := PS.mono (ps_setLc2 hc hN hx hxl hsw hi ok hv2 hg ht hi1 hg1 ht1 he hs hs1) fun D σ H q => by
  obtain ⟨G, ρ, S, env, wd, fr, run⟩ := q
  refine lc2_law (Z := Z) (Y1 := Y1) (Q := fun x H1 => gName i x σ H1 D.nx) hv hv1 ⟨G, ρ, S, env, wd, fr, (RunS.lift fr run).imp fun sv G1 ρ1 S1 H1 ⟨x1, w1, f1, r1⟩ v rv fresh => ?_⟩
  refine r1.nx w1 _ (f1.set rv (fun o p e hb => fr.old p hb (fresh o p e)) fun o p e j sj hj e1 e2 e3 => ?_)
  obtain ⟨v', e4, r'⟩ := fr.at_ j sj e1
  rw [e3] at e4
  cases e4
  rcases r' with ⟨d, rfl, _⟩ | ⟨p', e5, _, _, o'⟩
  · cases e2
  · injection e5 with e5
    subst e5
    obtain ⟨ob, ho⟩ := o'.has
    rw [fresh o p e] at ho
    cases ho
theorem ss_setLc2V {x : Str} {px : Pos} (vs1 : List Nat) (i : Nat) (hN : X.N.Nodup) (hi : EI X Z Y tg iter gi) (ok : BlkOk X.N X.env.scope scope own) (hv : ∀ j ∈ vs, j ∈ own.map (·.2)) (hv1 : ∀ j ∈ us, j ∈ vs1) (hv2 : ∀ j ∈ vs1, j ∈ own.map (·.2))
    (hg : ∀ (s : Shared) (H : Hp) (C : Addr) (cl : List (Str × Addr)) (fp : List Addr), GT (X.blk s H scope (compEnvC scope cl C X.env) fp) (z0 Z) Y tg vs tf) (ht : ∀ (s : Shared) (H : Hp) (C : Addr) (cl : List (Str × Addr)) (fp : List Addr), ETs (X.blk s H scope (compEnvC scope cl C X.env) fp) (z0 Z) ifs gt)
    (hi1 : ∀ (s : Shared) (H : Hp) (C : Addr) (cl : List (Str × Addr)) (fp : List Addr), EI (X.blk s H scope (compEnvC scope cl C X.env) fp) (z0 Z) Y1 tg1 iter1 gi1)
    (hg1 : ∀ (s : Shared) (H : Hp) (C : Addr) (cl : List (Str × Addr)) (fp : List Addr), GT (X.blk s H scope (compEnvC scope cl C X.env) fp) (z0 Z) Y1 tg1 us tf1) (ht1 : ∀ (s : Shared) (H : Hp) (C : Addr) (cl : List (Str × Addr)) (fp : List Addr), ETs (X.blk s H scope (compEnvC scope cl C X.env) fp) (z0 Z) ifs1 gt1)
    (he : ∀ (s : Shared) (H : Hp) (C : Addr) (cl : List (Str × Addr)) (fp : List Addr), EV (X.blk s H scope (compEnvC scope cl C X.env) fp) (z0 Z) elt ge)
    (hx : X.N[i]? = some x := by rfl) (hxl : X.env.scope.names.lookup x = some .local := by rfl)
    (hsw : swapsWith (.ListComp elt [⟨tg, iter, ifs, 0⟩, ⟨tg1, iter1, ifs1, 0⟩] scope pos) (some (.Name x px)) pos'.line X.env = pure true := by exact sw_true rfl rfl rfl rfl)
    (hc : X.calm = true := by rfl) (hs : ∀ x, foldedSetIterable iter X.env x = pure x := by intro _; rfl) (hs1 : ∀ env x, foldedSetIterable iter1 env x = pure x := by intro _ _; rfl) :
    SS X Z (.Assign [.Name x px] (.ListComp elt [⟨tg, iter, ifs, 0⟩, ⟨tg1, iter1, ifs1, 0⟩] scope pos) pos') (sAsg i (frz (lc2F (own.map (·.2)) gi tf gt vs1 gi1 tf1 gt1 ge))) := PS.mono (ps_setLc2 hc hN hx hxl hsw hi ok hv2 hg ht hi1 hg1 ht1 he hs hs1) fun D σ H q => by
  obtain ⟨G, ρ, S, env, wd, fr, run⟩ := q
  refine lc2_law (Z := Z) (Y1 := Y1) (Q := fun x H1 => gName i x σ H1 D.nx) hv hv1 (tV_frz ⟨G, ρ, S, env, wd, fr, (RunS.lift fr run).imp fun d G1 ρ1 S1 H1 ⟨x1, w1, f1, r1⟩ v rv => ?_⟩)
  exact r1.nx w1 _ (f1.setD rv)
end
end VX
set_option Elab.async false
set_option linter.all false
set_option maxRecDepth 100000
set_option maxHeartbeats 4000000
/-! a list taken apart into names -/
namespace VX
open PySem PySem.Spec PyProof.Rows L2
def gunl (f : List D → Env → Option Env) : TgF := fun d env => match d with
  | .lst ds => f ds env
  | _ => none
section
variable {X : Cx} {Z : Zt} {es : List Expr} {vs : List Nat} {ts : List D → Env → Option Env} {pos : Pos}
theorem gr_unl {k n : Nat} (hc : X.calm = true) (h : GRs X Z es vs ts) (hl : ∀ ds env env', ts ds env = some env' → ds.length = n) (hn : (assignEach es X.env).length = n := by rfl) (hst : (assignEach es X.env).findIdx? (·.1) = none := by rfl) : GR X Z (.Tuple es k pos) vs (gunl ts) := PG.mono (pg_unl hc h hn hst) fun v σ H Q q => by
  obtain ⟨G, ρ, S, env, d, env', wd, fr, y, e, kk⟩ := q
  cases d with
  | lst ds =>
    cases y with
    | lst h1 r => exact ⟨_, _, rfl, .of (wd.g _ _ h1), by rw [r.length]; exact hl _ _ _ e, G, ρ, S, env, ds, env', wd, fr, r, e, kk⟩
  | _ => cases e
end
/-! ### min(a, b) of whole numbers -/
def minD : D → D → Option D := intOp (fun _ _ => true) fun i j => if j < i then j else i
def rMin2 : List V → Hp → VK → Prop := fun xs H Q => ∃ i j, xs = [.int i, .int j] ∧ Q (.int (if j < i then j else i)) H
theorem snd_min {K : PySem.W.Frag} {w : World} {mg : Str → Option Value} : Snd2 K w mg minD fun x y H Q => rMin2 [x, y] H Q := by
  intro G ρ S H x y d e r Q wd sx sy h1 q
  unfold minD intOp at h1
  split at h1
  · rw [if_pos rfl] at h1
    cases h1
    exact ⟨_, _, by rw [sx.int, sy.int], q.here wd (.int _)⟩
  · cases h1
section
variable {X : Cx} {Z : Zt} {e e2 : Expr} {g g2 : Env → M D} {x : Str} {p pos : Pos} {id : String} {rr : List V → Hp → VK → Prop}
theorem ev_callB2 {h : D → D → Option D} (snd : Snd2 X.K X.w X.mg h fun x y H Q => rr [x, y] H Q) (hc : CallR X (.builtin id) rr) (hm : X.mg x = none) (he : EP X Z e g) (he2 : EP X Z e2 g2) (hv : bootBuiltins x = some (.builtin id) := by decide +kernel) (hg : Gl X x := by rfl) (hn : x ≠ "__name__" := by decide) (hdb : (x == ("__debug__" : Str)) = false := by decide)
    (hs : starEach [e, e2] X.env = (false, eval e X.env) :: starEach [e2] X.env := by rfl) (hs2 : starEach [e2] X.env = (false, eval e2 X.env) :: starEach [] X.env := by rfl) (hpl : (backTo pos (starEach [e2] X.env)).any (·.1) = false := by rfl) : EV X Z (.Call (.Name x p) [e, e2] [] pos) (op2 h g g2) :=
  PE.mono (pe_callB hc hg hm hv (pa_cons he (pa_cons he2 pa_nil hs2) hs) hn hdb hs hpl) fun _ _ _ q => (tV_op2 snd q)
end
end VX
set_option Elab.async false
set_option linter.all false
set_option maxRecDepth 100000
set_option maxHeartbeats 4000000
/-! the semantic functions, evaluated -/
namespace VX
open PySem PySem.Spec PyProof.Rows L2

section
variable {α β : Type}
@[simp] theorem m_pb (a : α) (f : α → M β) : M.bind (M.pure a) f = f a := rfl
@[simp] theorem m_fb (f : α → M β) : M.bind (M.fail : M α) f = M.fail := rfl
@[simp] theorem m_ib (c : Prop) [Decidable c] (a b : M α) (f : α → M β) : M.bind (if c then a else b) f = if c then M.bind a f else M.bind b f := by split <;> rfl
@[simp] theorem m_os (a : α) : M.opt (some a) = M.pure a := rfl
@[simp] theorem m_on : M.opt (none : Option α) = M.fail := rfl
@[simp] theorem m_oi (c : Prop) [Decidable c] (a b : Option α) : M.opt (if c then a else b) = if c then M.opt a else M.opt b := by split <;> rfl
@[simp] theorem noX_pure (a : α) : noX (M.pure a) = M.pure a := rfl
end
@[simp] theorem look_int (i : Int) : look (.int i) = M.pure (.int i) := rfl
@[simp] theorem look_bl (i : Bool) : look (.bl i) = M.pure (.bl i) := rfl
@[simp] theorem look_non : look .non = M.pure .non := rfl
@[simp] theorem look_str (i : List Nat) : look (.str i) = M.pure (.str i) := rfl
@[simp] theorem look_tup (i : List D) : look (.tup i) = M.pure (.tup i) := rfl
@[simp] theorem look_lst (i : List D) : look (.lst i) = M.pure (.lst i) := rfl
@[simp] theorem look_dct (i : List (KS × D)) : look (.dct i) = M.pure (.dct i) := rfl
@[simp] theorem look_tab (i : List (List Nat × D)) : look (.tab i) = M.pure (.tab i) := rfl
@[simp] theorem look_scr (i : List Int) : look (.scr i) = M.pure (.scr i) := rfl
@[simp] theorem evar_eq (i : Nat) (env : Env) : evar i env = match env[i]? with
  | some (some (.dat d)) => M.pure d
  | _ => M.fail := rfl
@[simp] theorem pvar_eq (i : Nat) (env : Env) : pvar i env = match env[i]? with
  | some (some sv) => M.pure sv.d
  | _ => M.fail := rfl
@[simp] theorem svd1 (d : D) : (SV.dat d).d = d := rfl
@[simp] theorem svd2 (d : List D) : (SV.lst d).d = .lst d := rfl
@[simp] theorem svd3 (d : List (KS × D)) : (SV.dct d).d = .dct d := rfl
@[simp] theorem partE_none (env : Env) : partE none env = M.pure none := rfl
@[simp] theorem partE_some (g : Env → M D) (env : Env) : partE (some g) env = M.bind (g env) fun d => match d with
  | .int i => M.pure (some i)
  | _ => M.fail := rfl
section
variable {α : Type}
@[simp] theorem lift_p (a : α) (env : Env) (k : α → SM) : liftE (M.pure a) env k = k a := rfl
@[simp] theorem lift_f (env : Env) (k : α → SM) : liftE (M.fail : M α) env k = sFail := rfl
@[simp] theorem lift_i (c : Prop) [Decidable c] (a b : M α) (env : Env) (k : α → SM) : liftE (if c then a else b) env k = if c then liftE a env k else liftE b env k := by split <;> rfl
end
/-- ends -/
def eNx (env : Env) : SM := fun S => some (.nx env, S)
def eRt (v : SV) : SM := fun S => some (.rt v, S)
def eFl : SM := fun _ => none
def eBk (env : Env) : SM := fun S => some (.bk env, S)
def eCt (env : Env) : SM := fun S => some (.ct env, S)
def eXc (x : Ex) (env : Env) : SM := fun S => some (.xc x env, S)
@[simp] theorem e_nx (env : Env) : (fun S : Sto => some (Fl.nx env, S)) = eNx env := rfl
@[simp] theorem e_rt (v : SV) : (fun S : Sto => some (Fl.rt v, S)) = eRt v := rfl
@[simp] theorem e_fl : (fun _ : Sto => (none : Option (Fl × Sto))) = eFl := rfl
@[simp] theorem e_xc (x : Ex) (env : Env) : (fun S : Sto => some (Fl.xc x env, S)) = eXc x env := rfl
def seqF (m : SM) (b : Env → SM) : SM := fun S => match m S with
  | some (.nx env', S') => b env' S'
  | r => r
@[simp] theorem sSeq_eq (a b : Env → SM) (env : Env) : sSeq a b env = seqF (a env) b := rfl
@[simp] theorem seq_nx (env : Env) (b : Env → SM) : seqF (eNx env) b = b env := rfl
@[simp] theorem seq_rt (v : SV) (b : Env → SM) : seqF (eRt v) b = eRt v := rfl
@[simp] theorem seq_fl (b : Env → SM) : seqF eFl b = eFl := rfl
@[simp] theorem seq_xc (x : Ex) (env : Env) (b : Env → SM) : seqF (eXc x env) b = eXc x env := rfl
@[simp] theorem seq_i (c : Prop) [Decidable c] (m n : SM) (b : Env → SM) : seqF (if c then m else n) b = if c then seqF m b else seqF n b := by split <;> rfl
def fnF (m : SM) : M SV := fun S => match m S with
  | some (.rt sv, S') => some (.ok sv, S')
  | some (.nx _, S') => some (.ok (.dat .non), S')
  | some (.xc e _, S') => some (.error e, S')
  | _ => none
theorem fnB_eq (n : Nat) (g : Env → SM) (ds : List D) : fnB n g ds = fnF (g (ds.map (fun d => some (.dat d)) ++ List.replicate (n - ds.length) none)) := rfl
@[simp] theorem fn_rt (v : SV) : fnF (eRt v) = M.pure v := rfl
@[simp] theorem fn_nx (env : Env) : fnF (eNx env) = M.pure (.dat .non) := rfl
@[simp] theorem fn_xc (x : Ex) (env : Env) : fnF (eXc x env) = M.raise x := rfl
@[simp] theorem fn_i (c : Prop) [Decidable c] (m n : SM) : fnF (if c then m else n) = if c then fnF m else fnF n := by split <;> rfl
@[simp] theorem sFrz_eq (i : Nat) (g : Env → SM) (env : Env) : sFrz i g env = g (frzAt i env) := rfl
@[simp] theorem gnam_eq (i : Nat) (d : D) (env : Env) : gnam i d env = some (env.set i (some (.dat d))) := rfl

@[simp] theorem frz_eq (g : Env → M SV) (env : Env) : frz g env = M.bind (g env) fun sv => M.pure sv.d := rfl
@[simp] theorem upF_eq (g : Env → M D) (env : Env) : upF g env = M.bind (g env) fun d => M.pure (SV.dat d) := rfl
@[simp] theorem ecst_eq (d : D) (env : Env) : ecst d env = M.pure d := rfl
@[simp] theorem op1_eq (h : D → Option D) (ga : Env → M D) (env : Env) : op1 h ga env = M.bind (ga env) fun a => M.bind (look a) fun a => M.opt (h a) := rfl
@[simp] theorem op2_eq (h : D → D → Option D) (ga gb : Env → M D) (env : Env) : op2 h ga gb env = M.bind (ga env) fun a => M.bind (gb env) fun b => M.bind (look a) fun a => M.bind (look b) fun b => M.opt (h a b) := rfl
@[simp] theorem op1F_eq (h : D → Option SV) (ga : Env → M D) (env : Env) : op1F h ga env = M.bind (ga env) fun a => M.bind (look a) fun a => M.opt (h a) := rfl
@[simp] theorem op2F_eq (h : D → D → Option SV) (ga gb : Env → M D) (env : Env) : op2F h ga gb env = M.bind (ga env) fun a => M.bind (gb env) fun b => M.bind (look a) fun a => M.bind (look b) fun b => M.opt (h a b) := rfl
@[simp] theorem op1B_eq (h : D → Option Bool) (ga : Env → M D) (env : Env) : op1B h ga env = M.bind (ga env) fun a => M.bind (look a) fun a => M.opt (h a) := rfl
@[simp] theorem op2B_eq (h : D → D → Option Bool) (ga gb : Env → M D) (env : Env) : op2B h ga gb env = M.bind (ga env) fun a => M.bind (gb env) fun b => M.bind (look a) fun a => M.bind (look b) fun b => M.opt (h a b) := rfl
@[simp] theorem cmpE_eq (h : D → D → Option Bool) (ga gb : Env → M D) (env : Env) : cmpE h ga gb env = M.bind (ga env) fun a => M.bind (gb env) fun b => M.bind (look a) fun a => M.bind (look b) fun b => M.opt ((h a b).map .bl) := rfl
@[simp] theorem isiE_eq (T : String) (ga : Env → M D) (env : Env) : isiE T ga env = M.bind (ga env) fun a => M.bind (look a) fun a => M.opt ((isiB T a).map .bl) := rfl
@[simp] theorem chnE_eq (h h' : D → D → Option Bool) (ga gb gc : Env → M D) (env : Env) : chnE h h' ga gb gc env = M.bind (M.bind (ga env) fun a => M.bind (gb env) fun b => M.bind (M.opt (h a b)) fun k => if k = true then M.bind (gc env) fun c => M.opt (h' b c) else M.pure false) fun b => M.pure (D.bl b) := rfl
@[simp] theorem isNonB_eq (ga : Env → M D) (env : Env) : isNonB ga env = M.bind (ga env) fun a => M.pure a.isNon := rfl
@[simp] theorem isNotNonB_eq (ga : Env → M D) (env : Env) : isNotNonB ga env = M.bind (ga env) fun a => M.pure (!a.isNon) := rfl
@[simp] theorem isNE_eq (ga : Env → M D) (env : Env) : isNE ga env = M.bind (isNonB ga env) fun b => M.pure (D.bl b) := rfl
@[simp] theorem notNE_eq (ga : Env → M D) (env : Env) : notNE ga env = M.bind (isNotNonB ga env) fun b => M.pure (D.bl b) := rfl
@[simp] theorem andT_eq (a b : Env → M Bool) (env : Env) : andT a b env = M.bind (a env) fun c => if c = true then b env else M.pure false := rfl
@[simp] theorem orT_eq (a b : Env → M Bool) (env : Env) : orT a b env = M.bind (a env) fun c => if c = true then M.pure true else b env := rfl
@[simp] theorem notT_eq (a : Env → M Bool) (env : Env) : notT a env = M.bind (a env) fun c => M.pure (!c) := rfl
@[simp] theorem valT_eq (a : Env → M D) (env : Env) : valT a env = M.bind (a env) fun a => M.opt a.asB := rfl
@[simp] theorem andV_eq (a b : Env → M D) (env : Env) : andV a b env = M.bind (a env) fun a => M.bind (M.opt a.asB) fun c => if c = true then b env else M.pure (D.bl false) := rfl
@[simp] theorem orV_eq (a b : Env → M D) (env : Env) : orV a b env = M.bind (a env) fun a => M.bind (M.opt a.asB) fun c => if c = true then M.pure (D.bl true) else b env := rfl
@[simp] theorem notV_eq (a : Env → M D) (env : Env) : notV a env = M.bind (a env) fun a => M.bind (M.opt a.asB) fun c => M.pure (D.bl (!c)) := rfl
@[simp] theorem iteE_eq {α : Type} (t : Env → M Bool) (a b : Env → M α) (env : Env) : iteE t a b env = M.bind (t env) fun c => if c = true then a env else b env := rfl
@[simp] theorem nilA_eq (env : Env) : nilA env = M.pure [] := rfl
@[simp] theorem yesT_eq (env : Env) : yesT env = M.pure true := rfl
@[simp] theorem consA_eq (g : Env → M D) (gs : Env → M (List D)) (env : Env) : consA g gs env = M.bind (g env) fun d => M.bind (gs env) fun ds => M.pure (d :: ds) := rfl
@[simp] theorem tupE_eq (gs : Env → M (List D)) (env : Env) : tupE gs env = M.bind (gs env) fun ds => if ds.length ≤ sizeLine then M.pure (D.tup ds) else M.fail := rfl
@[simp] theorem lstE_eq (gs : Env → M (List D)) (env : Env) : lstE gs env = M.bind (gs env) fun ds => if ds.length ≤ sizeLine then M.pure (SV.lst ds) else M.fail := rfl
@[simp] theorem slE_eq (g : Env → M D) (gl gh : Env → M (Option Int)) (env : Env) : slE g gl gh env = M.bind (g env) fun d => M.bind (gl env) fun l => M.bind (gh env) fun h => M.bind (look d) fun d => M.opt (slF d l h) := rfl
@[simp] theorem callF_eq (F : List D → M SV) (gs : Env → M (List D)) (env : Env) : callF F gs env = M.bind (gs env) F := rfl
@[simp] theorem itm_eq (g : Env → M D) (env : Env) : itm g env = M.bind (g env) fun d => M.opt d.items := rfl
@[simp] theorem rngE_eq (g : Env → M D) (env : Env) : rngE g env = M.bind (g env) fun d => M.opt (rngI d) := rfl
@[simp] theorem enuE_eq (g : Env → M D) (env : Env) : enuE g env = M.bind (g env) fun d => M.opt (enuI d) := rfl
@[simp] theorem zipE_eq (g g2 : Env → M D) (env : Env) : zipE g g2 env = M.bind (g env) fun d => M.bind (g2 env) fun d2 => M.opt (zipI d d2) := rfl
@[simp] theorem lcF_eq (vs : List Nat) (gi : Env → M (List D)) (tf : TgF) (gt : Env → M Bool) (ge : Env → M D) (env : Env) : lcF vs gi tf gt ge env = M.bind (gi env) fun ds => M.bind (noX (compL tf gt ge (drp vs env) ds)) fun r => if r.length ≤ sizeLine then M.pure (.lst r) else M.fail := rfl
@[simp] theorem dc2F_eq (vs : List Nat) (gi : Env → M (List D)) (tf : TgF) (gt : Env → M Bool) (vs1 : List Nat) (gi1 : Env → M (List D)) (tf1 : TgF) (gt1 : Env → M Bool) (gk ge : Env → M D) (env : Env) : dc2F vs gi tf gt vs1 gi1 tf1 gt1 gk ge env = M.bind (gi env) fun ds => M.bind (noX (compP2 tf gt vs1 gi1 tf1 gt1 gk ge (drp vs env) ds)) fun r => if r.length ≤ sizeLine then M.pure (.dct (mergeD [] r)) else M.fail := rfl
@[simp] theorem sAsg_eq (i : Nat) (g : Env → M D) (env : Env) : sAsg i g env = liftE (g env) env fun d => eNx (env.set i (some (.dat d))) := rfl
@[simp] theorem sAsgF_eq (i : Nat) (g : Env → M SV) (env : Env) : sAsgF i g env = liftE (g env) env fun sv => eNx (env.set i (some sv)) := rfl
@[simp] theorem sIf_eq (t : Env → M Bool) (a b : Env → SM) (env : Env) : sIf t a b env = liftE (t env) env fun c => if c = true then a env else b env := rfl
@[simp] theorem sRet_eq (g : Env → M D) (env : Env) : sRet g env = liftE (g env) env fun d => eRt (.dat d) := rfl
@[simp] theorem sRetF_eq (g : Env → M SV) (env : Env) : sRetF g env = liftE (g env) env fun d => eRt d := rfl
@[simp] theorem sRetV_eq (i : Nat) (env : Env) : sRetV i env = match env[i]? with
  | some (some sv) => eRt sv
  | _ => eFl := by
  unfold sRetV
  cases h : env[i]? with
  | none => rfl
  | some o => cases o <;> rfl
@[simp] theorem sDrop_eq (g : Env → M D) (env : Env) : sDrop g env = liftE (g env) env fun _ => eNx env := rfl
@[simp] theorem sRetN_eq (env : Env) : sRetN env = eRt (.dat .non) := rfl
@[simp] theorem sPass_eq (env : Env) : sPass env = eNx env := rfl
@[simp] theorem sNx_eq (env : Env) : sNx env = eNx env := rfl
@[simp] theorem sFail_eq : (sFail : SM) = eFl := rfl
@[simp] theorem sRaise_eq (x : Str) (env : Env) : sRaise x env = eXc ⟨x, []⟩ env := rfl
@[simp] theorem sFor_eq (gi : Env → M (List D)) (tf : TgF) (b : Env → SM) (env : Env) : sFor gi tf b env = liftE (gi env) env fun ds => forL tf b ds env := rfl
@[simp] theorem forL_nil (tf : TgF) (b : Env → SM) (env : Env) : forL tf b [] env = eNx env := rfl
def forF (m : SM) (k : Env → SM) : SM := fun S => match m S with
  | some (.nx env2, S') => k env2 S'
  | some (.ct env2, S') => k env2 S'
  | some (.bk env2, S') => some (.nx env2, S')
  | r => r
theorem forL_cons (tf : TgF) (b : Env → SM) (d : D) (ds : List D) (env env1 : Env) (h : tf d env = some env1) : forL tf b (d :: ds) env = forF (b env1) (forL tf b ds) := by
  show (match tf d env with
    | none => sFail
    | some env1 => _) = _
  rw [h]
  rfl
@[simp] theorem for_nx (env : Env) (k : Env → SM) : forF (eNx env) k = k env := rfl
@[simp] theorem for_rt (v : SV) (k : Env → SM) : forF (eRt v) k = eRt v := rfl
@[simp] theorem for_xc (x : Ex) (env : Env) (k : Env → SM) : forF (eXc x env) k = eXc x env := rfl
@[simp] theorem for_i (c : Prop) [Decidable c] (m n : SM) (k : Env → SM) : forF (if c then m else n) k = if c then forF m k else forF n k := by split <;> rfl
@[simp] theorem rep0 {α : Type} (a : α) : List.replicate 0 a = [] := rfl
theorem szl : sizeLine = 16777216 := by rw [sizeLine_eq]
theorem small_le {n : Nat} (h : n ≤ 10000000) : n ≤ sizeLine := by rw [szl]; omega
/-! ### comprehensions whose parts have no effect -/
theorem compL_map {tf : TgF} {gt : Env → M Bool} {ge : Env → M D} {env : Env} (h : D → D) : ∀ (ds : List D), (∀ d ∈ ds, ∃ env1, tf d env = some env1 ∧ gt env1 = M.pure true ∧ ge env1 = M.pure (h d)) → compL tf gt ge env ds = M.pure (ds.map h)
  | [], _ => rfl
  | d :: ds, hd => by
    obtain ⟨env1, h1, h2, h3⟩ := hd d List.mem_cons_self
    unfold compL
    rw [h1]
    simp only [h2, h3, m_pb, if_true, compL_map h ds fun x hx => hd x (List.mem_cons_of_mem _ hx), List.map_cons]
theorem compL_of {β : Type} {tf : TgF} {gt : Env → M Bool} {ge : Env → M D} {env : Env} (f h : β → D) : ∀ (l : List β), (∀ b ∈ l, ∃ env1, tf (f b) env = some env1 ∧ gt env1 = M.pure true ∧ ge env1 = M.pure (h b)) → compL tf gt ge env (l.map f) = M.pure (l.map h)
  | [], _ => rfl
  | d :: ds, hd => by
    obtain ⟨env1, h1, h2, h3⟩ := hd d List.mem_cons_self
    rw [List.map_cons]
    unfold compL
    rw [h1]
    simp only [h2, h3, m_pb, if_true, compL_of f h ds fun x hx => hd x (List.mem_cons_of_mem _ hx), List.map_cons]
theorem compL_filterOf {β : Type} {tf : TgF} {gt : Env → M Bool} {ge : Env → M D} {env : Env} (f h : β → D) (p : β → Bool) : ∀ (ds : List β), (∀ d ∈ ds, ∃ env1, tf (f d) env = some env1 ∧ gt env1 = M.pure (p d) ∧ (p d = true → ge env1 = M.pure (h d))) → compL tf gt ge env (ds.map f) = M.pure ((ds.filter p).map h)
  | [], _ => rfl
  | d :: ds, hd => by
    obtain ⟨env1, h1, h2, h3⟩ := hd d List.mem_cons_self
    rw [List.map_cons]
    unfold compL
    rw [h1]
    have ih := compL_filterOf f h p ds fun x hx => hd x (List.mem_cons_of_mem _ hx)
    cases hp : p d with
    | true => simp [h2, h3 hp, ih, hp]
    | false => simp [h2, ih, hp]
theorem compL_filter {tf : TgF} {gt : Env → M Bool} {ge : Env → M D} {env : Env} (p : D → Bool) (h : D → D) : ∀ (ds : List D), (∀ d ∈ ds, ∃ env1, tf d env = some env1 ∧ gt env1 = M.pure (p d) ∧ (p d = true → ge env1 = M.pure (h d))) → compL tf gt ge env ds = M.pure ((ds.filter p).map h)
  | [], _ => rfl
  | d :: ds, hd => by
    obtain ⟨env1, h1, h2, h3⟩ := hd d List.mem_cons_self
    unfold compL
    rw [h1]
    have ih := compL_filter p h ds fun x hx => hd x (List.mem_cons_of_mem _ hx)
    cases hp : p d with
    | true => simp [h2, h3 hp, ih, hp]
    | false => simp [h2, ih, hp]

theorem atI_nat {α : Type} (xs : List α) (n : Nat) : atI xs (n : Int) = xs[n]? := by
  unfold atI ixN
  rw [if_pos (Int.natCast_nonneg n)]
  by_cases h : n < xs.length
  · rw [if_pos (by omega)]
    simp
  · rw [if_neg (by omega)]
    rw [List.getElem?_eq_none (by omega)]
    rfl
theorem atI_of {α : Type} (xs : List α) {i : Int} (h : 0 ≤ i) : atI xs i = xs[i.toNat]? := by
  have := atI_nat xs i.toNat
  rwa [Int.toNat_of_nonneg h] at this
theorem ixT {xs : List D} {n : Nat} {d : D} (h : xs[n]? = some d) : ixD (.tup xs) (.int (n : Int)) = some d := by
  show atI xs (n : Int) = some d
  rw [atI_nat, h]
theorem ixL {xs : List D} {n : Nat} {d : D} (h : xs[n]? = some d) : ixD (.lst xs) (.int (n : Int)) = some d := by
  show atI xs (n : Int) = some d
  rw [atI_nat, h]
@[simp] theorem ixT0 (x : D) (xs : List D) : ixD (.tup (x :: xs)) (.int 0) = some x := ixT (n := 0) rfl
@[simp] theorem ixT1 (x y : D) (xs : List D) : ixD (.tup (x :: y :: xs)) (.int 1) = some y := ixT (n := 1) rfl
@[simp] theorem ixT2 (x y z : D) (xs : List D) : ixD (.tup (x :: y :: z :: xs)) (.int 2) = some z := ixT (n := 2) rfl
@[simp] theorem ixT3 (x y z a : D) (xs : List D) : ixD (.tup (x :: y :: z :: a :: xs)) (.int 3) = some a := ixT (n := 3) rfl
@[simp] theorem ixT4 (x y z a b : D) (xs : List D) : ixD (.tup (x :: y :: z :: a :: b :: xs)) (.int 4) = some b := ixT (n := 4) rfl
@[simp] theorem ixL0 (x : D) (xs : List D) : ixD (.lst (x :: xs)) (.int 0) = some x := ixL (n := 0) rfl
@[simp] theorem ixL1 (x y : D) (xs : List D) : ixD (.lst (x :: y :: xs)) (.int 1) = some y := ixL (n := 1) rfl
theorem cut_from {α : Type} {xs : List α} (n : Nat) (h : n ≤ xs.length) : cut xs (some (n : Int)) none = xs.drop n := by
  unfold cut
  rw [HT.sIx_nat, HT.sIx_none, Nat.min_eq_left h]
  exact List.take_of_length_le (by simp)
theorem cut_to {α : Type} {xs : List α} (n : Nat) : cut xs none (some (n : Int)) = xs.take n := by
  unfold cut
  rw [HT.sIx_nat, HT.sIx_none, List.drop_zero, Nat.sub_zero]
  by_cases h : n ≤ xs.length
  · rw [Nat.min_eq_left h]
  · rw [Nat.min_eq_right (by omega), List.take_of_length_le (Nat.le_refl _), List.take_of_length_le (by omega)]
theorem cut_mid {α : Type} {xs : List α} (n m : Nat) (h1 : n ≤ xs.length) (h2 : m ≤ xs.length) : cut xs (some (n : Int)) (some (m : Int)) = (xs.drop n).take (m - n) := by
  unfold cut
  rw [HT.sIx_nat, HT.sIx_nat, Nat.min_eq_left h1, Nat.min_eq_left h2]
/-- data that can be compared -/
def Nice (n : Nat) (d : D) : Prop := ∃ p, d.py = some p ∧ p.canLay0 = true ∧ p.depth ≤ n
theorem Nice.mono {n m : Nat} {d : D} (h : Nice n d) (l : n ≤ m) : Nice m d := by
  obtain ⟨p, h1, h2, h3⟩ := h
  exact ⟨p, h1, h2, Nat.le_trans h3 l⟩
theorem nice_non {n : Nat} : Nice n .non := ⟨_, rfl, rfl, Nat.zero_le _⟩
theorem nice_bl {n : Nat} (b : Bool) : Nice n (.bl b) := ⟨_, rfl, rfl, Nat.zero_le _⟩
theorem nice_int {n : Nat} (b : Int) : Nice n (.int b) := ⟨_, rfl, rfl, Nat.zero_le _⟩
theorem nice_str {n : Nat} {s : List Nat} (h : ∀ c ∈ s, c < 0x110000) : Nice n (.str s) := ⟨_, rfl, by
  unfold PyData.canLay0 PyData.strOk
  rw [Array.all_eq_true']
  intro c hc
  exact decide_eq_true (h c (by simpa [st] using hc)), Nat.zero_le _⟩
theorem nices {n : Nat} : ∀ {ds : List D}, (∀ d ∈ ds, Nice n d) → ∃ ps, D.pys ds = some ps ∧ PyData.canLayAll0 ps = true ∧ PyData.depthAll ps ≤ n
  | [], _ => ⟨[], rfl, rfl, Nat.zero_le _⟩
  | d :: ds, h => by
    obtain ⟨p, h1, h2, h3⟩ := h d List.mem_cons_self
    obtain ⟨ps, i1, i2, i3⟩ := nices fun x hx => h x (List.mem_cons_of_mem _ hx)
    refine ⟨p :: ps, ?_, ?_, ?_⟩
    · unfold D.pys; rw [h1, i1]
    · unfold PyData.canLayAll0; rw [h2, i2]; rfl
    · unfold PyData.depthAll; exact Nat.max_le.mpr ⟨h3, i3⟩
theorem nice_tup {n : Nat} {ds : List D} (h : ∀ d ∈ ds, Nice n d) : Nice (n + 1) (.tup ds) := by
  obtain ⟨ps, h1, h2, h3⟩ := nices h
  exact ⟨.tuple ps, by unfold D.py; rw [h1]; rfl, by unfold PyData.canLay0; exact h2, by unfold PyData.depth; omega⟩
theorem nice_lst {n : Nat} {ds : List D} (h : ∀ d ∈ ds, Nice n d) : Nice (n + 1) (.lst ds) := by
  obtain ⟨ps, h1, h2, h3⟩ := nices h
  exact ⟨.list ps, by unfold D.py; rw [h1]; rfl, by unfold PyData.canLay0; exact h2, by unfold PyData.depth; omega⟩
theorem Nice.shaped {n : Nat} {d : D} (h : Nice n d) (hn : n ≤ 64) : ∃ p, d.py = some p ∧ SeqAt.shaped p = true ∧ p.canLay0 = true := by
  obtain ⟨p, h1, h2, h3⟩ := h
  exact ⟨p, h1, by unfold SeqAt.shaped; rw [h2]; simp; omega, h2⟩
theorem eqB_self {n : Nat} {d : D} (h : Nice n d) (hn : n ≤ 64) : eqB d d = some true := by
  obtain ⟨p, h1, h2, h3⟩ := h.shaped hn
  unfold eqB
  rw [h1]
  simp [h2, SeqAt.eqv_refl p h3]
theorem neB_self {n : Nat} {d : D} (h : Nice n d) (hn : n ≤ 64) : neB d d = some false := by
  unfold neB
  rw [eqB_self h hn]
  rfl

theorem cs_ok (z : String) : ∀ c ∈ cs z, c < 0x110000 := by
  intro c hc
  unfold cs at hc
  obtain ⟨ch, _, rfl⟩ := List.mem_map.mp hc
  have := ch.valid
  have h : ch.toNat = ch.val.toNat := rfl
  rcases this with h1 | h1
  · have : ch.val.toNat < 0xd800 := h1
    omega
  · exact h1.2
theorem cs_inj {a b : String} (h : cs a = cs b) : a = b := by
  unfold cs at h
  have hi : ∀ x y : Char, x.toNat = y.toNat → x = y := fun x y e => by
    apply Char.ext
    exact UInt32.toNat_inj.mp e
  have key : ∀ l m : List Char, l.map Char.toNat = m.map Char.toNat → l = m := by
    intro l
    induction l with
    | nil => intro m h; cases m <;> simp at h <;> rfl
    | cons x l ih =>
      intro m h
      cases m with
      | nil => simp at h
      | cons y m =>
        simp only [List.map_cons, List.cons.injEq] at h
        rw [hi _ _ h.1, ih m h.2]
  exact String.toList_inj.mp (key _ _ h)
theorem eqB_str {a b : List Nat} (ha : ∀ c ∈ a, c < 0x110000) (hb : ∀ c ∈ b, c < 0x110000) : eqB (.str a) (.str b) = some (decide (a = b)) := by
  have h1 : SeqAt.shaped (.str (st a)) = true := by
    obtain ⟨p, e, h, _⟩ := (nice_str (n := 0) ha).shaped (Nat.zero_le _)
    cases e; exact h
  have h2 : SeqAt.shaped (.str (st b)) = true := by
    obtain ⟨p, e, h, _⟩ := (nice_str (n := 0) hb).shaped (Nat.zero_le _)
    cases e; exact h
  unfold eqB D.py
  simp only [h1, h2, and_self, if_true]
  unfold PyData.eqv
  congr 1
  by_cases e : a = b
  · subst e; simp
  · rw [decide_eq_false e]
    exact beq_eq_false_iff_ne.mpr fun z => e (st_inj z)
@[simp] theorem eqB_cs (a b : String) : eqB (.str (cs a)) (.str (cs b)) = some (decide (a = b)) := by
  rw [eqB_str (cs_ok a) (cs_ok b)]
  congr 1
  exact decide_eq_decide.mpr ⟨cs_inj, fun e => by rw [e]⟩
@[simp] theorem eqB_int (a b : Int) : eqB (.int a) (.int b) = some (decide (a = b)) := by
  have h : ∀ i : Int, SeqAt.shaped (.int i) = true := fun i => rfl
  unfold eqB D.py
  simp only [h, and_self, if_true]
  unfold PyData.eqv
  congr 1
@[simp] theorem neB_int (a b : Int) : neB (.int a) (.int b) = some (!decide (a = b)) := by
  unfold neB
  rw [eqB_int]
  rfl
theorem sortS_ext {l m : List (List Nat)} (h : l.Perm m) : sortS l = sortS m := by
  refine List.Perm.eq_of_pairwise (le := fun x y : List Nat => ¬ y < x) (fun a b _ _ h h' => ?_) (sortS_sorted l) (sortS_sorted m) ((sortS_perm l).trans (h.trans (sortS_perm m).symm))
  exact List.le_antisymm (List.not_lt.mp h) (List.not_lt.mp h')
/-- each once, sorted -/
def canon (l : List (List Nat)) : List (List Nat) := sortS (dedupS l)
theorem mem_canon {l : List (List Nat)} {a : List Nat} : a ∈ canon l ↔ a ∈ l := by
  unfold canon
  rw [(sortS_perm _).mem_iff, mem_dedupS]
theorem nodup_canon (l : List (List Nat)) : (canon l).Nodup := (sortS_perm _).nodup_iff.mpr (nodup_dedupS l)
theorem sort_is_canon {l m : List (List Nat)} (h : l.Nodup) (e : ∀ a, a ∈ l ↔ a ∈ m) : sortS l = canon m := sortS_ext ((List.perm_ext_iff_of_nodup h (nodup_dedupS m)).mpr fun a => (e a).trans mem_dedupS.symm)
/-- the keys of a dict of texts -/
theorem keys_put (kvs : List (KS × D)) (k : KS) (d : D) : (putD kvs k d).map (·.1) = if k ∈ kvs.map (·.1) then kvs.map (·.1) else kvs.map (·.1) ++ [k] := by
  unfold putD
  have h : (kvs.any fun kv => decide (kv.1 = k)) = decide (k ∈ kvs.map (·.1)) := by
    induction kvs with
    | nil => rfl
    | cons a l ih =>
      rw [List.any_cons, ih, List.map_cons]
      by_cases e : a.1 = k
      · subst e; simp
      · rw [decide_eq_false e, Bool.false_or]
        exact decide_eq_decide.mpr ⟨List.mem_cons_of_mem _, fun z => (List.mem_cons.mp z).elim (fun q => absurd q.symm e) id⟩
  rw [h]
  by_cases e : k ∈ kvs.map (·.1)
  · rw [if_pos (decide_eq_true e), if_pos e, List.map_map]
    apply List.map_congr_left
    intro a _
    show (if a.1 = k then (a.1, d) else a).1 = a.1
    split <;> rfl
  · rw [if_neg (by rw [decide_eq_false e]; simp), if_neg e, List.map_append]
    rfl
theorem keys_merge : ∀ (m l : List (KS × D)), (l.map (·.1)).Nodup → ((mergeD l m).map (·.1)).Nodup ∧ ∀ k, k ∈ (mergeD l m).map (·.1) ↔ k ∈ l.map (·.1) ∨ k ∈ m.map (·.1)
  | [], l, h => ⟨h, fun k => by simp [mergeD]⟩
  | (k, d) :: m, l, h => by
    have e := keys_put l k d
    have hn : ((putD l k d).map (·.1)).Nodup := by
      rw [e]
      split
      · exact h
      · rename_i hk
        rw [List.nodup_append]
        exact ⟨h, by simp, fun a ha b hb q => hk (by simp at hb; rw [← hb, ← q]; exact ha)⟩
    obtain ⟨h1, h2⟩ := keys_merge m (putD l k d) hn
    refine ⟨h1, fun x => ?_⟩
    have h3 : x ∈ (mergeD l ((k, d) :: m)).map (·.1) ↔ _ := h2 x
    rw [h3, e]
    split
    · rename_i hk
      rw [List.map_cons, List.mem_cons]
      exact ⟨fun z => z.elim .inl fun q => .inr (.inr q), fun z => z.elim .inl fun q => q.elim (fun e => .inl (by rw [e]; exact hk)) .inr⟩
    · rw [List.mem_append, List.mem_singleton, List.map_cons, List.mem_cons, or_assoc]
theorem strOf_map (ss : List (List Nat)) : KS.strOf (ss.map KS.str) = some ss := by
  induction ss with
  | nil => rfl
  | cons n ns ih => simp [KS.strOf, ih]
theorem nodup_ks {ss : List (List Nat)} : (ss.map KS.str).Nodup → ss.Nodup := by
  intro h
  induction ss with
  | nil => exact List.nodup_nil
  | cons a l ih =>
    rw [List.map_cons, List.nodup_cons] at h
    exact List.nodup_cons.mpr ⟨fun z => h.1 (List.mem_map_of_mem z), ih h.2⟩
/-- sorted(a dict with these keys) -/
theorem sortF_keys (ss : List (List Nat)) (v : List (KS × D)) (hv : v.map (·.1) = ss.map KS.str) (hl : ss.length < 64) : sortF (.dct (mergeD [] v)) = some (.lst ((canon ss).map D.str)) := by
  obtain ⟨h1, h2⟩ := keys_merge v [] List.nodup_nil
  have hk : ∃ ts : List (List Nat), (mergeD [] v).map (·.1) = ts.map KS.str := by
    have : ∀ k ∈ (mergeD [] v).map (·.1), ∃ t, k = KS.str t := fun k hk => by
      have := (h2 k).mp hk
      rw [hv] at this
      rcases this with z | z
      · cases z
      · obtain ⟨t, _, e⟩ := List.mem_map.mp z; exact ⟨t, e.symm⟩
    revert this
    generalize (mergeD [] v).map (·.1) = l
    intro h
    clear h1 h2
    induction l with
    | nil => exact ⟨[], rfl⟩
    | cons a l ih =>
      obtain ⟨t, rfl⟩ := h a List.mem_cons_self
      obtain ⟨ts, e⟩ := ih fun k hk => h k (List.mem_cons_of_mem _ hk)
      exact ⟨t :: ts, by rw [e]; rfl⟩
  obtain ⟨ts, ht⟩ := hk
  rw [ht] at h1 h2
  have hn := nodup_ks h1
  have hm : ∀ a, a ∈ ts ↔ a ∈ ss := fun a => by
    have := h2 (.str a)
    rw [hv] at this
    simp only [List.map_nil, List.not_mem_nil, false_or, List.mem_map, KS.str.injEq, exists_eq_right] at this
    exact this
  have hlen : ts.length < 64 := by
    have p : ts.Perm (dedupS ss) := (List.perm_ext_iff_of_nodup hn (nodup_dedupS ss)).mpr fun a => (hm a).trans mem_dedupS.symm
    rw [p.length_eq]
    have : ∀ l : List (List Nat), (dedupS l).length ≤ l.length := by
      intro l
      induction l with
      | nil => exact Nat.le_refl _
      | cons a l ih =>
        unfold dedupS
        split
        · simp only [List.length_cons]; omega
        · simp only [List.length_cons]; omega
    have := this ss
    omega
  unfold sortF
  dsimp only
  rw [ht, strOf_map]
  dsimp only
  rw [if_pos hlen, sort_is_canon hn hm]
theorem strsOf_map (ss : List (List Nat)) : D.strsOf (ss.map D.str) = some ss := by
  induction ss with
  | nil => rfl
  | cons n ns ih => simp [D.strsOf, ih]
theorem ssetF_strs (ss : List (List Nat)) (hl : ss.length < 64) : ssetF (.lst (ss.map D.str)) = some (.lst ((canon ss).map D.str)) := by
  unfold ssetF
  dsimp only
  rw [strsOf_map]
  dsimp only
  rw [if_pos hl]
  rfl
theorem canon_len (l : List (List Nat)) : (canon l).length ≤ l.length := by
  unfold canon
  rw [(sortS_perm _).length_eq]
  induction l with
  | nil => exact Nat.le_refl _
  | cons a l ih =>
    unfold dedupS
    split
    · simp only [List.length_cons]; omega
    · simp only [List.length_cons]; omega
/-- two clauses, no effect -/
theorem compP_of {β : Type} {tf : TgF} {gt : Env → M Bool} {gk ge : Env → M D} {env : Env} (f : β → D) (h : β → KS × D) : ∀ (l : List β), (∀ b ∈ l, ∃ env1 k, tf (f b) env = some env1 ∧ gt env1 = M.pure true ∧ gk env1 = M.pure k ∧ k.ks = some (h b).1 ∧ ge env1 = M.pure (h b).2) → compP tf gt gk ge env (l.map f) = M.pure (l.map h)
  | [], _ => rfl
  | d :: ds, hd => by
    obtain ⟨env1, k, h1, h2, h3, h4, h5⟩ := hd d List.mem_cons_self
    rw [List.map_cons]
    unfold compP
    rw [h1]
    simp only [h2, h3, h4, h5, m_pb, m_os, if_true, compP_of f h ds fun x hx => hd x (List.mem_cons_of_mem _ hx), List.map_cons]
theorem compP2_of {β : Type} {tf : TgF} {gt : Env → M Bool} {vs1 : List Nat} {gi1 : Env → M (List D)} {tf1 : TgF} {gt1 : Env → M Bool} {gk ge : Env → M D} {env : Env} (f : β → D) (h : β → List (KS × D)) : ∀ (l : List β), (∀ b ∈ l, ∃ env1 ds1, tf (f b) env = some env1 ∧ gt env1 = M.pure true ∧ gi1 env1 = M.pure ds1 ∧ compP tf1 gt1 gk ge (drp vs1 (dOnly env1)) ds1 = M.pure (h b)) →
    compP2 tf gt vs1 gi1 tf1 gt1 gk ge env (l.map f) = M.pure (l.map h).flatten
  | [], _ => rfl
  | d :: ds, hd => by
    obtain ⟨env1, ds1, h1, h2, h3, h4⟩ := hd d List.mem_cons_self
    rw [List.map_cons]
    unfold compP2
    rw [h1]
    simp only [h2, h3, h4, m_pb, if_true, compP2_of f h ds fun x hx => hd x (List.mem_cons_of_mem _ hx), List.map_cons, List.flatten_cons]
end VX
set_option Elab.async false
set_option linter.all false
set_option maxRecDepth 100000
set_option maxHeartbeats 4000000
/-! evaluation at one store -/
namespace VX
open PySem PySem.Spec PyProof.Rows L2
section
variable {α β : Type}
def bindR (r : Option (Except Ex α × Sto)) (f : α → M β) : Option (Except Ex β × Sto) := match r with
  | some (.ok a, S') => f a S'
  | some (.error e, S') => some (.error e, S')
  | none => none
theorem bind_S (m : M α) (f : α → M β) (S : Sto) : M.bind m f S = bindR (m S) f := rfl
@[simp] theorem bindR_ok (a : α) (S : Sto) (f : α → M β) : bindR (some (.ok a, S)) f = f a S := rfl
@[simp] theorem bindR_er (e : Ex) (S : Sto) (f : α → M β) : bindR (some (.error e, S)) f = some (.error e, S) := rfl
@[simp] theorem bindR_no (f : α → M β) : bindR none f = none := rfl
@[simp] theorem bindR_i (c : Prop) [Decidable c] (a b : Option (Except Ex α × Sto)) (f : α → M β) : bindR (if c then a else b) f = if c then bindR a f else bindR b f := by split <;> rfl
theorem pure_S (a : α) (S : Sto) : M.pure a S = some (.ok a, S) := rfl
theorem fail_S (S : Sto) : (M.fail : M α) S = none := rfl
theorem raise_S (e : Ex) (S : Sto) : (M.raise e : M α) S = some (.error e, S) := rfl
theorem look_S (d : D) (S : Sto) : look d S = some (.ok (Sto.see S d), S) := rfl
def liftR (r : Option (Except Ex α × Sto)) (env : Env) (k : α → SM) : Option (Fl × Sto) := match r with
  | some (.ok a, S') => k a S'
  | some (.error e, S') => some (.xc e env, S')
  | none => none
theorem lift_S (m : M α) (env : Env) (k : α → SM) (S : Sto) : liftE m env k S = liftR (m S) env k := rfl
@[simp] theorem liftR_ok (a : α) (S : Sto) (env : Env) (k : α → SM) : liftR (some (.ok a, S)) env k = k a S := rfl
@[simp] theorem liftR_er (e : Ex) (S : Sto) (env : Env) (k : α → SM) : liftR (some (.error e, S)) env k = some (.xc e env, S) := rfl
@[simp] theorem liftR_no (env : Env) (k : α → SM) : liftR none env k = none := rfl
def seqR (r : Option (Fl × Sto)) (b : Env → SM) : Option (Fl × Sto) := match r with
  | some (.nx env', S') => b env' S'
  | r => r
theorem seq_S (m : SM) (b : Env → SM) (S : Sto) : seqF m b S = seqR (m S) b := rfl
@[simp] theorem seqR_nx (env : Env) (S : Sto) (b : Env → SM) : seqR (some (.nx env, S)) b = b env S := rfl
@[simp] theorem seqR_rt (v : SV) (S : Sto) (b : Env → SM) : seqR (some (.rt v, S)) b = some (.rt v, S) := rfl
@[simp] theorem seqR_xc (x : Ex) (env : Env) (S : Sto) (b : Env → SM) : seqR (some (.xc x env, S)) b = some (.xc x env, S) := rfl
@[simp] theorem seqR_no (b : Env → SM) : seqR none b = none := rfl
def fnR (r : Option (Fl × Sto)) : Option (Except Ex SV × Sto) := match r with
  | some (.rt sv, S') => some (.ok sv, S')
  | some (.nx _, S') => some (.ok (.dat .non), S')
  | some (.xc e _, S') => some (.error e, S')
  | _ => none
theorem fn_S (m : SM) (S : Sto) : fnF m S = fnR (m S) := rfl
@[simp] theorem fnR_rt (v : SV) (S : Sto) : fnR (some (.rt v, S)) = some (.ok v, S) := rfl
@[simp] theorem fnR_nx (env : Env) (S : Sto) : fnR (some (.nx env, S)) = some (.ok (.dat .non), S) := rfl
@[simp] theorem fnR_xc (x : Ex) (env : Env) (S : Sto) : fnR (some (.xc x env, S)) = some (.error x, S) := rfl
@[simp] theorem fnR_no : fnR none = none := rfl
theorem nx_S (env : Env) (S : Sto) : eNx env S = some (.nx env, S) := rfl
theorem rt_S (v : SV) (S : Sto) : eRt v S = some (.rt v, S) := rfl
theorem xc_S (x : Ex) (env : Env) (S : Sto) : eXc x env S = some (.xc x env, S) := rfl
theorem fl_S (S : Sto) : eFl S = none := rfl
def noXR (r : Option (Except Ex α × Sto)) : Option (Except Ex α × Sto) := match r with
  | some (.ok a, S') => some (.ok a, S')
  | _ => none
theorem noX_S (m : M α) (S : Sto) : noX m S = noXR (m S) := rfl
@[simp] theorem noXR_ok (a : α) (S : Sto) : noXR (some (.ok a, S)) = some (.ok a, S) := rfl
end
theorem compL_ofS {β : Type} {tf : TgF} {gt : Env → M Bool} {ge : Env → M D} {env : Env} {S : Sto} (f h : β → D) : ∀ (l : List β), (∀ b ∈ l, ∃ env1, tf (f b) env = some env1 ∧ gt env1 = M.pure true ∧ ge env1 S = some (.ok (h b), S)) → compL tf gt ge env (l.map f) S = some (.ok (l.map h), S)
  | [], _ => rfl
  | d :: ds, hd => by
    obtain ⟨env1, h1, h2, h3⟩ := hd d List.mem_cons_self
    rw [List.map_cons]
    unfold compL
    rw [h1]
    simp only [h2, m_pb, if_true, bind_S, h3, bindR_ok, pure_S, compL_ofS f h ds fun x hx => hd x (List.mem_cons_of_mem _ hx), List.map_cons]
@[simp] theorem asB_bl (b : Bool) : (D.bl b).asB = some b := rfl
@[simp] theorem isi_int (i : Int) : isiB "tuple" (.int i) = some false := rfl
@[simp] theorem isi_str (i : List Nat) : isiB "tuple" (.str i) = some false := rfl
@[simp] theorem isi_tup (i : List D) : isiB "tuple" (.tup i) = some true := rfl
@[simp] theorem isi_lst (i : List D) : isiB "tuple" (.lst i) = some false := rfl
@[simp] theorem isi_non : isiB "tuple" .non = some false := rfl
theorem range_getD {α : Type} (l : List α) (z : α) : ((List.range l.length).map fun k => l.getD k z) = l := by
  apply List.ext_getElem
  · simp
  · intro i h1 h2
    simp at h1
    simp [h1]
theorem getF_at {c f : Str} {n : Nat} {fs : List (Str × D)} {S : Sto} {v : D} (h : S[n]? = some (.ins c fs)) (hf : fs.lookup f = some v) : getF c f (.obj n) S = some (.ok v, S) := by
  unfold getF
  simp [h, hf]
theorem asObj_ok {c m : Str} {n : Nat} {fs : List (Str × D)} {S : Sto} (h : S[n]? = some (.ins c fs)) (hf : fs.lookup m = none) : asObj c m (.obj n) S = some (.ok (.obj n), S) := by
  unfold asObj
  simp [h, hf]
theorem mergeD_nodup {κ : Type} [DecidableEq κ] : ∀ (l acc : List (κ × D)), ((acc ++ l).map (·.1)).Nodup → mergeD acc l = acc ++ l
  | [], acc, _ => by simp [mergeD]
  | kv :: l, acc, h => by
    have h1 : putD acc kv.1 kv.2 = acc ++ [kv] := by
      unfold putD
      rw [if_neg]
      intro q
      obtain ⟨a, ha, e⟩ := List.any_eq_true.mp q
      have e := of_decide_eq_true e
      simp only [List.map_append, List.map_cons, List.nodup_append] at h
      exact h.2.2 a.1 (List.mem_map_of_mem ha) kv.1 List.mem_cons_self e
    show mergeD (putD acc kv.1 kv.2) l = _
    rw [h1, mergeD_nodup l (acc ++ [kv]) (by simpa using h)]
    simp
theorem pairs_map {β : Type} (f : β → List Nat) (g : β → D) : ∀ l : List β, pairsOf (l.map fun b => D.tup [.str (f b), g b]) = some (l.map fun b => (KS.str (f b), g b))
  | [] => rfl
  | b :: l => by
    rw [List.map_cons]
    unfold pairsOf
    rw [pairs_map f g l]
    rfl
theorem nodup_strs {β : Type} {l : List β} {f : β → List Nat} {g : β → D} (h : (l.map f).Nodup) : ((([] : List (KS × D)) ++ l.map fun b => (KS.str (f b), g b)).map (·.1)).Nodup := by
  rw [List.nil_append, List.map_map]
  induction l with
  | nil => exact List.nodup_nil
  | cons a l ih =>
    rw [List.map_cons, List.nodup_cons] at h ⊢
    refine ⟨fun z => h.1 ?_, ih h.2⟩
    obtain ⟨b, hb, e⟩ := List.mem_map.mp z
    have : f b = f a := by simpa using e
    rw [← this]
    exact List.mem_map_of_mem hb
theorem dictL_map {β : Type} (l : List β) (f : β → List Nat) (g : β → D) (h : (l.map f).Nodup) : dictF (.lst (l.map fun b => D.tup [.str (f b), g b])) = some (.dct (l.map fun b => (KS.str (f b), g b))) := by
  unfold dictF
  dsimp only
  rw [pairs_map, Option.map_some, mergeD_nodup _ _ (nodup_strs h), List.nil_append]
theorem dictT_map {β : Type} (l : List β) (f : β → List Nat) (g : β → D) (h : (l.map f).Nodup) : dictF (.tup (l.map fun b => D.tup [.str (f b), g b])) = some (.dct (l.map fun b => (KS.str (f b), g b))) := by
  unfold dictF
  dsimp only
  rw [pairs_map, Option.map_some, mergeD_nodup _ _ (nodup_strs h), List.nil_append]
theorem dval_map {β : Type} (l : List β) (f : β → List Nat) (g : β → D) (h : (l.map f).Nodup) {b : β} (hb : b ∈ l) : dval (l.map fun b => (KS.str (f b), g b)) (.str (f b)) = some (g b) := by
  unfold dval
  induction l with
  | nil => cases hb
  | cons a l ih =>
    rw [List.map_cons, List.nodup_cons] at h
    rw [List.map_cons, List.find?_cons]
    by_cases e : f a = f b
    · have : a = b := by
        rcases List.mem_cons.mp hb with q | q
        · exact q.symm
        · exact absurd (by rw [e]; exact List.mem_map_of_mem q) h.1
      subst this
      simp
    · have hb' : b ∈ l := by
        rcases List.mem_cons.mp hb with q | q
        · exact absurd (by rw [q]) e
        · exact q
      simp only [KS.str.injEq, e, decide_false, Bool.false_eq_true, if_false]
      exact ih h.2 hb'
theorem ixD_map {β : Type} (l : List β) (f : β → List Nat) (g : β → D) (h : (l.map f).Nodup) {b : β} (hb : b ∈ l) : ixD (.dct (l.map fun b => (KS.str (f b), g b))) (.str (f b)) = some (g b) := dval_map l f g h hb
theorem getDk_map {β : Type} (l : List β) (f : β → List Nat) (g : β → D) (h : (l.map f).Nodup) {b : β} (hb : b ∈ l) : getDk (.dct (l.map fun b => (KS.str (f b), g b))) (.str (f b)) = some (g b) := by
  show some ((dval _ _).getD .non) = _
  rw [dval_map l f g h hb]
  rfl
end VX
set_option Elab.async false
set_option linter.all false
set_option maxRecDepth 100000
set_option maxHeartbeats 4000000
/-! what a long body's slots hold; loops by what stays true -/
namespace VX
open PySem PySem.Spec PyProof.Rows L2
structure At (n : Nat) (env : Env) (l : List (Nat × D)) : Prop where
  len : env.length = n
  at_ : ∀ p ∈ l, env[p.1]? = some (some (.dat p.2))
section
variable {n : Nat} {env : Env} {l : List (Nat × D)}
theorem At.get (h : At n env l) (i : Nat) {d : D} (hm : (i, d) ∈ l) : env[i]? = some (some (.dat d)) := h.at_ _ hm
theorem At.sub (h : At n env l) {m : List (Nat × D)} (hm : ∀ p ∈ m, p ∈ l) : At n env m := ⟨h.len, fun p q => h.at_ p (hm p q)⟩
theorem At.set (h : At n env l) (i : Nat) (d : D) (hi : i < n) : At n (env.set i (some (.dat d))) ((i, d) :: l.filter fun p => p.1 ≠ i) := by
  refine ⟨by rw [List.length_set]; exact h.len, fun p hp => ?_⟩
  rcases List.mem_cons.mp hp with e | e
  · rw [e]
    exact List.getElem?_set_self (by rw [h.len]; exact hi)
  · obtain ⟨h1, h2⟩ := List.mem_filter.mp e
    have h2 := of_decide_eq_true h2
    rw [List.getElem?_set_ne (fun q => h2 q.symm)]
    exact h.at_ p h1
theorem set_ne {env : Env} {i j : Nat} {o : Option SV} (h : i ≠ j) : (env.set i o)[j]? = env[j]? := List.getElem?_set_ne h
theorem set_eq {env : Env} {i : Nat} {o : Option SV} (h : i < env.length) : (env.set i o)[i]? = some o := List.getElem?_set_self h
theorem seq_at {a b : Env → SM} {env env' : Env} {S S' : Sto} (h : a env S = some (.nx env', S')) : sSeq a b env S = b env' S' := by
  show (match a env S with
    | some (.nx env', S') => b env' S'
    | r => r) = _
  rw [h]
theorem seq_p {a b : Env → SM} {env env' : Env} (h : a env = eNx env') : sSeq a b env = b env' := by
  funext S
  exact seq_at (by rw [h]; rfl)
theorem forL_inv {tf : TgF} {body : Env → SM} (I : Env → Prop) : ∀ (ds : List D), (∀ d ∈ ds, ∀ env S, I env → ∃ env1, tf d env = some env1 ∧ ∃ env' S', body env1 S = some (.nx env', S') ∧ I env') →
    ∀ (env : Env) (S : Sto), I env → ∃ env' S', forL tf body ds env S = some (.nx env', S') ∧ I env'
  | [], _, env, S, h => ⟨env, S, rfl, h⟩
  | d :: ds, hd, env, S, h => by
    obtain ⟨env1, e1, env2, S2, e2, h2⟩ := hd d List.mem_cons_self env S h
    obtain ⟨env3, S3, e3, h3⟩ := forL_inv I ds (fun d q => hd d (List.mem_cons_of_mem _ q)) env2 S2 h2
    refine ⟨env3, S3, ?_, h3⟩
    rw [forL_cons _ _ _ _ _ _ e1]
    show (match body env1 S with
      | some (.nx env2, S') => forL tf body ds env2 S'
      | some (.ct env2, S') => forL tf body ds env2 S'
      | some (.bk env2, S') => some (.nx env2, S')
      | r => r) = _
    rw [e2]
    exact e3
end
/-- sorted, each once -/
theorem pw_of {l : List (List Nat)} (h : l.Pairwise fun x y => ¬ y < x) (n : l.Nodup) : l.Pairwise (· < ·) := by
  induction l with
  | nil => exact List.Pairwise.nil
  | cons a l ih =>
    rw [List.pairwise_cons] at h ⊢
    rw [List.nodup_cons] at n
    refine ⟨fun b hb => ?_, ih h.2 n.2⟩
    rcases Classical.em (a < b) with q | q
    · exact q
    · exact absurd (List.le_antisymm (List.not_lt.mp q) (List.not_lt.mp (h.1 b hb))) fun e => n.1 (by rw [← e]; exact hb)
theorem canon_pw (l : List (List Nat)) : (canon l).Pairwise (· < ·) := pw_of (sortS_sorted _) (nodup_canon l)

/-! ### plain data: equal as Python tells -/
def Pl : Nat → D → Prop
  | _, .non => True
  | _, .int _ => True
  | _, .str s => ∀ c ∈ s, c < 0x110000
  | n + 1, .tup ds => ∀ d ∈ ds, Pl n d
  | n + 1, .lst ds => ∀ d ∈ ds, Pl n d
  | _, _ => False
theorem pl_nice : ∀ (n : Nat) (d : D), Pl n d → Nice n d
  | _, .non, _ => nice_non
  | _, .int i, _ => nice_int i
  | _, .str s, h => nice_str (by cases ‹Nat› <;> exact h)
  | n + 1, .tup ds, h => nice_tup fun d hd => pl_nice n d (h d hd)
  | n + 1, .lst ds, h => nice_lst fun d hd => pl_nice n d (h d hd)
  | 0, .tup _, h => h.elim
  | 0, .lst _, h => h.elim
  | 0, .bl _, h => h.elim
  | _ + 1, .bl _, h => h.elim
  | 0, .dct _, h => h.elim
  | _ + 1, .dct _, h => h.elim
  | 0, .dctT _, h => h.elim
  | _ + 1, .dctT _, h => h.elim
  | 0, .obj _, h => h.elim
  | _ + 1, .obj _, h => h.elim
  | 0, .fn _, h => h.elim
  | _ + 1, .fn _, h => h.elim
  | 0, .bm _ _ _, h => h.elim
  | _ + 1, .bm _ _ _, h => h.elim
  | 0, .scr _, h => h.elim
  | _ + 1, .scr _, h => h.elim
  | 0, .tab _, h => h.elim
  | _ + 1, .tab _, h => h.elim
theorem pys_cons {x : D} {xs : List D} {ps : List PyData} (h : D.pys (x :: xs) = some ps) : ∃ p qs, ps = p :: qs ∧ x.py = some p ∧ D.pys xs = some qs := by
  unfold D.pys at h
  cases e1 : x.py with
  | none => rw [e1] at h; cases h
  | some p =>
    cases e2 : D.pys xs with
    | none => rw [e1, e2] at h; cases h
    | some qs => rw [e1, e2] at h; cases h; exact ⟨p, qs, rfl, rfl, rfl⟩
theorem eqvAll_iff {P : D → Prop} (ih : ∀ a b p q, P a → P b → a.py = some p → b.py = some q → (PyData.eqv p q = true ↔ a = b)) : ∀ (xs ys : List D) (ps qs : List PyData), (∀ d ∈ xs, P d) → (∀ d ∈ ys, P d) → D.pys xs = some ps → D.pys ys = some qs → (PyData.eqvAll ps qs = true ↔ xs = ys)
  | [], [], ps, qs, _, _, h1, h2 => by cases h1; cases h2; exact ⟨fun _ => rfl, fun _ => rfl⟩
  | [], y :: ys, ps, qs, _, _, h1, h2 => by
    cases h1
    obtain ⟨q, rs, rfl, _, _⟩ := pys_cons h2
    exact ⟨fun h => (nomatch h), fun h => (nomatch h)⟩
  | x :: xs, [], ps, qs, _, _, h1, h2 => by
    cases h2
    obtain ⟨q, rs, rfl, _, _⟩ := pys_cons h1
    exact ⟨fun h => (nomatch h), fun h => (nomatch h)⟩
  | x :: xs, y :: ys, ps, qs, hx, hy, h1, h2 => by
    obtain ⟨p, rs, rfl, a1, a2⟩ := pys_cons h1
    obtain ⟨q, ts, rfl, b1, b2⟩ := pys_cons h2
    have i1 := ih x y p q (hx x List.mem_cons_self) (hy y List.mem_cons_self) a1 b1
    have i2 := eqvAll_iff ih xs ys rs ts (fun d h => hx d (List.mem_cons_of_mem _ h)) (fun d h => hy d (List.mem_cons_of_mem _ h)) a2 b2
    unfold PyData.eqvAll
    rw [Bool.and_eq_true, i1, i2, List.cons.injEq]
theorem eqv_iff : ∀ (n : Nat) (a b : D) (p q : PyData), Pl n a → Pl n b → a.py = some p → b.py = some q → (PyData.eqv p q = true ↔ a = b) := by
  have ii : ∀ i j : Int, PyData.eqv (.int i) (.int j) = true ↔ D.int i = D.int j := fun i j => by
    unfold PyData.eqv
    rw [beq_iff_eq, D.int.injEq]
  have ss : ∀ i j : List Nat, PyData.eqv (.str (st i)) (.str (st j)) = true ↔ D.str i = D.str j := fun i j => by
    unfold PyData.eqv
    rw [beq_iff_eq, D.str.injEq]
    exact ⟨st_inj, fun e => by rw [e]⟩
  intro n
  induction n with
  | zero =>
    intro a b p q ha hb h1 h2
    cases a <;> first | exact ha.elim | skip
    all_goals (cases b <;> first | exact hb.elim | skip)
    all_goals (cases h1; cases h2)
    all_goals first
      | exact ii _ _
      | exact ss _ _
      | exact ⟨fun _ => rfl, fun _ => rfl⟩
      | exact ⟨fun h => (nomatch h), fun h => (nomatch h)⟩
  | succ n ih =>
    intro a b p q ha hb h1 h2
    cases a <;> first | exact ha.elim | skip
    all_goals (cases b <;> first | exact hb.elim | skip)
    all_goals simp only [D.py, Option.map_eq_some_iff, Option.some.injEq] at h1 h2
    all_goals first
      | (subst h1; subst h2; first
        | exact ii _ _
        | exact ss _ _
        | exact ⟨fun _ => rfl, fun _ => rfl⟩
        | exact ⟨fun h => (nomatch h), fun h => (nomatch h)⟩)
      | (obtain ⟨ps, e1, rfl⟩ := h1; subst h2; exact ⟨fun h => (nomatch h), fun h => (nomatch h)⟩)
      | (subst h1; obtain ⟨qs, e2, rfl⟩ := h2; exact ⟨fun h => (nomatch h), fun h => (nomatch h)⟩)
      | (obtain ⟨ps, e1, rfl⟩ := h1; obtain ⟨qs, e2, rfl⟩ := h2; first
        | (unfold PyData.eqv; rw [D.tup.injEq]; exact eqvAll_iff ih _ _ _ _ ha hb e1 e2)
        | (unfold PyData.eqv; rw [D.lst.injEq]; exact eqvAll_iff ih _ _ _ _ ha hb e1 e2)
        | exact ⟨fun h => (nomatch h), fun h => (nomatch h)⟩)
theorem eqB_pl {n : Nat} {a b : D} (ha : Pl n a) (hb : Pl n b) (hn : n ≤ 64) : ∃ c, eqB a b = some c ∧ (c = true ↔ a = b) := by
  obtain ⟨p, p1, p2, p3⟩ := (pl_nice n a ha).shaped hn
  obtain ⟨q, q1, q2, q3⟩ := (pl_nice n b hb).shaped hn
  refine ⟨PyData.eqv p q, ?_, eqv_iff n a b p q ha hb p1 q1⟩
  unfold eqB
  rw [p1, q1]
  dsimp only
  rw [if_pos ⟨p2, q2⟩]
theorem eqB_yes {n : Nat} {a b : D} (ha : Pl n a) (hb : Pl n b) (hn : n ≤ 64) (h : a = b) : eqB a b = some true := by
  obtain ⟨c, e, i⟩ := eqB_pl ha hb hn
  rw [e, i.mpr h]
theorem eqB_no {n : Nat} {a b : D} (ha : Pl n a) (hb : Pl n b) (hn : n ≤ 64) (h : a ≠ b) : eqB a b = some false := by
  obtain ⟨c, e, i⟩ := eqB_pl ha hb hn
  cases c with
  | false => exact e
  | true => exact absurd (i.mp rfl) h
theorem neB_yes {n : Nat} {a b : D} (ha : Pl n a) (hb : Pl n b) (hn : n ≤ 64) (h : a = b) : neB a b = some false := by
  unfold neB; rw [eqB_yes ha hb hn h]; rfl
theorem neB_no {n : Nat} {a b : D} (ha : Pl n a) (hb : Pl n b) (hn : n ≤ 64) (h : a ≠ b) : neB a b = some true := by
  unfold neB; rw [eqB_no ha hb hn h]; rfl
theorem inB_pl {n : Nat} {a : D} {ds : List D} (ha : Pl n a) (hb : ∀ d ∈ ds, Pl n d) (hn : n < 64) : ∃ c, inB a (.lst ds) = some c ∧ (c = true ↔ a ∈ ds) := by
  obtain ⟨p, p1, p2, p3⟩ := (pl_nice n a ha).shaped (by omega)
  obtain ⟨q, q1, q2, q3⟩ := (pl_nice (n + 1) (.lst ds) hb).shaped (by omega)
  unfold D.py at q1
  obtain ⟨ps, e1, rfl⟩ := Option.map_eq_some_iff.mp q1
  refine ⟨ps.any fun z => PyData.eqv z p, ?_, ?_⟩
  · unfold inB
    dsimp only
    rw [p1, e1]
    dsimp only
    rw [if_pos ⟨p2, q2⟩]
  · clear q1 q2 q3
    induction ds generalizing ps with
    | nil => cases e1; simp
    | cons d ds ih =>
      obtain ⟨q, rs, rfl, a1, a2⟩ := pys_cons e1
      rw [List.any_cons, Bool.or_eq_true, eqv_iff n d a q p (hb d List.mem_cons_self) ha a1 p1, ih (fun d h => hb d (List.mem_cons_of_mem _ h)) rs a2, List.mem_cons]
      exact ⟨fun h => h.elim (fun e => .inl e.symm) .inr, fun h => h.elim (fun e => .inl e.symm) .inr⟩
theorem inB_yes {n : Nat} {a : D} {ds : List D} (ha : Pl n a) (hb : ∀ d ∈ ds, Pl n d) (hn : n < 64) (h : a ∈ ds) : inB a (.lst ds) = some true := by
  obtain ⟨c, e, i⟩ := inB_pl ha hb hn
  rw [e, i.mpr h]
theorem inB_no {n : Nat} {a : D} {ds : List D} (ha : Pl n a) (hb : ∀ d ∈ ds, Pl n d) (hn : n < 64) (h : a ∉ ds) : inB a (.lst ds) = some false := by
  obtain ⟨c, e, i⟩ := inB_pl ha hb hn
  cases c with
  | false => exact e
  | true => exact absurd (i.mp rfl) h
theorem Pl.mono : ∀ {n m : Nat} {d : D}, Pl n d → n ≤ m → Pl m d
  | n, m, .non, _, _ => by cases m <;> trivial
  | n, m, .int _, _, _ => by cases m <;> trivial
  | n, m, .str s, h, _ => by cases n <;> cases m <;> exact h
  | n + 1, m + 1, .tup ds, h, l => fun d hd => Pl.mono (h d hd) (by omega)
  | n + 1, m + 1, .lst ds, h, l => fun d hd => Pl.mono (h d hd) (by omega)
  | n + 1, 0, _, _, l => by omega
  | 0, _, .tup _, h, _ => h.elim
  | 0, _, .lst _, h, _ => h.elim
  | 0, _, .bl _, h, _ => h.elim
  | _ + 1, _, .bl _, h, _ => h.elim
  | 0, _, .dct _, h, _ => h.elim
  | _ + 1, _, .dct _, h, _ => h.elim
  | 0, _, .dctT _, h, _ => h.elim
  | _ + 1, _, .dctT _, h, _ => h.elim
  | 0, _, .obj _, h, _ => h.elim
  | _ + 1, _, .obj _, h, _ => h.elim
  | 0, _, .fn _, h, _ => h.elim
  | _ + 1, _, .fn _, h, _ => h.elim
  | 0, _, .bm _ _ _, h, _ => h.elim
  | _ + 1, _, .bm _ _ _, h, _ => h.elim
  | 0, _, .scr _, h, _ => h.elim
  | _ + 1, _, .scr _, h, _ => h.elim
  | 0, _, .tab _, h, _ => h.elim
  | _ + 1, _, .tab _, h, _ => h.elim
theorem pl_cs (n : Nat) (z : String) : Pl n (.str (cs z)) := by cases n <;> exact cs_ok z
/-! ### more of the semantic functions -/
@[simp] theorem e_ct (env : Env) : (fun S : Sto => some (Fl.ct env, S)) = eCt env := rfl
@[simp] theorem e_bk (env : Env) : (fun S : Sto => some (Fl.bk env, S)) = eBk env := rfl
@[simp] theorem sCnt_eq (env : Env) : sCnt env = eCt env := rfl
@[simp] theorem sBrk_eq (env : Env) : sBrk env = eBk env := rfl
@[simp] theorem seq_ct (env : Env) (b : Env → SM) : seqF (eCt env) b = eCt env := rfl
@[simp] theorem seq_bk (env : Env) (b : Env → SM) : seqF (eBk env) b = eBk env := rfl
@[simp] theorem for_ct (env : Env) (k : Env → SM) : forF (eCt env) k = k env := rfl
@[simp] theorem for_bk (env : Env) (k : Env → SM) : forF (eBk env) k = eNx env := rfl
theorem ct_S (env : Env) (S : Sto) : eCt env S = some (.ct env, S) := rfl
theorem bk_S (env : Env) (S : Sto) : eBk env S = some (.bk env, S) := rfl
@[simp] theorem seqR_ct (env : Env) (S : Sto) (b : Env → SM) : seqR (some (.ct env, S)) b = some (.ct env, S) := rfl
@[simp] theorem seqR_bk (env : Env) (S : Sto) (b : Env → SM) : seqR (some (.bk env, S)) b = some (.bk env, S) := rfl
@[simp] theorem dcF_eq (vs : List Nat) (gi : Env → M (List D)) (tf : TgF) (gt : Env → M Bool) (gk ge : Env → M D) (env : Env) : dcF vs gi tf gt gk ge env = M.bind (gi env) fun ds => M.bind (noX (compP tf gt gk ge (drp vs env) ds)) fun r => if r.length ≤ sizeLine then M.pure (.dct (mergeD [] r)) else M.fail := rfl
@[simp] theorem lc2F_eq (vs : List Nat) (gi : Env → M (List D)) (tf : TgF) (gt : Env → M Bool) (vs1 : List Nat) (gi1 : Env → M (List D)) (tf1 : TgF) (gt1 : Env → M Bool) (ge : Env → M D) (env : Env) : lc2F vs gi tf gt vs1 gi1 tf1 gt1 ge env = M.bind (gi env) fun ds => M.bind (noX (compL2 tf gt vs1 gi1 tf1 gt1 ge (drp vs env) ds)) fun r => if r.length ≤ sizeLine then M.pure (.lst r) else M.fail := rfl
@[simp] theorem sAsgT_eq (g : Env → M D) (tf : TgF) (env : Env) : sAsgT g tf env = liftE (g env) env fun d => match tf d env with
  | some env1 => sNx env1
  | none => sFail := rfl
@[simp] theorem sSetIx_eq (go gi ge : Env → M D) (env : Env) : sSetIx go gi ge env = liftE (ge env) env fun y => liftE (go env) env fun o => liftE (gi env) env fun i => liftE (setC y o i) env fun _ => eNx env := rfl
theorem compL2_of {β : Type} {tf : TgF} {gt : Env → M Bool} {vs1 : List Nat} {gi1 : Env → M (List D)} {tf1 : TgF} {gt1 : Env → M Bool} {ge : Env → M D} {env : Env} (f : β → D) (h : β → List D) : ∀ (l : List β), (∀ b ∈ l, ∃ env1 ds1, tf (f b) env = some env1 ∧ gt env1 = M.pure true ∧ gi1 env1 = M.pure ds1 ∧ compL tf1 gt1 ge (drp vs1 (dOnly env1)) ds1 = M.pure (h b)) →
    compL2 tf gt vs1 gi1 tf1 gt1 ge env (l.map f) = M.pure (l.map h).flatten
  | [], _ => rfl
  | d :: ds, hd => by
    obtain ⟨env1, ds1, h1, h2, h3, h4⟩ := hd d List.mem_cons_self
    rw [List.map_cons]
    unfold compL2
    rw [h1]
    simp only [h2, h3, h4, m_pb, if_true, compL2_of f h ds fun x hx => hd x (List.mem_cons_of_mem _ hx), List.map_cons, List.flatten_cons]
end VX
set_option Elab.async false
set_option linter.all false
set_option maxRecDepth 100000
set_option maxHeartbeats 4000000
/-! loops whose turns may go on early -/
namespace VX
open PySem PySem.Spec PyProof.Rows L2
def Goes (r : Option (Fl × Sto)) (J : Env → Prop) : Prop := ∃ env' S', (r = some (.nx env', S') ∨ r = some (.ct env', S')) ∧ J env'
theorem forL_goes {tf : TgF} {body : Env → SM} {I J : Env → Prop} (hJ : ∀ env, J env → I env) : ∀ (ds : List D), ds ≠ [] → (∀ d ∈ ds, ∀ env S, I env → ∃ env1, tf d env = some env1 ∧ Goes (body env1 S) J) →
    ∀ (env : Env) (S : Sto), I env → ∃ env' S', forL tf body ds env S = some (.nx env', S') ∧ J env'
  | [], h, _, _, _, _ => absurd rfl h
  | d :: ds, _, hd, env, S, h => by
    obtain ⟨env1, e1, env2, S2, e2, h2⟩ := hd d List.mem_cons_self env S h
    have hstep : forL tf body (d :: ds) env S = forL tf body ds env2 S2 := by
      rw [forL_cons _ _ _ _ _ _ e1]
      show (match body env1 S with
        | some (.nx env2, S') => forL tf body ds env2 S'
        | some (.ct env2, S') => forL tf body ds env2 S'
        | some (.bk env2, S') => some (.nx env2, S')
        | r => r) = _
      rcases e2 with e2 | e2 <;> rw [e2]
    cases hds : ds with
    | nil =>
      rw [hds] at hstep
      exact ⟨env2, S2, by rw [hstep]; rfl, h2⟩
    | cons d' ds' =>
      obtain ⟨env3, S3, e3, h3⟩ := forL_goes hJ ds (by rw [hds]; simp) (fun d q => hd d (List.mem_cons_of_mem _ q)) env2 S2 (hJ _ h2)
      rw [hds] at hstep e3
      exact ⟨env3, S3, hstep.trans e3, h3⟩
theorem Goes.nx {env' : Env} {S' : Sto} {J : Env → Prop} (h : J env') : Goes (some (.nx env', S')) J := ⟨env', S', .inl rfl, h⟩
theorem Goes.ct {env' : Env} {S' : Sto} {J : Env → Prop} (h : J env') : Goes (some (.ct env', S')) J := ⟨env', S', .inr rfl, h⟩
theorem forL_ix {tf : TgF} {body : Env → SM} (I : Nat → Env → Prop) : ∀ (ds : List D) (j : Nat), (∀ i d, ds[i]? = some d → ∀ env S, I (j + i) env → ∃ env1, tf d env = some env1 ∧ ∃ env' S', body env1 S = some (.nx env', S') ∧ I (j + i + 1) env') →
    ∀ (env : Env) (S : Sto), I j env → ∃ env' S', forL tf body ds env S = some (.nx env', S') ∧ I (j + ds.length) env'
  | [], j, _, env, S, h => ⟨env, S, rfl, h⟩
  | d :: ds, j, hd, env, S, h => by
    obtain ⟨env1, e1, env2, S2, e2, h2⟩ := hd 0 d rfl env S h
    obtain ⟨env3, S3, e3, h3⟩ := forL_ix I ds (j + 1) (fun i d' q env S hI => by
      have := hd (i + 1) d' (by simpa using q) env S (by rw [show j + (i + 1) = j + 1 + i from by omega]; exact hI)
      rw [show j + (i + 1) + 1 = j + 1 + i + 1 from by omega] at this
      exact this) env2 S2 h2
    refine ⟨env3, S3, ?_, by rw [List.length_cons, show j + (ds.length + 1) = j + 1 + ds.length from by omega]; exact h3⟩
    rw [forL_cons _ _ _ _ _ _ e1]
    show (match body env1 S with
      | some (.nx env2, S') => forL tf body ds env2 S'
      | some (.ct env2, S') => forL tf body ds env2 S'
      | some (.bk env2, S') => some (.nx env2, S')
      | r => r) = _
    rw [e2]
    exact e3
theorem drp_len : ∀ (vs : List Nat) (env : Env), (drp vs env).length = env.length
  | [], _ => rfl
  | _ :: vs, env => by
    unfold drp
    rw [List.length_set, drp_len vs env]
theorem drp_get : ∀ (vs : List Nat) (env : Env) (j : Nat), j ∉ vs → (drp vs env)[j]? = env[j]?
  | [], _, _, _ => rfl
  | i :: vs, env, j, h => by
    rw [List.mem_cons, not_or] at h
    unfold drp
    rw [List.getElem?_set_ne (fun e => h.1 e.symm), drp_get vs env j h.2]
end VX
set_option Elab.async false
set_option linter.all false
set_option maxRecDepth 100000
set_option maxHeartbeats 4000000
namespace VX.K09
open PySem PySem.Spec PyProof.Rows L2
structure One (p : Prop) : Prop where
  one : p
def top (i : Nat) : Stmt := PySem.Challenge.pw_maketrue_k09_main_lengths_and_letters.main.body.getD i (.Pass ⟨0, 0, 0, 0⟩)
def exL : List ((Str × Str) × Bool) := []
def exTab (x h : Str) : Option Bool := exL.lookup (x, h)
def G_AT : D := (.str (cs "at"))
def G_DONE : D := (.str (cs "done"))
def G_FAULT : D := (.str (cs "fault"))
def G_IS : D := (.str (cs "is"))
def G_LETTERS : D := (.str (cs "abcdefghijklmnopqrstuvwxyz"))
def G_LONG : D := (.tup [(.str (cs "fault")), (.str (cs "long")), (.str (cs ""))])
def G_MADE : D := (.str (cs "made"))
def G_MANY : D := (.tup [(.str (cs "many"))])
def G_MOST_CONTENT : D := (.int 40)
def G_MOST_DEEDS : D := (.int 30)
def G_MOST_DEEP : D := (.int 5)
def G_MOST_NAME : D := (.int 8)
def G_MOST_NAMES : D := (.int 2)
def G_NO_DEED : D := (.tup [(.str (cs "form"))])
def G_PARTS : D := (.tab [(cs "named", (.int 1)), (cs "join", (.int 2)), (cs "head", (.int 1)), (cs "back", (.int 1)), (cs "sort", (.int 1)), (cs "swap", (.int 1)), (cs "same", (.int 4))])
def G_PLAIN : D := (.tab [(cs "text", (.int 0)), (cs "need", (.int 0)), (cs "named", (.int 0)), (cs "join", (.int 0)), (cs "head", (.int 1)), (cs "back", (.int 0)), (cs "sort", (.int 0)), (cs "swap", (.int 2)), (cs "same", (.int 0))])
def G_WAITS : D := (.str (cs "waits"))
def G_WORDS : D := (.tup [(.str (cs "text")), (.str (cs "need")), (.str (cs "join")), (.str (cs "head")), (.str (cs "back")), (.str (cs "swap"))])
abbrev St_is_whole : Stmt := top 17
abbrev Sc_is_whole : Scope := defScope St_is_whole
abbrev N_is_whole : List Str := ["value", "least", "most"]
theorem sc_is_whole : FnScope N_is_whole ["value", "least", "most"] Sc_is_whole := ⟨rfl, rfl, rfl, by decide +kernel, rfl, by decide +kernel, by decide +kernel⟩
def g_is_whole : Env → SM :=
  (sRet (andV (isiE "int" (evar 0)) (andV (notV (isiE "bool" (evar 0))) (chnE leB leB (evar 1) (evar 0) (evar 2)))))
def F_is_whole : List D → M SV := fnB 3 g_is_whole
abbrev St_ascends : Stmt := top 18
abbrev Sc_ascends : Scope := defScope St_ascends
abbrev N_ascends : List Str := ["values", "one", "later"]
theorem sc_ascends : FnScope N_ascends ["values"] Sc_ascends := ⟨rfl, rfl, rfl, by decide +kernel, rfl, by decide +kernel, by decide +kernel⟩
def g_ascends : Env → SM :=
  (sRet (op1 allD (frz (lcF [1, 2] (zipE (evar 0) (frz (slE (evar 0) (partE (some (ecst (.int 1)))) (partE none)))) (gtup (gcons (gnam 1) (gcons (gnam 2) gnil))) yesT (cmpE ltB (evar 1) (evar 2))))))
def F_ascends : List D → M SV := fnB 3 g_ascends
abbrev St__are_letters : Stmt := top 19
abbrev Sc__are_letters : Scope := defScope St__are_letters
abbrev N__are_letters : List Str := ["value", "least", "most", "sign"]
theorem sc__are_letters : FnScope N__are_letters ["value", "least", "most"] Sc__are_letters := ⟨rfl, rfl, rfl, by decide +kernel, rfl, by decide +kernel, by decide +kernel⟩
def g__are_letters : Env → SM :=
  (sRet (andV (isiE "str" (evar 0)) (andV (chnE leB leB (evar 1) (op1 lenD (evar 0)) (evar 2)) (op1 allD (frz (lcF [3] (itm (evar 0)) (gnam 3) yesT (cmpE inB (evar 3) (ecst G_LETTERS))))))))
def F__are_letters : List D → M SV := fnB 4 g__are_letters
abbrev St_is_name : Stmt := top 20
abbrev Sc_is_name : Scope := defScope St_is_name
abbrev N_is_name : List Str := ["value"]
theorem sc_is_name : FnScope N_is_name ["value"] Sc_is_name := ⟨rfl, rfl, rfl, by decide +kernel, rfl, by decide +kernel, by decide +kernel⟩
def g_is_name : Env → SM :=
  (sRetF (callF F__are_letters (consA (evar 0) (consA (ecst (.int 1)) (consA (ecst G_MOST_NAME) nilA)))))
def F_is_name : List D → M SV := fnB 1 g_is_name
abbrev St_is_content : Stmt := top 21
abbrev Sc_is_content : Scope := defScope St_is_content
abbrev N_is_content : List Str := ["value"]
theorem sc_is_content : FnScope N_is_content ["value"] Sc_is_content := ⟨rfl, rfl, rfl, by decide +kernel, rfl, by decide +kernel, by decide +kernel⟩
def g_is_content : Env → SM :=
  (sRetF (callF F__are_letters (consA (evar 0) (consA (ecst (.int 0)) (consA (ecst G_MOST_CONTENT) nilA)))))
def F_is_content : List D → M SV := fnB 1 g_is_content
abbrev St_parts_of : Stmt := top 22
abbrev Sc_parts_of : Scope := defScope St_parts_of
abbrev N_parts_of : List Str := ["deed"]
theorem sc_parts_of : FnScope N_parts_of ["deed"] Sc_parts_of := ⟨rfl, rfl, rfl, by decide +kernel, rfl, by decide +kernel, by decide +kernel⟩
def g_parts_of : Env → SM :=
  (sRet (iteE (op2B inB (op2 ixD (evar 0) (ecst (.int 0))) (ecst G_PARTS)) (frz (slE (evar 0) (partE (some (frz (op2F addF (ecst (.int 1)) (op2 ixD (ecst G_PLAIN) (op2 ixD (evar 0) (ecst (.int 0)))))))) (partE none))) (tupE nilA)))
def F_parts_of : List D → M SV := fnB 1 g_parts_of
abbrev St__is_deed : Stmt := top 23
abbrev Sc__is_deed : Scope := defScope St__is_deed
abbrev N__is_deed : List Str := ["value", "deep", "one"]
theorem sc__is_deed : FnScope N__is_deed ["value", "deep"] Sc__is_deed := ⟨rfl, rfl, rfl, by decide +kernel, rfl, by decide +kernel, by decide +kernel⟩
def h__is_deed (R : Nat → List D → M SV) : Env → SM :=
  (sSeq (sIf (orT (notT (valT (isiE "tuple" (evar 0)))) (orT (op2B eqB (op1 lenD (evar 0)) (ecst (.int 0))) (orT (notT (valT (isiE "str" (op2 ixD (evar 0) (ecst (.int 0)))))) (op2B notInB (op2 ixD (evar 0) (ecst (.int 0))) (ecst G_PLAIN))))) (sRet (ecst (.bl false))) sNx)
  (sSeq (sIf (op2B notInB (op2 ixD (evar 0) (ecst (.int 0))) (ecst G_PARTS)) (sSeq (sIf (op2B neB (op1 lenD (evar 0)) (ecst (.int 2))) (sRet (ecst (.bl false))) sNx)
  (sRet (iteE (op2B eqB (op2 ixD (evar 0) (ecst (.int 0))) (ecst (.str (cs "text")))) (frz (callF F_is_content (consA (op2 ixD (evar 0) (ecst (.int 1))) nilA))) (frz (callF F_is_name (consA (op2 ixD (evar 0) (ecst (.int 1))) nilA)))))) sNx)
  (sSeq (sIf (orT (op2B neB (op1 lenD (evar 0)) (frz (op2F addF (frz (op2F addF (ecst (.int 1)) (op2 ixD (ecst G_PLAIN) (op2 ixD (evar 0) (ecst (.int 0)))))) (op2 ixD (ecst G_PARTS) (op2 ixD (evar 0) (ecst (.int 0))))))) (op2B eqB (evar 1) (ecst (.int 0)))) (sRet (ecst (.bl false))) sNx)
  (sSeq (sIf (andT (op2B eqB (op2 ixD (evar 0) (ecst (.int 0))) (ecst (.str (cs "head")))) (notT (valT (frz (callF F_is_whole (consA (op2 ixD (evar 0) (ecst (.int 1))) (consA (ecst (.int 0)) (consA (ecst G_MOST_CONTENT) nilA)))))))) (sRet (ecst (.bl false))) sNx)
  (sSeq (sIf (andT (op2B eqB (op2 ixD (evar 0) (ecst (.int 0))) (ecst (.str (cs "swap")))) (notT (valT (op1 allD (frz (lcF [2] (itm (frz (slE (evar 0) (partE (some (ecst (.int 1)))) (partE (some (ecst (.int 3))))))) (gnam 2) yesT (frz (callF F__are_letters (consA (evar 2) (consA (ecst (.int 1)) (consA (ecst (.int 1)) nilA))))))))))) (sRet (ecst (.bl false))) sNx)
  (sRet (op1 allD (frz (lcF [2] (itm (frz (callF F_parts_of (consA (evar 0) nilA)))) (gnam 2) yesT (frz (callF (R 0) (consA (evar 2) (consA (op2 subD (evar 1) (ecst (.int 1))) nilA)))))))))))))
def R__is_deed : Nat → Nat → List D → M SV
  | 0, _ => fnB 3 fun _ => sFail
  | n + 1, _ => fnB 3 (h__is_deed (R__is_deed n))
def F__is_deed : List D → M SV := R__is_deed 12 0
abbrev St__count : Stmt := top 24
abbrev Sc__count : Scope := defScope St__count
abbrev N__count : List Str := ["deed", "one"]
theorem sc__count : FnScope N__count ["deed"] Sc__count := ⟨rfl, rfl, rfl, by decide +kernel, rfl, by decide +kernel, by decide +kernel⟩
def h__count (R : Nat → List D → M SV) : Env → SM :=
  (sRetF (op2F addF (ecst (.int 1)) (op1 sumD (frz (lcF [1] (itm (frz (callF F_parts_of (consA (evar 0) nilA)))) (gnam 1) yesT (frz (callF (R 0) (consA (evar 1) nilA))))))))
def R__count : Nat → Nat → List D → M SV
  | 0, _ => fnB 2 fun _ => sFail
  | n + 1, _ => fnB 2 (h__count (R__count n))
def F__count : List D → M SV := R__count 12 0
abbrev St_is_deed : Stmt := top 25
abbrev Sc_is_deed : Scope := defScope St_is_deed
abbrev N_is_deed : List Str := ["value"]
theorem sc_is_deed : FnScope N_is_deed ["value"] Sc_is_deed := ⟨rfl, rfl, rfl, by decide +kernel, rfl, by decide +kernel, by decide +kernel⟩
def g_is_deed : Env → SM :=
  (sRet (andV (frz (callF F__is_deed (consA (evar 0) (consA (ecst G_MOST_DEEP) nilA)))) (cmpE leB (frz (callF F__count (consA (evar 0) nilA))) (ecst G_MOST_DEEDS))))
def F_is_deed : List D → M SV := fnB 1 g_is_deed
abbrev St_Trial_init : Stmt := inClass (top 26) 0
abbrev Sc_Trial_init : Scope := defScope St_Trial_init
abbrev N_Trial_init : List Str := ["self", "known", "rules"]
theorem sc_Trial_init : FnScope N_Trial_init ["self", "known", "rules"] Sc_Trial_init := ⟨rfl, rfl, rfl, by decide +kernel, rfl, by decide +kernel, by decide +kernel⟩
def g_Trial_init : Env → SM :=
  (sSeq (sFld "Trial" "known" (evar 0) (evar 1))
  (sSeq (sFld "Trial" "rules" (evar 0) (evar 2))
  (sSeq (sFld "Trial" "needs" (evar 0) (stE (lstE nilA)))
  (sFld "Trial" "end" (evar 0) (ecst .non)))))
def F_Trial_init : List D → M SV := fnB 3 g_Trial_init
abbrev St_Trial_ask : Stmt := inClass (top 26) 1
abbrev Sc_Trial_ask : Scope := defScope St_Trial_ask
abbrev N_Trial_ask : List Str := ["self", "name", "result"]
theorem sc_Trial_ask : FnScope N_Trial_ask ["self", "name"] Sc_Trial_ask := ⟨rfl, rfl, rfl, by decide +kernel, rfl, by decide +kernel, by decide +kernel⟩
def g_Trial_ask : Env → SM :=
  (sSeq (sIf (op2B notInB (evar 1) (fldE "Trial" "needs" (evar 0))) (sAppS (fldE "Trial" "needs" (evar 0)) (evar 1)) sNx)
  (sSeq (sAsg 2 (getE (fldE "Trial" "known" (evar 0)) (evar 1)))
  (sSeq (sIf (andT (isNonB (evar 2)) (andT (isNotNonB (fldE "Trial" "rules" (evar 0))) (op2B notInB (evar 1) (fldE "Trial" "rules" (evar 0))))) (sAsg 2 (tupE (consA (ecst G_FAULT) (consA (ecst (.str (cs "lacks"))) (consA (evar 1) nilA))))) sNx)
  (sSeq (sIf (isNonB (evar 2)) (sSeq (sFld "Trial" "end" (evar 0) (tupE (consA (ecst G_WAITS) (consA (evar 1) nilA))))
  (sRet (ecst .non))) sNx)
  (sSeq (sIf (op2B eqB (op2 ixD (evar 2) (ecst (.int 0))) (ecst G_FAULT)) (sSeq (sFld "Trial" "end" (evar 0) (tupE (consA (ecst G_DONE) (consA (evar 2) nilA))))
  (sRet (ecst .non))) sNx)
  (sRet (op2 ixD (evar 2) (ecst (.int 1)))))))))
def F_Trial_ask : List D → M SV := fnB 3 g_Trial_ask
abbrev St_Trial__bounded : Stmt := inClass (top 26) 2
abbrev Sc_Trial__bounded : Scope := defScope St_Trial__bounded
abbrev N_Trial__bounded : List Str := ["self", "content"]
theorem sc_Trial__bounded : FnScope N_Trial__bounded ["self", "content"] Sc_Trial__bounded := ⟨rfl, rfl, rfl, by decide +kernel, rfl, by decide +kernel, by decide +kernel⟩
def g_Trial__bounded : Env → SM :=
  (sSeq (sIf (op2B gtB (op1 lenD (evar 1)) (ecst G_MOST_CONTENT)) (sSeq (sFld "Trial" "end" (evar 0) (tupE (consA (ecst G_DONE) (consA (ecst G_LONG) nilA))))
  (sRet (ecst .non))) sNx)
  (sRet (evar 1)))
def F_Trial__bounded : List D → M SV := fnB 2 g_Trial__bounded
abbrev St_Trial__one : Stmt := inClass (top 26) 5
abbrev Sc_Trial__one : Scope := defScope St_Trial__one
abbrev N_Trial__one : List Str := ["self", "deed", "content", "kind", "sign"]
theorem sc_Trial__one : FnScope N_Trial__one ["self", "deed", "content"] Sc_Trial__one := ⟨rfl, rfl, rfl, by decide +kernel, rfl, by decide +kernel, by decide +kernel⟩
def g_Trial__one : Env → SM :=
  (sSeq (sAsg 3 (op2 ixD (evar 1) (ecst (.int 0))))
  (sSeq (sIf (op2B eqB (evar 3) (ecst (.str (cs "named")))) (sSeq (sIf (valT (frz (callF F_is_name (consA (evar 2) nilA)))) (sRetF (methF "Trial" "ask" (evar 0) (consA (evar 2) nilA) F_Trial_ask)) sNx)
  (sSeq (sFld "Trial" "end" (evar 0) (tupE (consA (ecst G_DONE) (consA (tupE (consA (ecst G_FAULT) (consA (ecst (.str (cs "lacks"))) (consA (evar 2) nilA)))) nilA))))
  (sRet (ecst .non)))) sNx)
  (sSeq (sIf (op2B eqB (evar 3) (ecst (.str (cs "head")))) (sRetF (slE (evar 2) (partE none) (partE (some (op2 ixD (evar 1) (ecst (.int 1))))))) sNx)
  (sSeq (sIf (op2B eqB (evar 3) (ecst (.str (cs "back")))) (sRet (op1 revS (evar 2))) sNx)
  (sSeq (sIf (op2B eqB (evar 3) (ecst (.str (cs "sort")))) (sRet (fun _ => M.fail)) sNx)
  (sRet (op2 joinD (ecst (.str (cs ""))) (frz (lcF [4] (itm (evar 2)) (gnam 4) yesT (iteE (op2B eqB (evar 4) (op2 ixD (evar 1) (ecst (.int 1)))) (op2 ixD (evar 1) (ecst (.int 2))) (evar 4)))))))))))
def F_Trial__one : List D → M SV := fnB 5 g_Trial__one
abbrev St_Trial__all : Stmt := inClass (top 26) 3
abbrev Sc_Trial__all : Scope := defScope St_Trial__all
abbrev N_Trial__all : List Str := ["self", "deeds", "found", "deed", "content"]
theorem sc_Trial__all : FnScope N_Trial__all ["self", "deeds"] Sc_Trial__all := ⟨rfl, rfl, rfl, by decide +kernel, rfl, by decide +kernel, by decide +kernel⟩
abbrev St_Trial_do : Stmt := inClass (top 26) 4
abbrev Sc_Trial_do : Scope := defScope St_Trial_do
abbrev N_Trial_do : List Str := ["self", "deed", "kind", "both", "contents"]
theorem sc_Trial_do : FnScope N_Trial_do ["self", "deed"] Sc_Trial_do := ⟨rfl, rfl, rfl, by decide +kernel, rfl, by decide +kernel, by decide +kernel⟩
def h_Trial__all (R : Nat → List D → M SV) : Env → SM :=
  (sSeq (sAsgF 2 (lstE nilA))
  (sSeq (sFor (itm (evar 1)) (gnam 3) (sSeq (sAsg 4 (frz (methF "Trial" "do" (evar 0) (consA (evar 3) nilA) (R 1))))
  (sSeq (sIf (isNonB (evar 4)) (sRet (ecst .non)) sNx)
  (sApp 2 (evar 4)))))
  (sRetV 2)))
def h_Trial_do (R : Nat → List D → M SV) : Env → SM :=
  (sSeq (sAsg 2 (op2 ixD (evar 1) (ecst (.int 0))))
  (sSeq (sIf (op2B eqB (evar 2) (ecst (.str (cs "text")))) (sRet (op2 ixD (evar 1) (ecst (.int 1)))) sNx)
  (sSeq (sIf (op2B eqB (evar 2) (ecst (.str (cs "need")))) (sRetF (methF "Trial" "ask" (evar 0) (consA (op2 ixD (evar 1) (ecst (.int 1))) nilA) F_Trial_ask)) sNx)
  (sSeq (sIf (op2B eqB (evar 2) (ecst (.str (cs "same")))) (sSeq (sAsg 3 (frz (methF "Trial" "_all" (evar 0) (consA (frz (slE (evar 1) (partE (some (ecst (.int 1)))) (partE (some (ecst (.int 3)))))) nilA) (R 0))))
  (sRet (iteE (isNonB (evar 3)) (ecst .non) (frz (methF "Trial" "do" (evar 0) (consA (iteE (op2B eqB (op2 ixD (evar 3) (ecst (.int 0))) (op2 ixD (evar 3) (ecst (.int 1)))) (op2 ixD (evar 1) (ecst (.int 3))) (op2 ixD (evar 1) (ecst (.int 4)))) nilA) (R 1)))))) sNx)
  (sSeq (sAsg 4 (frz (methF "Trial" "_all" (evar 0) (consA (frz (callF F_parts_of (consA (evar 1) nilA))) nilA) (R 0))))
  (sSeq (sIf (isNonB (evar 4)) (sRet (ecst .non)) sNx)
  (sSeq (sIf (op2B eqB (evar 2) (ecst (.str (cs "join")))) (sRetF (methF "Trial" "_bounded" (evar 0) (consA (frz (op2F addF (op2 ixD (evar 4) (ecst (.int 0))) (op2 ixD (evar 4) (ecst (.int 1))))) nilA) F_Trial__bounded)) sNx)
  (sRetF (methF "Trial" "_one" (evar 0) (consA (evar 1) (consA (op2 ixD (evar 4) (ecst (.int 0))) nilA)) F_Trial__one)))))))))
def R_Trial__all : Nat → Nat → List D → M SV
  | 0, 0 => fnB 5 fun _ => sFail
  | 0, _ => fnB 5 fun _ => sFail
  | n + 1, 0 => fnB 5 (h_Trial__all (R_Trial__all n))
  | n + 1, _ => fnB 5 (h_Trial_do (R_Trial__all n))
def F_Trial__all : List D → M SV := R_Trial__all 12 0
def F_Trial_do : List D → M SV := R_Trial__all 12 1
abbrev St_tried_by : Stmt := top 27
abbrev Sc_tried_by : Scope := defScope St_tried_by
abbrev N_tried_by : List Str := ["deed", "known", "rules", "trial", "content"]
theorem sc_tried_by : FnScope N_tried_by ["deed", "known", "rules"] Sc_tried_by := ⟨rfl, rfl, rfl, by decide +kernel, rfl, by decide +kernel, by decide +kernel⟩
def g_tried_by : Env → SM :=
  (sSeq (sAsg 3 (frz (callF (mkF "Trial" F_Trial_init) (consA (evar 1) (consA (evar 2) nilA)))))
  (sSeq (sAsg 4 (frz (methF "Trial" "do" (evar 3) (consA (evar 0) nilA) F_Trial_do)))
  (sSeq (sIf (isNotNonB (evar 4)) (sRet (tupE (consA (ecst G_DONE) (consA (tupE (consA (ecst G_MADE) (consA (evar 4) nilA))) (consA (op1 tupD (fldE "Trial" "needs" (evar 3))) nilA))))) sNx)
  (sRetF (op2F addF (fldE "Trial" "end" (evar 3)) (tupE (consA (op1 tupD (fldE "Trial" "needs" (evar 3))) nilA)))))))
def F_tried_by : List D → M SV := fnB 5 g_tried_by
def F_tried_byN : List D → M SV := fun ds => F_tried_by (ds ++ [.non])
abbrev St_tried : Stmt := top 28
abbrev Sc_tried : Scope := defScope St_tried
abbrev N_tried : List Str := ["deed", "known"]
theorem sc_tried : FnScope N_tried ["deed", "known"] Sc_tried := ⟨rfl, rfl, rfl, by decide +kernel, rfl, by decide +kernel, by decide +kernel⟩
def g_tried : Env → SM :=
  (sSeq (sIf (notT (valT (frz (callF F_is_deed (consA (evar 0) nilA))))) (sRaise "BadDeed") sNx)
  (sRetF (callF F_tried_byN (consA (evar 0) (consA (evar 1) nilA)))))
def F_tried : List D → M SV := fnB 2 g_tried
abbrev St_words_in : Stmt := top 36
abbrev Sc_words_in : Scope := defScope St_words_in
abbrev N_words_in : List Str := ["deed", "found", "one"]
theorem sc_words_in : FnScope N_words_in ["deed"] Sc_words_in := ⟨rfl, rfl, rfl, by decide +kernel, rfl, by decide +kernel, by decide +kernel⟩
def h_words_in (R : Nat → List D → M SV) : Env → SM :=
  (sSeq (sAsgF 1 (lstE (consA (op2 ixD (evar 0) (ecst (.int 0))) nilA)))
  (sSeq (sFor (itm (frz (callF F_parts_of (consA (evar 0) nilA)))) (gnam 2) (sExt 1 (frz (callF (R 0) (consA (evar 2) nilA)))))
  (sRetV 1)))
def R_words_in : Nat → Nat → List D → M SV
  | 0, _ => fnB 3 fun _ => sFail
  | n + 1, _ => fnB 3 (h_words_in (R_words_in n))
def F_words_in : List D → M SV := R_words_in 12 0
abbrev St_names_in : Stmt := top 37
abbrev Sc_names_in : Scope := defScope St_names_in
abbrev N_names_in : List Str := ["deed", "one", "name"]
theorem sc_names_in : FnScope N_names_in ["deed"] Sc_names_in := ⟨rfl, rfl, rfl, by decide +kernel, rfl, by decide +kernel, by decide +kernel⟩
def h_names_in (R : Nat → List D → M SV) : Env → SM :=
  (sSeq (sIf (op2B eqB (op2 ixD (evar 0) (ecst (.int 0))) (ecst (.str (cs "need")))) (sRetF (lstE (consA (op2 ixD (evar 0) (ecst (.int 1))) nilA))) sNx)
  (sRetF (op1F sortF (frz (dc2F [1, 2] (itm (frz (callF F_parts_of (consA (evar 0) nilA)))) (gnam 1) yesT [2] (itm (frz (callF (R 0) (consA (evar 1) nilA)))) (gnam 2) yesT (evar 2) (ecst (.bl true)))))))
def R_names_in : Nat → Nat → List D → M SV
  | 0, _ => fnB 3 fun _ => sFail
  | n + 1, _ => fnB 3 (h_names_in (R_names_in n))
def F_names_in : List D → M SV := R_names_in 12 0
abbrev St_word_fault : Stmt := top 38
abbrev Sc_word_fault : Scope := defScope St_word_fault
abbrev N_word_fault : List Str := ["deed", "wrong", "word"]
theorem sc_word_fault : FnScope N_word_fault ["deed"] Sc_word_fault := ⟨rfl, rfl, rfl, by decide +kernel, rfl, by decide +kernel, by decide +kernel⟩
def g_word_fault : Env → SM :=
  (sSeq (sAsg 1 (frz (lcF [2] (itm (frz (callF F_words_in (consA (evar 0) nilA)))) (gnam 2) (op2B notInB (evar 2) (ecst G_WORDS)) (evar 2))))
  (sRet (iteE (op2B gtB (op1 lenD (evar 1)) (ecst (.int 0))) (tupE (consA (ecst (.str (cs "word"))) (consA (op2 ixD (evar 1) (ecst (.int 0))) nilA))) (ecst .non))))
def F_word_fault : List D → M SV := fnB 3 g_word_fault
abbrev St_plain_fault : Stmt := top 39
abbrev Sc_plain_fault : Scope := defScope St_plain_fault
abbrev N_plain_fault : List Str := ["value", "fault"]
theorem sc_plain_fault : FnScope N_plain_fault ["value"] Sc_plain_fault := ⟨rfl, rfl, rfl, by decide +kernel, rfl, by decide +kernel, by decide +kernel⟩
def g_plain_fault : Env → SM :=
  (sSeq (sIf (notT (valT (frz (callF F_is_deed (consA (evar 0) nilA))))) (sRet (ecst G_NO_DEED)) sNx)
  (sSeq (sAsg 1 (frz (callF F_word_fault (consA (evar 0) nilA))))
  (sSeq (sIf (isNotNonB (evar 1)) (sRet (evar 1)) sNx)
  (sRet (iteE (op2B gtB (op1 lenD (frz (callF F_names_in (consA (evar 0) nilA)))) (ecst G_MOST_NAMES)) (ecst G_MANY) (ecst .non))))))
def F_plain_fault : List D → M SV := fnB 2 g_plain_fault
abbrev St_check_plain : Stmt := top 40
abbrev Sc_check_plain : Scope := defScope St_check_plain
abbrev N_check_plain : List Str := ["value"]
theorem sc_check_plain : FnScope N_check_plain ["value"] Sc_check_plain := ⟨rfl, rfl, rfl, by decide +kernel, rfl, by decide +kernel, by decide +kernel⟩
def g_check_plain : Env → SM :=
  (sIf (isNotNonB (frz (callF F_plain_fault (consA (evar 0) nilA)))) (sRaise "BadDeed") sNx)
def F_check_plain : List D → M SV := fnB 1 g_check_plain
abbrev St_are_lengths : Stmt := top 41
abbrev Sc_are_lengths : Scope := defScope St_are_lengths
abbrev N_are_lengths : List Str := ["names", "value", "one", "name", "length", "_length"]
theorem sc_are_lengths : FnScope N_are_lengths ["names", "value"] Sc_are_lengths := ⟨rfl, rfl, rfl, by decide +kernel, rfl, by decide +kernel, by decide +kernel⟩
def g_are_lengths : Env → SM :=
  (sSeq (sIf (orT (notT (valT (isiE "tuple" (evar 1)))) (notT (valT (op1 allD (frz (lcF [2] (itm (evar 1)) (gnam 2) yesT (andV (isiE "tuple" (evar 2)) (cmpE eqB (op1 lenD (evar 2)) (ecst (.int 2)))))))))) (sRet (ecst (.bl false))) sNx)
  (sSeq (sIf (notT (valT (op1 allD (frz (lcF [3, 4] (itm (evar 1)) (gtup (gcons (gnam 3) (gcons (gnam 4) gnil))) yesT (andV (frz (callF F_is_name (consA (evar 3) nilA))) (frz (callF F_is_whole (consA (evar 4) (consA (ecst (.int 0)) (consA (ecst G_MOST_CONTENT) nilA))))))))))) (sRet (ecst (.bl false))) sNx)
  (sRet (andV (frz (callF F_ascends (consA (frz (lcF [3, 5] (itm (evar 1)) (gtup (gcons (gnam 3) (gcons (gnam 5) gnil))) yesT (evar 3))) nilA))) (cmpE eqB (frz (lcF [3, 5] (itm (evar 1)) (gtup (gcons (gnam 3) (gcons (gnam 5) gnil))) yesT (evar 3))) (frz (op1F listF (evar 0))))))))
def F_are_lengths : List D → M SV := fnB 6 g_are_lengths
abbrev St_swapped : Stmt := top 42
abbrev Sc_swapped : Scope := defScope St_swapped
abbrev N_swapped : List Str := ["cell", "letter", "other", "images", "sign"]
theorem sc_swapped : FnScope N_swapped ["cell", "letter", "other"] Sc_swapped := ⟨rfl, rfl, rfl, by decide +kernel, rfl, by decide +kernel, by decide +kernel⟩
def g_swapped : Env → SM :=
  (sSeq (sIf (op2B eqB (op2 ixD (evar 0) (ecst (.int 0))) (ecst G_IS)) (sRet (iteE (op2B eqB (op2 ixD (evar 0) (ecst (.int 1))) (evar 1)) (tupE (consA (ecst G_IS) (consA (evar 2) nilA))) (evar 0))) sNx)
  (sSeq (sAsg 3 (op2 joinD (ecst (.str (cs ""))) (frz (lcF [4] (itm (op2 ixD (evar 0) (ecst (.int 3)))) (gnam 4) yesT (iteE (op2B eqB (evar 4) (evar 1)) (evar 2) (evar 4))))))
  (sRet (iteE (op2B eqB (evar 3) (frz (op2F mulF (op2 ixD (evar 3) (ecst (.int 0))) (op1 lenD (evar 3))))) (tupE (consA (ecst G_IS) (consA (op2 ixD (evar 3) (ecst (.int 0))) nilA))) (tupE (consA (ecst G_AT) (consA (op2 ixD (evar 0) (ecst (.int 1))) (consA (op2 ixD (evar 0) (ecst (.int 2))) (consA (evar 3) nilA)))))))))
def F_swapped : List D → M SV := fnB 5 g_swapped
abbrev St_fresh_cells : Stmt := top 43
abbrev Sc_fresh_cells : Scope := defScope St_fresh_cells
abbrev N_fresh_cells : List Str := ["name", "length", "index"]
theorem sc_fresh_cells : FnScope N_fresh_cells ["name", "length"] Sc_fresh_cells := ⟨rfl, rfl, rfl, by decide +kernel, rfl, by decide +kernel, by decide +kernel⟩
def g_fresh_cells : Env → SM :=
  (sRetF (lcF [2] (rngE (evar 1)) (gnam 2) yesT (tupE (consA (ecst G_AT) (consA (evar 0) (consA (evar 2) (consA (ecst G_LETTERS) nilA)))))))
def F_fresh_cells : List D → M SV := fnB 3 g_fresh_cells
abbrev St_Lengths_known : Stmt := inClass (top 45) 1
abbrev Sc_Lengths_known : Scope := defScope St_Lengths_known
abbrev N_Lengths_known : List Str := ["self", "name"]
theorem sc_Lengths_known : FnScope N_Lengths_known ["self", "name"] Sc_Lengths_known := ⟨rfl, rfl, rfl, by decide +kernel, rfl, by decide +kernel, by decide +kernel⟩
def g_Lengths_known : Env → SM :=
  (sRetF (callF F_fresh_cells (consA (evar 1) (consA (op2 ixD (fldE "Lengths" "lengths" (evar 0)) (evar 1)) nilA))))
def F_Lengths_known : List D → M SV := fnB 2 g_Lengths_known
abbrev St_cells_by : Stmt := top 44
abbrev Sc_cells_by : Scope := defScope St_cells_by
abbrev N_cells_by : List Str := ["deed", "known", "word", "found", "letter", "one", "cell"]
theorem sc_cells_by : FnScope N_cells_by ["deed", "known"] Sc_cells_by := ⟨rfl, rfl, rfl, by decide +kernel, rfl, by decide +kernel, by decide +kernel⟩
def h_cells_by (R : Nat → List D → M SV) : Env → SM :=
  (sSeq (sAsg 2 (op2 ixD (evar 0) (ecst (.int 0))))
  (sSeq (sIf (op2B eqB (evar 2) (ecst (.str (cs "text")))) (sRetF (lcF [4] (itm (op2 ixD (evar 0) (ecst (.int 1)))) (gnam 4) yesT (tupE (consA (ecst G_IS) (consA (evar 4) nilA))))) sNx)
  (sSeq (sIf (op2B eqB (evar 2) (ecst (.str (cs "need")))) (sRetF (cbmE "Lengths" "known" 1 (consA (op2 ixD (evar 0) (ecst (.int 1))) nilA) F_Lengths_known)) sNx)
  (sSeq (sAsg 3 (frz (lcF [5] (itm (frz (callF F_parts_of (consA (evar 0) nilA)))) (gnam 5) yesT (frz (callF (R 0) (consA (evar 5) (consA (evar 1) nilA)))))))
  (sSeq (sIf (op2B inB (ecst .non) (evar 3)) (sRet (ecst .non)) sNx)
  (sSeq (sIf (op2B eqB (evar 2) (ecst (.str (cs "join")))) (sRet (iteE (op2B gtB (frz (op2F addF (op1 lenD (op2 ixD (evar 3) (ecst (.int 0)))) (op1 lenD (op2 ixD (evar 3) (ecst (.int 1)))))) (ecst G_MOST_CONTENT)) (ecst .non) (frz (op2F addF (op2 ixD (evar 3) (ecst (.int 0))) (op2 ixD (evar 3) (ecst (.int 1))))))) sNx)
  (sSeq (sIf (op2B eqB (evar 2) (ecst (.str (cs "head")))) (sRetF (slE (op2 ixD (evar 3) (ecst (.int 0))) (partE none) (partE (some (op2 ixD (evar 0) (ecst (.int 1))))))) sNx)
  (sSeq (sIf (op2B eqB (evar 2) (ecst (.str (cs "back")))) (sRetF (op1F revL (op2 ixD (evar 3) (ecst (.int 0))))) sNx)
  (sRetF (lcF [6] (itm (op2 ixD (evar 3) (ecst (.int 0)))) (gnam 6) yesT (frz (callF F_swapped (consA (evar 6) (consA (op2 ixD (evar 0) (ecst (.int 1))) (consA (op2 ixD (evar 0) (ecst (.int 2))) nilA)))))))))))))))
def R_cells_by : Nat → Nat → List D → M SV
  | 0, _ => fnB 7 fun _ => sFail
  | n + 1, _ => fnB 7 (h_cells_by (R_cells_by n))
def F_cells_by : List D → M SV := R_cells_by 12 0
abbrev St_Lengths_init : Stmt := inClass (top 45) 0
abbrev Sc_Lengths_init : Scope := defScope St_Lengths_init
abbrev N_Lengths_init : List Str := ["self", "lengths"]
theorem sc_Lengths_init : FnScope N_Lengths_init ["self", "lengths"] Sc_Lengths_init := ⟨rfl, rfl, rfl, by decide +kernel, rfl, by decide +kernel, by decide +kernel⟩
def g_Lengths_init : Env → SM :=
  (sFld "Lengths" "lengths" (evar 0) (frz (op1F dictF (evar 1))))
def F_Lengths_init : List D → M SV := fnB 2 g_Lengths_init
abbrev St_told : Stmt := top 46
abbrev Sc_told : Scope := defScope St_told
abbrev N_told : List Str := ["cells"]
theorem sc_told : FnScope N_told ["cells"] Sc_told := ⟨rfl, rfl, rfl, by decide +kernel, rfl, by decide +kernel, by decide +kernel⟩
def g_told : Env → SM :=
  (sRet (iteE (isNonB (evar 0)) (ecst G_LONG) (tupE (consA (ecst G_MADE) (consA (op1 tupD (evar 0)) nilA)))))
def F_told : List D → M SV := fnB 1 g_told
abbrev St_cells_of : Stmt := top 47
abbrev Sc_cells_of : Scope := defScope St_cells_of
abbrev N_cells_of : List Str := ["deed", "lengths"]
theorem sc_cells_of : FnScope N_cells_of ["deed", "lengths"] Sc_cells_of := ⟨rfl, rfl, rfl, by decide +kernel, rfl, by decide +kernel, by decide +kernel⟩
def g_cells_of : Env → SM :=
  (sSeq (sDrop (frz (callF F_check_plain (consA (evar 0) nilA))))
  (sSeq (sIf (notT (valT (frz (callF F_are_lengths (consA (frz (callF F_names_in (consA (evar 0) nilA))) (consA (evar 1) nilA)))))) (sRaise "BadLengths") sNx)
  (sRetF (callF F_told (consA (frz (callF F_cells_by (consA (evar 0) (consA (bmE "Lengths" "known" (frz (callF (mkF "Lengths" F_Lengths_init) (consA (evar 1) nilA)))) nilA)))) nilA)))))
def F_cells_of : List D → M SV := fnB 2 g_cells_of
abbrev St__law_draws : Stmt := top 49
abbrev Sc__law_draws : Scope := defScope St__law_draws
abbrev N__law_draws : List Str := ["script", "many", "draws", "seed", "cell", "number", "k"]
theorem sc__law_draws : FnScope N__law_draws ["script", "many"] Sc__law_draws := ⟨rfl, rfl, rfl, by decide +kernel, rfl, by decide +kernel, by decide +kernel⟩
def g__law_draws : Env → SM :=
  (sSeq (sAsgF 2 (lstE nilA))
  (sSeq (sAsg 3 (ecst (.int 7)))
  (sSeq (sFor (itm (frz (slE (evar 0) (partE none) (partE (some (ecst (.int 63))))))) (gnam 4) (sSeq (sAsg 5 (op1 absD (evar 4)))
  (sSeq (sAsg 3 (op2 modD (op1 intD (frz (op2F addF (frz (op2F addF (frz (op2F mulF (evar 3) (ecst (.int 48271)))) (evar 5))) (ecst (.int 11))))) (ecst (.int 2147483647))))
  (sIf (op2B geB (evar 5) (op2 powD (ecst (.int 10)) (ecst (.int 18)))) (sFor (rngE (ecst (.int 60))) (gnam 6) (sIf (op2B gtB (evar 5) (ecst (.int 0))) (sSeq (sApp 2 (op2 modD (op1 intD (evar 5)) (ecst (.int 1009))))
  (sAsg 5 (op2 fdivD (evar 5) (ecst (.int 1009))))) sNx)) (sApp 2 (op2 modD (op2 fdivD (op1 intD (frz (op2F addF (frz (op2F mulF (evar 3) (ecst (.int 16807)))) (ecst (.int 5))))) (ecst (.int 3))) (ecst (.int 65521))))))))
  (sSeq (sFor (rngE (evar 1)) (gnam 6) (sIf (op2B ltB (op1 lenD (pvar 2)) (evar 1)) (sSeq (sAsg 3 (op2 modD (op1 intD (frz (op2F addF (frz (op2F addF (frz (op2F mulF (evar 3) (ecst (.int 69621)))) (evar 6))) (ecst (.int 1))))) (ecst (.int 2147483647))))
  (sApp 2 (op2 modD (op2 fdivD (op1 intD (evar 3)) (ecst (.int 7))) (ecst (.int 65521))))) sNx))
  (sFrz 2 (sRetF (slE (evar 2) (partE none) (partE (some (evar 1))))))))))
def F__law_draws : List D → M SV := fnB 7 g__law_draws
abbrev St__law_deed : Stmt := top 50
abbrev Sc__law_deed : Scope := defScope St__law_deed
abbrev N__law_deed : List Str := ["draws", "names", "deep", "kind", "number", "first"]
theorem sc__law_deed : FnScope N__law_deed ["draws", "names", "deep"] Sc__law_deed := ⟨rfl, rfl, rfl, by decide +kernel, rfl, by decide +kernel, by decide +kernel⟩
def h__law_deed (R : Nat → List D → M SV) : Env → SM :=
  (sSeq (sPar 3 4 (consA (op2 modD (op1 intD (op2 ixD (evar 0) (ecst (.int 0)))) (ecst (.int 9))) (consA (op1 intD (op2 ixD (evar 0) (ecst (.int 1)))) nilA)))
  (sSeq (sIf (orT (op2B eqB (evar 2) (ecst (.int 0))) (op2B ltB (evar 3) (ecst (.int 2)))) (sRet (iteE (op2B eqB (op2 modD (evar 4) (ecst (.int 3))) (ecst (.int 0))) (tupE (consA (ecst (.str (cs "text"))) (consA (op2 ixD (frz (lstE (consA (ecst (.str (cs ""))) (consA (ecst (.str (cs "a"))) (consA (ecst (.str (cs "ab"))) (consA (ecst (.str (cs "zza"))) (consA (ecst (.str (cs "m"))) nilA))))))) (op2 modD (evar 4) (ecst (.int 5)))) nilA))) (tupE (consA (ecst (.str (cs "need"))) (consA (op2 ixD (evar 1) (op2 modD (evar 4) (op1 lenD (evar 1)))) nilA))))) sNx)
  (sSeq (sAsg 5 (frz (callF (R 0) (consA (frz (slE (evar 0) (partE (some (ecst (.int 2)))) (partE none))) (consA (evar 1) (consA (op2 subD (evar 2) (ecst (.int 1))) nilA))))))
  (sSeq (sIf (op2B ltB (evar 3) (ecst (.int 5))) (sRet (tupE (consA (ecst (.str (cs "join"))) (consA (evar 5) (consA (frz (callF (R 0) (consA (frz (slE (evar 0) (partE (some (ecst (.int 9)))) (partE none))) (consA (evar 1) (consA (op2 subD (evar 2) (ecst (.int 1))) nilA))))) nilA))))) sNx)
  (sSeq (sIf (op2B eqB (evar 3) (ecst (.int 5))) (sRet (tupE (consA (ecst (.str (cs "head"))) (consA (frz (op2F addF (op2 modD (evar 4) (ecst (.int 7))) (frz (op2F mulF (ecst (.int 30)) (op2 fdivD (op2 modD (evar 4) (ecst (.int 5))) (ecst (.int 4))))))) (consA (evar 5) nilA))))) sNx)
  (sRet (iteE (op2B eqB (evar 3) (ecst (.int 6))) (tupE (consA (ecst (.str (cs "back"))) (consA (evar 5) nilA))) (tupE (consA (ecst (.str (cs "swap"))) (consA (op2 ixD (ecst (.str (cs "abcm"))) (op2 modD (evar 4) (ecst (.int 4)))) (consA (op2 ixD (ecst (.str (cs "bazm"))) (op2 modD (op2 fdivD (evar 4) (ecst (.int 4))) (ecst (.int 4)))) (consA (evar 5) nilA))))))))))))
def R__law_deed : Nat → Nat → List D → M SV
  | 0, _ => fnB 6 fun _ => sFail
  | n + 1, _ => fnB 6 (h__law_deed (R__law_deed n))
def F__law_deed : List D → M SV := R__law_deed 12 0
abbrev St__law_needs : Stmt := top 51
abbrev Sc__law_needs : Scope := defScope St__law_needs
abbrev N__law_needs : List Str := ["deed"]
theorem sc__law_needs : FnScope N__law_needs ["deed"] Sc__law_needs := ⟨rfl, rfl, rfl, by decide +kernel, rfl, by decide +kernel, by decide +kernel⟩
abbrev St__law_inner : Stmt := top 52
abbrev Sc__law_inner : Scope := defScope St__law_inner
abbrev N__law_inner : List Str := ["deed", "found", "one"]
theorem sc__law_inner : FnScope N__law_inner ["deed"] Sc__law_inner := ⟨rfl, rfl, rfl, by decide +kernel, rfl, by decide +kernel, by decide +kernel⟩
def h__law_needs (R : Nat → List D → M SV) : Env → SM :=
  (sSeq (sIf (op2B eqB (op2 ixD (evar 0) (ecst (.int 0))) (ecst (.str (cs "need")))) (sRetF (lstE (consA (op2 ixD (evar 0) (ecst (.int 1))) nilA))) sNx)
  (sRetF (op1F ssetF (frz (callF (R 1) (consA (evar 0) nilA))))))
def h__law_inner (R : Nat → List D → M SV) : Env → SM :=
  (sSeq (sAsg 1 (frz (lstE nilA)))
  (sSeq (sFor (itm (frz (slE (evar 0) (partE (some (ecst (.int 1)))) (partE none)))) (gnam 2) (sIf (valT (isiE "tuple" (evar 2))) (sAsg 1 (frz (op2F addF (evar 1) (frz (callF (R 0) (consA (evar 2) nilA)))))) sNx))
  (sRet (evar 1))))
def R__law_needs : Nat → Nat → List D → M SV
  | 0, 0 => fnB 1 fun _ => sFail
  | 0, _ => fnB 3 fun _ => sFail
  | n + 1, 0 => fnB 1 (h__law_needs (R__law_needs n))
  | n + 1, _ => fnB 3 (h__law_inner (R__law_needs n))
def F__law_needs : List D → M SV := R__law_needs 12 0
def F__law_inner : List D → M SV := R__law_needs 12 1
abbrev St__law_contents : Stmt := top 57
abbrev Sc__law_contents : Scope := defScope St__law_contents
abbrev N__law_contents : List Str := ["draws", "lengths", "rows", "k", "j"]
theorem sc__law_contents : FnScope N__law_contents ["draws", "lengths"] Sc__law_contents := ⟨rfl, rfl, rfl, by decide +kernel, rfl, by decide +kernel, by decide +kernel⟩
def g__law_contents : Env → SM :=
  (sSeq (sAsgF 2 (lstE nilA))
  (sSeq (sFor (rngE (op1 lenD (evar 1))) (gnam 3) (sApp 2 (tupE (consA (op2 ixD (op2 ixD (evar 1) (evar 3)) (ecst (.int 0))) (consA (op2 joinD (ecst (.str (cs ""))) (frz (lcF [4] (rngE (op2 ixD (op2 ixD (evar 1) (evar 3)) (ecst (.int 1)))) (gnam 4) yesT (op2 ixD (ecst (.str (cs "abmz"))) (op2 modD (op1 intD (op2 ixD (evar 0) (op2 modD (frz (op2F addF (frz (op2F mulF (ecst (.int 3)) (evar 3))) (evar 4))) (op1 lenD (evar 0))))) (ecst (.int 4))))))) nilA)))))
  (sFrz 2 (sRet (op1 tupD (evar 2))))))
def F__law_contents : List D → M SV := fnB 5 g__law_contents
abbrev St__law_bare : Stmt := top 58
abbrev Sc__law_bare : Scope := defScope St__law_bare
abbrev N__law_bare : List Str := ["deed", "one"]
theorem sc__law_bare : FnScope N__law_bare ["deed"] Sc__law_bare := ⟨rfl, rfl, rfl, by decide +kernel, rfl, by decide +kernel, by decide +kernel⟩
def h__law_bare (R : Nat → List D → M SV) : Env → SM :=
  (sSeq (sIf (op2B eqB (op2 ixD (evar 0) (ecst (.int 0))) (ecst (.str (cs "text")))) (sRet (tupE (consA (ecst (.str (cs "head"))) (consA (op1 lenD (op2 ixD (evar 0) (ecst (.int 1)))) (consA (tupE (consA (ecst (.str (cs "need"))) (consA (ecst (.str (cs "a"))) nilA))) nilA))))) sNx)
  (sSeq (sIf (op2B eqB (op2 ixD (evar 0) (ecst (.int 0))) (ecst (.str (cs "need")))) (sRet (evar 0)) sNx)
  (sSeq (sIf (op2B eqB (op2 ixD (evar 0) (ecst (.int 0))) (ecst (.str (cs "swap")))) (sRetF (callF (R 0) (consA (op2 ixD (evar 0) (ecst (.int 3))) nilA))) sNx)
  (sRet (op1 tupD (frz (lcF [1] (itm (evar 0)) (gnam 1) yesT (iteE (valT (isiE "tuple" (evar 1))) (frz (callF (R 0) (consA (evar 1) nilA))) (evar 1)))))))))
def R__law_bare : Nat → Nat → List D → M SV
  | 0, _ => fnB 2 fun _ => sFail
  | n + 1, _ => fnB 2 (h__law_bare (R__law_bare n))
def F__law_bare : List D → M SV := R__law_bare 12 0
abbrev St__law_turned : Stmt := top 59
abbrev Sc__law_turned : Scope := defScope St__law_turned
abbrev N__law_turned : List Str := ["content", "shift", "letters", "sign"]
theorem sc__law_turned : FnScope N__law_turned ["content", "shift"] Sc__law_turned := ⟨rfl, rfl, rfl, by decide +kernel, rfl, by decide +kernel, by decide +kernel⟩
def g__law_turned : Env → SM :=
  (sSeq (sAsg 2 (ecst (.str (cs "abcdefghijklmnopqrstuvwxyz"))))
  (sRet (op2 joinD (ecst (.str (cs ""))) (frz (lcF [3] (itm (evar 0)) (gnam 3) yesT (op2 ixD (evar 2) (op2 modD (frz (op2F addF (idxE (evar 2) (evar 3)) (evar 1))) (ecst (.int 26)))))))))
def F__law_turned : List D → M SV := fnB 4 g__law_turned
abbrev St_law : Stmt := top 60
abbrev Sc_law : Scope := defScope St_law
abbrev N_law : List Str := ["script", "draws", "turn", "deed", "needs", "lengths", "told_v", "made", "k", "contents", "known", "bare", "own", "shift", "one", "two", "cells", "name", "content", "index", "changed", "new", "places", "j", "other", "text"]
theorem sc_law : FnScope N_law ["script"] Sc_law := ⟨rfl, rfl, rfl, by decide +kernel, rfl, by decide +kernel, by decide +kernel⟩
def g_law : Env → SM :=
  (sSeq (sAsg 1 (frz (callF F__law_draws (consA (evar 0) (consA (ecst (.int 300)) nilA)))))
  (sSeq (sFor (rngE (ecst (.int 6))) (gnam 2) (sSeq (sAsg 3 (frz (callF F__law_deed (consA (frz (slE (evar 1) (partE (some (frz (op2F mulF (ecst (.int 40)) (evar 2))))) (partE none))) (consA (frz (slE (tupE (consA (ecst (.str (cs "a"))) (consA (ecst (.str (cs "b"))) nilA))) (partE none) (partE (some (frz (op2F addF (ecst (.int 1)) (op2 modD (evar 2) (ecst (.int 2))))))))) (consA (ecst (.int 3)) nilA))))))
  (sSeq (sAsg 4 (frz (callF F__law_needs (consA (evar 3) nilA))))
  (sSeq (sAsg 5 (op1 tupD (frz (lcF [23, 17] (enuE (evar 4)) (gtup (gcons (gnam 23) (gcons (gnam 17) gnil))) yesT (tupE (consA (evar 17) (consA (op2 modD (op1 intD (op2 ixD (evar 1) (frz (op2F addF (frz (op2F addF (ecst (.int 240)) (evar 2))) (frz (op2F mulF (ecst (.int 3)) (evar 23))))))) (ecst (.int 14))) nilA)))))))
  (sSeq (sAsg 6 (frz (callF F_cells_of (consA (evar 3) (consA (evar 5) nilA)))))
  (sSeq (sAsgF 7 (lstE nilA))
  (sSeq (sFor (rngE (ecst (.int 4))) (gnam 8) (sSeq (sAsg 9 (frz (callF F__law_contents (consA (frz (slE (evar 1) (partE (some (frz (op2F addF (frz (op2F addF (ecst (.int 200)) (frz (op2F mulF (ecst (.int 9)) (evar 8))))) (evar 2))))) (partE none))) (consA (evar 5) nilA)))))
  (sSeq (sAsg 10 (frz (op1F dictF (frz (lcF [17, 18] (itm (evar 9)) (gtup (gcons (gnam 17) (gcons (gnam 18) gnil))) yesT (tupE (consA (evar 17) (consA (tupE (consA (ecst (.str (cs "made"))) (consA (evar 18) nilA))) nilA))))))))
  (sApp 7 (op2 ixD (frz (callF F_tried (consA (evar 3) (consA (evar 10) nilA)))) (ecst (.int 1)))))))
  (sFrz 7 (sSeq (sIf (orT (andT (op2B eqB (op2 ixD (evar 6) (ecst (.int 0))) (ecst (.str (cs "made")))) (valT (op1 anyD (frz (lcF [14] (itm (evar 7)) (gnam 14) yesT (orV (cmpE neB (op2 ixD (evar 14) (ecst (.int 0))) (ecst (.str (cs "made")))) (cmpE neB (op1 lenD (op2 ixD (evar 14) (ecst (.int 1)))) (op1 lenD (op2 ixD (evar 6) (ecst (.int 1))))))))))) (andT (op2B eqB (op2 ixD (evar 6) (ecst (.int 0))) (ecst (.str (cs "fault")))) (valT (op1 anyD (frz (lcF [14] (itm (evar 7)) (gnam 14) yesT (cmpE neB (evar 14) (evar 6)))))))) (sRet (ecst (.bl false))) sNx)
  (sSeq (sAsg 11 (frz (callF F__law_bare (consA (evar 3) nilA))))
  (sSeq (sAsg 12 (frz (callF F__law_needs (consA (evar 11) nilA))))
  (sSeq (sAsg 5 (op1 tupD (frz (lcF [23, 17] (enuE (evar 12)) (gtup (gcons (gnam 23) (gcons (gnam 17) gnil))) yesT (tupE (consA (evar 17) (consA (op2 modD (op1 intD (op2 ixD (evar 1) (frz (op2F addF (frz (op2F addF (ecst (.int 240)) (evar 2))) (frz (op2F mulF (ecst (.int 5)) (evar 23))))))) (ecst (.int 12))) nilA)))))))
  (sSeq (sAsg 9 (frz (callF F__law_contents (consA (frz (slE (evar 1) (partE (some (frz (op2F addF (ecst (.int 200)) (evar 2))))) (partE none))) (consA (evar 5) nilA)))))
  (sSeq (sAsg 13 (frz (op2F addF (ecst (.int 1)) (op2 modD (op1 intD (op2 ixD (evar 1) (frz (op2F addF (ecst (.int 260)) (evar 2))))) (ecst (.int 25))))))
  (sSeq (sAsg 14 (op2 ixD (frz (callF F_tried (consA (evar 11) (consA (frz (op1F dictF (frz (lcF [17, 18] (itm (evar 9)) (gtup (gcons (gnam 17) (gcons (gnam 18) gnil))) yesT (tupE (consA (evar 17) (consA (tupE (consA (ecst (.str (cs "made"))) (consA (evar 18) nilA))) nilA))))))) nilA)))) (ecst (.int 1))))
  (sSeq (sAsg 15 (op2 ixD (frz (callF F_tried (consA (evar 11) (consA (frz (op1F dictF (frz (lcF [17, 18] (itm (evar 9)) (gtup (gcons (gnam 17) (gcons (gnam 18) gnil))) yesT (tupE (consA (evar 17) (consA (tupE (consA (ecst (.str (cs "made"))) (consA (frz (callF F__law_turned (consA (evar 18) (consA (evar 13) nilA)))) nilA))) nilA))))))) nilA)))) (ecst (.int 1))))
  (sSeq (sIf (orT (andT (op2B eqB (op2 ixD (evar 14) (ecst (.int 0))) (ecst (.str (cs "made")))) (op2B neB (evar 15) (tupE (consA (ecst (.str (cs "made"))) (consA (frz (callF F__law_turned (consA (op2 ixD (evar 14) (ecst (.int 1))) (consA (evar 13) nilA)))) nilA))))) (andT (op2B neB (op2 ixD (evar 14) (ecst (.int 0))) (ecst (.str (cs "made")))) (op2B neB (evar 15) (evar 14)))) (sRet (ecst (.bl false))) sNx)
  (sSeq (sAsg 16 (frz (callF F_cells_of (consA (evar 11) (consA (evar 5) nilA)))))
  (sIf (op2B eqB (op2 ixD (evar 16) (ecst (.int 0))) (ecst (.str (cs "made")))) (sFor (itm (evar 9)) (gtup (gcons (gnam 17) (gcons (gnam 18) gnil))) (sFor (rngE (op2 minD (ecst (.int 3)) (op1 lenD (evar 18)))) (gnam 19) (sSeq (sAsg 20 (frz (op1F dictF (frz (lcF [24, 25] (itm (evar 9)) (gtup (gcons (gnam 24) (gcons (gnam 25) gnil))) yesT (tupE (consA (evar 24) (consA (tupE (consA (ecst (.str (cs "made"))) (consA (iteE (op2B eqB (evar 24) (evar 17)) (frz (op2F addF (frz (op2F addF (frz (slE (evar 25) (partE none) (partE (some (evar 19))))) (frz (callF F__law_turned (consA (op2 ixD (evar 25) (evar 19)) (consA (ecst (.int 1)) nilA)))))) (frz (slE (evar 25) (partE (some (frz (op2F addF (evar 19) (ecst (.int 1)))))) (partE none))))) (evar 25)) nilA))) nilA))))))))
  (sSeq (sAsg 21 (op2 ixD (frz (callF F_tried (consA (evar 11) (consA (evar 20) nilA)))) (ecst (.int 1))))
  (sSeq (sAsg 22 (frz (lcF [8] (rngE (op1 lenD (op2 ixD (evar 14) (ecst (.int 1))))) (gnam 8) (op2B neB (op2 ixD (op2 ixD (evar 21) (ecst (.int 1))) (evar 8)) (op2 ixD (op2 ixD (evar 14) (ecst (.int 1))) (evar 8))) (evar 8))))
  (sIf (op2B neB (evar 22) (frz (lcF [8] (rngE (op1 lenD (op2 ixD (evar 16) (ecst (.int 1))))) (gnam 8) (op2B eqB (frz (slE (op2 ixD (op2 ixD (evar 16) (ecst (.int 1))) (evar 8)) (partE none) (partE (some (ecst (.int 3)))))) (tupE (consA (ecst (.str (cs "at"))) (consA (evar 17) (consA (evar 19) nilA))))) (evar 8)))) (sRet (ecst (.bl false))) sNx)))))) sNx)))))))))))))))))))
  (sRet (ecst (.bl true)))))
def F_law : List D → M SV := fnB 26 g_law
structure Fx (K : PySem.W.Frag) (w : World) (mg : Str → Option Value) : Prop where
  b_abs : mg "abs" = none
  b_all : mg "all" = none
  b_any : mg "any" = none
  b_bool : mg "bool" = none
  b_dict : mg "dict" = none
  b_enumerate : mg "enumerate" = none
  b_int : mg "int" = none
  b_isinstance : mg "isinstance" = none
  b_len : mg "len" = none
  b_list : mg "list" = none
  b_min : mg "min" = none
  b_range : mg "range" = none
  b_set : mg "set" = none
  b_sorted : mg "sorted" = none
  b_str : mg "str" = none
  b_sum : mg "sum" = none
  b_tuple : mg "tuple" = none
  b_zip : mg "zip" = none
  d_is_whole : ∃ f fd, FunD K "is_whole" "is_whole" (defArgs St_is_whole) (defBody St_is_whole) Sc_is_whole [] [] f fd ∧ mg "is_whole" = some (.ref f)
  d_ascends : ∃ f fd, FunD K "ascends" "ascends" (defArgs St_ascends) (defBody St_ascends) Sc_ascends [] [] f fd ∧ mg "ascends" = some (.ref f)
  d__are_letters : ∃ f fd, FunD K "_are_letters" "_are_letters" (defArgs St__are_letters) (defBody St__are_letters) Sc__are_letters [] [] f fd ∧ mg "_are_letters" = some (.ref f)
  d_is_name : ∃ f fd, FunD K "is_name" "is_name" (defArgs St_is_name) (defBody St_is_name) Sc_is_name [] [] f fd ∧ mg "is_name" = some (.ref f)
  d_is_content : ∃ f fd, FunD K "is_content" "is_content" (defArgs St_is_content) (defBody St_is_content) Sc_is_content [] [] f fd ∧ mg "is_content" = some (.ref f)
  d_parts_of : ∃ f fd, FunD K "parts_of" "parts_of" (defArgs St_parts_of) (defBody St_parts_of) Sc_parts_of [] [] f fd ∧ mg "parts_of" = some (.ref f)
  d__is_deed : ∃ f fd, FunD K "_is_deed" "_is_deed" (defArgs St__is_deed) (defBody St__is_deed) Sc__is_deed [] [] f fd ∧ mg "_is_deed" = some (.ref f)
  d__count : ∃ f fd, FunD K "_count" "_count" (defArgs St__count) (defBody St__count) Sc__count [] [] f fd ∧ mg "_count" = some (.ref f)
  d_is_deed : ∃ f fd, FunD K "is_deed" "is_deed" (defArgs St_is_deed) (defBody St_is_deed) Sc_is_deed [] [] f fd ∧ mg "is_deed" = some (.ref f)
  d_Trial_init : ∃ C f fd, FunD K "__init__" "Trial.__init__" (defArgs St_Trial_init) (defBody St_Trial_init) Sc_Trial_init [] [] f fd ∧ mg "Trial" = some (.ref C) ∧ Mk K C f
  d_Trial_ask : ∃ C f fd, FunD K "ask" "Trial.ask" (defArgs St_Trial_ask) (defBody St_Trial_ask) Sc_Trial_ask [] [] f fd ∧ mg "Trial" = some (.ref C) ∧ Cls K C ∧ Meth K C "ask" f
  d_Trial__bounded : ∃ C f fd, FunD K "_bounded" "Trial._bounded" (defArgs St_Trial__bounded) (defBody St_Trial__bounded) Sc_Trial__bounded [] [] f fd ∧ mg "Trial" = some (.ref C) ∧ Cls K C ∧ Meth K C "_bounded" f
  d_Trial__all : ∃ C f fd, FunD K "_all" "Trial._all" (defArgs St_Trial__all) (defBody St_Trial__all) Sc_Trial__all [] [] f fd ∧ mg "Trial" = some (.ref C) ∧ Cls K C ∧ Meth K C "_all" f
  d_Trial_do : ∃ C f fd, FunD K "do" "Trial.do" (defArgs St_Trial_do) (defBody St_Trial_do) Sc_Trial_do [] [] f fd ∧ mg "Trial" = some (.ref C) ∧ Cls K C ∧ Meth K C "do" f
  d_Trial__one : ∃ C f fd, FunD K "_one" "Trial._one" (defArgs St_Trial__one) (defBody St_Trial__one) Sc_Trial__one [] [] f fd ∧ mg "Trial" = some (.ref C) ∧ Cls K C ∧ Meth K C "_one" f
  d_tried_by : ∃ f fd, FunD K "tried_by" "tried_by" (defArgs St_tried_by) (defBody St_tried_by) Sc_tried_by [.non] [] f fd ∧ mg "tried_by" = some (.ref f)
  d_tried : ∃ f fd, FunD K "tried" "tried" (defArgs St_tried) (defBody St_tried) Sc_tried [] [] f fd ∧ mg "tried" = some (.ref f)
  d_words_in : ∃ f fd, FunD K "words_in" "words_in" (defArgs St_words_in) (defBody St_words_in) Sc_words_in [] [] f fd ∧ mg "words_in" = some (.ref f)
  d_names_in : ∃ f fd, FunD K "names_in" "names_in" (defArgs St_names_in) (defBody St_names_in) Sc_names_in [] [] f fd ∧ mg "names_in" = some (.ref f)
  d_word_fault : ∃ f fd, FunD K "word_fault" "word_fault" (defArgs St_word_fault) (defBody St_word_fault) Sc_word_fault [] [] f fd ∧ mg "word_fault" = some (.ref f)
  d_plain_fault : ∃ f fd, FunD K "plain_fault" "plain_fault" (defArgs St_plain_fault) (defBody St_plain_fault) Sc_plain_fault [] [] f fd ∧ mg "plain_fault" = some (.ref f)
  d_check_plain : ∃ f fd, FunD K "check_plain" "check_plain" (defArgs St_check_plain) (defBody St_check_plain) Sc_check_plain [] [] f fd ∧ mg "check_plain" = some (.ref f)
  d_are_lengths : ∃ f fd, FunD K "are_lengths" "are_lengths" (defArgs St_are_lengths) (defBody St_are_lengths) Sc_are_lengths [] [] f fd ∧ mg "are_lengths" = some (.ref f)
  d_swapped : ∃ f fd, FunD K "swapped" "swapped" (defArgs St_swapped) (defBody St_swapped) Sc_swapped [] [] f fd ∧ mg "swapped" = some (.ref f)
  d_fresh_cells : ∃ f fd, FunD K "fresh_cells" "fresh_cells" (defArgs St_fresh_cells) (defBody St_fresh_cells) Sc_fresh_cells [] [] f fd ∧ mg "fresh_cells" = some (.ref f)
  d_cells_by : ∃ f fd, FunD K "cells_by" "cells_by" (defArgs St_cells_by) (defBody St_cells_by) Sc_cells_by [] [] f fd ∧ mg "cells_by" = some (.ref f)
  d_Lengths_init : ∃ C f fd, FunD K "__init__" "Lengths.__init__" (defArgs St_Lengths_init) (defBody St_Lengths_init) Sc_Lengths_init [] [] f fd ∧ mg "Lengths" = some (.ref C) ∧ Mk K C f
  d_Lengths_known : ∃ C f fd, FunD K "known" "Lengths.known" (defArgs St_Lengths_known) (defBody St_Lengths_known) Sc_Lengths_known [] [] f fd ∧ mg "Lengths" = some (.ref C) ∧ Cls K C ∧ Meth K C "known" f
  d_told : ∃ f fd, FunD K "told" "told" (defArgs St_told) (defBody St_told) Sc_told [] [] f fd ∧ mg "told" = some (.ref f)
  d_cells_of : ∃ f fd, FunD K "cells_of" "cells_of" (defArgs St_cells_of) (defBody St_cells_of) Sc_cells_of [] [] f fd ∧ mg "cells_of" = some (.ref f)
  d__law_draws : ∃ f fd, FunD K "_law_draws" "_law_draws" (defArgs St__law_draws) (defBody St__law_draws) Sc__law_draws [] [] f fd ∧ mg "_law_draws" = some (.ref f)
  d__law_deed : ∃ f fd, FunD K "_law_deed" "_law_deed" (defArgs St__law_deed) (defBody St__law_deed) Sc__law_deed [] [] f fd ∧ mg "_law_deed" = some (.ref f)
  d__law_needs : ∃ f fd, FunD K "_law_needs" "_law_needs" (defArgs St__law_needs) (defBody St__law_needs) Sc__law_needs [] [] f fd ∧ mg "_law_needs" = some (.ref f)
  d__law_inner : ∃ f fd, FunD K "_law_inner" "_law_inner" (defArgs St__law_inner) (defBody St__law_inner) Sc__law_inner [] [] f fd ∧ mg "_law_inner" = some (.ref f)
  d__law_contents : ∃ f fd, FunD K "_law_contents" "_law_contents" (defArgs St__law_contents) (defBody St__law_contents) Sc__law_contents [] [] f fd ∧ mg "_law_contents" = some (.ref f)
  d__law_bare : ∃ f fd, FunD K "_law_bare" "_law_bare" (defArgs St__law_bare) (defBody St__law_bare) Sc__law_bare [] [] f fd ∧ mg "_law_bare" = some (.ref f)
  d__law_turned : ∃ f fd, FunD K "_law_turned" "_law_turned" (defArgs St__law_turned) (defBody St__law_turned) Sc__law_turned [] [] f fd ∧ mg "_law_turned" = some (.ref f)
  d_law : ∃ f fd, FunD K "law" "law" (defArgs St_law) (defBody St_law) Sc_law [] [] f fd ∧ mg "law" = some (.ref f)
  g_AT : Glb K w mg "AT" G_AT
  g_DONE : Glb K w mg "DONE" G_DONE
  g_FAULT : Glb K w mg "FAULT" G_FAULT
  g_IS : Glb K w mg "IS" G_IS
  g_LETTERS : Glb K w mg "LETTERS" G_LETTERS
  g_LONG : Glb K w mg "LONG" G_LONG
  g_MADE : Glb K w mg "MADE" G_MADE
  g_MANY : Glb K w mg "MANY" G_MANY
  g_MOST_CONTENT : Glb K w mg "MOST_CONTENT" G_MOST_CONTENT
  g_MOST_DEEDS : Glb K w mg "MOST_DEEDS" G_MOST_DEEDS
  g_MOST_DEEP : Glb K w mg "MOST_DEEP" G_MOST_DEEP
  g_MOST_NAME : Glb K w mg "MOST_NAME" G_MOST_NAME
  g_MOST_NAMES : Glb K w mg "MOST_NAMES" G_MOST_NAMES
  g_NO_DEED : Glb K w mg "NO_DEED" G_NO_DEED
  g_PARTS : Glb K w mg "PARTS" G_PARTS
  g_PLAIN : Glb K w mg "PLAIN" G_PLAIN
  g_WAITS : Glb K w mg "WAITS" G_WAITS
  g_WORDS : Glb K w mg "WORDS" G_WORDS
  f_Lengths_lengths : FldK K mg "Lengths" "lengths"
  f_Trial_end : FldK K mg "Trial" "end"
  f_Trial_known : FldK K mg "Trial" "known"
  f_Trial_needs : FldK K mg "Trial" "needs"
  f_Trial_rules : FldK K mg "Trial" "rules"
  bm_Lengths_known : BmK K mg "Lengths" "known"
  x_BadDeed : XcK K mg "BadDeed"
  h_BadDeed : ∃ c, mg "BadDeed" = some c
  x_BadLengths : XcK K mg "BadLengths"
  h_BadLengths : ∃ c, mg "BadLengths" = some c
  exm : ∀ x h b, exTab x h = some b → ExmK K mg x h b
section
variable {K : PySem.W.Frag} {w : World} {mg : Str → Option Value} {P : Program} {base : Heap}
theorem ok_is_whole (C : Fx K w mg) : FnK K w mg P base 2 "is_whole" 3 F_is_whole := by
  obtain ⟨f, fd, FD, hm⟩ := C.d_is_whole
  exact FnK.of FD hm (fun _ _ _ _ _ _ us hl => match us, hl with | [_, _, _], _ => rfl)
    (fn_ok (k := 1) (g := g_is_whole) (N := N_is_whole) FD sc_is_whole fun cdv A outer s H E hr tk pp => by
    have hu := hu_of hr
    have hq := hq_of hr
    exact (ss_one (ss_ret (ev_and (ev_isi (T := "int") (by decide) C.b_isinstance C.b_int (EV.p (ev_var 0))) (ev_and (ev_not (ev_isi (T := "bool") (by decide) C.b_isinstance C.b_bool (EV.p (ev_var 0)))) (ev_one (ev_chain snd_le snd_le op_le op_le (ev_var 1) (ev_var 0) (ev_var 2))))))))
theorem ok_ascends (C : Fx K w mg) : FnK K w mg P base 2 "ascends" 1 F_ascends := by
  obtain ⟨f, fd, FD, hm⟩ := C.d_ascends
  exact FnK.of FD hm (fun _ _ _ _ _ _ us hl => match us, hl with | [_], _ => rfl)
    (fn_ok (k := 1) (g := g_ascends) (N := N_ascends) FD sc_ascends fun cdv A outer s H E hr tk pp => by
    have hu := hu_of hr
    have hq := hq_of hr
    exact (ss_one (ss_ret (ev_callB snd_all (cr_all rfl) C.b_all (EF.p (ef_lc (own := [("one", 1), ("later", 2)]) sc_ascends.nd (ei_zip C.b_zip (ev_var 0) (EF.v (ef_sl (EV.p (ev_var 0)) (eo_some ev_int) eo_none))) (blkOk_by (own := [("one", 1), ("later", 2)]) (N := N_ascends) (sc := Sc_ascends) (by decide +kernel)) (by decide) (fun _ _ _ _ _ => (gp_tup rfl (grs_cons (gr_nam 1 sc_ascends.nd) (grs_cons (gr_nam 2 sc_ascends.nd) grs_nil)) (gcons_len (gcons_len gnil_len)))) (fun _ _ _ _ _ => ets_nil) (fun _ _ _ _ _ => (ev_cmp snd_lt op_ltB (nomark _) (EV.p (ev_var 1)) (EV.p (ev_var 2))))))))))
theorem ok__are_letters (C : Fx K w mg) : FnK K w mg P base 2 "_are_letters" 3 F__are_letters := by
  obtain ⟨f, fd, FD, hm⟩ := C.d__are_letters
  exact FnK.of FD hm (fun _ _ _ _ _ _ us hl => match us, hl with | [_, _, _], _ => rfl)
    (fn_ok (k := 1) (g := g__are_letters) (N := N__are_letters) FD sc__are_letters fun cdv A outer s H E hr tk pp => by
    have hu := hu_of hr
    have hq := hq_of hr
    exact (ss_one (ss_ret (ev_and (ev_isi (T := "str") (by decide) C.b_isinstance C.b_str (EV.p (ev_var 0))) (ev_and (ev_chain snd_le snd_le op_le op_le (ev_var 1) (ev_callB snd_len cr_len C.b_len (EV.p (ev_var 0))) (ev_var 2)) (ev_one (ev_callB snd_all (cr_all rfl) C.b_all (EF.p (ef_lc (own := [("sign", 3)]) sc__are_letters.nd (ei_any (ev_var 0)) (blkOk_by (own := [("sign", 3)]) (N := N__are_letters) (sc := Sc__are_letters) (by decide +kernel)) (by decide) (fun _ _ _ _ _ => (gr_nam 3 sc__are_letters.nd)) (fun _ _ _ _ _ => ets_nil) (fun _ _ _ _ _ => (ev_cmp snd_in (op_inAll hu) rfl (EV.p (ev_var 3)) (EV.p (ev_glb C.g_LETTERS)))))))))))))
theorem ok_is_name (C : Fx K w mg) : FnK K w mg P base 4 "is_name" 1 F_is_name := by
  obtain ⟨f, fd, FD, hm⟩ := C.d_is_name
  exact FnK.of FD hm (fun _ _ _ _ _ _ us hl => match us, hl with | [_], _ => rfl)
    (fn_ok (k := 3) (g := g_is_name) (N := N_is_name) FD sc_is_name fun cdv A outer s H E hr tk pp => by
    have hu := hu_of hr
    have hq := hq_of hr
    exact (ss_one (ss_retF (ef_call ((ok__are_letters C).mono (by omega)) tk hr (ea_cons (ev_var 0) (ea_cons ev_int (ea_cons (ev_glb C.g_MOST_NAME) ea_nil))) (al_cons (al_cons (al_cons al_nil)))))))
theorem ok_is_content (C : Fx K w mg) : FnK K w mg P base 4 "is_content" 1 F_is_content := by
  obtain ⟨f, fd, FD, hm⟩ := C.d_is_content
  exact FnK.of FD hm (fun _ _ _ _ _ _ us hl => match us, hl with | [_], _ => rfl)
    (fn_ok (k := 3) (g := g_is_content) (N := N_is_content) FD sc_is_content fun cdv A outer s H E hr tk pp => by
    have hu := hu_of hr
    have hq := hq_of hr
    exact (ss_one (ss_retF (ef_call ((ok__are_letters C).mono (by omega)) tk hr (ea_cons (ev_var 0) (ea_cons ev_int (ea_cons (ev_glb C.g_MOST_CONTENT) ea_nil))) (al_cons (al_cons (al_cons al_nil)))))))
theorem ok_parts_of (C : Fx K w mg) : FnK K w mg P base 2 "parts_of" 1 F_parts_of := by
  obtain ⟨f, fd, FD, hm⟩ := C.d_parts_of
  exact FnK.of FD hm (fun _ _ _ _ _ _ us hl => match us, hl with | [_], _ => rfl)
    (fn_ok (k := 1) (g := g_parts_of) (N := N_parts_of) FD sc_parts_of fun cdv A outer s H E hr tk pp => by
    have hu := hu_of hr
    have hq := hq_of hr
    exact (ss_one (ss_ret (ev_if (et_cmp snd_in (op_inAll hu) rfl (EV.p (ev_ix hu (EV.p (ev_var 0)) (EV.p ev_int))) (EV.p (ev_glb C.g_PARTS))) (EF.v (ef_sl (EV.p (ev_var 0)) (eo_some (EF.v (ef_op snd_addF op_addF (EV.p ev_int) (EV.p (ev_ix hu (EV.p (ev_glb C.g_PLAIN)) (EV.p (ev_ix hu (EV.p (ev_var 0)) (EV.p ev_int)))))))) eo_none)) (ev_tup ea_nil)))))
theorem ok0__is_deed (C : Fx K w mg) : FnK K w mg P base 5 "_is_deed" 2 (fnB 3 fun _ => sFail) := by
  obtain ⟨f, fd, FD, hm⟩ := C.d__is_deed
  exact FnK.of FD hm (fun _ _ _ _ _ _ us hl => match us, hl with | [_, _], _ => rfl)
    (fn_ok (k := 4) (g := fun _ => sFail) (N := N__is_deed) FD sc__is_deed fun cdv A outer s H E hr tk pp => by
    have hu := hu_of hr
    have hq := hq_of hr
    exact sss_never)
theorem okS__is_deed (C : Fx K w mg) (n : Nat) (ih : One (FnK K w mg P base (5 + n) "_is_deed" 2 (R__is_deed n 0))) : FnK K w mg P base (5 + (n + 1)) "_is_deed" 2 (fnB 3 (h__is_deed (R__is_deed n))) := by
  obtain ⟨f, fd, FD, hm⟩ := C.d__is_deed
  exact FnK.of FD hm (fun _ _ _ _ _ _ us hl => match us, hl with | [_, _], _ => rfl)
    (fn_ok (k := 5 + n) (g := h__is_deed (R__is_deed n)) (N := N__is_deed) FD sc__is_deed fun cdv A outer s H E hr tk pp => by
    have hu := hu_of hr
    have hq := hq_of hr
    exact (ss_cons (ss_if (et_w (ew_or (et_not (et_val (ev_isi (T := "tuple") (by decide) C.b_isinstance C.b_tuple (EV.p (ev_var 0))))) (ew_or (et_cmp snd_eq (op_eqD hq) (nomark _) (EV.p (ev_callB snd_len cr_len C.b_len (EV.p (ev_var 0)))) (EV.p ev_int)) (ew_or (et_not (et_val (ev_isi (T := "str") (by decide) C.b_isinstance C.b_str (EV.p (ev_ix hu (EV.p (ev_var 0)) (EV.p ev_int)))))) (ew_or1 (et_cmp snd_notIn (op_notInAll hu) rfl (EV.p (ev_ix hu (EV.p (ev_var 0)) (EV.p ev_int))) (EV.p (ev_glb C.g_PLAIN)))))))) (ss_one (ss_ret ev_bl)) ss_nil)
      (ss_cons (ss_if (et_cmp snd_notIn (op_notInAll hu) rfl (EV.p (ev_ix hu (EV.p (ev_var 0)) (EV.p ev_int))) (EV.p (ev_glb C.g_PARTS))) (ss_cons (ss_if (et_cmp snd_ne (op_neD hq) (nomark _) (EV.p (ev_callB snd_len cr_len C.b_len (EV.p (ev_var 0)))) (EV.p ev_int)) (ss_one (ss_ret ev_bl)) ss_nil)
      (ss_one (ss_ret (ev_if (et_cmp snd_eq (op_eqD hq) (nomark _) (EV.p (ev_ix hu (EV.p (ev_var 0)) (EV.p ev_int))) (EV.p (ev_str (z := "text")))) (EF.v (ef_call ((ok_is_content C).mono (by omega)) tk hr (ea_cons (ev_ix hu (EV.p (ev_var 0)) (EV.p ev_int)) ea_nil) (al_cons al_nil))) (EF.v (ef_call ((ok_is_name C).mono (by omega)) tk hr (ea_cons (ev_ix hu (EV.p (ev_var 0)) (EV.p ev_int)) ea_nil) (al_cons al_nil))))))) ss_nil)
      (ss_cons (ss_if (et_w (ew_or (et_cmp snd_ne (op_neD hq) (nomark _) (EV.p (ev_callB snd_len cr_len C.b_len (EV.p (ev_var 0)))) (EF.p (ef_op snd_addF op_addF (EF.p (ef_op snd_addF op_addF (EV.p ev_int) (EV.p (ev_ix hu (EV.p (ev_glb C.g_PLAIN)) (EV.p (ev_ix hu (EV.p (ev_var 0)) (EV.p ev_int))))))) (EV.p (ev_ix hu (EV.p (ev_glb C.g_PARTS)) (EV.p (ev_ix hu (EV.p (ev_var 0)) (EV.p ev_int)))))))) (ew_or1 (et_cmp snd_eq (op_eqD hq) (nomark _) (EV.p (ev_var 1)) (EV.p ev_int))))) (ss_one (ss_ret ev_bl)) ss_nil)
      (ss_cons (ss_if (et_w (ew_and (et_cmp snd_eq (op_eqD hq) (nomark _) (EV.p (ev_ix hu (EV.p (ev_var 0)) (EV.p ev_int))) (EV.p (ev_str (z := "head")))) (ew_and1 (et_not (et_val (EF.v (ef_call ((ok_is_whole C).mono (by omega)) tk hr (ea_cons (ev_ix hu (EV.p (ev_var 0)) (EV.p ev_int)) (ea_cons ev_int (ea_cons (ev_glb C.g_MOST_CONTENT) ea_nil))) (al_cons (al_cons (al_cons al_nil)))))))))) (ss_one (ss_ret ev_bl)) ss_nil)
      (ss_cons (ss_if (et_w (ew_and (et_cmp snd_eq (op_eqD hq) (nomark _) (EV.p (ev_ix hu (EV.p (ev_var 0)) (EV.p ev_int))) (EV.p (ev_str (z := "swap")))) (ew_and1 (et_not (et_val (ev_callB snd_all (cr_all rfl) C.b_all (EF.p (ef_lc (own := [("one", 2)]) sc__is_deed.nd (ei_any (EF.v (ef_sl (EV.p (ev_var 0)) (eo_some ev_int) (eo_some ev_int)))) (blkOk_by (own := [("one", 2)]) (N := N__is_deed) (sc := Sc__is_deed) (by decide +kernel)) (by decide) (fun _ _ _ _ _ => (gr_nam 2 sc__is_deed.nd)) (fun _ _ _ _ _ => ets_nil) (fun _ _ _ _ _ => (EF.v (ef_call ((ok__are_letters C).mono (by omega)) takes00 hr (ea_cons (ev_var 2) (ea_cons ev_int (ea_cons ev_int ea_nil))) (al_cons (al_cons (al_cons al_nil)))))))))))))) (ss_one (ss_ret ev_bl)) ss_nil)
      (ss_one (ss_ret (ev_callB snd_all (cr_all rfl) C.b_all (EF.p (ef_lc (own := [("one", 2)]) sc__is_deed.nd (ei_any (EF.v (ef_call ((ok_parts_of C).mono (by omega)) tk hr (ea_cons (ev_var 0) ea_nil) (al_cons al_nil)))) (blkOk_by (own := [("one", 2)]) (N := N__is_deed) (sc := Sc__is_deed) (by decide +kernel)) (by decide) (fun _ _ _ _ _ => (gr_nam 2 sc__is_deed.nd)) (fun _ _ _ _ _ => ets_nil) (fun _ _ _ _ _ => (EF.v (ef_call (ih.one) takes00 hr (ea_cons (ev_var 2) (ea_cons (ev_op snd_sub op_subI (EV.p (ev_var 1)) (EV.p ev_int)) ea_nil)) (al_cons (al_cons al_nil))))))))))))))))
theorem okA__is_deed (C : Fx K w mg) : ∀ n : Nat, One (FnK K w mg P base (5 + n) "_is_deed" 2 (R__is_deed n 0))
  | 0 => ⟨ok0__is_deed C⟩
  | n + 1 => ⟨okS__is_deed C n (okA__is_deed C n)⟩
theorem ok__is_deed (C : Fx K w mg) : FnK K w mg P base 17 "_is_deed" 2 F__is_deed := (okA__is_deed C 12).one
theorem ok0__count (C : Fx K w mg) : FnK K w mg P base 3 "_count" 1 (fnB 2 fun _ => sFail) := by
  obtain ⟨f, fd, FD, hm⟩ := C.d__count
  exact FnK.of FD hm (fun _ _ _ _ _ _ us hl => match us, hl with | [_], _ => rfl)
    (fn_ok (k := 2) (g := fun _ => sFail) (N := N__count) FD sc__count fun cdv A outer s H E hr tk pp => by
    have hu := hu_of hr
    have hq := hq_of hr
    exact sss_never)
theorem okS__count (C : Fx K w mg) (n : Nat) (ih : One (FnK K w mg P base (3 + n) "_count" 1 (R__count n 0))) : FnK K w mg P base (3 + (n + 1)) "_count" 1 (fnB 2 (h__count (R__count n))) := by
  obtain ⟨f, fd, FD, hm⟩ := C.d__count
  exact FnK.of FD hm (fun _ _ _ _ _ _ us hl => match us, hl with | [_], _ => rfl)
    (fn_ok (k := 3 + n) (g := h__count (R__count n)) (N := N__count) FD sc__count fun cdv A outer s H E hr tk pp => by
    have hu := hu_of hr
    have hq := hq_of hr
    exact (ss_one (ss_retF (ef_op snd_addF op_addF (EV.p ev_int) (EV.p (ev_callB snd_sum (cr_sum rfl) C.b_sum (EF.p (ef_lc (own := [("one", 1)]) sc__count.nd (ei_any (EF.v (ef_call ((ok_parts_of C).mono (by omega)) tk hr (ea_cons (ev_var 0) ea_nil) (al_cons al_nil)))) (blkOk_by (own := [("one", 1)]) (N := N__count) (sc := Sc__count) (by decide +kernel)) (by decide) (fun _ _ _ _ _ => (gr_nam 1 sc__count.nd)) (fun _ _ _ _ _ => ets_nil) (fun _ _ _ _ _ => (EF.v (ef_call (ih.one) takes00 hr (ea_cons (ev_var 1) ea_nil) (al_cons al_nil))))))))))))
theorem okA__count (C : Fx K w mg) : ∀ n : Nat, One (FnK K w mg P base (3 + n) "_count" 1 (R__count n 0))
  | 0 => ⟨ok0__count C⟩
  | n + 1 => ⟨okS__count C n (okA__count C n)⟩
theorem ok__count (C : Fx K w mg) : FnK K w mg P base 15 "_count" 1 F__count := (okA__count C 12).one
theorem ok_is_deed (C : Fx K w mg) : FnK K w mg P base 20 "is_deed" 1 F_is_deed := by
  obtain ⟨f, fd, FD, hm⟩ := C.d_is_deed
  exact FnK.of FD hm (fun _ _ _ _ _ _ us hl => match us, hl with | [_], _ => rfl)
    (fn_ok (k := 19) (g := g_is_deed) (N := N_is_deed) FD sc_is_deed fun cdv A outer s H E hr tk pp => by
    have hu := hu_of hr
    have hq := hq_of hr
    exact (ss_one (ss_ret (ev_and (EF.v (ef_call ((ok__is_deed C).mono (by omega)) tk hr (ea_cons (ev_var 0) (ea_cons (ev_glb C.g_MOST_DEEP) ea_nil)) (al_cons (al_cons al_nil)))) (ev_one (ev_cmp snd_le op_le (nomark _) (EF.p (ef_call ((ok__count C).mono (by omega)) tk hr (ea_cons (ev_var 0) ea_nil) (al_cons al_nil))) (EV.p (ev_glb C.g_MOST_DEEDS))))))))
theorem ok_Trial_init (C : Fx K w mg) : MkK K w mg P base 2 "Trial" 2 F_Trial_init := by
  obtain ⟨cl, f, fd, FD, hm, hmk⟩ := C.d_Trial_init
  exact MkK.of FD hm hmk (fun _ _ _ _ _ _ us hl => match us, hl with | [_, _, _], _ => rfl)
    (fn_ok (k := 1) (g := g_Trial_init) (N := N_Trial_init) FD sc_Trial_init fun cdv A outer s H E hr tk pp => by
    have hu := hu_of hr
    have hq := hq_of hr
    exact (ss_cons (ss_fld C.f_Trial_known (ev_var 0) (ev_var 1))
      (ss_cons (ss_fld C.f_Trial_rules (ev_var 0) (ev_var 2))
      (ss_cons (ss_fld C.f_Trial_needs (ev_var 0) (ev_st (ef_lst ea_nil)))
      (ss_one (ss_fld C.f_Trial_end (ev_var 0) ev_non)))))) rfl
theorem ok_Trial_ask (C : Fx K w mg) : MtK K w mg P base 2 "Trial" "ask" 1 F_Trial_ask := by
  obtain ⟨cl, f, fd, FD, hm, hcl, hmt⟩ := C.d_Trial_ask
  exact MtK.of FD hm hcl hmt (fun _ _ _ _ _ _ us hl => match us, hl with | [_, _], _ => rfl)
    (fn_ok (k := 1) (g := g_Trial_ask) (N := N_Trial_ask) FD sc_Trial_ask fun cdv A outer s H E hr tk pp => by
    have hu := hu_of hr
    have hq := hq_of hr
    exact (ss_cons (ss_if (et_cmp snd_notIn (op_notInAll hu) rfl (EV.p (ev_var 1)) (EV.p (ev_fld C.f_Trial_needs (ev_var 0)))) (ss_one (ss_appS (ev_fld C.f_Trial_needs (ev_var 0)) (ev_var 1))) ss_nil)
      (ss_cons (ss_set 2 sc_Trial_ask.nd (ev_get hu (ev_fld C.f_Trial_known (ev_var 0)) (ev_var 1)))
      (ss_cons (ss_if (et_w (ew_and (et_isN (EV.p (ev_var 2))) (ew_and (et_notN (EV.p (ev_fld C.f_Trial_rules (ev_var 0)))) (ew_and1 (et_cmp snd_notIn (op_notInAll hu) rfl (EV.p (ev_var 1)) (EV.p (ev_fld C.f_Trial_rules (ev_var 0)))))))) (ss_one (ss_set 2 sc_Trial_ask.nd (ev_tup (ea_cons (ev_glb C.g_FAULT) (ea_cons (ev_str (z := "lacks")) (ea_cons (ev_var 1) ea_nil)))))) ss_nil)
      (ss_cons (ss_if (et_isN (EV.p (ev_var 2))) (ss_cons (ss_fld C.f_Trial_end (ev_var 0) (ev_tup (ea_cons (ev_glb C.g_WAITS) (ea_cons (ev_var 1) ea_nil))))
      (ss_one (ss_ret ev_non))) ss_nil)
      (ss_cons (ss_if (et_cmp snd_eq (op_eqD hq) (nomark _) (EV.p (ev_ix hu (EV.p (ev_var 2)) (EV.p ev_int))) (EV.p (ev_glb C.g_FAULT))) (ss_cons (ss_fld C.f_Trial_end (ev_var 0) (ev_tup (ea_cons (ev_glb C.g_DONE) (ea_cons (ev_var 2) ea_nil))))
      (ss_one (ss_ret ev_non))) ss_nil)
      (ss_one (ss_ret (ev_ix hu (EV.p (ev_var 2)) (EV.p ev_int)))))))))) rfl
theorem ok_Trial__bounded (C : Fx K w mg) : MtK K w mg P base 2 "Trial" "_bounded" 1 F_Trial__bounded := by
  obtain ⟨cl, f, fd, FD, hm, hcl, hmt⟩ := C.d_Trial__bounded
  exact MtK.of FD hm hcl hmt (fun _ _ _ _ _ _ us hl => match us, hl with | [_, _], _ => rfl)
    (fn_ok (k := 1) (g := g_Trial__bounded) (N := N_Trial__bounded) FD sc_Trial__bounded fun cdv A outer s H E hr tk pp => by
    have hu := hu_of hr
    have hq := hq_of hr
    exact (ss_cons (ss_if (et_cmp snd_gt op_gt (nomark _) (EV.p (ev_callB snd_len cr_len C.b_len (EV.p (ev_var 1)))) (EV.p (ev_glb C.g_MOST_CONTENT))) (ss_cons (ss_fld C.f_Trial_end (ev_var 0) (ev_tup (ea_cons (ev_glb C.g_DONE) (ea_cons (ev_glb C.g_LONG) ea_nil))))
      (ss_one (ss_ret ev_non))) ss_nil)
      (ss_one (ss_ret (ev_var 1))))) rfl
theorem ok_Trial__one (C : Fx K w mg) : MtK K w mg P base 6 "Trial" "_one" 2 F_Trial__one := by
  obtain ⟨cl, f, fd, FD, hm, hcl, hmt⟩ := C.d_Trial__one
  exact MtK.of FD hm hcl hmt (fun _ _ _ _ _ _ us hl => match us, hl with | [_, _, _], _ => rfl)
    (fn_ok (k := 5) (g := g_Trial__one) (N := N_Trial__one) FD sc_Trial__one fun cdv A outer s H E hr tk pp => by
    have hu := hu_of hr
    have hq := hq_of hr
    exact (ss_cons (ss_set 3 sc_Trial__one.nd (ev_ix hu (EV.p (ev_var 1)) (EV.p ev_int)))
      (ss_cons (ss_if (et_cmp snd_eq (op_eqD hq) (nomark _) (EV.p (ev_var 3)) (EV.p (ev_str (z := "named")))) (ss_cons (ss_if (et_val (EF.v (ef_call ((ok_is_name C).mono (by omega)) tk hr (ea_cons (ev_var 2) ea_nil) (al_cons al_nil)))) (ss_one (ss_retF (ef_meth ((ok_Trial_ask C).mono (by omega)) tk hr (ev_var 0) (ea_cons (ev_var 2) ea_nil) (al_cons al_nil)))) ss_nil)
      (ss_cons (ss_fld C.f_Trial_end (ev_var 0) (ev_tup (ea_cons (ev_glb C.g_DONE) (ea_cons (ev_tup (ea_cons (ev_glb C.g_FAULT) (ea_cons (ev_str (z := "lacks")) (ea_cons (ev_var 2) ea_nil)))) ea_nil))))
      (ss_one (ss_ret ev_non)))) ss_nil)
      (ss_cons (ss_if (et_cmp snd_eq (op_eqD hq) (nomark _) (EV.p (ev_var 3)) (EV.p (ev_str (z := "head")))) (ss_one (ss_retF (ef_sl (EV.p (ev_var 2)) eo_none (eo_some (ev_ix hu (EV.p (ev_var 1)) (EV.p ev_int)))))) ss_nil)
      (ss_cons (ss_if (et_cmp snd_eq (op_eqD hq) (nomark _) (EV.p (ev_var 3)) (EV.p (ev_str (z := "back")))) (ss_one (ss_ret (ev_revS (EV.p (ev_var 2))))) ss_nil)
      (ss_cons (ss_if (et_cmp snd_eq (op_eqD hq) (nomark _) (EV.p (ev_var 3)) (EV.p (ev_str (z := "sort")))) (ss_one (ss_ret ev_never)) ss_nil)
      (ss_one (ss_ret (ev_join (EV.p (ev_str (z := ""))) (EF.p (ef_lc (own := [("sign", 4)]) sc_Trial__one.nd (ei_any (ev_var 2)) (blkOk_by (own := [("sign", 4)]) (N := N_Trial__one) (sc := Sc_Trial__one) (by decide +kernel)) (by decide) (fun _ _ _ _ _ => (gr_nam 4 sc_Trial__one.nd)) (fun _ _ _ _ _ => ets_nil) (fun _ _ _ _ _ => (ev_if (et_cmp snd_eq (op_eqD hq) (nomark _) (EV.p (ev_var 4)) (EV.p (ev_ix hu (EV.p (ev_var 1)) (EV.p ev_int)))) (ev_ix hu (EV.p (ev_var 1)) (EV.p ev_int)) (ev_var 4))))) (hstr := str_cst _)))))))))) rfl
theorem ok0_Trial__all (C : Fx K w mg) : MtK K w mg P base 7 "Trial" "_all" 1 (fnB 5 fun _ => sFail) := by
  obtain ⟨cl, f, fd, FD, hm, hcl, hmt⟩ := C.d_Trial__all
  exact MtK.of FD hm hcl hmt (fun _ _ _ _ _ _ us hl => match us, hl with | [_, _], _ => rfl)
    (fn_ok (k := 6) (g := fun _ => sFail) (N := N_Trial__all) FD sc_Trial__all fun cdv A outer s H E hr tk pp => by
    have hu := hu_of hr
    have hq := hq_of hr
    exact sss_never) rfl
theorem okS_Trial__all (C : Fx K w mg) (n : Nat) (ih : MtK K w mg P base (7 + n) "Trial" "_all" 1 (R_Trial__all n 0) ∧ MtK K w mg P base (7 + n) "Trial" "do" 1 (R_Trial__all n 1)) : MtK K w mg P base (7 + (n + 1)) "Trial" "_all" 1 (fnB 5 (h_Trial__all (R_Trial__all n))) := by
  obtain ⟨cl, f, fd, FD, hm, hcl, hmt⟩ := C.d_Trial__all
  exact MtK.of FD hm hcl hmt (fun _ _ _ _ _ _ us hl => match us, hl with | [_, _], _ => rfl)
    (fn_ok (k := 7 + n) (g := h_Trial__all (R_Trial__all n)) (N := N_Trial__all) FD sc_Trial__all fun cdv A outer s H E hr tk pp => by
    have hu := hu_of hr
    have hq := hq_of hr
    exact (ss_cons (ss_setF 2 sc_Trial__all.nd (ef_lst ea_nil))
      (ss_cons (ss_for pp (ei_any (ev_var 1)) (gr_nam 3 sc_Trial__all.nd) (ss_cons (ss_set 4 sc_Trial__all.nd (EF.v (ef_meth (ih.2) tk hr (ev_var 0) (ea_cons (ev_var 3) ea_nil) (al_cons al_nil))))
      (ss_cons (ss_if (et_isN (EV.p (ev_var 4))) (ss_one (ss_ret ev_non)) ss_nil)
      (ss_one (ss_app 2 (ev_var 4))))))
      (ss_one (ss_retV 2))))) rfl
theorem ok0_Trial_do (C : Fx K w mg) : MtK K w mg P base 7 "Trial" "do" 1 (fnB 5 fun _ => sFail) := by
  obtain ⟨cl, f, fd, FD, hm, hcl, hmt⟩ := C.d_Trial_do
  exact MtK.of FD hm hcl hmt (fun _ _ _ _ _ _ us hl => match us, hl with | [_, _], _ => rfl)
    (fn_ok (k := 6) (g := fun _ => sFail) (N := N_Trial_do) FD sc_Trial_do fun cdv A outer s H E hr tk pp => by
    have hu := hu_of hr
    have hq := hq_of hr
    exact sss_never) rfl
theorem okS_Trial_do (C : Fx K w mg) (n : Nat) (ih : MtK K w mg P base (7 + n) "Trial" "_all" 1 (R_Trial__all n 0) ∧ MtK K w mg P base (7 + n) "Trial" "do" 1 (R_Trial__all n 1)) : MtK K w mg P base (7 + (n + 1)) "Trial" "do" 1 (fnB 5 (h_Trial_do (R_Trial__all n))) := by
  obtain ⟨cl, f, fd, FD, hm, hcl, hmt⟩ := C.d_Trial_do
  exact MtK.of FD hm hcl hmt (fun _ _ _ _ _ _ us hl => match us, hl with | [_, _], _ => rfl)
    (fn_ok (k := 7 + n) (g := h_Trial_do (R_Trial__all n)) (N := N_Trial_do) FD sc_Trial_do fun cdv A outer s H E hr tk pp => by
    have hu := hu_of hr
    have hq := hq_of hr
    exact (ss_cons (ss_set 2 sc_Trial_do.nd (ev_ix hu (EV.p (ev_var 1)) (EV.p ev_int)))
      (ss_cons (ss_if (et_cmp snd_eq (op_eqD hq) (nomark _) (EV.p (ev_var 2)) (EV.p (ev_str (z := "text")))) (ss_one (ss_ret (ev_ix hu (EV.p (ev_var 1)) (EV.p ev_int)))) ss_nil)
      (ss_cons (ss_if (et_cmp snd_eq (op_eqD hq) (nomark _) (EV.p (ev_var 2)) (EV.p (ev_str (z := "need")))) (ss_one (ss_retF (ef_meth ((ok_Trial_ask C).mono (by omega)) tk hr (ev_var 0) (ea_cons (ev_ix hu (EV.p (ev_var 1)) (EV.p ev_int)) ea_nil) (al_cons al_nil)))) ss_nil)
      (ss_cons (ss_if (et_cmp snd_eq (op_eqD hq) (nomark _) (EV.p (ev_var 2)) (EV.p (ev_str (z := "same")))) (ss_cons (ss_set 3 sc_Trial_do.nd (EF.v (ef_meth (ih.1) tk hr (ev_var 0) (ea_cons (EF.v (ef_sl (EV.p (ev_var 1)) (eo_some ev_int) (eo_some ev_int))) ea_nil) (al_cons al_nil))))
      (ss_one (ss_ret (ev_if (et_isN (EV.p (ev_var 3))) ev_non (EF.v (ef_meth (ih.2) tk hr (ev_var 0) (ea_cons (ev_if (et_cmp snd_eq (op_eqD hq) (nomark _) (EV.p (ev_ix hu (EV.p (ev_var 3)) (EV.p ev_int))) (EV.p (ev_ix hu (EV.p (ev_var 3)) (EV.p ev_int)))) (ev_ix hu (EV.p (ev_var 1)) (EV.p ev_int)) (ev_ix hu (EV.p (ev_var 1)) (EV.p ev_int))) ea_nil) (al_cons al_nil))))))) ss_nil)
      (ss_cons (ss_set 4 sc_Trial_do.nd (EF.v (ef_meth (ih.1) tk hr (ev_var 0) (ea_cons (EF.v (ef_call ((ok_parts_of C).mono (by omega)) tk hr (ea_cons (ev_var 1) ea_nil) (al_cons al_nil))) ea_nil) (al_cons al_nil))))
      (ss_cons (ss_if (et_isN (EV.p (ev_var 4))) (ss_one (ss_ret ev_non)) ss_nil)
      (ss_cons (ss_if (et_cmp snd_eq (op_eqD hq) (nomark _) (EV.p (ev_var 2)) (EV.p (ev_str (z := "join")))) (ss_one (ss_retF (ef_meth ((ok_Trial__bounded C).mono (by omega)) tk hr (ev_var 0) (ea_cons (EF.v (ef_op snd_addF op_addF (EV.p (ev_ix hu (EV.p (ev_var 4)) (EV.p ev_int))) (EV.p (ev_ix hu (EV.p (ev_var 4)) (EV.p ev_int))))) ea_nil) (al_cons al_nil)))) ss_nil)
      (ss_one (ss_retF (ef_meth ((ok_Trial__one C).mono (by omega)) tk hr (ev_var 0) (ea_cons (ev_var 1) (ea_cons (ev_ix hu (EV.p (ev_var 4)) (EV.p ev_int)) ea_nil)) (al_cons (al_cons al_nil))))))))))))) rfl
theorem okA_Trial__all (C : Fx K w mg) : ∀ n : Nat, MtK K w mg P base (7 + n) "Trial" "_all" 1 (R_Trial__all n 0) ∧ MtK K w mg P base (7 + n) "Trial" "do" 1 (R_Trial__all n 1)
  | 0 => ⟨ok0_Trial__all C, ok0_Trial_do C⟩
  | n + 1 => ⟨okS_Trial__all C n (okA_Trial__all C n), okS_Trial_do C n (okA_Trial__all C n)⟩
theorem ok_Trial__all (C : Fx K w mg) : MtK K w mg P base 19 "Trial" "_all" 1 F_Trial__all := (okA_Trial__all C 12).1
theorem ok_Trial_do (C : Fx K w mg) : MtK K w mg P base 19 "Trial" "do" 1 F_Trial_do := (okA_Trial__all C 12).2
theorem okN_tried_by (C : Fx K w mg) : FnK K w mg P base 22 "tried_by" 2 F_tried_byN := by
  obtain ⟨f, fd, FD, hm⟩ := C.d_tried_by
  exact FnK.ofN FD hm rfl (fun _ _ _ _ _ _ _ us its hu hi => match us, hu, its, hi with | [_, _], _, [_], _ => ⟨_, rfl, rfl⟩)
    (fn_ok (k := 21) (g := g_tried_by) (N := N_tried_by) FD sc_tried_by fun cdv A outer s H E hr tk pp => by
    have hu := hu_of hr
    have hq := hq_of hr
    exact (ss_cons (ss_set 3 sc_tried_by.nd (EF.v (ef_make ((ok_Trial_init C).mono (by omega)) tk hr (ea_cons (ev_var 1) (ea_cons (ev_var 2) ea_nil)) (al_cons (al_cons al_nil)))))
      (ss_cons (ss_set 4 sc_tried_by.nd (EF.v (ef_meth ((ok_Trial_do C).mono (by omega)) tk hr (ev_var 3) (ea_cons (ev_var 0) ea_nil) (al_cons al_nil))))
      (ss_cons (ss_if (et_notN (EV.p (ev_var 4))) (ss_one (ss_ret (ev_tup (ea_cons (ev_glb C.g_DONE) (ea_cons (ev_tup (ea_cons (ev_glb C.g_MADE) (ea_cons (ev_var 4) ea_nil))) (ea_cons (ev_callT snd_tup call_tupF C.b_tuple (EV.p (ev_fld C.f_Trial_needs (ev_var 3)))) ea_nil)))))) ss_nil)
      (ss_one (ss_retF (ef_op snd_addF op_addF (EV.p (ev_fld C.f_Trial_end (ev_var 3))) (EV.p (ev_tup (ea_cons (ev_callT snd_tup call_tupF C.b_tuple (EV.p (ev_fld C.f_Trial_needs (ev_var 3)))) ea_nil))))))))))
theorem ok_tried (C : Fx K w mg) : FnK K w mg P base 24 "tried" 2 F_tried := by
  obtain ⟨f, fd, FD, hm⟩ := C.d_tried
  exact FnK.of FD hm (fun _ _ _ _ _ _ us hl => match us, hl with | [_, _], _ => rfl)
    (fn_ok (k := 23) (g := g_tried) (N := N_tried) FD sc_tried fun cdv A outer s H E hr tk pp => by
    have hu := hu_of hr
    have hq := hq_of hr
    exact (ss_cons (ss_if (et_not (et_val (EF.v (ef_call ((ok_is_deed C).mono (by omega)) tk hr (ea_cons (ev_var 0) ea_nil) (al_cons al_nil))))) (ss_one (ss_raise C.x_BadDeed tk)) ss_nil)
      (ss_one (ss_retF (ef_call ((okN_tried_by C).mono (by omega)) tk hr (ea_cons (ev_var 0) (ea_cons (ev_var 1) ea_nil)) (al_cons (al_cons al_nil)))))))
theorem ok0_words_in (C : Fx K w mg) : FnK K w mg P base 3 "words_in" 1 (fnB 3 fun _ => sFail) := by
  obtain ⟨f, fd, FD, hm⟩ := C.d_words_in
  exact FnK.of FD hm (fun _ _ _ _ _ _ us hl => match us, hl with | [_], _ => rfl)
    (fn_ok (k := 2) (g := fun _ => sFail) (N := N_words_in) FD sc_words_in fun cdv A outer s H E hr tk pp => by
    have hu := hu_of hr
    have hq := hq_of hr
    exact sss_never)
theorem okS_words_in (C : Fx K w mg) (n : Nat) (ih : One (FnK K w mg P base (3 + n) "words_in" 1 (R_words_in n 0))) : FnK K w mg P base (3 + (n + 1)) "words_in" 1 (fnB 3 (h_words_in (R_words_in n))) := by
  obtain ⟨f, fd, FD, hm⟩ := C.d_words_in
  exact FnK.of FD hm (fun _ _ _ _ _ _ us hl => match us, hl with | [_], _ => rfl)
    (fn_ok (k := 3 + n) (g := h_words_in (R_words_in n)) (N := N_words_in) FD sc_words_in fun cdv A outer s H E hr tk pp => by
    have hu := hu_of hr
    have hq := hq_of hr
    exact (ss_cons (ss_setF 1 sc_words_in.nd (ef_lst (ea_cons (ev_ix hu (EV.p (ev_var 0)) (EV.p ev_int)) ea_nil)))
      (ss_cons (ss_for pp (ei_any (EF.v (ef_call ((ok_parts_of C).mono (by omega)) tk hr (ea_cons (ev_var 0) ea_nil) (al_cons al_nil)))) (gr_nam 2 sc_words_in.nd) (ss_one (ss_ext 1 (EF.v (ef_call (ih.one) tk hr (ea_cons (ev_var 2) ea_nil) (al_cons al_nil))))))
      (ss_one (ss_retV 1)))))
theorem okA_words_in (C : Fx K w mg) : ∀ n : Nat, One (FnK K w mg P base (3 + n) "words_in" 1 (R_words_in n 0))
  | 0 => ⟨ok0_words_in C⟩
  | n + 1 => ⟨okS_words_in C n (okA_words_in C n)⟩
theorem ok_words_in (C : Fx K w mg) : FnK K w mg P base 15 "words_in" 1 F_words_in := (okA_words_in C 12).one
theorem ok0_names_in (C : Fx K w mg) : FnK K w mg P base 3 "names_in" 1 (fnB 3 fun _ => sFail) := by
  obtain ⟨f, fd, FD, hm⟩ := C.d_names_in
  exact FnK.of FD hm (fun _ _ _ _ _ _ us hl => match us, hl with | [_], _ => rfl)
    (fn_ok (k := 2) (g := fun _ => sFail) (N := N_names_in) FD sc_names_in fun cdv A outer s H E hr tk pp => by
    have hu := hu_of hr
    have hq := hq_of hr
    exact sss_never)
theorem okS_names_in (C : Fx K w mg) (n : Nat) (ih : One (FnK K w mg P base (3 + n) "names_in" 1 (R_names_in n 0))) : FnK K w mg P base (3 + (n + 1)) "names_in" 1 (fnB 3 (h_names_in (R_names_in n))) := by
  obtain ⟨f, fd, FD, hm⟩ := C.d_names_in
  exact FnK.of FD hm (fun _ _ _ _ _ _ us hl => match us, hl with | [_], _ => rfl)
    (fn_ok (k := 3 + n) (g := h_names_in (R_names_in n)) (N := N_names_in) FD sc_names_in fun cdv A outer s H E hr tk pp => by
    have hu := hu_of hr
    have hq := hq_of hr
    exact (ss_cons (ss_if (et_cmp snd_eq (op_eqD hq) (nomark _) (EV.p (ev_ix hu (EV.p (ev_var 0)) (EV.p ev_int))) (EV.p (ev_str (z := "need")))) (ss_one (ss_retF (ef_lst (ea_cons (ev_ix hu (EV.p (ev_var 0)) (EV.p ev_int)) ea_nil)))) ss_nil)
      (ss_one (ss_retF (ef_callB snd_sort (cr_sortA rfl) C.b_sorted (EF.p (ef_dc2 (Y1 := yR K w mg) (own := [("one", 1), ("name", 2)]) [2] sc_names_in.nd (ei_any (EF.v (ef_call ((ok_parts_of C).mono (by omega)) tk hr (ea_cons (ev_var 0) ea_nil) (al_cons al_nil)))) (blkOk_by (own := [("one", 1), ("name", 2)]) (N := N_names_in) (sc := Sc_names_in) (by decide +kernel)) (by decide) (by decide) (by decide) (fun _ _ _ _ _ => (gr_nam 1 sc_names_in.nd)) (fun _ _ _ _ _ => ets_nil) (fun _ _ _ _ _ => (ei_any (EF.v (ef_call (ih.one) takes00 hr (ea_cons (ev_var 1) ea_nil) (al_cons al_nil))))) (fun _ _ _ _ _ => (gr_nam 2 sc_names_in.nd)) (fun _ _ _ _ _ => ets_nil) (fun _ _ _ _ _ => (ev_var 2)) (fun _ _ _ _ _ => ev_bl))))))))
theorem okA_names_in (C : Fx K w mg) : ∀ n : Nat, One (FnK K w mg P base (3 + n) "names_in" 1 (R_names_in n 0))
  | 0 => ⟨ok0_names_in C⟩
  | n + 1 => ⟨okS_names_in C n (okA_names_in C n)⟩
theorem ok_names_in (C : Fx K w mg) : FnK K w mg P base 15 "names_in" 1 F_names_in := (okA_names_in C 12).one
theorem ok_word_fault (C : Fx K w mg) : FnK K w mg P base 18 "word_fault" 1 F_word_fault := by
  obtain ⟨f, fd, FD, hm⟩ := C.d_word_fault
  exact FnK.of FD hm (fun _ _ _ _ _ _ us hl => match us, hl with | [_], _ => rfl)
    (fn_ok (k := 17) (g := g_word_fault) (N := N_word_fault) FD sc_word_fault fun cdv A outer s H E hr tk pp => by
    have hu := hu_of hr
    have hq := hq_of hr
    exact (ss_cons (ss_setLcV (i := 1) (own := [("word", 2)]) sc_word_fault.nd (ei_any (EF.v (ef_call ((ok_words_in C).mono (by omega)) tk hr (ea_cons (ev_var 0) ea_nil) (al_cons al_nil)))) (blkOk_by (own := [("word", 2)]) (N := N_word_fault) (sc := Sc_word_fault) (by decide +kernel)) (by decide) (fun _ _ _ _ _ => (gr_nam 2 sc_word_fault.nd)) (fun _ _ _ _ _ => (ets_one (et_cmp snd_notIn (op_notInAll hu) rfl (EV.p (ev_var 2)) (EV.p (ev_glb C.g_WORDS))))) (fun _ _ _ _ _ => (ev_var 2)))
      (ss_one (ss_ret (ev_if (et_cmp snd_gt op_gt (nomark _) (EV.p (ev_callB snd_len cr_len C.b_len (EV.p (ev_var 1)))) (EV.p ev_int)) (ev_tup (ea_cons (ev_str (z := "word")) (ea_cons (ev_ix hu (EV.p (ev_var 1)) (EV.p ev_int)) ea_nil))) ev_non)))))
theorem ok_plain_fault (C : Fx K w mg) : FnK K w mg P base 22 "plain_fault" 1 F_plain_fault := by
  obtain ⟨f, fd, FD, hm⟩ := C.d_plain_fault
  exact FnK.of FD hm (fun _ _ _ _ _ _ us hl => match us, hl with | [_], _ => rfl)
    (fn_ok (k := 21) (g := g_plain_fault) (N := N_plain_fault) FD sc_plain_fault fun cdv A outer s H E hr tk pp => by
    have hu := hu_of hr
    have hq := hq_of hr
    exact (ss_cons (ss_if (et_not (et_val (EF.v (ef_call ((ok_is_deed C).mono (by omega)) tk hr (ea_cons (ev_var 0) ea_nil) (al_cons al_nil))))) (ss_one (ss_ret (ev_glb C.g_NO_DEED))) ss_nil)
      (ss_cons (ss_set 1 sc_plain_fault.nd (EF.v (ef_call ((ok_word_fault C).mono (by omega)) tk hr (ea_cons (ev_var 0) ea_nil) (al_cons al_nil))))
      (ss_cons (ss_if (et_notN (EV.p (ev_var 1))) (ss_one (ss_ret (ev_var 1))) ss_nil)
      (ss_one (ss_ret (ev_if (et_cmp snd_gt op_gt (nomark _) (EV.p (ev_callB snd_len cr_len C.b_len (EF.p (ef_call ((ok_names_in C).mono (by omega)) tk hr (ea_cons (ev_var 0) ea_nil) (al_cons al_nil))))) (EV.p (ev_glb C.g_MOST_NAMES))) (ev_glb C.g_MANY) ev_non)))))))
theorem ok_check_plain (C : Fx K w mg) : FnK K w mg P base 24 "check_plain" 1 F_check_plain := by
  obtain ⟨f, fd, FD, hm⟩ := C.d_check_plain
  exact FnK.of FD hm (fun _ _ _ _ _ _ us hl => match us, hl with | [_], _ => rfl)
    (fn_ok (k := 23) (g := g_check_plain) (N := N_check_plain) FD sc_check_plain fun cdv A outer s H E hr tk pp => by
    have hu := hu_of hr
    have hq := hq_of hr
    exact (ss_one (ss_if (et_notN (EF.p (ef_call ((ok_plain_fault C).mono (by omega)) tk hr (ea_cons (ev_var 0) ea_nil) (al_cons al_nil)))) (ss_one (ss_raise C.x_BadDeed tk)) ss_nil)))
theorem ok_are_lengths (C : Fx K w mg) : FnK K w mg P base 6 "are_lengths" 2 F_are_lengths := by
  obtain ⟨f, fd, FD, hm⟩ := C.d_are_lengths
  exact FnK.of FD hm (fun _ _ _ _ _ _ us hl => match us, hl with | [_, _], _ => rfl)
    (fn_ok (k := 5) (g := g_are_lengths) (N := N_are_lengths) FD sc_are_lengths fun cdv A outer s H E hr tk pp => by
    have hu := hu_of hr
    have hq := hq_of hr
    exact (ss_cons (ss_if (et_w (ew_or (et_not (et_val (ev_isi (T := "tuple") (by decide) C.b_isinstance C.b_tuple (EV.p (ev_var 1))))) (ew_or1 (et_not (et_val (ev_callB snd_all (cr_all rfl) C.b_all (EF.p (ef_lc (own := [("one", 2)]) sc_are_lengths.nd (ei_any (ev_var 1)) (blkOk_by (own := [("one", 2)]) (N := N_are_lengths) (sc := Sc_are_lengths) (by decide +kernel)) (by decide) (fun _ _ _ _ _ => (gr_nam 2 sc_are_lengths.nd)) (fun _ _ _ _ _ => ets_nil) (fun _ _ _ _ _ => (ev_and (ev_isi (T := "tuple") (by decide) C.b_isinstance C.b_tuple (EV.p (ev_var 2))) (ev_one (ev_cmp snd_eq (op_eqD hq) (nomark _) (EV.p (ev_callB snd_len cr_len C.b_len (EV.p (ev_var 2)))) (EV.p ev_int))))))))))))) (ss_one (ss_ret ev_bl)) ss_nil)
      (ss_cons (ss_if (et_not (et_val (ev_callB snd_all (cr_all rfl) C.b_all (EF.p (ef_lc (own := [("name", 3), ("length", 4)]) sc_are_lengths.nd (ei_any (ev_var 1)) (blkOk_by (own := [("name", 3), ("length", 4)]) (N := N_are_lengths) (sc := Sc_are_lengths) (by decide +kernel)) (by decide) (fun _ _ _ _ _ => (GP.r (gp_tup rfl (grs_cons (gr_nam 3 sc_are_lengths.nd) (grs_cons (gr_nam 4 sc_are_lengths.nd) grs_nil)) (gcons_len (gcons_len gnil_len))))) (fun _ _ _ _ _ => ets_nil) (fun _ _ _ _ _ => (ev_and (EF.v (ef_call ((ok_is_name C).mono (by omega)) takes00 hr (ea_cons (ev_var 3) ea_nil) (al_cons al_nil))) (ev_one (EF.v (ef_call ((ok_is_whole C).mono (by omega)) takes00 hr (ea_cons (ev_var 4) (ea_cons ev_int (ea_cons (ev_glb C.g_MOST_CONTENT) ea_nil))) (al_cons (al_cons (al_cons al_nil))))))))))))) (ss_one (ss_ret ev_bl)) ss_nil)
      (ss_one (ss_ret (ev_and (EF.v (ef_call ((ok_ascends C).mono (by omega)) tk hr (ea_cons (EF.v (ef_lc (own := [("name", 3), ("_length", 5)]) sc_are_lengths.nd (ei_any (ev_var 1)) (blkOk_by (own := [("name", 3), ("_length", 5)]) (N := N_are_lengths) (sc := Sc_are_lengths) (by decide +kernel)) (by decide) (fun _ _ _ _ _ => (GP.r (gp_tup rfl (grs_cons (gr_nam 3 sc_are_lengths.nd) (grs_cons (gr_nam 5 sc_are_lengths.nd) grs_nil)) (gcons_len (gcons_len gnil_len))))) (fun _ _ _ _ _ => ets_nil) (fun _ _ _ _ _ => (ev_var 3)))) ea_nil) (al_cons al_nil))) (ev_one (ev_cmp snd_eq (op_eqD hq) (nomark _) (EF.p (ef_lc (own := [("name", 3), ("_length", 5)]) sc_are_lengths.nd (ei_any (ev_var 1)) (blkOk_by (own := [("name", 3), ("_length", 5)]) (N := N_are_lengths) (sc := Sc_are_lengths) (by decide +kernel)) (by decide) (fun _ _ _ _ _ => (GP.r (gp_tup rfl (grs_cons (gr_nam 3 sc_are_lengths.nd) (grs_cons (gr_nam 5 sc_are_lengths.nd) grs_nil)) (gcons_len (gcons_len gnil_len))))) (fun _ _ _ _ _ => ets_nil) (fun _ _ _ _ _ => (ev_var 3)))) (EF.p (ef_callT snd_list (cr_list rfl) C.b_list (EV.p (ev_var 0))))))))))))
theorem ok_swapped (C : Fx K w mg) : FnK K w mg P base 2 "swapped" 3 F_swapped := by
  obtain ⟨f, fd, FD, hm⟩ := C.d_swapped
  exact FnK.of FD hm (fun _ _ _ _ _ _ us hl => match us, hl with | [_, _, _], _ => rfl)
    (fn_ok (k := 1) (g := g_swapped) (N := N_swapped) FD sc_swapped fun cdv A outer s H E hr tk pp => by
    have hu := hu_of hr
    have hq := hq_of hr
    exact (ss_cons (ss_if (et_cmp snd_eq (op_eqD hq) (nomark _) (EV.p (ev_ix hu (EV.p (ev_var 0)) (EV.p ev_int))) (EV.p (ev_glb C.g_IS))) (ss_one (ss_ret (ev_if (et_cmp snd_eq (op_eqD hq) (nomark _) (EV.p (ev_ix hu (EV.p (ev_var 0)) (EV.p ev_int))) (EV.p (ev_var 1))) (ev_tup (ea_cons (ev_glb C.g_IS) (ea_cons (ev_var 2) ea_nil))) (ev_var 0)))) ss_nil)
      (ss_cons (ss_set 3 sc_swapped.nd (ev_join (EV.p (ev_str (z := ""))) (EF.p (ef_lc (own := [("sign", 4)]) sc_swapped.nd (ei_any (ev_ix hu (EV.p (ev_var 0)) (EV.p ev_int))) (blkOk_by (own := [("sign", 4)]) (N := N_swapped) (sc := Sc_swapped) (by decide +kernel)) (by decide) (fun _ _ _ _ _ => (gr_nam 4 sc_swapped.nd)) (fun _ _ _ _ _ => ets_nil) (fun _ _ _ _ _ => (ev_if (et_cmp snd_eq (op_eqD hq) (nomark _) (EV.p (ev_var 4)) (EV.p (ev_var 1))) (ev_var 2) (ev_var 4))))) (hstr := str_cst _)))
      (ss_one (ss_ret (ev_if (et_cmp snd_eq (op_eqD hq) (nomark _) (EV.p (ev_var 3)) (EF.p (ef_op snd_mulF op_mulF (EV.p (ev_ix hu (EV.p (ev_var 3)) (EV.p ev_int))) (EV.p (ev_callB snd_len cr_len C.b_len (EV.p (ev_var 3))))))) (ev_tup (ea_cons (ev_glb C.g_IS) (ea_cons (ev_ix hu (EV.p (ev_var 3)) (EV.p ev_int)) ea_nil))) (ev_tup (ea_cons (ev_glb C.g_AT) (ea_cons (ev_ix hu (EV.p (ev_var 0)) (EV.p ev_int)) (ea_cons (ev_ix hu (EV.p (ev_var 0)) (EV.p ev_int)) (ea_cons (ev_var 3) ea_nil)))))))))))
theorem ok_fresh_cells (C : Fx K w mg) : FnK K w mg P base 2 "fresh_cells" 2 F_fresh_cells := by
  obtain ⟨f, fd, FD, hm⟩ := C.d_fresh_cells
  exact FnK.of FD hm (fun _ _ _ _ _ _ us hl => match us, hl with | [_, _], _ => rfl)
    (fn_ok (k := 1) (g := g_fresh_cells) (N := N_fresh_cells) FD sc_fresh_cells fun cdv A outer s H E hr tk pp => by
    have hu := hu_of hr
    have hq := hq_of hr
    exact (ss_one (ss_retF (ef_lc (own := [("index", 2)]) sc_fresh_cells.nd (ei_range C.b_range (ev_var 1)) (blkOk_by (own := [("index", 2)]) (N := N_fresh_cells) (sc := Sc_fresh_cells) (by decide +kernel)) (by decide) (fun _ _ _ _ _ => (gr_nam 2 sc_fresh_cells.nd)) (fun _ _ _ _ _ => ets_nil) (fun _ _ _ _ _ => (ev_tup (ea_cons (ev_glb C.g_AT) (ea_cons (ev_var 0) (ea_cons (ev_var 2) (ea_cons (ev_glb C.g_LETTERS) ea_nil))))))))))
theorem ok_Lengths_known (C : Fx K w mg) : MtK K w mg P base 4 "Lengths" "known" 1 F_Lengths_known := by
  obtain ⟨cl, f, fd, FD, hm, hcl, hmt⟩ := C.d_Lengths_known
  exact MtK.of FD hm hcl hmt (fun _ _ _ _ _ _ us hl => match us, hl with | [_, _], _ => rfl)
    (fn_ok (k := 3) (g := g_Lengths_known) (N := N_Lengths_known) FD sc_Lengths_known fun cdv A outer s H E hr tk pp => by
    have hu := hu_of hr
    have hq := hq_of hr
    exact (ss_one (ss_retF (ef_call ((ok_fresh_cells C).mono (by omega)) tk hr (ea_cons (ev_var 1) (ea_cons (ev_ix hu (EV.p (ev_fld C.f_Lengths_lengths (ev_var 0))) (EV.p (ev_var 1))) ea_nil)) (al_cons (al_cons al_nil)))))) rfl
theorem ok0_cells_by (C : Fx K w mg) : FnK K w mg P base 5 "cells_by" 2 (fnB 7 fun _ => sFail) := by
  obtain ⟨f, fd, FD, hm⟩ := C.d_cells_by
  exact FnK.of FD hm (fun _ _ _ _ _ _ us hl => match us, hl with | [_, _], _ => rfl)
    (fn_ok (k := 4) (g := fun _ => sFail) (N := N_cells_by) FD sc_cells_by fun cdv A outer s H E hr tk pp => by
    have hu := hu_of hr
    have hq := hq_of hr
    exact sss_never)
theorem okS_cells_by (C : Fx K w mg) (n : Nat) (ih : One (FnK K w mg P base (5 + n) "cells_by" 2 (R_cells_by n 0))) : FnK K w mg P base (5 + (n + 1)) "cells_by" 2 (fnB 7 (h_cells_by (R_cells_by n))) := by
  obtain ⟨f, fd, FD, hm⟩ := C.d_cells_by
  exact FnK.of FD hm (fun _ _ _ _ _ _ us hl => match us, hl with | [_, _], _ => rfl)
    (fn_ok (k := 5 + n) (g := h_cells_by (R_cells_by n)) (N := N_cells_by) FD sc_cells_by fun cdv A outer s H E hr tk pp => by
    have hu := hu_of hr
    have hq := hq_of hr
    exact (ss_cons (ss_set 2 sc_cells_by.nd (ev_ix hu (EV.p (ev_var 0)) (EV.p ev_int)))
      (ss_cons (ss_if (et_cmp snd_eq (op_eqD hq) (nomark _) (EV.p (ev_var 2)) (EV.p (ev_str (z := "text")))) (ss_one (ss_retF (ef_lc (own := [("letter", 4)]) sc_cells_by.nd (ei_any (ev_ix hu (EV.p (ev_var 0)) (EV.p ev_int))) (blkOk_by (own := [("letter", 4)]) (N := N_cells_by) (sc := Sc_cells_by) (by decide +kernel)) (by decide) (fun _ _ _ _ _ => (gr_nam 4 sc_cells_by.nd)) (fun _ _ _ _ _ => ets_nil) (fun _ _ _ _ _ => (ev_tup (ea_cons (ev_glb C.g_IS) (ea_cons (ev_var 4) ea_nil))))))) ss_nil)
      (ss_cons (ss_if (et_cmp snd_eq (op_eqD hq) (nomark _) (EV.p (ev_var 2)) (EV.p (ev_str (z := "need")))) (ss_one (ss_retF (ef_cbm (c := "Lengths") (m := "known") 1 ((ok_Lengths_known C).mono (by omega)) tk hr (ea_cons (ev_ix hu (EV.p (ev_var 0)) (EV.p ev_int)) ea_nil) (al_cons al_nil)))) ss_nil)
      (ss_cons (ss_setLcV (i := 3) (own := [("one", 5)]) sc_cells_by.nd (ei_any (EF.v (ef_call ((ok_parts_of C).mono (by omega)) tk hr (ea_cons (ev_var 0) ea_nil) (al_cons al_nil)))) (blkOk_by (own := [("one", 5)]) (N := N_cells_by) (sc := Sc_cells_by) (by decide +kernel)) (by decide) (fun _ _ _ _ _ => (gr_nam 5 sc_cells_by.nd)) (fun _ _ _ _ _ => ets_nil) (fun _ _ _ _ _ => (EF.v (ef_call (ih.one) takes00 hr (ea_cons (ev_var 5) (ea_cons (ev_var 1) ea_nil)) (al_cons (al_cons al_nil))))))
      (ss_cons (ss_if (et_cmp snd_in (op_inAll hu) rfl (EV.p ev_non) (EV.p (ev_var 3))) (ss_one (ss_ret ev_non)) ss_nil)
      (ss_cons (ss_if (et_cmp snd_eq (op_eqD hq) (nomark _) (EV.p (ev_var 2)) (EV.p (ev_str (z := "join")))) (ss_one (ss_ret (ev_if (et_cmp snd_gt op_gt (nomark _) (EF.p (ef_op snd_addF op_addF (EV.p (ev_callB snd_len cr_len C.b_len (EV.p (ev_ix hu (EV.p (ev_var 3)) (EV.p ev_int))))) (EV.p (ev_callB snd_len cr_len C.b_len (EV.p (ev_ix hu (EV.p (ev_var 3)) (EV.p ev_int))))))) (EV.p (ev_glb C.g_MOST_CONTENT))) ev_non (EF.v (ef_op snd_addF op_addF (EV.p (ev_ix hu (EV.p (ev_var 3)) (EV.p ev_int))) (EV.p (ev_ix hu (EV.p (ev_var 3)) (EV.p ev_int)))))))) ss_nil)
      (ss_cons (ss_if (et_cmp snd_eq (op_eqD hq) (nomark _) (EV.p (ev_var 2)) (EV.p (ev_str (z := "head")))) (ss_one (ss_retF (ef_sl (EV.p (ev_ix hu (EV.p (ev_var 3)) (EV.p ev_int))) eo_none (eo_some (ev_ix hu (EV.p (ev_var 0)) (EV.p ev_int)))))) ss_nil)
      (ss_cons (ss_if (et_cmp snd_eq (op_eqD hq) (nomark _) (EV.p (ev_var 2)) (EV.p (ev_str (z := "back")))) (ss_one (ss_retF (ef_revL (EV.p (ev_ix hu (EV.p (ev_var 3)) (EV.p ev_int)))))) ss_nil)
      (ss_one (ss_retF (ef_lc (own := [("cell", 6)]) sc_cells_by.nd (ei_any (ev_ix hu (EV.p (ev_var 3)) (EV.p ev_int))) (blkOk_by (own := [("cell", 6)]) (N := N_cells_by) (sc := Sc_cells_by) (by decide +kernel)) (by decide) (fun _ _ _ _ _ => (gr_nam 6 sc_cells_by.nd)) (fun _ _ _ _ _ => ets_nil) (fun _ _ _ _ _ => (EF.v (ef_call ((ok_swapped C).mono (by omega)) takes00 hr (ea_cons (ev_var 6) (ea_cons (ev_ix hu (EV.p (ev_var 0)) (EV.p ev_int)) (ea_cons (ev_ix hu (EV.p (ev_var 0)) (EV.p ev_int)) ea_nil))) (al_cons (al_cons (al_cons al_nil))))))))))))))))))
theorem okA_cells_by (C : Fx K w mg) : ∀ n : Nat, One (FnK K w mg P base (5 + n) "cells_by" 2 (R_cells_by n 0))
  | 0 => ⟨ok0_cells_by C⟩
  | n + 1 => ⟨okS_cells_by C n (okA_cells_by C n)⟩
theorem ok_cells_by (C : Fx K w mg) : FnK K w mg P base 17 "cells_by" 2 F_cells_by := (okA_cells_by C 12).one
theorem ok_Lengths_init (C : Fx K w mg) : MkK K w mg P base 2 "Lengths" 1 F_Lengths_init := by
  obtain ⟨cl, f, fd, FD, hm, hmk⟩ := C.d_Lengths_init
  exact MkK.of FD hm hmk (fun _ _ _ _ _ _ us hl => match us, hl with | [_, _], _ => rfl)
    (fn_ok (k := 1) (g := g_Lengths_init) (N := N_Lengths_init) FD sc_Lengths_init fun cdv A outer s H E hr tk pp => by
    have hu := hu_of hr
    have hq := hq_of hr
    exact (ss_one (ss_fld C.f_Lengths_lengths (ev_var 0) (EF.v (ef_callT snd_dict (cr_dict rfl) C.b_dict (EV.p (ev_var 1))))))) rfl
theorem ok_told (C : Fx K w mg) : FnK K w mg P base 2 "told" 1 F_told := by
  obtain ⟨f, fd, FD, hm⟩ := C.d_told
  exact FnK.of FD hm (fun _ _ _ _ _ _ us hl => match us, hl with | [_], _ => rfl)
    (fn_ok (k := 1) (g := g_told) (N := N_told) FD sc_told fun cdv A outer s H E hr tk pp => by
    have hu := hu_of hr
    have hq := hq_of hr
    exact (ss_one (ss_ret (ev_if (et_isN (EV.p (ev_var 0))) (ev_glb C.g_LONG) (ev_tup (ea_cons (ev_glb C.g_MADE) (ea_cons (ev_callT snd_tup call_tupF C.b_tuple (EV.p (ev_var 0))) ea_nil)))))))
theorem ok_cells_of (C : Fx K w mg) : FnK K w mg P base 26 "cells_of" 2 F_cells_of := by
  obtain ⟨f, fd, FD, hm⟩ := C.d_cells_of
  exact FnK.of FD hm (fun _ _ _ _ _ _ us hl => match us, hl with | [_, _], _ => rfl)
    (fn_ok (k := 25) (g := g_cells_of) (N := N_cells_of) FD sc_cells_of fun cdv A outer s H E hr tk pp => by
    have hu := hu_of hr
    have hq := hq_of hr
    exact (ss_cons (ss_drop (EF.v (ef_call ((ok_check_plain C).mono (by omega)) tk hr (ea_cons (ev_var 0) ea_nil) (al_cons al_nil))))
      (ss_cons (ss_if (et_not (et_val (EF.v (ef_call ((ok_are_lengths C).mono (by omega)) tk hr (ea_cons (EF.v (ef_call ((ok_names_in C).mono (by omega)) tk hr (ea_cons (ev_var 0) ea_nil) (al_cons al_nil))) (ea_cons (ev_var 1) ea_nil)) (al_cons (al_cons al_nil)))))) (ss_one (ss_raise C.x_BadLengths tk)) ss_nil)
      (ss_one (ss_retF (ef_call ((ok_told C).mono (by omega)) tk hr (ea_cons (EF.v (ef_call ((ok_cells_by C).mono (by omega)) tk hr (ea_cons (ev_var 0) (ea_cons (ev_bm C.bm_Lengths_known (EF.v (ef_make ((ok_Lengths_init C).mono (by omega)) tk hr (ea_cons (ev_var 1) ea_nil) (al_cons al_nil)))) ea_nil)) (al_cons (al_cons al_nil)))) ea_nil) (al_cons al_nil)))))))
theorem ok__law_draws (C : Fx K w mg) : FnK K w mg P base 2 "_law_draws" 2 F__law_draws := by
  obtain ⟨f, fd, FD, hm⟩ := C.d__law_draws
  exact FnK.of FD hm (fun _ _ _ _ _ _ us hl => match us, hl with | [_, _], _ => rfl)
    (fn_ok (k := 1) (g := g__law_draws) (N := N__law_draws) FD sc__law_draws fun cdv A outer s H E hr tk pp => by
    have hu := hu_of hr
    have hq := hq_of hr
    exact (ss_cons (ss_setF 2 sc__law_draws.nd (ef_lst ea_nil))
      (ss_cons (ss_set 3 sc__law_draws.nd ev_int)
      (ss_cons (ss_for pp (ei_any (EF.v (ef_sl (EV.p (ev_var 0)) eo_none (eo_some ev_int)))) (gr_nam 4 sc__law_draws.nd) (ss_cons (ss_set 5 sc__law_draws.nd (ev_callB snd_abs call_abs C.b_abs (EV.p (ev_var 4))))
      (ss_cons (ss_set 3 sc__law_draws.nd (ev_op snd_mod op_mod (EV.p (ev_callT snd_int call_int1 C.b_int (EF.p (ef_op snd_addF op_addF (EF.p (ef_op snd_addF op_addF (EF.p (ef_op snd_mulF op_mulF (EV.p (ev_var 3)) (EV.p ev_int))) (EV.p (ev_var 5)))) (EV.p ev_int))))) (EV.p ev_int)))
      (ss_one (ss_if (et_cmp snd_ge op_ge (nomark _) (EV.p (ev_var 5)) (EV.p (ev_op snd_pow op_pow (EV.p ev_int) (EV.p ev_int)))) (ss_one (ss_for pp (ei_range C.b_range ev_int) (gr_nam 6 sc__law_draws.nd) (ss_one (ss_if (et_cmp snd_gt op_gt (nomark _) (EV.p (ev_var 5)) (EV.p ev_int)) (ss_cons (ss_app 2 (ev_op snd_mod op_mod (EV.p (ev_callT snd_int call_int1 C.b_int (EV.p (ev_var 5)))) (EV.p ev_int)))
      (ss_one (ss_set 5 sc__law_draws.nd (ev_op snd_fdiv op_fdiv (EV.p (ev_var 5)) (EV.p ev_int))))) ss_nil)))) (ss_one (ss_app 2 (ev_op snd_mod op_mod (EV.p (ev_op snd_fdiv op_fdiv (EV.p (ev_callT snd_int call_int1 C.b_int (EF.p (ef_op snd_addF op_addF (EF.p (ef_op snd_mulF op_mulF (EV.p (ev_var 3)) (EV.p ev_int))) (EV.p ev_int))))) (EV.p ev_int))) (EV.p ev_int)))))))))
      (ss_cons (ss_for pp (ei_range C.b_range (ev_var 1)) (gr_nam 6 sc__law_draws.nd) (ss_one (ss_if (et_cmp snd_lt op_ltB (nomark _) (EV.p (ev_callB snd_len cr_len C.b_len (ep_var 2))) (EV.p (ev_var 1))) (ss_cons (ss_set 3 sc__law_draws.nd (ev_op snd_mod op_mod (EV.p (ev_callT snd_int call_int1 C.b_int (EF.p (ef_op snd_addF op_addF (EF.p (ef_op snd_addF op_addF (EF.p (ef_op snd_mulF op_mulF (EV.p (ev_var 3)) (EV.p ev_int))) (EV.p (ev_var 6)))) (EV.p ev_int))))) (EV.p ev_int)))
      (ss_one (ss_app 2 (ev_op snd_mod op_mod (EV.p (ev_op snd_fdiv op_fdiv (EV.p (ev_callT snd_int call_int1 C.b_int (EV.p (ev_var 3)))) (EV.p ev_int))) (EV.p ev_int))))) ss_nil)))
      (ss_frz 2 (ss_one (ss_retF (ef_sl (EV.p (ev_var 2)) eo_none (eo_some (ev_var 1)))))))))))
theorem ok0__law_deed (C : Fx K w mg) : FnK K w mg P base 1 "_law_deed" 3 (fnB 6 fun _ => sFail) := by
  obtain ⟨f, fd, FD, hm⟩ := C.d__law_deed
  exact FnK.of FD hm (fun _ _ _ _ _ _ us hl => match us, hl with | [_, _, _], _ => rfl)
    (fn_ok (k := 0) (g := fun _ => sFail) (N := N__law_deed) FD sc__law_deed fun cdv A outer s H E hr tk pp => by
    have hu := hu_of hr
    have hq := hq_of hr
    exact sss_never)
theorem okS__law_deed (C : Fx K w mg) (n : Nat) (ih : One (FnK K w mg P base (1 + n) "_law_deed" 3 (R__law_deed n 0))) : FnK K w mg P base (1 + (n + 1)) "_law_deed" 3 (fnB 6 (h__law_deed (R__law_deed n))) := by
  obtain ⟨f, fd, FD, hm⟩ := C.d__law_deed
  exact FnK.of FD hm (fun _ _ _ _ _ _ us hl => match us, hl with | [_, _, _], _ => rfl)
    (fn_ok (k := 1 + n) (g := h__law_deed (R__law_deed n)) (N := N__law_deed) FD sc__law_deed fun cdv A outer s H E hr tk pp => by
    have hu := hu_of hr
    have hq := hq_of hr
    exact (ss_cons (ss_par 3 4 sc__law_deed.nd (by decide) (ea_cons (ev_op snd_mod op_mod (EV.p (ev_callT snd_int call_int1 C.b_int (EV.p (ev_ix hu (EV.p (ev_var 0)) (EV.p ev_int))))) (EV.p ev_int)) (ea_cons (ev_callT snd_int call_int1 C.b_int (EV.p (ev_ix hu (EV.p (ev_var 0)) (EV.p ev_int)))) ea_nil)))
      (ss_cons (ss_if (et_w (ew_or (et_cmp snd_eq (op_eqD hq) (nomark _) (EV.p (ev_var 2)) (EV.p ev_int)) (ew_or1 (et_cmp snd_lt op_ltB (nomark _) (EV.p (ev_var 3)) (EV.p ev_int))))) (ss_one (ss_ret (ev_if (et_cmp snd_eq (op_eqD hq) (nomark _) (EV.p (ev_op snd_mod op_mod (EV.p (ev_var 4)) (EV.p ev_int))) (EV.p ev_int)) (ev_tup (ea_cons (ev_str (z := "text")) (ea_cons (ev_ix hu (EF.p (ef_lst (ea_cons (ev_str (z := "")) (ea_cons (ev_str (z := "a")) (ea_cons (ev_str (z := "ab")) (ea_cons (ev_str (z := "zza")) (ea_cons (ev_str (z := "m")) ea_nil))))))) (EV.p (ev_op snd_mod op_mod (EV.p (ev_var 4)) (EV.p ev_int)))) ea_nil))) (ev_tup (ea_cons (ev_str (z := "need")) (ea_cons (ev_ix hu (EV.p (ev_var 1)) (EV.p (ev_op snd_mod op_mod (EV.p (ev_var 4)) (EV.p (ev_callB snd_len cr_len C.b_len (EV.p (ev_var 1))))))) ea_nil)))))) ss_nil)
      (ss_cons (ss_set 5 sc__law_deed.nd (EF.v (ef_call (ih.one) tk hr (ea_cons (EF.v (ef_sl (EV.p (ev_var 0)) (eo_some ev_int) eo_none)) (ea_cons (ev_var 1) (ea_cons (ev_op snd_sub op_subI (EV.p (ev_var 2)) (EV.p ev_int)) ea_nil))) (al_cons (al_cons (al_cons al_nil))))))
      (ss_cons (ss_if (et_cmp snd_lt op_ltB (nomark _) (EV.p (ev_var 3)) (EV.p ev_int)) (ss_one (ss_ret (ev_tup (ea_cons (ev_str (z := "join")) (ea_cons (ev_var 5) (ea_cons (EF.v (ef_call (ih.one) tk hr (ea_cons (EF.v (ef_sl (EV.p (ev_var 0)) (eo_some ev_int) eo_none)) (ea_cons (ev_var 1) (ea_cons (ev_op snd_sub op_subI (EV.p (ev_var 2)) (EV.p ev_int)) ea_nil))) (al_cons (al_cons (al_cons al_nil))))) ea_nil)))))) ss_nil)
      (ss_cons (ss_if (et_cmp snd_eq (op_eqD hq) (nomark _) (EV.p (ev_var 3)) (EV.p ev_int)) (ss_one (ss_ret (ev_tup (ea_cons (ev_str (z := "head")) (ea_cons (EF.v (ef_op snd_addF op_addF (EV.p (ev_op snd_mod op_mod (EV.p (ev_var 4)) (EV.p ev_int))) (EF.p (ef_op snd_mulF op_mulF (EV.p ev_int) (EV.p (ev_op snd_fdiv op_fdiv (EV.p (ev_op snd_mod op_mod (EV.p (ev_var 4)) (EV.p ev_int))) (EV.p ev_int))))))) (ea_cons (ev_var 5) ea_nil)))))) ss_nil)
      (ss_one (ss_ret (ev_if (et_cmp snd_eq (op_eqD hq) (nomark _) (EV.p (ev_var 3)) (EV.p ev_int)) (ev_tup (ea_cons (ev_str (z := "back")) (ea_cons (ev_var 5) ea_nil))) (ev_tup (ea_cons (ev_str (z := "swap")) (ea_cons (ev_ix hu (EV.p (ev_str (z := "abcm"))) (EV.p (ev_op snd_mod op_mod (EV.p (ev_var 4)) (EV.p ev_int)))) (ea_cons (ev_ix hu (EV.p (ev_str (z := "bazm"))) (EV.p (ev_op snd_mod op_mod (EV.p (ev_op snd_fdiv op_fdiv (EV.p (ev_var 4)) (EV.p ev_int))) (EV.p ev_int)))) (ea_cons (ev_var 5) ea_nil))))))))))))))
theorem okA__law_deed (C : Fx K w mg) : ∀ n : Nat, One (FnK K w mg P base (1 + n) "_law_deed" 3 (R__law_deed n 0))
  | 0 => ⟨ok0__law_deed C⟩
  | n + 1 => ⟨okS__law_deed C n (okA__law_deed C n)⟩
theorem ok__law_deed (C : Fx K w mg) : FnK K w mg P base 13 "_law_deed" 3 F__law_deed := (okA__law_deed C 12).one
theorem ok0__law_needs (C : Fx K w mg) : FnK K w mg P base 1 "_law_needs" 1 (fnB 1 fun _ => sFail) := by
  obtain ⟨f, fd, FD, hm⟩ := C.d__law_needs
  exact FnK.of FD hm (fun _ _ _ _ _ _ us hl => match us, hl with | [_], _ => rfl)
    (fn_ok (k := 0) (g := fun _ => sFail) (N := N__law_needs) FD sc__law_needs fun cdv A outer s H E hr tk pp => by
    have hu := hu_of hr
    have hq := hq_of hr
    exact sss_never)
theorem okS__law_needs (C : Fx K w mg) (n : Nat) (ih : FnK K w mg P base (1 + n) "_law_needs" 1 (R__law_needs n 0) ∧ FnK K w mg P base (1 + n) "_law_inner" 1 (R__law_needs n 1)) : FnK K w mg P base (1 + (n + 1)) "_law_needs" 1 (fnB 1 (h__law_needs (R__law_needs n))) := by
  obtain ⟨f, fd, FD, hm⟩ := C.d__law_needs
  exact FnK.of FD hm (fun _ _ _ _ _ _ us hl => match us, hl with | [_], _ => rfl)
    (fn_ok (k := 1 + n) (g := h__law_needs (R__law_needs n)) (N := N__law_needs) FD sc__law_needs fun cdv A outer s H E hr tk pp => by
    have hu := hu_of hr
    have hq := hq_of hr
    exact (ss_cons (ss_if (et_cmp snd_eq (op_eqD hq) (nomark _) (EV.p (ev_ix hu (EV.p (ev_var 0)) (EV.p ev_int))) (EV.p (ev_str (z := "need")))) (ss_one (ss_retF (ef_lst (ea_cons (ev_ix hu (EV.p (ev_var 0)) (EV.p ev_int)) ea_nil)))) ss_nil)
      (ss_one (ss_retF (ef_sset rfl C.b_sorted C.b_set (EF.p (ef_call (ih.2) tk hr (ea_cons (ev_var 0) ea_nil) (al_cons al_nil))))))))
theorem ok0__law_inner (C : Fx K w mg) : FnK K w mg P base 1 "_law_inner" 1 (fnB 3 fun _ => sFail) := by
  obtain ⟨f, fd, FD, hm⟩ := C.d__law_inner
  exact FnK.of FD hm (fun _ _ _ _ _ _ us hl => match us, hl with | [_], _ => rfl)
    (fn_ok (k := 0) (g := fun _ => sFail) (N := N__law_inner) FD sc__law_inner fun cdv A outer s H E hr tk pp => by
    have hu := hu_of hr
    have hq := hq_of hr
    exact sss_never)
theorem okS__law_inner (C : Fx K w mg) (n : Nat) (ih : FnK K w mg P base (1 + n) "_law_needs" 1 (R__law_needs n 0) ∧ FnK K w mg P base (1 + n) "_law_inner" 1 (R__law_needs n 1)) : FnK K w mg P base (1 + (n + 1)) "_law_inner" 1 (fnB 3 (h__law_inner (R__law_needs n))) := by
  obtain ⟨f, fd, FD, hm⟩ := C.d__law_inner
  exact FnK.of FD hm (fun _ _ _ _ _ _ us hl => match us, hl with | [_], _ => rfl)
    (fn_ok (k := 1 + n) (g := h__law_inner (R__law_needs n)) (N := N__law_inner) FD sc__law_inner fun cdv A outer s H E hr tk pp => by
    have hu := hu_of hr
    have hq := hq_of hr
    exact (ss_cons (ss_set 1 sc__law_inner.nd (EF.v (ef_lst ea_nil)))
      (ss_cons (ss_for pp (ei_any (EF.v (ef_sl (EV.p (ev_var 0)) (eo_some ev_int) eo_none))) (gr_nam 2 sc__law_inner.nd) (ss_one (ss_if (et_val (ev_isi (T := "tuple") (by decide) C.b_isinstance C.b_tuple (EV.p (ev_var 2)))) (ss_one (ss_set 1 sc__law_inner.nd (EF.v (ef_op snd_addF op_addF (EV.p (ev_var 1)) (EF.p (ef_call (ih.1) tk hr (ea_cons (ev_var 2) ea_nil) (al_cons al_nil))))))) ss_nil)))
      (ss_one (ss_ret (ev_var 1))))))
theorem okA__law_needs (C : Fx K w mg) : ∀ n : Nat, FnK K w mg P base (1 + n) "_law_needs" 1 (R__law_needs n 0) ∧ FnK K w mg P base (1 + n) "_law_inner" 1 (R__law_needs n 1)
  | 0 => ⟨ok0__law_needs C, ok0__law_inner C⟩
  | n + 1 => ⟨okS__law_needs C n (okA__law_needs C n), okS__law_inner C n (okA__law_needs C n)⟩
theorem ok__law_needs (C : Fx K w mg) : FnK K w mg P base 13 "_law_needs" 1 F__law_needs := (okA__law_needs C 12).1
theorem ok__law_inner (C : Fx K w mg) : FnK K w mg P base 13 "_law_inner" 1 F__law_inner := (okA__law_needs C 12).2
theorem ok__law_contents (C : Fx K w mg) : FnK K w mg P base 2 "_law_contents" 2 F__law_contents := by
  obtain ⟨f, fd, FD, hm⟩ := C.d__law_contents
  exact FnK.of FD hm (fun _ _ _ _ _ _ us hl => match us, hl with | [_, _], _ => rfl)
    (fn_ok (k := 1) (g := g__law_contents) (N := N__law_contents) FD sc__law_contents fun cdv A outer s H E hr tk pp => by
    have hu := hu_of hr
    have hq := hq_of hr
    exact (ss_cons (ss_setF 2 sc__law_contents.nd (ef_lst ea_nil))
      (ss_cons (ss_for pp (ei_range C.b_range (ev_callB snd_len cr_len C.b_len (EV.p (ev_var 1)))) (gr_nam 3 sc__law_contents.nd) (ss_one (ss_app 2 (ev_tup (ea_cons (ev_ix hu (EV.p (ev_ix hu (EV.p (ev_var 1)) (EV.p (ev_var 3)))) (EV.p ev_int)) (ea_cons (ev_join (EV.p (ev_str (z := ""))) (EF.p (ef_lc (own := [("j", 4)]) sc__law_contents.nd (ei_range C.b_range (ev_ix hu (EV.p (ev_ix hu (EV.p (ev_var 1)) (EV.p (ev_var 3)))) (EV.p ev_int))) (blkOk_by (own := [("j", 4)]) (N := N__law_contents) (sc := Sc__law_contents) (by decide +kernel)) (by decide) (fun _ _ _ _ _ => (gr_nam 4 sc__law_contents.nd)) (fun _ _ _ _ _ => ets_nil) (fun _ _ _ _ _ => (ev_ix hu (EV.p (ev_str (z := "abmz"))) (EV.p (ev_op snd_mod op_mod (EV.p (ev_callT snd_int call_int1 C.b_int (EV.p (ev_ix hu (EV.p (ev_var 0)) (EV.p (ev_op snd_mod op_mod (EF.p (ef_op snd_addF op_addF (EF.p (ef_op snd_mulF op_mulF (EV.p ev_int) (EV.p (ev_var 3)))) (EV.p (ev_var 4)))) (EV.p (ev_callB snd_len cr_len C.b_len (EV.p (ev_var 0)))))))))) (EV.p ev_int))))))) (hstr := str_cst _)) ea_nil))))))
      (ss_frz 2 (ss_one (ss_ret (ev_callT snd_tup call_tupF C.b_tuple (EV.p (ev_var 2)))))))))
theorem ok0__law_bare (C : Fx K w mg) : FnK K w mg P base 1 "_law_bare" 1 (fnB 2 fun _ => sFail) := by
  obtain ⟨f, fd, FD, hm⟩ := C.d__law_bare
  exact FnK.of FD hm (fun _ _ _ _ _ _ us hl => match us, hl with | [_], _ => rfl)
    (fn_ok (k := 0) (g := fun _ => sFail) (N := N__law_bare) FD sc__law_bare fun cdv A outer s H E hr tk pp => by
    have hu := hu_of hr
    have hq := hq_of hr
    exact sss_never)
theorem okS__law_bare (C : Fx K w mg) (n : Nat) (ih : One (FnK K w mg P base (1 + n) "_law_bare" 1 (R__law_bare n 0))) : FnK K w mg P base (1 + (n + 1)) "_law_bare" 1 (fnB 2 (h__law_bare (R__law_bare n))) := by
  obtain ⟨f, fd, FD, hm⟩ := C.d__law_bare
  exact FnK.of FD hm (fun _ _ _ _ _ _ us hl => match us, hl with | [_], _ => rfl)
    (fn_ok (k := 1 + n) (g := h__law_bare (R__law_bare n)) (N := N__law_bare) FD sc__law_bare fun cdv A outer s H E hr tk pp => by
    have hu := hu_of hr
    have hq := hq_of hr
    exact (ss_cons (ss_if (et_cmp snd_eq (op_eqD hq) (nomark _) (EV.p (ev_ix hu (EV.p (ev_var 0)) (EV.p ev_int))) (EV.p (ev_str (z := "text")))) (ss_one (ss_ret (ev_tup (ea_cons (ev_str (z := "head")) (ea_cons (ev_callB snd_len cr_len C.b_len (EV.p (ev_ix hu (EV.p (ev_var 0)) (EV.p ev_int)))) (ea_cons (ev_tup (ea_cons (ev_str (z := "need")) (ea_cons (ev_str (z := "a")) ea_nil))) ea_nil)))))) ss_nil)
      (ss_cons (ss_if (et_cmp snd_eq (op_eqD hq) (nomark _) (EV.p (ev_ix hu (EV.p (ev_var 0)) (EV.p ev_int))) (EV.p (ev_str (z := "need")))) (ss_one (ss_ret (ev_var 0))) ss_nil)
      (ss_cons (ss_if (et_cmp snd_eq (op_eqD hq) (nomark _) (EV.p (ev_ix hu (EV.p (ev_var 0)) (EV.p ev_int))) (EV.p (ev_str (z := "swap")))) (ss_one (ss_retF (ef_call (ih.one) tk hr (ea_cons (ev_ix hu (EV.p (ev_var 0)) (EV.p ev_int)) ea_nil) (al_cons al_nil)))) ss_nil)
      (ss_one (ss_ret (ev_callT snd_tup call_tupF C.b_tuple (EF.p (ef_lc (own := [("one", 1)]) sc__law_bare.nd (ei_any (ev_var 0)) (blkOk_by (own := [("one", 1)]) (N := N__law_bare) (sc := Sc__law_bare) (by decide +kernel)) (by decide) (fun _ _ _ _ _ => (gr_nam 1 sc__law_bare.nd)) (fun _ _ _ _ _ => ets_nil) (fun _ _ _ _ _ => (ev_if (et_val (ev_isi (T := "tuple") (by decide) C.b_isinstance C.b_tuple (EV.p (ev_var 1)))) (EF.v (ef_call (ih.one) takes00 hr (ea_cons (ev_var 1) ea_nil) (al_cons al_nil))) (ev_var 1))))))))))))
theorem okA__law_bare (C : Fx K w mg) : ∀ n : Nat, One (FnK K w mg P base (1 + n) "_law_bare" 1 (R__law_bare n 0))
  | 0 => ⟨ok0__law_bare C⟩
  | n + 1 => ⟨okS__law_bare C n (okA__law_bare C n)⟩
theorem ok__law_bare (C : Fx K w mg) : FnK K w mg P base 13 "_law_bare" 1 F__law_bare := (okA__law_bare C 12).one
theorem ok__law_turned (C : Fx K w mg) : FnK K w mg P base 2 "_law_turned" 2 F__law_turned := by
  obtain ⟨f, fd, FD, hm⟩ := C.d__law_turned
  exact FnK.of FD hm (fun _ _ _ _ _ _ us hl => match us, hl with | [_, _], _ => rfl)
    (fn_ok (k := 1) (g := g__law_turned) (N := N__law_turned) FD sc__law_turned fun cdv A outer s H E hr tk pp => by
    have hu := hu_of hr
    have hq := hq_of hr
    exact (ss_cons (ss_set 2 sc__law_turned.nd (ev_str (z := "abcdefghijklmnopqrstuvwxyz")))
      (ss_one (ss_ret (ev_join (EV.p (ev_str (z := ""))) (EF.p (ef_lc (own := [("sign", 3)]) sc__law_turned.nd (ei_any (ev_var 0)) (blkOk_by (own := [("sign", 3)]) (N := N__law_turned) (sc := Sc__law_turned) (by decide +kernel)) (by decide) (fun _ _ _ _ _ => (gr_nam 3 sc__law_turned.nd)) (fun _ _ _ _ _ => ets_nil) (fun _ _ _ _ _ => (ev_ix hu (EV.p (ev_var 2)) (EV.p (ev_op snd_mod op_mod (EF.p (ef_op snd_addF op_addF (EV.p (ev_index (ev_var 2) (ev_var 3))) (EV.p (ev_var 1)))) (EV.p ev_int))))))) (hstr := str_cst _))))))
theorem okl_law (C : Fx K w mg) {f : Addr} {fd : FuncData} (FD : FunD K "law" "law" (defArgs St_law) (defBody St_law) Sc_law [] [] f fd) : FnOk P w K mg base (L2.CX P w) 28 f fd ["script"] (spF K w mg F_law 1) :=
  (fn_ok (k := 27) (g := g_law) (N := N_law) FD sc_law fun cdv A outer s H E hr tk pp => by
    have hu := hu_of hr
    have hq := hq_of hr
    exact (ss_cons (ss_set 1 sc_law.nd (EF.v (ef_call ((ok__law_draws C).mono (by omega)) tk hr (ea_cons (ev_var 0) (ea_cons ev_int ea_nil)) (al_cons (al_cons al_nil)))))
      (ss_cons (ss_for pp (ei_range C.b_range ev_int) (gr_nam 2 sc_law.nd) (ss_cons (ss_set 3 sc_law.nd (EF.v (ef_call ((ok__law_deed C).mono (by omega)) tk hr (ea_cons (EF.v (ef_sl (EV.p (ev_var 1)) (eo_some (EF.v (ef_op snd_mulF op_mulF (EV.p ev_int) (EV.p (ev_var 2))))) eo_none)) (ea_cons (EF.v (ef_sl (EV.p (ev_tup (ea_cons (ev_str (z := "a")) (ea_cons (ev_str (z := "b")) ea_nil)))) eo_none (eo_some (EF.v (ef_op snd_addF op_addF (EV.p ev_int) (EV.p (ev_op snd_mod op_mod (EV.p (ev_var 2)) (EV.p ev_int)))))))) (ea_cons ev_int ea_nil))) (al_cons (al_cons (al_cons al_nil))))))
      (ss_cons (ss_set 4 sc_law.nd (EF.v (ef_call ((ok__law_needs C).mono (by omega)) tk hr (ea_cons (ev_var 3) ea_nil) (al_cons al_nil))))
      (ss_cons (ss_set 5 sc_law.nd (ev_callT snd_tup call_tupF C.b_tuple (EF.p (ef_lc (own := [("j", 23), ("name", 17)]) sc_law.nd (ei_enum C.b_enumerate (ev_var 4)) (blkOk_by (own := [("j", 23), ("name", 17)]) (N := N_law) (sc := Sc_law) (by decide +kernel)) (by decide) (fun _ _ _ _ _ => (gp_tup rfl (grs_cons (gr_nam 23 sc_law.nd) (grs_cons (gr_nam 17 sc_law.nd) grs_nil)) (gcons_len (gcons_len gnil_len)))) (fun _ _ _ _ _ => ets_nil) (fun _ _ _ _ _ => (ev_tup (ea_cons (ev_var 17) (ea_cons (ev_op snd_mod op_mod (EV.p (ev_callT snd_int call_int1 C.b_int (EV.p (ev_ix hu (EV.p (ev_var 1)) (EF.p (ef_op snd_addF op_addF (EF.p (ef_op snd_addF op_addF (EV.p ev_int) (EV.p (ev_var 2)))) (EF.p (ef_op snd_mulF op_mulF (EV.p ev_int) (EV.p (ev_var 23)))))))))) (EV.p ev_int)) ea_nil))))))))
      (ss_cons (ss_set 6 sc_law.nd (EF.v (ef_call ((ok_cells_of C).mono (by omega)) tk hr (ea_cons (ev_var 3) (ea_cons (ev_var 5) ea_nil)) (al_cons (al_cons al_nil)))))
      (ss_cons (ss_setF 7 sc_law.nd (ef_lst ea_nil))
      (ss_cons (ss_for pp (ei_range C.b_range ev_int) (gr_nam 8 sc_law.nd) (ss_cons (ss_set 9 sc_law.nd (EF.v (ef_call ((ok__law_contents C).mono (by omega)) tk hr (ea_cons (EF.v (ef_sl (EV.p (ev_var 1)) (eo_some (EF.v (ef_op snd_addF op_addF (EF.p (ef_op snd_addF op_addF (EV.p ev_int) (EF.p (ef_op snd_mulF op_mulF (EV.p ev_int) (EV.p (ev_var 8)))))) (EV.p (ev_var 2))))) eo_none)) (ea_cons (ev_var 5) ea_nil)) (al_cons (al_cons al_nil)))))
      (ss_cons (ss_set 10 sc_law.nd (EF.v (ef_callT snd_dict (cr_dict rfl) C.b_dict (EF.p (ef_lc (own := [("name", 17), ("content", 18)]) sc_law.nd (ei_any (ev_var 9)) (blkOk_by (own := [("name", 17), ("content", 18)]) (N := N_law) (sc := Sc_law) (by decide +kernel)) (by decide) (fun _ _ _ _ _ => (GP.r (gp_tup rfl (grs_cons (gr_nam 17 sc_law.nd) (grs_cons (gr_nam 18 sc_law.nd) grs_nil)) (gcons_len (gcons_len gnil_len))))) (fun _ _ _ _ _ => ets_nil) (fun _ _ _ _ _ => (ev_tup (ea_cons (ev_var 17) (ea_cons (ev_tup (ea_cons (ev_str (z := "made")) (ea_cons (ev_var 18) ea_nil))) ea_nil)))))))))
      (ss_one (ss_app 7 (ev_ix hu (EF.p (ef_call ((ok_tried C).mono (by omega)) tk hr (ea_cons (ev_var 3) (ea_cons (ev_var 10) ea_nil)) (al_cons (al_cons al_nil)))) (EV.p ev_int)))))))
      (ss_frz 7 (ss_cons (ss_if (et_w (ew_or (et_w (ew_and (et_cmp snd_eq (op_eqD hq) (nomark _) (EV.p (ev_ix hu (EV.p (ev_var 6)) (EV.p ev_int))) (EV.p (ev_str (z := "made")))) (ew_and1 (et_val (ev_callB snd_any (cr_any rfl) C.b_any (EF.p (ef_lc (own := [("one", 14)]) sc_law.nd (ei_any (ev_var 7)) (blkOk_by (own := [("one", 14)]) (N := N_law) (sc := Sc_law) (by decide +kernel)) (by decide) (fun _ _ _ _ _ => (gr_nam 14 sc_law.nd)) (fun _ _ _ _ _ => ets_nil) (fun _ _ _ _ _ => (ev_or (ev_cmp snd_ne (op_neD hq) (nomark _) (EV.p (ev_ix hu (EV.p (ev_var 14)) (EV.p ev_int))) (EV.p (ev_str (z := "made")))) (ev_one (ev_cmp snd_ne (op_neD hq) (nomark _) (EV.p (ev_callB snd_len cr_len C.b_len (EV.p (ev_ix hu (EV.p (ev_var 14)) (EV.p ev_int))))) (EV.p (ev_callB snd_len cr_len C.b_len (EV.p (ev_ix hu (EV.p (ev_var 6)) (EV.p ev_int)))))))))))))))) (ew_or1 (et_w (ew_and (et_cmp snd_eq (op_eqD hq) (nomark _) (EV.p (ev_ix hu (EV.p (ev_var 6)) (EV.p ev_int))) (EV.p (ev_str (z := "fault")))) (ew_and1 (et_val (ev_callB snd_any (cr_any rfl) C.b_any (EF.p (ef_lc (own := [("one", 14)]) sc_law.nd (ei_any (ev_var 7)) (blkOk_by (own := [("one", 14)]) (N := N_law) (sc := Sc_law) (by decide +kernel)) (by decide) (fun _ _ _ _ _ => (gr_nam 14 sc_law.nd)) (fun _ _ _ _ _ => ets_nil) (fun _ _ _ _ _ => (ev_cmp snd_ne (op_neD hq) (nomark _) (EV.p (ev_var 14)) (EV.p (ev_var 6)))))))))))))) (ss_one (ss_ret ev_bl)) ss_nil)
      (ss_cons (ss_set 11 sc_law.nd (EF.v (ef_call ((ok__law_bare C).mono (by omega)) tk hr (ea_cons (ev_var 3) ea_nil) (al_cons al_nil))))
      (ss_cons (ss_set 12 sc_law.nd (EF.v (ef_call ((ok__law_needs C).mono (by omega)) tk hr (ea_cons (ev_var 11) ea_nil) (al_cons al_nil))))
      (ss_cons (ss_set 5 sc_law.nd (ev_callT snd_tup call_tupF C.b_tuple (EF.p (ef_lc (own := [("j", 23), ("name", 17)]) sc_law.nd (ei_enum C.b_enumerate (ev_var 12)) (blkOk_by (own := [("j", 23), ("name", 17)]) (N := N_law) (sc := Sc_law) (by decide +kernel)) (by decide) (fun _ _ _ _ _ => (gp_tup rfl (grs_cons (gr_nam 23 sc_law.nd) (grs_cons (gr_nam 17 sc_law.nd) grs_nil)) (gcons_len (gcons_len gnil_len)))) (fun _ _ _ _ _ => ets_nil) (fun _ _ _ _ _ => (ev_tup (ea_cons (ev_var 17) (ea_cons (ev_op snd_mod op_mod (EV.p (ev_callT snd_int call_int1 C.b_int (EV.p (ev_ix hu (EV.p (ev_var 1)) (EF.p (ef_op snd_addF op_addF (EF.p (ef_op snd_addF op_addF (EV.p ev_int) (EV.p (ev_var 2)))) (EF.p (ef_op snd_mulF op_mulF (EV.p ev_int) (EV.p (ev_var 23)))))))))) (EV.p ev_int)) ea_nil))))))))
      (ss_cons (ss_set 9 sc_law.nd (EF.v (ef_call ((ok__law_contents C).mono (by omega)) tk hr (ea_cons (EF.v (ef_sl (EV.p (ev_var 1)) (eo_some (EF.v (ef_op snd_addF op_addF (EV.p ev_int) (EV.p (ev_var 2))))) eo_none)) (ea_cons (ev_var 5) ea_nil)) (al_cons (al_cons al_nil)))))
      (ss_cons (ss_set 13 sc_law.nd (EF.v (ef_op snd_addF op_addF (EV.p ev_int) (EV.p (ev_op snd_mod op_mod (EV.p (ev_callT snd_int call_int1 C.b_int (EV.p (ev_ix hu (EV.p (ev_var 1)) (EF.p (ef_op snd_addF op_addF (EV.p ev_int) (EV.p (ev_var 2)))))))) (EV.p ev_int))))))
      (ss_cons (ss_set 14 sc_law.nd (ev_ix hu (EF.p (ef_call ((ok_tried C).mono (by omega)) tk hr (ea_cons (ev_var 11) (ea_cons (EF.v (ef_callT snd_dict (cr_dict rfl) C.b_dict (EF.p (ef_lc (own := [("name", 17), ("content", 18)]) sc_law.nd (ei_any (ev_var 9)) (blkOk_by (own := [("name", 17), ("content", 18)]) (N := N_law) (sc := Sc_law) (by decide +kernel)) (by decide) (fun _ _ _ _ _ => (GP.r (gp_tup rfl (grs_cons (gr_nam 17 sc_law.nd) (grs_cons (gr_nam 18 sc_law.nd) grs_nil)) (gcons_len (gcons_len gnil_len))))) (fun _ _ _ _ _ => ets_nil) (fun _ _ _ _ _ => (ev_tup (ea_cons (ev_var 17) (ea_cons (ev_tup (ea_cons (ev_str (z := "made")) (ea_cons (ev_var 18) ea_nil))) ea_nil)))))))) ea_nil)) (al_cons (al_cons al_nil)))) (EV.p ev_int)))
      (ss_cons (ss_set 15 sc_law.nd (ev_ix hu (EF.p (ef_call ((ok_tried C).mono (by omega)) tk hr (ea_cons (ev_var 11) (ea_cons (EF.v (ef_callT snd_dict (cr_dict rfl) C.b_dict (EF.p (ef_lc (own := [("name", 17), ("content", 18)]) sc_law.nd (ei_any (ev_var 9)) (blkOk_by (own := [("name", 17), ("content", 18)]) (N := N_law) (sc := Sc_law) (by decide +kernel)) (by decide) (fun _ _ _ _ _ => (GP.r (gp_tup rfl (grs_cons (gr_nam 17 sc_law.nd) (grs_cons (gr_nam 18 sc_law.nd) grs_nil)) (gcons_len (gcons_len gnil_len))))) (fun _ _ _ _ _ => ets_nil) (fun _ _ _ _ _ => (ev_tup (ea_cons (ev_var 17) (ea_cons (ev_tup (ea_cons (ev_str (z := "made")) (ea_cons (EF.v (ef_call ((ok__law_turned C).mono (by omega)) takes00 hr (ea_cons (ev_var 18) (ea_cons (ev_var 13) ea_nil)) (al_cons (al_cons al_nil)))) ea_nil))) ea_nil)))))))) ea_nil)) (al_cons (al_cons al_nil)))) (EV.p ev_int)))
      (ss_cons (ss_if (et_w (ew_or (et_w (ew_and (et_cmp snd_eq (op_eqD hq) (nomark _) (EV.p (ev_ix hu (EV.p (ev_var 14)) (EV.p ev_int))) (EV.p (ev_str (z := "made")))) (ew_and1 (et_cmp snd_ne (op_neD hq) (nomark _) (EV.p (ev_var 15)) (EV.p (ev_tup (ea_cons (ev_str (z := "made")) (ea_cons (EF.v (ef_call ((ok__law_turned C).mono (by omega)) tk hr (ea_cons (ev_ix hu (EV.p (ev_var 14)) (EV.p ev_int)) (ea_cons (ev_var 13) ea_nil)) (al_cons (al_cons al_nil)))) ea_nil)))))))) (ew_or1 (et_w (ew_and (et_cmp snd_ne (op_neD hq) (nomark _) (EV.p (ev_ix hu (EV.p (ev_var 14)) (EV.p ev_int))) (EV.p (ev_str (z := "made")))) (ew_and1 (et_cmp snd_ne (op_neD hq) (nomark _) (EV.p (ev_var 15)) (EV.p (ev_var 14))))))))) (ss_one (ss_ret ev_bl)) ss_nil)
      (ss_cons (ss_set 16 sc_law.nd (EF.v (ef_call ((ok_cells_of C).mono (by omega)) tk hr (ea_cons (ev_var 11) (ea_cons (ev_var 5) ea_nil)) (al_cons (al_cons al_nil)))))
      (ss_one (ss_if (et_cmp snd_eq (op_eqD hq) (nomark _) (EV.p (ev_ix hu (EV.p (ev_var 16)) (EV.p ev_int))) (EV.p (ev_str (z := "made")))) (ss_one (ss_for pp (ei_any (ev_var 9)) (GP.r (gp_tup rfl (grs_cons (gr_nam 17 sc_law.nd) (grs_cons (gr_nam 18 sc_law.nd) grs_nil)) (gcons_len (gcons_len gnil_len)))) (ss_one (ss_for pp (ei_range C.b_range (ev_callB2 snd_min (call_min2 rfl) C.b_min (EV.p ev_int) (EV.p (ev_callB snd_len cr_len C.b_len (EV.p (ev_var 18)))))) (gr_nam 19 sc_law.nd) (ss_cons (ss_set 20 sc_law.nd (EF.v (ef_callT snd_dict (cr_dict rfl) C.b_dict (EF.p (ef_lc (own := [("other", 24), ("text", 25)]) sc_law.nd (ei_any (ev_var 9)) (blkOk_by (own := [("other", 24), ("text", 25)]) (N := N_law) (sc := Sc_law) (by decide +kernel)) (by decide) (fun _ _ _ _ _ => (GP.r (gp_tup rfl (grs_cons (gr_nam 24 sc_law.nd) (grs_cons (gr_nam 25 sc_law.nd) grs_nil)) (gcons_len (gcons_len gnil_len))))) (fun _ _ _ _ _ => ets_nil) (fun _ _ _ _ _ => (ev_tup (ea_cons (ev_var 24) (ea_cons (ev_tup (ea_cons (ev_str (z := "made")) (ea_cons (ev_if (et_cmp snd_eq (op_eqD hq) (nomark _) (EV.p (ev_var 24)) (EV.p (ev_var 17))) (EF.v (ef_op snd_addF op_addF (EF.p (ef_op snd_addF op_addF (EF.p (ef_sl (EV.p (ev_var 25)) eo_none (eo_some (ev_var 19)))) (EF.p (ef_call ((ok__law_turned C).mono (by omega)) takes00 hr (ea_cons (ev_ix hu (EV.p (ev_var 25)) (EV.p (ev_var 19))) (ea_cons ev_int ea_nil)) (al_cons (al_cons al_nil)))))) (EF.p (ef_sl (EV.p (ev_var 25)) (eo_some (EF.v (ef_op snd_addF op_addF (EV.p (ev_var 19)) (EV.p ev_int)))) eo_none)))) (ev_var 25)) ea_nil))) ea_nil)))))))))
      (ss_cons (ss_set 21 sc_law.nd (ev_ix hu (EF.p (ef_call ((ok_tried C).mono (by omega)) tk hr (ea_cons (ev_var 11) (ea_cons (ev_var 20) ea_nil)) (al_cons (al_cons al_nil)))) (EV.p ev_int)))
      (ss_cons (ss_setLcV (i := 22) (own := [("k", 8)]) sc_law.nd (ei_range C.b_range (ev_callB snd_len cr_len C.b_len (EV.p (ev_ix hu (EV.p (ev_var 14)) (EV.p ev_int))))) (blkOk_by (own := [("k", 8)]) (N := N_law) (sc := Sc_law) (by decide +kernel)) (by decide) (fun _ _ _ _ _ => (gr_nam 8 sc_law.nd)) (fun _ _ _ _ _ => (ets_one (et_cmp snd_ne (op_neD hq) (nomark _) (EV.p (ev_ix hu (EV.p (ev_ix hu (EV.p (ev_var 21)) (EV.p ev_int))) (EV.p (ev_var 8)))) (EV.p (ev_ix hu (EV.p (ev_ix hu (EV.p (ev_var 14)) (EV.p ev_int))) (EV.p (ev_var 8))))))) (fun _ _ _ _ _ => (ev_var 8)))
      (ss_one (ss_if (et_cmp snd_ne (op_neD hq) (nomark _) (EV.p (ev_var 22)) (EF.p (ef_lc (own := [("k", 8)]) sc_law.nd (ei_range C.b_range (ev_callB snd_len cr_len C.b_len (EV.p (ev_ix hu (EV.p (ev_var 16)) (EV.p ev_int))))) (blkOk_by (own := [("k", 8)]) (N := N_law) (sc := Sc_law) (by decide +kernel)) (by decide) (fun _ _ _ _ _ => (gr_nam 8 sc_law.nd)) (fun _ _ _ _ _ => (ets_one (et_cmp snd_eq (op_eqD hq) (nomark _) (EF.p (ef_sl (EV.p (ev_ix hu (EV.p (ev_ix hu (EV.p (ev_var 16)) (EV.p ev_int))) (EV.p (ev_var 8)))) eo_none (eo_some ev_int))) (EV.p (ev_tup (ea_cons (ev_str (z := "at")) (ea_cons (ev_var 17) (ea_cons (ev_var 19) ea_nil)))))))) (fun _ _ _ _ _ => (ev_var 8))))) (ss_one (ss_ret ev_bl)) ss_nil))))))))) ss_nil))))))))))))))))))))
      (ss_one (ss_ret ev_bl)))))
end
end VX.K09
set_option Elab.async false
set_option linter.all false
set_option maxRecDepth 100000
set_option maxHeartbeats 0
namespace VX.K09
open PySem PySem.Spec PyProof.Rows L2
def dd_is_whole : He.DefD := ⟨("is_whole", none), "is_whole", "is_whole", defArgs St_is_whole, defBody St_is_whole, Sc_is_whole, [], []⟩
def dd_ascends : He.DefD := ⟨("ascends", none), "ascends", "ascends", defArgs St_ascends, defBody St_ascends, Sc_ascends, [], []⟩
def dd__are_letters : He.DefD := ⟨("_are_letters", none), "_are_letters", "_are_letters", defArgs St__are_letters, defBody St__are_letters, Sc__are_letters, [], []⟩
def dd_is_name : He.DefD := ⟨("is_name", none), "is_name", "is_name", defArgs St_is_name, defBody St_is_name, Sc_is_name, [], []⟩
def dd_is_content : He.DefD := ⟨("is_content", none), "is_content", "is_content", defArgs St_is_content, defBody St_is_content, Sc_is_content, [], []⟩
def dd_parts_of : He.DefD := ⟨("parts_of", none), "parts_of", "parts_of", defArgs St_parts_of, defBody St_parts_of, Sc_parts_of, [], []⟩
def dd__is_deed : He.DefD := ⟨("_is_deed", none), "_is_deed", "_is_deed", defArgs St__is_deed, defBody St__is_deed, Sc__is_deed, [], []⟩
def dd__count : He.DefD := ⟨("_count", none), "_count", "_count", defArgs St__count, defBody St__count, Sc__count, [], []⟩
def dd_is_deed : He.DefD := ⟨("is_deed", none), "is_deed", "is_deed", defArgs St_is_deed, defBody St_is_deed, Sc_is_deed, [], []⟩
def dd_Trial_init : He.DefD := ⟨("Trial", some "__init__"), "__init__", "Trial.__init__", defArgs St_Trial_init, defBody St_Trial_init, Sc_Trial_init, [], []⟩
def dd_Trial_ask : He.DefD := ⟨("Trial", some "ask"), "ask", "Trial.ask", defArgs St_Trial_ask, defBody St_Trial_ask, Sc_Trial_ask, [], []⟩
def dd_Trial__bounded : He.DefD := ⟨("Trial", some "_bounded"), "_bounded", "Trial._bounded", defArgs St_Trial__bounded, defBody St_Trial__bounded, Sc_Trial__bounded, [], []⟩
def dd_Trial__all : He.DefD := ⟨("Trial", some "_all"), "_all", "Trial._all", defArgs St_Trial__all, defBody St_Trial__all, Sc_Trial__all, [], []⟩
def dd_Trial_do : He.DefD := ⟨("Trial", some "do"), "do", "Trial.do", defArgs St_Trial_do, defBody St_Trial_do, Sc_Trial_do, [], []⟩
def dd_Trial__one : He.DefD := ⟨("Trial", some "_one"), "_one", "Trial._one", defArgs St_Trial__one, defBody St_Trial__one, Sc_Trial__one, [], []⟩
def dd_tried_by : He.DefD := ⟨("tried_by", none), "tried_by", "tried_by", defArgs St_tried_by, defBody St_tried_by, Sc_tried_by, [.non], []⟩
def dd_tried : He.DefD := ⟨("tried", none), "tried", "tried", defArgs St_tried, defBody St_tried, Sc_tried, [], []⟩
def dd_words_in : He.DefD := ⟨("words_in", none), "words_in", "words_in", defArgs St_words_in, defBody St_words_in, Sc_words_in, [], []⟩
def dd_names_in : He.DefD := ⟨("names_in", none), "names_in", "names_in", defArgs St_names_in, defBody St_names_in, Sc_names_in, [], []⟩
def dd_word_fault : He.DefD := ⟨("word_fault", none), "word_fault", "word_fault", defArgs St_word_fault, defBody St_word_fault, Sc_word_fault, [], []⟩
def dd_plain_fault : He.DefD := ⟨("plain_fault", none), "plain_fault", "plain_fault", defArgs St_plain_fault, defBody St_plain_fault, Sc_plain_fault, [], []⟩
def dd_check_plain : He.DefD := ⟨("check_plain", none), "check_plain", "check_plain", defArgs St_check_plain, defBody St_check_plain, Sc_check_plain, [], []⟩
def dd_are_lengths : He.DefD := ⟨("are_lengths", none), "are_lengths", "are_lengths", defArgs St_are_lengths, defBody St_are_lengths, Sc_are_lengths, [], []⟩
def dd_swapped : He.DefD := ⟨("swapped", none), "swapped", "swapped", defArgs St_swapped, defBody St_swapped, Sc_swapped, [], []⟩
def dd_fresh_cells : He.DefD := ⟨("fresh_cells", none), "fresh_cells", "fresh_cells", defArgs St_fresh_cells, defBody St_fresh_cells, Sc_fresh_cells, [], []⟩
def dd_cells_by : He.DefD := ⟨("cells_by", none), "cells_by", "cells_by", defArgs St_cells_by, defBody St_cells_by, Sc_cells_by, [], []⟩
def dd_Lengths_init : He.DefD := ⟨("Lengths", some "__init__"), "__init__", "Lengths.__init__", defArgs St_Lengths_init, defBody St_Lengths_init, Sc_Lengths_init, [], []⟩
def dd_Lengths_known : He.DefD := ⟨("Lengths", some "known"), "known", "Lengths.known", defArgs St_Lengths_known, defBody St_Lengths_known, Sc_Lengths_known, [], []⟩
def dd_told : He.DefD := ⟨("told", none), "told", "told", defArgs St_told, defBody St_told, Sc_told, [], []⟩
def dd_cells_of : He.DefD := ⟨("cells_of", none), "cells_of", "cells_of", defArgs St_cells_of, defBody St_cells_of, Sc_cells_of, [], []⟩
def dd__law_draws : He.DefD := ⟨("_law_draws", none), "_law_draws", "_law_draws", defArgs St__law_draws, defBody St__law_draws, Sc__law_draws, [], []⟩
def dd__law_deed : He.DefD := ⟨("_law_deed", none), "_law_deed", "_law_deed", defArgs St__law_deed, defBody St__law_deed, Sc__law_deed, [], []⟩
def dd__law_needs : He.DefD := ⟨("_law_needs", none), "_law_needs", "_law_needs", defArgs St__law_needs, defBody St__law_needs, Sc__law_needs, [], []⟩
def dd__law_inner : He.DefD := ⟨("_law_inner", none), "_law_inner", "_law_inner", defArgs St__law_inner, defBody St__law_inner, Sc__law_inner, [], []⟩
def dd__law_contents : He.DefD := ⟨("_law_contents", none), "_law_contents", "_law_contents", defArgs St__law_contents, defBody St__law_contents, Sc__law_contents, [], []⟩
def dd__law_bare : He.DefD := ⟨("_law_bare", none), "_law_bare", "_law_bare", defArgs St__law_bare, defBody St__law_bare, Sc__law_bare, [], []⟩
def dd__law_turned : He.DefD := ⟨("_law_turned", none), "_law_turned", "_law_turned", defArgs St__law_turned, defBody St__law_turned, Sc__law_turned, [], []⟩
def dd_law : He.DefD := ⟨("law", none), "law", "law", defArgs St_law, defBody St_law, Sc_law, [], []⟩
def fn : List He.DefD := ([dd_is_whole, dd_ascends, dd__are_letters, dd_is_name, dd_is_content, dd_parts_of, dd__is_deed, dd__count, dd_is_deed, dd_Trial_init, dd_Trial_ask, dd_Trial__bounded, dd_Trial__all, dd_Trial_do, dd_Trial__one, dd_tried_by, dd_tried, dd_words_in, dd_names_in, dd_word_fault, dd_plain_fault, dd_check_plain, dd_are_lengths, dd_swapped, dd_fresh_cells, dd_cells_by, dd_Lengths_init, dd_Lengths_known, dd_told, dd_cells_of] : List He.DefD) ++ ([dd__law_draws, dd__law_deed, dd__law_needs, dd__law_inner, dd__law_contents, dd__law_bare, dd__law_turned, dd_law] : List He.DefD)
def fa : List He.Fa := ([.free "abs", .free "all", .free "any", .free "bool", .free "dict", .free "enumerate", .free "int", .free "isinstance", .free "len", .free "list", .free "min", .free "range", .free "set", .free "sorted", .free "str", .free "sum", .free "tuple", .free "zip", .glo "is_whole", .glo "ascends", .glo "_are_letters", .glo "is_name", .glo "is_content", .glo "parts_of", .glo "_is_deed", .glo "_count", .glo "is_deed", .glo "Trial", .mkr "Trial", .cls "Trial"] : List He.Fa) ++ ([.meth "Trial" "ask", .meth "Trial" "_bounded", .meth "Trial" "_all", .meth "Trial" "do", .meth "Trial" "_one", .glo "tried_by", .glo "tried", .glo "words_in", .glo "names_in", .glo "word_fault", .glo "plain_fault", .glo "check_plain", .glo "are_lengths", .glo "swapped", .glo "fresh_cells", .glo "cells_by", .glo "Lengths", .mkr "Lengths", .cls "Lengths", .meth "Lengths" "known", .glo "told", .glo "cells_of", .glo "_law_draws", .glo "_law_deed", .glo "_law_needs", .glo "_law_inner", .glo "_law_contents", .glo "_law_bare", .glo "_law_turned", .glo "law"] : List He.Fa) ++ ([.str "AT" (st (cs "at")), .str "DONE" (st (cs "done")), .str "FAULT" (st (cs "fault")), .str "IS" (st (cs "is")), .str "LETTERS" (st (cs "abcdefghijklmnopqrstuvwxyz")), .glo "LONG", .str "MADE" (st (cs "made")), .glo "MANY", .int "MOST_CONTENT" 40, .int "MOST_DEEDS" 30, .int "MOST_DEEP" 5, .int "MOST_NAME" 8, .int "MOST_NAMES" 2, .glo "NO_DEED", .glo "PARTS", .glo "PLAIN", .str "WAITS" (st (cs "waits")), .glo "WORDS", .noat "Lengths" "lengths", .noat "Trial" "end", .noat "Trial" "known", .noat "Trial" "needs", .noat "Trial" "rules", .glo "BadDeed", .exc "BadDeed", .glo "BadLengths", .exc "BadLengths"] : List He.Fa)
def ts : List He.Tab := ([(fun K => He.ga K "PARTS", [st (cs "named"), st (cs "join"), st (cs "head"), st (cs "back"), st (cs "sort"), st (cs "swap"), st (cs "same")]), (fun K => He.ga K "PLAIN", [st (cs "text"), st (cs "need"), st (cs "named"), st (cs "join"), st (cs "head"), st (cs "back"), st (cs "sort"), st (cs "swap"), st (cs "same")])] : List He.Tab)
def exs (K : PySem.W.Frag) : List Bool := [tupN K "LONG" ([.str (cs "fault"), .str (cs "long"), .str (cs "")].map D.fv), tupN K "MANY" ([.str (cs "many")].map D.fv), tupN K "NO_DEED" ([.str (cs "form")].map D.fv), valsF K (He.ga K "PARTS") [(cs "named", .int 1), (cs "join", .int 2), (cs "head", .int 1), (cs "back", .int 1), (cs "sort", .int 1), (cs "swap", .int 1), (cs "same", .int 4)], valsF K (He.ga K "PLAIN") [(cs "text", .int 0), (cs "need", .int 0), (cs "named", .int 0), (cs "join", .int 0), (cs "head", .int 1), (cs "back", .int 0), (cs "sort", .int 0), (cs "swap", .int 2), (cs "same", .int 0)], tupN K "WORDS" ([.str (cs "text"), .str (cs "need"), .str (cs "join"), .str (cs "head"), .str (cs "back"), .str (cs "swap")].map D.fv), bmB K "Lengths" "known"]
def exB (K : PySem.W.Frag) : Bool := (exs K).all id
theorem ex_at {K : PySem.W.Frag} (h : exB K = true) (i : Nat) {b : Bool} (e : (exs K)[i]? = some b) : b = true := List.all_eq_true.mp h b (List.mem_of_getElem? e)
abbrev R : PySem.W.OpenRow := PySem.W.OpenLaw.row PySem.Challenge.rw_maketrue_k09_main_lengths_and_letters
abbrev hk : PySem.W.Hook := He.hookX 5 fa fn ts [] exB
def ob (s : PySem.W.SharedT) : He.AlX := He.obsX 5 fa fn ts [] exB (HandSHeadRun.getT s)
theorem ob_eq (s : PySem.W.SharedT) : ob s = hk.obs s.abs := He.obsX_eq (HandSHeadRun.getT_eq s)
def loose : List Str := (["MakeError", "BadDeed", "BadLengths", "LETTERS", "MOST_NAME", "MOST_CONTENT", "MOST_DEEP", "MOST_DEEDS", "MADE", "FAULT", "LONG", "DONE", "WAITS", "PARTS", "PLAIN", "is_whole", "ascends", "_are_letters", "is_name", "is_content", "parts_of", "_is_deed", "_count", "is_deed", "Trial", "tried_by", "tried", "IS", "AT", "WORDS"] : List Str) ++ (["MOST_NAMES", "MANY", "NO_DEED", "words_in", "names_in", "word_fault", "plain_fault", "check_plain", "are_lengths", "swapped", "fresh_cells", "cells_by", "Lengths", "told", "cells_of", "_law_draws", "_law_deed", "_law_needs", "_law_inner", "_law_cells", "_law_fresh", "_law_settled", "_law_put", "_law_contents", "_law_bare", "_law_turned"] : List Str)
theorem runF (w : World) (os : OsState) : HandSHeadRun.RunEq R (PySem.W.view R.prog [60]) hk ob 4000 loose (w.withFollow "special-get-raises" false) := by
  intro os
  kernel_rfl
theorem runT (w : World) (os : OsState) : HandSHeadRun.RunEq R (PySem.W.view R.prog [60]) hk ob 4000 loose (w.withFollow "special-get-raises" true) := by
  intro os
  kernel_rfl
theorem run (w : World) : HandSHeadRun.RunEq R (PySem.W.view R.prog [60]) hk ob 4000 loose w := fun os => PySem.W.byRow2 "special-get-raises" (P := fun w => HandSHeadRun.RunEq R (PySem.W.view R.prog [60]) hk ob 4000 loose w) (fun w => runF w os) (fun w => runT w os) w os
theorem exm_of {K : PySem.W.Frag} {h : Heap} {mg : Str → Option Value} (X : K.In h) (G : h.Ns mainGlobals mg) (c : He.SaysD fa fn K) : ∀ x y b, exTab x y = some b → ExmK K mg x y b := by
  have key : ∀ z ∈ exL, ExmK K mg z.1.1 z.1.2 z.2 := by
    unfold exL
    intro z hz; cases hz
  intro x y b h
  have hm : ((x, y), b) ∈ exL := by
    unfold exTab at h
    clear key
    revert h
    induction exL with
    | nil => intro h; cases h
    | cons a l ih =>
      obtain ⟨k, v⟩ := a
      intro h
      rw [List.lookup_cons] at h
      cases q : (x, y) == k with
      | true =>
        rw [q] at h
        cases h
        rw [beq_iff_eq.mp q]
        exact List.mem_cons_self
      | false =>
        rw [q] at h
        exact List.mem_cons_of_mem _ (ih h)
  exact key _ hm
theorem facts {K : PySem.W.Frag} {w : World} {h : Heap} {mg : Str → Option Value} (X : K.In h) (G : h.Ns mainGlobals mg) (y : He.SaysX fa fn ts [] exB w h K) : Fx K w mg := by
  have t := y.t
  have c := t.d
  have ex := fun i b e => ex_at (b := b) y.more i e
  exact {
    b_abs := He.free_ok X G (c.fact 0 (f := .free "abs") rfl)
    b_all := He.free_ok X G (c.fact 1 (f := .free "all") rfl)
    b_any := He.free_ok X G (c.fact 2 (f := .free "any") rfl)
    b_bool := He.free_ok X G (c.fact 3 (f := .free "bool") rfl)
    b_dict := He.free_ok X G (c.fact 4 (f := .free "dict") rfl)
    b_enumerate := He.free_ok X G (c.fact 5 (f := .free "enumerate") rfl)
    b_int := He.free_ok X G (c.fact 6 (f := .free "int") rfl)
    b_isinstance := He.free_ok X G (c.fact 7 (f := .free "isinstance") rfl)
    b_len := He.free_ok X G (c.fact 8 (f := .free "len") rfl)
    b_list := He.free_ok X G (c.fact 9 (f := .free "list") rfl)
    b_min := He.free_ok X G (c.fact 10 (f := .free "min") rfl)
    b_range := He.free_ok X G (c.fact 11 (f := .free "range") rfl)
    b_set := He.free_ok X G (c.fact 12 (f := .free "set") rfl)
    b_sorted := He.free_ok X G (c.fact 13 (f := .free "sorted") rfl)
    b_str := He.free_ok X G (c.fact 14 (f := .free "str") rfl)
    b_sum := He.free_ok X G (c.fact 15 (f := .free "sum") rfl)
    b_tuple := He.free_ok X G (c.fact 16 (f := .free "tuple") rfl)
    b_zip := He.free_ok X G (c.fact 17 (f := .free "zip") rfl)
    d_is_whole := let ⟨fd, FD⟩ := c.def_ 0 (d := dd_is_whole) rfl; ⟨_, fd, FD, He.glo_ok X G (c.fact 18 (f := .glo "is_whole") rfl)⟩
    d_ascends := let ⟨fd, FD⟩ := c.def_ 1 (d := dd_ascends) rfl; ⟨_, fd, FD, He.glo_ok X G (c.fact 19 (f := .glo "ascends") rfl)⟩
    d__are_letters := let ⟨fd, FD⟩ := c.def_ 2 (d := dd__are_letters) rfl; ⟨_, fd, FD, He.glo_ok X G (c.fact 20 (f := .glo "_are_letters") rfl)⟩
    d_is_name := let ⟨fd, FD⟩ := c.def_ 3 (d := dd_is_name) rfl; ⟨_, fd, FD, He.glo_ok X G (c.fact 21 (f := .glo "is_name") rfl)⟩
    d_is_content := let ⟨fd, FD⟩ := c.def_ 4 (d := dd_is_content) rfl; ⟨_, fd, FD, He.glo_ok X G (c.fact 22 (f := .glo "is_content") rfl)⟩
    d_parts_of := let ⟨fd, FD⟩ := c.def_ 5 (d := dd_parts_of) rfl; ⟨_, fd, FD, He.glo_ok X G (c.fact 23 (f := .glo "parts_of") rfl)⟩
    d__is_deed := let ⟨fd, FD⟩ := c.def_ 6 (d := dd__is_deed) rfl; ⟨_, fd, FD, He.glo_ok X G (c.fact 24 (f := .glo "_is_deed") rfl)⟩
    d__count := let ⟨fd, FD⟩ := c.def_ 7 (d := dd__count) rfl; ⟨_, fd, FD, He.glo_ok X G (c.fact 25 (f := .glo "_count") rfl)⟩
    d_is_deed := let ⟨fd, FD⟩ := c.def_ 8 (d := dd_is_deed) rfl; ⟨_, fd, FD, He.glo_ok X G (c.fact 26 (f := .glo "is_deed") rfl)⟩
    d_Trial_init := let ⟨fd, FD⟩ := c.def_ 9 (d := dd_Trial_init) rfl; ⟨_, _, fd, FD, He.glo_ok X G (c.fact 27 (f := .glo "Trial") rfl), He.mkr_ok (c.fact 28 (f := .mkr "Trial") rfl)⟩
    d_Trial_ask := let ⟨fd, FD⟩ := c.def_ 10 (d := dd_Trial_ask) rfl; ⟨_, _, fd, FD, He.glo_ok X G (c.fact 27 (f := .glo "Trial") rfl), He.cls_ok (c.fact 29 (f := .cls "Trial") rfl), He.meth_ok (c.fact 30 (f := .meth "Trial" "ask") rfl)⟩
    d_Trial__bounded := let ⟨fd, FD⟩ := c.def_ 11 (d := dd_Trial__bounded) rfl; ⟨_, _, fd, FD, He.glo_ok X G (c.fact 27 (f := .glo "Trial") rfl), He.cls_ok (c.fact 29 (f := .cls "Trial") rfl), He.meth_ok (c.fact 31 (f := .meth "Trial" "_bounded") rfl)⟩
    d_Trial__all := let ⟨fd, FD⟩ := c.def_ 12 (d := dd_Trial__all) rfl; ⟨_, _, fd, FD, He.glo_ok X G (c.fact 27 (f := .glo "Trial") rfl), He.cls_ok (c.fact 29 (f := .cls "Trial") rfl), He.meth_ok (c.fact 32 (f := .meth "Trial" "_all") rfl)⟩
    d_Trial_do := let ⟨fd, FD⟩ := c.def_ 13 (d := dd_Trial_do) rfl; ⟨_, _, fd, FD, He.glo_ok X G (c.fact 27 (f := .glo "Trial") rfl), He.cls_ok (c.fact 29 (f := .cls "Trial") rfl), He.meth_ok (c.fact 33 (f := .meth "Trial" "do") rfl)⟩
    d_Trial__one := let ⟨fd, FD⟩ := c.def_ 14 (d := dd_Trial__one) rfl; ⟨_, _, fd, FD, He.glo_ok X G (c.fact 27 (f := .glo "Trial") rfl), He.cls_ok (c.fact 29 (f := .cls "Trial") rfl), He.meth_ok (c.fact 34 (f := .meth "Trial" "_one") rfl)⟩
    d_tried_by := let ⟨fd, FD⟩ := c.def_ 15 (d := dd_tried_by) rfl; ⟨_, fd, FD, He.glo_ok X G (c.fact 35 (f := .glo "tried_by") rfl)⟩
    d_tried := let ⟨fd, FD⟩ := c.def_ 16 (d := dd_tried) rfl; ⟨_, fd, FD, He.glo_ok X G (c.fact 36 (f := .glo "tried") rfl)⟩
    d_words_in := let ⟨fd, FD⟩ := c.def_ 17 (d := dd_words_in) rfl; ⟨_, fd, FD, He.glo_ok X G (c.fact 37 (f := .glo "words_in") rfl)⟩
    d_names_in := let ⟨fd, FD⟩ := c.def_ 18 (d := dd_names_in) rfl; ⟨_, fd, FD, He.glo_ok X G (c.fact 38 (f := .glo "names_in") rfl)⟩
    d_word_fault := let ⟨fd, FD⟩ := c.def_ 19 (d := dd_word_fault) rfl; ⟨_, fd, FD, He.glo_ok X G (c.fact 39 (f := .glo "word_fault") rfl)⟩
    d_plain_fault := let ⟨fd, FD⟩ := c.def_ 20 (d := dd_plain_fault) rfl; ⟨_, fd, FD, He.glo_ok X G (c.fact 40 (f := .glo "plain_fault") rfl)⟩
    d_check_plain := let ⟨fd, FD⟩ := c.def_ 21 (d := dd_check_plain) rfl; ⟨_, fd, FD, He.glo_ok X G (c.fact 41 (f := .glo "check_plain") rfl)⟩
    d_are_lengths := let ⟨fd, FD⟩ := c.def_ 22 (d := dd_are_lengths) rfl; ⟨_, fd, FD, He.glo_ok X G (c.fact 42 (f := .glo "are_lengths") rfl)⟩
    d_swapped := let ⟨fd, FD⟩ := c.def_ 23 (d := dd_swapped) rfl; ⟨_, fd, FD, He.glo_ok X G (c.fact 43 (f := .glo "swapped") rfl)⟩
    d_fresh_cells := let ⟨fd, FD⟩ := c.def_ 24 (d := dd_fresh_cells) rfl; ⟨_, fd, FD, He.glo_ok X G (c.fact 44 (f := .glo "fresh_cells") rfl)⟩
    d_cells_by := let ⟨fd, FD⟩ := c.def_ 25 (d := dd_cells_by) rfl; ⟨_, fd, FD, He.glo_ok X G (c.fact 45 (f := .glo "cells_by") rfl)⟩
    d_Lengths_init := let ⟨fd, FD⟩ := c.def_ 26 (d := dd_Lengths_init) rfl; ⟨_, _, fd, FD, He.glo_ok X G (c.fact 46 (f := .glo "Lengths") rfl), He.mkr_ok (c.fact 47 (f := .mkr "Lengths") rfl)⟩
    d_Lengths_known := let ⟨fd, FD⟩ := c.def_ 27 (d := dd_Lengths_known) rfl; ⟨_, _, fd, FD, He.glo_ok X G (c.fact 46 (f := .glo "Lengths") rfl), He.cls_ok (c.fact 48 (f := .cls "Lengths") rfl), He.meth_ok (c.fact 49 (f := .meth "Lengths" "known") rfl)⟩
    d_told := let ⟨fd, FD⟩ := c.def_ 28 (d := dd_told) rfl; ⟨_, fd, FD, He.glo_ok X G (c.fact 50 (f := .glo "told") rfl)⟩
    d_cells_of := let ⟨fd, FD⟩ := c.def_ 29 (d := dd_cells_of) rfl; ⟨_, fd, FD, He.glo_ok X G (c.fact 51 (f := .glo "cells_of") rfl)⟩
    d__law_draws := let ⟨fd, FD⟩ := c.def_ 30 (d := dd__law_draws) rfl; ⟨_, fd, FD, He.glo_ok X G (c.fact 52 (f := .glo "_law_draws") rfl)⟩
    d__law_deed := let ⟨fd, FD⟩ := c.def_ 31 (d := dd__law_deed) rfl; ⟨_, fd, FD, He.glo_ok X G (c.fact 53 (f := .glo "_law_deed") rfl)⟩
    d__law_needs := let ⟨fd, FD⟩ := c.def_ 32 (d := dd__law_needs) rfl; ⟨_, fd, FD, He.glo_ok X G (c.fact 54 (f := .glo "_law_needs") rfl)⟩
    d__law_inner := let ⟨fd, FD⟩ := c.def_ 33 (d := dd__law_inner) rfl; ⟨_, fd, FD, He.glo_ok X G (c.fact 55 (f := .glo "_law_inner") rfl)⟩
    d__law_contents := let ⟨fd, FD⟩ := c.def_ 34 (d := dd__law_contents) rfl; ⟨_, fd, FD, He.glo_ok X G (c.fact 56 (f := .glo "_law_contents") rfl)⟩
    d__law_bare := let ⟨fd, FD⟩ := c.def_ 35 (d := dd__law_bare) rfl; ⟨_, fd, FD, He.glo_ok X G (c.fact 57 (f := .glo "_law_bare") rfl)⟩
    d__law_turned := let ⟨fd, FD⟩ := c.def_ 36 (d := dd__law_turned) rfl; ⟨_, fd, FD, He.glo_ok X G (c.fact 58 (f := .glo "_law_turned") rfl)⟩
    d_law := let ⟨fd, FD⟩ := c.def_ 37 (d := dd_law) rfl; ⟨_, fd, FD, He.glo_ok X G (c.fact 59 (f := .glo "law") rfl)⟩
    g_AT := glb_str X G (c.fact 60 (f := .str "AT" (st (cs "at"))) rfl)
    g_DONE := glb_str X G (c.fact 61 (f := .str "DONE" (st (cs "done"))) rfl)
    g_FAULT := glb_str X G (c.fact 62 (f := .str "FAULT" (st (cs "fault"))) rfl)
    g_IS := glb_str X G (c.fact 63 (f := .str "IS" (st (cs "is"))) rfl)
    g_LETTERS := glb_str X G (c.fact 64 (f := .str "LETTERS" (st (cs "abcdefghijklmnopqrstuvwxyz"))) rfl)
    g_LONG := glb_tup X G (c.fact 65 (f := .glo "LONG") rfl) (ex_at y.more 0 rfl) rfl
    g_MADE := glb_str X G (c.fact 66 (f := .str "MADE" (st (cs "made"))) rfl)
    g_MANY := glb_tup X G (c.fact 67 (f := .glo "MANY") rfl) (ex_at y.more 1 rfl) rfl
    g_MOST_CONTENT := glb_int X G (c.fact 68 (f := .int "MOST_CONTENT" 40) rfl)
    g_MOST_DEEDS := glb_int X G (c.fact 69 (f := .int "MOST_DEEDS" 30) rfl)
    g_MOST_DEEP := glb_int X G (c.fact 70 (f := .int "MOST_DEEP" 5) rfl)
    g_MOST_NAME := glb_int X G (c.fact 71 (f := .int "MOST_NAME" 8) rfl)
    g_MOST_NAMES := glb_int X G (c.fact 72 (f := .int "MOST_NAMES" 2) rfl)
    g_NO_DEED := glb_tup X G (c.fact 73 (f := .glo "NO_DEED") rfl) (ex_at y.more 2 rfl) rfl
    g_PARTS := glb_tab X G (c.fact 74 (f := .glo "PARTS") rfl) (saysT_tab t 0) (ex_at y.more 3 rfl) rfl
    g_PLAIN := glb_tab X G (c.fact 75 (f := .glo "PLAIN") rfl) (saysT_tab t 1) (ex_at y.more 4 rfl) rfl
    g_WAITS := glb_str X G (c.fact 76 (f := .str "WAITS" (st (cs "waits"))) rfl)
    g_WORDS := glb_tup X G (c.fact 77 (f := .glo "WORDS") rfl) (ex_at y.more 5 rfl) rfl
    f_Lengths_lengths := fldK_of X G (c.fact 46 (f := .glo "Lengths") rfl) (c.fact 48 (f := .cls "Lengths") rfl) (c.fact 78 (f := .noat "Lengths" "lengths") rfl)
    f_Trial_end := fldK_of X G (c.fact 27 (f := .glo "Trial") rfl) (c.fact 29 (f := .cls "Trial") rfl) (c.fact 79 (f := .noat "Trial" "end") rfl)
    f_Trial_known := fldK_of X G (c.fact 27 (f := .glo "Trial") rfl) (c.fact 29 (f := .cls "Trial") rfl) (c.fact 80 (f := .noat "Trial" "known") rfl)
    f_Trial_needs := fldK_of X G (c.fact 27 (f := .glo "Trial") rfl) (c.fact 29 (f := .cls "Trial") rfl) (c.fact 81 (f := .noat "Trial" "needs") rfl)
    f_Trial_rules := fldK_of X G (c.fact 27 (f := .glo "Trial") rfl) (c.fact 29 (f := .cls "Trial") rfl) (c.fact 82 (f := .noat "Trial" "rules") rfl)
    bm_Lengths_known := bmK_of X G (c.fact 46 (f := .glo "Lengths") rfl) (c.fact 48 (f := .cls "Lengths") rfl) (c.fact 49 (f := .meth "Lengths" "known") rfl) (ex_at y.more 6 rfl) (by decide)
    x_BadDeed := xcK_of X G (c.fact 83 (f := .glo "BadDeed") rfl) (c.fact 84 (f := .exc "BadDeed") rfl)
    h_BadDeed := ⟨_, He.glo_ok X G (c.fact 83 (f := .glo "BadDeed") rfl)⟩
    x_BadLengths := xcK_of X G (c.fact 85 (f := .glo "BadLengths") rfl) (c.fact 86 (f := .exc "BadLengths") rfl)
    h_BadLengths := ⟨_, He.glo_ok X G (c.fact 85 (f := .glo "BadLengths") rfl)⟩
    exm := exm_of X G c }
end VX.K09
set_option Elab.async false
set_option linter.all false
set_option maxRecDepth 100000
namespace VX.K09
open PySem PySem.Spec PyProof.Rows L2
abbrev pv (d : D) : M SV := M.pure (.dat d)
@[simp] theorem lkP : look G_PARTS = M.pure G_PARTS := rfl
@[simp] theorem lkL : look G_PLAIN = M.pure G_PLAIN := rfl
@[simp] theorem lkE : look G_LETTERS = M.pure G_LETTERS := rfl
theorem parts_out {w : List Nat} {r : List D} (h1 : inB (.str w) G_PARTS = some false) : F_parts_of [.tup (.str w :: r)] = pv (.tup []) := by
  unfold F_parts_of g_parts_of
  rw [fnB_eq]
  simp [List.replicate, h1, small_le]
theorem parts_in {w : List Nat} {as ps : List D} {n : Nat} (h1 : inB (.str w) G_PARTS = some true) (h2 : ixD G_PLAIN (.str w) = some (.int n)) (ha : as.length = n) : F_parts_of [.tup (.str w :: (as ++ ps))] = pv (.tup ps) := by
  unfold F_parts_of g_parts_of
  rw [fnB_eq]
  have c : slF (.tup (.str w :: (as ++ ps))) (some (1 + (n : Int))) none = some (.dat (.tup ps)) := by
    have e : (1 + (n : Int)) = ((n + 1 : Nat) : Int) := by omega
    rw [e]
    show some (SV.dat (.tup (cut _ _ _))) = _
    rw [cut_from _ (by simp; omega)]
    simp [← ha]
  simp [List.replicate, h1, h2, addF, c]
/-- deeds -/
inductive Dd where
  | text (s : List Nat) | need (n : List Nat) | named (d : Dd) | join (a b : Dd) | head (k : Nat) (a : Dd) | back (a : Dd) | sort (a : Dd) | swap (x y : Nat) (a : Dd) | same (a b c d : Dd)
def enc : Dd → D
  | .text s => .tup [.str (cs "text"), .str s]
  | .need n => .tup [.str (cs "need"), .str n]
  | .named a => .tup [.str (cs "named"), enc a]
  | .join a b => .tup [.str (cs "join"), enc a, enc b]
  | .head k a => .tup [.str (cs "head"), .int k, enc a]
  | .back a => .tup [.str (cs "back"), enc a]
  | .sort a => .tup [.str (cs "sort"), enc a]
  | .swap x y a => .tup [.str (cs "swap"), .str [x], .str [y], enc a]
  | .same a b c d => .tup [.str (cs "same"), enc a, enc b, enc c, enc d]
def Dd.parts : Dd → List Dd
  | .text _ => []
  | .need _ => []
  | .named a => [a]
  | .join a b => [a, b]
  | .head _ a => [a]
  | .back a => [a]
  | .sort a => [a]
  | .swap _ _ a => [a]
  | .same a b c d => [a, b, c, d]
def Dd.word : Dd → List Nat
  | .text _ => cs "text"
  | .need _ => cs "need"
  | .named _ => cs "named"
  | .join _ _ => cs "join"
  | .head _ _ => cs "head"
  | .back _ => cs "back"
  | .sort _ => cs "sort"
  | .swap _ _ _ => cs "swap"
  | .same _ _ _ _ => cs "same"
theorem parts_enc (d : Dd) : F_parts_of [enc d] = pv (.tup (d.parts.map enc)) := by
  cases d with
  | text s => exact parts_out rfl
  | need s => exact parts_out rfl
  | named a => exact parts_in (as := []) (n := 0) rfl rfl rfl
  | join a b => exact parts_in (as := []) (n := 0) rfl rfl rfl
  | head k a => exact parts_in (as := [.int k]) (n := 1) rfl rfl rfl
  | back a => exact parts_in (as := []) (n := 0) rfl rfl rfl
  | sort a => exact parts_in (as := []) (n := 0) rfl rfl rfl
  | swap x y a => exact parts_in (as := [.str [x], .str [y]]) (n := 2) rfl rfl rfl
  | same a b c d => exact parts_in (as := []) (n := 0) rfl rfl rfl
/-! ### _count -/
mutual
def Dd.size : Dd → Nat
  | .text _ => 1
  | .need _ => 1
  | .named a => 1 + a.size
  | .join a b => 1 + (a.size + b.size)
  | .head _ a => 1 + a.size
  | .back a => 1 + a.size
  | .sort a => 1 + a.size
  | .swap _ _ a => 1 + a.size
  | .same a b c d => 1 + (a.size + (b.size + (c.size + d.size)))
end
def Dd.ht : Dd → Nat
  | .text _ => 0
  | .need _ => 0
  | .named a => a.ht + 1
  | .join a b => max a.ht b.ht + 1
  | .head _ a => a.ht + 1
  | .back a => a.ht + 1
  | .sort a => a.ht + 1
  | .swap _ _ a => a.ht + 1
  | .same a b c d => max (max a.ht b.ht) (max c.ht d.ht) + 1
theorem ht_parts {d e : Dd} (h : e ∈ d.parts) : e.ht < d.ht := by
  cases d <;> simp [Dd.parts] at h <;> simp [Dd.ht] <;> (try subst h) <;> (try omega)
  · rcases h with rfl | rfl <;> omega
  · rcases h with rfl | rfl | rfl | rfl <;> omega
theorem size_parts (d : Dd) : (d.parts.map fun e => (e.size : Int)).sum + 1 = d.size := by
  cases d <;> simp [Dd.parts, Dd.size] <;> omega
theorem intsOf_map (ns : List Int) : D.intsOf (ns.map D.int) = some ns := by
  induction ns with
  | nil => rfl
  | cons n ns ih => simp [D.intsOf, ih]
theorem parts_len (d : Dd) : d.parts.length ≤ 4 := by cases d <;> simp [Dd.parts]
theorem count_enc : ∀ (n : Nat) (d : Dd), d.ht < n → R__count n 0 [enc d] = pv (.int d.size)
  | 0, _, h => by omega
  | n + 1, d, h => by
    unfold R__count
    rw [fnB_eq]
    unfold h__count
    have hc : ∀ env : Env, env = drp [1] [some (SV.dat (enc d)), none] → compL (gnam 1) yesT (frz (callF (R__count n 0) (consA (evar 1) nilA))) env (d.parts.map enc) = M.pure (d.parts.map fun e => D.int e.size) := by
      intro env he
      subst he
      refine compL_of enc (fun e => D.int e.size) _ fun e he => ⟨_, rfl, rfl, ?_⟩
      have := count_enc n e (by have := ht_parts he; omega)
      simp [drp, this]
    have hs : sumD (.lst (d.parts.map fun e => D.int e.size)) = some (.int (d.parts.map fun e => (e.size : Int)).sum) := by
      have : (d.parts.map fun e => D.int e.size) = (d.parts.map fun e => (e.size : Int)).map D.int := by simp
      unfold sumD
      rw [this]
      dsimp only
      rw [intsOf_map]
      rfl
    have hl : d.parts.length ≤ sizeLine := small_le (by have := parts_len d; omega)
    have sp := size_parts d
    simp [List.replicate, parts_enc, D.items, hc, hs, hl, addF]
    show pv (.int (1 + _)) = pv (.int d.size)
    rw [← sp, Int.add_comm]

/-! ### letters, names, contents -/
def lets : List Nat := cs "abcdefghijklmnopqrstuvwxyz"
theorem bools_map (bs : List Bool) : D.bools (bs.map D.bl) = some bs := by
  induction bs with
  | nil => rfl
  | cons n ns ih => simp [D.bools, ih]
def okLet (s : List Nat) (a b : Nat) : Bool := (decide (a ≤ s.length) && decide (s.length ≤ b)) && s.all fun c => decide (c ∈ lets)
theorem are_letters_str (s : List Nat) (a b : Nat) (hs : s.length ≤ 1000) : F__are_letters [.str s, .int a, .int b] = pv (.bl (okLet s a b)) := by
  unfold F__are_letters g__are_letters
  rw [fnB_eq]
  have hl : s.length ≤ sizeLine := small_le (by omega)
  have hc : ∀ env : Env, env = drp [3] [some (SV.dat (.str s)), some (.dat (.int a)), some (.dat (.int b)), none] → compL (gnam 3) yesT (cmpE inB (evar 3) (ecst G_LETTERS)) env (s.map fun c => D.str [c]) = M.pure (s.map fun c => D.bl (decide (c ∈ lets))) := by
    intro env he
    subst he
    refine compL_of _ _ _ fun c hc => ⟨_, rfl, rfl, ?_⟩
    simp [drp, G_LETTERS, inB, lets]
    congr
  have hb : allD (.lst (s.map fun c => D.bl (decide (c ∈ lets)))) = some (.bl (s.all fun c => decide (c ∈ lets))) := by
    have : (s.map fun c => D.bl (decide (c ∈ lets))) = (s.map fun c => decide (c ∈ lets)).map D.bl := by simp
    unfold allD
    rw [this]
    dsimp only
    rw [bools_map]
    simp
  simp [List.replicate, isiB, D.ty, isiS, D.asB, leB, lenD, hl, D.items, hc, hb]
  unfold okLet
  by_cases h1 : a ≤ s.length <;> by_cases h2 : s.length ≤ b <;> simp [h1, h2]
theorem is_name_str (s : List Nat) (hs : s.length ≤ 1000) : F_is_name [.str s] = pv (.bl (okLet s 1 8)) := by
  unfold F_is_name g_is_name
  rw [fnB_eq]
  have := are_letters_str s 1 8 hs
  simp [List.replicate, G_MOST_NAME] at this ⊢
  rw [this]
  rfl
theorem is_content_str (s : List Nat) (hs : s.length ≤ 1000) : F_is_content [.str s] = pv (.bl (okLet s 0 40)) := by
  unfold F_is_content g_is_content
  rw [fnB_eq]
  have := are_letters_str s 0 40 hs
  simp [List.replicate, G_MOST_CONTENT] at this ⊢
  rw [this]
  rfl
theorem is_whole_int (i : Int) (a b : Int) : F_is_whole [.int i, .int a, .int b] = pv (.bl (decide (a ≤ i) && decide (i ≤ b))) := by
  unfold F_is_whole g_is_whole
  rw [fnB_eq]
  simp [List.replicate, isiB, D.ty, isiS, D.asB, leB]
  by_cases h : a ≤ i <;> simp [h]
theorem is_whole_bl (i : Bool) (a b : Int) : F_is_whole [.bl i, .int a, .int b] = pv (.bl false) := by
  unfold F_is_whole g_is_whole
  rw [fnB_eq]
  simp [List.replicate, isiB, D.ty, isiS, D.asB]
/-! ### words -/
def Dd.words : Dd → List (List Nat)
  | .text _ => [cs "text"]
  | .need _ => [cs "need"]
  | .named a => cs "named" :: a.words
  | .join a b => cs "join" :: (a.words ++ b.words)
  | .head _ a => cs "head" :: a.words
  | .back a => cs "back" :: a.words
  | .sort a => cs "sort" :: a.words
  | .swap _ _ a => cs "swap" :: a.words
  | .same a b c d => cs "same" :: (a.words ++ (b.words ++ (c.words ++ d.words)))
theorem words_parts (d : Dd) : d.words = d.word :: (d.parts.map Dd.words).flatten := by
  cases d <;> simp [Dd.parts, Dd.words, Dd.word]
theorem words_len (d : Dd) : d.words.length = d.size := by
  induction d <;> simp [Dd.words, Dd.size] <;> omega
theorem enc_ix0 (d : Dd) : ixD (enc d) (.int 0) = some (.str d.word) := by
  cases d <;> simp [enc, Dd.word]
theorem look_enc (d : Dd) : look (enc d) = M.pure (enc d) := by cases d <;> rfl
theorem size_le {d e : Dd} (h : e ∈ d.parts) : e.size < d.size := by
  cases d <;> simp [Dd.parts] at h <;> simp [Dd.size] <;> (try subst h) <;> (try omega)
  · rcases h with rfl | rfl <;> omega
  · rcases h with rfl | rfl | rfl | rfl <;> omega
theorem words_enc : ∀ (n : Nat) (d : Dd), d.ht < n → d.size ≤ 1000 → R_words_in n 0 [enc d] = M.pure (.lst (d.words.map D.str))
  | 0, _, h, _ => by omega
  | n + 1, d, h, hz => by
    unfold R_words_in
    rw [fnB_eq]
    unfold h_words_in
    have hf : ∀ (l : List Dd) (acc : List (List Nat)) (x : Option SV), (∀ e ∈ l, e ∈ d.parts) → acc.length + (l.map Dd.words).flatten.length ≤ 1000 →
        ∃ x', forL (gnam 2) (sExt 1 (frz (callF (R_words_in n 0) (consA (evar 2) nilA)))) (l.map enc) [some (.dat (enc d)), some (.lst (acc.map D.str)), x] = eNx [some (.dat (enc d)), some (.lst ((acc ++ (l.map Dd.words).flatten).map D.str)), x'] := by
      intro l
      induction l with
      | nil => intro acc x _ _; exact ⟨x, by simp⟩
      | cons a l ih =>
        intro acc x hl hz'
        have hp := hl a List.mem_cons_self
        have ha := words_enc n a (by have := ht_parts hp; omega) (by have := size_le hp; omega)
        simp only [List.map_cons, List.flatten_cons, List.length_append] at hz'
        obtain ⟨x', e⟩ := ih (acc ++ a.words) (some (.dat (enc a))) (fun e he => hl e (List.mem_cons_of_mem _ he)) (by simp only [List.length_append]; omega)
        refine ⟨x', ?_⟩
        rw [List.map_cons, forL_cons _ _ _ _ _ _ rfl]
        have hle : acc.length + a.words.length ≤ sizeLine := small_le (by omega)
        have e2 : sExt 1 (frz (callF (R_words_in n 0) (consA (evar 2) nilA))) ([some (.dat (enc d)), some (.lst (acc.map D.str)), x].set 2 (some (.dat (enc a)))) = eNx [some (.dat (enc d)), some (.lst ((acc ++ a.words).map D.str)), some (.dat (enc a))] := by
          unfold sExt
          simp [ha, hle]
        rw [e2, for_nx, e]
        simp [List.append_assoc]
    have hw : (d.parts.map Dd.words).flatten.length + 1 = d.size := by
      have := words_len d
      rw [words_parts] at this
      simpa using this
    obtain ⟨x', e⟩ := hf d.parts [d.word] none (fun _ h => h) (by rw [List.length_singleton]; omega)
    have one : (1 : Nat) ≤ sizeLine := small_le (by omega)
    simp at e
    simp [List.replicate, parts_enc, D.items, look_enc, enc_ix0, one, e]
    rw [words_parts d]
    simp

/-! ### names -/
def Dd.nm : Dd → List (List Nat)
  | .text _ => []
  | .need n => [n]
  | .named a => canon a.nm
  | .join a b => canon (a.nm ++ b.nm)
  | .head _ a => canon a.nm
  | .back a => canon a.nm
  | .sort a => canon a.nm
  | .swap _ _ a => canon a.nm
  | .same a b c d => canon (a.nm ++ (b.nm ++ (c.nm ++ d.nm)))
theorem nm_parts (d : Dd) (h : d.word ≠ cs "need") : d.nm = canon (d.parts.map Dd.nm).flatten := by
  cases d <;> simp [Dd.parts, Dd.nm] <;> first | rfl | exact absurd rfl h
theorem nm_len (d : Dd) : d.nm.length ≤ d.size := by
  induction d <;> simp only [Dd.nm, Dd.size, List.length_nil, List.length_singleton] <;> (try omega)
  all_goals (refine Nat.le_trans (canon_len _) ?_; (try simp only [List.length_append]); omega)
theorem eqWord (d : Dd) (z : String) : eqB (.str d.word) (.str (cs z)) = some (decide (d.word = cs z)) := by
  cases d <;> simp only [Dd.word] <;> rw [eqB_str (cs_ok _) (cs_ok _)] <;> congr
theorem enc_need {d : Dd} (h : d.word = cs "need") : ∃ n, d = .need n := by
  cases d <;> simp only [Dd.word] at h <;> first | exact ⟨_, rfl⟩ | exact absurd (cs_inj h) (by decide)
theorem names_enc : ∀ (n : Nat) (d : Dd), d.ht < n → d.size < 64 → R_names_in n 0 [enc d] = M.pure (.lst (d.nm.map D.str))
  | 0, _, h, _ => by omega
  | n + 1, d, h, hz => by
    unfold R_names_in
    rw [fnB_eq]
    unfold h_names_in
    by_cases hw : d.word = cs "need"
    · obtain ⟨s, rfl⟩ := enc_need hw
      have one : (1 : Nat) ≤ sizeLine := small_le (by omega)
      simp [List.replicate, enc, one, Dd.nm]
    · have hi : ∀ env : Env, env = drp [1, 2] [some (SV.dat (enc d)), none, none] → compP2 (gnam 1) yesT [2] (itm (frz (callF (R_names_in n 0) (consA (evar 1) nilA)))) (gnam 2) yesT (evar 2) (ecst (.bl true)) env (d.parts.map enc) =
          M.pure (d.parts.map fun e => e.nm.map fun s => (KS.str s, D.bl true)).flatten := by
        intro env he
        subst he
        refine compP2_of enc _ _ fun e he => ?_
        have hp := names_enc n e (by have := ht_parts he; omega) (by have := size_le he; omega)
        refine ⟨_, e.nm.map D.str, rfl, rfl, by simp [drp, hp, D.items], ?_⟩
        refine compP_of D.str (fun s => (KS.str s, D.bl true)) _ fun s hs => ⟨_, .str s, rfl, rfl, ?_, rfl, rfl⟩
        simp [drp, dOnly]
      have hv : ((d.parts.map fun e => e.nm.map fun s => (KS.str s, D.bl true)).flatten.map (·.1)) = (d.parts.map Dd.nm).flatten.map KS.str := by
        rw [List.map_flatten, List.map_flatten, List.map_map, List.map_map]
        congr 1
        apply List.map_congr_left
        intro e _
        simp
      have hlen : (d.parts.map Dd.nm).flatten.length < 64 := by
        have h1 : ∀ l : List Dd, (l.map Dd.nm).flatten.length ≤ (l.map Dd.size).sum := by
          intro l
          induction l with
          | nil => simp
          | cons a l ih =>
            have := nm_len a
            simp only [List.map_cons, List.flatten_cons, List.length_append, List.sum_cons]
            omega
        have h2 : (d.parts.map Dd.size).sum < d.size := by cases d <;> simp [Dd.parts, Dd.size] <;> omega
        have := h1 d.parts
        omega
      have hs := sortF_keys _ _ hv hlen
      have hl2 : (d.parts.map fun e => e.nm.map fun s => (KS.str s, D.bl true)).flatten.length ≤ sizeLine := by
        have : (d.parts.map fun e => e.nm.map fun s => (KS.str s, D.bl true)).flatten.length = (d.parts.map Dd.nm).flatten.length := by
          have := congrArg List.length hv
          simpa only [List.length_map] using this
        rw [this]
        exact small_le (by omega)
      have he := eqWord d "need"
      rw [decide_eq_false hw] at he
      rw [nm_parts d hw]
      simp only [List.replicate, sSeq_eq, sIf_eq, op2B_eq, evar_eq, ecst_eq, List.map_cons, List.map_nil, List.length_cons, List.length_nil, List.cons_append, List.nil_append, List.getElem?_cons_zero, op2_eq, m_pb, look_enc, look_int, look_str, enc_ix0, m_os, he, lift_p, sNx_eq, seq_nx, sRetF_eq, op1F_eq, frz_eq, dc2F_eq, itm_eq, callF_eq, consA_eq, nilA_eq, parts_enc, svd1, D.items, hi, noX_pure, hl2, if_true, svd3, look_dct, hs, fn_rt, Bool.false_eq_true, if_false]

/-! ### what a deed is -/
def Dd.okP : Dd → Prop
  | .text s => okLet s 0 40 = true
  | .need n => okLet n 1 8 = true
  | .named a => a.okP
  | .join a b => a.okP ∧ b.okP
  | .head k a => k ≤ 40 ∧ a.okP
  | .back a => a.okP
  | .sort a => a.okP
  | .swap x y a => (x ∈ lets ∧ y ∈ lets) ∧ a.okP
  | .same a b c d => a.okP ∧ b.okP ∧ c.okP ∧ d.okP
theorem okLet_len {s : List Nat} {a b : Nat} (h : okLet s a b = true) : s.length ≤ b := by
  unfold okLet at h
  simp only [Bool.and_eq_true, decide_eq_true_eq] at h
  exact h.1.2
theorem okLet_mem {s : List Nat} {a b : Nat} (h : okLet s a b = true) : ∀ c ∈ s, c ∈ lets := by
  unfold okLet at h
  simp only [Bool.and_eq_true, decide_eq_true_eq, List.all_eq_true] at h
  exact h.2
theorem okP_parts {d e : Dd} (h : d.okP) (he : e ∈ d.parts) : e.okP := by
  cases d <;> simp [Dd.parts] at he <;> simp only [Dd.okP] at h
  · subst he; exact h
  · rcases he with rfl | rfl
    · exact h.1
    · exact h.2
  · subst he; exact h.2
  · subst he; exact h
  · subst he; exact h
  · subst he; exact h.2
  · rcases he with rfl | rfl | rfl | rfl
    · exact h.1
    · exact h.2.1
    · exact h.2.2.1
    · exact h.2.2.2
def Dd.leaf : Dd → Bool
  | .text _ => true
  | .need _ => true
  | _ => false
def Dd.np : Dd → Nat
  | .head _ _ => 1
  | .swap _ _ _ => 2
  | _ => 0
theorem w_plain (d : Dd) : notInB (.str d.word) G_PLAIN = some false := by cases d <;> rfl
theorem w_parts (d : Dd) : notInB (.str d.word) G_PARTS = some d.leaf := by cases d <;> rfl
theorem w_np (d : Dd) : ixD G_PLAIN (.str d.word) = some (.int d.np) := by cases d <;> rfl
theorem w_nq {d : Dd} (h : d.leaf = false) : ixD G_PARTS (.str d.word) = some (.int d.parts.length) := by cases d <;> first | rfl | cases h
theorem w_len {d : Dd} (h : d.leaf = false) : lenD (enc d) = some (.int (1 + d.np + d.parts.length)) := by cases d <;> first | rfl | cases h
theorem w_len0 (d : Dd) : ∃ k : Nat, lenD (enc d) = some (.int (k + 1)) := by cases d <;> exact ⟨_, rfl⟩
theorem w_tup (d : Dd) : isiB "tuple" (enc d) = some true := by cases d <;> rfl
theorem is_deed_enc : ∀ (n : Nat) (d : Dd) (deep : Nat), d.ht < n → d.ht ≤ deep → d.okP → R__is_deed n 0 [enc d, .int deep] = pv (.bl true)
  | 0, _, _, h, _, _ => by omega
  | n + 1, d, deep, h, hd, ok => by
    unfold R__is_deed
    rw [fnB_eq]
    unfold h__is_deed
    obtain ⟨k, hk⟩ := w_len0 d
    have hk0 : ¬ ((k : Int) + 1 = 0) := by omega
    have is_ : isiB "str" (.str d.word) = some true := rfl
    by_cases hl : d.leaf = true
    · cases d <;> first | cases hl | skip
      · rename_i s
        have hs : s.length ≤ 1000 := by have := okLet_len ok; omega
        have ok : okLet s 0 40 = true := ok
        have c1 : notInB (.str (cs "text")) G_PLAIN = some false := rfl
        have c2 : notInB (.str (cs "text")) G_PARTS = some true := rfl
        simp [List.replicate, enc, isiB, D.ty, isiS, D.asB, lenD, c1, c2, is_content_str s hs, ok]
      · rename_i s
        have hs : s.length ≤ 1000 := by have := okLet_len ok; omega
        have ok : okLet s 1 8 = true := ok
        have c1 : notInB (.str (cs "need")) G_PLAIN = some false := rfl
        have c2 : notInB (.str (cs "need")) G_PARTS = some true := rfl
        simp [List.replicate, enc, isiB, D.ty, isiS, D.asB, lenD, c1, c2, is_name_str s hs, ok]
    · have hl : d.leaf = false := by cases h : d.leaf <;> simp_all
      have hlen := w_len hl
      have hq := w_nq hl
      have hdeep : ¬ ((deep : Int) = 0) := by
        have : 0 < d.ht := by cases d <;> simp [Dd.ht] <;> cases hl
        omega
      have hc : ∀ env : Env, env = drp [2] [some (SV.dat (enc d)), some (.dat (.int deep)), none] → compL (gnam 2) yesT (frz (callF (R__is_deed n 0) (consA (evar 2) (consA (op2 subD (evar 1) (ecst (.int 1))) nilA)))) env (d.parts.map enc) = M.pure (d.parts.map fun _ => D.bl true) := by
        intro env he
        subst he
        refine compL_of enc _ _ fun e he => ⟨_, rfl, rfl, ?_⟩
        have hp := ht_parts he
        have ih := is_deed_enc n e (deep - 1) (by omega) (by omega) (okP_parts ok he)
        have e1 : (deep : Int) - 1 = ((deep - 1 : Nat) : Int) := by omega
        simp [drp, subD, intOp, e1, ih]
      have hb : allD (.lst (d.parts.map fun _ => D.bl true)) = some (.bl true) := by
        have : (d.parts.map fun _ => D.bl true) = (d.parts.map fun _ => true).map D.bl := by simp
        unfold allD
        rw [this]
        dsimp only
        rw [bools_map]
        simp
      have hpl : d.parts.length ≤ sizeLine := small_le (by have := parts_len d; omega)
      have hdeepN : ¬ deep = 0 := by omega
      have hz : ¬ ((1 : Int) + d.np + d.parts.length = 0) := by omega
      have eh := eqWord d "head"
      have es := eqWord d "swap"
      have body : ∀ b c : Bool, (b = true → ∃ j : Nat, ixD (enc d) (.int 1) = some (.int j) ∧ j ≤ 40) → (c = true → ∃ x y a, d = .swap x y a) → eqB (.str d.word) (.str (cs "head")) = some b → eqB (.str d.word) (.str (cs "swap")) = some c →
          fnF (h__is_deed (R__is_deed n) [some (.dat (enc d)), some (.dat (.int deep)), none]) = pv (.bl true) := by
        intro b c hb1 hc1 e1 e2
        unfold h__is_deed
        cases b with
        | true =>
          obtain ⟨j, hj, hj2⟩ := hb1 rfl
          cases c with
          | true => obtain ⟨x, y, a, rfl⟩ := hc1 rfl; simp [Dd.word] at e1
          | false =>
            have := is_whole_int j 0 40
            have hj3 : ¬ ((40 : Int) < j) := by omega
            simp [hz, hdeepN, hj3, isiE_eq, w_tup, look_enc, D.asB, enc_ix0, is_, w_plain, w_parts, hl, hlen, w_np, hq, addF, neB_int, hdeep, e1, e2, hj, G_MOST_CONTENT, this, hj2, parts_enc, D.items, hc, hpl, hb, look_int]
        | false =>
          cases c with
          | true =>
            obtain ⟨x, y, a, rfl⟩ := hc1 rfl
            have hx : x ∈ lets ∧ y ∈ lets := ok.1
            have l1 : ∀ z : Nat, z ∈ lets → F__are_letters [.str [z], .int 1, .int 1] = pv (.bl true) := fun z hz => by
              have := are_letters_str [z] 1 1 (by simp)
              simp [okLet, hz] at this
              exact this
            have hcut : slF (enc (.swap x y a)) (some 1) (some 3) = some (.dat (.tup [.str [x], .str [y]])) := rfl
            have hc2 : compL (gnam 2) yesT (frz (callF F__are_letters (consA (evar 2) (consA (ecst (.int 1)) (consA (ecst (.int 1)) nilA))))) [some (SV.dat (enc (.swap x y a))), some (.dat (.int deep)), none] [D.str [x], D.str [y]] = M.pure [D.bl true, D.bl true] := by
              simp [compL, l1 x hx.1, l1 y hx.2]
            have two : (2 : Nat) ≤ sizeLine := small_le (by omega)
            have hc3 := hc [some (SV.dat (enc (.swap x y a))), some (.dat (.int deep)), none] rfl
            have hb2 : allD (.lst [D.bl true, D.bl true]) = some (.bl true) := rfl
            simp [hz, hdeepN, isiE_eq, w_tup, look_enc, D.asB, enc_ix0, is_, w_plain, w_parts, hl, hlen, w_np, hq, addF, neB_int, hdeep, e1, e2, parts_enc, D.items, hc, hpl, hb, hcut, drp, hc2, hc3, two, hb2]
          | false =>
            simp [hz, hdeepN, isiE_eq, w_tup, look_enc, D.asB, enc_ix0, is_, w_plain, w_parts, hl, hlen, w_np, hq, addF, neB_int, hdeep, e1, e2, parts_enc, D.items, hc, hpl, hb]
      refine body _ _ (fun h => ?_) (fun h => ?_) eh es
      · have h := of_decide_eq_true h
        cases d <;> simp only [Dd.word] at h <;> first | exact absurd (cs_inj h) (by decide) | exact ⟨_, rfl, ok.1⟩
      · have h := of_decide_eq_true h
        cases d <;> simp only [Dd.word] at h <;> first | exact absurd (cs_inj h) (by decide) | exact ⟨_, _, _, rfl⟩

theorem is_deed_ok (d : Dd) (h : d.ht ≤ 5) (ok : d.okP) : F_is_deed [enc d] = pv (.bl (decide (d.size ≤ 30))) := by
  unfold F_is_deed g_is_deed
  rw [fnB_eq]
  have h1 : F__is_deed [enc d, .int 5] = pv (.bl true) := is_deed_enc 12 d 5 (by omega) h ok
  have h2 : F__count [enc d] = pv (.int d.size) := count_enc 12 d (by omega)
  simp [List.replicate, G_MOST_DEEP, G_MOST_DEEDS, h1, h2, D.asB, leB]
  congr 3
  exact decide_eq_decide.mpr (by omega)
/-! ### the first fault -/
def wordsOk : List (List Nat) := [cs "text", cs "need", cs "join", cs "head", cs "back", cs "swap"]
def Dd.bad (d : Dd) : List (List Nat) := d.words.filter fun w => decide (w ∉ wordsOk)
theorem word_mem {d : Dd} {w : List Nat} (h : w ∈ d.words) : ∃ e : Dd, w = e.word := by
  induction d with
  | text s => simp [Dd.words] at h; exact ⟨.text s, h⟩
  | need s => simp [Dd.words] at h; exact ⟨.need s, h⟩
  | named a ih =>
    simp [Dd.words] at h
    rcases h with h | h
    · exact ⟨.named a, h⟩
    · exact ih h
  | join a b i j =>
    simp [Dd.words] at h
    rcases h with h | h | h
    · exact ⟨.join a b, h⟩
    · exact i h
    · exact j h
  | head k a ih =>
    simp [Dd.words] at h
    rcases h with h | h
    · exact ⟨.head k a, h⟩
    · exact ih h
  | back a ih =>
    simp [Dd.words] at h
    rcases h with h | h
    · exact ⟨.back a, h⟩
    · exact ih h
  | sort a ih =>
    simp [Dd.words] at h
    rcases h with h | h
    · exact ⟨.sort a, h⟩
    · exact ih h
  | swap x y a ih =>
    simp [Dd.words] at h
    rcases h with h | h
    · exact ⟨.swap x y a, h⟩
    · exact ih h
  | same a b c d i j k l =>
    simp [Dd.words] at h
    rcases h with h | h | h | h | h
    · exact ⟨.same a b c d, h⟩
    · exact i h
    · exact j h
    · exact k h
    · exact l h
theorem w_words (e : Dd) : notInB (.str e.word) G_WORDS = some (decide (e.word ∉ wordsOk)) := by cases e <;> rfl
theorem word_fault_enc (d : Dd) (h : d.ht ≤ 5) (hz : d.size ≤ 30) : F_word_fault [enc d] = pv (match d.bad with
    | [] => .non
    | w :: _ => .tup [.str (cs "word"), .str w]) := by
  unfold F_word_fault g_word_fault
  rw [fnB_eq]
  have hw : F_words_in [enc d] = M.pure (.lst (d.words.map D.str)) := words_enc 12 d (by omega) (by omega)
  have hc : ∀ env : Env, env = drp [2] [some (SV.dat (enc d)), none, none] → compL (gnam 2) (op2B notInB (evar 2) (ecst G_WORDS)) (evar 2) env (d.words.map D.str) = M.pure (d.bad.map D.str) := by
    intro env he
    subst he
    refine compL_filterOf D.str D.str (fun w => decide (w ∉ wordsOk)) _ fun w hw => ⟨_, rfl, ?_, fun _ => rfl⟩
    obtain ⟨e, rfl⟩ := word_mem hw
    have := w_words e
    have l : look G_WORDS = M.pure G_WORDS := rfl
    simp [drp, l, this]
  have hl : d.bad.length ≤ sizeLine := small_le (by
    have : d.bad.length ≤ d.words.length := List.length_filter_le _ _
    rw [words_len] at this
    omega)
  simp [List.replicate, hw, D.items, hc, hl, lenD, gtB]
  cases hb : d.bad with
  | nil => simp
  | cons w l =>
    have two : (2 : Nat) ≤ sizeLine := small_le (by omega)
    have pos : (0 : Int) < (l.length : Int) + 1 := by omega
    simp [two, pos]
def Dd.fault (d : Dd) : D := if d.size ≤ 30 then (match d.bad with
    | [] => if 2 < d.nm.length then .tup [.str (cs "many")] else .non
    | w :: _ => .tup [.str (cs "word"), .str w]) else .tup [.str (cs "form")]
theorem plain_fault_enc (d : Dd) (h : d.ht ≤ 5) (ok : d.okP) : F_plain_fault [enc d] = pv d.fault := by
  unfold F_plain_fault g_plain_fault
  rw [fnB_eq]
  have h1 := is_deed_ok d h ok
  unfold Dd.fault
  by_cases hz : d.size ≤ 30
  · rw [if_pos hz]
    rw [decide_eq_true hz] at h1
    have h2 := word_fault_enc d h hz
    have h3 : F_names_in [enc d] = M.pure (.lst (d.nm.map D.str)) := names_enc 12 d (by omega) (by omega)
    simp [List.replicate, h1, D.asB, h2]
    cases hb : d.bad with
    | nil =>
      simp [D.isNon, h3, lenD, gtB, G_MOST_NAMES, G_MANY]
      by_cases hm : 2 < d.nm.length
      · have : (2 : Int) < (d.nm.length : Int) := by omega
        simp [hm, this]
      · have : ¬ (2 : Int) < (d.nm.length : Int) := by omega
        simp [hm, this]
    | cons w l => simp [D.isNon]
  · rw [if_neg hz]
    rw [decide_eq_false hz] at h1
    simp [List.replicate, h1, D.asB, G_NO_DEED]

/-! ### the law's own words, needs -/
def Dd.args : Dd → List D
  | .text s => [.str s]
  | .need n => [.str n]
  | .head k _ => [.int k]
  | .swap x y _ => [.str [x], .str [y]]
  | _ => []
theorem enc_eq (d : Dd) : enc d = .tup (.str d.word :: (d.args ++ d.parts.map enc)) := by cases d <;> rfl
theorem args_no (d : Dd) : ∀ a ∈ d.args, isiB "tuple" a = some false := by
  cases d <;> intro a h <;> simp [Dd.args] at h
  · subst h; rfl
  · subst h; rfl
  · subst h; rfl
  · rcases h with rfl | rfl <;> rfl
theorem kids_cut (d : Dd) : slF (enc d) (some 1) none = some (.dat (.tup (d.args ++ d.parts.map enc))) := by
  rw [enc_eq]
  show some (SV.dat (.tup (cut _ _ _))) = _
  rw [show (1 : Int) = ((1 : Nat) : Int) from rfl, cut_from _ (by simp)]
  rfl
theorem kids_loop (d : Dd) (Rf : List D → M SV) (f : Dd → List D) (hR : ∀ e ∈ d.parts, ∃ sv, Rf [enc e] = M.pure sv ∧ sv.d = .lst (f e)) (hz : ((d.parts.map f).flatten).length ≤ 1000) (e0 : Option SV) (acc : List D) (ha : acc.length ≤ 1000) (x : Option SV) :
    ∃ x', forL (gnam 2) (sIf (valT (isiE "tuple" (evar 2))) (sAsg 1 (frz (op2F addF (evar 1) (frz (callF Rf (consA (evar 2) nilA)))))) sNx) (d.args ++ d.parts.map enc) [e0, some (.dat (.lst acc)), x] =
      eNx [e0, some (.dat (.lst (acc ++ (d.parts.map f).flatten))), x'] := by
  have key1 : ∀ (l : List D) (x : Option SV) (rest : List D), (∀ a ∈ l, isiB "tuple" a = some false) → ∃ x', forL (gnam 2) (sIf (valT (isiE "tuple" (evar 2))) (sAsg 1 (frz (op2F addF (evar 1) (frz (callF Rf (consA (evar 2) nilA)))))) sNx) (l ++ rest) [e0, some (.dat (.lst acc)), x] =
      forL (gnam 2) (sIf (valT (isiE "tuple" (evar 2))) (sAsg 1 (frz (op2F addF (evar 1) (frz (callF Rf (consA (evar 2) nilA)))))) sNx) rest [e0, some (.dat (.lst acc)), x'] := by
    intro l
    induction l with
    | nil => intro x rest _; exact ⟨x, rfl⟩
    | cons a l ih =>
      intro x rest h
      obtain ⟨x', e⟩ := ih (some (.dat a)) rest fun b hb => h b (List.mem_cons_of_mem _ hb)
      refine ⟨x', ?_⟩
      rw [List.cons_append, forL_cons _ _ _ _ _ _ rfl, ← e]
      have ht := h a List.mem_cons_self
      have hlk : look a = M.pure a := by cases a <;> first | rfl | cases ht
      simp [ht, hlk, D.asB]
  have key2 : ∀ (l : List Dd) (acc : List D) (x : Option SV), (∀ e ∈ l, e ∈ d.parts) → acc.length + ((l.map f).flatten).length ≤ 2000 → ∃ x', forL (gnam 2) (sIf (valT (isiE "tuple" (evar 2))) (sAsg 1 (frz (op2F addF (evar 1) (frz (callF Rf (consA (evar 2) nilA)))))) sNx) (l.map enc) [e0, some (.dat (.lst acc)), x] =
      eNx [e0, some (.dat (.lst (acc ++ (l.map f).flatten))), x'] := by
    intro l
    induction l with
    | nil => intro acc x _ _; exact ⟨x, by simp⟩
    | cons a l ih =>
      intro acc x h hz
      simp only [List.map_cons, List.flatten_cons, List.length_append] at hz
      obtain ⟨x', e⟩ := ih (acc ++ f a) (some (.dat (enc a))) (fun b hb => h b (List.mem_cons_of_mem _ hb)) (by simp only [List.length_append]; omega)
      refine ⟨x', ?_⟩
      obtain ⟨sv, e1, e2⟩ := hR a (h a List.mem_cons_self)
      rw [List.map_cons, forL_cons _ _ _ _ _ _ rfl]
      have hle : acc.length + (f a).length ≤ sizeLine := small_le (by omega)
      have hb : sIf (valT (isiE "tuple" (evar 2))) (sAsg 1 (frz (op2F addF (evar 1) (frz (callF Rf (consA (evar 2) nilA)))))) sNx ([e0, some (.dat (.lst acc)), x].set 2 (some (.dat (enc a)))) = eNx [e0, some (.dat (.lst (acc ++ f a))), some (.dat (enc a))] := by
        simp [look_enc, w_tup, D.asB, e1, e2, addF, hle]
      rw [hb, for_nx, e]
      simp [List.append_assoc]
  obtain ⟨x1, h1⟩ := key1 d.args x (d.parts.map enc) (args_no d)
  obtain ⟨x2, h2⟩ := key2 d.parts acc x1 (fun _ h => h) (by omega)
  exact ⟨x2, by rw [h1, h2]⟩
theorem law_needs_enc : ∀ (n : Nat) (d : Dd), 2 * d.ht + 1 < n → d.size < 64 → R__law_needs n 0 [enc d] = M.pure (.lst (d.nm.map D.str))
  | 0, _, h, _ => by omega
  | 1, _, h, _ => by omega
  | n + 2, d, h, hz => by
    rw [show R__law_needs (n + 2) 0 = fnB 1 (h__law_needs (R__law_needs (n + 1))) from rfl]
    rw [fnB_eq]
    unfold h__law_needs
    by_cases hw : d.word = cs "need"
    · obtain ⟨s, rfl⟩ := enc_need hw
      have one : (1 : Nat) ≤ sizeLine := small_le (by omega)
      simp [List.replicate, enc, one, Dd.nm]
    · have hlen : (d.parts.map Dd.nm).flatten.length < 64 := by
        have h1 : ∀ l : List Dd, (l.map Dd.nm).flatten.length ≤ (l.map Dd.size).sum := by
          intro l
          induction l with
          | nil => simp
          | cons a l ih =>
            have := nm_len a
            simp only [List.map_cons, List.flatten_cons, List.length_append, List.sum_cons]
            omega
        have h2 : (d.parts.map Dd.size).sum < d.size := by cases d <;> simp [Dd.parts, Dd.size] <;> omega
        have := h1 d.parts
        omega
      have hl2 : (d.parts.map fun e => e.nm.map D.str).flatten = ((d.parts.map Dd.nm).flatten).map D.str := by
        rw [List.map_flatten, List.map_map]
        rfl
      obtain ⟨x', e⟩ := kids_loop d (R__law_needs n 0) (fun e => e.nm.map D.str) (fun e he => ⟨_, law_needs_enc n e (by have := ht_parts he; omega) (by have := size_le he; omega), rfl⟩) (by rw [hl2, List.length_map]; omega) (some (.dat (enc d))) [] (by simp) none
      have hin : R__law_needs (n + 1) 1 [enc d] = pv (.lst (((d.parts.map Dd.nm).flatten).map D.str)) := by
        rw [show R__law_needs (n + 1) 1 = fnB 3 (h__law_inner (R__law_needs n)) from rfl]
        rw [fnB_eq]
        unfold h__law_inner
        have z : (0 : Nat) ≤ sizeLine := Nat.zero_le _
        simp [List.replicate, kids_cut, look_enc, D.items]
        simp at e
        rw [e]
        simp
        rfl
      have he := eqWord d "need"
      rw [decide_eq_false hw] at he
      have hs := ssetF_strs _ hlen
      rw [nm_parts d hw]
      simp [-List.map_flatten, List.replicate, look_enc, enc_ix0, he, hin, hs]
end VX.K09
set_option Elab.async false
set_option linter.all false
set_option maxRecDepth 100000
namespace VX.K09
open PySem PySem.Spec PyProof.Rows L2
/-! ### the draws -/
def gd (i : Int) : Prop := 0 ≤ i ∧ i < 65521
def bodyA : Env → SM := (sIf (op2B gtB (evar 5) (ecst (.int 0))) (sSeq (sApp 2 (op2 modD (op1 intD (evar 5)) (ecst (.int 1009))))
  (sAsg 5 (op2 fdivD (evar 5) (ecst (.int 1009))))) sNx)
theorem loopA (a b s c : Option SV) : ∀ (l : List D) (acc : List Int) (i : Int) (x : Option SV), acc.length + l.length ≤ 100000 → (∀ j ∈ acc, gd j) →
    ∃ (acc' : List Int) (i' : Int) (x' : Option SV), forL (gnam 6) bodyA l [a, b, some (.lst (acc.map D.int)), s, c, some (.dat (.int i)), x] = eNx [a, b, some (.lst (acc'.map D.int)), s, c, some (.dat (.int i')), x'] ∧ acc'.length ≤ acc.length + l.length ∧ ∀ j ∈ acc', gd j := by
  intro l
  induction l with
  | nil => intro acc i x _ h; exact ⟨acc, i, x, rfl, by simp, h⟩
  | cons d l ih =>
    intro acc i x hl h
    simp only [List.length_cons] at hl
    rw [forL_cons _ _ _ _ _ _ rfl]
    have hle : acc.length < sizeLine := by rw [szl]; omega
    by_cases hi : 0 < i
    · obtain ⟨acc', i', x', e, h1, h2⟩ := ih (acc ++ [i % 1009]) (i / 1009) (some (.dat d)) (by simp; omega) (fun j hj => by
        rcases List.mem_append.mp hj with z | z
        · exact h j z
        · simp at z; subst z; exact ⟨Int.emod_nonneg _ (by decide), by have := Int.emod_lt_of_pos i (by decide : (0 : Int) < 1009); omega⟩)
      refine ⟨acc', i', x', ?_, by simp at h1; simp; omega, h2⟩
      rw [← e]
      unfold bodyA
      simp [gtB, hi, sApp, intD, modD, fdivD, intOp, hle]
    · obtain ⟨acc', i', x', e, h1, h2⟩ := ih acc i (some (.dat d)) (by omega) h
      refine ⟨acc', i', x', ?_, by simp; omega, h2⟩
      rw [← e]
      unfold bodyA
      simp [gtB, hi]
def bodyB : Env → SM := (sSeq (sAsg 5 (op1 absD (evar 4)))
  (sSeq (sAsg 3 (op2 modD (op1 intD (frz (op2F addF (frz (op2F addF (frz (op2F mulF (evar 3) (ecst (.int 48271)))) (evar 5))) (ecst (.int 11))))) (ecst (.int 2147483647))))
  (sIf (op2B geB (evar 5) (op2 powD (ecst (.int 10)) (ecst (.int 18)))) (sFor (rngE (ecst (.int 60))) (gnam 6) bodyA) (sApp 2 (op2 modD (op2 fdivD (op1 intD (frz (op2F addF (frz (op2F mulF (evar 3) (ecst (.int 16807)))) (ecst (.int 5))))) (ecst (.int 3))) (ecst (.int 65521)))))))
theorem rngN (n : Nat) (h : n ≤ 100000) : rngI (.int n) = some ((List.range n).map fun i => .int (i : Nat)) := by
  unfold rngI
  dsimp only
  rw [if_pos (by omega)]
  rfl
theorem mulI (i j : Int) (h : -(2 ^ 64) < j ∧ j < 2 ^ 64) : mulF (.int i) (.int j) = some (.dat (.int (i * j))) := by
  unfold mulF
  dsimp only
  rw [if_pos (.inr h)]
theorem mulI' (i j : Int) (h : -(2 ^ 64) < i ∧ i < 2 ^ 64) : mulF (.int i) (.int j) = some (.dat (.int (i * j))) := by
  unfold mulF
  dsimp only
  rw [if_pos (.inl h)]
theorem loopB (a b : Option SV) : ∀ (l : List Int) (acc : List Int) (s : Int) (x4 x5 x6 : Option SV), acc.length + 60 * l.length ≤ 100000 → (∀ j ∈ acc, gd j) →
    ∃ (acc' : List Int) (s' : Int) (x4' x5' x6' : Option SV), forL (gnam 4) bodyB (l.map D.int) [a, b, some (.lst (acc.map D.int)), some (.dat (.int s)), x4, x5, x6] = eNx [a, b, some (.lst (acc'.map D.int)), some (.dat (.int s')), x4', x5', x6'] ∧ acc'.length ≤ acc.length + 60 * l.length ∧ ∀ j ∈ acc', gd j := by
  intro l
  induction l with
  | nil => intro acc s x4 x5 x6 _ h; exact ⟨acc, s, x4, x5, x6, rfl, by simp, h⟩
  | cons d l ih =>
    intro acc s x4 x5 x6 hl h
    simp only [List.length_cons] at hl
    rw [List.map_cons, forL_cons _ _ _ _ _ _ rfl]
    have hle : acc.length < sizeLine := by rw [szl]; omega
    have hp : powD (.int 10) (.int 18) = some (.int (10 ^ 18)) := rfl
    have hm : ∀ i : Int, mulF (.int i) (.int 48271) = some (.dat (.int (i * 48271))) := fun i => mulI _ _ (by decide)
    have hm2 : ∀ i : Int, mulF (.int i) (.int 16807) = some (.dat (.int (i * 16807))) := fun i => mulI _ _ (by decide)
    have hr := rngN 60 (by omega)
    generalize hq : (if d < 0 then -d else d) = q
    have ha : absD (.int d) = some (.int q) := by rw [← hq]; rfl
    by_cases hi : (1000000000000000000 : Int) ≤ q
    · obtain ⟨acc1, i1, y1, e1, l1, g1⟩ := loopA a b (some (.dat (.int ((s * 48271 + q + 11) % 2147483647)))) (some (.dat (.int d))) ((List.range 60).map fun i => .int (i : Nat)) acc q x6 (by simp; omega) h
      simp at l1
      obtain ⟨acc', s', x4', x5', x6', e, h1, h2⟩ := ih acc1 ((s * 48271 + q + 11) % 2147483647) (some (.dat (.int d))) (some (.dat (.int i1))) y1 (by omega) g1
      refine ⟨acc', s', x4', x5', x6', ?_, by simp; omega, h2⟩
      have hb : bodyB ([a, b, some (.lst (acc.map D.int)), some (.dat (.int s)), x4, x5, x6].set 4 (some (.dat (.int d)))) = eNx [a, b, some (.lst (acc1.map D.int)), some (.dat (.int ((s * 48271 + q + 11) % 2147483647))), some (.dat (.int d)), some (.dat (.int i1)), y1] := by
        unfold bodyB
        simp at hr
        simp [ha, hm, intD, modD, intOp, addF, hp, geB, hi, hr, e1]
      rw [hb, for_nx, e]
    · obtain ⟨acc', s', x4', x5', x6', e, h1, h2⟩ := ih (acc ++ [((s * 48271 + q + 11) % 2147483647 * 16807 + 5) / 3 % 65521]) ((s * 48271 + q + 11) % 2147483647) (some (.dat (.int d))) (some (.dat (.int q))) x6 (by simp; omega) (fun j hj => by
        rcases List.mem_append.mp hj with z | z
        · exact h j z
        · simp at z; subst z; exact ⟨Int.emod_nonneg _ (by decide), Int.emod_lt_of_pos _ (by decide)⟩)
      refine ⟨acc', s', x4', x5', x6', ?_, by simp at h1; simp; omega, h2⟩
      have hb : bodyB ([a, b, some (.lst (acc.map D.int)), some (.dat (.int s)), x4, x5, x6].set 4 (some (.dat (.int d)))) = eNx [a, b, some (.lst ((acc ++ [((s * 48271 + q + 11) % 2147483647 * 16807 + 5) / 3 % 65521]).map D.int)), some (.dat (.int ((s * 48271 + q + 11) % 2147483647))), some (.dat (.int d)), some (.dat (.int q)), x6] := by
        unfold bodyB
        simp [ha, hm, hm2, intD, modD, fdivD, intOp, addF, hp, geB, hi, sApp, hle]
      rw [hb, for_nx, e]
def bodyC : Env → SM := (sIf (op2B ltB (op1 lenD (pvar 2)) (evar 1)) (sSeq (sAsg 3 (op2 modD (op1 intD (frz (op2F addF (frz (op2F addF (frz (op2F mulF (evar 3) (ecst (.int 69621)))) (evar 6))) (ecst (.int 1))))) (ecst (.int 2147483647))))
  (sApp 2 (op2 modD (op2 fdivD (op1 intD (evar 3)) (ecst (.int 7))) (ecst (.int 65521))))) sNx)
theorem loopC (a : Option SV) (n : Nat) (x4 x5 : Option SV) : ∀ (l : List Int) (acc : List Int) (s : Int) (x6 : Option SV), acc.length + l.length ≤ 100000 → (∀ j ∈ acc, gd j) →
    ∃ (acc' : List Int) (s' : Int) (x6' : Option SV), forL (gnam 6) bodyC (l.map D.int) [a, some (.dat (.int n)), some (.lst (acc.map D.int)), some (.dat (.int s)), x4, x5, x6] = eNx [a, some (.dat (.int n)), some (.lst (acc'.map D.int)), some (.dat (.int s')), x4, x5, x6'] ∧ min n (acc.length + l.length) ≤ acc'.length ∧ acc'.length ≤ acc.length + l.length ∧ ∀ j ∈ acc', gd j := by
  intro l
  induction l with
  | nil => intro acc s x6 _ h; exact ⟨acc, s, x6, rfl, by simp; omega, by simp, h⟩
  | cons d l ih =>
    intro acc s x6 hl h
    simp only [List.length_cons] at hl
    rw [List.map_cons, forL_cons _ _ _ _ _ _ rfl]
    have hle : acc.length < sizeLine := by rw [szl]; omega
    have hm : ∀ i : Int, mulF (.int i) (.int 69621) = some (.dat (.int (i * 69621))) := fun i => mulI _ _ (by decide)
    by_cases hi : acc.length < n
    · obtain ⟨acc', s', x6', e, h1, h2, h3⟩ := ih (acc ++ [(s * 69621 + d + 1) % 2147483647 / 7 % 65521]) ((s * 69621 + d + 1) % 2147483647) (some (.dat (.int d))) (by simp; omega) (fun j hj => by
        rcases List.mem_append.mp hj with z | z
        · exact h j z
        · simp at z; subst z; exact ⟨Int.emod_nonneg _ (by decide), Int.emod_lt_of_pos _ (by decide)⟩)
      refine ⟨acc', s', x6', ?_, by simp at h1; simp; omega, by simp at h2; simp; omega, h3⟩
      have hi' : (acc.length : Int) < n := by omega
      have hb : bodyC ([a, some (.dat (.int n)), some (.lst (acc.map D.int)), some (.dat (.int s)), x4, x5, x6].set 6 (some (.dat (.int d)))) = eNx [a, some (.dat (.int n)), some (.lst ((acc ++ [(s * 69621 + d + 1) % 2147483647 / 7 % 65521]).map D.int)), some (.dat (.int ((s * 69621 + d + 1) % 2147483647))), x4, x5, some (.dat (.int d))] := by
        unfold bodyC
        simp [hm, intD, modD, fdivD, intOp, addF, lenD, ltB, hi, hi', sApp, hle]
      rw [hb, for_nx, e]
    · obtain ⟨acc', s', x6', e, h1, h2, h3⟩ := ih acc s (some (.dat (.int d))) (by omega) h
      refine ⟨acc', s', x6', ?_, by simp; omega, by simp; omega, h3⟩
      have hi' : ¬ (acc.length : Int) < n := by omega
      have hb : bodyC ([a, some (.dat (.int n)), some (.lst (acc.map D.int)), some (.dat (.int s)), x4, x5, x6].set 6 (some (.dat (.int d)))) = eNx [a, some (.dat (.int n)), some (.lst (acc.map D.int)), some (.dat (.int s)), x4, x5, some (.dat (.int d))] := by
        unfold bodyC
        simp [lenD, ltB, hi, hi']
      rw [hb, for_nx, e]
theorem draws_ok (ns : List Int) : ∃ ds : List Int, F__law_draws [.scr ns, .int 300] = M.pure (.lst (ds.map D.int)) ∧ ds.length = 300 ∧ ∀ j ∈ ds, gd j := by
  have hcut : slF (.scr ns) none (some 63) = some (.lst ((ns.take 63).map D.int)) := by
    show some (SV.lst ((cut ns none (some ((63 : Nat) : Int))).map D.int)) = _
    rw [cut_to]
  obtain ⟨a1, s1, y4, y5, y6, e1, l1, g1⟩ := loopB (some (.dat (.scr ns))) (some (.dat (.int 300))) (ns.take 63) [] 7 none none none (by simp; omega) (by simp)
  have hlen : (ns.take 63).length ≤ 63 := by simp; omega
  have hr := rngN 300 (by omega)
  simp at hr
  have er : ((List.range 300).map fun i => D.int (i : Nat)) = ((List.range 300).map fun i => ((i : Nat) : Int)).map D.int := by simp
  obtain ⟨a2, s2, z6, e2, l2, l3, g2⟩ := loopC (some (.dat (.scr ns))) 300 y4 y5 ((List.range 300).map fun i => ((i : Nat) : Int)) a1 s1 y6 (by simp; simp at l1; omega) g1
  simp at l2 l1
  refine ⟨a2.take 300, ?_, by simp; omega, fun j hj => g2 j (List.mem_of_mem_take hj)⟩
  unfold F__law_draws g__law_draws
  rw [fnB_eq]
  have z : (0 : Nat) ≤ sizeLine := Nat.zero_le _
  have hcut2 : slF (.lst (a2.map D.int)) none (some 300) = some (.lst ((a2.take 300).map D.int)) := by
    show some (SV.lst (cut (a2.map D.int) none (some ((300 : Nat) : Int)))) = _
    rw [cut_to, List.map_take]
  change forL (gnam 4) _ _ _ = _ at e1
  simp at e1
  rw [← er] at e2
  change forL (gnam 6) _ _ _ = _ at e2
  unfold bodyB bodyA at e1
  unfold bodyC at e2
  simp [List.replicate, hcut, D.items]
  simp at e1 e2
  rw [e1]
  simp [hr]
  rw [e2]
  simp [frzAt, hcut2]
end VX.K09
set_option Elab.async false
set_option linter.all false
set_option maxRecDepth 100000
namespace VX.K09
open PySem PySem.Spec PyProof.Rows L2
/-! ### the law's own deeds -/
def Dd.plain : Dd → Prop
  | .text _ => True
  | .need _ => True
  | .named _ => False
  | .join a b => a.plain ∧ b.plain
  | .head _ a => a.plain
  | .back a => a.plain
  | .sort _ => False
  | .swap _ _ a => a.plain
  | .same _ _ _ _ => False
structure Good (nl : List (List Nat)) (deep : Nat) (d : Dd) : Prop where
  pl : d.plain
  ht : d.ht ≤ deep
  ok : d.okP
  nm : ∀ s ∈ d.nm, s ∈ nl
  sz : d.size + 1 ≤ 2 ^ (deep + 1)
theorem ix_text {m : Int} (h0 : 0 ≤ m) (h1 : m < 5) : ∃ s : List Nat, ixD (.lst [.str (cs ""), .str (cs "a"), .str (cs "ab"), .str (cs "zza"), .str (cs "m")]) (.int m) = some (.str s) ∧ okLet s 0 40 = true := by
  have : m = 0 ∨ m = 1 ∨ m = 2 ∨ m = 3 ∨ m = 4 := by omega
  rcases this with rfl | rfl | rfl | rfl | rfl
  · exact ⟨cs "", rfl, by decide⟩
  · exact ⟨cs "a", rfl, by decide⟩
  · exact ⟨cs "ab", rfl, by decide⟩
  · exact ⟨cs "zza", rfl, by decide⟩
  · exact ⟨cs "m", rfl, by decide⟩
theorem ix_let1 {m : Int} (h0 : 0 ≤ m) (h1 : m < 4) : ∃ x : Nat, ixD (.str (cs "abcm")) (.int m) = some (.str [x]) ∧ x ∈ lets := by
  have : m = 0 ∨ m = 1 ∨ m = 2 ∨ m = 3 := by omega
  rcases this with rfl | rfl | rfl | rfl
  · exact ⟨97, rfl, by decide⟩
  · exact ⟨98, rfl, by decide⟩
  · exact ⟨99, rfl, by decide⟩
  · exact ⟨109, rfl, by decide⟩
theorem ix_let2 {m : Int} (h0 : 0 ≤ m) (h1 : m < 4) : ∃ x : Nat, ixD (.str (cs "bazm")) (.int m) = some (.str [x]) ∧ x ∈ lets := by
  have : m = 0 ∨ m = 1 ∨ m = 2 ∨ m = 3 := by omega
  rcases this with rfl | rfl | rfl | rfl
  · exact ⟨98, rfl, by decide⟩
  · exact ⟨97, rfl, by decide⟩
  · exact ⟨122, rfl, by decide⟩
  · exact ⟨109, rfl, by decide⟩
theorem ix_names (nl : List (List Nat)) (hn : nl ≠ []) (b : Int) (hb : 0 ≤ b) : ∃ s ∈ nl, ixD (.tup (nl.map D.str)) (.int (b % (nl.length : Int))) = some (.str s) := by
  have hl : 0 < nl.length := List.length_pos_iff.mpr hn
  have h1 : 0 ≤ b % (nl.length : Int) := Int.emod_nonneg _ (by omega)
  have h2 : b % (nl.length : Int) < nl.length := Int.emod_lt_of_pos _ (by omega)
  obtain ⟨m, hm⟩ := Int.eq_ofNat_of_zero_le h1
  have h3 : m < nl.length := by omega
  refine ⟨nl[m], List.getElem_mem _, ?_⟩
  rw [hm]
  exact ixT (by rw [List.getElem?_map, List.getElem?_eq_getElem (by simpa using h3)]; rfl)
theorem cut_ints {ds : List Int} (k : Nat) (h : k ≤ ds.length) : slF (.lst (ds.map D.int)) (some (k : Int)) none = some (.lst ((ds.drop k).map D.int)) := by
  show some (SV.lst (cut _ _ _)) = _
  rw [cut_from _ (by simpa using h), List.map_drop]
@[simp] theorem sPar_eq (i j : Nat) (gs : Env → M (List D)) (env : Env) : sPar i j gs env = liftE (gs env) env fun ds => match ds with
  | [a, b] => sNx ((env.set i (some (.dat a))).set j (some (.dat b)))
  | _ => sFail := by
  unfold sPar
  rfl
theorem law_deed : ∀ (n deep : Nat) (ds : List Int) (nl : List (List Nat)), deep < n → 9 * deep + 2 ≤ ds.length → (∀ j ∈ ds, gd j) → nl ≠ [] → (∀ s ∈ nl, okLet s 1 8 = true) →
    ∃ d : Dd, R__law_deed n 0 [.lst (ds.map D.int), .tup (nl.map D.str), .int deep] = pv (enc d) ∧ Good nl deep d
  | 0, _, _, _, h, _, _, _, _ => by omega
  | n + 1, deep, ds, nl, hd, hl, hg, hn, hk => by
    unfold R__law_deed
    rw [fnB_eq]
    unfold h__law_deed
    match ds, hl with
    | a :: b :: ds, hl =>
    have ha : 0 ≤ a := (hg a (by simp)).1
    have hb : 0 ≤ b := (hg b (by simp)).1
    have hb2 : b < 65521 := (hg b (by simp)).2
    have k0 : 0 ≤ a % 9 := Int.emod_nonneg _ (by decide)
    have k1 : a % 9 < 9 := Int.emod_lt_of_pos _ (by decide)
    generalize hq : a % 9 = k at k0 k1
    have two : (2 : Nat) ≤ sizeLine := small_le (by omega)
    have three : (3 : Nat) ≤ sizeLine := small_le (by omega)
    have four : (4 : Nat) ≤ sizeLine := small_le (by omega)
    have five : (5 : Nat) ≤ sizeLine := small_le (by omega)
    have hp : 2 ≤ 2 ^ (deep + 1) := Nat.le_self_pow (by omega) 2
    by_cases hleaf : deep = 0 ∨ k < 2
    · have hleaf' : (deep : Int) = 0 ∨ k < 2 := by omega
      by_cases h3 : b % 3 = 0
      · obtain ⟨s, e1, e2⟩ := ix_text (m := b % 5) (Int.emod_nonneg _ (by decide)) (Int.emod_lt_of_pos _ (by decide))
        refine ⟨.text s, ?_, ⟨trivial, Nat.zero_le _, e2, fun s h => (by cases h), by show 1 + 1 ≤ _; omega⟩⟩
        rcases hleaf' with h | h
        · simp [List.replicate, intD, modD, intOp, hq, h, h3, e1, two, five, enc]
        · by_cases hz : (deep : Int) = 0 <;> simp [List.replicate, intD, modD, intOp, hq, hz, h, h3, e1, two, five, enc, ltB]
      · obtain ⟨s, hs, e1⟩ := ix_names nl hn b hb
        refine ⟨.need s, ?_, ⟨trivial, Nat.zero_le _, hk s hs, fun s' h => (by simp [Dd.nm] at h; subst h; exact hs), by show 1 + 1 ≤ _; omega⟩⟩
        have hnz : (nl.length : Int) ≠ 0 := by have := List.length_pos_iff.mpr hn; omega
        rcases hleaf' with h | h
        · simp [List.replicate, intD, modD, intOp, hq, h, h3, e1, two, five, enc, lenD, hnz, hn]
        · by_cases hz : (deep : Int) = 0 <;> simp [List.replicate, intD, modD, intOp, hq, hz, h, h3, e1, two, five, enc, ltB, lenD, hnz, hn]
    · have hd0 : ¬ deep = 0 := by omega
      have hk2 : ¬ k < 2 := by omega
      have e1 : (deep : Int) - 1 = ((deep - 1 : Nat) : Int) := by omega
      obtain ⟨d1, r1, g1⟩ := law_deed n (deep - 1) ds nl (by omega) (by simp at hl; omega) (fun j hj => hg j (by simp [hj])) hn hk
      have c1 := cut_ints (ds := a :: b :: ds) 2 (by simp)
      simp at c1
      have hp2 : 2 ^ (deep + 1) = 2 ^ (deep - 1 + 1) + 2 ^ (deep - 1 + 1) := by
        have : deep + 1 = (deep - 1 + 1) + 1 := by omega
        rw [this, Nat.pow_succ]; omega
      have hpos : 2 ≤ 2 ^ (deep - 1 + 1) := Nat.le_self_pow (by omega) 2
      have g1h := g1.ht
      have g1s := g1.sz
      by_cases h5 : k < 5
      · obtain ⟨d2, r2, g2⟩ := law_deed n (deep - 1) ((a :: b :: ds).drop 9) nl (by omega) (by simp at hl ⊢; omega) (fun j hj => hg j (List.mem_of_mem_drop hj)) hn hk
        have c2 := cut_ints (ds := a :: b :: ds) 9 (by simp at hl ⊢; omega)
        simp at c2 r2
        have g2h := g2.ht
        have g2s := g2.sz
        refine ⟨.join d1 d2, ?_, ⟨⟨g1.pl, g2.pl⟩, by simp only [Dd.ht]; omega, ⟨g1.ok, g2.ok⟩, fun s hs => ?_, by simp only [Dd.size]; omega⟩⟩
        · simp [List.replicate, intD, modD, intOp, hq, hd0, hk2, h5, ltB, c1, c2, subD, e1, r1, r2, three, enc]
        · simp only [Dd.nm, mem_canon, List.mem_append] at hs
          exact hs.elim (g1.nm s) (g2.nm s)
      · by_cases h6 : k = 5
        · have m0 : 0 ≤ b % 7 := Int.emod_nonneg _ (by decide)
          have m1 : b % 7 < 7 := Int.emod_lt_of_pos _ (by decide)
          have m2 : 0 ≤ b % 5 / 4 := by omega
          have m3 : b % 5 / 4 ≤ 1 := by omega
          have hm : mulF (.int 30) (.int (b % 5 / 4)) = some (.dat (.int (30 * (b % 5 / 4)))) := mulI _ _ (by omega)
          have e2 : b % 7 + 30 * (b % 5 / 4) = ((b % 7 + 30 * (b % 5 / 4)).toNat : Int) := by omega
          refine ⟨.head (b % 7 + 30 * (b % 5 / 4)).toNat d1, ?_, ⟨g1.pl, by simp only [Dd.ht]; omega, ⟨by omega, g1.ok⟩, fun s hs => ?_, by simp only [Dd.size]; omega⟩⟩
          · simp only [enc, ← e2]
            simp [List.replicate, intD, modD, fdivD, intOp, hq, hd0, hk2, h5, h6, ltB, c1, subD, e1, r1, three, hm, addF]
          · simp only [Dd.nm, mem_canon] at hs
            exact g1.nm s hs
        · by_cases h7 : k = 6
          · refine ⟨.back d1, ?_, ⟨g1.pl, by simp only [Dd.ht]; omega, g1.ok, fun s hs => ?_, by simp only [Dd.size]; omega⟩⟩
            · simp [List.replicate, intD, modD, intOp, hq, hd0, hk2, h5, h6, h7, ltB, c1, subD, e1, r1, two, enc]
            · simp only [Dd.nm, mem_canon] at hs
              exact g1.nm s hs
          · obtain ⟨x, x1, x2⟩ := ix_let1 (m := b % 4) (Int.emod_nonneg _ (by decide)) (Int.emod_lt_of_pos _ (by decide))
            obtain ⟨y, y1, y2⟩ := ix_let2 (m := b / 4 % 4) (Int.emod_nonneg _ (by decide)) (Int.emod_lt_of_pos _ (by decide))
            refine ⟨.swap x y d1, ?_, ⟨g1.pl, by simp only [Dd.ht]; omega, ⟨⟨x2, y2⟩, g1.ok⟩, fun s hs => ?_, by simp only [Dd.size]; omega⟩⟩
            · simp [List.replicate, intD, modD, fdivD, intOp, hq, hd0, hk2, h5, h6, h7, ltB, c1, subD, e1, r1, four, enc, x1, y1]
            · simp only [Dd.nm, mem_canon] at hs
              exact g1.nm s hs
end VX.K09
set_option Elab.async false
set_option linter.all false
set_option maxRecDepth 100000
namespace VX.K09
open PySem PySem.Spec PyProof.Rows L2
/-! ### cells -/
inductive Ce where
  | is (c : Nat) | at_ (n : List Nat) (k : Nat) (im : List Nat)
  deriving DecidableEq
def Ce.enc : Ce → D
  | .is c => .tup [.str (cs "is"), .str [c]]
  | .at_ n k im => .tup [.str (cs "at"), .str n, .int k, .str im]
theorem look_ce (c : Ce) : look c.enc = M.pure c.enc := by cases c <;> rfl
def Ce.word : Ce → List Nat
  | .is _ => cs "is"
  | .at_ _ _ _ => cs "at"
theorem ce_ix0 (c : Ce) : ixD c.enc (.int 0) = some (.str c.word) := by cases c <;> simp [Ce.enc, Ce.word]
def ch (x y c : Nat) : Nat := if c = x then y else c
def Ce.sub (x y : Nat) : Ce → Ce
  | .is c => .is (ch x y c)
  | .at_ n k im => .at_ n k (im.map (ch x y))
def Ce.settle : Ce → Ce
  | .is c => .is c
  | .at_ n k [] => .at_ n k []
  | .at_ n k (a :: im) => if a :: im = List.replicate 26 a then .is a else .at_ n k (a :: im)
def Ce.ok : Ce → Prop
  | .is c => c ∈ lets
  | .at_ n _ im => (im.length = 26 ∧ ∀ c ∈ im, c ∈ lets) ∧ ∀ c ∈ n, c < 0x110000
theorem let_ok {c : Nat} (h : c ∈ lets) : c < 0x110000 := cs_ok _ c h
theorem eq_lets {a b : List Nat} (ha : ∀ c ∈ a, c ∈ lets) (hb : ∀ c ∈ b, c ∈ lets) : eqB (.str a) (.str b) = some (decide (a = b)) := eqB_str (fun c h => let_ok (ha c h)) fun c h => let_ok (hb c h)
theorem eq_let {a b : Nat} (ha : a ∈ lets) (hb : b ∈ lets) : eqB (.str [a]) (.str [b]) = some (decide (a = b)) := by
  rw [eq_lets (by simpa using ha) (by simpa using hb)]
  congr 1
  exact decide_eq_decide.mpr ⟨fun h => by simpa using h, fun h => by rw [h]⟩
theorem ch_let {x y c : Nat} (hy : y ∈ lets) (hc : c ∈ lets) : ch x y c ∈ lets := by unfold ch; split <;> assumption
theorem joinL_map {β : Type} (l : List β) (f : β → Nat) : TL.joinL [] (l.map fun c => [f c]) = l.map f := by
  induction l with
  | nil => rfl
  | cons a l ih =>
    cases l with
    | nil => rfl
    | cons b l =>
      rw [List.map_cons, List.map_cons] at ih ⊢
      rw [TL.joinL.eq_def]
      simp only [List.map_cons, List.nil_append, List.cons_append, List.cons.injEq, true_and] at ih ⊢
      exact ih
theorem join_map {β : Type} (l : List β) (f : β → Nat) (h : l.length ≤ 1000) : joinD (.str (cs "")) (.lst (l.map fun c => D.str [f c])) = some (.str (l.map f)) := by
  have e : (l.map fun c => D.str [f c]) = (l.map fun c => [f c]).map D.str := by simp
  unfold joinD
  dsimp only
  rw [e, strsOf_map]
  dsimp only
  have h2 : ((l.map fun c => [f c]).map List.length).sum = l.length := by
    rw [List.map_map]
    clear e h
    induction l with
    | nil => rfl
    | cons a l ih => simp [ih] at *; omega
  have h3 : (cs "").length = 0 := rfl
  rw [h2, h3, Nat.mul_zero, Nat.add_zero, if_pos (small_le (by omega))]
  show some (D.str (TL.joinL [] _)) = _
  rw [joinL_map]
theorem flat_rep (n a : Nat) : (List.replicate n [a]).flatten = List.replicate n a := by
  induction n with
  | zero => rfl
  | succ n ih => rw [List.replicate_succ, List.flatten_cons, ih]; rfl
theorem mul_rep (n a : Nat) (h : n ≤ 1000) : mulF (.str [a]) (.int (n : Int)) = some (.dat (.str (List.replicate n a))) := by
  unfold mulF
  dsimp only
  have := small_le (n := n) (by omega)
  rw [if_pos ⟨by omega, by omega, by simpa using this⟩, Int.toNat_natCast, flat_rep]
theorem ix_str {s : List Nat} {n c : Nat} (hs : s.length ≤ 1000) (h : s[n]? = some c) : ixD (.str s) (.int (n : Int)) = some (.str [c]) := by
  unfold ixD
  dsimp only
  rw [if_pos (small_le (by omega)), atI_nat, h]
  rfl
theorem ix_str0 {s : List Nat} {c : Nat} (hs : (c :: s).length ≤ 1000) : ixD (.str (c :: s)) (.int 0) = some (.str [c]) := ix_str (n := 0) hs rfl
theorem settle_at (n : List Nat) (k a : Nat) (im : List Nat) : (Ce.at_ n k (a :: im)).settle = if a :: im = List.replicate 26 a then .is a else .at_ n k (a :: im) := rfl
theorem swapped_enc (c : Ce) (x y : Nat) (hx : x ∈ lets) (hy : y ∈ lets) (ok : c.ok) : F_swapped [c.settle.enc, .str [x], .str [y]] = pv (c.sub x y).settle.enc := by
  have key : ∀ c : Ce, c.ok → (∀ n k im, c = .at_ n k im → c.settle = .at_ n k im) → F_swapped [c.enc, .str [x], .str [y]] = pv (c.sub x y).settle.enc := by
    intro c ok hs
    unfold F_swapped g_swapped
    rw [fnB_eq]
    cases c with
    | is c =>
      have hc : c ∈ lets := ok
      have two : (2 : Nat) ≤ sizeLine := small_le (by omega)
      have e := eq_let hc hx
      by_cases h : c = x
      · rw [decide_eq_true h] at e
        subst h
        simp [List.replicate, Ce.enc, G_IS, e, two, Ce.sub, ch, Ce.settle]
      · rw [decide_eq_false h] at e
        simp [List.replicate, Ce.enc, G_IS, e, two, Ce.sub, ch, h, Ce.settle]
    | at_ n k im =>
      obtain ⟨hl, hm⟩ : im.length = 26 ∧ ∀ c ∈ im, c ∈ lets := ok.1
      have two : (2 : Nat) ≤ sizeLine := small_le (by omega)
      have four : (4 : Nat) ≤ sizeLine := small_le (by omega)
      have l26 : (26 : Nat) ≤ sizeLine := small_le (by omega)
      have hc : compL (gnam 4) yesT (iteE (op2B eqB (evar 4) (evar 1)) (evar 2) (evar 4)) [some (SV.dat (.tup [.str (cs "at"), .str n, .int k, .str im])), some (.dat (.str [x])), some (.dat (.str [y])), none, none] (im.map fun c => D.str [c]) = M.pure (im.map fun c => D.str [ch x y c]) := by
        refine compL_of _ _ _ fun c hc => ⟨_, rfl, rfl, ?_⟩
        have e := eq_let (hm c hc) hx
        by_cases h : c = x
        · rw [decide_eq_true h] at e
          subst h
          simp [e, ch]
        · rw [decide_eq_false h] at e
          simp [e, ch, h]
      have hj := join_map im (ch x y) (by omega)
      have hm2 : ∀ c ∈ im.map (ch x y), c ∈ lets := by
        intro c hc
        obtain ⟨a, ha, rfl⟩ := List.mem_map.mp hc
        exact ch_let hy (hm a ha)
      have hl2 : (im.map (ch x y)).length = 26 := by simpa using hl
      simp [List.replicate, Ce.enc, G_IS, D.items, hl, l26, drp, hc, hj, Ce.sub]
      generalize im.map (ch x y) = im2 at hm2 hl2 ⊢
      match im2, hl2 with
      | a :: r, hl2 =>
        have e0 := ix_str0 (s := r) (c := a) (by omega)
        have hlen : lenD (.str (a :: r)) = some (.int 26) := by
          unfold lenD
          dsimp only
          rw [if_pos (small_le (by omega)), hl2]
          rfl
        have hr : mulF (.str [a]) (.int 26) = some (.dat (.str (List.replicate 26 a))) := mul_rep 26 a (by omega)
        have e := eq_lets hm2 (b := List.replicate 26 a) (by
          intro c hc
          have := List.eq_of_mem_replicate hc
          subst this
          exact hm2 c (by simp))
        rw [settle_at]
        by_cases h : a :: r = List.replicate 26 a
        · rw [decide_eq_true h] at e
          rw [if_pos h]
          simp [-List.reduceReplicate, e0, hlen, hr, e, two]
        · rw [decide_eq_false h] at e
          rw [if_neg h]
          simp [-List.reduceReplicate, e0, hlen, hr, e, four, G_AT]
  cases c with
  | is c => exact key (.is c) ok (fun _ _ _ q => nomatch q)
  | at_ n k im =>
    obtain ⟨hl, hm⟩ : im.length = 26 ∧ ∀ c ∈ im, c ∈ lets := ok.1
    match im, hl with
    | a :: r, hl =>
      by_cases h : a :: r = List.replicate 26 a
      · have e1 : (Ce.at_ n k (a :: r)).settle = .is a := by rw [settle_at, if_pos h]
        have e2 : ((Ce.at_ n k (a :: r)).sub x y).settle = ((Ce.is a).sub x y).settle := by
          show (Ce.at_ n k (ch x y a :: r.map (ch x y))).settle = .is (ch x y a)
          rw [settle_at, if_pos]
          have : (a :: r).map (ch x y) = (List.replicate 26 a).map (ch x y) := by rw [← h]
          rw [List.map_replicate] at this
          exact this
        rw [e1, e2]
        exact key (.is a) (hm a (by simp)) (fun _ _ _ q => nomatch q)
      · have e1 : (Ce.at_ n k (a :: r)).settle = .at_ n k (a :: r) := by rw [settle_at, if_neg h]
        rw [e1]
        exact key _ ok (fun _ _ _ q => by rw [← q]; exact e1)
end VX.K09
set_option Elab.async false
set_option linter.all false
set_option maxRecDepth 100000
namespace VX.K09
open PySem PySem.Spec PyProof.Rows L2
/-! ### the law's cells -/
def lc (f : List Nat → List Ce) : Dd → Option (List Ce)
  | .text s => some (s.map Ce.is)
  | .need n => some (f n)
  | .join a b => match lc f a, lc f b with
    | some x, some y => if x.length + y.length ≤ 40 then some (x ++ y) else none
    | _, _ => none
  | .head k a => (lc f a).map (·.take k)
  | .back a => (lc f a).map (·.reverse)
  | .swap x y a => (lc f a).map (·.map (Ce.sub x y))
  | _ => none
structure Fok (f : List Nat → List Ce) (nl : List (List Nat)) : Prop where
  len : ∀ s ∈ nl, (f s).length ≤ 40
  ok : ∀ s ∈ nl, ∀ c ∈ f s, c.ok
theorem nm_sub {d e : Dd} (h : e ∈ d.parts) : ∀ s ∈ e.nm, s ∈ d.nm := by
  intro s hs
  have hw : d.word ≠ cs "need" := fun q => by
    obtain ⟨n, rfl⟩ := enc_need q
    cases h
  rw [nm_parts d hw, mem_canon, List.mem_flatten]
  exact ⟨_, List.mem_map_of_mem h, hs⟩
theorem Fok.sub {f : List Nat → List Ce} {nl ml : List (List Nat)} (h : Fok f nl) (hs : ∀ s ∈ ml, s ∈ nl) : Fok f ml := ⟨fun s q => h.len s (hs s q), fun s q => h.ok s (hs s q)⟩
theorem sub_ok {c : Ce} {x y : Nat} (hy : y ∈ lets) (h : c.ok) : (c.sub x y).ok := by
  cases c with
  | is c => exact ch_let hy h
  | at_ n k im =>
    obtain ⟨h1, h2⟩ : im.length = 26 ∧ ∀ c ∈ im, c ∈ lets := h.1
    exact ⟨⟨by simpa using h1, fun c hc => by
      obtain ⟨a, ha, rfl⟩ := List.mem_map.mp hc
      exact ch_let hy (h2 a ha)⟩, h.2⟩
theorem lc_ok (f : List Nat → List Ce) : ∀ (d : Dd), d.okP → Fok f d.nm → ∀ cl, lc f d = some cl → cl.length ≤ 40 ∧ ∀ c ∈ cl, c.ok := by
  intro d
  induction d with
  | text s =>
    intro ok _ cl h
    have ok : okLet s 0 40 = true := ok
    cases h
    exact ⟨by simpa using okLet_len ok, fun c hc => by
      obtain ⟨a, ha, rfl⟩ := List.mem_map.mp hc
      exact okLet_mem ok a ha⟩
  | need n =>
    intro ok hf cl h
    cases h
    exact ⟨hf.len n (by simp [Dd.nm]), hf.ok n (by simp [Dd.nm])⟩
  | join a b ia ib =>
    intro ok hf cl h
    have ha := ia ok.1 (hf.sub (nm_sub (d := .join a b) (by simp [Dd.parts])))
    have hb := ib ok.2 (hf.sub (nm_sub (d := .join a b) (by simp [Dd.parts])))
    unfold lc at h
    cases e1 : lc f a with
    | none => rw [e1] at h; cases h
    | some x =>
      cases e2 : lc f b with
      | none => rw [e1, e2] at h; cases h
      | some y =>
        rw [e1, e2] at h
        dsimp only at h
        split at h
        · cases h
          refine ⟨by simpa using ‹_ ≤ 40›, fun c hc => ?_⟩
          rcases List.mem_append.mp hc with q | q
          · exact (ha x e1).2 c q
          · exact (hb y e2).2 c q
        · cases h
  | head k a ia =>
    intro ok hf cl h
    have ha := ia ok.2 (hf.sub (nm_sub (d := .head k a) (by simp [Dd.parts])))
    unfold lc at h
    obtain ⟨x, e1, rfl⟩ := Option.map_eq_some_iff.mp h
    exact ⟨by have := (ha x e1).1; simp; omega, fun c hc => (ha x e1).2 c (List.mem_of_mem_take hc)⟩
  | back a ia =>
    intro ok hf cl h
    have ha := ia ok (hf.sub (nm_sub (d := .back a) (by simp [Dd.parts])))
    unfold lc at h
    obtain ⟨x, e1, rfl⟩ := Option.map_eq_some_iff.mp h
    exact ⟨by simpa using (ha x e1).1, fun c hc => (ha x e1).2 c (List.mem_reverse.mp hc)⟩
  | swap x y a ia =>
    intro ok hf cl h
    have ha := ia ok.2 (hf.sub (nm_sub (d := .swap x y a) (by simp [Dd.parts])))
    unfold lc at h
    obtain ⟨z, e1, rfl⟩ := Option.map_eq_some_iff.mp h
    exact ⟨by simpa using (ha z e1).1, fun c hc => by
      obtain ⟨b, hb, rfl⟩ := List.mem_map.mp hc
      exact sub_ok ok.1.2 ((ha z e1).2 b hb)⟩
  | named a _ => intro _ _ cl h; cases h
  | sort a _ => intro _ _ cl h; cases h
  | same a b c d _ _ _ _ => intro _ _ cl h; cases h
def encO : Option (List Ce) → D
  | none => .non
  | some cl => .lst (cl.map Ce.enc)
theorem look_encO (o : Option (List Ce)) : look (encO o) = M.pure (encO o) := by cases o <;> rfl
theorem encO_non (o : Option (List Ce)) : (encO o).isNon = o.isNone := by cases o <;> rfl
theorem rev_ixL {cl : List Ce} : ∀ k < cl.length, ixD (.lst (cl.map Ce.enc)) (.int ((cl.length : Int) - 1 - (k : Nat))) = some ((cl.reverse.map Ce.enc).getD k .non) := by
  intro k hk
  have e : (cl.length : Int) - 1 - (k : Nat) = ((cl.length - 1 - k : Nat) : Int) := by omega
  rw [e]
  have h2 : (cl.reverse.map Ce.enc)[k]? = some (cl[cl.length - 1 - k].enc) := by
    rw [List.getElem?_map, List.getElem?_reverse hk, List.getElem?_eq_getElem (by omega)]
    rfl
  refine ixL ?_
  rw [List.getElem?_map, List.getElem?_eq_getElem (by omega), List.getD_eq_getElem?_getD, h2]
  rfl
theorem rev_comp (e0 e1 e2 : Option SV) (x : List Ce) : compL (gnam 10) yesT (op2 ixD (op2 ixD (evar 3) (ecst (.int 0))) (op2 subD (op2 subD (op1 lenD (op2 ixD (evar 3) (ecst (.int 0)))) (ecst (.int 1))) (evar 10))) [e0, e1, e2, some (.dat (.lst [.lst (x.map Ce.enc)])), none, none, none, none, none, none, none, none] ((List.range x.length).map fun i => D.int (i : Nat)) = M.pure (x.reverse.map Ce.enc) := by
  have h1 := range_getD (x.reverse.map Ce.enc) .non
  rw [List.length_map, List.length_reverse] at h1
  conv => rhs; rw [← h1]
  refine compL_of _ _ _ fun k hk => ⟨_, rfl, rfl, ?_⟩
  have := rev_ixL (cl := x) k (List.mem_range.mp hk)
  simp [lenD, subD, intOp, this]
def bodyS : Env → SM := (sIf (op2B eqB (op2 ixD (evar 5) (ecst (.int 0))) (ecst (.str (cs "is")))) (sApp 4 (tupE (consA (ecst (.str (cs "is"))) (consA (iteE (op2B eqB (op2 ixD (evar 5) (ecst (.int 1))) (op2 ixD (evar 0) (ecst (.int 1)))) (op2 ixD (evar 0) (ecst (.int 2))) (op2 ixD (evar 5) (ecst (.int 1)))) nilA)))) (sSeq (sAsg 6 (op2 joinD (ecst (.str (cs ""))) (frz (lcF [11] (itm (op2 ixD (evar 5) (ecst (.int 3)))) (gnam 11) yesT (iteE (op2B eqB (evar 11) (op2 ixD (evar 0) (ecst (.int 1)))) (op2 ixD (evar 0) (ecst (.int 2))) (evar 11))))))
  (sApp 4 (tupE (consA (ecst (.str (cs "at"))) (consA (op2 ixD (evar 5) (ecst (.int 1))) (consA (op2 ixD (evar 5) (ecst (.int 2))) (consA (evar 6) nilA))))))))
theorem loopS (p q : Nat) (ad : D) (e1 e2 e3 : Option SV) (hp : p ∈ lets) (hq : q ∈ lets) : ∀ (l acc : List Ce) (x5 x6 : Option SV), (∀ c ∈ l, c.ok) → acc.length + l.length ≤ 1000 →
    ∃ x5' x6', forL (gnam 5) bodyS (l.map Ce.enc) [some (.dat (.tup [.str (cs "swap"), .str [p], .str [q], ad])), e1, e2, e3, some (.lst (acc.map Ce.enc)), x5, x6, none, none, none, none, none] =
      eNx [some (.dat (.tup [.str (cs "swap"), .str [p], .str [q], ad])), e1, e2, e3, some (.lst ((acc ++ l.map (Ce.sub p q)).map Ce.enc)), x5', x6', none, none, none, none, none] := by
  intro l
  induction l with
  | nil => intro acc x5 x6 _ _; exact ⟨x5, x6, by simp⟩
  | cons c l ih =>
    intro acc x5 x6 hok hz
    simp only [List.length_cons] at hz
    rw [List.map_cons, forL_cons _ _ _ _ _ _ rfl]
    have two : (2 : Nat) ≤ sizeLine := small_le (by omega)
    have l4 : (4 : Nat) ≤ sizeLine := small_le (by omega)
    have hle : acc.length < sizeLine := by rw [szl]; omega
    have hc := hok c List.mem_cons_self
    cases c with
    | is c =>
      have hcl : c ∈ lets := hc
      obtain ⟨x5', x6', e⟩ := ih (acc ++ [.is (ch p q c)]) (some (.dat (Ce.is c).enc)) x6 (fun c hc => hok c (List.mem_cons_of_mem _ hc)) (by simp; omega)
      refine ⟨x5', x6', ?_⟩
      have hb : bodyS ([some (.dat (.tup [.str (cs "swap"), .str [p], .str [q], ad])), e1, e2, e3, some (.lst (acc.map Ce.enc)), x5, x6, none, none, none, none, none].set 5 (some (.dat (Ce.is c).enc))) =
          eNx [some (.dat (.tup [.str (cs "swap"), .str [p], .str [q], ad])), e1, e2, e3, some (.lst ((acc ++ [Ce.is (ch p q c)]).map Ce.enc)), some (.dat (Ce.is c).enc), x6, none, none, none, none, none] := by
        unfold bodyS
        have ee := eq_let hcl hp
        by_cases h : c = p
        · rw [decide_eq_true h] at ee
          subst h
          simp [Ce.enc, ee, two, sApp, hle, ch]
        · rw [decide_eq_false h] at ee
          simp [Ce.enc, ee, two, sApp, hle, ch, h]
      rw [hb, for_nx, e]
      simp [Ce.sub]
    | at_ n k im =>
      obtain ⟨hl, hm⟩ : im.length = 26 ∧ ∀ c ∈ im, c ∈ lets := hc.1
      obtain ⟨x5', x6', e⟩ := ih (acc ++ [.at_ n k (im.map (ch p q))]) (some (.dat (Ce.at_ n k im).enc)) (some (.dat (.str (im.map (ch p q))))) (fun c hc => hok c (List.mem_cons_of_mem _ hc)) (by simp; omega)
      refine ⟨x5', x6', ?_⟩
      have l26 : (26 : Nat) ≤ sizeLine := small_le (by omega)
      have hj := join_map im (ch p q) (by omega)
      have hcc : compL (gnam 11) yesT (iteE (op2B eqB (evar 11) (op2 ixD (evar 0) (ecst (.int 1)))) (op2 ixD (evar 0) (ecst (.int 2))) (evar 11)) [some (SV.dat (.tup [.str (cs "swap"), .str [p], .str [q], ad])), e1, e2, e3, some (.lst (acc.map Ce.enc)), some (.dat (.tup [.str (cs "at"), .str n, .int k, .str im])), x6, none, none, none, none, none] (im.map fun c => D.str [c]) = M.pure (im.map fun c => D.str [ch p q c]) := by
        refine compL_of _ _ _ fun c hc => ⟨_, rfl, rfl, ?_⟩
        have ee := eq_let (hm c hc) hp
        by_cases h : c = p
        · rw [decide_eq_true h] at ee
          subst h
          simp [ee, ch]
        · rw [decide_eq_false h] at ee
          simp [ee, ch, h]
      have hb : bodyS ([some (.dat (.tup [.str (cs "swap"), .str [p], .str [q], ad])), e1, e2, e3, some (.lst (acc.map Ce.enc)), x5, x6, none, none, none, none, none].set 5 (some (.dat (Ce.at_ n k im).enc))) =
          eNx [some (.dat (.tup [.str (cs "swap"), .str [p], .str [q], ad])), e1, e2, e3, some (.lst ((acc ++ [Ce.at_ n k (im.map (ch p q))]).map Ce.enc)), some (.dat (Ce.at_ n k im).enc), some (.dat (.str (im.map (ch p q)))), none, none, none, none, none] := by
        unfold bodyS
        simp [Ce.enc, two, l4, sApp, hle, D.items, hl, l26, drp, hcc, hj]
      rw [hb, for_nx, e]
      simp [Ce.sub]
end VX.K09
set_option Elab.async false
set_option linter.all false
set_option maxRecDepth 100000
namespace VX.K09
open PySem PySem.Spec PyProof.Rows L2
/-! ### fresh cells, settled cells -/
def fresh (n : List Nat) (len : Nat) : List Ce := (List.range len).map fun k => Ce.at_ n k lets
theorem lets_len : lets.length = 26 := by decide
theorem fresh_ok (n : List Nat) (len : Nat) (hn : ∀ c ∈ n, c < 0x110000) : ∀ c ∈ fresh n len, c.ok := by
  intro c hc
  obtain ⟨k, _, rfl⟩ := List.mem_map.mp hc
  exact ⟨⟨lets_len, fun c h => h⟩, hn⟩
/-- lengths -/
abbrev Lens := List (List Nat × Nat)
def Lens.tup (ls : Lens) : D := .tup (ls.map fun p => .tup [.str p.1, .int (p.2 : Nat)])
def Lens.of (ls : Lens) (s : List Nat) : Nat := (ls.lookup s).getD 0
def longD : D := .tup [.str (cs "fault"), .str (cs "long"), .str (cs "")]
def setO : Option (List Ce) → D
  | none => longD
  | some cl => .tup [.str (cs "made"), .tup (cl.map fun c => c.settle.enc)]
end VX.K09
set_option Elab.async false
set_option linter.all false
set_option maxRecDepth 100000
namespace VX.K09
open PySem PySem.Spec PyProof.Rows L2
/-! ### the program's cells -/
theorem fresh_cells_enc (s : List Nat) (len : Nat) (h : len ≤ 1000) : F_fresh_cells [.str s, .int (len : Nat)] = M.pure (.lst ((fresh s len).map Ce.enc)) := by
  unfold F_fresh_cells g_fresh_cells
  rw [fnB_eq]
  have l4 : (4 : Nat) ≤ sizeLine := small_le (by omega)
  have hr := rngN len (by omega)
  have hl2 : (fresh s len).length ≤ sizeLine := small_le (by simp [fresh]; omega)
  have hc : compL (gnam 2) yesT (tupE (consA (ecst G_AT) (consA (evar 0) (consA (evar 2) (consA (ecst G_LETTERS) nilA))))) [some (SV.dat (.str s)), some (.dat (.int (len : Nat))), none] ((List.range len).map fun i => D.int (i : Nat)) = M.pure ((fresh s len).map Ce.enc) := by
    rw [show (fresh s len).map Ce.enc = (List.range len).map fun k => (Ce.at_ s k lets).enc from by simp [fresh]]
    exact compL_of _ _ _ fun k hk => ⟨_, rfl, rfl, by simp [l4, Ce.enc, lets, G_AT, G_LETTERS]⟩
  simp (implicitDefEqProofs := false) [List.replicate, hr, drp, hc, hl2]
theorem known_at {S : Sto} {o : Nat} {KL : List (KS × D)} {s : List Nat} {len : Nat} (hS : S[o]? = some (.ins "Lengths" [("lengths", .dct KL)])) (hk : ixD (.dct KL) (.str s) = some (.int (len : Nat))) (h : len ≤ 1000) :
    F_Lengths_known [.obj o, .str s] S = some (.ok (.lst ((fresh s len).map Ce.enc)), S) := by
  unfold F_Lengths_known g_Lengths_known
  rw [fnB_eq]
  have hg : getF "Lengths" "lengths" (.obj o) S = some (.ok (.dct KL), S) := getF_at hS rfl
  have hf := fresh_cells_enc s len h
  simp (implicitDefEqProofs := false) [List.replicate, fn_S, lift_S, bind_S, hg, pure_S, look_S, Sto.see, hk, hf, rt_S]
theorem settle_fresh (s : List Nat) (len : Nat) : (fresh s len).map Ce.settle = fresh s len := by
  unfold fresh
  rw [List.map_map]
  apply List.map_congr_left
  intro k _
  show (Ce.at_ s k lets).settle = _
  have : lets = 97 :: lets.tail := by decide
  rw [this, settle_at, if_neg (by decide)]
theorem nice_ce {c : Ce} (h : c.ok) : Nice 1 c.enc := by
  cases c with
  | is c =>
    have hc : c ∈ lets := h
    exact nice_tup fun d hd => by
      simp only [List.mem_cons, List.not_mem_nil, or_false] at hd
      rcases hd with rfl | rfl
      · exact nice_str (cs_ok _)
      · exact nice_str (by simpa using let_ok hc)
  | at_ n k im =>
    exact nice_tup fun d hd => by
      simp only [List.mem_cons, List.not_mem_nil, or_false] at hd
      rcases hd with rfl | rfl | rfl | rfl
      · exact nice_str (cs_ok _)
      · exact nice_str h.2
      · exact nice_int _
      · exact nice_str fun c hc => let_ok (h.1.2 c hc)
theorem settle_ok {c : Ce} (h : c.ok) : c.settle.ok := by
  cases c with
  | is c => exact h
  | at_ n k im =>
    have hl := h.1.1
    match im, hl with
    | a :: r, hl =>
      rw [settle_at]
      split
      · exact h.1.2 a (by simp)
      · exact h
theorem nice_encO {o : Option (List Ce)} (h : ∀ cl, o = some cl → ∀ c ∈ cl, c.ok) : Nice 2 (encO o) := by
  cases o with
  | none => exact nice_non
  | some cl =>
    exact nice_lst fun d hd => by
      obtain ⟨c, hc, rfl⟩ := List.mem_map.mp hd
      exact nice_ce (h cl rfl c hc)
theorem non_in {os : List (Option (List Ce))} (h : ∀ o ∈ os, ∀ cl, o = some cl → ∀ c ∈ cl, c.ok) : inB .non (.lst (os.map encO)) = some (os.any Option.isNone) := by
  have hn : ∀ d ∈ os.map encO, Nice 2 d := fun d hd => by
    obtain ⟨o, ho, rfl⟩ := List.mem_map.mp hd
    exact nice_encO (h o ho)
  obtain ⟨p, h1, h2, h3⟩ := (nice_lst hn).shaped (by omega)
  have key : ∀ (os : List (Option (List Ce))) (ps : List PyData), D.pys (os.map encO) = some ps → (ps.any fun z => PyData.eqv z .none) = os.any Option.isNone := by
    intro os
    induction os with
    | nil => intro ps e; cases e; rfl
    | cons o os ih =>
      intro ps e
      rw [List.map_cons] at e
      unfold D.pys at e
      cases e1 : (encO o).py with
      | none => rw [e1] at e; cases e
      | some q =>
        cases e2 : D.pys (os.map encO) with
        | none => rw [e1, e2] at e; cases e
        | some qs =>
          rw [e1, e2] at e
          cases e
          rw [List.any_cons, List.any_cons, ih qs e2]
          congr 1
          cases o with
          | none => cases e1; rfl
          | some cl =>
            unfold encO D.py at e1
            obtain ⟨l, _, rfl⟩ := Option.map_eq_some_iff.mp e1
            rfl
  unfold D.py at h1
  obtain ⟨l, e, rfl⟩ := Option.map_eq_some_iff.mp h1
  unfold inB
  dsimp only
  rw [e, show (D.non).py = some PyData.none from rfl]
  dsimp only
  rw [if_pos ⟨rfl, h2⟩, key os l e]
end VX.K09
set_option Elab.async false
set_option linter.all false
set_option maxRecDepth 100000
namespace VX.K09
open PySem PySem.Spec PyProof.Rows L2
def pc (f : List Nat → List Ce) (d : Dd) : Option (List Ce) := (lc f d).map (·.map Ce.settle)
theorem pc_ok {f : List Nat → List Ce} {d : Dd} (ok : d.okP) (hf : Fok f d.nm) : ∀ cl, pc f d = some cl → cl.length ≤ 40 ∧ ∀ c ∈ cl, c.ok := by
  intro cl h
  obtain ⟨x, e, rfl⟩ := Option.map_eq_some_iff.mp h
  obtain ⟨h1, h2⟩ := lc_ok f d ok hf x e
  exact ⟨by simpa using h1, fun c hc => by
    obtain ⟨a, ha, rfl⟩ := List.mem_map.mp hc
    exact settle_ok (h2 a ha)⟩
theorem cells_by_enc {S : Sto} {o : Nat} {KL : List (KS × D)} (hS : S[o]? = some (.ins "Lengths" [("lengths", .dct KL)])) (ln : List Nat → Nat) : ∀ (n : Nat) (d : Dd), d.ht < n → d.plain → d.okP → Fok (fun s => fresh s (ln s)) d.nm → (∀ s ∈ d.nm, ixD (.dct KL) (.str s) = some (.int (ln s : Nat)) ∧ ln s ≤ 40) →
    ∃ sv, R_cells_by n 0 [enc d, .bm o "Lengths" "known"] S = some (.ok sv, S) ∧ sv.d = encO (pc (fun s => fresh s (ln s)) d) := by
  intro n
  induction n with
  | zero => intro _ h; omega
  | succ n ih =>
    intro d h pl ok hf hK
    unfold R_cells_by
    rw [fnB_eq]
    unfold h_cells_by
    have l1 : (1 : Nat) ≤ sizeLine := small_le (by omega)
    have two : (2 : Nat) ≤ sizeLine := small_le (by omega)
    have ho : asObj "Lengths" "known" (.obj o) S = some (.ok (.obj o), S) := asObj_ok hS rfl
    generalize hF : (fun s => fresh s (ln s)) = f at hf
    have sub : ∀ e ∈ d.parts, e.plain → ∃ sv, R_cells_by n 0 [enc e, .bm o "Lengths" "known"] S = some (.ok sv, S) ∧ sv.d = encO (pc f e) := fun e he hp => by
      subst hF
      exact ih e (by have := ht_parts he; omega) hp (okP_parts ok he) (hf.sub (nm_sub he)) (fun s hs => hK s (nm_sub he s hs))
    have bd : ∀ e ∈ d.parts, ∀ cl, pc f e = some cl → cl.length ≤ 40 ∧ ∀ c ∈ cl, c.ok := fun e he => pc_ok (okP_parts ok he) (hf.sub (nm_sub he))
    cases d with
    | text s =>
      have okl : okLet s 0 40 = true := ok
      have hl : s.length ≤ sizeLine := small_le (by have := okLet_len okl; omega)
      have hc : compL (gnam 4) yesT (tupE (consA (ecst G_IS) (consA (evar 4) nilA))) [some (SV.dat (.tup [.str (cs "text"), .str s])), some (.dat (.bm o "Lengths" "known")), some (.dat (.str (cs "text"))), none, none, none, none] (s.map fun c => D.str [c]) = M.pure (s.map fun c => (Ce.is c).enc) :=
        compL_of _ _ _ fun c hc => ⟨_, rfl, rfl, by simp [two, Ce.enc, G_IS]⟩
      refine ⟨.lst (s.map fun c => (Ce.is c).enc), ?_, ?_⟩
      · simp (implicitDefEqProofs := false) [List.replicate, enc, D.items, hl, drp, hc, pure_S]
      · simp [pc, lc, encO, SV.d, Ce.settle]
    | need s =>
      obtain ⟨e, e2⟩ := hK s (by simp [Dd.nm])
      have hk := known_at hS e (by omega)
      have hbm : asBm "Lengths" "known" (.bm o "Lengths" "known") = asObj "Lengths" "known" (.obj o) := rfl
      refine ⟨.lst ((fresh s (ln s)).map Ce.enc), ?_, ?_⟩
      · simp (implicitDefEqProofs := false) [List.replicate, enc, fn_S, lift_S, bind_S, pure_S, seq_S, hk, hbm, ho, rt_S]
      · subst hF
        simp [pc, lc, encO, SV.d, settle_fresh]
    | join a b =>
      obtain ⟨s1, r1, d1⟩ := sub a (by simp [Dd.parts]) pl.1
      obtain ⟨s2, r2, d2⟩ := sub b (by simp [Dd.parts]) pl.2
      have b1 := bd a (by simp [Dd.parts])
      have b2 := bd b (by simp [Dd.parts])
      have hp := parts_enc (.join a b)
      have hn := non_in (os := [pc f a, pc f b]) (fun o ho => by
        simp only [List.mem_cons, List.not_mem_nil, or_false] at ho
        rcases ho with rfl | rfl
        · exact fun cl e => (b1 cl e).2
        · exact fun cl e => (b2 cl e).2)
      simp only [enc, Dd.parts, List.map_cons, List.map_nil] at hp hn
      have hpc : pc f (.join a b) = match pc f a, pc f b with
        | some x, some y => if x.length + y.length ≤ 40 then some (x ++ y) else none
        | _, _ => none := by
        unfold pc
        rw [lc]
        cases lc f a <;> cases lc f b <;> simp
      rw [hpc]
      cases e1 : pc f a with
      | none =>
        rw [e1] at d1 hn
        simp [encO] at hn
        refine ⟨.dat .non, ?_, rfl⟩
        simp (implicitDefEqProofs := false) [List.replicate, enc, fn_S, lift_S, bind_S, pure_S, seq_S, hp, D.items, drp, compL, r1, r2, noX_S, two, d1, d2, encO, hn, rt_S, nx_S]
      | some x =>
        cases e2 : pc f b with
        | none =>
          rw [e1] at d1
          rw [e1, e2] at hn
          rw [e2] at d2
          simp [encO] at hn
          refine ⟨.dat .non, ?_, rfl⟩
          simp (implicitDefEqProofs := false) [List.replicate, enc, fn_S, lift_S, bind_S, pure_S, seq_S, hp, D.items, drp, compL, r1, r2, noX_S, two, d1, d2, encO, hn, rt_S, nx_S]
        | some y =>
          rw [e1] at d1
          rw [e1, e2] at hn
          rw [e2] at d2
          simp [encO] at hn
          have hx := (b1 x e1).1
          have hy := (b2 y e2).1
          dsimp only
          by_cases hxy : x.length + y.length ≤ 40
          · rw [if_pos hxy]
            have h1 : ¬ (40 : Int) < (x.length : Int) + y.length := by omega
            have h2 : x.length + y.length ≤ sizeLine := small_le (by omega)
            refine ⟨.dat (.lst ((x ++ y).map Ce.enc)), ?_, rfl⟩
            simp (implicitDefEqProofs := false) [List.replicate, enc, fn_S, lift_S, bind_S, pure_S, seq_S, hp, D.items, drp, compL, r1, r2, noX_S, two, d1, d2, encO, hn, rt_S, nx_S, lenD, gtB, addF, h1, h2, G_MOST_CONTENT]
          · rw [if_neg hxy]
            have h1 : (40 : Int) < (x.length : Int) + y.length := by omega
            refine ⟨.dat .non, ?_, rfl⟩
            simp (implicitDefEqProofs := false) [List.replicate, enc, fn_S, lift_S, bind_S, pure_S, seq_S, hp, D.items, drp, compL, r1, r2, noX_S, two, d1, d2, encO, hn, rt_S, nx_S, lenD, gtB, addF, h1, G_MOST_CONTENT]
    | head k a =>
      obtain ⟨s1, r1, d1⟩ := sub a (by simp [Dd.parts]) pl
      have b1 := bd a (by simp [Dd.parts])
      have hp := parts_enc (.head k a)
      have hn := non_in (os := [pc f a]) (fun o ho => by
        simp only [List.mem_cons, List.not_mem_nil, or_false] at ho
        subst ho
        exact fun cl e => (b1 cl e).2)
      simp only [enc, Dd.parts, List.map_cons, List.map_nil] at hp hn
      have hpc : pc f (.head k a) = (pc f a).map (·.take k) := by
        unfold pc
        rw [lc]
        cases lc f a <;> simp
      rw [hpc]
      cases e1 : pc f a with
      | none =>
        rw [e1] at d1 hn
        simp [encO] at hn
        refine ⟨.dat .non, ?_, rfl⟩
        simp (implicitDefEqProofs := false) [List.replicate, enc, fn_S, lift_S, bind_S, pure_S, seq_S, hp, D.items, drp, compL, r1, noX_S, l1, d1, encO, hn, rt_S, nx_S]
      | some x =>
        rw [e1] at d1 hn
        simp [encO] at hn
        have hc2 : slF (.lst (x.map Ce.enc)) none (some (k : Int)) = some (.lst ((x.take k).map Ce.enc)) := by
          show some (SV.lst (cut (x.map Ce.enc) none (some ((k : Nat) : Int)))) = _
          rw [cut_to, List.map_take]
        refine ⟨.lst ((x.take k).map Ce.enc), ?_, rfl⟩
        simp (implicitDefEqProofs := false) [-List.map_take, List.replicate, enc, fn_S, lift_S, bind_S, pure_S, seq_S, hp, D.items, drp, compL, r1, noX_S, l1, d1, encO, hn, rt_S, nx_S, hc2]
    | back a =>
      obtain ⟨s1, r1, d1⟩ := sub a (by simp [Dd.parts]) pl
      have b1 := bd a (by simp [Dd.parts])
      have hp := parts_enc (.back a)
      have hn := non_in (os := [pc f a]) (fun o ho => by
        simp only [List.mem_cons, List.not_mem_nil, or_false] at ho
        subst ho
        exact fun cl e => (b1 cl e).2)
      simp only [enc, Dd.parts, List.map_cons, List.map_nil] at hp hn
      have hpc : pc f (.back a) = (pc f a).map (·.reverse) := by
        unfold pc
        rw [lc]
        cases lc f a <;> simp
      rw [hpc]
      cases e1 : pc f a with
      | none =>
        rw [e1] at d1 hn
        simp [encO] at hn
        refine ⟨.dat .non, ?_, rfl⟩
        simp (implicitDefEqProofs := false) [List.replicate, enc, fn_S, lift_S, bind_S, pure_S, seq_S, hp, D.items, drp, compL, r1, noX_S, l1, d1, encO, hn, rt_S, nx_S]
      | some x =>
        rw [e1] at d1 hn
        simp [encO] at hn
        have hrv : revL (.lst (x.map Ce.enc)) = some (.lst (x.reverse.map Ce.enc)) := by
          rw [List.map_reverse]
          rfl
        refine ⟨.lst (x.reverse.map Ce.enc), ?_, rfl⟩
        simp (implicitDefEqProofs := false) [-List.map_reverse, List.replicate, enc, fn_S, lift_S, bind_S, pure_S, seq_S, hp, D.items, drp, compL, r1, noX_S, l1, d1, encO, hn, rt_S, nx_S, hrv]
    | swap p q a =>
      obtain ⟨s1, r1, d1⟩ := sub a (by simp [Dd.parts]) pl
      have b1 := bd a (by simp [Dd.parts])
      have hp := parts_enc (.swap p q a)
      have hn := non_in (os := [pc f a]) (fun o ho => by
        simp only [List.mem_cons, List.not_mem_nil, or_false] at ho
        subst ho
        exact fun cl e => (b1 cl e).2)
      simp only [enc, Dd.parts, List.map_cons, List.map_nil] at hp hn
      have lo := lc_ok f a ok.2 (hf.sub (nm_sub (d := .swap p q a) (by simp [Dd.parts])))
      unfold pc at d1 hn b1 ⊢
      rw [lc]
      cases e1 : lc f a with
      | none =>
        rw [e1] at d1 hn
        simp [encO] at hn
        simp only [Option.map_none] at d1
        refine ⟨.dat .non, ?_, rfl⟩
        simp (implicitDefEqProofs := false) [List.replicate, enc, fn_S, lift_S, bind_S, pure_S, seq_S, hp, D.items, drp, compL, r1, noX_S, l1, d1, encO, hn, rt_S, nx_S]
      | some x =>
        have hx := lo x e1
        rw [e1] at d1 hn
        simp [encO] at hn
        simp only [Option.map_some, encO, List.map_map] at d1
        have hxs : x.length ≤ sizeLine := small_le (by omega)
        have hc : compL (gnam 6) yesT (frz (callF F_swapped (consA (evar 6) (consA (op2 ixD (evar 0) (ecst (.int 1))) (consA (op2 ixD (evar 0) (ecst (.int 2))) nilA))))) [some (SV.dat (.tup [.str (cs "swap"), .str [p], .str [q], enc a])), some (.dat (.bm o "Lengths" "known")), some (.dat (.str (cs "swap"))), some (.dat (.lst [.lst (x.map (Ce.enc ∘ Ce.settle))])), none, none, none] (x.map (Ce.enc ∘ Ce.settle)) = M.pure (x.map fun c => (c.sub p q).settle.enc) := by
          refine compL_of (Ce.enc ∘ Ce.settle) _ _ fun c hc => ⟨_, rfl, rfl, ?_⟩
          have := swapped_enc c p q ok.1.1 ok.1.2 (hx.2 c hc)
          simp [this]
        refine ⟨.lst (x.map fun c => (c.sub p q).settle.enc), ?_, ?_⟩
        · simp (implicitDefEqProofs := false) [List.replicate, enc, fn_S, lift_S, bind_S, pure_S, seq_S, hp, D.items, drp, compL, r1, noX_S, l1, d1, encO, hn, rt_S, nx_S, hc, hxs]
        · simp [encO, SV.d]
    | named a => cases pl
    | sort a => cases pl
    | same a b c d => cases pl
end VX.K09
set_option Elab.async false
set_option linter.all false
set_option maxRecDepth 100000
namespace VX.K09
open PySem PySem.Spec PyProof.Rows L2
/-! ### lengths -/
theorem pys_strs (l : List (List Nat)) : D.pys (l.map D.str) = some (l.map fun s => PyData.str (st s)) := by
  induction l with
  | nil => rfl
  | cons a l ih =>
    rw [List.map_cons]
    unfold D.pys
    rw [ih]
    rfl
theorem eqvAll_strs : ∀ (a b : List (List Nat)), PyData.eqvAll (a.map fun s => PyData.str (st s)) (b.map fun s => PyData.str (st s)) = decide (a = b)
  | [], [] => rfl
  | [], _ :: _ => rfl
  | _ :: _, [] => rfl
  | x :: a, y :: b => by
    rw [List.map_cons, List.map_cons]
    unfold PyData.eqvAll
    rw [eqvAll_strs a b]
    have : PyData.eqv (.str (st x)) (.str (st y)) = decide (x = y) := by
      unfold PyData.eqv
      by_cases e : x = y
      · subst e; simp
      · rw [decide_eq_false e]
        exact beq_eq_false_iff_ne.mpr fun z => e (st_inj z)
    rw [this]
    by_cases h1 : x = y <;> by_cases h2 : a = b <;> simp [h1, h2]
theorem eqB_strs {a b : List (List Nat)} (ha : ∀ s ∈ a, ∀ c ∈ s, c < 0x110000) (hb : ∀ s ∈ b, ∀ c ∈ s, c < 0x110000) : eqB (.lst (a.map D.str)) (.lst (b.map D.str)) = some (decide (a = b)) := by
  have key : ∀ l : List (List Nat), (∀ s ∈ l, ∀ c ∈ s, c < 0x110000) → SeqAt.shaped (.list (l.map fun s => PyData.str (st s))) = true := fun l h => by
    obtain ⟨p, e, h2, _⟩ := (nice_lst (n := 0) (ds := l.map D.str) (fun d hd => by
      obtain ⟨s, hs, rfl⟩ := List.mem_map.mp hd
      exact nice_str (h s hs))).shaped (by omega)
    unfold D.py at e
    rw [pys_strs] at e
    cases e
    exact h2
  unfold eqB D.py
  rw [pys_strs, pys_strs]
  dsimp only [Option.map_some]
  rw [if_pos ⟨key a ha, key b hb⟩]
  unfold PyData.eqv
  rw [eqvAll_strs]
def asc (l : List (List Nat)) : Bool := (l.zipWith (fun a b => decide (a < b)) (l.drop 1)).all id
theorem ascends_enc (l : List (List Nat)) (hz : l.length ≤ 1000) : F_ascends [.lst (l.map D.str)] = pv (.bl (asc l)) := by
  unfold F_ascends g_ascends
  rw [fnB_eq]
  have hcut : slF (.lst (l.map D.str)) (some 1) none = some (.lst ((l.drop 1).map D.str)) := by
    show some (SV.lst (cut _ _ _)) = _
    cases l with
    | nil => rfl
    | cons a l =>
      rw [show (1 : Int) = ((1 : Nat) : Int) from rfl, cut_from _ (by simp), List.map_drop]
  have hzip : zipI (.lst (l.map D.str)) (.lst ((l.drop 1).map D.str)) = some ((l.zip (l.drop 1)).map fun p => D.tup [.str p.1, .str p.2]) := by
    show some (List.zipWith _ _ _) = _
    rw [List.zipWith_map, List.zip, List.map_zipWith]
  have hc : compL (gtup (gcons (gnam 1) (gcons (gnam 2) gnil))) yesT (cmpE ltB (evar 1) (evar 2)) [some (SV.dat (.lst (l.map D.str))), none, none] ((l.zip (l.drop 1)).map fun p => D.tup [.str p.1, .str p.2]) = M.pure ((l.zip (l.drop 1)).map fun p => D.bl (decide (p.1 < p.2))) :=
    compL_of _ _ _ fun p hp => ⟨[some (SV.dat (.lst (l.map D.str))), some (.dat (.str p.1)), some (.dat (.str p.2))], rfl, rfl, by simp [ltB]⟩
  have hb : allD (.lst ((l.zip (l.drop 1)).map fun p => D.bl (decide (p.1 < p.2)))) = some (.bl (asc l)) := by
    have : ((l.zip (l.drop 1)).map fun p => D.bl (decide (p.1 < p.2))) = (l.zipWith (fun a b => decide (a < b)) (l.drop 1)).map D.bl := by
      rw [List.zip, List.map_zipWith, List.map_zipWith]
    unfold allD
    rw [this]
    dsimp only
    rw [bools_map]
    rfl
  have hl : ((l.zip (l.drop 1)).map fun p => D.bl (decide (p.1 < p.2))).length ≤ sizeLine := small_le (by simp; omega)
  generalize ((l.zip (l.drop 1)).map fun p => D.bl (decide (p.1 < p.2))) = bs at hc hb hl
  simp (implicitDefEqProofs := false) [-List.drop_one, -List.map_drop, List.replicate, hcut, hzip, drp, hc, hb, hl]
def okV : D → Bool
  | .int i => decide (0 ≤ i) && decide (i ≤ 40)
  | _ => false
def isV : D → Prop
  | .int _ => True
  | .bl _ => True
  | _ => False
theorem whole_v {v : D} (h : isV v) : F_is_whole [v, .int 0, .int 40] = pv (.bl (okV v)) := by
  cases v with
  | int i => exact is_whole_int i 0 40
  | bl b => exact is_whole_bl b 0 40
  | _ => cases h
theorem look_v {v : D} (h : isV v) : look v = M.pure v := by
  cases v <;> first | rfl | cases h
abbrev Pairs := List (List Nat × D)
def Pairs.ds (vs : Pairs) : List D := vs.map fun p => D.tup [.str p.1, p.2]
structure PairsOk (vs : Pairs) : Prop where
  v : ∀ p ∈ vs, isV p.2
  n : ∀ p ∈ vs, p.1.length ≤ 1000
  c : ∀ p ∈ vs, ∀ c ∈ p.1, c < 0x110000
  l : vs.length ≤ 1000
def lensB (nl : List (List Nat)) (vs : Pairs) : Bool := vs.all (fun p => okLet p.1 1 8 && okV p.2) && (asc (vs.map (·.1)) && decide (vs.map (·.1) = nl))
theorem allD_map {β : Type} (l : List β) (f : β → Bool) : allD (.lst (l.map fun b => D.bl (f b))) = some (.bl (l.all f)) := by
  have : (l.map fun b => D.bl (f b)) = (l.map f).map D.bl := by simp
  unfold allD
  rw [this]
  dsimp only
  rw [bools_map]
  show some (D.bl ((l.map f).all id)) = _
  rw [List.all_map]
  rfl
theorem are_lengths_pairs (nl : List (List Nat)) (vs : Pairs) (ok : PairsOk vs) (hn : ∀ s ∈ nl, ∀ c ∈ s, c < 0x110000) : F_are_lengths [.lst (nl.map D.str), .tup vs.ds] = pv (.bl (lensB nl vs)) := by
  unfold F_are_lengths g_are_lengths
  rw [fnB_eq]
  have two : (2 : Nat) ≤ sizeLine := small_le (by omega)
  have hl : vs.length ≤ sizeLine := small_le (by have := ok.l; omega)
  have hc1 : compL (gnam 2) yesT (andV (isiE "tuple" (evar 2)) (cmpE eqB (op1 lenD (evar 2)) (ecst (.int 2)))) [some (SV.dat (.lst (nl.map D.str))), some (.dat (.tup vs.ds)), none, none, none, none] vs.ds = M.pure (vs.map fun _ => D.bl true) :=
    compL_of _ _ _ fun p hp => ⟨_, rfl, rfl, by simp [lenD]⟩
  have hc2 : compL (gtup (gcons (gnam 3) (gcons (gnam 4) gnil))) yesT (andV (frz (callF F_is_name (consA (evar 3) nilA))) (frz (callF F_is_whole (consA (evar 4) (consA (ecst (.int 0)) (consA (ecst G_MOST_CONTENT) nilA)))))) [some (SV.dat (.lst (nl.map D.str))), some (.dat (.tup vs.ds)), none, none, none, none] vs.ds = M.pure (vs.map fun p => D.bl (okLet p.1 1 8 && okV p.2)) := by
    refine compL_of _ _ _ fun p hp => ⟨[some (SV.dat (.lst (nl.map D.str))), some (.dat (.tup vs.ds)), none, some (.dat (.str p.1)), some (.dat p.2), none], rfl, rfl, ?_⟩
    have h1 := is_name_str p.1 (ok.n p hp)
    have h2 := whole_v (ok.v p hp)
    by_cases q : okLet p.1 1 8 = true
    · simp [h1, h2, q, G_MOST_CONTENT]
    · simp [h1, q]
  have hc3 : compL (gtup (gcons (gnam 3) (gcons (gnam 5) gnil))) yesT (evar 3) [some (SV.dat (.lst (nl.map D.str))), some (.dat (.tup vs.ds)), none, none, none, none] vs.ds = M.pure ((vs.map (·.1)).map D.str) := by
    rw [List.map_map]
    exact compL_of _ _ _ fun p hp => ⟨[some (SV.dat (.lst (nl.map D.str))), some (.dat (.tup vs.ds)), none, some (.dat (.str p.1)), none, some (.dat p.2)], rfl, rfl, by simp⟩
  have a1 := allD_map vs (fun _ => true)
  have a2 := allD_map vs (fun p => okLet p.1 1 8 && okV p.2)
  have h3 := ascends_enc (vs.map (·.1)) (by simpa using ok.l)
  have h4 := eqB_strs (a := vs.map (·.1)) (b := nl) (fun s hs c hc => by
    obtain ⟨p, hp, rfl⟩ := List.mem_map.mp hs
    exact ok.c p hp c hc) hn
  have hlst : listF (.lst (nl.map D.str)) = some (.lst (nl.map D.str)) := rfl
  have hl3 : ((vs.map (·.1)).map D.str).length ≤ sizeLine := by simpa using hl
  have ht : (vs.all fun _ => true) = true := by simp
  rw [ht] at a1
  unfold lensB
  generalize (vs.map (·.1)) = names at hc3 h3 h4 hl3 ⊢
  generalize names.map D.str = nd at hc3 h3 h4 hl3
  generalize (vs.all fun p => okLet p.1 1 8 && okV p.2) = A at a2 ⊢
  have l1 : (vs.map fun _ => D.bl true).length ≤ sizeLine := by simpa using hl
  have l2 : (vs.map fun p => D.bl (okLet p.1 1 8 && okV p.2)).length ≤ sizeLine := by simpa using hl
  generalize (vs.map fun _ => D.bl true) = L1 at hc1 a1 l1
  generalize (vs.map fun p => D.bl (okLet p.1 1 8 && okV p.2)) = L2 at hc2 a2 l2
  cases A with
  | false => simp (implicitDefEqProofs := false) [List.replicate, D.items, drp, hc1, a1, l1, hc2, a2, l2]
  | true =>
    cases hq : asc names with
    | false =>
      rw [hq] at h3
      simp (implicitDefEqProofs := false) [List.replicate, D.items, drp, hc1, a1, l1, hc2, a2, l2, hc3, hl3, h3]
    | true =>
      rw [hq] at h3
      simp (implicitDefEqProofs := false) [List.replicate, D.items, drp, hc1, a1, l1, hc2, a2, l2, hc3, hl3, h3, hlst, h4]
theorem are_lengths_no (nd v : D) (hv : isiB "tuple" v = some false) (hl : look v = M.pure v) : F_are_lengths [nd, v] = pv (.bl false) := by
  unfold F_are_lengths g_are_lengths
  rw [fnB_eq]
  simp (implicitDefEqProofs := false) [List.replicate, hv, hl]
end VX.K09
set_option Elab.async false
set_option linter.all false
set_option maxRecDepth 100000
namespace VX.K09
open PySem PySem.Spec PyProof.Rows L2
/-! ### cells_of -/
theorem lift_x {α : Type} (e : Ex) (env : Env) (k : α → SM) : liftE (M.raise e : M α) env k = eXc e env := rfl
theorem m_xb {α β : Type} (e : Ex) (f : α → M β) : M.bind (M.raise e : M α) f = M.raise e := rfl
theorem try_xc {tab : Str → Str → Option Bool} {gb : Env → SM} {hs : List (Str × (Env → SM))} {env env' : Env} {x : Ex} (h : gb env = eXc x env') : sTry tab gb hs env = handL tab x hs env' := by
  funext S
  unfold sTry
  rw [h]
  rfl
theorem check_ok {v : D} (h : F_plain_fault [v] = pv .non) : F_check_plain [v] = pv .non := by
  unfold F_check_plain g_check_plain
  rw [fnB_eq]
  simp [List.replicate, h, D.isNon]
theorem check_bad {v x : D} (h : F_plain_fault [v] = pv x) (hx : x.isNon = false) : F_check_plain [v] = M.raise ⟨"BadDeed", []⟩ := by
  unfold F_check_plain g_check_plain
  rw [fnB_eq]
  simp [List.replicate, h, hx]
theorem told_enc (o : Option (List Ce)) : F_told [encO o] = pv (match o with
    | none => longD
    | some cl => .tup [.str (cs "made"), .tup (cl.map Ce.enc)]) := by
  unfold F_told g_told
  rw [fnB_eq]
  have two : (2 : Nat) ≤ sizeLine := small_le (by omega)
  cases o with
  | none => simp [List.replicate, encO, D.isNon, G_LONG, longD]
  | some cl => simp [List.replicate, encO, D.isNon, G_MADE, tupD, two]
theorem set_at {S : Sto} {fs : List (Str × D)} {c f : Str} {y : D} (h : fs.length < 1000) : setF c f y (.obj S.length) (S ++ [.ins c fs]) = some (.ok (), S ++ [.ins c (putFD f y fs)]) := by
  unfold setF
  simp [h]
theorem lengths_init {S : Sto} {ls : Lens} (h : (ls.map (·.1)).Nodup) : F_Lengths_init [.obj S.length, ls.tup] (S ++ [.ins "Lengths" []]) = some (.ok (.dat .non), S ++ [.ins "Lengths" [("lengths", .dct (ls.map fun p => (KS.str p.1, D.int (p.2 : Nat))))]]) := by
  unfold F_Lengths_init g_Lengths_init
  rw [fnB_eq]
  have hd := dictT_map ls (·.1) (fun p => D.int (p.2 : Nat)) h
  have hs := set_at (S := S) (fs := []) (c := "Lengths") (f := "lengths") (y := .dct (ls.map fun p => (KS.str p.1, D.int (p.2 : Nat)))) (by simp)
  simp (implicitDefEqProofs := false) [List.replicate, Lens.tup, hd, fn_S, lift_S, pure_S, hs, nx_S, putFD]
theorem cells_of_enc (S : Sto) (d : Dd) (ls : Lens) (pl : d.plain) (ok : d.okP) (ht : d.ht ≤ 5) (hsz : d.size < 64) (hf : F_plain_fault [enc d] = pv .non) (hn : ls.map (·.1) = d.nm) (hnd : d.nm.Nodup)
    (hlen : ∀ p ∈ ls, p.2 ≤ 40) (hnm : ∀ s ∈ d.nm, okLet s 1 8 = true) (has : asc d.nm = true) (ln : List Nat → Nat) (hln : ∀ p ∈ ls, ln p.1 = p.2) :
    ∃ S', F_cells_of [enc d, ls.tup] S = some (.ok (.dat (setO (lc (fun s => fresh s (ln s)) d))), S') := by
  have hc := check_ok hf
  have hnames : F_names_in [enc d] = M.pure (.lst (d.nm.map D.str)) := names_enc 12 d (by omega) (by omega)
  have hchr : ∀ s ∈ d.nm, ∀ c ∈ s, c < 0x110000 := fun s hs c hc => let_ok (okLet_mem (hnm s hs) c hc)
  have hmem : ∀ p ∈ ls, p.1 ∈ d.nm := fun p hp => by rw [← hn]; exact List.mem_map_of_mem hp
  have hvs : ls.tup = .tup (Pairs.ds (ls.map fun p => (p.1, D.int (p.2 : Nat)))) := by
    unfold Lens.tup Pairs.ds
    rw [List.map_map]
    rfl
  have hll : ls.length < 64 := by
    have := nm_len d
    rw [← hn, List.length_map] at this
    omega
  have hal : F_are_lengths [.lst (d.nm.map D.str), ls.tup] = pv (.bl true) := by
    rw [hvs, are_lengths_pairs d.nm _ ⟨fun p hp => by
      obtain ⟨q, _, rfl⟩ := List.mem_map.mp hp
      trivial, fun p hp => by
      obtain ⟨q, hq, rfl⟩ := List.mem_map.mp hp
      have := okLet_len (hnm _ (hmem q hq))
      show q.1.length ≤ 1000
      omega, fun p hp => by
      obtain ⟨q, hq, rfl⟩ := List.mem_map.mp hp
      exact hchr _ (hmem q hq), by rw [List.length_map]; omega⟩ hchr]
    have e1 : (ls.map fun p => (p.1, D.int (p.2 : Nat))).map (·.1) = d.nm := by
      rw [List.map_map, ← hn]
      rfl
    have e2 : (ls.map fun p => (p.1, D.int (p.2 : Nat))).all (fun p => okLet p.1 1 8 && okV p.2) = true := by
      rw [List.all_eq_true]
      intro p hp
      obtain ⟨q, hq, rfl⟩ := List.mem_map.mp hp
      have h1 := hnm _ (hmem q hq)
      have h2 := hlen q hq
      simp [h1, okV]
      omega
    unfold lensB
    rw [e1, e2, has]
    simp
  have hi := lengths_init (S := S) (ls := ls) (by rw [hn]; exact hnd)
  generalize hKL : (ls.map fun p => (KS.str p.1, D.int (p.2 : Nat))) = KL at hi
  have hmk : mkF "Lengths" F_Lengths_init [ls.tup] S = some (.ok (.dat (.obj S.length)), S ++ [.ins "Lengths" [("lengths", .dct KL)]]) := by
    unfold mkF
    rw [hi]
  have hS2 : (S ++ [Cell.ins "Lengths" [("lengths", .dct KL)]])[S.length]? = some (.ins "Lengths" [("lengths", .dct KL)]) := by simp
  have hbm : asObj "Lengths" "known" (.obj S.length) (S ++ [Cell.ins "Lengths" [("lengths", .dct KL)]]) = some (.ok (.obj S.length), S ++ [Cell.ins "Lengths" [("lengths", .dct KL)]]) := asObj_ok hS2 rfl
  have hKs : ∀ s ∈ d.nm, ixD (.dct KL) (.str s) = some (.int (ln s : Nat)) ∧ ln s ≤ 40 := by
    intro s hs
    rw [← hn] at hs
    obtain ⟨p, hp, rfl⟩ := List.mem_map.mp hs
    rw [← hKL, ixD_map ls (·.1) (fun p => D.int (p.2 : Nat)) (by rw [hn]; exact hnd) hp, hln p hp]
    exact ⟨rfl, hlen p hp⟩
  have hfok : Fok (fun s => fresh s (ln s)) d.nm := ⟨fun s hs => by simp [fresh]; exact (hKs s hs).2, fun s hs => fresh_ok s _ (hchr s hs)⟩
  obtain ⟨sv, hcb, hsv⟩ := cells_by_enc hS2 ln 12 d (by omega) pl ok hfok hKs
  have htold := told_enc (pc (fun s => fresh s (ln s)) d)
  have hres : (match pc (fun s => fresh s (ln s)) d with
    | none => longD
    | some cl => .tup [.str (cs "made"), .tup (cl.map Ce.enc)]) = setO (lc (fun s => fresh s (ln s)) d) := by
    unfold pc
    cases lc (fun s => fresh s (ln s)) d with
    | none => rfl
    | some cl => simp [setO]
  rw [hres] at htold
  refine ⟨S ++ [.ins "Lengths" [("lengths", .dct KL)]], ?_⟩
  unfold F_cells_of g_cells_of
  rw [fnB_eq]
  have hcb' : F_cells_by [enc d, .bm S.length "Lengths" "known"] (S ++ [Cell.ins "Lengths" [("lengths", .dct KL)]]) = some (.ok sv, S ++ [Cell.ins "Lengths" [("lengths", .dct KL)]]) := hcb
  simp (implicitDefEqProofs := false) [List.replicate, hc, hnames, hal, fn_S, seq_S, nx_S, lift_S, bind_S, pure_S, hmk, hbm, hcb', hsv, htold, rt_S]
end VX.K09
set_option Elab.async false
set_option linter.all false
set_option maxRecDepth 100000
namespace VX.K09
open PySem PySem.Spec PyProof.Rows L2
/-! ### a trial -/
def forR (r : Option (Fl × Sto)) (k : Env → SM) : Option (Fl × Sto) := match r with
  | some (.nx env, S') => k env S'
  | some (.ct env, S') => k env S'
  | some (.bk env, S') => some (.nx env, S')
  | r => r
theorem for_S (m : SM) (k : Env → SM) (S : Sto) : forF m k S = forR (m S) k := rfl
@[simp] theorem forR_nx (env : Env) (S : Sto) (k : Env → SM) : forR (some (.nx env, S)) k = k env S := rfl
@[simp] theorem forR_rt (v : SV) (S : Sto) (k : Env → SM) : forR (some (.rt v, S)) k = some (.rt v, S) := rfl
def tFs (K : List (KS × D)) (o : Nat) (e : D) : List (Str × D) := [("known", .dct K), ("rules", .non), ("needs", .obj (o + 1)), ("end", e)]
structure TS (S : Sto) (o : Nat) (K : List (KS × D)) (l : List (List Nat)) (e : D) : Prop where
  a : S[o]? = some (.ins "Trial" (tFs K o e))
  b : S[o + 1]? = some (.lst (l.map D.str))
  c : ∀ s ∈ l, ∀ c ∈ s, c < 0x110000
def longE : D := .tup [.str (cs "done"), longD]
theorem TS.endd {S : Sto} {o : Nat} {K : List (KS × D)} {l : List (List Nat)} {e : D} (h : TS S o K l e) (y : D) : ∃ S', setF "Trial" "end" y (.obj o) S = some (.ok (), S') ∧ TS S' o K l y := by
  have h1 : o < S.length := (List.getElem?_eq_some_iff.mp h.a).1
  refine ⟨S.set o (.ins "Trial" (tFs K o y)), ?_, ?_, ?_, h.c⟩
  · unfold setF
    dsimp only
    rw [h.a]
    rfl
  · rw [List.getElem?_set_self h1]
  · rw [List.getElem?_set_ne (by omega)]; exact h.b
theorem in_strs (s : List Nat) (l : List (List Nat)) (hs : ∀ c ∈ s, c < 0x110000) (hl : ∀ s ∈ l, ∀ c ∈ s, c < 0x110000) : inB (.str s) (.lst (l.map D.str)) = some (decide (s ∈ l)) := by
  have h1 : SeqAt.shaped (.str (st s)) = true := by
    obtain ⟨p, e, h, _⟩ := (nice_str (n := 0) hs).shaped (Nat.zero_le _)
    cases e; exact h
  have h2 : SeqAt.shaped (.list (l.map fun s => PyData.str (st s))) = true := by
    obtain ⟨p, e, h2, _⟩ := (nice_lst (n := 0) (ds := l.map D.str) (fun d hd => by
      obtain ⟨s, hs, rfl⟩ := List.mem_map.mp hd
      exact nice_str (hl s hs))).shaped (by omega)
    unfold D.py at e
    rw [pys_strs] at e
    cases e
    exact h2
  unfold inB
  dsimp only
  rw [pys_strs, show (D.str s).py = some (.str (st s)) from rfl]
  dsimp only
  rw [if_pos ⟨h1, h2⟩]
  congr 1
  clear h2 hl
  induction l with
  | nil => rfl
  | cons a l ih =>
    rw [List.map_cons, List.any_cons, ih]
    have : PyData.eqv (.str (st a)) (.str (st s)) = decide (s = a) := by
      unfold PyData.eqv
      by_cases e : s = a
      · subst e; simp
      · rw [decide_eq_false e]
        exact beq_eq_false_iff_ne.mpr fun z => e (st_inj z).symm
    rw [this]
    by_cases q : s = a <;> by_cases r : s ∈ l <;> simp [q, r]
theorem TS.known {S : Sto} {o : Nat} {K : List (KS × D)} {l : List (List Nat)} {e : D} (h : TS S o K l e) : getF "Trial" "known" (.obj o) S = some (.ok (.dct K), S) := getF_at h.a rfl
theorem TS.rules {S : Sto} {o : Nat} {K : List (KS × D)} {l : List (List Nat)} {e : D} (h : TS S o K l e) : getF "Trial" "rules" (.obj o) S = some (.ok .non, S) := getF_at h.a rfl
theorem TS.needs {S : Sto} {o : Nat} {K : List (KS × D)} {l : List (List Nat)} {e : D} (h : TS S o K l e) : getF "Trial" "needs" (.obj o) S = some (.ok (.obj (o + 1)), S) := getF_at h.a rfl
theorem TS.end_ {S : Sto} {o : Nat} {K : List (KS × D)} {l : List (List Nat)} {e : D} (h : TS S o K l e) : getF "Trial" "end" (.obj o) S = some (.ok e, S) := getF_at h.a rfl
theorem TS.see {S : Sto} {o : Nat} {K : List (KS × D)} {l : List (List Nat)} {e : D} (h : TS S o K l e) : Sto.see S (.obj (o + 1)) = .lst (l.map D.str) := by
  unfold Sto.see
  dsimp only
  rw [h.b]
theorem TS.meth {S : Sto} {o : Nat} {K : List (KS × D)} {l : List (List Nat)} {e : D} (h : TS S o K l e) {m : Str} (hm : (tFs K o e).lookup m = none) : asObj "Trial" m (.obj o) S = some (.ok (.obj o), S) := asObj_ok h.a hm
theorem TS.isl {S : Sto} {o : Nat} {K : List (KS × D)} {l : List (List Nat)} {e : D} (h : TS S o K l e) : isLst (.obj (o + 1)) S = some (.ok (), S) := by
  unfold isLst
  dsimp only
  rw [h.b]
theorem TS.app {S : Sto} {o : Nat} {K : List (KS × D)} {l : List (List Nat)} {e : D} (h : TS S o K l e) (hl : l.length ≤ 1000) (s : List Nat) (hs : ∀ c ∈ s, c < 0x110000) : ∃ S', appC (.str s) (.obj (o + 1)) S = some (.ok (), S') ∧ TS S' o K (l ++ [s]) e := by
  have h1 : o + 1 < S.length := (List.getElem?_eq_some_iff.mp h.b).1
  refine ⟨S.set (o + 1) (.lst ((l ++ [s]).map D.str)), ?_, ?_, ?_, ?_⟩
  · unfold appC
    dsimp only
    rw [h.b]
    dsimp only
    rw [if_pos (by rw [List.length_map, szl]; omega), List.map_append]
    rfl
  · rw [List.getElem?_set_ne (by omega)]; exact h.a
  · rw [List.getElem?_set_self h1]
  · intro t ht
    rcases List.mem_append.mp ht with q | q
    · exact h.c t q
    · simp at q; subst q; exact hs
def madeD (c : List Nat) : D := .tup [.str (cs "made"), .str c]
theorem ask_at {S : Sto} {o : Nat} {K : List (KS × D)} {l : List (List Nat)} (h : TS S o K l .non) {s c : List Nat} (hl : l.length ≤ 1000) (hs : ∀ c ∈ s, c < 0x110000) (hk : getDk (.dct K) (.str s) = some (madeD c)) :
    ∃ S' l', F_Trial_ask [.obj o, .str s] S = some (.ok (.dat (.str c)), S') ∧ TS S' o K l' .non ∧ l'.length ≤ l.length + 1 := by
  have hin := in_strs s l hs h.c
  have tail : ∀ S' l', TS S' o K l' .non → fnR (seqR (some (.nx [some (SV.dat (.obj o)), some (.dat (.str s)), none], S')) (sSeq (sAsg 2 (getE (fldE "Trial" "known" (evar 0)) (evar 1)))
  (sSeq (sIf (andT (isNonB (evar 2)) (andT (isNotNonB (fldE "Trial" "rules" (evar 0))) (op2B notInB (evar 1) (fldE "Trial" "rules" (evar 0))))) (sAsg 2 (tupE (consA (ecst G_FAULT) (consA (ecst (.str (cs "lacks"))) (consA (evar 1) nilA))))) sNx)
  (sSeq (sIf (isNonB (evar 2)) (sSeq (sFld "Trial" "end" (evar 0) (tupE (consA (ecst G_WAITS) (consA (evar 1) nilA))))
  (sRet (ecst .non))) sNx)
  (sSeq (sIf (op2B eqB (op2 ixD (evar 2) (ecst (.int 0))) (ecst G_FAULT)) (sSeq (sFld "Trial" "end" (evar 0) (tupE (consA (ecst G_DONE) (consA (evar 2) nilA))))
  (sRet (ecst .non))) sNx)
  (sRet (op2 ixD (evar 2) (ecst (.int 1))))))))) = some (.ok (.dat (.str c)), S') := by
    intro S' l' h'
    have hkn := h'.known
    simp (implicitDefEqProofs := false) [lift_S, bind_S, pure_S, seq_S, hkn, isDct, hk, madeD, D.isNon, G_FAULT, rt_S, nx_S, look_S]
  unfold F_Trial_ask g_Trial_ask
  rw [fnB_eq]
  have hn := h.needs
  have hsee := h.see
  have hisl := h.isl
  have hlk : look (.obj (o + 1)) S = some (.ok (.lst (l.map D.str)), S) := by rw [look_S, hsee]
  by_cases q : s ∈ l
  · rw [decide_eq_true q] at hin
    refine ⟨S, l, ?_, h, by omega⟩
    rw [← tail S l h, fn_S, sSeq_eq, seq_S]
    congr 2
    have hni : notInB (.str s) (.lst (l.map D.str)) = some false := by unfold notInB; rw [hin]; rfl
    simp (implicitDefEqProofs := false) [List.replicate, lift_S, bind_S, pure_S, hn, hlk, hni, nx_S]
  · rw [decide_eq_false q] at hin
    obtain ⟨S', ha, h'⟩ := h.app hl s hs
    refine ⟨S', l ++ [s], ?_, h', by simp⟩
    rw [← tail S' _ h', fn_S, sSeq_eq, seq_S]
    congr 2
    have hni : notInB (.str s) (.lst (l.map D.str)) = some true := by unfold notInB; rw [hin]; rfl
    simp (implicitDefEqProofs := false) [List.replicate, lift_S, bind_S, pure_S, hn, hlk, hni, nx_S, hisl, ha, sAppS]
end VX.K09
set_option Elab.async false
set_option linter.all false
set_option maxRecDepth 100000
namespace VX.K09
open PySem PySem.Spec PyProof.Rows L2
/-! ### the made content -/
def tc (g : List Nat → List Nat) : Dd → Option (List Nat)
  | .text s => some s
  | .need n => some (g n)
  | .join a b => match tc g a, tc g b with
    | some x, some y => if x.length + y.length ≤ 40 then some (x ++ y) else none
    | _, _ => none
  | .head k a => (tc g a).map (·.take k)
  | .back a => (tc g a).map (·.reverse)
  | .swap x y a => (tc g a).map (·.map (ch x y))
  | _ => none
theorem tc_ok (g : List Nat → List Nat) : ∀ (d : Dd), d.okP → (∀ s ∈ d.nm, (g s).length ≤ 40 ∧ ∀ c ∈ g s, c ∈ lets) → ∀ cl, tc g d = some cl → cl.length ≤ 40 ∧ ∀ c ∈ cl, c ∈ lets := by
  intro d
  induction d with
  | text s =>
    intro ok _ cl h
    have ok : okLet s 0 40 = true := ok
    cases h
    exact ⟨by simpa using okLet_len ok, okLet_mem ok⟩
  | need n =>
    intro ok hf cl h
    cases h
    exact hf n (by simp [Dd.nm])
  | join a b ia ib =>
    intro ok hf cl h
    have ha := ia ok.1 (fun s hs => hf s (nm_sub (d := .join a b) (by simp [Dd.parts]) s hs))
    have hb := ib ok.2 (fun s hs => hf s (nm_sub (d := .join a b) (by simp [Dd.parts]) s hs))
    unfold tc at h
    cases e1 : tc g a with
    | none => rw [e1] at h; cases h
    | some x =>
      cases e2 : tc g b with
      | none => rw [e1, e2] at h; cases h
      | some y =>
        rw [e1, e2] at h
        dsimp only at h
        split at h
        · cases h
          refine ⟨by simpa using ‹_ ≤ 40›, fun c hc => ?_⟩
          rcases List.mem_append.mp hc with q | q
          · exact (ha x e1).2 c q
          · exact (hb y e2).2 c q
        · cases h
  | head k a ia =>
    intro ok hf cl h
    have ha := ia ok.2 (fun s hs => hf s (nm_sub (d := .head k a) (by simp [Dd.parts]) s hs))
    unfold tc at h
    obtain ⟨x, e1, rfl⟩ := Option.map_eq_some_iff.mp h
    exact ⟨by have := (ha x e1).1; simp; omega, fun c hc => (ha x e1).2 c (List.mem_of_mem_take hc)⟩
  | back a ia =>
    intro ok hf cl h
    have ha := ia ok (fun s hs => hf s (nm_sub (d := .back a) (by simp [Dd.parts]) s hs))
    unfold tc at h
    obtain ⟨x, e1, rfl⟩ := Option.map_eq_some_iff.mp h
    exact ⟨by simpa using (ha x e1).1, fun c hc => (ha x e1).2 c (List.mem_reverse.mp hc)⟩
  | swap x y a ia =>
    intro ok hf cl h
    have ha := ia ok.2 (fun s hs => hf s (nm_sub (d := .swap x y a) (by simp [Dd.parts]) s hs))
    unfold tc at h
    obtain ⟨z, e1, rfl⟩ := Option.map_eq_some_iff.mp h
    exact ⟨by simpa using (ha z e1).1, fun c hc => by
      obtain ⟨b, hb, rfl⟩ := List.mem_map.mp hc
      exact ch_let ok.1.2 ((ha z e1).2 b hb)⟩
  | named a _ => intro _ _ cl h; cases h
  | sort a _ => intro _ _ cl h; cases h
  | same a b c d _ _ _ _ => intro _ _ cl h; cases h
def strO : Option (List Nat) → D
  | none => .non
  | some c => .str c
def endO : Option (List Nat) → D
  | none => longE
  | some _ => .non
theorem bounded_at {S : Sto} {o : Nat} {K : List (KS × D)} {l : List (List Nat)} (h : TS S o K l .non) (c : List Nat) (hc : c.length ≤ 1000) :
    ∃ S', F_Trial__bounded [.obj o, .str c] S = some (.ok (.dat (strO (if c.length ≤ 40 then some c else none))), S') ∧ TS S' o K l (endO (if c.length ≤ 40 then some c else none)) := by
  unfold F_Trial__bounded g_Trial__bounded
  rw [fnB_eq]
  have hl : c.length ≤ sizeLine := small_le (by omega)
  have two : (2 : Nat) ≤ sizeLine := small_le (by omega)
  by_cases q : c.length ≤ 40
  · rw [if_pos q]
    have h1 : ¬ (40 : Int) < c.length := by omega
    refine ⟨S, ?_, h⟩
    simp (implicitDefEqProofs := false) [List.replicate, lenD, hl, gtB, G_MOST_CONTENT, h1, pure_S, strO]
  · rw [if_neg q]
    have h1 : (40 : Int) < c.length := by omega
    obtain ⟨S', e, h'⟩ := h.endd longE
    refine ⟨S', ?_, h'⟩
    have e2 : setF "Trial" "end" (.tup [.str (cs "done"), .tup [.str (cs "fault"), .str (cs "long"), .str (cs "")]]) (.obj o) S = some (.ok (), S') := e
    simp (implicitDefEqProofs := false) [List.replicate, lenD, hl, gtB, G_MOST_CONTENT, h1, strO, two, G_DONE, G_LONG, fn_S, seq_S, lift_S, e2, nx_S, rt_S, pure_S]
theorem head_cut (c : List Nat) (k : Nat) (hc : c.length ≤ 1000) : slF (.str c) none (some (k : Int)) = some (.dat (.str (c.take k))) := by
  unfold slF
  dsimp only
  rw [if_pos (small_le (by omega)), cut_to]
end VX.K09
set_option Elab.async false
set_option linter.all false
set_option maxRecDepth 100000
namespace VX.K09
open PySem PySem.Spec PyProof.Rows L2
theorem one_head (o : Nat) (k : Nat) (a : Dd) (c : List Nat) (hc : c.length ≤ 1000) : F_Trial__one [.obj o, enc (.head k a), .str c] = pv (.str (c.take k)) := by
  unfold F_Trial__one g_Trial__one
  rw [fnB_eq]
  have h := head_cut c k hc
  simp (implicitDefEqProofs := false) [List.replicate, enc, h]
theorem one_back (o : Nat) (a : Dd) (c : List Nat) (hc : c.length ≤ 1000) : F_Trial__one [.obj o, enc (.back a), .str c] = pv (.str c.reverse) := by
  unfold F_Trial__one g_Trial__one
  rw [fnB_eq]
  have h : revS (.str c) = some (.str c.reverse) := by
    unfold revS
    dsimp only
    rw [if_pos (small_le (by omega))]
  simp (implicitDefEqProofs := false) [List.replicate, enc, h]
theorem one_swap (o : Nat) (p q : Nat) (hp : p ∈ lets) (a : Dd) (c : List Nat) (hc : c.length ≤ 1000) (hm : ∀ x ∈ c, x ∈ lets) : F_Trial__one [.obj o, enc (.swap p q a), .str c] = pv (.str (c.map (ch p q))) := by
  unfold F_Trial__one g_Trial__one
  rw [fnB_eq]
  have hl : c.length ≤ sizeLine := small_le (by omega)
  have hcc : compL (gnam 4) yesT (iteE (op2B eqB (evar 4) (op2 ixD (evar 1) (ecst (.int 1)))) (op2 ixD (evar 1) (ecst (.int 2))) (evar 4)) [some (SV.dat (.obj o)), some (.dat (.tup [.str (cs "swap"), .str [p], .str [q], enc a])), some (.dat (.str c)), some (.dat (.str (cs "swap"))), none] (c.map fun x => D.str [x]) = M.pure (c.map fun x => D.str [ch p q x]) := by
    refine compL_of _ _ _ fun x hx => ⟨_, rfl, rfl, ?_⟩
    have ee := eq_let (hm x hx) hp
    by_cases h : x = p
    · rw [decide_eq_true h] at ee
      subst h
      simp [ee, ch]
    · rw [decide_eq_false h] at ee
      simp [ee, ch, h]
  have hj := join_map c (ch p q) hc
  simp (implicitDefEqProofs := false) [List.replicate, enc, D.items, hl, drp, hcc, hj]
theorem forL_consG (i : Nat) (b : Env → SM) (d : D) (ds : List D) (env : Env) : forL (gnam i) b (d :: ds) env = forF (b (env.set i (some (.dat d)))) (forL (gnam i) b ds) := forL_cons _ _ _ _ _ _ rfl
theorem forL_nil (tf : TgF) (b : Env → SM) (env : Env) : forL tf b [] env = eNx env := rfl
theorem sRetV_lst (i : Nat) (env : Env) (xs : List D) (h : env[i]? = some (some (.lst xs))) : sRetV i env = eRt (.lst xs) := by
  unfold sRetV
  rw [h]
  rfl
theorem do_at (K : List (KS × D)) (g : List Nat → List Nat) (o : Nat) : ∀ (n : Nat) (d : Dd) (S : Sto) (l : List (List Nat)), 2 * d.ht < n → d.plain → d.okP → (∀ s ∈ d.nm, getDk (.dct K) (.str s) = some (madeD (g s)) ∧ (g s).length ≤ 40 ∧ ∀ c ∈ g s, c ∈ lets) → TS S o K l .non → l.length + d.size ≤ 1000 →
    ∃ S' l' sv, R_Trial__all n 1 [.obj o, enc d] S = some (.ok sv, S') ∧ sv.d = strO (tc g d) ∧ TS S' o K l' (endO (tc g d)) ∧ l'.length ≤ l.length + d.size := by
  intro n
  induction n using Nat.strongRecOn with
  | ind n ih =>
  intro d S l hn pl ok hK ts hz
  obtain ⟨n, rfl⟩ : ∃ m, n = m + 1 := ⟨n - 1, by omega⟩
  rw [show R_Trial__all (n + 1) 1 = fnB 5 (h_Trial_do (R_Trial__all n)) from rfl]
  rw [fnB_eq]
  unfold h_Trial_do
  have z0 : (0 : Nat) ≤ sizeLine := Nat.zero_le _
  have l1 : (1 : Nat) ≤ sizeLine := small_le (by omega)
  have two : (2 : Nat) ≤ sizeLine := small_le (by omega)
  have p0 : (0 : Nat) < sizeLine := by rw [szl]; omega
  have p1 : (1 : Nat) < sizeLine := by rw [szl]; omega
  have mAll : asObj "Trial" "_all" (.obj o) S = some (.ok (.obj o), S) := ts.meth rfl
  have mDo : ∀ {S : Sto} {l : List (List Nat)}, TS S o K l .non → asObj "Trial" "do" (.obj o) S = some (.ok (.obj o), S) := fun ts => ts.meth rfl
  have tcb : ∀ e ∈ d.parts, ∀ c, tc g e = some c → c.length ≤ 40 ∧ ∀ x ∈ c, x ∈ lets := fun e he => tc_ok g e (okP_parts ok he) (fun s hs => (hK s (nm_sub he s hs)).2)
  -- one part
  have uno : ∀ a, d.parts = [a] → a.plain → ∃ S' l' sv, R_Trial__all n 0 [.obj o, .tup [enc a]] S = some (.ok sv, S') ∧ sv.d = (match tc g a with
      | none => .non
      | some c => .lst [.str c]) ∧ TS S' o K l' (endO (tc g a)) ∧ l'.length ≤ l.length + a.size := by
    intro a hp hpl
    have hm : a ∈ d.parts := by rw [hp]; simp
    have hh := ht_parts hm
    have hs := size_le hm
    obtain ⟨m, rfl⟩ : ∃ m, n = m + 1 := ⟨n - 1, by omega⟩
    obtain ⟨S', l', sv, e, e2, t', hl'⟩ := ih m (by omega) a S l (by omega) hpl (okP_parts ok hm) (fun s hs => hK s (nm_sub hm s hs)) ts (by omega)
    have md := mDo ts
    rw [show R_Trial__all (m + 1) 0 = fnB 5 (h_Trial__all (R_Trial__all m)) from rfl]
    rw [fnB_eq]
    unfold h_Trial__all
    cases q : tc g a with
    | none =>
      rw [q] at e2 t'
      refine ⟨S', l', .dat .non, ?_, rfl, t', hl'⟩
      simp (implicitDefEqProofs := false) [List.replicate, z0, D.items, forL_consG, forL_nil, fn_S, seq_S, for_S, lift_S, bind_S, pure_S, md, e, e2, strO, D.isNon, rt_S, nx_S]
    | some c =>
      rw [q] at e2 t'
      refine ⟨S', l', .lst [.str c], ?_, rfl, t', hl'⟩
      simp (implicitDefEqProofs := false) [List.replicate, z0, D.items, forL_consG, forL_nil, fn_S, seq_S, for_S, lift_S, bind_S, pure_S, md, e, e2, strO, D.isNon, rt_S, nx_S, sApp, p0, sRetV_lst]
  have hix0 := enc_ix0 d
  cases d with
  | text s =>
    refine ⟨S, l, .dat (.str s), ?_, rfl, ts, by omega⟩
    simp (implicitDefEqProofs := false) [List.replicate, enc, pure_S]
  | need s =>
    obtain ⟨k1, k2, k3⟩ := hK s (by simp [Dd.nm])
    have okn : okLet s 1 8 = true := ok
    obtain ⟨S', l', e, t', hl'⟩ := ask_at ts (by simp [Dd.size] at hz; omega) (fun c hc => let_ok (okLet_mem okn c hc)) k1
    have ma : asObj "Trial" "ask" (.obj o) S = some (.ok (.obj o), S) := ts.meth rfl
    refine ⟨S', l', .dat (.str (g s)), ?_, rfl, t', by simp [Dd.size]; omega⟩
    simp (implicitDefEqProofs := false) [List.replicate, enc, fn_S, seq_S, lift_S, bind_S, pure_S, ma, e, rt_S]
  | head k a =>
    obtain ⟨S', l', sv, e, e2, t', hl'⟩ := uno a rfl pl
    have hp := parts_enc (.head k a)
    simp only [Dd.parts, List.map_cons, List.map_nil] at hp
    unfold tc
    cases q : tc g a with
    | none =>
      rw [q] at e2 t'
      simp only at e2
      refine ⟨S', l', .dat .non, ?_, rfl, t', by simp [Dd.size]; omega⟩
      simp (implicitDefEqProofs := false) [List.replicate, Dd.word, look_enc, hix0, hp, fn_S, seq_S, lift_S, bind_S, pure_S, mAll, e, e2, D.isNon, rt_S, nx_S]
    | some c =>
      rw [q] at e2 t'
      simp only at e2
      have hc := (tcb a (by simp [Dd.parts]) c q).1
      have h1 := one_head o k a c (by omega)
      have mo : asObj "Trial" "_one" (.obj o) S' = some (.ok (.obj o), S') := t'.meth rfl
      refine ⟨S', l', .dat (.str (c.take k)), ?_, rfl, t', by simp [Dd.size]; omega⟩
      simp (implicitDefEqProofs := false) [List.replicate, Dd.word, look_enc, hix0, hp, fn_S, seq_S, lift_S, bind_S, pure_S, mAll, e, e2, D.isNon, rt_S, nx_S, mo, h1]
  | back a =>
    obtain ⟨S', l', sv, e, e2, t', hl'⟩ := uno a rfl pl
    have hp := parts_enc (.back a)
    simp only [Dd.parts, List.map_cons, List.map_nil] at hp
    unfold tc
    cases q : tc g a with
    | none =>
      rw [q] at e2 t'
      simp only at e2
      refine ⟨S', l', .dat .non, ?_, rfl, t', by simp [Dd.size]; omega⟩
      simp (implicitDefEqProofs := false) [List.replicate, Dd.word, look_enc, hix0, hp, fn_S, seq_S, lift_S, bind_S, pure_S, mAll, e, e2, D.isNon, rt_S, nx_S]
    | some c =>
      rw [q] at e2 t'
      simp only at e2
      have hc := (tcb a (by simp [Dd.parts]) c q).1
      have h1 := one_back o a c (by omega)
      have mo : asObj "Trial" "_one" (.obj o) S' = some (.ok (.obj o), S') := t'.meth rfl
      refine ⟨S', l', .dat (.str c.reverse), ?_, rfl, t', by simp [Dd.size]; omega⟩
      simp (implicitDefEqProofs := false) [List.replicate, Dd.word, look_enc, hix0, hp, fn_S, seq_S, lift_S, bind_S, pure_S, mAll, e, e2, D.isNon, rt_S, nx_S, mo, h1]
  | swap x y a =>
    obtain ⟨S', l', sv, e, e2, t', hl'⟩ := uno a rfl pl
    have hp := parts_enc (.swap x y a)
    simp only [Dd.parts, List.map_cons, List.map_nil] at hp
    unfold tc
    cases q : tc g a with
    | none =>
      rw [q] at e2 t'
      simp only at e2
      refine ⟨S', l', .dat .non, ?_, rfl, t', by simp [Dd.size]; omega⟩
      simp (implicitDefEqProofs := false) [List.replicate, Dd.word, look_enc, hix0, hp, fn_S, seq_S, lift_S, bind_S, pure_S, mAll, e, e2, D.isNon, rt_S, nx_S]
    | some c =>
      rw [q] at e2 t'
      simp only at e2
      have hc := tcb a (by simp [Dd.parts]) c q
      have h1 := one_swap o x y ok.1.1 a c (by omega) hc.2
      have mo : asObj "Trial" "_one" (.obj o) S' = some (.ok (.obj o), S') := t'.meth rfl
      refine ⟨S', l', .dat (.str (c.map (ch x y))), ?_, rfl, t', by simp [Dd.size]; omega⟩
      simp (implicitDefEqProofs := false) [List.replicate, Dd.word, look_enc, hix0, hp, fn_S, seq_S, lift_S, bind_S, pure_S, mAll, e, e2, D.isNon, rt_S, nx_S, mo, h1]
  | join a b =>
    have ma : a ∈ (Dd.join a b).parts := by simp [Dd.parts]
    have mb : b ∈ (Dd.join a b).parts := by simp [Dd.parts]
    have ha := ht_parts ma
    have hb := ht_parts mb
    have hzz : (Dd.join a b).size = 1 + (a.size + b.size) := rfl
    obtain ⟨m, rfl⟩ : ∃ m, n = m + 1 := ⟨n - 1, by omega⟩
    have hp := parts_enc (.join a b)
    simp only [Dd.parts, List.map_cons, List.map_nil] at hp
    obtain ⟨S1, m1, v1, r1, d1, t1, z1⟩ := ih m (by omega) a S l (by omega) pl.1 ok.1 (fun s hs => hK s (nm_sub ma s hs)) ts (by omega)
    have md := mDo ts
    have hal : R_Trial__all (m + 1) 0 = fnB 5 (h_Trial__all (R_Trial__all m)) := rfl
    unfold tc
    cases q : tc g a with
    | none =>
      rw [q] at d1 t1
      have hall : R_Trial__all (m + 1) 0 [.obj o, .tup [enc a, enc b]] S = some (.ok (.dat .non), S1) := by
        rw [hal, fnB_eq]
        unfold h_Trial__all
        simp (implicitDefEqProofs := false) [List.replicate, z0, D.items, forL_consG, forL_nil, fn_S, seq_S, for_S, lift_S, bind_S, pure_S, md, r1, d1, strO, D.isNon, rt_S, nx_S]
      refine ⟨S1, m1, .dat .non, ?_, rfl, t1, by omega⟩
      simp (implicitDefEqProofs := false) [List.replicate, Dd.word, look_enc, hix0, hp, fn_S, seq_S, lift_S, bind_S, pure_S, mAll, hall, D.isNon, rt_S, nx_S]
    | some x =>
      rw [q] at d1 t1
      obtain ⟨S2, m2, v2, r2, d2, t2, z2⟩ := ih m (by omega) b S1 m1 (by omega) pl.2 ok.2 (fun s hs => hK s (nm_sub mb s hs)) t1 (by omega)
      have md1 := mDo t1
      cases q2 : tc g b with
      | none =>
        rw [q2] at d2 t2
        have hall : R_Trial__all (m + 1) 0 [.obj o, .tup [enc a, enc b]] S = some (.ok (.dat .non), S2) := by
          rw [hal, fnB_eq]
          unfold h_Trial__all
          simp (implicitDefEqProofs := false) [List.replicate, z0, D.items, forL_consG, forL_nil, fn_S, seq_S, for_S, lift_S, bind_S, pure_S, md, r1, d1, md1, r2, d2, strO, D.isNon, rt_S, nx_S, sApp, p0]
        refine ⟨S2, m2, .dat .non, ?_, rfl, t2, by omega⟩
        simp (implicitDefEqProofs := false) [List.replicate, Dd.word, look_enc, hix0, hp, fn_S, seq_S, lift_S, bind_S, pure_S, mAll, hall, D.isNon, rt_S, nx_S]
      | some y =>
        rw [q2] at d2 t2
        have hall : R_Trial__all (m + 1) 0 [.obj o, .tup [enc a, enc b]] S = some (.ok (.lst [.str x, .str y]), S2) := by
          rw [hal, fnB_eq]
          unfold h_Trial__all
          simp (implicitDefEqProofs := false) [List.replicate, z0, D.items, forL_consG, forL_nil, fn_S, seq_S, for_S, lift_S, bind_S, pure_S, md, r1, d1, md1, r2, d2, strO, D.isNon, rt_S, nx_S, sApp, p0, p1, sRetV_lst]
        have hx := (tcb a ma x q).1
        have hy := (tcb b mb y q2).1
        have hxy : x.length + y.length ≤ sizeLine := small_le (by omega)
        have mB : asObj "Trial" "_bounded" (.obj o) S2 = some (.ok (.obj o), S2) := t2.meth rfl
        obtain ⟨S3, e3, t3⟩ := bounded_at t2 (x ++ y) (by simp; omega)
        have hlen : (x ++ y).length = x.length + y.length := List.length_append
        rw [hlen] at e3 t3
        dsimp only
        refine ⟨S3, m2, .dat (strO (if x.length + y.length ≤ 40 then some (x ++ y) else none)), ?_, rfl, t3, by omega⟩
        simp (implicitDefEqProofs := false) [List.replicate, Dd.word, look_enc, hix0, hp, fn_S, seq_S, lift_S, bind_S, pure_S, mAll, hall, D.isNon, rt_S, nx_S, addF, hxy, mB, e3]
  | named a => cases pl
  | sort a => cases pl
  | same a b c d => cases pl
end VX.K09
set_option Elab.async false
set_option linter.all false
set_option maxRecDepth 100000
namespace VX.K09
open PySem PySem.Spec PyProof.Rows L2
/-! ### tried -/
theorem set_mid {S T : Sto} {fs : List (Str × D)} {c f : Str} {y : D} (h : fs.length < 1000) : setF c f y (.obj S.length) (S ++ .ins c fs :: T) = some (.ok (), S ++ .ins c (putFD f y fs) :: T) := by
  unfold setF
  simp [h]
def f1 (K : List (KS × D)) : List (Str × D) := [("known", .dct K)]
def f2 (K : List (KS × D)) : List (Str × D) := [("known", .dct K), ("rules", .non)]
def f3 (K : List (KS × D)) (o : Nat) : List (Str × D) := [("known", .dct K), ("rules", .non), ("needs", .obj (o + 1))]
theorem trial_init (S : Sto) (K : List (KS × D)) : F_Trial_init [.obj S.length, .dct K, .non] (S ++ [.ins "Trial" []]) = some (.ok (.dat .non), S ++ [.ins "Trial" (tFs K S.length .non), .lst []]) := by
  unfold F_Trial_init g_Trial_init
  rw [fnB_eq]
  have z0 : (0 : Nat) ≤ sizeLine := Nat.zero_le _
  have h1 := set_mid (S := S) (T := []) (fs := []) (c := "Trial") (f := "known") (y := .dct K) (by decide)
  have h2 := set_mid (S := S) (T := []) (fs := f1 K) (c := "Trial") (f := "rules") (y := .non) (by simp [f1])
  have h3 := set_mid (S := S) (T := [.lst []]) (fs := f2 K) (c := "Trial") (f := "needs") (y := .obj (S.length + 1)) (by simp [f2])
  have h4 := set_mid (S := S) (T := [.lst []]) (fs := f3 K S.length) (c := "Trial") (f := "end") (y := .non) (by simp [f3])
  have p1 : putFD "known" (.dct K) [] = f1 K := rfl
  have p2 : putFD "rules" .non (f1 K) = f2 K := rfl
  have p3 : putFD "needs" (.obj (S.length + 1)) (f2 K) = f3 K S.length := rfl
  have p4 : putFD "end" .non (f3 K S.length) = tFs K S.length .non := rfl
  rw [p1] at h1
  rw [p2] at h2
  rw [p3] at h3
  rw [p4] at h4
  simp (implicitDefEqProofs := false) [List.replicate, z0, fn_S, seq_S, lift_S, bind_S, pure_S, h1, h2, h3, h4, nx_S, SV.cell]
def resO : Option (List Nat) → D
  | none => longD
  | some c => madeD c
theorem tried_enc (S : Sto) (K : List (KS × D)) (g : List Nat → List Nat) (d : Dd) (pl : d.plain) (ok : d.okP) (ht : d.ht ≤ 5) (hsz : d.size ≤ 30) (hK : ∀ s ∈ d.nm, getDk (.dct K) (.str s) = some (madeD (g s)) ∧ (g s).length ≤ 40 ∧ ∀ c ∈ g s, c ∈ lets) :
    ∃ S' nd, F_tried [enc d, .dct K] S = some (.ok (.dat (.tup [.str (cs "done"), resO (tc g d), nd])), S') := by
  have hd := is_deed_ok d ht ok
  rw [decide_eq_true hsz] at hd
  have hi := trial_init S K
  have hmk : mkF "Trial" F_Trial_init [.dct K, .non] S = some (.ok (.dat (.obj S.length)), S ++ [.ins "Trial" (tFs K S.length .non), .lst []]) := by
    unfold mkF
    rw [hi]
  generalize hS1 : S ++ [Cell.ins "Trial" (tFs K S.length .non), .lst []] = S1 at hmk
  have ts : TS S1 S.length K [] .non := by
    subst hS1
    exact ⟨by simp, by simp, fun s h => by cases h⟩
  obtain ⟨S2, l2, sv, e, e2, t2, hl2⟩ := do_at K g S.length 12 d S1 [] (by omega) pl ok hK ts (by simp; omega)
  have e' : F_Trial_do [.obj S.length, enc d] S1 = some (.ok sv, S2) := e
  have md : asObj "Trial" "do" (.obj S.length) S1 = some (.ok (.obj S.length), S1) := ts.meth rfl
  have hn := t2.needs
  have hlk : look (.obj (S.length + 1)) S2 = some (.ok (.lst (l2.map D.str)), S2) := by rw [look_S, t2.see]
  have he := t2.end_
  have two : (2 : Nat) ≤ sizeLine := small_le (by omega)
  have three : (3 : Nat) ≤ sizeLine := small_le (by omega)
  have l1 : (1 : Nat) ≤ sizeLine := small_le (by omega)
  refine ⟨S2, .tup (l2.map D.str), ?_⟩
  have hby : F_tried_byN [enc d, .dct K] S = some (.ok (.dat (.tup [.str (cs "done"), resO (tc g d), .tup (l2.map D.str)])), S2) := by
    show F_tried_by [enc d, .dct K, .non] S = _
    unfold F_tried_by g_tried_by
    rw [fnB_eq]
    cases q : tc g d with
    | none =>
      rw [q] at e2 he
      simp (implicitDefEqProofs := false) [List.replicate, fn_S, seq_S, lift_S, bind_S, pure_S, hmk, md, e', e2, strO, D.isNon, hn, hlk, he, endO, longE, nx_S, rt_S, tupD, l1, addF, three, resO, longD]
    | some c =>
      rw [q] at e2
      simp (implicitDefEqProofs := false) [List.replicate, fn_S, seq_S, lift_S, bind_S, pure_S, hmk, md, e', e2, strO, D.isNon, hn, hlk, nx_S, rt_S, tupD, two, three, resO, madeD, G_DONE, G_MADE]
  unfold F_tried g_tried
  rw [fnB_eq]
  simp (implicitDefEqProofs := false) [List.replicate, hd, fn_S, lift_S, bind_S, pure_S, hby, rt_S]
end VX.K09
set_option Elab.async false
set_option linter.all false
set_option maxRecDepth 100000
namespace VX.K09
open PySem PySem.Spec PyProof.Rows L2
/-! ### contents put into cells -/
def pos (c : Nat) : Nat := lets.idxOf c
def put (g : List Nat → List Nat) : Ce → Nat
  | .is c => c
  | .at_ n k im => im.getD (pos ((g n).getD k 0)) 0
theorem pos_lt {c : Nat} (h : c ∈ lets) : pos c < 26 := by
  have := List.idxOf_lt_length_of_mem h
  rw [lets_len] at this
  exact this
theorem pos_get {c : Nat} (h : c ∈ lets) : lets.getD (pos c) 0 = c := by
  have h1 := List.idxOf_lt_length_of_mem h
  unfold pos
  rw [List.getD_eq_getElem?_getD, List.getElem?_eq_getElem h1]
  exact List.getElem_idxOf h1
theorem idx_lets {c : Nat} (h : c ∈ lets) : idxD (.str lets) (.str [c]) = some (.int (pos c : Nat)) := by
  have key : ∀ c ∈ lets, Builtin.Str.occurrences (st lets) (st [c]) 0 lets.length 1 = [pos c] := by decide +kernel
  have e := key c h
  unfold idxD
  dsimp only
  rw [e]
theorem abmz_lets {c : Nat} (h : c ∈ cs "abmz") : c ∈ lets := by
  have h : c = 97 ∨ c = 98 ∨ c = 109 ∨ c = 122 := by
    have : cs "abmz" = [97, 98, 109, 122] := by decide
    rw [this] at h
    simpa using h
  rcases h with rfl | rfl | rfl | rfl <;> decide
/-- the cells stand for g -/
structure Stands (g : List Nat → List Nat) (c : Ce) : Prop where
  ok : c.ok
  at_ : ∀ n k im, c = .at_ n k im → k < (g n).length ∧ (g n).length ≤ 40 ∧ ∀ x ∈ g n, x ∈ lets
theorem put_sub {g : List Nat → List Nat} {c : Ce} {x y : Nat} (h : Stands g c) : put g (c.sub x y) = ch x y (put g c) := by
  cases c with
  | is c => rfl
  | at_ n k im =>
    obtain ⟨h1, h2, h3⟩ := h.at_ n k im rfl
    have hl := h.ok.1.1
    have hm : (g n).getD k 0 ∈ lets := by
      rw [List.getD_eq_getElem?_getD, List.getElem?_eq_getElem h1]
      exact h3 _ (List.getElem_mem h1)
    have hp := pos_lt hm
    show (im.map (ch x y)).getD (pos ((g n).getD k 0)) 0 = ch x y (im.getD (pos ((g n).getD k 0)) 0)
    generalize pos ((g n).getD k 0) = p at hp
    rw [List.getD_eq_getElem?_getD, List.getD_eq_getElem?_getD, List.getElem?_map, List.getElem?_eq_getElem (by omega)]
    rfl
theorem stands_sub {g : List Nat → List Nat} {c : Ce} {x y : Nat} (hy : y ∈ lets) (h : Stands g c) : Stands g (c.sub x y) := by
  refine ⟨sub_ok hy h.ok, fun n k im e => ?_⟩
  cases c with
  | is c => cases e
  | at_ n' k' im' =>
    cases e
    exact h.at_ _ _ _ rfl
theorem stands_fresh {g : List Nat → List Nat} {s : List Nat} (hs : ∀ c ∈ s, c < 0x110000) (h : (g s).length ≤ 40 ∧ ∀ x ∈ g s, x ∈ lets) : ∀ c ∈ fresh s (g s).length, Stands g c := by
  intro c hc
  have ok := fresh_ok s _ hs c hc
  obtain ⟨k, hk, rfl⟩ := List.mem_map.mp hc
  exact ⟨ok, fun n k' im e => by
    cases e
    exact ⟨List.mem_range.mp hk, h⟩⟩
theorem put_fresh {g : List Nat → List Nat} {s : List Nat} (h : ∀ x ∈ g s, x ∈ lets) : (fresh s (g s).length).map (put g) = g s := by
  unfold fresh
  rw [List.map_map]
  have := range_getD (g s) 0
  conv => rhs; rw [← this]
  apply List.map_congr_left
  intro k hk
  have hk := List.mem_range.mp hk
  show lets.getD (pos ((g s).getD k 0)) 0 = _
  apply pos_get
  rw [List.getD_eq_getElem?_getD, List.getElem?_eq_getElem hk]
  exact h _ (List.getElem_mem hk)
theorem put_lc (g : List Nat → List Nat) : ∀ (d : Dd), d.okP → (∀ s ∈ d.nm, (∀ c ∈ s, c < 0x110000) ∧ (g s).length ≤ 40 ∧ ∀ x ∈ g s, x ∈ lets) →
    tc g d = (lc (fun s => fresh s (g s).length) d).map (·.map (put g)) ∧ ∀ cl, lc (fun s => fresh s (g s).length) d = some cl → ∀ c ∈ cl, Stands g c := by
  intro d
  induction d with
  | text s =>
    intro ok _
    have ok : okLet s 0 40 = true := ok
    refine ⟨?_, fun cl h c hc => ?_⟩
    · unfold tc lc
      rw [Option.map_some, List.map_map]
      congr 1
      exact (List.map_id' s).symm
    · cases h
      obtain ⟨a, ha, rfl⟩ := List.mem_map.mp hc
      exact ⟨okLet_mem ok a ha, fun _ _ _ e => by cases e⟩
  | need n =>
    intro ok hf
    obtain ⟨h1, h2⟩ := hf n (by simp [Dd.nm])
    refine ⟨?_, fun cl h c hc => ?_⟩
    · unfold tc lc
      rw [Option.map_some, put_fresh h2.2]
    · cases h
      exact stands_fresh h1 h2 c hc
  | join a b ia ib =>
    intro ok hf
    obtain ⟨a1, a2⟩ := ia ok.1 (fun s hs => hf s (nm_sub (d := .join a b) (by simp [Dd.parts]) s hs))
    obtain ⟨b1, b2⟩ := ib ok.2 (fun s hs => hf s (nm_sub (d := .join a b) (by simp [Dd.parts]) s hs))
    unfold tc lc
    rw [a1, b1]
    cases e1 : lc (fun s => fresh s (g s).length) a with
    | none => exact ⟨rfl, fun cl h => by cases h⟩
    | some x =>
      cases e2 : lc (fun s => fresh s (g s).length) b with
      | none => exact ⟨rfl, fun cl h => by cases h⟩
      | some y =>
        simp only [Option.map_some, List.length_map]
        by_cases q : x.length + y.length ≤ 40
        · rw [if_pos q, if_pos q]
          refine ⟨by simp, fun cl h c hc => ?_⟩
          cases h
          rcases List.mem_append.mp hc with z | z
          · exact a2 x e1 c z
          · exact b2 y e2 c z
        · rw [if_neg q, if_neg q]
          exact ⟨rfl, fun cl h => by cases h⟩
  | head k a ia =>
    intro ok hf
    obtain ⟨a1, a2⟩ := ia ok.2 (fun s hs => hf s (nm_sub (d := .head k a) (by simp [Dd.parts]) s hs))
    unfold tc lc
    rw [a1]
    cases e1 : lc (fun s => fresh s (g s).length) a with
    | none => exact ⟨rfl, fun cl h => by cases h⟩
    | some x => exact ⟨by simp, fun cl h c hc => by cases h; exact a2 x e1 c (List.mem_of_mem_take hc)⟩
  | back a ia =>
    intro ok hf
    obtain ⟨a1, a2⟩ := ia ok (fun s hs => hf s (nm_sub (d := .back a) (by simp [Dd.parts]) s hs))
    unfold tc lc
    rw [a1]
    cases e1 : lc (fun s => fresh s (g s).length) a with
    | none => exact ⟨rfl, fun cl h => by cases h⟩
    | some x => exact ⟨by simp, fun cl h c hc => by cases h; exact a2 x e1 c (List.mem_reverse.mp hc)⟩
  | swap x y a ia =>
    intro ok hf
    obtain ⟨a1, a2⟩ := ia ok.2 (fun s hs => hf s (nm_sub (d := .swap x y a) (by simp [Dd.parts]) s hs))
    unfold tc lc
    rw [a1]
    cases e1 : lc (fun s => fresh s (g s).length) a with
    | none => exact ⟨rfl, fun cl h => by cases h⟩
    | some z =>
      refine ⟨?_, fun cl h c hc => ?_⟩
      · simp only [Option.map_some, List.map_map]
        congr 1
        apply List.map_congr_left
        intro c hc
        exact (put_sub (a2 z e1 c hc)).symm
      · cases h
        obtain ⟨b, hb, rfl⟩ := List.mem_map.mp hc
        exact stands_sub ok.1.2 (a2 z e1 b hb)
  | named a _ => intro _ _; exact ⟨rfl, fun cl h => by cases h⟩
  | sort a _ => intro _ _; exact ⟨rfl, fun cl h => by cases h⟩
  | same a b c d _ _ _ _ => intro _ _; exact ⟨rfl, fun cl h => by cases h⟩
end VX.K09
set_option Elab.async false
set_option linter.all false
set_option maxRecDepth 100000
namespace VX.K09
open PySem PySem.Spec PyProof.Rows L2
theorem ix_abmz (i : Int) (h0 : 0 ≤ i) (h1 : i < 4) : ∃ c ∈ cs "abmz", ixD (.str (cs "abmz")) (.int i) = some (.str [c]) := by
  have : i = 0 ∨ i = 1 ∨ i = 2 ∨ i = 3 := by omega
  rcases this with rfl | rfl | rfl | rfl
  · exact ⟨97, by decide, rfl⟩
  · exact ⟨98, by decide, rfl⟩
  · exact ⟨109, by decide, rfl⟩
  · exact ⟨122, by decide, rfl⟩
end VX.K09
set_option Elab.async false
set_option linter.all false
set_option maxRecDepth 100000
namespace VX.K09
open PySem PySem.Spec PyProof.Rows L2
/-! ### the law's contents -/
abbrev Conts := List (List Nat × List Nat)
def Conts.tup (c : Conts) : D := .tup (c.map fun p => .tup [.str p.1, .str p.2])
structure ContOk (ls : Lens) (c : Conts) : Prop where
  n : c.map (·.1) = ls.map (·.1)
  l : c.map (·.2.length) = ls.map (·.2)
  a : ∀ p ∈ c, ∀ x ∈ p.2, x ∈ lets
theorem draw_ix {ds : List Int} (hd : ds ≠ []) (hg : ∀ j ∈ ds, gd j) (i : Int) (h : 0 ≤ i) : ∃ j, 0 ≤ j ∧ ixD (.lst (ds.map D.int)) (.int (i % (ds.length : Int))) = some (.int j) := by
  have hl : 0 < ds.length := List.length_pos_iff.mpr hd
  have h1 : 0 ≤ i % (ds.length : Int) := Int.emod_nonneg _ (by omega)
  have h2 : i % (ds.length : Int) < ds.length := Int.emod_lt_of_pos _ (by omega)
  obtain ⟨m, hm⟩ := Int.eq_ofNat_of_zero_le h1
  have h3 : m < ds.length := by omega
  refine ⟨ds[m], (hg _ (List.getElem_mem h3)).1, ?_⟩
  rw [hm]
  exact ixL (by rw [List.getElem?_map, List.getElem?_eq_getElem (by simpa using h3)]; rfl)
theorem contents_enc (ds : List Int) (ls : Lens) (hd : ds ≠ []) (hg : ∀ j ∈ ds, gd j) (hl : ls.length ≤ 1000) (hb : ∀ p ∈ ls, p.2 ≤ 40) : ∃ c : Conts, F__law_contents [.lst (ds.map D.int), ls.tup] = pv c.tup ∧ ContOk ls c := by
  have two : (2 : Nat) ≤ sizeLine := small_le (by omega)
  have z0 : (0 : Nat) ≤ sizeLine := Nat.zero_le _
  have hnz : 0 < (ds.length : Int) := by have := List.length_pos_iff.mpr hd; omega
  have sign : ∀ (k j : Nat), ∃ x ∈ cs "abmz", ∃ q : Int, ixD (.lst (ds.map D.int)) (.int ((3 * (k : Int) + j) % (ds.length : Int))) = some (.int q) ∧ ixD (.str (cs "abmz")) (.int (q % 4)) = some (.str [x]) := by
    intro k j
    obtain ⟨q, h1, h2⟩ := draw_ix hd hg (3 * (k : Int) + j) (by omega)
    obtain ⟨x, hx, e⟩ := ix_abmz (q % 4) (Int.emod_nonneg _ (by decide)) (Int.emod_lt_of_pos _ (by decide))
    exact ⟨x, hx, q, h2, e⟩
  let sg : Nat → Nat → Nat := fun k j => Classical.choose (sign k j)
  have sg1 : ∀ k j : Nat, sg k j ∈ cs "abmz" := fun k j => (Classical.choose_spec (sign k j)).1
  have sg2 : ∀ k j : Nat, ∃ q : Int, ixD (.lst (ds.map D.int)) (.int ((3 * (k : Int) + j) % (ds.length : Int))) = some (.int q) ∧ ixD (.str (cs "abmz")) (.int (q % 4)) = some (.str [sg k j]) := fun k j => (Classical.choose_spec (sign k j)).2
  generalize sg = sg at sg1 sg2
  let row : Nat → List Nat × List Nat := fun k => ((ls.getD k ([], 0)).1, (List.range (ls.getD k ([], 0)).2).map (sg k))
  have key : ∀ (m : List Nat) (acc : List Nat) (x3 : Option SV), (∀ k ∈ m, k < ls.length) → acc.length + m.length ≤ 1000 →
      ∃ x3', forL (gnam 3) (sApp 2 (tupE (consA (op2 ixD (op2 ixD (evar 1) (evar 3)) (ecst (.int 0))) (consA (op2 joinD (ecst (.str (cs ""))) (frz (lcF [4] (rngE (op2 ixD (op2 ixD (evar 1) (evar 3)) (ecst (.int 1)))) (gnam 4) yesT (op2 ixD (ecst (.str (cs "abmz"))) (op2 modD (op1 intD (op2 ixD (evar 0) (op2 modD (frz (op2F addF (frz (op2F mulF (ecst (.int 3)) (evar 3))) (evar 4))) (op1 lenD (evar 0))))) (ecst (.int 4))))))) nilA)))) (m.map fun k => D.int (k : Nat))
        [some (.dat (.lst (ds.map D.int))), some (.dat ls.tup), some (.lst (acc.map fun k => D.tup [.str (row k).1, .str (row k).2])), x3, none] =
        eNx [some (.dat (.lst (ds.map D.int))), some (.dat ls.tup), some (.lst ((acc ++ m).map fun k => D.tup [.str (row k).1, .str (row k).2])), x3', none] := by
    intro m
    induction m with
    | nil => intro acc x3 _ _; exact ⟨x3, by simp [forL_nil]⟩
    | cons k m ih =>
      intro acc x3 hm hz
      simp only [List.length_cons] at hz
      obtain ⟨x3', e⟩ := ih (acc ++ [k]) (some (.dat (.int (k : Nat)))) (fun c hc => hm c (List.mem_cons_of_mem _ hc)) (by simp; omega)
      refine ⟨x3', ?_⟩
      have hk := hm k List.mem_cons_self
      have hle : acc.length < sizeLine := by rw [szl]; omega
      have hrow : ls[k]? = some (ls.getD k ([], 0)) := by
        rw [List.getD_eq_getElem?_getD, List.getElem?_eq_getElem hk]
        rfl
      have hbk : (ls.getD k ([], 0)).2 ≤ 40 := hb _ (List.mem_of_getElem? hrow)
      have hix : ixD ls.tup (.int (k : Nat)) = some (.tup [.str (ls.getD k ([], 0)).1, .int ((ls.getD k ([], 0)).2 : Nat)]) := ixT (by rw [List.getElem?_map, hrow]; rfl)
      have hlook : look ls.tup = M.pure ls.tup := rfl
      have hr := rngN (ls.getD k ([], 0)).2 (by omega)
      have hm3 : mulF (.int 3) (.int (k : Nat)) = some (.dat (.int (3 * (k : Nat)))) := mulI' _ _ (by decide)
      have hcc : compL (gnam 4) yesT (op2 ixD (ecst (.str (cs "abmz"))) (op2 modD (op1 intD (op2 ixD (evar 0) (op2 modD (frz (op2F addF (frz (op2F mulF (ecst (.int 3)) (evar 3))) (evar 4))) (op1 lenD (evar 0))))) (ecst (.int 4)))) [some (.dat (.lst (ds.map D.int))), some (.dat ls.tup), some (.lst (acc.map fun k => D.tup [.str (row k).1, .str (row k).2])), some (.dat (.int (k : Nat))), none] ((List.range (ls.getD k ([], 0)).2).map fun i => D.int (i : Nat)) = M.pure ((List.range (ls.getD k ([], 0)).2).map fun j => D.str [sg k j]) := by
        refine compL_of _ _ _ fun j hj => ⟨_, rfl, rfl, ?_⟩
        obtain ⟨q, q1, q2⟩ := sg2 k j
        have hmod : modD (.int (3 * (k : Int) + j)) (.int (ds.length : Int)) = some (.int ((3 * (k : Int) + j) % (ds.length : Int))) := by
          unfold modD intOp
          simp [hnz, hd]
        have hmod4 : modD (.int q) (.int 4) = some (.int (q % 4)) := rfl
        have hlen : lenD (.lst (ds.map D.int)) = some (.int (ds.length : Nat)) := by unfold lenD; dsimp only; rw [List.length_map]
        have hlk : look (.lst (ds.map D.int)) = M.pure (.lst (ds.map D.int)) := rfl
        generalize D.lst (ds.map D.int) = DS at q1 hlen hlk ⊢
        simp (implicitDefEqProofs := false) [hm3, addF, hlen, hlk, hmod, q1, intD, hmod4, q2]
      have hj := join_map (List.range (ls.getD k ([], 0)).2) (sg k) (by rw [List.length_range]; omega)
      have hr2 : ((List.range (ls.getD k ([], 0)).2).map fun j => D.str [sg k j]).length ≤ sizeLine := small_le (by rw [List.length_map, List.length_range]; omega)
      have hb : (sApp 2 (tupE (consA (op2 ixD (op2 ixD (evar 1) (evar 3)) (ecst (.int 0))) (consA (op2 joinD (ecst (.str (cs ""))) (frz (lcF [4] (rngE (op2 ixD (op2 ixD (evar 1) (evar 3)) (ecst (.int 1)))) (gnam 4) yesT (op2 ixD (ecst (.str (cs "abmz"))) (op2 modD (op1 intD (op2 ixD (evar 0) (op2 modD (frz (op2F addF (frz (op2F mulF (ecst (.int 3)) (evar 3))) (evar 4))) (op1 lenD (evar 0))))) (ecst (.int 4))))))) nilA)))) ([some (.dat (.lst (ds.map D.int))), some (.dat ls.tup), some (.lst (acc.map fun k => D.tup [.str (row k).1, .str (row k).2])), x3, none].set 3 (some (.dat (.int (k : Nat))))) =
          eNx [some (.dat (.lst (ds.map D.int))), some (.dat ls.tup), some (.lst ((acc ++ [k]).map fun k => D.tup [.str (row k).1, .str (row k).2])), some (.dat (.int (k : Nat))), none] := by
        have er : D.tup [.str (row k).1, .str (row k).2] = D.tup [.str (ls.getD k ([], 0)).1, .str ((List.range (ls.getD k ([], 0)).2).map (sg k))] := rfl
        rw [List.map_append, List.map_singleton, er]
        have hlen2 : (acc.map fun k => D.tup [.str (row k).1, .str (row k).2]).length < sizeLine := by rw [List.length_map]; exact hle
        generalize (acc.map fun k => D.tup [.str (row k).1, .str (row k).2]) = AC at hcc hlen2 ⊢
        generalize ((List.range (ls.getD k ([], 0)).2).map fun j => D.str [sg k j]) = SG at hcc hj hr2
        generalize ((List.range (ls.getD k ([], 0)).2).map fun i => D.int (i : Nat)) = RG at hcc hr
        generalize (List.range (ls.getD k ([], 0)).2).map (sg k) = OUT at hj ⊢
        generalize ls.getD k ([], 0) = p at hix hr hcc hj ⊢
        generalize ls.tup = LT at hix hlook hcc ⊢
        simp (implicitDefEqProofs := false) [hlook, hix, hr, drp, hcc, hr2, hj, two, sApp, hlen2]
      rw [List.map_cons, forL_consG, hb, for_nx, e]
      simp
  obtain ⟨x3', e⟩ := key (List.range ls.length) [] none (fun k hk => List.mem_range.mp hk) (by simp; omega)
  have hr := rngN ls.length (by omega)
  have hlen : lenD ls.tup = some (.int (ls.length : Nat)) := by unfold Lens.tup lenD; dsimp only; rw [List.length_map]
  have hlook : look ls.tup = M.pure ls.tup := rfl
  refine ⟨(List.range ls.length).map row, ?_, ?_, ?_, ?_⟩
  · unfold F__law_contents g__law_contents
    rw [fnB_eq]
    have ec : Conts.tup ((List.range ls.length).map row) = .tup ((List.range ls.length).map fun k => D.tup [.str (row k).1, .str (row k).2]) := by
      unfold Conts.tup
      rw [List.map_map]
      rfl
    rw [ec]
    rw [List.nil_append, List.map_nil] at e
    generalize ((List.range ls.length).map fun k => D.tup [.str (row k).1, .str (row k).2]) = OUT at e ⊢
    generalize ((List.range ls.length).map fun i => D.int (i : Nat)) = RG at e hr
    generalize D.int (ls.length : Nat) = LN at hr hlen
    generalize ls.tup = LT at hlook hlen e ⊢
    simp (implicitDefEqProofs := false) [List.replicate, z0, hlook, hlen, hr, e, frzAt, tupD]
  · rw [List.map_map]
    have := range_getD (ls.map (·.1)) []
    rw [List.length_map] at this
    rw [← this]
    apply List.map_congr_left
    intro k hk
    have hk := List.mem_range.mp hk
    show (ls.getD k ([], 0)).1 = _
    rw [List.getD_eq_getElem?_getD, List.getD_eq_getElem?_getD, List.getElem?_map, List.getElem?_eq_getElem hk]
    rfl
  · rw [List.map_map]
    have := range_getD (ls.map (·.2)) 0
    rw [List.length_map] at this
    rw [← this]
    apply List.map_congr_left
    intro k hk
    have hk := List.mem_range.mp hk
    show ((List.range (ls.getD k ([], 0)).2).map (sg k)).length = _
    rw [List.length_map, List.length_range, List.getD_eq_getElem?_getD, List.getD_eq_getElem?_getD, List.getElem?_map, List.getElem?_eq_getElem hk]
    rfl
  · intro p hp x hx
    obtain ⟨k, _, rfl⟩ := List.mem_map.mp hp
    obtain ⟨j, _, rfl⟩ := List.mem_map.mp hx
    exact abmz_lets (sg1 k j)
end VX.K09
set_option Elab.async false
set_option linter.all false
set_option maxRecDepth 100000
set_option maxHeartbeats 4000000
namespace VX.K09
open PySem PySem.Spec PyProof.Rows L2
/-! ### drawn deeds -/
theorem words_ok : ∀ (d : Dd), d.plain → ∀ w ∈ d.words, w ∈ wordsOk := by
  intro d
  induction d with
  | text s => intro _ w h; simp [Dd.words] at h; subst h; decide
  | need s => intro _ w h; simp [Dd.words] at h; subst h; decide
  | join a b ia ib =>
    intro pl w h
    simp [Dd.words] at h
    rcases h with rfl | h | h
    · decide
    · exact ia pl.1 w h
    · exact ib pl.2 w h
  | head k a ia =>
    intro pl w h
    simp [Dd.words] at h
    rcases h with rfl | h
    · decide
    · exact ia pl w h
  | back a ia =>
    intro pl w h
    simp [Dd.words] at h
    rcases h with rfl | h
    · decide
    · exact ia pl w h
  | swap x y a ia =>
    intro pl w h
    simp [Dd.words] at h
    rcases h with rfl | h
    · decide
    · exact ia pl w h
  | named a _ => intro pl; cases pl
  | sort a _ => intro pl; cases pl
  | same a b c d _ _ _ _ => intro pl; cases pl
theorem bad_plain {d : Dd} (h : d.plain) : d.bad = [] := by
  unfold Dd.bad
  rw [List.filter_eq_nil_iff]
  intro w hw
  simp [words_ok d h w hw]
theorem nm_pw (d : Dd) : d.nm.Pairwise (· < ·) := by
  cases d <;> simp only [Dd.nm] <;> first | exact List.Pairwise.nil | exact List.pairwise_singleton _ _ | exact canon_pw _
theorem nm_nodup (d : Dd) : d.nm.Nodup := (nm_pw d).imp fun {a b} h e => by rw [e] at h; exact List.lt_irrefl _ h
theorem asc_pw : ∀ {l : List (List Nat)}, l.Pairwise (· < ·) → asc l = true
  | [], _ => rfl
  | [a], _ => rfl
  | a :: b :: l, h => by
    rw [List.pairwise_cons] at h
    have ih := asc_pw h.2
    unfold asc at ih ⊢
    simp only [List.drop_succ_cons, List.drop_zero, List.zipWith_cons_cons, List.all_cons, id_eq, Bool.and_eq_true] at ih ⊢
    exact ⟨decide_eq_true (h.1 b List.mem_cons_self), ih⟩
theorem two_len {x y : List Nat} : ∀ {l : List (List Nat)}, l.Nodup → (∀ s ∈ l, s = x ∨ s = y) → l.length ≤ 2
  | [], _, _ => by simp
  | [_], _, _ => by simp
  | [_, _], _, _ => by simp
  | a :: b :: c :: l, n, h => by
    have ha := h a (by simp)
    have hb := h b (by simp)
    have hc := h c (by simp)
    simp only [List.nodup_cons, List.mem_cons, not_or] at n
    obtain ⟨⟨n1, n2, _⟩, ⟨n3, _⟩, _⟩ := n
    rcases ha with rfl | rfl <;> rcases hb with rfl | rfl <;> rcases hc with rfl | rfl <;> simp_all
/-- what a turn's deed is -/
structure Drawn (d : Dd) : Prop where
  pl : d.plain
  ht : d.ht ≤ 3
  ok : d.okP
  nm : ∀ s ∈ d.nm, s = cs "a" ∨ s = cs "b"
  sz : d.size ≤ 15
theorem Drawn.two {d : Dd} (h : Drawn d) : d.nm.length ≤ 2 := two_len (nm_nodup d) h.nm
theorem Drawn.okn {d : Dd} (h : Drawn d) : ∀ s ∈ d.nm, okLet s 1 8 = true := by
  intro s hs
  rcases h.nm s hs with rfl | rfl <;> decide
theorem Drawn.fault {d : Dd} (h : Drawn d) : d.fault = .non := by
  unfold Dd.fault
  rw [if_pos (by have := h.sz; omega), bad_plain h.pl]
  dsimp only
  rw [if_neg (by have := h.two; omega)]
theorem Drawn.fault_enc {d : Dd} (h : Drawn d) : F_plain_fault [enc d] = pv .non := by
  rw [← h.fault]
  exact plain_fault_enc d (by have := h.ht; omega) h.ok
theorem Drawn.names {d : Dd} (h : Drawn d) : F_names_in [enc d] = M.pure (.lst (d.nm.map D.str)) := names_enc 12 d (by have := h.ht; omega) (by have := h.sz; omega)
theorem Drawn.needs {d : Dd} (h : Drawn d) : F__law_needs [enc d] = M.pure (.lst (d.nm.map D.str)) := law_needs_enc 12 d (by have := h.ht; omega) (by have := h.sz; omega)
theorem Drawn.chr {d : Dd} (h : Drawn d) : ∀ s ∈ d.nm, ∀ c ∈ s, c < 0x110000 := fun s hs c hc => let_ok (okLet_mem (h.okn s hs) c hc)
/-! ### the draws as one thing -/
def DS (ds : List Int) : D := .lst (ds.map D.int)
@[simp] theorem look_DS (ds : List Int) : look (DS ds) = M.pure (DS ds) := rfl
theorem ix_DS {ds : List Int} {i : Int} (h0 : 0 ≤ i) (h : i < ds.length) : ixD (DS ds) (.int i) = some (.int (ds.getD i.toNat 0)) := by
  obtain ⟨m, rfl⟩ := Int.eq_ofNat_of_zero_le h0
  have hm : m < ds.length := by omega
  refine ixL ?_
  rw [List.getElem?_map, List.getElem?_eq_getElem hm, List.getD_eq_getElem?_getD, Int.toNat_natCast, List.getElem?_eq_getElem hm]
  rfl
theorem getD_gd {ds : List Int} (hg : ∀ j ∈ ds, gd j) (n : Nat) : 0 ≤ ds.getD n 0 := by
  rw [List.getD_eq_getElem?_getD]
  cases h : ds[n]? with
  | none => exact Int.le_refl _
  | some a => exact (hg a (List.mem_of_getElem? h)).1
theorem cut_DS {ds : List Int} (k : Nat) (h : k ≤ ds.length) : slF (DS ds) (some (k : Int)) none = some (.lst ((ds.drop k).map D.int)) := cut_ints k h
theorem look_ns (l : List (List Nat)) : look (.lst (l.map D.str)) = M.pure (.lst (l.map D.str)) := rfl
/-- lengths, by names -/
theorem lookup_mem {β : Type} : ∀ {l : List (List Nat × β)}, (l.map (·.1)).Nodup → ∀ {p : List Nat × β}, p ∈ l → l.lookup p.1 = some p.2
  | [], _, _, h => by cases h
  | a :: l, n, p, h => by
    rw [List.map_cons, List.nodup_cons] at n
    obtain ⟨k, b⟩ := a
    rw [List.lookup_cons]
    rcases List.mem_cons.mp h with rfl | h
    · simp
    · have : (p.1 == k) = false := by
        rw [beq_eq_false_iff_ne]
        intro e
        exact n.1 (by show k ∈ _; rw [← e]; exact List.mem_map_of_mem (f := fun x : List Nat × β => x.1) h)
      rw [this]
      exact lookup_mem n.2 h
def Conts.of (c : Conts) (s : List Nat) : List Nat := (c.lookup s).getD []
theorem conts_len : ∀ {c : Conts} {ls : Lens}, c.map (·.1) = ls.map (·.1) → c.map (·.2.length) = ls.map (·.2) → ∀ s, (Conts.of c s).length = Lens.of ls s
  | [], [], _, _, s => rfl
  | [], _ :: _, h, _, _ => by cases h
  | _ :: _, [], h, _, _ => by cases h
  | (k, t) :: c, (k2, n) :: ls, h1, h2, s => by
    simp only [List.map_cons, List.cons.injEq] at h1 h2
    have ih := conts_len h1.2 h2.2 s
    obtain ⟨rfl, _⟩ := h1
    obtain ⟨rfl, _⟩ := h2
    unfold Conts.of Lens.of at ih ⊢
    rw [List.lookup_cons, List.lookup_cons]
    cases s == k with
    | true => rfl
    | false => exact ih
end VX.K09
set_option Elab.async false
set_option linter.all false
set_option maxRecDepth 100000
set_option maxHeartbeats 4000000
namespace VX.K09
open PySem PySem.Spec PyProof.Rows L2
theorem pl_ce {c : Ce} (h : c.ok) : Pl 1 c.enc := by
  cases c with
  | is c =>
    have hc : c ∈ lets := h
    intro d hd
    simp only [List.mem_cons, List.not_mem_nil, or_false] at hd
    rcases hd with rfl | rfl
    · exact cs_ok _
    · show ∀ x ∈ [c], x < 0x110000
      simpa using let_ok hc
  | at_ n k im =>
    intro d hd
    simp only [List.mem_cons, List.not_mem_nil, or_false] at hd
    rcases hd with rfl | rfl | rfl | rfl
    · exact cs_ok _
    · exact h.2
    · trivial
    · exact fun c hc => let_ok (h.1.2 c hc)
theorem enc_inj {a b : Ce} (h : a.enc = b.enc) : a = b := by
  cases a <;> cases b <;> simp [Ce.enc] at h
  · subst h; rfl
  · obtain ⟨rfl, h2, rfl⟩ := h
    have : _ = _ := Int.ofNat.inj h2
    subst this
    rfl
/-! ### letters of cells -/
def letD : Ce → Nat → Nat
  | .is c, _ => c
  | .at_ _ _ im, l => im.getD (pos l) 0
theorem letD_let {c : Ce} (ok : c.ok) {l : Nat} (hl : l ∈ lets) : letD c l ∈ lets := by
  cases c with
  | is c => exact ok
  | at_ n k im =>
    obtain ⟨h1, h2⟩ : im.length = 26 ∧ ∀ c ∈ im, c ∈ lets := ok.1
    have hp := pos_lt hl
    show im.getD (pos l) 0 ∈ lets
    generalize pos l = p at hp
    rw [List.getD_eq_getElem?_getD, List.getElem?_eq_getElem (by omega)]
    exact h2 _ (List.getElem_mem _)
/-- of one place -/
def alike : Ce → Ce → Bool
  | .at_ n k _, .at_ n' k' _ => decide (n = n' ∧ k = k')
  | _, _ => false
def parts (a b : Ce) (l m : Nat) : Prop := (alike a b = true → l = m) ∧ letD a l ≠ letD b m
theorem at_cut (n : List Nat) (k : Nat) (im : List Nat) : slF (.tup [.str (cs "at"), .str n, .int k, .str im]) (some 1) (some 3) = some (.dat (.tup [.str n, .int k])) := rfl
theorem alike_step (a b : Ce) (oa : a.ok) (ob : b.ok) (x2 x3 x4 : Option SV) : (sAsg 4 (andV (cmpE neB (op2 ixD (evar 0) (ecst (.int 0))) (ecst G_IS)) (andV (cmpE neB (op2 ixD (evar 1) (ecst (.int 0))) (ecst G_IS)) (cmpE eqB (frz (slE (evar 0) (partE (some (ecst (.int 1)))) (partE (some (ecst (.int 3)))))) (frz (slE (evar 1) (partE (some (ecst (.int 1)))) (partE (some (ecst (.int 3)))))))))) [some (.dat a.enc), some (.dat b.enc), x2, x3, x4] =
    eNx [some (.dat a.enc), some (.dat b.enc), x2, x3, some (.dat (.bl (alike a b)))] := by
  cases a with
  | is c => simp (implicitDefEqProofs := false) [Ce.enc, G_IS, neB, alike]
  | at_ n k im =>
    cases b with
    | is c => simp (implicitDefEqProofs := false) [Ce.enc, G_IS, neB, alike]
    | at_ n' k' im' =>
      have h1 : Pl 1 (.tup [.str n, .int k]) := fun x hx => by
        simp only [List.mem_cons, List.not_mem_nil, or_false] at hx
        rcases hx with rfl | rfl
        · exact oa.2
        · trivial
      have h2 : Pl 1 (.tup [.str n', .int k']) := fun x hx => by
        simp only [List.mem_cons, List.not_mem_nil, or_false] at hx
        rcases hx with rfl | rfl
        · exact ob.2
        · trivial
      have he : eqB (.tup [.str n, .int k]) (.tup [.str n', .int k']) = some (decide (n = n' ∧ k = k')) := by
        by_cases q : n = n' ∧ k = k'
        · rw [decide_eq_true q]
          exact eqB_yes h1 h2 (by omega) (by rw [q.1, q.2])
        · rw [decide_eq_false q]
          exact eqB_no h1 h2 (by omega) fun e => q (by
            simp only [D.tup.injEq, List.cons.injEq, D.str.injEq, D.int.injEq, and_true] at e
            exact ⟨e.1, by omega⟩)
      simp (implicitDefEqProofs := false) [Ce.enc, G_IS, neB, at_cut, he, alike]
theorem let_ne {a b : Nat} (ha : a ∈ lets) (hb : b ∈ lets) : neB (.str [a]) (.str [b]) = some (!decide (a = b)) := by
  unfold neB
  rw [eq_let ha hb]
  rfl
theorem parts_no {a b : Ce} {l m : Nat} (h : alike a b = false) (d : letD a l ≠ letD b m) : parts a b l m := ⟨fun z => Bool.noConfusion (h.symm.trans z), d⟩
/-- settled cells that are unlike can be parted -/
theorem not_const {im : List Nat} (hl : im.length = 26) {a : Nat} (h : im ≠ List.replicate 26 a) : ∃ m ∈ lets, im.getD (pos m) 0 ≠ a := by
  refine Classical.byContradiction fun hc => h ?_
  apply List.ext_getElem
  · rw [hl, List.length_replicate]
  · intro i h1 h2
    rw [List.getElem_replicate]
    have h3 : i < lets.length := by rw [lets_len]; omega
    have hm : lets[i] ∈ lets := List.getElem_mem h3
    have hp : pos lets[i] = i := by
      have key : ∀ i : Fin 26, pos (lets.getD i.val 0) = i.val := by decide +kernel
      have := key ⟨i, by omega⟩
      rw [List.getD_eq_getElem?_getD, List.getElem?_eq_getElem h3] at this
      exact this
    have := Classical.byContradiction fun z => hc ⟨lets[i], hm, z⟩
    rw [hp, List.getD_eq_getElem?_getD, List.getElem?_eq_getElem h1] at this
    exact this
theorem settled_at {n : List Nat} {k : Nat} {im : List Nat} (hl : im.length = 26) (hs : (Ce.at_ n k im).settle = .at_ n k im) (a : Nat) : im ≠ List.replicate 26 a := by
  match im, hl with
  | x :: r, hl =>
    rw [settle_at] at hs
    intro e
    have hx : x = a := by
      have : (x :: r).head? = (List.replicate 26 a).head? := by rw [e]
      simpa [List.replicate] using this
    rw [if_pos (by rw [hx]; rw [hx] at e; exact e)] at hs
    cases hs
theorem can_part {a b : Ce} (oa : a.ok) (ob : b.ok) (sa : a.settle = a) (sb : b.settle = b) (h : a ≠ b) : ∃ l ∈ lets, ∃ m ∈ lets, parts a b l m := by
  have h97 : (97 : Nat) ∈ lets := by decide
  cases a with
  | is x =>
    cases b with
    | is y => exact ⟨97, h97, 97, h97, parts_no rfl fun e => h (by rw [show x = y from e])⟩
    | at_ n k im =>
      obtain ⟨m, hm, q⟩ := not_const ob.1.1 (settled_at ob.1.1 sb x)
      exact ⟨97, h97, m, hm, parts_no rfl fun e => q e.symm⟩
  | at_ n k im =>
    cases b with
    | is y =>
      obtain ⟨m, hm, q⟩ := not_const oa.1.1 (settled_at oa.1.1 sa y)
      exact ⟨m, hm, 97, h97, parts_no rfl fun e => q e⟩
    | at_ n' k' im' =>
      by_cases q : n = n' ∧ k = k'
      · obtain ⟨rfl, rfl⟩ := q
        have hne : im ≠ im' := fun e => h (by rw [e])
        have : ∃ m ∈ lets, im.getD (pos m) 0 ≠ im'.getD (pos m) 0 := by
          refine Classical.byContradiction fun hc => hne ?_
          apply List.ext_getElem
          · rw [oa.1.1, ob.1.1]
          · intro i h1 h2
            have l1 := oa.1.1
            have h3 : i < lets.length := by rw [lets_len]; omega
            have hm : lets[i] ∈ lets := List.getElem_mem h3
            have hp : pos lets[i] = i := by
              have key : ∀ i : Fin 26, pos (lets.getD i.val 0) = i.val := by decide +kernel
              have := key ⟨i, by omega⟩
              rw [List.getD_eq_getElem?_getD, List.getElem?_eq_getElem h3] at this
              exact this
            have := Classical.byContradiction fun z => hc ⟨lets[i], hm, z⟩
            rw [hp, List.getD_eq_getElem?_getD, List.getD_eq_getElem?_getD, List.getElem?_eq_getElem h1, List.getElem?_eq_getElem h2] at this
            exact this
        obtain ⟨m, hm, q⟩ := this
        exact ⟨m, hm, m, hm, fun _ => rfl, q⟩
      · obtain ⟨m, hm, z⟩ := not_const ob.1.1 (settled_at ob.1.1 sb (im.getD (pos 97) 0))
        exact ⟨97, h97, m, hm, fun e => absurd (of_decide_eq_true e) q, fun e => z e.symm⟩
end VX.K09
set_option Elab.async false
set_option linter.all false
set_option maxRecDepth 100000
set_option maxHeartbeats 4000000
namespace VX.K09
open PySem PySem.Spec PyProof.Rows L2
def Q_0 : Env → SM := (sAsg 3 (frz (dcF [10, 11] (itm (evar 0)) (gtup (gcons (gnam 10) (gcons (gnam 11) gnil))) yesT (evar 10) (stE (op2F mulF (frz (lstE (consA (ecst (.str (cs "a"))) nilA))) (evar 11))))))
def Q_1t_0 : Env → SM := (sAsg 4 (frz (lcF [5, 6] (zipE (evar 1) (evar 2)) (gtup (gcons (gnam 5) (gcons (gnam 6) gnil))) (op2B neB (evar 5) (evar 6)) (tupE (consA (evar 5) (consA (evar 6) nilA))))))
def Q_1t_1 : Env → SM := (sIf (op2B eqB (op1 lenD (evar 4)) (ecst (.int 0))) (sRet (ecst .non)) sNx)
def Q_1t_2 : Env → SM := (sAsgT (op2 ixD (evar 4) (ecst (.int 0))) (gtup (gcons (gnam 5) (gcons (gnam 6) gnil))))
def Q_1t_4b : Env → SM := (sIf (op2B neB (op2 ixD (evar 8) (ecst (.int 0))) (ecst G_IS)) (sSetIx (op2 ixD (evar 3) (op2 ixD (evar 8) (ecst (.int 1)))) (op2 ixD (evar 8) (ecst (.int 2))) (evar 9)) sNx)
def Q_1t_4 : Env → SM := (sFor (itm (tupE (consA (tupE (consA (evar 5) (consA (op2 ixD (evar 7) (ecst (.int 0))) nilA))) (consA (tupE (consA (evar 6) (consA (op2 ixD (evar 7) (ecst (.int 1))) nilA))) nilA)))) (gtup (gcons (gnam 8) (gcons (gnam 9) gnil))) Q_1t_4b)
def Q_1e : Env → SM := (sIf (andT (isNonB (evar 1)) (isNonB (evar 2))) (sRet (ecst .non)) sNx)
def Q_2 : Env → SM := (sRet (op1 tupD (frz (lcF [10, 12] (itm (evar 0)) (gtup (gcons (gnam 10) (gcons (gnam 12) gnil))) yesT (tupE (consA (evar 10) (consA (op2 joinD (ecst (.str (cs ""))) (op2 ixD (evar 3) (evar 10))) nilA)))))))
/-! ### parted_by -/
theorem set_get {env : Env} {i j : Nat} {o o' : Option SV} (h : env[j]? = some o') (ne : i ≠ j) : (env.set i o)[j]? = some o' := by rw [List.getElem?_set_ne ne]; exact h
theorem set_same {env : Env} {i n : Nat} {o : Option SV} (h : env.length = n) (hi : i < n) : (env.set i o)[i]? = some o := List.getElem?_set_self (by omega)
def mkD : Nat → Lens → List (KS × D)
  | _, [] => []
  | o, p :: r => (KS.str p.1, .obj o) :: mkD (o + 1) r
theorem mkD_keys : ∀ (o : Nat) (r : Lens), (mkD o r).map (·.1) = r.map fun p => KS.str p.1
  | _, [] => rfl
  | o, p :: r => by
    show KS.str p.1 :: (mkD (o + 1) r).map (·.1) = _
    rw [mkD_keys (o + 1) r]
    rfl
theorem mkD_get : ∀ (o : Nat) (r : Lens), (r.map (·.1)).Nodup → ∀ (i : Nat) (p : List Nat × Nat), r[i]? = some p → dval (mkD o r) (.str p.1) = some (.obj (o + i))
  | _, [], _, _, _, h => by simp at h
  | o, q :: r, n, 0, p, h => by
    simp only [List.getElem?_cons_zero, Option.some.injEq] at h
    subst h
    simp [mkD, dval]
  | o, q :: r, n, i + 1, p, h => by
    rw [List.map_cons, List.nodup_cons] at n
    simp only [List.getElem?_cons_succ] at h
    have ih := mkD_get (o + 1) r n.2 i p h
    have ne : q.1 ≠ p.1 := fun e => n.1 (by rw [e]; exact List.mem_map_of_mem (List.mem_of_getElem? h))
    unfold dval mkD
    rw [List.find?_cons]
    simp only [KS.str.injEq, ne, decide_false]
    unfold dval at ih
    rw [ih]
    congr 2
    omega
/-- the store holds the contents g -/
structure CtAt (S : Sto) (o : Nat) (row : Lens) (g : List Nat → List Nat) : Prop where
  at_ : ∀ (i : Nat) (p : List Nat × Nat), row[i]? = some p → S[o + i]? = some (.lst ((g p.1).map fun x => D.str [x]))
  len : ∀ p ∈ row, (g p.1).length = p.2
  ok : ∀ p ∈ row, ∀ x ∈ g p.1, x ∈ lets
def upd (g : List Nat → List Nat) (n : List Nat) (k l : Nat) : List Nat → List Nat := fun s => if s = n then (g n).set k l else g s
theorem CtAt.upd {S : Sto} {o : Nat} {row : Lens} {g : List Nat → List Nat} (h : CtAt S o row g) (nd : (row.map (·.1)).Nodup) {i : Nat} {p : List Nat × Nat} (hp : row[i]? = some p) {k l : Nat} (hk : k < p.2) (hl : l ∈ lets) :
    ∃ S', setC (.str [l]) (.obj (o + i)) (.int (k : Nat)) S = some (.ok (), S') ∧ CtAt S' o row (upd g p.1 k l) := by
  have hS := h.at_ i p hp
  have hlen := h.len p (List.mem_of_getElem? hp)
  have hlt : o + i < S.length := (List.getElem?_eq_some_iff.mp hS).1
  have hj : ixN ((g p.1).map fun x => D.str [x]).length (k : Int) = some k := by
    unfold ixN
    rw [if_pos (Int.natCast_nonneg k), if_pos (by rw [List.length_map, hlen]; omega), Int.toNat_natCast]
  refine ⟨S.set (o + i) (.lst (((g p.1).map fun x => D.str [x]).set k (.str [l]))), ?_, ⟨fun j q hq => ?_, fun q hq => ?_, fun q hq x hx => ?_⟩⟩
  · unfold setC
    dsimp only
    rw [hS]
    dsimp only
    rw [hj]
  · by_cases e : j = i
    · subst e
      rw [hp] at hq
      cases hq
      rw [List.getElem?_set_self hlt]
      unfold VX.K09.upd
      rw [if_pos rfl, List.map_set]
    · rw [List.getElem?_set_ne (by omega)]
      have ne : q.1 ≠ p.1 := fun z => by
        have h1 : (row.map (·.1))[j]? = some q.1 := by rw [List.getElem?_map, hq]; rfl
        have h2 : (row.map (·.1))[i]? = some p.1 := by rw [List.getElem?_map, hp]; rfl
        exact e ((List.getElem?_inj (List.getElem?_eq_some_iff.mp h1).1 nd).mp (by rw [h1, h2, z]))
      unfold VX.K09.upd
      rw [if_neg ne]
      exact h.at_ j q hq
  · unfold VX.K09.upd
    split
    · rename_i e
      rw [List.length_set, ← e]
      exact h.len q hq
    · exact h.len q hq
  · unfold VX.K09.upd at hx
    split at hx
    · rcases List.mem_or_eq_of_mem_set hx with z | z
      · exact h.ok p (List.mem_of_getElem? hp) x z
      · rw [z]; exact hl
    · exact h.ok q hq x hx
/-- a cell stands in a row -/
def inRow (row : Lens) : Ce → Prop
  | .is _ => True
  | .at_ n k _ => ∃ p ∈ row, p.1 = n ∧ k < p.2
def put1 (g : List Nat → List Nat) (c : Ce) (l : Nat) : List Nat → List Nat := match c with
  | .is _ => g
  | .at_ n k _ => upd g n k l
theorem stE_S (g : Env → M SV) (env : Env) (S S' : Sto) (xs : List D) (h : g env S = some (.ok (.lst xs), S')) : stE g env S = some (.ok (.obj S'.length), S' ++ [.lst xs]) := by
  show M.bind (g env) _ S = _
  rw [bind_S, h]
  rfl
def tgC : TgF := gtup (gcons (gnam 10) (gcons (gnam 11) gnil))
def geC : Env → M D := stE (op2F mulF (frz (lstE (consA (ecst (.str (cs "a"))) nilA))) (evar 11))
theorem contents_mk (x0 x1 x2 : Option SV) : ∀ (r : Lens) (S : Sto), (∀ p ∈ r, p.2 ≤ 1000) →
    compP tgC yesT (evar 10) geC [x0, x1, x2, none, none, none, none, none, none, none, none, none, none] (r.map fun p => D.tup [.str p.1, .int (p.2 : Nat)]) S = some (.ok (mkD S.length r), S ++ r.map fun p => Cell.lst (List.replicate p.2 (D.str (cs "a"))))
  | [], S, _ => by simp [compP, pure_S, mkD]
  | p :: r, S, h => by
    have ih := contents_mk x0 x1 x2 r (S ++ [Cell.lst (List.replicate p.2 (D.str (cs "a")))]) fun q hq => h q (List.mem_cons_of_mem _ hq)
    have one : (1 : Nat) ≤ sizeLine := small_le (by omega)
    have hm : mulF (.lst [.str (cs "a")]) (.int (p.2 : Nat)) = some (.lst (List.replicate p.2 (D.str (cs "a")))) := by
      have hp := h p List.mem_cons_self
      unfold mulF
      dsimp only
      rw [if_pos ⟨by omega, by omega, small_le (by rw [Int.toNat_natCast]; simp; omega)⟩, Int.toNat_natCast]
      congr 2
      generalize p.2 = n
      induction n with
      | zero => rfl
      | succ n ih => rw [List.replicate_succ, List.replicate_succ, List.flatten_cons, ih]; rfl
    have hg : (op2F mulF (frz (lstE (consA (ecst (.str (cs "a"))) nilA))) (evar 11)) [x0, x1, x2, none, none, none, none, none, none, none, some (.dat (.str p.1)), some (.dat (.int (p.2 : Nat))), none] S = some (.ok (.lst (List.replicate p.2 (D.str (cs "a")))), S) := by
      simp (implicitDefEqProofs := false) [one, hm, pure_S]
    have hst := stE_S (op2F mulF (frz (lstE (consA (ecst (.str (cs "a"))) nilA))) (evar 11)) _ S S _ hg
    rw [List.map_cons]
    unfold compP
    have ht : tgC (D.tup [.str p.1, .int (p.2 : Nat)]) [x0, x1, x2, none, none, none, none, none, none, none, none, none, none] = some [x0, x1, x2, none, none, none, none, none, none, none, some (.dat (.str p.1)), some (.dat (.int (p.2 : Nat))), none] := rfl
    rw [ht]
    have hst : geC [x0, x1, x2, none, none, none, none, none, none, none, some (.dat (.str p.1)), some (.dat (.int (p.2 : Nat))), none] S = some (.ok (.obj S.length), S ++ [Cell.lst (List.replicate p.2 (D.str (cs "a")))]) := hst
    simp (implicitDefEqProofs := false) [bind_S, pure_S, hst, D.ks, ih, mkD]
section
variable {row : Lens} (nd : (row.map (·.1)).Nodup) (hrl : row.length ≤ 1000) (hle : ∀ p ∈ row, p.2 ≤ 40)
def g0 (row : Lens) : List Nat → List Nat := fun s => List.replicate (Lens.of row s) 97
include nd in
theorem of_mem {p : List Nat × Nat} (hp : p ∈ row) : Lens.of row p.1 = p.2 := by
  unfold Lens.of
  rw [lookup_mem nd hp]
  rfl
include nd in
theorem ct0 (S : Sto) : CtAt (S ++ row.map fun p => Cell.lst (List.replicate p.2 (D.str (cs "a")))) S.length row (g0 row) := by
  refine ⟨fun i p hp => ?_, fun p hp => ?_, fun p hp x hx => ?_⟩
  · rw [List.getElem?_append_right (by omega), Nat.add_sub_cancel_left, List.getElem?_map, hp]
    unfold g0
    rw [of_mem nd (List.mem_of_getElem? hp), List.map_replicate]
    rfl
  · unfold g0
    rw [of_mem nd hp, List.length_replicate]
  · unfold g0 at hx
    rw [List.eq_of_mem_replicate hx]
    decide
include nd hrl hle in
theorem q0_at (x y : D) (S : Sto) : Q_0 [some (.dat row.tup), some (.dat x), some (.dat y), none, none, none, none, none, none, none, none, none, none] S =
    some (.nx [some (.dat row.tup), some (.dat x), some (.dat y), some (.dat (.dct (mkD S.length row))), none, none, none, none, none, none, none, none, none], S ++ row.map fun p => Cell.lst (List.replicate p.2 (D.str (cs "a")))) := by
  have h := contents_mk (some (.dat row.tup)) (some (.dat x)) (some (.dat y)) row S fun p hp => by have := hle p hp; omega
  have hm : mergeD [] (mkD S.length row) = mkD S.length row := by
    rw [mergeD_nodup _ _ (by
      rw [List.nil_append, mkD_keys]
      have e : (row.map fun p => KS.str p.1) = (row.map (·.1)).map KS.str := by rw [List.map_map]; rfl
      rw [e]
      generalize row.map (·.1) = l at nd
      clear h hrl hle
      induction l with
      | nil => exact List.nodup_nil
      | cons a l ih =>
        rw [List.nodup_cons] at nd
        rw [List.map_cons, List.nodup_cons]
        refine ⟨fun z => nd.1 ?_, ih nd.2⟩
        obtain ⟨b, hb, e⟩ := List.mem_map.mp z
        cases e
        exact hb), List.nil_append]
  have hl : (mkD S.length row).length ≤ sizeLine := small_le (by
    have := congrArg List.length (mkD_keys S.length row)
    rw [List.length_map, List.length_map] at this
    omega)
  have hit : row.tup.items = some (row.map fun p => D.tup [.str p.1, .int (p.2 : Nat)]) := rfl
  generalize (row.map fun p => D.tup [.str p.1, .int (p.2 : Nat)]) = IN at h hit
  generalize (row.map fun p => Cell.lst (List.replicate p.2 (D.str (cs "a")))) = CS at h ⊢
  generalize mkD S.length row = MK at h hm hl ⊢
  generalize row.tup = RT at hit h ⊢
  unfold tgC geC at h
  unfold Q_0
  simp (implicitDefEqProofs := false) [lift_S, bind_S, pure_S, hit, drp, noX_S, h, hl, hm, nx_S]
/-! the letters set -/
include nd in
theorem set_step {S : Sto} {o : Nat} {g : List Nat → List Nat} (h : CtAt S o row g) (c : Ce) (hc : inRow row c) {l : Nat} (hl : l ∈ lets) (x0 x1 x2 x4 x5 x6 x7 x10 x11 x12 : Option SV) :
    ∃ S', Q_1t_4b [x0, x1, x2, some (.dat (.dct (mkD o row))), x4, x5, x6, x7, some (.dat c.enc), some (.dat (.str [l])), x10, x11, x12] S =
      some (.nx [x0, x1, x2, some (.dat (.dct (mkD o row))), x4, x5, x6, x7, some (.dat c.enc), some (.dat (.str [l])), x10, x11, x12], S') ∧ CtAt S' o row (put1 g c l) := by
  unfold Q_1t_4b
  cases c with
  | is c =>
    refine ⟨S, ?_, h⟩
    simp (implicitDefEqProofs := false) [Ce.enc, G_IS, neB, nx_S]
  | at_ n k im =>
    obtain ⟨p, hp, rfl, hk⟩ := hc
    obtain ⟨i, hi⟩ := List.getElem?_of_mem hp
    obtain ⟨S', e, h'⟩ := h.upd nd hi hk hl
    have hd : ixD (.dct (mkD o row)) (.str p.1) = some (.obj (o + i)) := mkD_get o row nd i p hi
    refine ⟨S', ?_, h'⟩
    generalize mkD o row = MK at hd ⊢
    simp (implicitDefEqProofs := false) [Ce.enc, G_IS, neB, lift_S, bind_S, pure_S, look_S, hd, e, nx_S]
include nd hrl in
theorem q2_at {S : Sto} {o : Nat} {g : List Nat → List Nat} (h : CtAt S o row g) (hle : ∀ p ∈ row, p.2 ≤ 40) (x1 x2 x4 x5 x6 x7 x8 x9 : Option SV) :
    Q_2 [some (.dat row.tup), x1, x2, some (.dat (.dct (mkD o row))), x4, x5, x6, x7, x8, x9, none, none, none] S = some (.rt (.dat (Conts.tup (row.map fun p => (p.1, g p.1)))), S) := by
  have two : (2 : Nat) ≤ sizeLine := small_le (by omega)
  have key : ∀ (r : Lens), (∀ p ∈ r, p ∈ row) → compL (gtup (gcons (gnam 10) (gcons (gnam 12) gnil))) yesT (tupE (consA (evar 10) (consA (op2 joinD (ecst (.str (cs ""))) (op2 ixD (evar 3) (evar 10))) nilA)))
      [some (.dat row.tup), x1, x2, some (.dat (.dct (mkD o row))), x4, x5, x6, x7, x8, x9, none, none, none] (r.map fun p => D.tup [.str p.1, .int (p.2 : Nat)]) S = some (.ok (r.map fun p => D.tup [.str p.1, .str (g p.1)]), S) := by
    intro r hr
    refine compL_ofS _ _ r fun p hp => ?_
    have hpr := hr p hp
    obtain ⟨i, hi⟩ := List.getElem?_of_mem hpr
    have hd : ixD (.dct (mkD o row)) (.str p.1) = some (.obj (o + i)) := mkD_get o row nd i p hi
    have hS := h.at_ i p hi
    have hlk : Sto.see S (.obj (o + i)) = .lst ((g p.1).map fun x => D.str [x]) := by
      unfold Sto.see
      dsimp only
      rw [hS]
    have hj := join_map (g p.1) (fun x => x) (by rw [h.len p hpr]; have := hle p hpr; omega)
    rw [List.map_id'] at hj
    refine ⟨[some (.dat row.tup), x1, x2, some (.dat (.dct (mkD o row))), x4, x5, x6, x7, x8, x9, some (.dat (.str p.1)), none, some (.dat (.int (p.2 : Nat)))], rfl, rfl, ?_⟩
    generalize ((g p.1).map fun x => D.str [x]) = GL at hlk hj
    generalize mkD o row = MK at hd ⊢
    generalize row.tup = RT
    simp (implicitDefEqProofs := false) [bind_S, pure_S, look_S, hd, hlk, hj, two]
  have hk := key row fun _ h => h
  have hit : row.tup.items = some (row.map fun p => D.tup [.str p.1, .int (p.2 : Nat)]) := rfl
  have hlen : (row.map fun p => D.tup [.str p.1, .str (g p.1)]).length ≤ sizeLine := small_le (by rw [List.length_map]; omega)
  have hr : Conts.tup (row.map fun p => (p.1, g p.1)) = .tup (row.map fun p => D.tup [.str p.1, .str (g p.1)]) := by
    unfold Conts.tup
    rw [List.map_map]
    rfl
  rw [hr]
  generalize (row.map fun p => D.tup [.str p.1, .str (g p.1)]) = OUT at hk hlen ⊢
  generalize (row.map fun p => D.tup [.str p.1, .int (p.2 : Nat)]) = IN at hk hit
  generalize mkD o row = MK at hk ⊢
  generalize row.tup = RT at hit hk ⊢
  unfold Q_2
  simp (implicitDefEqProofs := false) [lift_S, bind_S, pure_S, hit, drp, noX_S, hk, hlen, look_S, Sto.see, tupD, rt_S]
end
end VX.K09
set_option Elab.async false
set_option linter.all false
set_option maxRecDepth 100000
set_option maxHeartbeats 4000000
namespace VX.K09
open PySem PySem.Spec PyProof.Rows L2
theorem zip_nil : ∀ {a b : List Ce}, a.length = b.length → ((a.zip b).filter fun p => decide (p.1 ≠ p.2)) = [] → a = b
  | [], [], _, _ => rfl
  | [], _ :: _, h, _ => by simp at h
  | _ :: _, [], h, _ => by simp at h
  | x :: a, y :: b, h, e => by
    rw [List.zip_cons_cons] at e
    by_cases q : x = y
    · subst q
      rw [List.filter_cons_of_neg (by simp)] at e
      rw [zip_nil (by simpa using h) e]
    · rw [List.filter_cons_of_pos (by simpa using q)] at e
      cases e
theorem zip_at : ∀ {a b : List Ce} {x y : Ce}, (x, y) ∈ a.zip b → ∃ i : Nat, a[i]? = some x ∧ b[i]? = some y
  | [], _, _, _, h => by simp at h
  | _ :: _, [], _, _, h => by simp at h
  | u :: a, v :: b, x, y, h => by
    rw [List.zip_cons_cons] at h
    rcases List.mem_cons.mp h with e | h
    · cases e; exact ⟨0, rfl, rfl⟩
    · obtain ⟨i, h1, h2⟩ := zip_at h
      exact ⟨i + 1, by simpa using h1, by simpa using h2⟩
/-- what stands where it was set -/
theorem put_put {row : Lens} {g : List Nat → List Nat} (hg : ∀ p ∈ row, (g p.1).length = p.2) (hl : ∀ p ∈ row, ∀ x ∈ g p.1, x ∈ lets) {a b : Ce} (ra : inRow row a) (rb : inRow row b) {l m : Nat} (h : parts a b l m) :
    put (put1 (put1 g a l) b m) a = letD a l ∧ put (put1 (put1 g a l) b m) b = letD b m := by
  have setk : ∀ (s : List Nat) (k l : Nat), k < s.length → (s.set k l).getD k 0 = l := fun s k l hk => by
    rw [List.getD_eq_getElem?_getD, List.getElem?_set_self hk]
    rfl
  have setn : ∀ (s : List Nat) (k k' l : Nat), k ≠ k' → (s.set k l).getD k' 0 = s.getD k' 0 := fun s k k' l hk => by
    rw [List.getD_eq_getElem?_getD, List.getD_eq_getElem?_getD, List.getElem?_set_ne hk]
  have len1 : ∀ (g : List Nat → List Nat) (n : List Nat) (k l : Nat) (s : List Nat), (upd g n k l s).length = (g s).length := fun g n k l s => by
    unfold upd
    split
    · rename_i e; rw [List.length_set, e]
    · rfl
  have eqAt : ∀ (g : List Nat → List Nat) (n : List Nat) (k l : Nat), k < (g n).length → (upd g n k l n).getD k 0 = l := fun g n k l hk => by
    unfold upd
    rw [if_pos rfl]
    exact setk _ _ _ hk
  have neAt : ∀ (g : List Nat → List Nat) (n n' : List Nat) (k k' l : Nat), ¬ (n = n' ∧ k = k') → (upd g n k l n').getD k' 0 = (g n').getD k' 0 := fun g n n' k k' l hk => by
    unfold upd
    split
    · rename_i e
      subst e
      exact setn _ _ _ _ fun z => hk ⟨rfl, z⟩
    · rfl
  cases a with
  | is x =>
    refine ⟨rfl, ?_⟩
    cases b with
    | is y => rfl
    | at_ n k im =>
      obtain ⟨p, hp, rfl, hk⟩ := rb
      show im.getD (pos ((upd g p.1 k m p.1).getD k 0)) 0 = im.getD (pos m) 0
      rw [eqAt g p.1 k m (by rw [hg p hp]; exact hk)]
  | at_ n k im =>
    obtain ⟨p, hp, rfl, hk⟩ := ra
    have hkg : k < (g p.1).length := by rw [hg p hp]; exact hk
    cases b with
    | is y =>
      refine ⟨?_, rfl⟩
      show im.getD (pos ((upd g p.1 k l p.1).getD k 0)) 0 = im.getD (pos l) 0
      rw [eqAt g p.1 k l hkg]
    | at_ n' k' im' =>
      obtain ⟨p', hp', rfl, hk'⟩ := rb
      have hkg' : k' < (upd g p.1 k l p'.1).length := by rw [len1, hg p' hp']; exact hk'
      refine ⟨?_, ?_⟩
      · show im.getD (pos ((upd (upd g p.1 k l) p'.1 k' m p.1).getD k 0)) 0 = im.getD (pos l) 0
        by_cases q : p'.1 = p.1 ∧ k' = k
        · have hlm : l = m := h.1 (by
            unfold alike
            rw [decide_eq_true_eq]
            exact ⟨q.1.symm, q.2.symm⟩)
          have := eqAt (upd g p.1 k l) p'.1 k' m hkg'
          rw [q.1, q.2] at this
          rw [q.1, q.2, this, hlm]
        · rw [neAt _ _ _ _ _ _ q, eqAt g p.1 k l hkg]
      · show im'.getD (pos ((upd (upd g p.1 k l) p'.1 k' m p'.1).getD k' 0)) 0 = im'.getD (pos m) 0
        rw [eqAt _ _ _ _ hkg']
section
variable {row : Lens} (nd : (row.map (·.1)).Nodup) (hrl : row.length ≤ 1000) (hle : ∀ p ∈ row, p.2 ≤ 40)
structure InR (row : Lens) (x : Option (List Ce)) : Prop where
  len : ∀ l, x = some l → l.length ≤ 40
  ok : ∀ l, x = some l → ∀ c ∈ l, c.ok
  st : ∀ l, x = some l → ∀ c ∈ l, c.settle = c
  inr : ∀ l, x = some l → ∀ c ∈ l, inRow row c
def Told (row : Lens) (x y : Option (List Ce)) (r : D) : Prop := x ≠ y ∧ ∃ g : List Nat → List Nat, r = Conts.tup (row.map fun p => (p.1, g p.1)) ∧ (∀ p ∈ row, (g p.1).length = p.2) ∧ (∀ p ∈ row, ∀ z ∈ g p.1, z ∈ lets) ∧ x.map (·.map (put g)) ≠ y.map (·.map (put g))
theorem lenD_encO (l : List Ce) : lenD (encO (some l)) = some (.int (l.length : Nat)) := by
  unfold encO lenD
  dsimp only
  rw [List.length_map]
include nd hrl hle in
end
end VX.K09
set_option Elab.async false
set_option linter.all false
set_option maxRecDepth 100000
set_option maxHeartbeats 4000000
namespace VX.K09
open PySem PySem.Spec PyProof.Rows L2
def L_0 : Env → SM := (sAsg 1 (frz (lstE (consA (tupE nilA) nilA))))
def L_1b : Env → SM := (sAsg 1 (frz (lc2F [3, 4] (itm (evar 1)) (gnam 3) yesT [4] (rngE (frz (op2F addF (ecst G_MOST_CONTENT) (ecst (.int 1))))) (gnam 4) yesT (frz (op2F addF (evar 3) (tupE (consA (tupE (consA (evar 2) (consA (evar 4) nilA))) nilA)))))))
def L_1 : Env → SM := (sFor (itm (evar 0)) (gnam 2) L_1b)
def L_2 : Env → SM := (sRet (evar 1))
def L : Env → SM := sSeq L_0 (sSeq L_1 L_2)
/-! ### all lengths -/
def ext1 (n : List Nat) (rows : List Lens) : List Lens := (rows.map fun r => (List.range 41).map fun l => r ++ [(n, l)]).flatten
def rowsL (nl : List (List Nat)) : List Lens := nl.foldl (fun rs n => ext1 n rs) [[]]
theorem ext1_len (n : List Nat) (rows : List Lens) : (ext1 n rows).length = 41 * rows.length := by
  unfold ext1
  induction rows with
  | nil => rfl
  | cons r rows ih => rw [List.map_cons, List.flatten_cons, List.length_append, ih, List.length_map, List.length_range, List.length_cons]; omega
theorem mem_ext1 {n : List Nat} {rows : List Lens} {row : Lens} : row ∈ ext1 n rows ↔ ∃ r ∈ rows, ∃ l, l ≤ 40 ∧ row = r ++ [(n, l)] := by
  unfold ext1
  rw [List.mem_flatten]
  constructor
  · rintro ⟨x, hx, hr⟩
    obtain ⟨r, h1, rfl⟩ := List.mem_map.mp hx
    obtain ⟨l, h2, rfl⟩ := List.mem_map.mp hr
    exact ⟨r, h1, l, by have := List.mem_range.mp h2; omega, rfl⟩
  · rintro ⟨r, h1, l, h2, rfl⟩
    exact ⟨_, List.mem_map_of_mem h1, List.mem_map_of_mem (List.mem_range.mpr (by omega))⟩
theorem mem_fold : ∀ (nl : List (List Nat)) (rs : List Lens) (row : Lens), row ∈ nl.foldl (fun rs n => ext1 n rs) rs ↔ ∃ r ∈ rs, ∃ t : Lens, row = r ++ t ∧ t.map (·.1) = nl ∧ ∀ p ∈ t, p.2 ≤ 40
  | [], rs, row => by
    constructor
    · intro h
      exact ⟨row, h, [], (List.append_nil _).symm, rfl, fun _ z => (nomatch z)⟩
    · rintro ⟨r, h, t, rfl, ht, _⟩
      rw [List.map_eq_nil_iff.mp ht, List.append_nil]
      exact h
  | n :: nl, rs, row => by
    rw [List.foldl_cons, mem_fold nl (ext1 n rs) row]
    constructor
    · rintro ⟨r, h, t, rfl, ht, hl⟩
      obtain ⟨r0, h0, l, hl0, rfl⟩ := mem_ext1.mp h
      refine ⟨r0, h0, (n, l) :: t, by simp, by simp [ht], fun p hp => ?_⟩
      rcases List.mem_cons.mp hp with rfl | hp
      · exact hl0
      · exact hl p hp
    · rintro ⟨r, h, t, rfl, ht, hl⟩
      match t, ht with
      | p :: t, ht =>
        simp only [List.map_cons, List.cons.injEq] at ht
        refine ⟨r ++ [p], mem_ext1.mpr ⟨r, h, p.2, hl p List.mem_cons_self, by rw [← ht.1]⟩, t, by simp, ht.2, fun q hq => hl q (List.mem_cons_of_mem _ hq)⟩
theorem mem_rowsL {nl : List (List Nat)} {row : Lens} : row ∈ rowsL nl ↔ row.map (·.1) = nl ∧ ∀ p ∈ row, p.2 ≤ 40 := by
  unfold rowsL
  rw [mem_fold]
  constructor
  · rintro ⟨r, h, t, rfl, ht, hl⟩
    simp only [List.mem_cons, List.not_mem_nil, or_false] at h
    subst h
    exact ⟨ht, hl⟩
  · rintro ⟨h1, h2⟩
    exact ⟨[], List.mem_cons_self, row, rfl, h1, h2⟩
theorem l1b_at (N : D) (n : List Nat) (rows : List Lens) (h : rows.length ≤ 2000) (hr : ∀ r ∈ rows, r.length ≤ 100) (x3 x4 : Option SV) : L_1b [some (.dat N), some (.dat (.lst (rows.map Lens.tup))), some (.dat (.str n)), none, none] = eNx [some (.dat N), some (.dat (.lst ((ext1 n rows).map Lens.tup))), some (.dat (.str n)), none, none] := by
  have one : (1 : Nat) ≤ sizeLine := small_le (by omega)
  have two : (2 : Nat) ≤ sizeLine := small_le (by omega)
  have hrg : rngI (.int 41) = some ((List.range 41).map fun i => D.int (i : Nat)) := rngN 41 (by omega)
  have hc : compL2 (gnam 3) yesT [4] (rngE (frz (op2F addF (ecst G_MOST_CONTENT) (ecst (.int 1))))) (gnam 4) yesT (frz (op2F addF (evar 3) (tupE (consA (tupE (consA (evar 2) (consA (evar 4) nilA))) nilA)))) [some (.dat N), some (.dat (.lst (rows.map Lens.tup))), some (.dat (.str n)), none, none] (rows.map Lens.tup) = M.pure ((rows.map fun r => (List.range 41).map fun l => Lens.tup (r ++ [(n, l)])).flatten) := by
    refine compL2_of Lens.tup _ rows fun r hrm => ⟨[some (.dat N), some (.dat (.lst (rows.map Lens.tup))), some (.dat (.str n)), some (.dat r.tup), none], (List.range 41).map fun i => D.int (i : Nat), rfl, rfl, ?_, ?_⟩
    · generalize ((List.range 41).map fun i => D.int (i : Nat)) = RG at hrg ⊢
      simp (implicitDefEqProofs := false) [G_MOST_CONTENT, addF, hrg]
    · refine compL_of _ _ _ fun l hl => ⟨[some (.dat N), some (.dat (.lst (rows.map Lens.tup))), some (.dat (.str n)), some (.dat r.tup), some (.dat (.int (l : Nat)))], rfl, rfl, ?_⟩
      have hadd : addF r.tup (.tup [.tup [.str n, .int (l : Nat)]]) = some (.dat (Lens.tup (r ++ [(n, l)]))) := by
        have hz : (r.map fun p => D.tup [.str p.1, .int (p.2 : Nat)]).length + 1 ≤ sizeLine := small_le (by rw [List.length_map]; have := hr r hrm; omega)
        unfold Lens.tup addF
        dsimp only
        refine (if_pos hz).trans ?_
        rw [List.map_append]
        rfl
      have lk : look r.tup = M.pure r.tup := rfl
      generalize r.tup = RT at hadd lk ⊢
      generalize Lens.tup (r ++ [(n, l)]) = OUT at hadd ⊢
      simp (implicitDefEqProofs := false) [one, two, lk, hadd]
  have he : (rows.map fun r => (List.range 41).map fun l => Lens.tup (r ++ [(n, l)])).flatten = (ext1 n rows).map Lens.tup := by
    unfold ext1
    rw [List.map_flatten, List.map_map]
    congr 1
    first
      | done
      | (apply List.map_congr_left; intro r _; simp)
  rw [he] at hc
  have hl : ((ext1 n rows).map Lens.tup).length ≤ sizeLine := small_le (by rw [List.length_map, ext1_len]; omega)
  have hit : (D.lst (rows.map Lens.tup)).items = some (rows.map Lens.tup) := rfl
  generalize (ext1 n rows).map Lens.tup = OUT at hc hl ⊢
  generalize rows.map Lens.tup = IN at hc hit ⊢
  unfold L_1b
  simp (implicitDefEqProofs := false) [hit, drp, hc, hl]
theorem l1_loop (N : D) : ∀ (nl : List (List Nat)) (rows : List Lens) (x2 : Option SV), nl.length ≤ 2 → rows.length * 41 ^ nl.length ≤ 2000 → (∀ r ∈ rows, r.length + nl.length ≤ 100) →
    ∃ x2', forL (gnam 2) L_1b (nl.map D.str) [some (.dat N), some (.dat (.lst (rows.map Lens.tup))), x2, none, none] = eNx [some (.dat N), some (.dat (.lst ((nl.foldl (fun rs n => ext1 n rs) rows).map Lens.tup))), x2', none, none]
  | [], rows, x2, _, _, _ => ⟨x2, rfl⟩
  | n :: nl, rows, x2, h1, h2, h3 => by
    have h2' : rows.length ≤ 2000 := by
      have : 1 ≤ 41 ^ (n :: nl).length := Nat.pos_of_ne_zero (by simp)
      exact Nat.le_trans (Nat.le_mul_of_pos_right _ (by omega)) h2
    have hb := l1b_at N n rows h2' (fun r hr => by have := h3 r hr; omega) none none
    obtain ⟨x2', e⟩ := l1_loop N nl (ext1 n rows) (some (.dat (.str n))) (by simp at h1; omega) (by
      rw [ext1_len]
      rw [List.length_cons, Nat.pow_succ] at h2
      have : 41 * rows.length * 41 ^ nl.length = rows.length * (41 ^ nl.length * 41) := by
        rw [Nat.mul_comm 41, Nat.mul_assoc, Nat.mul_comm 41]
      omega) (fun r hr => by
      obtain ⟨r0, h0, l, _, rfl⟩ := mem_ext1.mp hr
      have := h3 r0 h0
      simp at this ⊢
      omega)
    refine ⟨x2', ?_⟩
    rw [List.map_cons, forL_consG]
    have hb' : L_1b ([some (.dat N), some (.dat (.lst (rows.map Lens.tup))), x2, none, none].set 2 (some (.dat (.str n)))) = eNx [some (.dat N), some (.dat (.lst ((ext1 n rows).map Lens.tup))), some (.dat (.str n)), none, none] := hb
    rw [hb', for_nx, e]
    rfl
end VX.K09
set_option Elab.async false
set_option linter.all false
set_option maxRecDepth 100000
set_option maxHeartbeats 4000000
namespace VX.K09
open PySem PySem.Spec PyProof.Rows L2
def E_0 : Env → SM := (sDrop (frz (callF F_check_plain (consA (evar 0) nilA))))
def E_1 : Env → SM := (sDrop (frz (callF F_check_plain (consA (evar 1) nilA))))
def E_2 : Env → SM := (sAsg 2 (frz (op1F sortF (frz (dcF [6] (itm (frz (op2F addF (frz (callF F_names_in (consA (evar 0) nilA))) (frz (callF F_names_in (consA (evar 1) nilA)))))) (gnam 6) yesT (evar 6) (ecst (.bl true)))))))
def E_3 : Env → SM := (sIf (op2B gtB (op1 lenD (evar 2)) (ecst G_MOST_NAMES)) (sRaise "TooMany") sNx)
def E_4b_0 : Env → SM := (sAsg 4 (bmE "Lengths" "known" (frz (callF (mkF "Lengths" F_Lengths_init) (consA (evar 3) nilA)))))
/-! ### same_deeds -/
theorem nm_ok : ∀ (d : Dd), d.okP → ∀ s ∈ d.nm, okLet s 1 8 = true := by
  intro d
  induction d with
  | text s => intro _ s h; cases h
  | need n => intro ok s h; simp [Dd.nm] at h; subst h; exact ok
  | named a ih => intro ok s h; simp only [Dd.nm, mem_canon] at h; exact ih ok s h
  | join a b ia ib =>
    intro ok s h
    simp only [Dd.nm, mem_canon, List.mem_append] at h
    exact h.elim (ia ok.1 s) (ib ok.2 s)
  | head k a ih => intro ok s h; simp only [Dd.nm, mem_canon] at h; exact ih ok.2 s h
  | back a ih => intro ok s h; simp only [Dd.nm, mem_canon] at h; exact ih ok s h
  | sort a ih => intro ok s h; simp only [Dd.nm, mem_canon] at h; exact ih ok s h
  | swap x y a ih => intro ok s h; simp only [Dd.nm, mem_canon] at h; exact ih ok.2 s h
  | same a b c d ia ib ic id =>
    intro ok s h
    simp only [Dd.nm, mem_canon, List.mem_append] at h
    rcases h with h | h | h | h
    · exact ia ok.1 s h
    · exact ib ok.2.1 s h
    · exact ic ok.2.2.1 s h
    · exact id ok.2.2.2 s h
/-- a plain deed -/
structure Pd (d : Dd) : Prop where
  pl : d.plain
  ht : d.ht ≤ 5
  ok : d.okP
  sz : d.size ≤ 30
  two : d.nm.length ≤ 2
theorem Pd.okn {d : Dd} (h : Pd d) : ∀ s ∈ d.nm, okLet s 1 8 = true := nm_ok d h.ok
theorem Pd.chr {d : Dd} (h : Pd d) : ∀ s ∈ d.nm, ∀ c ∈ s, c < 0x110000 := fun s hs c hc => let_ok (okLet_mem (h.okn s hs) c hc)
theorem Pd.fault {d : Dd} (h : Pd d) : d.fault = .non := by
  unfold Dd.fault
  rw [if_pos h.sz, bad_plain h.pl]
  dsimp only
  rw [if_neg (by have := h.two; omega)]
theorem Pd.fault_enc {d : Dd} (h : Pd d) : F_plain_fault [enc d] = pv .non := by
  rw [← h.fault]
  exact plain_fault_enc d h.ht h.ok
theorem Pd.names {d : Dd} (h : Pd d) : F_names_in [enc d] = M.pure (.lst (d.nm.map D.str)) := names_enc 12 d (by have := h.ht; omega) (by have := h.sz; omega)
theorem lc_inr {row : Lens} {f : List Nat → List Ce} : ∀ (d : Dd), (∀ s ∈ d.nm, ∀ c ∈ f s, inRow row c) → ∀ l, lc f d = some l → ∀ c ∈ l, inRow row c := by
  intro d
  induction d with
  | text s =>
    intro _ l h c hm
    cases h
    obtain ⟨a, _, rfl⟩ := List.mem_map.mp hm
    trivial
  | need s =>
    intro hs l h c hm
    cases h
    exact hs s (by simp [Dd.nm]) c hm
  | join a b ia ib =>
    intro hs l h c hm
    have ha := ia (fun s q => hs s (nm_sub (d := .join a b) (by simp [Dd.parts]) s q))
    have hb := ib (fun s q => hs s (nm_sub (d := .join a b) (by simp [Dd.parts]) s q))
    unfold lc at h
    cases e1 : lc f a with
    | none => rw [e1] at h; cases h
    | some x =>
      cases e2 : lc f b with
      | none => rw [e1, e2] at h; cases h
      | some y =>
        rw [e1, e2] at h
        dsimp only at h
        split at h
        · cases h
          rcases List.mem_append.mp hm with q | q
          · exact ha x e1 c q
          · exact hb y e2 c q
        · cases h
  | head k a ia =>
    intro hs l h c hm
    have ha := ia (fun s q => hs s (nm_sub (d := .head k a) (by simp [Dd.parts]) s q))
    unfold lc at h
    obtain ⟨x, e1, rfl⟩ := Option.map_eq_some_iff.mp h
    exact ha x e1 c (List.mem_of_mem_take hm)
  | back a ia =>
    intro hs l h c hm
    have ha := ia (fun s q => hs s (nm_sub (d := .back a) (by simp [Dd.parts]) s q))
    unfold lc at h
    obtain ⟨x, e1, rfl⟩ := Option.map_eq_some_iff.mp h
    exact ha x e1 c (List.mem_reverse.mp hm)
  | swap x y a ia =>
    intro hs l h c hm
    have ha := ia (fun s q => hs s (nm_sub (d := .swap x y a) (by simp [Dd.parts]) s q))
    unfold lc at h
    obtain ⟨z, e1, rfl⟩ := Option.map_eq_some_iff.mp h
    obtain ⟨b, hb, rfl⟩ := List.mem_map.mp hm
    have := ha z e1 b hb
    cases b with
    | is b => trivial
    | at_ n k im => exact this
  | named a _ => intro _ l h; cases h
  | sort a _ => intro _ l h; cases h
  | same a b c d _ _ _ _ => intro _ l h; cases h
theorem settle_inr {row : Lens} {c : Ce} (h : inRow row c) : inRow row c.settle := by
  cases c with
  | is c => trivial
  | at_ n k im =>
    match im with
    | [] => exact h
    | a :: im =>
      rw [settle_at]
      split
      · trivial
      · exact h
theorem settle_settle {c : Ce} : c.settle.settle = c.settle := by
  cases c with
  | is c => rfl
  | at_ n k im =>
    match im with
    | [] => rfl
    | a :: im =>
      rw [settle_at]
      split
      · rfl
      · rename_i h
        rw [settle_at, if_neg h]
/-- the cells for a row of lengths -/
def kc (row : Lens) (d : Dd) : Option (List Ce) := pc (fun s => fresh s (Lens.of row s)) d
section
variable {nl : List (List Nat)} {row : Lens}
theorem row_nd (hnl : nl.Nodup) (hr : row ∈ rowsL nl) : (row.map (·.1)).Nodup := by rw [(mem_rowsL.mp hr).1]; exact hnl
theorem row_of (hnl : nl.Nodup) (hr : row ∈ rowsL nl) {s : List Nat} (hs : s ∈ nl) : ∃ p ∈ row, p.1 = s ∧ Lens.of row s = p.2 ∧ p.2 ≤ 40 := by
  have h := mem_rowsL.mp hr
  rw [← h.1] at hs
  obtain ⟨p, hp, rfl⟩ := List.mem_map.mp hs
  exact ⟨p, hp, rfl, of_mem (row_nd hnl hr) hp, h.2 p hp⟩
theorem kc_fok {d : Dd} (h : Pd d) (hnl : nl.Nodup) (hr : row ∈ rowsL nl) (hs : ∀ s ∈ d.nm, s ∈ nl) : Fok (fun s => fresh s (Lens.of row s)) d.nm := by
  refine ⟨fun s q => ?_, fun s q => fresh_ok s _ (h.chr s q)⟩
  obtain ⟨p, _, _, e, l⟩ := row_of hnl hr (hs s q)
  show (fresh s (Lens.of row s)).length ≤ 40
  rw [e]
  simpa [fresh] using l
theorem kc_in {d : Dd} (h : Pd d) (hnl : nl.Nodup) (hr : row ∈ rowsL nl) (hs : ∀ s ∈ d.nm, s ∈ nl) : InR row (kc row d) := by
  have hp := pc_ok h.ok (kc_fok h hnl hr hs)
  refine ⟨fun l e => (hp l e).1, fun l e => (hp l e).2, fun l e c hc => ?_, fun l e c hc => ?_⟩
  · obtain ⟨x, _, rfl⟩ := Option.map_eq_some_iff.mp e
    obtain ⟨a, _, rfl⟩ := List.mem_map.mp hc
    exact settle_settle
  · obtain ⟨x, ex, rfl⟩ := Option.map_eq_some_iff.mp e
    obtain ⟨a, ha, rfl⟩ := List.mem_map.mp hc
    refine settle_inr (lc_inr d (fun s hs2 c hc => ?_) x ex a ha)
    obtain ⟨k, hk, rfl⟩ := List.mem_map.mp hc
    obtain ⟨p, hp, e1, e2, _⟩ := row_of hnl hr (hs s hs2)
    exact ⟨p, hp, e1, by rw [← e2]; exact List.mem_range.mp hk⟩
/-- what the cells tell is what is done -/
theorem put_settle {g : List Nat → List Nat} {c : Ce} (ok : c.ok) (h : ∀ n k im, c = .at_ n k im → (g n).getD k 0 ∈ lets) : put g c.settle = put g c := by
  cases c with
  | is c => rfl
  | at_ n k im =>
    have hl := ok.1.1
    have hp := pos_lt (h n k im rfl)
    match im, hl with
    | a :: im, hl =>
      rw [settle_at]
      split
      · rename_i e
        show a = (a :: im).getD (pos ((g n).getD k 0)) 0
        rw [e]
        generalize pos ((g n).getD k 0) = p at hp
        rw [List.getD_eq_getElem?_getD, List.getElem?_replicate, if_pos hp]
        rfl
      · rfl
theorem tc_kc {d : Dd} (h : Pd d) (hnl : nl.Nodup) (hr : row ∈ rowsL nl) (hs : ∀ s ∈ d.nm, s ∈ nl) {c : Conts} (ok : ContOk row c) : tc (Conts.of c) d = (kc row d).map (·.map (put (Conts.of c))) := by
  have hcl := conts_len ok.n ok.l
  have nd : (c.map (·.1)).Nodup := by rw [ok.n]; exact row_nd hnl hr
  have hmem : ∀ p ∈ c, Conts.of c p.1 = p.2 := fun p hp => by
    unfold Conts.of
    rw [lookup_mem nd hp]
    rfl
  have hlets : ∀ s ∈ nl, ∀ x ∈ Conts.of c s, x ∈ lets := fun s q => by
    rw [← (mem_rowsL.mp hr).1, ← ok.n] at q
    obtain ⟨p, hp, rfl⟩ := List.mem_map.mp q
    rw [hmem p hp]
    exact ok.a p hp
  have h40 : ∀ s ∈ nl, (Conts.of c s).length ≤ 40 := fun s q => by
    obtain ⟨p, _, _, e, l⟩ := row_of hnl hr q
    rw [hcl, e]
    exact l
  have hff : (fun s => fresh s (Conts.of c s).length) = fun s => fresh s (Lens.of row s) := by
    funext s
    rw [hcl]
  obtain ⟨p1, p2⟩ := put_lc (Conts.of c) d h.ok (fun s q => ⟨h.chr s q, h40 s (hs s q), hlets s (hs s q)⟩)
  rw [hff] at p1 p2
  rw [p1]
  unfold kc pc
  cases e : lc (fun s => fresh s (Lens.of row s)) d with
  | none => rfl
  | some l =>
    simp only [Option.map_some, List.map_map]
    congr 1
    apply List.map_congr_left
    intro ce hce
    have hst := p2 l e ce hce
    refine (put_settle hst.ok fun n k im q => ?_).symm
    obtain ⟨a1, a2, a3⟩ := hst.at_ n k im q
    rw [List.getD_eq_getElem?_getD, List.getElem?_eq_getElem a1]
    exact a3 _ (List.getElem_mem a1)
/-- what is told parts -/
theorem told_parts {d1 d2 : Dd} (h1 : Pd d1) (h2 : Pd d2) (hnl : nl.Nodup) (hr : row ∈ rowsL nl) (s1 : ∀ s ∈ d1.nm, s ∈ nl) (s2 : ∀ s ∈ d2.nm, s ∈ nl) {r : D} (h : Told row (kc row d1) (kc row d2) r) :
    ∃ c : Conts, r = c.tup ∧ ContOk row c ∧ tc (Conts.of c) d1 ≠ tc (Conts.of c) d2 := by
  obtain ⟨hne, g, rfl, hlen, hlets, hput⟩ := h
  have nd := row_nd hnl hr
  have ok : ContOk row (row.map fun p => (p.1, g p.1)) := by
    refine ⟨by rw [List.map_map]; rfl, ?_, fun p hp => ?_⟩
    · rw [List.map_map]
      exact List.map_congr_left fun p hp => hlen p hp
    · obtain ⟨q, hq, rfl⟩ := List.mem_map.mp hp
      exact hlets q hq
  refine ⟨_, rfl, ok, fun e => hput ?_⟩
  rw [tc_kc h1 hnl hr s1 ok, tc_kc h2 hnl hr s2 ok] at e
  have hof : ∀ p ∈ row, Conts.of (row.map fun p => (p.1, g p.1)) p.1 = g p.1 := fun p hp => by
    have nd' : ((row.map fun p => (p.1, g p.1)).map (·.1)).Nodup := by rw [List.map_map]; exact nd
    unfold Conts.of
    rw [lookup_mem nd' (p := (p.1, g p.1)) (List.mem_map_of_mem (f := fun p : List Nat × Nat => (p.1, g p.1)) hp)]
    rfl
  have cong : ∀ d, Pd d → (∀ s ∈ d.nm, s ∈ nl) → (kc row d).map (·.map (put (Conts.of (row.map fun p => (p.1, g p.1))))) = (kc row d).map (·.map (put g)) := fun d hd hs => by
    have hin := kc_in hd hnl hr hs
    cases q : kc row d with
    | none => rfl
    | some l =>
      simp only [Option.map_some]
      congr 1
      apply List.map_congr_left
      intro ce hce
      have := hin.inr l q ce hce
      cases ce with
      | is x => rfl
      | at_ n k im =>
        obtain ⟨p, hp, rfl, _⟩ := this
        show im.getD (pos ((Conts.of _ p.1).getD k 0)) 0 = im.getD (pos ((g p.1).getD k 0)) 0
        rw [hof p hp]
  rw [cong d1 h1 s1, cong d2 h2 s2] at e
  exact e
end
def sameD : D := .tup [.str (cs "same")]
def unlikeD (c : Conts) : D := .tup [.str (cs "unlike"), c.tup]
/-- the known cells of a row, at a store -/
theorem known_row {S : Sto} {nl : List (List Nat)} {row : Lens} (hnl : nl.Nodup) (hr : row ∈ rowsL nl) : ∃ KL, mkF "Lengths" F_Lengths_init [row.tup] S = some (.ok (.dat (.obj S.length)), S ++ [.ins "Lengths" [("lengths", .dct KL)]]) ∧ ∀ s ∈ nl, ixD (.dct KL) (.str s) = some (.int (Lens.of row s : Nat)) ∧ Lens.of row s ≤ 40 := by
  have nd := row_nd hnl hr
  have hi := lengths_init (S := S) (ls := row) nd
  refine ⟨row.map fun p => (KS.str p.1, D.int (p.2 : Nat)), ?_, fun s hs => ?_⟩
  · unfold mkF
    rw [hi]
  · obtain ⟨p, hp, rfl, e, l⟩ := row_of hnl hr hs
    rw [ixD_map row (·.1) (fun p => D.int (p.2 : Nat)) nd hp, e]
    exact ⟨rfl, l⟩
theorem cells_row {S : Sto} {o : Nat} {KL : List (KS × D)} {nl : List (List Nat)} {row : Lens} {d : Dd} (h : Pd d) (hnl : nl.Nodup) (hr : row ∈ rowsL nl) (hs : ∀ s ∈ d.nm, s ∈ nl) (hS : S[o]? = some (.ins "Lengths" [("lengths", .dct KL)])) (hK : ∀ s ∈ nl, ixD (.dct KL) (.str s) = some (.int (Lens.of row s : Nat)) ∧ Lens.of row s ≤ 40) :
    ∃ sv, F_cells_by [enc d, .bm o "Lengths" "known"] S = some (.ok sv, S) ∧ sv.d = encO (kc row d) :=
  cells_by_enc hS (Lens.of row) 12 d (by have := h.ht; omega) h.pl h.ok (kc_fok h hnl hr hs) fun s q => hK s (hs s q)
section
variable {d1 d2 : Dd} (h1 : Pd d1) (h2 : Pd d2) {nl : List (List Nat)} (hnl : nl.Nodup) (hn2 : nl.length ≤ 2) (s1 : ∀ s ∈ d1.nm, s ∈ nl) (s2 : ∀ s ∈ d2.nm, s ∈ nl)
include h1 h2 hnl hn2 s1 s2 in
include h1 h2 hnl hn2 s1 s2 in
end
/-! the whole -/
def names2 (d1 d2 : Dd) : List (List Nat) := canon (d1.nm ++ d2.nm)
theorem names2_nd (d1 d2 : Dd) : (names2 d1 d2).Nodup := nodup_canon _
theorem names2_l {d1 d2 : Dd} : ∀ s ∈ d1.nm, s ∈ names2 d1 d2 := fun s h => mem_canon.mpr (List.mem_append.mpr (.inl h))
theorem names2_r {d1 d2 : Dd} : ∀ s ∈ d2.nm, s ∈ names2 d1 d2 := fun s h => mem_canon.mpr (List.mem_append.mpr (.inr h))
theorem e2_at {d1 d2 : Dd} (h1 : Pd d1) (h2 : Pd d2) (x2 x3 x4 x5 : Option SV) : E_2 [some (.dat (enc d1)), some (.dat (enc d2)), x2, x3, x4, x5, none] = eNx [some (.dat (enc d1)), some (.dat (enc d2)), some (.dat (.lst ((names2 d1 d2).map D.str))), x3, x4, x5, none] := by
  have n1 := h1.names
  have n2 := h2.names
  have t1 := h1.two
  have t2 := h2.two
  have hadd : addF (.lst (d1.nm.map D.str)) (.lst (d2.nm.map D.str)) = some (.lst ((d1.nm ++ d2.nm).map D.str)) := by
    unfold addF
    dsimp only
    rw [if_pos (small_le (by rw [List.length_map, List.length_map]; omega)), List.map_append]
  have hc : compP (gnam 6) yesT (evar 6) (ecst (.bl true)) [some (.dat (enc d1)), some (.dat (enc d2)), x2, x3, x4, x5, none] ((d1.nm ++ d2.nm).map D.str) = M.pure ((d1.nm ++ d2.nm).map fun s => (KS.str s, D.bl true)) := by
    refine compP_of D.str (fun s => (KS.str s, D.bl true)) _ fun s hs => ⟨[some (.dat (enc d1)), some (.dat (enc d2)), x2, x3, x4, x5, some (.dat (.str s))], .str s, rfl, rfl, ?_, rfl, rfl⟩
    simp (implicitDefEqProofs := false) []
  have hs := sortF_keys (d1.nm ++ d2.nm) ((d1.nm ++ d2.nm).map fun s => (KS.str s, D.bl true)) (by rw [List.map_map]; rfl) (by rw [List.length_append]; omega)
  have hl : ((d1.nm ++ d2.nm).map fun s => (KS.str s, D.bl true)).length ≤ sizeLine := small_le (by rw [List.length_map, List.length_append]; omega)
  have hit : (D.lst ((d1.nm ++ d2.nm).map D.str)).items = some ((d1.nm ++ d2.nm).map D.str) := rfl
  change sortF _ = some (SV.lst ((names2 d1 d2).map D.str)) at hs
  generalize ((d1.nm ++ d2.nm).map fun s => (KS.str s, D.bl true)) = V at hc hs hl
  generalize (d1.nm ++ d2.nm).map D.str = NM at hadd hc hit
  generalize (names2 d1 d2).map D.str = OUT at hs ⊢
  unfold E_2
  simp (implicitDefEqProofs := false) [n1, n2, hadd, hit, drp, hc, hl, hs]
theorem e3_at {d1 d2 : Dd} (hn2 : (names2 d1 d2).length ≤ 2) (x0 x1 x3 x4 x5 x6 : Option SV) : E_3 [x0, x1, some (.dat (.lst ((names2 d1 d2).map D.str))), x3, x4, x5, x6] = eNx [x0, x1, some (.dat (.lst ((names2 d1 d2).map D.str))), x3, x4, x5, x6] := by
  have hl : lenD (.lst ((names2 d1 d2).map D.str)) = some (.int ((names2 d1 d2).length : Nat)) := by unfold lenD; dsimp only; rw [List.length_map]
  have lk : look (.lst ((names2 d1 d2).map D.str)) = M.pure (.lst ((names2 d1 d2).map D.str)) := rfl
  have h : ¬ ((2 : Int) < (names2 d1 d2).length) := by omega
  generalize D.lst ((names2 d1 d2).map D.str) = NL at hl lk ⊢
  unfold E_3
  simp (implicitDefEqProofs := false) [lk, hl, gtB, G_MOST_NAMES, h]
end VX.K09
set_option Elab.async false
set_option linter.all false
set_option maxRecDepth 100000
set_option maxHeartbeats 4000000
namespace VX.K09
open PySem PySem.Spec PyProof.Rows L2
/-! ### what laws ask of rows -/
theorem pl_long : Pl 1 longD := by
  intro d hd
  simp only [List.mem_cons, List.not_mem_nil, or_false] at hd
  rcases hd with rfl | rfl | rfl <;> exact pl_cs _ _
theorem pl_setO {o : Option (List Ce)} (h : ∀ cl, o = some cl → ∀ c ∈ cl, c.ok) : Pl 3 (setO o) := by
  cases o with
  | none => exact pl_long.mono (by omega)
  | some cl =>
    intro d hd
    simp only [List.mem_cons, List.not_mem_nil, or_false] at hd
    rcases hd with rfl | rfl
    · exact pl_cs _ _
    · intro d hd
      obtain ⟨c, hc, rfl⟩ := List.mem_map.mp hd
      exact pl_ce (settle_ok (h cl rfl c hc))
theorem pl_resO {o : Option (List Nat)} (h : ∀ cl, o = some cl → ∀ c ∈ cl, c ∈ lets) : Pl 1 (resO o) := by
  cases o with
  | none => exact pl_long
  | some cl =>
    intro d hd
    simp only [List.mem_cons, List.not_mem_nil, or_false] at hd
    rcases hd with rfl | rfl
    · exact pl_cs _ _
    · exact fun c hc => let_ok (h cl rfl c hc)
theorem resO_inj {x y : Option (List Nat)} (h : resO x = resO y) : x = y := by
  cases x with
  | none =>
    cases y with
    | none => rfl
    | some y => simp [resO, longD, madeD] at h
  | some x =>
    cases y with
    | none => simp [resO, longD, madeD] at h
    | some y =>
      simp only [resO, madeD, D.tup.injEq, List.cons.injEq, D.str.injEq, and_true, true_and] at h
      rw [h]
theorem map_enc_inj : ∀ {a b : List Ce}, a.map Ce.enc = b.map Ce.enc → a = b
  | [], [], _ => rfl
  | [], _ :: _, h => by simp at h
  | _ :: _, [], h => by simp at h
  | x :: a, y :: b, h => by
    simp only [List.map_cons, List.cons.injEq] at h
    rw [enc_inj h.1, map_enc_inj h.2]
theorem setO_iff {f : List Nat → List Ce} {d1 d2 : Dd} : setO (lc f d1) = setO (lc f d2) ↔ pc f d1 = pc f d2 := by
  unfold pc
  cases lc f d1 with
  | none =>
    cases lc f d2 with
    | none => simp
    | some y => simp [setO, longD]
  | some x =>
    cases lc f d2 with
    | none => simp [setO, longD]
    | some y =>
      simp only [setO, D.tup.injEq, List.cons.injEq, and_true, true_and, Option.map_some, Option.some.injEq]
      constructor
      · intro h
        exact map_enc_inj (by rw [List.map_map, List.map_map]; exact h)
      · intro h
        have := congrArg (List.map Ce.enc) h
        rw [List.map_map, List.map_map] at this
        exact this
section
variable {nl : List (List Nat)} {row : Lens} {d : Dd}
theorem conts_facts (hnl : nl.Nodup) (hr : row ∈ rowsL nl) {c : Conts} (ok : ContOk row c) : (c.map (·.1)).Nodup ∧ (∀ p ∈ c, Conts.of c p.1 = p.2) ∧ (∀ s ∈ nl, ∃ p ∈ c, p.1 = s) ∧ (∀ s ∈ nl, (Conts.of c s).length ≤ 40) ∧ (∀ s ∈ nl, ∀ x ∈ Conts.of c s, x ∈ lets) := by
  have hcl := conts_len ok.n ok.l
  have nd : (c.map (·.1)).Nodup := by rw [ok.n]; exact row_nd hnl hr
  have hmem : ∀ p ∈ c, Conts.of c p.1 = p.2 := fun p hp => by
    unfold Conts.of
    rw [lookup_mem nd hp]
    rfl
  have hex : ∀ s ∈ nl, ∃ p ∈ c, p.1 = s := fun s q => by
    rw [← (mem_rowsL.mp hr).1, ← ok.n] at q
    obtain ⟨p, hp, e⟩ := List.mem_map.mp q
    exact ⟨p, hp, e⟩
  refine ⟨nd, hmem, hex, fun s q => ?_, fun s q => ?_⟩
  · obtain ⟨p, _, _, e, l⟩ := row_of hnl hr q
    rw [hcl, e]
    exact l
  · obtain ⟨p, hp, rfl⟩ := hex s q
    rw [hmem p hp]
    exact ok.a p hp
theorem tried_row (h : Pd d) (hnl : nl.Nodup) (hr : row ∈ rowsL nl) (hs : ∀ s ∈ d.nm, s ∈ nl) {c : Conts} (ok : ContOk row c) (S : Sto) :
    ∃ S' nd, F_tried [enc d, .dct (c.map fun p => (KS.str p.1, madeD p.2))] S = some (.ok (.dat (.tup [.str (cs "done"), resO (tc (Conts.of c) d), nd])), S') ∧ Pl 1 (resO (tc (Conts.of c) d)) := by
  obtain ⟨nd, hmem, hex, h40, hlets⟩ := conts_facts hnl hr ok
  have hK : ∀ s ∈ d.nm, getDk (.dct (c.map fun p => (KS.str p.1, madeD p.2))) (.str s) = some (madeD (Conts.of c s)) ∧ (Conts.of c s).length ≤ 40 ∧ ∀ x ∈ Conts.of c s, x ∈ lets := fun s q => by
    refine ⟨?_, h40 s (hs s q), hlets s (hs s q)⟩
    obtain ⟨p, hp, rfl⟩ := hex s (hs s q)
    rw [getDk_map c (·.1) (fun p => madeD p.2) nd hp, hmem p hp]
  obtain ⟨S', nd2, ht⟩ := tried_enc S (c.map fun p => (KS.str p.1, madeD p.2)) (Conts.of c) d h.pl h.ok h.ht h.sz hK
  exact ⟨S', nd2, ht, pl_resO fun cl e => (tc_ok (Conts.of c) d h.ok (fun s q => (hK s q).2) cl e).2⟩
end
/-- a drawn deed is plain -/
theorem Drawn.pd {d : Dd} (h : Drawn d) : Pd d := ⟨h.pl, by have := h.ht; omega, h.ok, by have := h.sz; omega, h.two⟩
end VX.K09
set_option Elab.async false
set_option linter.all false
set_option maxRecDepth 100000
set_option maxHeartbeats 4000000
namespace VX.K09
open PySem PySem.Spec PyProof.Rows L2
/-! ### comprehensions that laws share -/
theorem conts_comp (i j n : Nat) (hij : i ≠ j) (hi : i < n) (hj : j < n) (c : Conts) (nd : (c.map (·.1)).Nodup) (hz : c.length ≤ 2) (env : Env) (le : env.length = n) :
    compL (gtup (gcons (gnam i) (gcons (gnam j) gnil))) yesT (tupE (consA (evar i) (consA (tupE (consA (ecst (.str (cs "made"))) (consA (evar j) nilA))) nilA))) (drp [i, j] env) (c.map fun p => D.tup [.str p.1, .str p.2]) = M.pure (c.map fun p => D.tup [.str p.1, madeD p.2]) ∧
    dictF (.lst (c.map fun p => D.tup [.str p.1, madeD p.2])) = some (.dct (c.map fun p => (KS.str p.1, madeD p.2))) ∧ (c.map fun p => D.tup [.str p.1, madeD p.2]).length ≤ sizeLine ∧ c.tup.items = some (c.map fun p => D.tup [.str p.1, .str p.2]) := by
  have two : (2 : Nat) ≤ sizeLine := small_le (by omega)
  refine ⟨?_, dictL_map c (·.1) (fun p => madeD p.2) nd, small_le (by rw [List.length_map]; omega), rfl⟩
  refine compL_of _ _ _ fun p hp => ⟨((drp [i, j] env).set i (some (.dat (.str p.1)))).set j (some (.dat (.str p.2))), rfl, rfl, ?_⟩
  have dl : (drp [i, j] env).length = n := by rw [drp_len]; exact le
  have h20 : (((drp [i, j] env).set i (some (.dat (.str p.1)))).set j (some (.dat (.str p.2))))[i]? = some (some (.dat (.str p.1))) := set_get (set_same dl hi) (fun e => hij e.symm)
  have h21 : (((drp [i, j] env).set i (some (.dat (.str p.1)))).set j (some (.dat (.str p.2))))[j]? = some (some (.dat (.str p.2))) := set_same (n := n) (by rw [List.length_set]; exact dl) hj
  generalize ((drp [i, j] env).set i (some (.dat (.str p.1)))).set j (some (.dat (.str p.2))) = env1 at h20 h21 ⊢
  simp (implicitDefEqProofs := false) [h20, h21, two, madeD]
theorem numI_ns (nm : List (List Nat)) : numI (nm.map D.str) = ((List.range nm.length).zip nm).map fun p => D.tup [.int (p.1 : Nat), .str p.2] := by
  unfold numI
  rw [List.length_map, List.zipWith_map_right, List.zip, List.map_zipWith]
/-- a row of lengths of names, by places -/
def rowF (h : Nat → Nat) (nm : List (List Nat)) : Lens := ((List.range nm.length).zip nm).map fun p => (p.2, h p.1)
theorem rowF_n (h : Nat → Nat) (nm : List (List Nat)) : (rowF h nm).map (·.1) = nm := by
  unfold rowF
  rw [List.map_map]
  show ((List.range nm.length).zip nm).map (fun p => p.2) = nm
  exact List.map_snd_zip (by simp)
theorem rowF_le {h : Nat → Nat} {nm : List (List Nat)} (hh : ∀ j, h j ≤ 40) : ∀ p ∈ rowF h nm, p.2 ≤ 40 := fun p hp => by
  obtain ⟨q, _, rfl⟩ := List.mem_map.mp hp
  exact hh q.1
theorem lens_comp (i j n : Nat) (hij : i ≠ j) (hi : i < n) (hj : j < n) (h : Nat → Nat) (nm : List (List Nat)) (h2 : nm.length ≤ 2) (env : Env) (le : env.length = n) (ge : Env → M D)
    (hge : ∀ (k : Nat) (s : List Nat), k < nm.length → ∀ env1 : Env, env1[i]? = some (some (.dat (.int (k : Nat)))) → env1[j]? = some (some (.dat (.str s))) → (∀ m, m ≠ i → m ≠ j → env1[m]? = env[m]?) → ge env1 = M.pure (.tup [.str s, .int (h k : Nat)])) :
    compL (gtup (gcons (gnam i) (gcons (gnam j) gnil))) yesT ge (drp [i, j] env) (((List.range nm.length).zip nm).map fun p => D.tup [.int (p.1 : Nat), .str p.2]) = M.pure (((List.range nm.length).zip nm).map fun p => D.tup [.str p.2, .int (h p.1 : Nat)]) ∧
    enuI (.lst (nm.map D.str)) = some (((List.range nm.length).zip nm).map fun p => D.tup [.int (p.1 : Nat), .str p.2]) ∧ (((List.range nm.length).zip nm).map fun p => D.tup [.str p.2, .int (h p.1 : Nat)]).length ≤ sizeLine ∧
    (rowF h nm).tup = .tup (((List.range nm.length).zip nm).map fun p => D.tup [.str p.2, .int (h p.1 : Nat)]) := by
  have dl : (drp [i, j] env).length = n := by rw [drp_len]; exact le
  refine ⟨?_, ?_, small_le (by rw [List.length_map, List.length_zip, List.length_range]; omega), ?_⟩
  · refine compL_of _ _ _ fun p hp => ⟨((drp [i, j] env).set i (some (.dat (.int (p.1 : Nat))))).set j (some (.dat (.str p.2))), rfl, rfl, ?_⟩
    refine hge p.1 p.2 (List.mem_range.mp (List.of_mem_zip hp).1) _ (set_get (set_same dl hi) (fun e => hij e.symm)) (set_same (n := n) (by rw [List.length_set]; exact dl) hj) fun m h1 h2 => ?_
    rw [List.getElem?_set_ne (fun e => h2 e.symm), List.getElem?_set_ne (fun e => h1 e.symm), drp_get _ _ _ (by simp [h1, h2])]
  · rw [← numI_ns]
    rfl
  · unfold Lens.tup rowF
    rw [List.map_map]
    rfl
end VX.K09
set_option Elab.async false
set_option linter.all false
set_option maxRecDepth 100000
set_option maxHeartbeats 4000000
namespace VX.K09
open PySem PySem.Spec PyProof.Rows L2
/-! ### bare deeds -/
def bare : Dd → Dd
  | .text s => .head s.length (.need (cs "a"))
  | .need n => .need n
  | .join a b => .join (bare a) (bare b)
  | .head k a => .head k (bare a)
  | .back a => .back (bare a)
  | .swap _ _ a => bare a
  | d => d
def isBare : Dd → Prop
  | .need _ => True
  | .join a b => isBare a ∧ isBare b
  | .head _ a => isBare a
  | .back a => isBare a
  | _ => False
theorem isBare_bare : ∀ (d : Dd), d.plain → isBare (bare d) := by
  intro d
  induction d with
  | text s => intro _; trivial
  | need n => intro _; trivial
  | join a b ia ib => intro h; exact ⟨ia h.1, ib h.2⟩
  | head k a ia => intro h; exact ia h
  | back a ia => intro h; exact ia h
  | swap x y a ia => intro h; exact ia h
  | named a _ => intro h; cases h
  | sort a _ => intro h; cases h
  | same a b c d _ _ _ _ => intro h; cases h
theorem bare_plain : ∀ (d : Dd), d.plain → (bare d).plain := by
  intro d
  induction d with
  | text s => intro _; trivial
  | need n => intro _; trivial
  | join a b ia ib => intro h; exact ⟨ia h.1, ib h.2⟩
  | head k a ia => intro h; exact ia h
  | back a ia => intro h; exact ia h
  | swap x y a ia => intro h; exact ia h
  | named a _ => intro h; cases h
  | sort a _ => intro h; cases h
  | same a b c d _ _ _ _ => intro h; cases h
theorem bare_ok : ∀ (d : Dd), d.plain → d.okP → (bare d).okP ∧ (bare d).ht ≤ d.ht + 1 ∧ (bare d).size ≤ 2 * d.size := by
  intro d
  induction d with
  | text s =>
    intro _ ok
    have ok : okLet s 0 40 = true := ok
    exact ⟨⟨by have := okLet_len ok; omega, (by decide : okLet (cs "a") 1 8 = true)⟩, by simp [bare, Dd.ht], by simp [bare, Dd.size]⟩
  | need n => intro _ ok; exact ⟨ok, by simp [bare], by simp [bare, Dd.size]⟩
  | join a b ia ib =>
    intro h ok
    obtain ⟨a1, a2, a3⟩ := ia h.1 ok.1
    obtain ⟨b1, b2, b3⟩ := ib h.2 ok.2
    exact ⟨⟨a1, b1⟩, by simp only [bare, Dd.ht]; omega, by simp only [bare, Dd.size]; omega⟩
  | head k a ia =>
    intro h ok
    obtain ⟨a1, a2, a3⟩ := ia h ok.2
    exact ⟨⟨ok.1, a1⟩, by simp only [bare, Dd.ht]; omega, by simp only [bare, Dd.size]; omega⟩
  | back a ia =>
    intro h ok
    obtain ⟨a1, a2, a3⟩ := ia h ok
    exact ⟨a1, by simp only [bare, Dd.ht]; omega, by simp only [bare, Dd.size]; omega⟩
  | swap x y a ia =>
    intro h ok
    obtain ⟨a1, a2, a3⟩ := ia h ok.2
    exact ⟨a1, by simp only [bare, Dd.ht]; omega, by simp only [bare, Dd.size]; omega⟩
  | named a _ => intro h; cases h
  | sort a _ => intro h; cases h
  | same a b c d _ _ _ _ => intro h; cases h
theorem bare_nm : ∀ (d : Dd), d.plain → ∀ s ∈ (bare d).nm, s ∈ d.nm ∨ s = cs "a" := by
  intro d
  induction d with
  | text s => intro _ x hx; simp only [bare, Dd.nm, mem_canon, List.mem_cons, List.not_mem_nil, or_false] at hx; exact .inr hx
  | need n => intro _ x hx; exact .inl hx
  | join a b ia ib =>
    intro h x hx
    simp only [bare, Dd.nm, mem_canon, List.mem_append] at hx ⊢
    rcases hx with hx | hx
    · exact (ia h.1 x hx).elim (fun q => .inl (.inl q)) .inr
    · exact (ib h.2 x hx).elim (fun q => .inl (.inr q)) .inr
  | head k a ia =>
    intro h x hx
    simp only [bare, Dd.nm, mem_canon] at hx ⊢
    exact ia h x hx
  | back a ia =>
    intro h x hx
    simp only [bare, Dd.nm, mem_canon] at hx ⊢
    exact ia h x hx
  | swap p q a ia =>
    intro h x hx
    simp only [bare, Dd.nm, mem_canon] at hx ⊢
    exact ia h x hx
  | named a _ => intro h; cases h
  | sort a _ => intro h; cases h
  | same a b c d _ _ _ _ => intro h; cases h
theorem bare_enc : ∀ (n : Nat) (d : Dd), d.ht < n → d.plain → d.okP → ∃ sv, R__law_bare n 0 [enc d] = M.pure sv ∧ sv.d = enc (bare d)
  | 0, _, h, _, _ => by omega
  | n + 1, d, h, pl, ok => by
    have two : (2 : Nat) ≤ sizeLine := small_le (by omega)
    have three : (3 : Nat) ≤ sizeLine := small_le (by omega)
    unfold R__law_bare
    rw [fnB_eq]
    unfold h__law_bare
    cases d with
    | text s =>
      have okl : okLet s 0 40 = true := ok
      have hl : s.length ≤ sizeLine := small_le (by have := okLet_len okl; omega)
      refine ⟨.dat (enc (bare (.text s))), ?_, rfl⟩
      simp (implicitDefEqProofs := false) [List.replicate, enc, bare, two, three, lenD, hl]
    | need s =>
      refine ⟨.dat (enc (.need s)), ?_, rfl⟩
      simp (implicitDefEqProofs := false) [List.replicate, enc]
    | join a b =>
      have ht := ht_parts (d := .join a b) (e := a) (by simp [Dd.parts])
      have ht2 := ht_parts (d := .join a b) (e := b) (by simp [Dd.parts])
      obtain ⟨s1, r1, e1⟩ := bare_enc n a (by omega) pl.1 ok.1
      obtain ⟨s2, r2, e2⟩ := bare_enc n b (by omega) pl.2 ok.2
      refine ⟨.dat (enc (bare (.join a b))), ?_, rfl⟩
      simp (implicitDefEqProofs := false) [List.replicate, enc, bare, D.items, compL, drp, w_tup, look_enc, r1, r2, e1, e2, three, tupD, D.asB]
    | head k a =>
      have ht := ht_parts (d := .head k a) (e := a) (by simp [Dd.parts])
      obtain ⟨s1, r1, e1⟩ := bare_enc n a (by omega) pl ok.2
      refine ⟨.dat (enc (bare (.head k a))), ?_, rfl⟩
      simp (implicitDefEqProofs := false) [List.replicate, enc, bare, D.items, compL, drp, w_tup, look_enc, r1, e1, three, tupD, D.asB]
    | back a =>
      have ht := ht_parts (d := .back a) (e := a) (by simp [Dd.parts])
      obtain ⟨s1, r1, e1⟩ := bare_enc n a (by omega) pl ok
      refine ⟨.dat (enc (bare (.back a))), ?_, rfl⟩
      simp (implicitDefEqProofs := false) [List.replicate, enc, bare, D.items, compL, drp, w_tup, look_enc, r1, e1, two, tupD, D.asB]
    | swap x y a =>
      have ht := ht_parts (d := .swap x y a) (e := a) (by simp [Dd.parts])
      obtain ⟨s1, r1, e1⟩ := bare_enc n a (by omega) pl ok.2
      refine ⟨s1, ?_, e1⟩
      simp (implicitDefEqProofs := false) [List.replicate, enc, r1]
    | named a => cases pl
    | sort a => cases pl
    | same a b c d => cases pl
theorem idxE_eq (go ge : Env → M D) (env : Env) : idxE go ge env = M.bind (go env) fun d => M.bind (M.opt (isStr d)) fun _ => M.bind (ge env) fun k => M.opt (idxD d k) := rfl
/-! letters turned -/
def trn (k x : Nat) : Nat := lets.getD ((pos x + k) % 26) 0
theorem trn_let (k x : Nat) : trn k x ∈ lets := by
  have h : (pos x + k) % 26 < 26 := Nat.mod_lt _ (by omega)
  unfold trn
  generalize (pos x + k) % 26 = p at h
  rw [List.getD_eq_getElem?_getD, List.getElem?_eq_getElem (by rw [lets_len]; exact h)]
  exact List.getElem_mem _
theorem trn_ne {x : Nat} (h : x ∈ lets) : trn 1 x ≠ x := by
  have key : ∀ i : Fin 26, lets.getD ((i.val + 1) % 26) 0 ≠ lets.getD i.val 0 := by decide +kernel
  have := key ⟨pos x, pos_lt h⟩
  intro e
  apply this
  rw [pos_get h]
  exact e
theorem turned_enc (c : List Nat) (k : Nat) (hc : c.length ≤ 1000) (hm : ∀ x ∈ c, x ∈ lets) : F__law_turned [.str c, .int (k : Nat)] = pv (.str (c.map (trn k))) := by
  have hl : c.length ≤ sizeLine := small_le (by omega)
  have hcc : compL (gnam 3) yesT (op2 ixD (evar 2) (op2 modD (frz (op2F addF (idxE (evar 2) (evar 3)) (evar 1))) (ecst (.int 26)))) [some (.dat (.str c)), some (.dat (.int (k : Nat))), some (.dat (.str lets)), none] (c.map fun x => D.str [x]) = M.pure (c.map fun x => D.str [trn k x]) := by
    refine compL_of _ _ _ fun x hx => ⟨[some (.dat (.str c)), some (.dat (.int (k : Nat))), some (.dat (.str lets)), some (.dat (.str [x]))], rfl, rfl, ?_⟩
    have i2 := idx_lets (hm x hx)
    have hmod : modD (.int ((pos x : Nat) + (k : Nat))) (.int 26) = some (.int (((pos x + k) % 26 : Nat))) := by
      unfold modD intOp
      simp
    have h26 : (pos x + k) % 26 < 26 := Nat.mod_lt _ (by omega)
    have i3 : ixD (.str lets) (.int (((pos x + k) % 26 : Nat))) = some (.str [trn k x]) := ix_str (by rw [lets_len]; omega) (by
      unfold trn
      generalize (pos x + k) % 26 = p at h26
      rw [List.getD_eq_getElem?_getD, List.getElem?_eq_getElem (by rw [lets_len]; exact h26)]
      rfl)
    have hs : isStr (.str lets) = some () := rfl
    generalize trn k x = tx at i3 ⊢
    have lkp : ∀ z : Int, look (.int z) = M.pure (.int z) := fun _ => rfl
    generalize (((pos x + k) % 26 : Nat) : Int) = pp at hmod i3
    generalize (pos x : Int) = q at i2 hmod
    generalize hL : D.str lets = LD at i2 i3 hs ⊢
    have lkL : look LD = M.pure LD := by rw [← hL]; rfl
    simp (implicitDefEqProofs := false) [idxE_eq, lkL, hs, i2, addF, hmod, i3]
  have hj := join_map c (trn k) hc
  unfold F__law_turned g__law_turned
  rw [fnB_eq]
  have he : cs "abcdefghijklmnopqrstuvwxyz" = lets := rfl
  have hlen : (c.map fun x => D.str [trn k x]).length ≤ sizeLine := by rw [List.length_map]; exact hl
  have hit : (D.str c).items = some (c.map fun x => D.str [x]) := by
    unfold D.items
    simp [hl]
  generalize (c.map fun x => D.str [trn k x]) = OUT at hcc hj hlen
  generalize (c.map fun x => D.str [x]) = IN at hcc hit
  generalize c.map (trn k) = R at hj ⊢
  simp (implicitDefEqProofs := false) [List.replicate, he, hit, drp, hcc, hlen, hj]
/-- bare deeds go along with letters turned -/
theorem tc_turn (t : Nat → Nat) (g : List Nat → List Nat) : ∀ d, isBare d → tc (fun s => (g s).map t) d = (tc g d).map (·.map t) := by
  intro d
  induction d with
  | need n => intro _; rfl
  | join a b ia ib =>
    intro h
    unfold tc
    rw [ia h.1, ib h.2]
    cases tc g a with
    | none => rfl
    | some x =>
      cases tc g b with
      | none => rfl
      | some y =>
        simp only [Option.map_some, List.length_map]
        split <;> simp
  | head k a ia =>
    intro h
    unfold tc
    rw [ia h]
    cases tc g a <;> simp
  | back a ia =>
    intro h
    unfold tc
    rw [ia h]
    cases tc g a <;> simp
  | text s => intro h; cases h
  | swap x y a _ => intro h; cases h
  | named a _ => intro h; cases h
  | sort a _ => intro h; cases h
  | same a b c d _ _ _ _ => intro h; cases h
/-- their cells are as they were -/
theorem lc_bare (f : List Nat → Nat) : ∀ d, isBare d → ∀ l, lc (fun s => fresh s (f s)) d = some l → ∀ c ∈ l, ∃ n k, c = .at_ n k lets := by
  intro d
  induction d with
  | need n =>
    intro _ l h c hc
    cases h
    obtain ⟨k, _, rfl⟩ := List.mem_map.mp hc
    exact ⟨n, k, rfl⟩
  | join a b ia ib =>
    intro h l hl c hc
    unfold lc at hl
    cases e1 : lc (fun s => fresh s (f s)) a with
    | none => rw [e1] at hl; cases hl
    | some x =>
      cases e2 : lc (fun s => fresh s (f s)) b with
      | none => rw [e1, e2] at hl; cases hl
      | some y =>
        rw [e1, e2] at hl
        dsimp only at hl
        split at hl
        · cases hl
          rcases List.mem_append.mp hc with q | q
          · exact ia h.1 x e1 c q
          · exact ib h.2 y e2 c q
        · cases hl
  | head k a ia =>
    intro h l hl c hc
    unfold lc at hl
    obtain ⟨x, e1, rfl⟩ := Option.map_eq_some_iff.mp hl
    exact ia h x e1 c (List.mem_of_mem_take hc)
  | back a ia =>
    intro h l hl c hc
    unfold lc at hl
    obtain ⟨x, e1, rfl⟩ := Option.map_eq_some_iff.mp hl
    exact ia h x e1 c (List.mem_reverse.mp hc)
  | text s => intro h; cases h
  | swap x y a _ => intro h; cases h
  | named a _ => intro h; cases h
  | sort a _ => intro h; cases h
  | same a b c d _ _ _ _ => intro h; cases h
theorem settle_lets (n : List Nat) (k : Nat) : (Ce.at_ n k lets).settle = .at_ n k lets := by
  have : lets = 97 :: lets.tail := by decide
  rw [this, settle_at, if_neg (by decide)]
end VX.K09
set_option Elab.async false
set_option linter.all false
set_option maxRecDepth 100000
set_option maxHeartbeats 4000000
namespace VX.K09
open PySem PySem.Spec PyProof.Rows L2
def P_0 : Env → SM := (sAsg 1 (frz (callF F__law_draws (consA (evar 0) (consA (ecst (.int 300)) nilA)))))
def P_1b_0 : Env → SM := (sAsg 3 (frz (callF F__law_deed (consA (frz (slE (evar 1) (partE (some (frz (op2F mulF (ecst (.int 40)) (evar 2))))) (partE none))) (consA (frz (slE (tupE (consA (ecst (.str (cs "a"))) (consA (ecst (.str (cs "b"))) nilA))) (partE none) (partE (some (frz (op2F addF (ecst (.int 1)) (op2 modD (evar 2) (ecst (.int 2))))))))) (consA (ecst (.int 3)) nilA))))))
def P_1b_1 : Env → SM := (sAsg 4 (frz (callF F__law_needs (consA (evar 3) nilA))))
def P_1b_2 : Env → SM := (sAsg 5 (op1 tupD (frz (lcF [23, 17] (enuE (evar 4)) (gtup (gcons (gnam 23) (gcons (gnam 17) gnil))) yesT (tupE (consA (evar 17) (consA (op2 modD (op1 intD (op2 ixD (evar 1) (frz (op2F addF (frz (op2F addF (ecst (.int 240)) (evar 2))) (frz (op2F mulF (ecst (.int 3)) (evar 23))))))) (ecst (.int 14))) nilA)))))))
def P_1b_3 : Env → SM := (sAsg 6 (frz (callF F_cells_of (consA (evar 3) (consA (evar 5) nilA)))))
def P_1b_4 : Env → SM := (sAsgF 7 (lstE nilA))
def P_1b_5b_0 : Env → SM := (sAsg 9 (frz (callF F__law_contents (consA (frz (slE (evar 1) (partE (some (frz (op2F addF (frz (op2F addF (ecst (.int 200)) (frz (op2F mulF (ecst (.int 9)) (evar 8))))) (evar 2))))) (partE none))) (consA (evar 5) nilA)))))
def P_1b_5b_1 : Env → SM := (sAsg 10 (frz (op1F dictF (frz (lcF [17, 18] (itm (evar 9)) (gtup (gcons (gnam 17) (gcons (gnam 18) gnil))) yesT (tupE (consA (evar 17) (consA (tupE (consA (ecst (.str (cs "made"))) (consA (evar 18) nilA))) nilA))))))))
def P_1b_5b_2 : Env → SM := (sApp 7 (op2 ixD (frz (callF F_tried (consA (evar 3) (consA (evar 10) nilA)))) (ecst (.int 1))))
def P_1b_5b : Env → SM := sSeq P_1b_5b_0 (sSeq P_1b_5b_1 P_1b_5b_2)
def P_1b_5 : Env → SM := (sFor (rngE (ecst (.int 4))) (gnam 8) P_1b_5b)
def P_1b_6f_0 : Env → SM := (sIf (orT (andT (op2B eqB (op2 ixD (evar 6) (ecst (.int 0))) (ecst (.str (cs "made")))) (valT (op1 anyD (frz (lcF [14] (itm (evar 7)) (gnam 14) yesT (orV (cmpE neB (op2 ixD (evar 14) (ecst (.int 0))) (ecst (.str (cs "made")))) (cmpE neB (op1 lenD (op2 ixD (evar 14) (ecst (.int 1)))) (op1 lenD (op2 ixD (evar 6) (ecst (.int 1))))))))))) (andT (op2B eqB (op2 ixD (evar 6) (ecst (.int 0))) (ecst (.str (cs "fault")))) (valT (op1 anyD (frz (lcF [14] (itm (evar 7)) (gnam 14) yesT (cmpE neB (evar 14) (evar 6)))))))) (sRet (ecst (.bl false))) sNx)
def P_1b_6f_1 : Env → SM := (sAsg 11 (frz (callF F__law_bare (consA (evar 3) nilA))))
def P_1b_6f_2 : Env → SM := (sAsg 12 (frz (callF F__law_needs (consA (evar 11) nilA))))
def P_1b_6f_3 : Env → SM := (sAsg 5 (op1 tupD (frz (lcF [23, 17] (enuE (evar 12)) (gtup (gcons (gnam 23) (gcons (gnam 17) gnil))) yesT (tupE (consA (evar 17) (consA (op2 modD (op1 intD (op2 ixD (evar 1) (frz (op2F addF (frz (op2F addF (ecst (.int 240)) (evar 2))) (frz (op2F mulF (ecst (.int 5)) (evar 23))))))) (ecst (.int 12))) nilA)))))))
def P_1b_6f_4 : Env → SM := (sAsg 9 (frz (callF F__law_contents (consA (frz (slE (evar 1) (partE (some (frz (op2F addF (ecst (.int 200)) (evar 2))))) (partE none))) (consA (evar 5) nilA)))))
def P_1b_6f_5 : Env → SM := (sAsg 13 (frz (op2F addF (ecst (.int 1)) (op2 modD (op1 intD (op2 ixD (evar 1) (frz (op2F addF (ecst (.int 260)) (evar 2))))) (ecst (.int 25))))))
def P_1b_6f_6 : Env → SM := (sAsg 14 (op2 ixD (frz (callF F_tried (consA (evar 11) (consA (frz (op1F dictF (frz (lcF [17, 18] (itm (evar 9)) (gtup (gcons (gnam 17) (gcons (gnam 18) gnil))) yesT (tupE (consA (evar 17) (consA (tupE (consA (ecst (.str (cs "made"))) (consA (evar 18) nilA))) nilA))))))) nilA)))) (ecst (.int 1))))
def P_1b_6f_7 : Env → SM := (sAsg 15 (op2 ixD (frz (callF F_tried (consA (evar 11) (consA (frz (op1F dictF (frz (lcF [17, 18] (itm (evar 9)) (gtup (gcons (gnam 17) (gcons (gnam 18) gnil))) yesT (tupE (consA (evar 17) (consA (tupE (consA (ecst (.str (cs "made"))) (consA (frz (callF F__law_turned (consA (evar 18) (consA (evar 13) nilA)))) nilA))) nilA))))))) nilA)))) (ecst (.int 1))))
def P_1b_6f_8 : Env → SM := (sIf (orT (andT (op2B eqB (op2 ixD (evar 14) (ecst (.int 0))) (ecst (.str (cs "made")))) (op2B neB (evar 15) (tupE (consA (ecst (.str (cs "made"))) (consA (frz (callF F__law_turned (consA (op2 ixD (evar 14) (ecst (.int 1))) (consA (evar 13) nilA)))) nilA))))) (andT (op2B neB (op2 ixD (evar 14) (ecst (.int 0))) (ecst (.str (cs "made")))) (op2B neB (evar 15) (evar 14)))) (sRet (ecst (.bl false))) sNx)
def P_1b_6f_9 : Env → SM := (sAsg 16 (frz (callF F_cells_of (consA (evar 11) (consA (evar 5) nilA)))))
def P_1b_6f_10t_0b_0b_0 : Env → SM := (sAsg 20 (frz (op1F dictF (frz (lcF [24, 25] (itm (evar 9)) (gtup (gcons (gnam 24) (gcons (gnam 25) gnil))) yesT (tupE (consA (evar 24) (consA (tupE (consA (ecst (.str (cs "made"))) (consA (iteE (op2B eqB (evar 24) (evar 17)) (frz (op2F addF (frz (op2F addF (frz (slE (evar 25) (partE none) (partE (some (evar 19))))) (frz (callF F__law_turned (consA (op2 ixD (evar 25) (evar 19)) (consA (ecst (.int 1)) nilA)))))) (frz (slE (evar 25) (partE (some (frz (op2F addF (evar 19) (ecst (.int 1)))))) (partE none))))) (evar 25)) nilA))) nilA))))))))
def P_1b_6f_10t_0b_0b_1 : Env → SM := (sAsg 21 (op2 ixD (frz (callF F_tried (consA (evar 11) (consA (evar 20) nilA)))) (ecst (.int 1))))
def P_1b_6f_10t_0b_0b_2 : Env → SM := (sAsg 22 (frz (lcF [8] (rngE (op1 lenD (op2 ixD (evar 14) (ecst (.int 1))))) (gnam 8) (op2B neB (op2 ixD (op2 ixD (evar 21) (ecst (.int 1))) (evar 8)) (op2 ixD (op2 ixD (evar 14) (ecst (.int 1))) (evar 8))) (evar 8))))
def P_1b_6f_10t_0b_0b_3 : Env → SM := (sIf (op2B neB (evar 22) (frz (lcF [8] (rngE (op1 lenD (op2 ixD (evar 16) (ecst (.int 1))))) (gnam 8) (op2B eqB (frz (slE (op2 ixD (op2 ixD (evar 16) (ecst (.int 1))) (evar 8)) (partE none) (partE (some (ecst (.int 3)))))) (tupE (consA (ecst (.str (cs "at"))) (consA (evar 17) (consA (evar 19) nilA))))) (evar 8)))) (sRet (ecst (.bl false))) sNx)
def P_1b_6f_10t_0b_0b : Env → SM := sSeq P_1b_6f_10t_0b_0b_0 (sSeq P_1b_6f_10t_0b_0b_1 (sSeq P_1b_6f_10t_0b_0b_2 P_1b_6f_10t_0b_0b_3))
def P_1b_6f_10t_0b : Env → SM := (sFor (rngE (op2 minD (ecst (.int 3)) (op1 lenD (evar 18)))) (gnam 19) P_1b_6f_10t_0b_0b)
def P_1b_6f_10t : Env → SM := (sFor (itm (evar 9)) (gtup (gcons (gnam 17) (gcons (gnam 18) gnil))) P_1b_6f_10t_0b)
def P_1b_6f_10 : Env → SM := (sIf (op2B eqB (op2 ixD (evar 16) (ecst (.int 0))) (ecst (.str (cs "made")))) P_1b_6f_10t sNx)
def P_1b_6f : Env → SM := sSeq P_1b_6f_0 (sSeq P_1b_6f_1 (sSeq P_1b_6f_2 (sSeq P_1b_6f_3 (sSeq P_1b_6f_4 (sSeq P_1b_6f_5 (sSeq P_1b_6f_6 (sSeq P_1b_6f_7 (sSeq P_1b_6f_8 (sSeq P_1b_6f_9 P_1b_6f_10)))))))))
def P_1b_6 : Env → SM := (sFrz 7 P_1b_6f)
def P_1b : Env → SM := sSeq P_1b_0 (sSeq P_1b_1 (sSeq P_1b_2 (sSeq P_1b_3 (sSeq P_1b_4 (sSeq P_1b_5 P_1b_6)))))
def P_1 : Env → SM := (sFor (rngE (ecst (.int 6))) (gnam 2) P_1b)
def P_2 : Env → SM := (sRet (ecst (.bl true)))
def P : Env → SM := sSeq P_0 (sSeq P_1 P_2)
theorem P_eq : g_law = P := rfl
/-! ### the law's turn, first half -/
theorem see_tup (S : Sto) (xs : List D) : Sto.see S (.tup xs) = .tup xs := rfl
theorem anyD_map {β : Type} (l : List β) (f : β → Bool) : anyD (.lst (l.map fun b => D.bl (f b))) = some (.bl (l.any f)) := by
  have : (l.map fun b => D.bl (f b)) = (l.map f).map D.bl := by simp
  unfold anyD
  rw [this]
  dsimp only
  rw [bools_map]
  show some (D.bl ((l.map f).any id)) = _
  rw [List.any_map]
  rfl
structure T0 (ds : List Int) (env : Env) : Prop where
  le : env.length = 26
  e1 : env[1]? = some (some (.dat (DS ds)))
structure B (ds : List Int) (t : Nat) (d : Dd) (env : Env) : Prop where
  le : env.length = 26
  e1 : env[1]? = some (some (.dat (DS ds)))
  e2 : env[2]? = some (some (.dat (.int (t : Nat))))
  e3 : env[3]? = some (some (.dat (enc d)))
theorem B.set {ds : List Int} {t : Nat} {d : Dd} {env : Env} (h : B ds t d env) (i : Nat) (o : Option SV) (hi : 3 < i) : B ds t d (env.set i o) :=
  ⟨by rw [List.length_set]; exact h.le, set_get h.e1 (by omega), set_get h.e2 (by omega), set_get h.e3 (by omega)⟩
theorem pd_needs {d : Dd} (h : Pd d) (hh : d.ht ≤ 5) : F__law_needs [enc d] = M.pure (.lst (d.nm.map D.str)) := law_needs_enc 12 d (by omega) (by have := h.sz; omega)
abbrev cellsO (row : Lens) (d : Dd) : Option (List Ce) := lc (fun s => fresh s (Lens.of row s)) d
theorem cells_of_row {d : Dd} (h : Pd d) {row : Lens} (hr : row ∈ rowsL d.nm) (S : Sto) : ∃ S', F_cells_of [enc d, row.tup] S = some (.ok (.dat (setO (cellsO row d))), S') := by
  have hrow := mem_rowsL.mp hr
  have nd := row_nd (nm_nodup d) hr
  exact cells_of_enc S d row h.pl h.ok h.ht (by have := h.sz; omega) h.fault_enc hrow.1 (nm_nodup d) hrow.2 h.okn (asc_pw (nm_pw d)) (Lens.of row) (fun p hp => of_mem nd hp)
/-- lengths drawn -/
def lenH (ds : List Int) (t m N : Nat) (j : Nat) : Nat := (ds.getD (240 + t + m * j) 0 % (N : Int)).toNat
section
variable {ds : List Int} (hl : ds.length = 300) (hg : ∀ j ∈ ds, gd j)
include hg in
theorem lenH_le (t m N : Nat) (hM : 0 < N) (h41 : N ≤ 41) (j : Nat) : lenH ds t m N j ≤ 40 := by
  unfold lenH
  have h1 : ds.getD (240 + t + m * j) 0 % (N : Int) < N := Int.emod_lt_of_pos _ (by omega)
  omega
include hl hg in
theorem lens_val (t m N : Nat) (hM : 0 < N) (hm5 : m ≤ 5) (ht : t < 6) (i j : Nat) (nm : List (List Nat)) (h2 : nm.length ≤ 2) (env : Env) (e1 : env[1]? = some (some (.dat (DS ds)))) (e2 : env[2]? = some (some (.dat (.int (t : Nat))))) (hi1 : i ≠ 1) (hi2 : i ≠ 2) (hj1 : j ≠ 1) (hj2 : j ≠ 2) :
    ∀ (k : Nat) (s : List Nat), k < nm.length → ∀ env1 : Env, env1[i]? = some (some (.dat (.int (k : Nat)))) → env1[j]? = some (some (.dat (.str s))) → (∀ m, m ≠ i → m ≠ j → env1[m]? = env[m]?) →
      (tupE (consA (evar j) (consA (op2 modD (op1 intD (op2 ixD (evar 1) (frz (op2F addF (frz (op2F addF (ecst (.int 240)) (evar 2))) (frz (op2F mulF (ecst (.int (m : Nat))) (evar i))))))) (ecst (.int (N : Nat)))) nilA))) env1 = M.pure (.tup [.str s, .int (lenH ds t m N k : Nat)]) := by
  intro k s hk env1 f1 f2 fo
  have g1 : env1[1]? = some (some (.dat (DS ds))) := by rw [fo 1 hi1.symm hj1.symm]; exact e1
  have g2 : env1[2]? = some (some (.dat (.int (t : Nat)))) := by rw [fo 2 hi2.symm hj2.symm]; exact e2
  have two : (2 : Nat) ≤ sizeLine := small_le (by omega)
  have hmul : mulF (.int (m : Nat)) (.int (k : Nat)) = some (.dat (.int (m * k : Nat))) := by
    rw [mulI' _ _ (by omega)]
    congr 3
  have hmk : m * k ≤ 5 := by
    have : m * k ≤ 5 * 1 := Nat.mul_le_mul hm5 (by omega)
    omega
  have i1 := ix_DS (ds := ds) (i := 240 + (t : Int) + ((m * k : Nat) : Int)) (by omega) (by omega)
  have n1 : (240 + (t : Int) + ((m * k : Nat) : Int)).toNat = 240 + t + m * k := by omega
  rw [n1] at i1
  have hv : ds.getD (240 + t + m * k) 0 % (N : Int) = (lenH ds t m N k : Nat) := by
    unfold lenH
    have := Int.emod_nonneg (ds.getD (240 + t + m * k) 0) (show (N : Int) ≠ 0 by omega)
    omega
  have hmod : modD (.int (ds.getD (240 + t + m * k) 0)) (.int (N : Nat)) = some (.int (lenH ds t m N k : Nat)) := by
    unfold modD intOp
    simp only [hv]
    rw [if_pos (by rw [decide_eq_true_eq]; omega)]
  generalize ds.getD (240 + t + m * k) 0 = a at i1 hmod
  generalize ((m * k : Nat) : Int) = mk at hmul i1
  simp (implicitDefEqProofs := false) [f1, f2, g1, g2, addF, hmul, i1, intD, hmod, two]
-- contents drawn
include hl hg in
theorem conts_drawn (k : Nat) (hk : k < 300) {row : Lens} (hrl : row.length ≤ 2) (hle : ∀ p ∈ row, p.2 ≤ 40) : ∃ c : Conts, slF (DS ds) (some (k : Int)) none = some (.lst ((ds.drop k).map D.int)) ∧ F__law_contents [.lst ((ds.drop k).map D.int), row.tup] = pv c.tup ∧ ContOk row c := by
  have hlen : (ds.drop k).length = 300 - k := by rw [List.length_drop, hl]
  obtain ⟨c, hc, ok⟩ := contents_enc (ds.drop k) row (fun e => by rw [e] at hlen; simp at hlen; omega) (fun x hx => hg x (List.mem_of_mem_drop hx)) (by omega) hle
  exact ⟨c, cut_DS k (by omega), hc, ok⟩
end
theorem conts_sz {d : Dd} (h : Pd d) {row : Lens} (hr : row ∈ rowsL d.nm) {c : Conts} (ok : ContOk row c) : (c.map (·.1)).Nodup ∧ c.length ≤ 2 ∧ row.length ≤ 2 := by
  have hrow := mem_rowsL.mp hr
  have h1 := congrArg List.length ok.n
  have h2 := congrArg List.length hrow.1
  have := h.two
  simp only [List.length_map] at h1 h2
  exact ⟨by rw [ok.n]; exact row_nd (nm_nodup d) hr, by omega, by omega⟩
theorem tc_len {d : Dd} (h : Pd d) {row : Lens} (hr : row ∈ rowsL d.nm) {c : Conts} (ok : ContOk row c) : (tc (Conts.of c) d).map List.length = (cellsO row d).map List.length := by
  rw [tc_kc h (nm_nodup d) hr (fun _ q => q) ok]
  unfold kc pc
  rw [Option.map_map, Option.map_map]
  congr 1
  funext l
  simp
def okMade (o : Option (List Ce)) (x : D) : Prop := ∃ r, x = resO r ∧ r.map List.length = o.map List.length ∧ ∀ s, r = some s → ∀ y ∈ s, y ∈ lets
section
variable {ds : List Int} (hl : ds.length = 300) (hg : ∀ j ∈ ds, gd j) {t : Nat} (ht : t < 6) {d : Dd} (hd : Pd d)
/-- four contents -/
structure Mk (ds : List Int) (t : Nat) (d : Dd) (row : Lens) (k : Nat) (env : Env) : Prop where
  b : B ds t d env
  e5 : env[5]? = some (some (.dat row.tup))
  e6 : env[6]? = some (some (.dat (setO (cellsO row d))))
  e7 : ∃ L : List D, env[7]? = some (some (.lst L)) ∧ L.length = k ∧ ∀ x ∈ L, okMade (cellsO row d) x
theorem Mk.set {ds : List Int} {t : Nat} {d : Dd} {row : Lens} {k : Nat} {env : Env} (h : Mk ds t d row k env) (i : Nat) (o : Option SV) (hi : 7 < i) : Mk ds t d row k (env.set i o) := by
  obtain ⟨L, h1, h2⟩ := h.e7
  exact ⟨h.b.set i o (by omega), set_get h.e5 (by omega), set_get h.e6 (by omega), L, set_get h1 (by omega), h2⟩
include hl hg ht hd in
theorem made_step {row : Lens} (hr : row ∈ rowsL d.nm) (k : Nat) (hk : k < 4) (env : Env) (S : Sto) (h : Mk ds t d row k env) : ∃ env' S', P_1b_5b (env.set 8 (some (.dat (.int (k : Nat))))) S = some (.nx env', S') ∧ Mk ds t d row (k + 1) env' := by
  have h8 := h.set 8 (some (.dat (.int (k : Nat)))) (by omega)
  have f8 : (env.set 8 (some (SV.dat (.int (k : Nat)))))[8]? = some (some (.dat (.int (k : Nat)))) := set_same h.b.le (by omega)
  generalize env.set 8 (some (SV.dat (.int (k : Nat)))) = env1 at h8 f8 ⊢
  have hrow := mem_rowsL.mp hr
  obtain ⟨c, hcut, hcc, ok⟩ := conts_drawn hl hg (200 + 9 * k + t) (by omega) (row := row) (by
    have := congrArg List.length hrow.1
    have := hd.two
    rw [List.length_map] at *
    omega) hrow.2
  obtain ⟨nd, hc2, hr2⟩ := conts_sz hd hr ok
  have s0 : P_1b_5b_0 env1 = eNx (env1.set 9 (some (.dat c.tup))) := by
    have hm : mulF (.int 9) (.int (k : Nat)) = some (.dat (.int (9 * (k : Nat)))) := mulI' _ _ (by decide)
    have ee : ((200 + 9 * k + t : Nat) : Int) = 200 + 9 * (k : Int) + t := by omega
    rw [ee] at hcut
    have e1 := h8.b.e1
    have e2 := h8.b.e2
    have e5 := h8.e5
    generalize (ds.drop (200 + 9 * k + t)).map D.int = DD at hcut hcc
    unfold P_1b_5b_0
    simp (implicitDefEqProofs := false) [e1, e2, e5, f8, addF, hm, hcut, hcc]
  have h9 := h8.set 9 (some (.dat c.tup)) (by omega)
  have f9 : (env1.set 9 (some (SV.dat c.tup)))[9]? = some (some (.dat c.tup)) := set_same h8.b.le (by omega)
  generalize env1.set 9 (some (SV.dat c.tup)) = env2 at h9 f9 s0
  obtain ⟨q1, q2, q3, q4⟩ := conts_comp 17 18 26 (by omega) (by omega) (by omega) c nd hc2 env2 h9.b.le
  have s1 : P_1b_5b_1 env2 = eNx (env2.set 10 (some (.dat (.dct (c.map fun p => (KS.str p.1, madeD p.2)))))) := by
    generalize (c.map fun p => D.tup [.str p.1, madeD p.2]) = OUT at q1 q2 q3
    generalize (c.map fun p => D.tup [.str p.1, .str p.2]) = IN at q1 q4
    generalize c.tup = CT at q4 f9
    unfold P_1b_5b_1
    simp (implicitDefEqProofs := false) [f9, q4, q1, q3, q2]
  have h10 := h9.set 10 (some (.dat (.dct (c.map fun p => (KS.str p.1, madeD p.2))))) (by omega)
  have f10 : (env2.set 10 (some (SV.dat (.dct (c.map fun p => (KS.str p.1, madeD p.2))))))[10]? = some (some (.dat (.dct (c.map fun p => (KS.str p.1, madeD p.2))))) := set_same h9.b.le (by omega)
  generalize env2.set 10 (some (SV.dat (.dct (c.map fun p => (KS.str p.1, madeD p.2))))) = env3 at h10 f10 s1
  obtain ⟨S', n1, t1, p1⟩ := tried_row hd (nm_nodup d) hr (fun _ q => q) ok S
  obtain ⟨L, hL, hLl, hLm⟩ := h10.e7
  have hlets : ∀ s, tc (Conts.of c) d = some s → ∀ y ∈ s, y ∈ lets := fun s hs => by
    obtain ⟨_, _, _, h40, hlets⟩ := conts_facts (nm_nodup d) hr ok
    exact (tc_ok (Conts.of c) d hd.ok (fun s q => ⟨h40 s q, hlets s q⟩) s hs).2
  have hm : okMade (cellsO row d) (resO (tc (Conts.of c) d)) := ⟨_, rfl, tc_len hd hr ok, hlets⟩
  refine ⟨env3.set 7 (some (.lst (L ++ [resO (tc (Conts.of c) d)]))), S', ?_, ⟨⟨by rw [List.length_set]; exact h10.b.le, set_get h10.b.e1 (by omega), set_get h10.b.e2 (by omega), set_get h10.b.e3 (by omega)⟩, set_get h10.e5 (by omega), set_get h10.e6 (by omega), _, set_same h10.b.le (by omega), by rw [List.length_append, hLl]; rfl, fun x hx => ?_⟩⟩
  · unfold P_1b_5b
    rw [seq_p s0, seq_p s1]
    have e3 := h10.b.e3
    have hlt : L.length < sizeLine := by rw [szl]; omega
    generalize resO (tc (Conts.of c) d) = R at t1
    generalize (c.map fun p => (KS.str p.1, madeD p.2)) = DC at t1 f10
    unfold P_1b_5b_2 sApp
    simp (implicitDefEqProofs := false) [hL, e3, f10, lift_S, bind_S, pure_S, t1, look_S, see_tup, hlt, nx_S]
  · rcases List.mem_append.mp hx with q | q
    · exact hLm x q
    · simp only [List.mem_cons, List.not_mem_nil, or_false] at q
      rw [q]
      exact hm
end
theorem ix0_setO (o : Option (List Ce)) : ixD (setO o) (.int 0) = some (.str (if o.isSome then cs "made" else cs "fault")) := by cases o <;> rfl
theorem ix0_resO (o : Option (List Nat)) : ixD (resO o) (.int 0) = some (.str (if o.isSome then cs "made" else cs "fault")) := by cases o <;> rfl
theorem look_setO (o : Option (List Ce)) : look (setO o) = M.pure (setO o) := by cases o <;> rfl
theorem look_resO (o : Option (List Nat)) : look (resO o) = M.pure (resO o) := by cases o <;> rfl
theorem pl_longD : Pl 1 longD := pl_long
theorem longs : neB longD longD = some false := neB_yes pl_long pl_long (by omega) rfl
/-- lengths hang on lengths alone -/
theorem check_made {o : Option (List Ce)} {L : List D} (hL : ∀ x ∈ L, okMade o x) (hL4 : L.length ≤ 4) (ho : ∀ l, o = some l → l.length ≤ 40) (env : Env) (e6 : env[6]? = some (some (.dat (setO o)))) (e7 : env[7]? = some (some (.dat (.lst L)))) (le : env.length = 26) : P_1b_6f_0 env = eNx env := by
  have hlz : ∀ f : D → D, (L.map f).length ≤ sizeLine := fun f => small_le (by rw [List.length_map]; omega)
  have hit : (D.lst L).items = some L := rfl
  have nm1 : eqB (.str (cs "made")) (.str (cs "made")) = some true := by rw [eqB_cs]; rfl
  have nm2 : eqB (.str (cs "fault")) (.str (cs "made")) = some false := by rw [eqB_cs]; rfl
  have nm3 : eqB (.str (cs "made")) (.str (cs "fault")) = some false := by rw [eqB_cs]; rfl
  have nm4 : eqB (.str (cs "fault")) (.str (cs "fault")) = some true := by rw [eqB_cs]; rfl
  have hany := anyD_map L (fun _ => false)
  have hf : (L.any fun _ => false) = false := by simp
  rw [hf] at hany
  have f14 : ∀ x, ((drp [14] env).set 14 (some (SV.dat x)))[14]? = some (some (.dat x)) := fun x => set_same (n := 26) (by rw [drp_len]; exact le) (by omega)
  have f6 : ∀ x, ((drp [14] env).set 14 (some (SV.dat x)))[6]? = some (some (.dat (setO o))) := fun x => by rw [List.getElem?_set_ne (by omega), drp_get _ _ _ (by simp)]; exact e6
  unfold P_1b_6f_0
  cases o with
  | some cl =>
    have hcl := ho cl rfl
    have hc : compL (gnam 14) yesT (orV (cmpE neB (op2 ixD (evar 14) (ecst (.int 0))) (ecst (.str (cs "made")))) (cmpE neB (op1 lenD (op2 ixD (evar 14) (ecst (.int 1)))) (op1 lenD (op2 ixD (evar 6) (ecst (.int 1)))))) (drp [14] env) L = M.pure (L.map fun _ => D.bl false) := by
      refine compL_map _ _ fun x hx => ⟨_, rfl, rfl, ?_⟩
      obtain ⟨r, rfl, hr, _⟩ := hL x hx
      cases r with
      | none => simp at hr
      | some s =>
        simp only [Option.map_some, Option.some.injEq] at hr
        have a := f14 (resO (some s))
        have b := f6 (resO (some s))
        generalize (drp [14] env).set 14 (some (SV.dat (resO (some s)))) = env1 at a b ⊢
        have hsl : cl.length ≤ sizeLine := small_le (by omega)
        have hn : neB (.str (cs "made")) (.str (cs "made")) = some false := by unfold neB; rw [nm1]; rfl
        simp (implicitDefEqProofs := false) [a, b, resO, madeD, setO, hn, lenD, hsl, hr, D.asB]
    have h0 := ix0_setO (some cl)
    have lk := look_setO (some cl)
    have hlz := hlz fun _ => D.bl false
    generalize (L.map fun _ => D.bl false) = OUT at hc hany hlz
    simp only [Option.isSome_some, if_true] at h0
    generalize setO (some cl) = SO at e6 h0 lk
    simp (implicitDefEqProofs := false) [e6, e7, lk, h0, hit, hc, hlz, hany, nm3, D.asB]
  | none =>
    have hc : compL (gnam 14) yesT (cmpE neB (evar 14) (evar 6)) (drp [14] env) L = M.pure (L.map fun _ => D.bl false) := by
      refine compL_map _ _ fun x hx => ⟨_, rfl, rfl, ?_⟩
      obtain ⟨r, rfl, hr, _⟩ := hL x hx
      cases r with
      | some s => simp at hr
      | none =>
        have a := f14 (resO none)
        have b := f6 (resO none)
        generalize (drp [14] env).set 14 (some (SV.dat (resO none))) = env1 at a b ⊢
        have hlg := longs
        have lkl : look longD = M.pure longD := rfl
        have e1 : resO none = longD := rfl
        have e2 : setO none = longD := rfl
        rw [e1] at a
        rw [e2] at b
        generalize longD = LD at a b hlg lkl
        simp (implicitDefEqProofs := false) [a, b, lkl, hlg]
    have h0 := ix0_setO none
    have lk := look_setO none
    have hlz := hlz fun _ => D.bl false
    generalize (L.map fun _ => D.bl false) = OUT at hc hany hlz
    simp only [Option.isSome_none, Bool.false_eq_true, if_false] at h0
    generalize setO none = SO at e6 h0 lk
    simp (implicitDefEqProofs := false) [e6, e7, lk, h0, hit, hc, hlz, hany, nm2, D.asB]
end VX.K09
set_option Elab.async false
set_option linter.all false
set_option maxRecDepth 100000
set_option maxHeartbeats 4000000
namespace VX.K09
open PySem PySem.Spec PyProof.Rows L2
/-! ### the law's turn, second half: the bare deed -/
/-- contents changed name by name -/
def cmap (h : List Nat → List Nat → List Nat) (c : Conts) : Conts := c.map fun p => (p.1, h p.1 p.2)
theorem cmap_n (h : List Nat → List Nat → List Nat) (c : Conts) : (cmap h c).map (·.1) = c.map (·.1) := by
  unfold cmap
  rw [List.map_map]
  rfl
theorem cmap_ok {row : Lens} {c : Conts} (ok : ContOk row c) {h : List Nat → List Nat → List Nat} (hl : ∀ p ∈ c, (h p.1 p.2).length = p.2.length) (ha : ∀ p ∈ c, ∀ x ∈ h p.1 p.2, x ∈ lets) : ContOk row (cmap h c) := by
  refine ⟨by rw [cmap_n]; exact ok.n, ?_, fun p hp => ?_⟩
  · rw [← ok.l]
    unfold cmap
    rw [List.map_map]
    exact List.map_congr_left fun p hp => hl p hp
  · obtain ⟨q, hq, rfl⟩ := List.mem_map.mp hp
    exact ha q hq
theorem cmap_of (h : List Nat → List Nat → List Nat) : ∀ (c : Conts) (s : List Nat), Conts.of (cmap h c) s = match c.lookup s with
    | some x => h s x
    | none => []
  | [], s => rfl
  | (k, x) :: c, s => by
    have ih := cmap_of h c s
    unfold Conts.of cmap at ih ⊢
    rw [List.map_cons, List.lookup_cons, List.lookup_cons]
    by_cases q : s = k
    · subst q
      simp
    · have hq : (s == k) = false := beq_eq_false_iff_ne.mpr q
      rw [hq]
      exact ih
theorem cmap_turn (k : Nat) (c : Conts) : Conts.of (cmap (fun _ x => x.map (trn k)) c) = fun s => (Conts.of c s).map (trn k) := by
  funext s
  rw [cmap_of]
  unfold Conts.of
  cases c.lookup s <;> rfl
structure B2 (ds : List Int) (t : Nat) (b : Dd) (row : Lens) (c : Conts) (env : Env) : Prop where
  le : env.length = 26
  e1 : env[1]? = some (some (.dat (DS ds)))
  e5 : env[5]? = some (some (.dat row.tup))
  e9 : env[9]? = some (some (.dat c.tup))
  e11 : env[11]? = some (some (.dat (enc b)))
theorem B2.set {ds : List Int} {t : Nat} {b : Dd} {row : Lens} {c : Conts} {env : Env} (h : B2 ds t b row c env) (i : Nat) (o : Option SV) (h1 : i ≠ 1) (h5 : i ≠ 5) (h9 : i ≠ 9) (h11 : i ≠ 11) : B2 ds t b row c (env.set i o) :=
  ⟨by rw [List.length_set]; exact h.le, set_get h.e1 h1, set_get h.e5 h5, set_get h.e9 h9, set_get h.e11 h11⟩
section
variable {ds : List Int} {t : Nat} {b : Dd} (hb : Pd b) {row : Lens} (hr : row ∈ rowsL b.nm) {c : Conts} (ok : ContOk row c)
include hb hr ok in
theorem tc_lets : ∀ s, tc (Conts.of c) b = some s → s.length ≤ 40 ∧ ∀ y ∈ s, y ∈ lets := fun s hs => by
  obtain ⟨_, _, _, h40, hlets⟩ := conts_facts (nm_nodup b) hr ok
  exact tc_ok (Conts.of c) b hb.ok (fun s q => ⟨h40 s q, hlets s q⟩) s hs
include hb hr ok in
theorem one_at (env : Env) (S : Sto) (h : B2 ds t b row c env) : ∃ S', P_1b_6f_6 env S = some (.nx (env.set 14 (some (.dat (resO (tc (Conts.of c) b))))), S') := by
  obtain ⟨nd, hc2, hr2⟩ := conts_sz hb hr ok
  obtain ⟨q1, q2, q3, q4⟩ := conts_comp 17 18 26 (by omega) (by omega) (by omega) c nd hc2 env h.le
  obtain ⟨S', n1, t1, p1⟩ := tried_row hb (nm_nodup b) hr (fun _ q => q) ok S
  refine ⟨S', ?_⟩
  have e9 := h.e9
  have e11 := h.e11
  generalize resO (tc (Conts.of c) b) = R at t1 ⊢
  generalize (c.map fun p => (KS.str p.1, madeD p.2)) = DC at t1 q2
  generalize (c.map fun p => D.tup [.str p.1, madeD p.2]) = OUT at q1 q2 q3
  generalize (c.map fun p => D.tup [.str p.1, .str p.2]) = IN at q1 q4
  generalize c.tup = CT at q4 e9
  unfold P_1b_6f_6
  simp (implicitDefEqProofs := false) [e9, e11, q4, q1, q3, q2, lift_S, bind_S, pure_S, t1, look_S, see_tup, nx_S]
include hb hr ok in
theorem two_at (k : Nat) (env : Env) (S : Sto) (h : B2 ds t b row c env) (e13 : env[13]? = some (some (.dat (.int (k : Nat))))) : ∃ S', P_1b_6f_7 env S = some (.nx (env.set 15 (some (.dat (resO (tc (fun s => (Conts.of c s).map (trn k)) b))))), S') := by
  obtain ⟨nd, hc2, hr2⟩ := conts_sz hb hr ok
  have two : (2 : Nat) ≤ sizeLine := small_le (by omega)
  have hl40 : ∀ p ∈ c, p.2.length ≤ 40 := fun p hp => by
    have : p.2.length ∈ row.map (·.2) := by rw [← ok.l]; exact List.mem_map_of_mem (f := fun x : List Nat × List Nat => x.2.length) hp
    obtain ⟨q, hq, e⟩ := List.mem_map.mp this
    have := (mem_rowsL.mp hr).2 q hq
    omega
  have ok' : ContOk row (cmap (fun _ x => x.map (trn k)) c) := cmap_ok ok (fun p _ => List.length_map _) (fun p _ x hx => by
    obtain ⟨y, _, rfl⟩ := List.mem_map.mp hx
    exact trn_let k y)
  have hc : compL (gtup (gcons (gnam 17) (gcons (gnam 18) gnil))) yesT (tupE (consA (evar 17) (consA (tupE (consA (ecst (.str (cs "made"))) (consA (frz (callF F__law_turned (consA (evar 18) (consA (evar 13) nilA)))) nilA))) nilA))) (drp [17, 18] env) (c.map fun p => D.tup [.str p.1, .str p.2]) = M.pure (c.map fun p => D.tup [.str p.1, madeD (p.2.map (trn k))]) := by
    refine compL_of _ _ _ fun p hp => ⟨((drp [17, 18] env).set 17 (some (.dat (.str p.1)))).set 18 (some (.dat (.str p.2))), rfl, rfl, ?_⟩
    have dl : (drp [17, 18] env).length = 26 := by rw [drp_len]; exact h.le
    have h20 : (((drp [17, 18] env).set 17 (some (.dat (.str p.1)))).set 18 (some (.dat (.str p.2))))[17]? = some (some (.dat (.str p.1))) := set_get (set_same dl (by omega)) (by omega)
    have h21 : (((drp [17, 18] env).set 17 (some (.dat (.str p.1)))).set 18 (some (.dat (.str p.2))))[18]? = some (some (.dat (.str p.2))) := set_same (n := 26) (by rw [List.length_set]; exact dl) (by omega)
    have h13 : (((drp [17, 18] env).set 17 (some (.dat (.str p.1)))).set 18 (some (.dat (.str p.2))))[13]? = some (some (.dat (.int (k : Nat)))) := by
      rw [List.getElem?_set_ne (by omega), List.getElem?_set_ne (by omega), drp_get _ _ _ (by simp)]
      exact e13
    generalize ((drp [17, 18] env).set 17 (some (.dat (.str p.1)))).set 18 (some (.dat (.str p.2))) = env1 at h20 h21 h13 ⊢
    have ht := turned_enc p.2 k (by have := hl40 p hp; omega) (ok.a p hp)
    simp (implicitDefEqProofs := false) [h20, h21, h13, two, ht, madeD]
  have hd := dictL_map c (·.1) (fun p => madeD (p.2.map (trn k))) nd
  have hlen : (c.map fun p => D.tup [.str p.1, madeD (p.2.map (trn k))]).length ≤ sizeLine := small_le (by rw [List.length_map]; omega)
  have hit : c.tup.items = some (c.map fun p => D.tup [.str p.1, .str p.2]) := rfl
  obtain ⟨S', n1, t1, p1⟩ := tried_row hb (nm_nodup b) hr (fun _ q => q) ok' S
  have hdc : ((cmap (fun _ x => x.map (trn k)) c).map fun p => (KS.str p.1, madeD p.2)) = c.map fun p => (KS.str p.1, madeD (p.2.map (trn k))) := by
    unfold cmap
    rw [List.map_map]
    rfl
  rw [hdc, cmap_turn] at t1
  refine ⟨S', ?_⟩
  have e9 := h.e9
  have e11 := h.e11
  generalize resO (tc (fun s => (Conts.of c s).map (trn k)) b) = R at t1 ⊢
  generalize (c.map fun p => (KS.str p.1, madeD (p.2.map (trn k)))) = DC at t1 hd
  generalize (c.map fun p => D.tup [.str p.1, madeD (p.2.map (trn k))]) = OUT at hc hd hlen
  generalize (c.map fun p => D.tup [.str p.1, .str p.2]) = IN at hc hit
  generalize c.tup = CT at hit e9
  unfold P_1b_6f_7
  simp (implicitDefEqProofs := false) [e9, e11, hit, hc, hlen, hd, lift_S, bind_S, pure_S, t1, look_S, see_tup, nx_S]
include hb hr ok in
theorem turn_check (hbare : isBare b) (k : Nat) (env : Env) (e13 : env[13]? = some (some (.dat (.int (k : Nat))))) (e14 : env[14]? = some (some (.dat (resO (tc (Conts.of c) b))))) (e15 : env[15]? = some (some (.dat (resO (tc (fun s => (Conts.of c s).map (trn k)) b))))) : P_1b_6f_8 env = eNx env := by
  have hl := tc_lets hb hr ok
  rw [tc_turn (trn k) (Conts.of c) b hbare] at e15
  have two : (2 : Nat) ≤ sizeLine := small_le (by omega)
  have nm1 : eqB (.str (cs "made")) (.str (cs "made")) = some true := by rw [eqB_cs]; rfl
  have nm2 : eqB (.str (cs "fault")) (.str (cs "made")) = some false := by rw [eqB_cs]; rfl
  unfold P_1b_6f_8
  cases q : tc (Conts.of c) b with
  | none =>
    rw [q] at e14 e15
    have e1 : resO none = longD := rfl
    have e2 : resO ((none : Option (List Nat)).map (·.map (trn k))) = longD := rfl
    rw [e1] at e14
    rw [e2] at e15
    have h0 : ixD longD (.int 0) = some (.str (cs "fault")) := rfl
    have lk : look longD = M.pure longD := rfl
    have hlg := longs
    have hn : neB (.str (cs "fault")) (.str (cs "made")) = some true := by unfold neB; rw [nm2]; rfl
    generalize longD = LD at e14 e15 h0 lk hlg
    simp (implicitDefEqProofs := false) [e14, e15, lk, h0, nm2, hn, hlg]
  | some s =>
    rw [q] at e14 e15
    obtain ⟨h40, hs⟩ := hl s q
    have ht := turned_enc s k (by omega) hs
    have hn : neB (.str (cs "made")) (.str (cs "made")) = some false := by unfold neB; rw [nm1]; rfl
    have hp : Pl 1 (madeD (s.map (trn k))) := fun x hx => by
      simp only [List.mem_cons, List.not_mem_nil, or_false] at hx
      rcases hx with rfl | rfl
      · exact pl_cs _ _
      · exact fun c hc => by
          obtain ⟨y, _, rfl⟩ := List.mem_map.mp hc
          exact let_ok (trn_let k y)
    have hne := neB_yes hp hp (by omega) rfl
    have e15 : env[15]? = some (some (.dat (madeD (s.map (trn k))))) := e15
    have e14 : env[14]? = some (some (.dat (madeD s))) := e14
    unfold madeD at e14 e15 hne
    generalize s.map (trn k) = st at ht e15 hne
    simp (implicitDefEqProofs := false) [e13, e14, e15, two, nm1, hn, ht, hne]
end
/-! one letter changed -/
def chg (name : List Nat) (i : Nat) : List Nat → List Nat → List Nat := fun n x => if n = name then x.set i (trn 1 (x.getD i 0)) else x
theorem cut_set (x : List Nat) (i : Nat) (h : i < x.length) (y : Nat) : x.take i ++ [y] ++ x.drop (i + 1) = x.set i y := by
  rw [List.set_eq_take_append_cons_drop, if_pos h, List.append_assoc]
  rfl
theorem cut_str (x : List Nat) (lo hi : Option Int) (hx : x.length ≤ 1000) : slF (.str x) lo hi = some (.dat (.str (cut x lo hi))) := by
  unfold slF
  dsimp only
  rw [if_pos (small_le (by omega))]
structure B3 (ds : List Int) (t : Nat) (b : Dd) (row : Lens) (c : Conts) (env : Env) : Prop where
  bb : B2 ds t b row c env
  e14 : env[14]? = some (some (.dat (resO (tc (Conts.of c) b))))
  e16 : env[16]? = some (some (.dat (setO (cellsO row b))))
theorem B3.set {ds : List Int} {t : Nat} {b : Dd} {row : Lens} {c : Conts} {env : Env} (h : B3 ds t b row c env) (i : Nat) (o : Option SV) (hi : 16 < i) : B3 ds t b row c (env.set i o) :=
  ⟨h.bb.set i o (by omega) (by omega) (by omega) (by omega), set_get h.e14 (by omega), set_get h.e16 (by omega)⟩
section
variable {ds : List Int} {t : Nat} {b : Dd} (hb : Pd b) (hbare : isBare b) {row : Lens} (hr : row ∈ rowsL b.nm) {c : Conts} (ok : ContOk row c) {cl : List Ce} (hcl : cellsO row b = some cl)
include hb hr ok in
theorem chg_ok (name : List Nat) (i : Nat) : ContOk row (cmap (chg name i) c) := cmap_ok ok (fun p _ => by
  unfold chg
  split
  · rw [List.length_set]
  · rfl) (fun p hp x hx => by
  unfold chg at hx
  split at hx
  · rcases List.mem_or_eq_of_mem_set hx with q | q
    · exact ok.a p hp x q
    · rw [q]; exact trn_let _ _
  · exact ok.a p hp x hx)
include hb hr ok in
theorem chg_dct {p : List Nat × List Nat} (hp : p ∈ c) (i : Nat) (hi : i < p.2.length) (env : Env) (le : env.length = 26) (e9 : env[9]? = some (some (.dat c.tup))) (e17 : env[17]? = some (some (.dat (.str p.1)))) (e19 : env[19]? = some (some (.dat (.int (i : Nat))))) :
    P_1b_6f_10t_0b_0b_0 env = eNx (env.set 20 (some (.dat (.dct ((cmap (chg p.1 i) c).map fun q => (KS.str q.1, madeD q.2)))))) := by
  obtain ⟨nd, hc2, hr2⟩ := conts_sz hb hr ok
  obtain ⟨_, hmem, _, h40', _⟩ := conts_facts (nm_nodup b) hr ok
  have two : (2 : Nat) ≤ sizeLine := small_le (by omega)
  have hchr : ∀ q ∈ c, ∀ x ∈ q.1, x < 0x110000 := fun q hq => hb.chr q.1 (by
    rw [← (mem_rowsL.mp hr).1, ← ok.n]
    exact List.mem_map_of_mem hq)
  have hl40 : ∀ q ∈ c, q.2.length ≤ 40 := fun q hq => by
    have : q.2.length ∈ row.map (·.2) := by rw [← ok.l]; exact List.mem_map_of_mem (f := fun x : List Nat × List Nat => x.2.length) hq
    obtain ⟨z, hz, e⟩ := List.mem_map.mp this
    have := (mem_rowsL.mp hr).2 z hz
    omega
  have hc : compL (gtup (gcons (gnam 24) (gcons (gnam 25) gnil))) yesT (tupE (consA (evar 24) (consA (tupE (consA (ecst (.str (cs "made"))) (consA (iteE (op2B eqB (evar 24) (evar 17)) (frz (op2F addF (frz (op2F addF (frz (slE (evar 25) (partE none) (partE (some (evar 19))))) (frz (callF F__law_turned (consA (op2 ixD (evar 25) (evar 19)) (consA (ecst (.int 1)) nilA)))))) (frz (slE (evar 25) (partE (some (frz (op2F addF (evar 19) (ecst (.int 1)))))) (partE none))))) (evar 25)) nilA))) nilA))) (drp [24, 25] env) (c.map fun q => D.tup [.str q.1, .str q.2]) = M.pure (c.map fun q => D.tup [.str q.1, madeD (chg p.1 i q.1 q.2)]) := by
    refine compL_of _ _ _ fun q hq => ⟨((drp [24, 25] env).set 24 (some (.dat (.str q.1)))).set 25 (some (.dat (.str q.2))), rfl, rfl, ?_⟩
    have dl : (drp [24, 25] env).length = 26 := by rw [drp_len]; exact le
    have h20 : (((drp [24, 25] env).set 24 (some (.dat (.str q.1)))).set 25 (some (.dat (.str q.2))))[24]? = some (some (.dat (.str q.1))) := set_get (set_same dl (by omega)) (by omega)
    have h21 : (((drp [24, 25] env).set 24 (some (.dat (.str q.1)))).set 25 (some (.dat (.str q.2))))[25]? = some (some (.dat (.str q.2))) := set_same (n := 26) (by rw [List.length_set]; exact dl) (by omega)
    have h17 : (((drp [24, 25] env).set 24 (some (.dat (.str q.1)))).set 25 (some (.dat (.str q.2))))[17]? = some (some (.dat (.str p.1))) := by
      rw [List.getElem?_set_ne (by omega), List.getElem?_set_ne (by omega), drp_get _ _ _ (by simp)]
      exact e17
    have h19 : (((drp [24, 25] env).set 24 (some (.dat (.str q.1)))).set 25 (some (.dat (.str q.2))))[19]? = some (some (.dat (.int (i : Nat)))) := by
      rw [List.getElem?_set_ne (by omega), List.getElem?_set_ne (by omega), drp_get _ _ _ (by simp)]
      exact e19
    generalize ((drp [24, 25] env).set 24 (some (.dat (.str q.1)))).set 25 (some (.dat (.str q.2))) = env1 at h20 h21 h17 h19 ⊢
    have he := eqB_str (hchr q hq) (hchr p hp)
    by_cases hn : q.1 = p.1
    · have hqp : q = p := by
        have e1 := hmem q hq
        have e2 := hmem p hp
        rw [hn] at e1
        exact Prod.ext hn (e1.symm.trans e2)
      subst hqp
      rw [decide_eq_true rfl] at he
      have hl := hl40 q hq
      have c1 := cut_str q.2 none (some (i : Int)) (by omega)
      have c2 := cut_str q.2 (some ((i : Int) + 1)) none (by omega)
      rw [cut_to] at c1
      rw [show (i : Int) + 1 = ((i + 1 : Nat) : Int) from by omega, cut_from _ (by omega)] at c2
      rw [show ((i + 1 : Nat) : Int) = (i : Int) + 1 from by omega] at c2
      have hix : ixD (.str q.2) (.int (i : Nat)) = some (.str [q.2.getD i 0]) := ix_str (by omega) (by rw [List.getD_eq_getElem?_getD, List.getElem?_eq_getElem hi]; rfl)
      have hxl : q.2.getD i 0 ∈ lets := by
        rw [List.getD_eq_getElem?_getD, List.getElem?_eq_getElem hi]
        exact ok.a q hq _ (List.getElem_mem hi)
      have ht := turned_enc [q.2.getD i 0] 1 (by simp) (by simpa using hxl)
      have hs := cut_set q.2 i hi (trn 1 (q.2.getD i 0))
      have hch : chg q.1 i q.1 q.2 = q.2.set i (trn 1 (q.2.getD i 0)) := by
        unfold chg
        rw [if_pos rfl]
      rw [hch, ← hs]
      simp only [List.map_cons, List.map_nil] at ht
      have t1 : (1 : Int) = ((1 : Nat) : Int) := rfl
      rw [← t1] at ht
      generalize q.2.getD i 0 = y at hix ht
      have z1 : (q.2.take i).length + 1 ≤ sizeLine := small_le (by rw [List.length_take]; omega)
      have z2 : (q.2.take i ++ [trn 1 y]).length + (q.2.drop (i + 1)).length ≤ sizeLine := small_le (by rw [List.length_append, List.length_take, List.length_drop]; simp; omega)
      generalize trn 1 y = ty at ht z2
      generalize q.2.take i = A at c1 z1 z2
      generalize q.2.drop (i + 1) = Bq at c2 z2
      have a1 : addF (.str A) (.str [ty]) = some (.dat (.str (A ++ [ty]))) := by
        unfold addF
        exact if_pos z1
      have a2 : addF (.str (A ++ [ty])) (.str Bq) = some (.dat (.str (A ++ [ty] ++ Bq))) := by
        unfold addF
        exact if_pos z2
      have a3 : addF (.int (i : Nat)) (.int 1) = some (.dat (.int ((i : Nat) + 1))) := rfl
      generalize A ++ [ty] ++ Bq = OUT at a2 ⊢
      generalize A ++ [ty] = A1 at a1 a2
      simp (implicitDefEqProofs := false) [h20, h21, h17, h19, he, c1, hix, ht, a1, a3, c2, a2, two, madeD]
    · rw [decide_eq_false hn] at he
      have hch : chg p.1 i q.1 q.2 = q.2 := by
        unfold chg
        rw [if_neg hn]
      rw [hch]
      simp (implicitDefEqProofs := false) [h20, h21, h17, h19, he, two, madeD]
  have hd := dictL_map c (·.1) (fun q => madeD (chg p.1 i q.1 q.2)) nd
  have hlen : (c.map fun q => D.tup [.str q.1, madeD (chg p.1 i q.1 q.2)]).length ≤ sizeLine := small_le (by rw [List.length_map]; omega)
  have hit : c.tup.items = some (c.map fun q => D.tup [.str q.1, .str q.2]) := rfl
  have hdc : ((cmap (chg p.1 i) c).map fun q => (KS.str q.1, madeD q.2)) = c.map fun q => (KS.str q.1, madeD (chg p.1 i q.1 q.2)) := by
    unfold cmap
    rw [List.map_map]
    rfl
  rw [hdc]
  generalize (c.map fun q => (KS.str q.1, madeD (chg p.1 i q.1 q.2))) = DC at hd ⊢
  generalize (c.map fun q => D.tup [.str q.1, madeD (chg p.1 i q.1 q.2)]) = OUT at hc hd hlen
  generalize (c.map fun q => D.tup [.str q.1, .str q.2]) = IN at hc hit
  generalize c.tup = CT at hit e9
  unfold P_1b_6f_10t_0b_0b_0
  simp (implicitDefEqProofs := false) [e9, hit, hc, hlen, hd]
end
end VX.K09
set_option Elab.async false
set_option linter.all false
set_option maxRecDepth 100000
set_option maxHeartbeats 4000000
namespace VX.K09
open PySem PySem.Spec PyProof.Rows L2
section
variable {ds : List Int} {t : Nat} {b : Dd} (hb : Pd b) (hbare : isBare b) {row : Lens} (hr : row ∈ rowsL b.nm) {c : Conts} (ok : ContOk row c) {cl : List Ce} (hcl : cellsO row b = some cl)
include hb hbare hr hcl in
theorem bare_cells : cl.length ≤ 40 ∧ ∀ ce ∈ cl, ∃ n k, ce = .at_ n k lets ∧ n ∈ b.nm ∧ k < Lens.of row n := by
  have lok := lc_ok (fun s => fresh s (Lens.of row s)) b hb.ok (kc_fok hb (nm_nodup b) hr (fun _ q => q)) cl hcl
  refine ⟨lok.1, fun ce hce => ?_⟩
  obtain ⟨n, k, rfl⟩ := lc_bare (Lens.of row) b hbare cl hcl ce hce
  have hin := lc_inr (row := row) (f := fun s => fresh s (Lens.of row s)) b (fun s hs c hc => by
    obtain ⟨k, hk, rfl⟩ := List.mem_map.mp hc
    obtain ⟨p, hp, e1, e2, _⟩ := row_of (nm_nodup b) hr hs
    exact ⟨p, hp, e1, by rw [← e2]; exact List.mem_range.mp hk⟩) cl hcl _ hce
  obtain ⟨p, hp, rfl, hk⟩ := hin
  refine ⟨p.1, k, rfl, ?_, by rw [of_mem (row_nd (nm_nodup b) hr) hp]; exact hk⟩
  rw [← (mem_rowsL.mp hr).1]
  exact List.mem_map_of_mem hp
include hb hbare hr hcl in
theorem kc_bare : kc row b = some cl := by
  unfold kc pc
  change Option.map (fun x => List.map Ce.settle x) (cellsO row b) = _
  rw [hcl, Option.map_some]
  congr 1
  have h := (bare_cells hb hbare hr hcl).2
  refine (List.map_congr_left fun ce hce => ?_).trans (List.map_id' cl)
  obtain ⟨n, k, rfl, _⟩ := h ce hce
  exact settle_lets n k
include hb hbare hr hcl in
theorem tc_bare {c : Conts} (ok : ContOk row c) : tc (Conts.of c) b = some (cl.map (put (Conts.of c))) := by
  rw [tc_kc hb (nm_nodup b) hr (fun _ q => q) ok, kc_bare hb hbare hr hcl]
  rfl
theorem put_at {g : List Nat → List Nat} {n : List Nat} {k : Nat} (h : (g n).getD k 0 ∈ lets) : put g (.at_ n k lets) = (g n).getD k 0 := pos_get h
/-- of the names of the contents -/
theorem chg_of {h : List Nat → List Nat → List Nat} {c : Conts} {s : List Nat} {p : List Nat × List Nat} (nd : (c.map (·.1)).Nodup) (hp : p ∈ c) (hs : p.1 = s) : Conts.of (cmap h c) s = h s (Conts.of c s) := by
  rw [cmap_of]
  unfold Conts.of
  rw [← hs, lookup_mem nd hp]
  rfl
include hb hr ok in
theorem chg_put {p : List Nat × List Nat} (hp : p ∈ c) (i : Nat) (hi : i < p.2.length) {n : List Nat} {k : Nat} (hn : n ∈ b.nm) (hk : k < Lens.of row n) :
    (put (Conts.of (cmap (chg p.1 i) c)) (.at_ n k lets) ≠ put (Conts.of c) (.at_ n k lets)) ↔ (n = p.1 ∧ k = i) := by
  obtain ⟨nd, hmem, hex, h40, hlets⟩ := conts_facts (nm_nodup b) hr ok
  obtain ⟨q, hq, rfl⟩ := hex n hn
  have hcl := conts_len ok.n ok.l q.1
  have hk' : k < (Conts.of c q.1).length := by rw [hcl]; exact hk
  have hl1 : (Conts.of c q.1).getD k 0 ∈ lets := by
    rw [List.getD_eq_getElem?_getD, List.getElem?_eq_getElem hk']
    exact hlets q.1 hn _ (List.getElem_mem hk')
  have hof := chg_of (h := chg p.1 i) nd hq rfl
  rw [put_at hl1]
  by_cases e : q.1 = p.1
  · have hqp : q = p := by
      have e1 := hmem q hq
      have e2 := hmem p hp
      rw [e] at e1
      exact Prod.ext e (e1.symm.trans e2)
    subst hqp
    have hof2 : Conts.of (cmap (chg q.1 i) c) q.1 = (Conts.of c q.1).set i (trn 1 ((Conts.of c q.1).getD i 0)) := by
      rw [hof]
      unfold chg
      rw [if_pos rfl]
    by_cases ki : k = i
    · subst ki
      have hg : ((Conts.of c q.1).set k (trn 1 ((Conts.of c q.1).getD k 0))).getD k 0 = trn 1 ((Conts.of c q.1).getD k 0) := by
        rw [List.getD_eq_getElem?_getD, List.getElem?_set_self hk']
        rfl
      rw [put_at (by rw [hof2, hg]; exact trn_let _ _), hof2, hg]
      exact ⟨fun _ => ⟨rfl, rfl⟩, fun _ => trn_ne hl1⟩
    · have hg : ((Conts.of c q.1).set i (trn 1 ((Conts.of c q.1).getD i 0))).getD k 0 = (Conts.of c q.1).getD k 0 := by
        simp only [List.getD_eq_getElem?_getD]
        rw [List.getElem?_set_ne (fun z => ki z.symm)]
      rw [put_at (by rw [hof2, hg]; exact hl1), hof2, hg]
      exact ⟨fun z => absurd rfl z, fun z => absurd z.2 ki⟩
  · have hof2 : Conts.of (cmap (chg p.1 i) c) q.1 = Conts.of c q.1 := by
      rw [hof]
      unfold chg
      rw [if_neg e]
    rw [put_at (by rw [hof2]; exact hl1), hof2]
    exact ⟨fun z => absurd rfl z, fun z => absurd z.1 e⟩
def isAt (n : List Nat) (i : Nat) : Ce → Bool
  | .at_ m k _ => decide (m = n ∧ k = i)
  | _ => false
include hb hbare hr ok hcl in
theorem letter_step {p : List Nat × List Nat} (hp : p ∈ c) (i : Nat) (hi : i < p.2.length) (env : Env) (S : Sto) (h : B3 ds t b row c env) (e17 : env[17]? = some (some (.dat (.str p.1)))) (e19 : env[19]? = some (some (.dat (.int (i : Nat))))) :
    ∃ env' S', P_1b_6f_10t_0b_0b env S = some (.nx env', S') ∧ B3 ds t b row c env' ∧ env'[17]? = env[17]? ∧ env'[18]? = env[18]? := by
  have s0 := chg_dct hb hr ok hp i hi env h.bb.le h.bb.e9 e17 e19
  have ok' := chg_ok hb hr ok p.1 i
  have hcells := bare_cells hb hbare hr hcl
  have t0 := tc_bare hb hbare hr hcl ok
  have t1' := tc_bare hb hbare hr hcl ok'
  obtain ⟨S', n1, t1, p1⟩ := tried_row hb (nm_nodup b) hr (fun _ q => q) ok' S
  have hl0 := tc_lets hb hr ok _ t0
  have hl1 := tc_lets hb hr ok' _ t1'
  rw [t1'] at t1
  have h20 := h.set 20 (some (.dat (.dct ((cmap (chg p.1 i) c).map fun q => (KS.str q.1, madeD q.2))))) (by omega)
  have f20 : (env.set 20 (some (SV.dat (.dct ((cmap (chg p.1 i) c).map fun q => (KS.str q.1, madeD q.2))))))[20]? = some (some (.dat (.dct ((cmap (chg p.1 i) c).map fun q => (KS.str q.1, madeD q.2))))) := set_same h.bb.le (by omega)
  have k17 : (env.set 20 (some (SV.dat (.dct ((cmap (chg p.1 i) c).map fun q => (KS.str q.1, madeD q.2))))))[17]? = env[17]? := List.getElem?_set_ne (by omega)
  have k18 : (env.set 20 (some (SV.dat (.dct ((cmap (chg p.1 i) c).map fun q => (KS.str q.1, madeD q.2))))))[18]? = env[18]? := List.getElem?_set_ne (by omega)
  have k19 : (env.set 20 (some (SV.dat (.dct ((cmap (chg p.1 i) c).map fun q => (KS.str q.1, madeD q.2))))))[19]? = env[19]? := List.getElem?_set_ne (by omega)
  generalize env.set 20 (some (SV.dat (.dct ((cmap (chg p.1 i) c).map fun q => (KS.str q.1, madeD q.2))))) = env1 at h20 f20 k17 k18 k19 s0
  generalize hN : cl.map (put (Conts.of (cmap (chg p.1 i) c))) = NW at t1 hl1
  have s1 : P_1b_6f_10t_0b_0b_1 env1 S = some (.nx (env1.set 21 (some (.dat (madeD NW)))), S') := by
    have e11 := h20.bb.e11
    have hR : resO (some NW) = madeD NW := rfl
    rw [hR] at t1
    generalize madeD NW = R at t1 ⊢
    generalize ((cmap (chg p.1 i) c).map fun q => (KS.str q.1, madeD q.2)) = DC at t1 f20
    unfold P_1b_6f_10t_0b_0b_1
    simp (implicitDefEqProofs := false) [e11, f20, lift_S, bind_S, pure_S, t1, look_S, see_tup, nx_S]
  have h21 := h20.set 21 (some (.dat (madeD NW))) (by omega)
  have f21 : (env1.set 21 (some (SV.dat (madeD NW))))[21]? = some (some (.dat (madeD NW))) := set_same h20.bb.le (by omega)
  have m17 : (env1.set 21 (some (SV.dat (madeD NW))))[17]? = env[17]? := by rw [List.getElem?_set_ne (by omega), k17]
  have m18 : (env1.set 21 (some (SV.dat (madeD NW))))[18]? = env[18]? := by rw [List.getElem?_set_ne (by omega), k18]
  have m19 : (env1.set 21 (some (SV.dat (madeD NW))))[19]? = env[19]? := by rw [List.getElem?_set_ne (by omega), k19]
  generalize env1.set 21 (some (SV.dat (madeD NW))) = env2 at h21 f21 m17 m18 m19 s1
  have e14 := h21.e14
  rw [t0] at e14
  generalize hO : cl.map (put (Conts.of c)) = OD at e14 hl0
  have e14 : env2[14]? = some (some (.dat (madeD OD))) := e14
  have e16 := h21.e16
  rw [hcl] at e16
  have hset : setO (some cl) = .tup [.str (cs "made"), .tup (cl.map Ce.enc)] := by
    have hm : (cl.map fun c : Ce => c.settle.enc) = cl.map Ce.enc := List.map_congr_left fun ce hce => by
      obtain ⟨n, k, rfl, _⟩ := hcells.2 ce hce
      show (Ce.settle _).enc = _
      rw [settle_lets]
    show D.tup [.str (cs "made"), .tup (cl.map fun c => c.settle.enc)] = _
    rw [hm]
  rw [hset] at e16
  have hNl : NW.length = cl.length := by rw [← hN, List.length_map]
  have hOl : OD.length = cl.length := by rw [← hO, List.length_map]
  -- where they are unlike
  have same : ∀ k < cl.length, (decide (NW.getD k 0 ≠ OD.getD k 0)) = isAt p.1 i (cl.getD k (.is 0)) := by
    intro k hk
    have hce : cl[k] ∈ cl := List.getElem_mem hk
    obtain ⟨n, j, e, hn, hj⟩ := hcells.2 _ hce
    have h1 : cl.getD k (.is 0) = .at_ n j lets := by rw [List.getD_eq_getElem?_getD, List.getElem?_eq_getElem hk]; exact e
    have h2 : NW.getD k 0 = put (Conts.of (cmap (chg p.1 i) c)) (.at_ n j lets) := by
      rw [← hN, List.getD_eq_getElem?_getD, List.getElem?_map, List.getElem?_eq_getElem hk, e]; rfl
    have h3 : OD.getD k 0 = put (Conts.of c) (.at_ n j lets) := by
      rw [← hO, List.getD_eq_getElem?_getD, List.getElem?_map, List.getElem?_eq_getElem hk, e]; rfl
    rw [h1, h2, h3]
    exact decide_eq_decide.mpr (chg_put hb hr ok hp i hi hn hj)
  have hrng : rngI (.int (cl.length : Nat)) = some ((List.range cl.length).map fun i => D.int (i : Nat)) := rngN cl.length (by omega)
  have two : (2 : Nat) ≤ sizeLine := small_le (by omega)
  have three : (3 : Nat) ≤ sizeLine := small_le (by omega)
  have hc1 : compL (gnam 8) (op2B neB (op2 ixD (op2 ixD (evar 21) (ecst (.int 1))) (evar 8)) (op2 ixD (op2 ixD (evar 14) (ecst (.int 1))) (evar 8))) (evar 8) (drp [8] env2) ((List.range cl.length).map fun i => D.int (i : Nat)) = M.pure (((List.range cl.length).filter fun k => isAt p.1 i (cl.getD k (.is 0))).map fun k => D.int (k : Nat)) := by
    refine compL_filterOf (fun k : Nat => D.int (k : Nat)) (fun k : Nat => D.int (k : Nat)) (fun k => isAt p.1 i (cl.getD k (.is 0))) _ fun k hk => ⟨(drp [8] env2).set 8 (some (.dat (.int (k : Nat)))), rfl, ?_, fun _ => ?_⟩
    · have hk := List.mem_range.mp hk
      have g8 : ((drp [8] env2).set 8 (some (SV.dat (.int (k : Nat)))))[8]? = some (some (.dat (.int (k : Nat)))) := set_same (n := 26) (by rw [drp_len]; exact h21.bb.le) (by omega)
      have g21 : ((drp [8] env2).set 8 (some (SV.dat (.int (k : Nat)))))[21]? = some (some (.dat (madeD NW))) := by rw [List.getElem?_set_ne (by omega), drp_get _ _ _ (by simp)]; exact f21
      have g14 : ((drp [8] env2).set 8 (some (SV.dat (.int (k : Nat)))))[14]? = some (some (.dat (madeD OD))) := by rw [List.getElem?_set_ne (by omega), drp_get _ _ _ (by simp)]; exact e14
      generalize (drp [8] env2).set 8 (some (SV.dat (.int (k : Nat)))) = env3 at g8 g21 g14 ⊢
      rw [← same k hk]
      have i1 : ixD (.str NW) (.int (k : Nat)) = some (.str [NW.getD k 0]) := ix_str (by omega) (by rw [List.getD_eq_getElem?_getD, List.getElem?_eq_getElem (by omega)]; rfl)
      have i2 : ixD (.str OD) (.int (k : Nat)) = some (.str [OD.getD k 0]) := ix_str (by omega) (by rw [List.getD_eq_getElem?_getD, List.getElem?_eq_getElem (by omega)]; rfl)
      have l1 : NW.getD k 0 ∈ lets := by
        rw [List.getD_eq_getElem?_getD, List.getElem?_eq_getElem (by omega)]
        exact hl1.2 _ (List.getElem_mem _)
      have l2 : OD.getD k 0 ∈ lets := by
        rw [List.getD_eq_getElem?_getD, List.getElem?_eq_getElem (by omega)]
        exact hl0.2 _ (List.getElem_mem _)
      have hne : neB (.str [NW.getD k 0]) (.str [OD.getD k 0]) = some (decide (NW.getD k 0 ≠ OD.getD k 0)) := by
        unfold neB
        rw [eq_let l1 l2]
        simp
      generalize decide (NW.getD k 0 ≠ OD.getD k 0) = bb at hne ⊢
      generalize NW.getD k 0 = x at i1 hne
      generalize OD.getD k 0 = y at i2 hne
      unfold madeD at g21 g14
      simp (implicitDefEqProofs := false) [g8, g21, g14, i1, i2, hne]
    · have g8 : ((drp [8] env2).set 8 (some (SV.dat (.int (k : Nat)))))[8]? = some (some (.dat (.int (k : Nat)))) := set_same (n := 26) (by rw [drp_len]; exact h21.bb.le) (by omega)
      generalize (drp [8] env2).set 8 (some (SV.dat (.int (k : Nat)))) = env3 at g8 ⊢
      simp (implicitDefEqProofs := false) [g8]
  generalize hPL : (((List.range cl.length).filter fun k => isAt p.1 i (cl.getD k (.is 0))).map fun k => D.int (k : Nat)) = PLC at hc1
  have hPlen : PLC.length ≤ sizeLine := small_le (by
    rw [← hPL, List.length_map]
    have := List.length_filter_le (fun k => isAt p.1 i (cl.getD k (.is 0))) (List.range cl.length)
    rw [List.length_range] at this
    omega)
  have lenO : lenD (.str OD) = some (.int (cl.length : Nat)) := by
    unfold lenD
    dsimp only
    rw [if_pos (small_le (by omega)), hOl]
  have s2 : P_1b_6f_10t_0b_0b_2 env2 = eNx (env2.set 22 (some (.dat (.lst PLC)))) := by
    unfold madeD at e14
    generalize ((List.range cl.length).map fun i => D.int (i : Nat)) = RG at hrng hc1
    generalize (cl.length : Int) = CL at lenO hrng
    unfold P_1b_6f_10t_0b_0b_2
    simp (implicitDefEqProofs := false) [e14, lenO, hrng, hc1, hPlen]
  have h22 := h21.set 22 (some (.dat (.lst PLC))) (by omega)
  have f22 : (env2.set 22 (some (SV.dat (.lst PLC))))[22]? = some (some (.dat (.lst PLC))) := set_same h21.bb.le (by omega)
  have g16 : (env2.set 22 (some (SV.dat (.lst PLC))))[16]? = some (some (.dat (.tup [.str (cs "made"), .tup (cl.map Ce.enc)]))) := set_get e16 (by omega)
  have g17 : (env2.set 22 (some (SV.dat (.lst PLC))))[17]? = env[17]? := by rw [List.getElem?_set_ne (by omega), m17]
  have g18 : (env2.set 22 (some (SV.dat (.lst PLC))))[18]? = env[18]? := by rw [List.getElem?_set_ne (by omega), m18]
  have g19 : (env2.set 22 (some (SV.dat (.lst PLC))))[19]? = env[19]? := by rw [List.getElem?_set_ne (by omega), m19]
  generalize env2.set 22 (some (SV.dat (.lst PLC))) = env3 at h22 f22 g16 g17 g18 g19 s2
  rw [e17] at g17
  rw [e19] at g19
  have hchr : ∀ x ∈ p.1, x < 0x110000 := hb.chr p.1 (by
    rw [← (mem_rowsL.mp hr).1, ← ok.n]
    exact List.mem_map_of_mem hp)
  have hc2 : compL (gnam 8) (op2B eqB (frz (slE (op2 ixD (op2 ixD (evar 16) (ecst (.int 1))) (evar 8)) (partE none) (partE (some (ecst (.int 3)))))) (tupE (consA (ecst (.str (cs "at"))) (consA (evar 17) (consA (evar 19) nilA))))) (evar 8) (drp [8] env3) ((List.range cl.length).map fun i => D.int (i : Nat)) = M.pure PLC := by
    rw [← hPL]
    refine compL_filterOf (fun k : Nat => D.int (k : Nat)) (fun k : Nat => D.int (k : Nat)) (fun k => isAt p.1 i (cl.getD k (.is 0))) _ fun k hk => ⟨(drp [8] env3).set 8 (some (.dat (.int (k : Nat)))), rfl, ?_, fun _ => ?_⟩
    · have hk := List.mem_range.mp hk
      have q8 : ((drp [8] env3).set 8 (some (SV.dat (.int (k : Nat)))))[8]? = some (some (.dat (.int (k : Nat)))) := set_same (n := 26) (by rw [drp_len]; exact h22.bb.le) (by omega)
      have q16 : ((drp [8] env3).set 8 (some (SV.dat (.int (k : Nat)))))[16]? = some (some (.dat (.tup [.str (cs "made"), .tup (cl.map Ce.enc)]))) := by rw [List.getElem?_set_ne (by omega), drp_get _ _ _ (by simp)]; exact g16
      have q17 : ((drp [8] env3).set 8 (some (SV.dat (.int (k : Nat)))))[17]? = some (some (.dat (.str p.1))) := by rw [List.getElem?_set_ne (by omega), drp_get _ _ _ (by simp)]; exact g17
      have q19 : ((drp [8] env3).set 8 (some (SV.dat (.int (k : Nat)))))[19]? = some (some (.dat (.int (i : Nat)))) := by rw [List.getElem?_set_ne (by omega), drp_get _ _ _ (by simp)]; exact g19
      generalize (drp [8] env3).set 8 (some (SV.dat (.int (k : Nat)))) = env4 at q8 q16 q17 q19 ⊢
      have hce : cl[k] ∈ cl := List.getElem_mem hk
      obtain ⟨n, j, e, hn, hj⟩ := hcells.2 _ hce
      have h1 : cl.getD k (.is 0) = .at_ n j lets := by rw [List.getD_eq_getElem?_getD, List.getElem?_eq_getElem hk]; exact e
      rw [h1]
      have hix : ixD (.tup (cl.map Ce.enc)) (.int (k : Nat)) = some (Ce.at_ n j lets).enc := ixT (by rw [List.getElem?_map, List.getElem?_eq_getElem hk, e]; rfl)
      have hcut : slF (Ce.at_ n j lets).enc none (some 3) = some (.dat (.tup [.str (cs "at"), .str n, .int j])) := rfl
      have lkc := look_ce (.at_ n j lets)
      have hp1 : Pl 1 (.tup [.str (cs "at"), .str n, .int j]) := fun x hx => by
        simp only [List.mem_cons, List.not_mem_nil, or_false] at hx
        rcases hx with rfl | rfl | rfl
        · exact pl_cs _ _
        · exact hb.chr n hn
        · trivial
      have hp2 : Pl 1 (.tup [.str (cs "at"), .str p.1, .int i]) := fun x hx => by
        simp only [List.mem_cons, List.not_mem_nil, or_false] at hx
        rcases hx with rfl | rfl | rfl
        · exact pl_cs _ _
        · exact hchr
        · trivial
      have heq : eqB (.tup [.str (cs "at"), .str n, .int j]) (.tup [.str (cs "at"), .str p.1, .int i]) = some (isAt p.1 i (.at_ n j lets)) := by
        show _ = some (decide (n = p.1 ∧ j = i))
        by_cases q : n = p.1 ∧ j = i
        · rw [decide_eq_true q]
          exact eqB_yes hp1 hp2 (by omega) (by rw [q.1, q.2])
        · rw [decide_eq_false q]
          exact eqB_no hp1 hp2 (by omega) fun z => q (by
            simp only [D.tup.injEq, List.cons.injEq, D.str.injEq, D.int.injEq, and_true, true_and] at z
            exact ⟨z.1, by omega⟩)
      generalize isAt p.1 i (.at_ n j lets) = bb at heq ⊢
      generalize (Ce.at_ n j lets).enc = CE at hix hcut lkc
      generalize cl.map Ce.enc = CC at hix q16
      simp (implicitDefEqProofs := false) [q8, q16, q17, q19, hix, lkc, hcut, three, heq]
    · have q8 : ((drp [8] env3).set 8 (some (SV.dat (.int (k : Nat)))))[8]? = some (some (.dat (.int (k : Nat)))) := set_same (n := 26) (by rw [drp_len]; exact h22.bb.le) (by omega)
      generalize (drp [8] env3).set 8 (some (SV.dat (.int (k : Nat)))) = env4 at q8 ⊢
      simp (implicitDefEqProofs := false) [q8]
  have hplc : Pl 1 (.lst PLC) := fun x hx => by
    rw [← hPL] at hx
    obtain ⟨k, _, rfl⟩ := List.mem_map.mp hx
    trivial
  have hne := neB_yes hplc hplc (by omega) rfl
  have lenC : lenD (.tup (cl.map Ce.enc)) = some (.int (cl.length : Nat)) := by
    unfold lenD
    dsimp only
    rw [List.length_map]
  have lkP : look (.lst PLC) = M.pure (.lst PLC) := rfl
  have s3 : P_1b_6f_10t_0b_0b_3 env3 = eNx env3 := by
    generalize ((List.range cl.length).map fun i => D.int (i : Nat)) = RG at hrng hc2
    generalize (cl.length : Int) = CL at lenC hrng
    generalize cl.map Ce.enc = CC at lenC g16
    unfold P_1b_6f_10t_0b_0b_3
    simp (implicitDefEqProofs := false) [f22, g16, lenC, hrng, hc2, hPlen, lkP, hne]
  refine ⟨env3, S', ?_, h22, by rw [g17, e17], g18⟩
  unfold P_1b_6f_10t_0b_0b
  rw [seq_p s0, seq_at s1, seq_p s2, s3]
  rfl
end
end VX.K09
set_option Elab.async false
set_option linter.all false
set_option maxRecDepth 100000
set_option maxHeartbeats 4000000
namespace VX.K09
open PySem PySem.Spec PyProof.Rows L2
section
variable {ds : List Int} (hl : ds.length = 300) (hg : ∀ j ∈ ds, gd j)
theorem bare_pd {d : Dd} (h : Drawn d) : Pd (bare d) ∧ isBare (bare d) ∧ (bare d).ht ≤ 4 := by
  obtain ⟨h1, h2, h3⟩ := bare_ok d h.pl h.ok
  have := h.ht
  have := h.sz
  refine ⟨⟨bare_plain d h.pl, by omega, h1, by omega, two_len (x := cs "a") (y := cs "b") (nm_nodup _) fun s hs => ?_⟩, isBare_bare d h.pl, by omega⟩
  rcases bare_nm d h.pl s hs with q | q
  · exact h.nm s q
  · exact .inl q
/-- the letters of all contents -/
theorem letters_at {t : Nat} {b : Dd} (hb : Pd b) (hbare : isBare b) {row : Lens} (hr : row ∈ rowsL b.nm) {c : Conts} (ok : ContOk row c) (env : Env) (S : Sto) (h : B3 ds t b row c env) : ∃ env' S', P_1b_6f_10 env S = some (.nx env', S') ∧ T0 ds env' := by
  have nm1 : eqB (.str (cs "made")) (.str (cs "made")) = some true := by rw [eqB_cs]; rfl
  have nm2 : eqB (.str (cs "fault")) (.str (cs "made")) = some false := by rw [eqB_cs]; rfl
  have e16 := h.e16
  have h0 := ix0_setO (cellsO row b)
  have lk := look_setO (cellsO row b)
  cases hcl : cellsO row b with
  | none =>
    refine ⟨env, S, ?_, ⟨h.bb.le, h.bb.e1⟩⟩
    rw [hcl] at e16 h0 lk
    simp only [Option.isSome_none, Bool.false_eq_true, if_false] at h0
    generalize setO none = SO at e16 h0 lk
    unfold P_1b_6f_10
    simp (implicitDefEqProofs := false) [e16, lk, h0, nm2, nx_S]
  | some cl =>
    rw [hcl] at e16 h0 lk
    simp only [Option.isSome_some, if_true] at h0
    have hl40 : ∀ q ∈ c, q.2.length ≤ 40 := fun q hq => by
      have : q.2.length ∈ row.map (·.2) := by rw [← ok.l]; exact List.mem_map_of_mem (f := fun x : List Nat × List Nat => x.2.length) hq
      obtain ⟨z, hz, e⟩ := List.mem_map.mp this
      have := (mem_rowsL.mp hr).2 z hz
      omega
    obtain ⟨env2, S2, e2, t2⟩ := forL_inv (tf := gtup (gcons (gnam 17) (gcons (gnam 18) gnil))) (body := P_1b_6f_10t_0b) (B3 ds t b row c) (c.map fun p => D.tup [.str p.1, .str p.2]) (fun x hx env S h => by
      obtain ⟨p, hp, rfl⟩ := List.mem_map.mp hx
      refine ⟨(env.set 17 (some (.dat (.str p.1)))).set 18 (some (.dat (.str p.2))), rfl, ?_⟩
      have h17 := (h.set 17 (some (.dat (.str p.1))) (by omega)).set 18 (some (.dat (.str p.2))) (by omega)
      have f17 : ((env.set 17 (some (SV.dat (.str p.1)))).set 18 (some (.dat (.str p.2))))[17]? = some (some (.dat (.str p.1))) := set_get (set_same h.bb.le (by omega)) (by omega)
      have f18 : ((env.set 17 (some (SV.dat (.str p.1)))).set 18 (some (.dat (.str p.2))))[18]? = some (some (.dat (.str p.2))) := set_same (n := 26) (by rw [List.length_set]; exact h.bb.le) (by omega)
      generalize (env.set 17 (some (SV.dat (.str p.1)))).set 18 (some (.dat (.str p.2))) = env1 at h17 f17 f18 ⊢
      have hp40 := hl40 p hp
      obtain ⟨env3, S3, e3, t3⟩ := forL_inv (tf := gnam 19) (body := P_1b_6f_10t_0b_0b) (fun env => B3 ds t b row c env ∧ env[17]? = some (some (.dat (.str p.1))) ∧ env[18]? = some (some (.dat (.str p.2)))) ((List.range (if p.2.length < 3 then p.2.length else 3)).map fun i => D.int (i : Nat)) (fun x hx env S h => by
        obtain ⟨i, hi, rfl⟩ := List.mem_map.mp hx
        have hi := List.mem_range.mp hi
        have hi2 : i < p.2.length := by split at hi <;> omega
        refine ⟨_, rfl, ?_⟩
        obtain ⟨env4, S4, e4, t4, k17, k18⟩ := letter_step hb hbare hr ok hcl hp i hi2 (env.set 19 (some (.dat (.int (i : Nat))))) S (h.1.set 19 _ (by omega)) (set_get h.2.1 (by omega)) (set_same h.1.bb.le (by omega))
        exact ⟨env4, S4, e4, t4, by rw [k17]; exact set_get h.2.1 (by omega), by rw [k18]; exact set_get h.2.2 (by omega)⟩) env1 S ⟨h17, f17, f18⟩
      refine ⟨env3, S3, ?_, t3.1⟩
      have hlen : lenD (.str p.2) = some (.int (p.2.length : Nat)) := by
        unfold lenD
        dsimp only
        rw [if_pos (small_le (by omega))]
      have hmin : minD (.int 3) (.int (p.2.length : Nat)) = some (.int ((if p.2.length < 3 then p.2.length else 3 : Nat) : Int)) := by
        unfold minD intOp
        simp only [if_true]
        congr 2
        split <;> split <;> omega
      have hrg : rngI (.int ((if p.2.length < 3 then p.2.length else 3 : Nat) : Int)) = some ((List.range (if p.2.length < 3 then p.2.length else 3)).map fun i => D.int (i : Nat)) := rngN _ (by split <;> omega)
      generalize ((List.range (if p.2.length < 3 then p.2.length else 3)).map fun i => D.int (i : Nat)) = RG at hrg e3
      generalize ((if p.2.length < 3 then p.2.length else 3 : Nat) : Int) = MM at hmin hrg
      unfold P_1b_6f_10t_0b
      simp (implicitDefEqProofs := false) [f18, hlen, hmin, hrg, e3]) env S h
    refine ⟨env2, S2, ?_, ⟨t2.bb.le, t2.bb.e1⟩⟩
    have e9 := h.bb.e9
    have hit : c.tup.items = some (c.map fun p => D.tup [.str p.1, .str p.2]) := rfl
    generalize (c.map fun p => D.tup [.str p.1, .str p.2]) = IN at hit e2
    generalize c.tup = CT at hit e9
    generalize setO (some cl) = SO at e16 h0 lk
    unfold P_1b_6f_10 P_1b_6f_10t
    simp (implicitDefEqProofs := false) [e16, lk, h0, nm1, e9, hit, e2]
include hl hg in
theorem second {t : Nat} (ht : t < 6) {d : Dd} (hd : Drawn d) (env : Env) (S : Sto) (h : B ds t d env) : ∃ env' S', sSeq P_1b_6f_1 (sSeq P_1b_6f_2 (sSeq P_1b_6f_3 (sSeq P_1b_6f_4 (sSeq P_1b_6f_5 (sSeq P_1b_6f_6 (sSeq P_1b_6f_7 (sSeq P_1b_6f_8 (sSeq P_1b_6f_9 P_1b_6f_10)))))))) env S = some (.nx env', S') ∧ T0 ds env' := by
  obtain ⟨hb, hbare, hbh⟩ := bare_pd hd
  obtain ⟨sv, hbe, hbd⟩ := bare_enc 12 d (by have := hd.ht; omega) hd.pl hd.ok
  have hbe : F__law_bare [enc d] = M.pure sv := hbe
  generalize bare d = b at hb hbare hbh hbd
  have e3 := h.e3
  have s1 : P_1b_6f_1 env = eNx (env.set 11 (some (.dat (enc b)))) := by
    unfold P_1b_6f_1
    simp (implicitDefEqProofs := false) [e3, hbe, hbd]
  have h1 := h.set 11 (some (.dat (enc b))) (by omega)
  have f11 : (env.set 11 (some (SV.dat (enc b))))[11]? = some (some (.dat (enc b))) := set_same h.le (by omega)
  generalize env.set 11 (some (SV.dat (enc b))) = env1 at h1 f11 s1
  have hn := pd_needs hb hb.ht
  have s2 : P_1b_6f_2 env1 = eNx (env1.set 12 (some (.dat (.lst (b.nm.map D.str))))) := by
    unfold P_1b_6f_2
    simp (implicitDefEqProofs := false) [f11, hn]
  have h2 := h1.set 12 (some (.dat (.lst (b.nm.map D.str)))) (by omega)
  have g11 : (env1.set 12 (some (SV.dat (.lst (b.nm.map D.str)))))[11]? = some (some (.dat (enc b))) := set_get f11 (by omega)
  have g12 : (env1.set 12 (some (SV.dat (.lst (b.nm.map D.str)))))[12]? = some (some (.dat (.lst (b.nm.map D.str)))) := set_same h1.le (by omega)
  generalize env1.set 12 (some (SV.dat (.lst (b.nm.map D.str)))) = env2 at h2 g11 g12 s2
  -- lengths
  have hval := lens_val hl hg t 5 12 (by omega) (by omega) ht 23 17 b.nm hb.two env2 h2.e1 h2.e2 (by omega) (by omega) (by omega) (by omega)
  obtain ⟨q1, q2, q3, q4⟩ := lens_comp 23 17 26 (by omega) (by omega) (by omega) (lenH ds t 5 12) b.nm hb.two env2 h2.le _ hval
  have hrow : rowF (lenH ds t 5 12) b.nm ∈ rowsL b.nm := mem_rowsL.mpr ⟨rowF_n _ _, rowF_le (lenH_le hg t 5 12 (by omega) (by omega))⟩
  have s3 : P_1b_6f_3 env2 = eNx (env2.set 5 (some (.dat (rowF (lenH ds t 5 12) b.nm).tup))) := by
    rw [q4]
    generalize (((List.range b.nm.length).zip b.nm).map fun p => D.tup [.str p.2, .int (lenH ds t 5 12 p.1 : Nat)]) = OUT at q1 q3 ⊢
    generalize (((List.range b.nm.length).zip b.nm).map fun p => D.tup [.int (p.1 : Nat), .str p.2]) = IN at q1 q2
    have q1 : compL (gtup (gcons (gnam 23) (gcons (gnam 17) gnil))) yesT (tupE (consA (evar 17) (consA (op2 modD (op1 intD (op2 ixD (evar 1) (frz (op2F addF (frz (op2F addF (ecst (.int 240)) (evar 2))) (frz (op2F mulF (ecst (.int 5)) (evar 23))))))) (ecst (.int 12))) nilA))) (drp [23, 17] env2) IN = M.pure OUT := q1
    unfold P_1b_6f_3
    simp (implicitDefEqProofs := false) [g12, q2, q1, q3, tupD]
  generalize rowF (lenH ds t 5 12) b.nm = row at hrow s3
  have h3 := h2.set 5 (some (.dat row.tup)) (by omega)
  have k5 : (env2.set 5 (some (SV.dat row.tup)))[5]? = some (some (.dat row.tup)) := set_same h2.le (by omega)
  have k11 : (env2.set 5 (some (SV.dat row.tup)))[11]? = some (some (.dat (enc b))) := set_get g11 (by omega)
  generalize env2.set 5 (some (SV.dat row.tup)) = env3 at h3 k5 k11 s3
  -- contents
  have hrw := mem_rowsL.mp hrow
  have hrl : row.length ≤ 2 := by
    have h1 := congrArg List.length hrw.1
    have h2 := hb.two
    rw [List.length_map] at h1
    omega
  obtain ⟨c, hcut, hcc, ok⟩ := conts_drawn hl hg (200 + t) (by omega) hrl hrw.2
  have s4 : P_1b_6f_4 env3 = eNx (env3.set 9 (some (.dat c.tup))) := by
    have ee : ((200 + t : Nat) : Int) = 200 + (t : Int) := by omega
    rw [ee] at hcut
    have e1 := h3.e1
    have e2 := h3.e2
    generalize (ds.drop (200 + t)).map D.int = DD at hcut hcc
    unfold P_1b_6f_4
    simp (implicitDefEqProofs := false) [e1, e2, k5, addF, hcut, hcc]
  have h4 := h3.set 9 (some (.dat c.tup)) (by omega)
  have m5 : (env3.set 9 (some (SV.dat c.tup)))[5]? = some (some (.dat row.tup)) := set_get k5 (by omega)
  have m9 : (env3.set 9 (some (SV.dat c.tup)))[9]? = some (some (.dat c.tup)) := set_same h3.le (by omega)
  have m11 : (env3.set 9 (some (SV.dat c.tup)))[11]? = some (some (.dat (enc b))) := set_get k11 (by omega)
  generalize env3.set 9 (some (SV.dat c.tup)) = env4 at h4 m5 m9 m11 s4
  -- the shift
  have s5 : ∃ k : Nat, P_1b_6f_5 env4 = eNx (env4.set 13 (some (.dat (.int (k : Nat))))) := by
    have i1 := ix_DS (ds := ds) (i := 260 + (t : Int)) (by omega) (by omega)
    have g1 := getD_gd hg (260 + (t : Int)).toNat
    generalize ds.getD (260 + (t : Int)).toNat 0 = a at i1 g1
    refine ⟨(1 + a % 25).toNat, ?_⟩
    have e1 := h4.e1
    have e2 := h4.e2
    have hv : ((1 + a % 25).toNat : Int) = 1 + a % 25 := by omega
    rw [hv]
    unfold P_1b_6f_5
    simp (implicitDefEqProofs := false) [e1, e2, addF, i1, intD, modD, intOp]
  obtain ⟨k, s5⟩ := s5
  have b5 : B2 ds t b row c (env4.set 13 (some (.dat (.int (k : Nat))))) := ⟨by rw [List.length_set]; exact h4.le, set_get h4.e1 (by omega), set_get m5 (by omega), set_get m9 (by omega), set_get m11 (by omega)⟩
  have f13 : (env4.set 13 (some (SV.dat (.int (k : Nat)))))[13]? = some (some (.dat (.int (k : Nat)))) := set_same h4.le (by omega)
  generalize env4.set 13 (some (SV.dat (.int (k : Nat)))) = env5 at b5 f13 s5
  obtain ⟨S6, s6⟩ := one_at hb hrow ok env5 S b5
  have b6 := b5.set 14 (some (.dat (resO (tc (Conts.of c) b)))) (by omega) (by omega) (by omega) (by omega)
  have n13 : (env5.set 14 (some (SV.dat (resO (tc (Conts.of c) b)))))[13]? = some (some (.dat (.int (k : Nat)))) := set_get f13 (by omega)
  have n14 : (env5.set 14 (some (SV.dat (resO (tc (Conts.of c) b)))))[14]? = some (some (.dat (resO (tc (Conts.of c) b)))) := set_same b5.le (by omega)
  generalize env5.set 14 (some (SV.dat (resO (tc (Conts.of c) b)))) = env6 at b6 n13 n14 s6
  obtain ⟨S7, s7⟩ := two_at hb hrow ok k env6 S6 b6 n13
  have b7 := b6.set 15 (some (.dat (resO (tc (fun s => (Conts.of c s).map (trn k)) b)))) (by omega) (by omega) (by omega) (by omega)
  have o13 : (env6.set 15 (some (SV.dat (resO (tc (fun s => (Conts.of c s).map (trn k)) b)))))[13]? = some (some (.dat (.int (k : Nat)))) := set_get n13 (by omega)
  have o14 : (env6.set 15 (some (SV.dat (resO (tc (fun s => (Conts.of c s).map (trn k)) b)))))[14]? = some (some (.dat (resO (tc (Conts.of c) b)))) := set_get n14 (by omega)
  have o15 : (env6.set 15 (some (SV.dat (resO (tc (fun s => (Conts.of c s).map (trn k)) b)))))[15]? = some (some (.dat (resO (tc (fun s => (Conts.of c s).map (trn k)) b)))) := set_same b6.le (by omega)
  generalize env6.set 15 (some (SV.dat (resO (tc (fun s => (Conts.of c s).map (trn k)) b)))) = env7 at b7 o13 o14 o15 s7
  have s8 := turn_check hb hrow ok hbare k env7 o13 o14 o15
  obtain ⟨S9, hco⟩ := cells_of_row hb hrow S7
  have s9 : P_1b_6f_9 env7 S7 = some (.nx (env7.set 16 (some (.dat (setO (cellsO row b))))), S9) := by
    have e5 := b7.e5
    have e11 := b7.e11
    unfold P_1b_6f_9
    simp (implicitDefEqProofs := false) [e5, e11, lift_S, bind_S, pure_S, hco, nx_S]
  have b9 := b7.set 16 (some (.dat (setO (cellsO row b)))) (by omega) (by omega) (by omega) (by omega)
  have b3 : B3 ds t b row c (env7.set 16 (some (.dat (setO (cellsO row b))))) := ⟨b9, set_get o14 (by omega), set_same b7.le (by omega)⟩
  obtain ⟨env10, S10, s10, t10⟩ := letters_at hb hbare hrow ok _ S9 b3
  refine ⟨env10, S10, ?_, t10⟩
  rw [seq_p s1, seq_p s2, seq_p s3, seq_p s4, seq_p s5, seq_at s6, seq_at s7, seq_p s8, seq_at s9, s10]
include hl hg in
theorem turn (t : Nat) (ht : t < 6) (env : Env) (S : Sto) (h : T0 ds env) : ∃ env' S', P_1b (env.set 2 (some (.dat (.int (t : Nat))))) S = some (.nx env', S') ∧ T0 ds env' := by
  have l0 : (env.set 2 (some (SV.dat (.int (t : Nat))))).length = 26 := by rw [List.length_set]; exact h.le
  have a1 : (env.set 2 (some (SV.dat (.int (t : Nat)))))[1]? = some (some (.dat (DS ds))) := set_get h.e1 (by omega)
  have a2 : (env.set 2 (some (SV.dat (.int (t : Nat)))))[2]? = some (some (.dat (.int (t : Nat)))) := set_same h.le (by omega)
  generalize env.set 2 (some (SV.dat (.int (t : Nat)))) = env0 at l0 a1 a2 ⊢
  have two : (2 : Nat) ≤ sizeLine := small_le (by omega)
  -- the deed
  have s0 : ∃ d, Drawn d ∧ P_1b_0 env0 = eNx (env0.set 3 (some (.dat (enc d)))) := by
    have hcut := cut_DS (ds := ds) (40 * t) (by omega)
    have hm : mulF (.int 40) (.int (t : Nat)) = some (.dat (.int (40 * (t : Nat)))) := mulI' _ _ (by decide)
    have ee : ((40 * t : Nat) : Int) = 40 * (t : Int) := by omega
    rw [ee] at hcut
    have hmod : modD (.int (t : Nat)) (.int 2) = some (.int ((t : Int) % 2)) := rfl
    have hz : ∃ nl : List (List Nat), nl ≠ [] ∧ (∀ s ∈ nl, s = cs "a" ∨ s = cs "b") ∧ slF (.tup [.str (cs "a"), .str (cs "b")]) none (some (1 + (t : Int) % 2)) = some (.dat (.tup (nl.map D.str))) := by
      have : (t : Int) % 2 = 0 ∨ (t : Int) % 2 = 1 := by omega
      rcases this with q | q
      · refine ⟨[cs "a"], by simp, by simp, ?_⟩
        rw [q]; rfl
      · refine ⟨[cs "a", cs "b"], by simp, by simp, ?_⟩
        rw [q]; rfl
    obtain ⟨nl, hn, hab, hs⟩ := hz
    obtain ⟨d, r, gd⟩ := law_deed 12 3 (ds.drop (40 * t)) nl (by omega) (by rw [List.length_drop]; omega) (fun j hj => hg j (List.mem_of_mem_drop hj)) hn (fun s hs => by rcases hab s hs with rfl | rfl <;> decide)
    have r : F__law_deed [.lst ((ds.drop (40 * t)).map D.int), .tup (nl.map D.str), .int 3] = pv (enc d) := r
    refine ⟨d, ⟨gd.pl, gd.ht, gd.ok, fun s hs => hab s (gd.nm s hs), by have := gd.sz; simp at this; omega⟩, ?_⟩
    generalize (ds.drop (40 * t)).map D.int = DD at hcut r
    unfold P_1b_0
    simp (implicitDefEqProofs := false) [a1, a2, hm, hcut, hmod, addF, two, hs, r]
  obtain ⟨d, hd, s0⟩ := s0
  have hp := hd.pd
  have b0 : B ds t d (env0.set 3 (some (.dat (enc d)))) := ⟨by rw [List.length_set]; exact l0, set_get a1 (by omega), set_get a2 (by omega), set_same l0 (by omega)⟩
  generalize env0.set 3 (some (.dat (enc d))) = env1 at b0 s0
  have e3 := b0.e3
  have hn := hd.needs
  have s1 : P_1b_1 env1 = eNx (env1.set 4 (some (.dat (.lst (d.nm.map D.str))))) := by
    unfold P_1b_1
    simp (implicitDefEqProofs := false) [e3, hn]
  have b1 := b0.set 4 (some (.dat (.lst (d.nm.map D.str)))) (by omega)
  have f4 : (env1.set 4 (some (SV.dat (.lst (d.nm.map D.str)))))[4]? = some (some (.dat (.lst (d.nm.map D.str)))) := set_same b0.le (by omega)
  generalize env1.set 4 (some (SV.dat (.lst (d.nm.map D.str)))) = env2 at b1 f4 s1
  have hval := lens_val hl hg t 3 14 (by omega) (by omega) ht 23 17 d.nm hp.two env2 b1.e1 b1.e2 (by omega) (by omega) (by omega) (by omega)
  obtain ⟨q1, q2, q3, q4⟩ := lens_comp 23 17 26 (by omega) (by omega) (by omega) (lenH ds t 3 14) d.nm hp.two env2 b1.le _ hval
  have hrow : rowF (lenH ds t 3 14) d.nm ∈ rowsL d.nm := mem_rowsL.mpr ⟨rowF_n _ _, rowF_le (lenH_le hg t 3 14 (by omega) (by omega))⟩
  have s2 : P_1b_2 env2 = eNx (env2.set 5 (some (.dat (rowF (lenH ds t 3 14) d.nm).tup))) := by
    rw [q4]
    generalize (((List.range d.nm.length).zip d.nm).map fun p => D.tup [.str p.2, .int (lenH ds t 3 14 p.1 : Nat)]) = OUT at q1 q3 ⊢
    generalize (((List.range d.nm.length).zip d.nm).map fun p => D.tup [.int (p.1 : Nat), .str p.2]) = IN at q1 q2
    have q1 : compL (gtup (gcons (gnam 23) (gcons (gnam 17) gnil))) yesT (tupE (consA (evar 17) (consA (op2 modD (op1 intD (op2 ixD (evar 1) (frz (op2F addF (frz (op2F addF (ecst (.int 240)) (evar 2))) (frz (op2F mulF (ecst (.int 3)) (evar 23))))))) (ecst (.int 14))) nilA))) (drp [23, 17] env2) IN = M.pure OUT := q1
    unfold P_1b_2
    simp (implicitDefEqProofs := false) [f4, q2, q1, q3, tupD]
  generalize rowF (lenH ds t 3 14) d.nm = row at hrow s2
  have b2 := b1.set 5 (some (.dat row.tup)) (by omega)
  have f5 : (env2.set 5 (some (SV.dat row.tup)))[5]? = some (some (.dat row.tup)) := set_same b1.le (by omega)
  generalize env2.set 5 (some (SV.dat row.tup)) = env3 at b2 f5 s2
  obtain ⟨S3, hco⟩ := cells_of_row hp hrow S
  have s3 : P_1b_3 env3 S = some (.nx (env3.set 6 (some (.dat (setO (cellsO row d))))), S3) := by
    have e3 := b2.e3
    unfold P_1b_3
    simp (implicitDefEqProofs := false) [e3, f5, lift_S, bind_S, pure_S, hco, nx_S]
  have b3 := b2.set 6 (some (.dat (setO (cellsO row d)))) (by omega)
  have g5 : (env3.set 6 (some (SV.dat (setO (cellsO row d)))))[5]? = some (some (.dat row.tup)) := set_get f5 (by omega)
  have g6 : (env3.set 6 (some (SV.dat (setO (cellsO row d)))))[6]? = some (some (.dat (setO (cellsO row d)))) := set_same b2.le (by omega)
  generalize env3.set 6 (some (SV.dat (setO (cellsO row d)))) = env4 at b3 g5 g6 s3
  have z0 : (0 : Nat) ≤ sizeLine := Nat.zero_le _
  have s4 : P_1b_4 env4 = eNx (env4.set 7 (some (.lst []))) := by
    unfold P_1b_4
    simp (implicitDefEqProofs := false) [z0]
  have mk : Mk ds t d row 0 (env4.set 7 (some (.lst []))) := ⟨b3.set 7 _ (by omega), set_get g5 (by omega), set_get g6 (by omega), [], set_same b3.le (by omega), rfl, fun x hx => (nomatch hx)⟩
  generalize env4.set 7 (some (.lst [])) = env5 at mk s4
  obtain ⟨env6, S6, e6, mk6⟩ := forL_ix (tf := gnam 8) (body := P_1b_5b) (Mk ds t d row) ((List.range 4).map fun i => D.int (i : Nat)) 0 (fun i x hx env S h => by
    rw [List.getElem?_map] at hx
    obtain ⟨a, ha, rfl⟩ := Option.map_eq_some_iff.mp hx
    have hi : i < 4 := by
      have := (List.getElem?_eq_some_iff.mp ha).1
      simp at this
      exact this
    rw [List.getElem?_range hi] at ha
    cases ha
    rw [Nat.zero_add] at h ⊢
    exact ⟨_, rfl, made_step hl hg ht hp hrow i hi env S h⟩) env5 S3 mk
  have s5 : P_1b_5 env5 S3 = some (.nx env6, S6) := by
    have hr : rngI (.int 4) = some ((List.range 4).map fun i => D.int (i : Nat)) := rngN 4 (by omega)
    generalize ((List.range 4).map fun i => D.int (i : Nat)) = RG at hr e6
    unfold P_1b_5
    simp (implicitDefEqProofs := false) [hr, e6]
  obtain ⟨L, hL, hLl, hLm⟩ := mk6.e7
  have hfz : frzAt 7 env6 = env6.set 7 (some (.dat (.lst L))) := by
    unfold frzAt
    rw [hL]
    rfl
  have bz : B ds t d (env6.set 7 (some (.dat (.lst L)))) := mk6.b.set 7 _ (by omega)
  have z6 : (env6.set 7 (some (SV.dat (.lst L))))[6]? = some (some (.dat (setO (cellsO row d)))) := set_get mk6.e6 (by omega)
  have z7 : (env6.set 7 (some (SV.dat (.lst L))))[7]? = some (some (.dat (.lst L))) := set_same mk6.b.le (by omega)
  have s6 : P_1b_6 env6 = P_1b_6f (env6.set 7 (some (.dat (.lst L)))) := by
    unfold P_1b_6
    rw [sFrz_eq, hfz]
  generalize env6.set 7 (some (SV.dat (.lst L))) = env7 at bz z6 z7 s6
  have c0 := check_made hLm (by rw [hLl]; simp) (fun l hl => (lc_ok (fun s => fresh s (Lens.of row s)) d hp.ok (kc_fok hp (nm_nodup d) hrow (fun _ q => q)) l hl).1) env7 z6 z7 bz.le
  obtain ⟨env8, S8, e8, t8⟩ := second hl hg ht hd env7 S6 bz
  refine ⟨env8, S8, ?_, t8⟩
  unfold P_1b
  rw [seq_p s0, seq_p s1, seq_p s2, seq_at s3, seq_p s4, seq_at s5, s6]
  unfold P_1b_6f
  rw [seq_p c0, e8]
end
theorem law_true (ns : List Int) (hns : ns.length ≤ 63) : ∃ S', F_law [.scr ns] [] = some (.ok (.dat (.bl true)), S') := by
  obtain ⟨ds, hdr, hl, hg⟩ := draws_ok ns
  have hdr : F__law_draws [.scr ns, .int 300] = M.pure (.lst (ds.map D.int)) := hdr
  unfold F_law
  rw [P_eq, fnB_eq]
  generalize hE : ([D.scr ns].map fun d => some (SV.dat d)) ++ List.replicate (26 - [D.scr ns].length) none = env
  have hle : env.length = 26 := by rw [← hE]; rfl
  have h0 : env[0]? = some (some (.dat (.scr ns))) := by rw [← hE]; rfl
  have s0 : P_0 env = eNx (env.set 1 (some (.dat (DS ds)))) := by
    unfold P_0
    simp (implicitDefEqProofs := false) [h0, hdr]
    rfl
  have t0 : T0 ds (env.set 1 (some (.dat (DS ds)))) := ⟨by rw [List.length_set]; exact hle, set_same hle (by omega)⟩
  generalize env.set 1 (some (SV.dat (DS ds))) = env1 at t0 s0
  obtain ⟨env2, S2, s1, t2⟩ := forL_inv (tf := gnam 2) (body := P_1b) (T0 ds) ((List.range 6).map fun i => D.int (i : Nat)) (fun x hx env S h => by
    obtain ⟨j, hj, rfl⟩ := List.mem_map.mp hx
    exact ⟨_, rfl, turn hl hg j (List.mem_range.mp hj) env S h⟩) env1 [] t0
  have e1 : P_1 env1 [] = some (.nx env2, S2) := by
    have hr : rngI (.int 6) = some ((List.range 6).map fun i => D.int (i : Nat)) := rngN 6 (by omega)
    unfold P_1
    generalize ((List.range 6).map fun i => D.int (i : Nat)) = RG at hr s1
    simp (implicitDefEqProofs := false) [hr, s1]
  have s2 : P_2 env2 = eRt (.dat (.bl true)) := by
    unfold P_2
    simp (implicitDefEqProofs := false) []
  refine ⟨S2, ?_⟩
  show fnR (P env []) = _
  unfold P
  rw [seq_p s0, seq_at e1, s2]
  rfl
end VX.K09
set_option Elab.async false
set_option linter.all false
set_option maxRecDepth 100000
set_option maxHeartbeats 0
open PySem PySem.W PySem.Calls PyProof.Rows
theorem PySem.Challenge.cw_maketrue_k09_main_lengths_and_letters_holds : PySem.Challenge.rw_maketrue_k09_main_lengths_and_letters.Holds := by
  w_on; o_law
  refine HandSHeadRun.head_any (r := OpenLaw.row PySem.Challenge.rw_maketrue_k09_main_lengths_and_letters) (q := view (OpenLaw.row PySem.Challenge.rw_maketrue_k09_main_lengths_and_letters).prog [60]) (H := VX.K09.hk) (ob := VX.K09.ob) (M := 4000) (loose := VX.K09.loose) (d := HandSHeadRun.topDef (OpenLaw.row PySem.Challenge.rw_maketrue_k09_main_lengths_and_letters).prog 60) (kwd := []) VX.K09.ob_eq
    (by kernel_rfl) (fun s => by kernel_rfl) VX.K09.run (by kernel_rfl) (by kernel_rfl) (by kernel_rfl) (by rfl) (by first | assumption | decide +kernel) (by decide +kernel) ⟨rfl, rfl, rfl, rfl, rfl, by decide +kernel⟩ ?hw ?hc
  case hw => w_witness2
  case hc =>
    refine L2.walk_ofE (l := PySem.Challenge.rw_maketrue_k09_main_lengths_and_letters) (n := 63) (k := 28) (x := "script") (CX := VX.CXA) rfl (by decide) (by kernel_rfl) ⟨rfl, by decide, by decide⟩ ?F VX.cxA_none
    intro w mg fa h Y G hmg0
    obtain ⟨K, KX, c⟩ := Y
    have hmg : mg ("law" : PySem.Str) = some (.ref fa) := by
      have e : (HandSHeadRun.topDef (OpenLaw.row PySem.Challenge.rw_maketrue_k09_main_lengths_and_letters).prog 60).name = ("law" : PySem.Str) := by kernel_rfl
      rw [← e]
      exact hmg0
    obtain ⟨fd, FD⟩ := c.t.d.def_ 37 (d := VX.K09.dd_law) rfl
    have C := VX.K09.facts KX G c
    have e := hmg.symm.trans (He.glo_ok KX G (c.t.d.facts (f := .glo "law") (by simp [VX.K09.fa])))
    cases e
    have b := L2.FunD.bindsA (ps := ["script"]) FD fun _ _ _ _ _ _ us hl => match us, hl with | [_], _ => rfl
    refine ⟨K, fd, _, KX, fun s v => b s [v] rfl, fun H a ns hl _ hS => ?_, fun base _ _ => VX.cx_on (VX.K09.okl_law C FD) fun _ _ _ _ _ _ z => ⟨_, _, z⟩⟩
    obtain ⟨S', e⟩ := VX.K09.law_true ns hl
    exact VX.law_of H a ns e hS
