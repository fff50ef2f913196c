import PyProof.Rows.All
import Wide.All
import OpenK.AllK
import Wide.FinOn
import KE.KStateDown
import HandS.ForMost
import HandS.Exc
import HandS.TryOnly
import HandS.TryMany
import HandS.ExcOwn
import HandS.ExcInit
import HandS.ExcValue
import HandS.ExcField
import HandS.ExcIs
import HandS.WordsExc
import HandS.Defaults
import HandS.IsInst
import HandS.Wide
import HandS.Flow
import HandS.Head0
import HandS.Head1
import HandS.Head2
import HandS.HeadEnd
import HandS.HeadHook1
import HandS.HeadHook2
import HandS.StrMore
import HandS.StrSplit
import HandS.Style
import HandS.RevRange
import HandS.IntHex
import HandS.SetFor
import HandS.SortInts
import HandS.SortRule
import HandS.More
import HandS.NoneIn
import HandS.SortKw
import HandS.Zip
import KE.GoesMore
import KE.GoesEnum
import KE.GoesEnumKw
import KE.DataMinMax
import HandS.OwnEq
import OpenK.KOps
import HandS.MakeKw
import HandS.MakeKwOnly
import HandS.Small
import KE.KDictSum
import HandS.Text
import HandS.Replace
import HandS.Deep
import KE.KStrOpen
import HandS.HotCalls
import KE.KTryMore
import PySem.Challenge.RW_manylanes_k11_kinds_known
set_option Elab.async false
set_option linter.all false
set_option maxRecDepth 100000
set_option maxHeartbeats 4000000
namespace DL
open PySem PySem.Spec L2

/-- data as a tree; ref n: the n-th cell of the store -/
inductive D where
  | non | bl (b : Bool) | int (i : Int) | str (x : Str)
  | tup (ds : List D) | lst (ds : List D)
  | ins (c : Str) (ns : List Str) (ds : List D)
  | ref (n : Nat)
  | val (v : V)
  | bot
  | fln (ds : List D)
  /-- a caught exception: its object, its dict, its class, its fields -/
  | exn (a : Addr) (d : Option Addr) (c : Str) (ns : List Str) (ds : List D)

inductive Cell where
  | lst (ds : List D)
  | dct (ks : List Key) (ds : List D)
  /-- a dict that is walked: read, not written -/
  | fct (ks : List Key) (ds : List D)
  | ins (c : Str) (ns : List Str) (ds : List D)
  /-- a dict whose keys are tuples -/
  | dtt (ks : List (List Key)) (ds : List D)
  /-- an error object that was not raised, of an own class without own fields -/
  | exo (c : Str)

def isF : Cell → Bool
  | .fct _ _ => true
  | _ => false
abbrev Store := List (Option Cell)
abbrev Lc := List (Option D)

inductive Oc (α : Type) where
  | ok (a : α)
  | exc (c : Str) (fs : Option (List Str × List D)) (S : Store)
  | bad

def Live (S : Store) (n : Nat) : Prop := ∃ c, S[n]? = some (some c)

def isBot : D → Bool
  | .bot => true
  | _ => false
def nb : List D → Nat
  | [] => 0
  | d :: ds => (if isBot d then 0 else 1) + nb ds
/-- what isinstance asks of a class of the program -/
structure IsiC (K : PySem.W.Frag) (C : Addr) : Prop where
  ha : PySem.W.findIn K (.ref C) "__class__" = some (some (.builtin "object.__class__"))
  hn : PySem.W.specialIn K (.builtin "object.__class__") "__get__" = some (some (.builtin "getset_descriptor.__get__"))
  htk : PySem.W.takesIn K (.builtin "object.__class__") = some true
  hm : PySem.W.mroIn K C (.type "object") = some true
  no : ∀ T ∈ ["int", "bool", "str", "list", "tuple", "dict"], PySem.W.kitOne K (.ref C) (.type T) = some false
  tgt : ∀ T ∈ ["NoneType", "bool", "int", "str", "list", "tuple", "dict"], PySem.W.kitOne K (.type T) (.ref C) = some false
/-- an instance's names: what the class knows of them -/
structure InsOk (K : PySem.W.Frag) (c : Str) (ns : List Str) (ds : List D) (fs : List (Str × V)) : Prop where
  cls : Cls K (He.ga K c)
  isi : IsiC K (He.ga K c)
  noat : ∀ f ∈ ns, NoAttr K (He.ga K c) f
  len : ns.length = ds.length
  nd : ns.Nodup
  few : ds.length ≤ 900
  fl : fs.length ≤ nb ds
  only : ∀ f v, fs.lookup f = some v → f ∈ ns
section
variable (K : PySem.W.Frag)
mutual
def Rep (R : Hp) (S : Store) (ι : Nat → Addr) : D → V → Prop
  | .non, v => v = .non
  | .bl b, v => v = .bl b
  | .int i, v => v = .int i
  | .str x, v => v = .str x
  | .tup ds, v => ∃ a xs, v = .ref a ∧ SqT K R a xs ∧ RepL R S ι ds xs
  | .lst ds, v => ∃ a xs, v = .ref a ∧ R a = some (.lst xs) ∧ RepL R S ι ds xs
  | .fln ds, v => ∃ a xs, v = .ref a ∧ SqL K R a xs ∧ RepL R S ι ds xs
  | .ins c ns ds, v => ∃ a dx fs, v = .ref a ∧ R a = some (.ins (He.ga K c) dx fs) ∧ R dx = some (.own a) ∧ InsOk K c ns ds fs ∧ RepF R S ι ns ds fs
  | .ref n, v => ∃ a, v = .ref a ∧ n < S.length ∧ (Live S n → a = ι n)
  | .val u, v => v = u
  | .bot, _ => False
  | .exn a d _ ns ds, v => v = .ref a ∧ ((d = none ∧ ns = []) ∨ ∃ dd xs, d = some dd ∧ R dd = some (.xd (ns.zip xs)) ∧ ns.length = ds.length ∧ RepL R S ι ds xs)
def RepL (R : Hp) (S : Store) (ι : Nat → Addr) : List D → List V → Prop
  | [], xs => xs = []
  | d :: ds, xs => ∃ v vs, xs = v :: vs ∧ Rep R S ι d v ∧ RepL R S ι ds vs
/-- fields by their places -/
def RepF (R : Hp) (S : Store) (ι : Nat → Addr) : List Str → List D → List (Str × V) → Prop
  | n :: ns, .bot :: ds, fs => fs.lookup n = none ∧ RepF R S ι ns ds fs
  | n :: ns, d :: ds, fs => (∃ v, fs.lookup n = some v ∧ Rep R S ι d v) ∧ RepF R S ι ns ds fs
  | _, _, _ => True
end
def CellOk (R : Hp) (S : Store) (ι : Nat → Addr) (H : Hp) (a : Addr) : Cell → Prop
  | .lst ds => ∃ xs, H a = some (.lst xs) ∧ RepL K R S ι ds xs
  | .dct ks ds => ∃ xs, H a = some (.dK (ks.zip xs)) ∧ ks.length = ds.length ∧ RepL K R S ι ds xs
  | .ins c ns ds => ∃ dx fs, H a = some (.ins (He.ga K c) dx fs) ∧ R dx = some (.own a) ∧ InsOk K c ns ds fs ∧ RepF K R S ι ns ds fs
  | .fct ks ds => ∃ o xs, H a = some (.frz o (.dK (ks.zip xs))) ∧ R a = some (.frz o (.dK (ks.zip xs))) ∧ ks.length = ds.length ∧ RepL K R S ι ds xs
  | .dtt ks ds => ∃ xs, H a = some (.dT (ks.zip xs)) ∧ ks.length = ds.length ∧ RepL K R S ι ds xs
  | .exo c => H a = some (ExO (.ref (He.ga K c)) a)

structure Ab (Fr : Hp) (S : Store) (ι : Nat → Addr) (R H : Hp) : Prop where
  fsub : ∀ a o, Fr a = some o → H a = some o
  foff : ∀ a o, Fr a = some o → R a = none
  fcel : ∀ a o n c, Fr a = some o → S[n]? = some (some c) → ι n ≠ a
  sub : ∀ a o, R a = some o → H a = some o
  cell : ∀ n c, S[n]? = some (some c) → CellOk K R S ι H (ι n) c
  off : ∀ n c, S[n]? = some (some c) → isF c = false → R (ι n) = none
  inj : ∀ n m c c', S[n]? = some (some c) → S[m]? = some (some c') → ι n = ι m → n = m
end

structure Stp (S : Store) (ι : Nat → Addr) (R : Hp) (S' : Store) (ι' : Nat → Addr) (R' : Hp) : Prop where
  sub : ∀ a o, R a = some o → R' a = some o
  io : ∀ n, n < S.length → ι' n = ι n
  dead : ∀ n, n < S.length → Live S' n → Live S n
  len : S.length ≤ S'.length

theorem Stp.refl {S : Store} {ι : Nat → Addr} {R : Hp} : Stp S ι R S ι R := ⟨fun _ _ h => h, fun _ _ => rfl, fun _ _ h => h, Nat.le_refl _⟩
theorem Stp.trans {S S1 S2 : Store} {ι ι1 ι2 : Nat → Addr} {R R1 R2 : Hp} (a : Stp S ι R S1 ι1 R1) (b : Stp S1 ι1 R1 S2 ι2 R2) : Stp S ι R S2 ι2 R2 :=
  ⟨fun x o h => b.sub x o (a.sub x o h), fun n h => (b.io n (Nat.lt_of_lt_of_le h a.len)).trans (a.io n h), fun n h l => a.dead n h (b.dead n (Nat.lt_of_lt_of_le h a.len) l), Nat.le_trans a.len b.len⟩

theorem seqT_sub {K : PySem.W.Frag} {R R' : Hp} {a : Addr} {xs : List V} (e : ∀ a o, R a = some o → R' a = some o) (h : SqT K R a xs) : SqT K R' a xs := by
  rcases h with (h | ⟨o, h⟩) | h
  · exact .inl (.inl (e _ _ h))
  · exact .inl (.inr ⟨o, e _ _ h⟩)
  · exact .inr h

section
variable {K : PySem.W.Frag} {S S' : Store} {ι ι' : Nat → Addr} {R R' H : Hp}
mutual
theorem Rep.step (t : Stp S ι R S' ι' R') : ∀ {d : D} {v : V}, Rep K R S ι d v → Rep K R' S' ι' d v
  | .non, _, h => h
  | .bl _, _, h => h
  | .int _, _, h => h
  | .str _, _, h => h
  | .val _, _, h => h
  | .tup ds, v, h => by
    unfold Rep at h ⊢
    obtain ⟨a, xs, e, q, r⟩ := h
    exact ⟨a, xs, e, seqT_sub t.sub q, RepL.step t r⟩
  | .lst ds, v, h => by
    unfold Rep at h ⊢
    obtain ⟨a, xs, e, q, r⟩ := h
    exact ⟨a, xs, e, t.sub _ _ q, RepL.step t r⟩
  | .fln ds, v, h => by
    unfold Rep at h ⊢
    obtain ⟨a, xs, e, q, r⟩ := h
    exact ⟨a, xs, e, Same.seq t.sub q, RepL.step t r⟩
  | .ins c ns ds, v, h => by
    unfold Rep at h ⊢
    obtain ⟨a, dx, xs, e, q, q2, l, r⟩ := h
    exact ⟨a, dx, xs, e, t.sub _ _ q, t.sub _ _ q2, l, RepF.step t r⟩
  | .bot, _, h => h
  | .exn a d c ns ds, v, h => by
    unfold Rep at h ⊢
    obtain ⟨e, q⟩ := h
    refine ⟨e, ?_⟩
    rcases q with q | ⟨dd, xs, q1, q2, q3, q4⟩
    · exact .inl q
    · exact .inr ⟨dd, xs, q1, t.sub _ _ q2, q3, RepL.step t q4⟩
  | .ref n, v, h => by
    unfold Rep at h ⊢
    obtain ⟨a, e, l, q⟩ := h
    exact ⟨a, e, Nat.lt_of_lt_of_le l t.len, fun z => (q (t.dead n l z)).trans (t.io n l).symm⟩
theorem RepL.step (t : Stp S ι R S' ι' R') : ∀ {ds : List D} {xs : List V}, RepL K R S ι ds xs → RepL K R' S' ι' ds xs
  | [], _, h => h
  | d :: ds, xs, h => by
    unfold RepL at h ⊢
    obtain ⟨v, vs, e, r, q⟩ := h
    exact ⟨v, vs, e, Rep.step t r, RepL.step t q⟩
theorem RepF.step (t : Stp S ι R S' ι' R') : ∀ {ds : List D} {ns : List Str} {fs : List (Str × V)}, RepF K R S ι ns ds fs → RepF K R' S' ι' ns ds fs
  | [], [], _, h => by unfold RepF; trivial
  | [], _ :: _, _, h => by unfold RepF; trivial
  | _ :: _, [], _, h => by unfold RepF; trivial
  | d :: ds, n :: ns, fs, h => by
    have go : (∃ v, fs.lookup n = some v ∧ Rep K R S ι d v) ∧ RepF K R S ι ns ds fs → (∃ v, fs.lookup n = some v ∧ Rep K R' S' ι' d v) ∧ RepF K R' S' ι' ns ds fs := fun ⟨⟨v, e, r⟩, q⟩ => ⟨⟨v, e, Rep.step t r⟩, RepF.step t q⟩
    cases d with
    | bot => unfold RepF at h ⊢; exact ⟨h.1, RepF.step t h.2⟩
    | _ => unfold RepF at h ⊢; exact go h
end
end
end DL

set_option Elab.async false
set_option linter.all false
set_option maxRecDepth 100000
set_option maxHeartbeats 4000000
namespace DL
open PySem PySem.Spec L2
variable {Fr : Hp}

/-! ### outcomes -/
abbrev RelD (α β : Type) := Hp → Store → (Nat → Addr) → α → β → Prop
abbrev XF := Option (List Str × List D)
def XRep (K : PySem.W.Frag) (R : Hp) (S : Store) (ι : Nat → Addr) : XF → Option Addr → Prop
  | none, d => d = none
  | some (ns, ds), d => ∃ a xs, d = some a ∧ R a = some (.xd (ns.zip xs)) ∧ ns.length = ds.length ∧ RepL K R S ι ds xs

def wpO {α β : Type} (rel : RelD α β) (K : PySem.W.Frag) (Fr : Hp) (S : Store) (ι : Nat → Addr) (R : Hp) (o : Oc (α × Store)) (Q : β → Hp → Prop) (E : XK) : Prop :=
  match o with
  | .ok (d, S') => ∀ v ι' R' H', Stp S ι R S' ι' R' → Ab K Fr S' ι' R' H' → rel R' S' ι' d v → Q v H'
  | .exc c fs S' => ∀ dx ι' R' H', Stp S ι R S' ι' R' → Ab K Fr S' ι' R' H' → XRep K R' S' ι' fs dx → E (.ref (He.ga K c)) dx H'
  | .bad => False

def Oc.bind {α β : Type} (o : Oc (α × Store)) (f : α → Store → Oc (β × Store)) : Oc (β × Store) :=
  match o with
  | .ok (a, S) => f a S
  | .exc c fs S => .exc c fs S
  | .bad => .bad

theorem wpO.step {α β : Type} {rel : RelD α β} {K : PySem.W.Frag} {S S1 : Store} {ι ι1 : Nat → Addr} {R R1 : Hp} {o : Oc (α × Store)} {Q : β → Hp → Prop} {E : XK}
    (h : wpO rel K Fr S ι R o Q E) (t : Stp S ι R S1 ι1 R1) : wpO rel K Fr S1 ι1 R1 o Q E := by
  cases o with
  | ok a => exact fun v ι' R' H' s => h v ι' R' H' (t.trans s)
  | exc c fs S' => exact fun v ι' R' H' s => h v ι' R' H' (t.trans s)
  | bad => exact h
theorem wpO.bind {α β γ δ : Type} {rel : RelD α β} {rel2 : RelD γ δ} {K : PySem.W.Frag} {S : Store} {ι : Nat → Addr} {R : Hp} {o : Oc (α × Store)} {f : α → Store → Oc (γ × Store)} {P : β → Hp → Prop} {Q : δ → Hp → Prop} {E : XK}
    (h : wpO rel2 K Fr S ι R (o.bind f) Q E) (k : ∀ d S1 v ι1 R1 H1, Stp S ι R S1 ι1 R1 → Ab K Fr S1 ι1 R1 H1 → rel R1 S1 ι1 d v → wpO rel2 K Fr S1 ι1 R1 (f d S1) Q E → P v H1) : wpO rel K Fr S ι R o P E := by
  cases o with
  | ok a => exact fun v ι' R' H' s ab r => k a.1 a.2 v ι' R' H' s ab r (wpO.step h s)
  | exc c fs S' => exact h
  | bad => exact h
theorem wpO.ok {α β : Type} {rel : RelD α β} {K : PySem.W.Frag} {S : Store} {ι : Nat → Addr} {R H : Hp} {d : α} {v : β} {Q : β → Hp → Prop} {E : XK} (h : wpO rel K Fr S ι R (.ok (d, S)) Q E) (ab : Ab K Fr S ι R H) (r : rel R S ι d v) : Q v H :=
  h v ι R H .refl ab r

def Locs (K : PySem.W.Frag) : RelD Lc St := fun R S ι δ σ => δ.length = σ.length ∧ ∀ (i : Nat) (d : D), δ[i]? = some (some d) → ∃ v, σ[i]? = some (some v) ∧ Rep K R S ι d v
theorem Locs.step {K : PySem.W.Frag} {S S' : Store} {ι ι' : Nat → Addr} {R R' : Hp} {δ : Lc} {σ : St} (h : Locs K R S ι δ σ) (t : Stp S ι R S' ι' R') : Locs K R' S' ι' δ σ :=
  ⟨h.1, fun i d e => let ⟨v, e2, r⟩ := h.2 i d e; ⟨v, e2, r.step t⟩⟩
theorem Locs.set {K : PySem.W.Frag} {S : Store} {ι : Nat → Addr} {R : Hp} {δ : Lc} {σ : St} (h : Locs K R S ι δ σ) {d : D} {v : V} (r : Rep K R S ι d v) (j : Nat) : Locs K R S ι (δ.set j (some d)) (σ.set j (some v)) := by
  refine ⟨by simp [h.1], fun i e he => ?_⟩
  by_cases hi : j = i
  · subst hi
    have hl : j < δ.length := by
      have := (List.getElem?_eq_some_iff.mp he).1
      simpa using this
    rw [List.getElem?_set_self hl] at he
    cases he
    exact ⟨v, List.getElem?_set_self (by rw [← h.1]; exact hl), r⟩
  · rw [List.getElem?_set_ne hi] at he
    rw [List.getElem?_set_ne hi]
    exact h.2 i e he
theorem Locs.clear {K : PySem.W.Frag} {S : Store} {ι : Nat → Addr} {R : Hp} {δ : Lc} {σ : St} (h : Locs K R S ι δ σ) (j : Nat) (o : Option V) : Locs K R S ι (δ.set j none) (σ.set j o) := by
  refine ⟨by simp [h.1], fun i e he => ?_⟩
  by_cases hi : j = i
  · subst hi
    have hl : j < δ.length := by
      have := (List.getElem?_eq_some_iff.mp he).1
      simpa using this
    rw [List.getElem?_set_self hl] at he
    cases he
  · rw [List.getElem?_set_ne hi] at he
    rw [List.getElem?_set_ne hi]
    exact h.2 i e he

/-! ### judgements -/
abbrev LE := Lc → Store → Oc (D × Store)
abbrev LA := Lc → Store → Oc (List D × Store)
abbrev LT := Lc → Store → Oc (Bool × Store)
def relB : RelD Bool Bool := fun _ _ _ a b => b = a
/-- the canonical reading of an expression of that meaning -/
def cO {α β : Type} (rel : RelD α β) (K : PySem.W.Frag) (W : WX) (g : Lc → Store → Oc (α × Store)) : St → Hp → (β → Hp → Prop) → Prop := fun σ H Q =>
  ∃ δ S ι R Fr, Ab K Fr S ι R H ∧ Locs K R S ι δ σ ∧ wpO rel K Fr S ι R (g δ S) Q fun c d H' => W c d σ H'
abbrev DE (X : Cx) (W : WX) (e : Expr) (g : LE) : Prop := PE X e (cO (Rep X.K) X.K W g)
abbrev DA (X : Cx) (W : WX) (es : List Expr) (g : LA) : Prop := PA X es (cO (RepL X.K) X.K W g)
abbrev DT (X : Cx) (W : WX) (e : Expr) (g : LT) : Prop := PT X e (cO relB X.K W g)
abbrev DW (X : Cx) (W : WX) (e : Expr) (g : LT) : Prop := PW X e (cO relB X.K W g)
theorem PE.imp {X : Cx} {e : Expr} {t t' : TE} (h : PE X e t) (i : ∀ σ H Q, t' σ H Q → t σ H Q) : PE X e t' := ⟨fun p s σ H Q I q => h.run p s σ H Q I (i _ _ _ q)⟩
theorem PT.imp {X : Cx} {e : Expr} {t t' : TT} (h : PT X e t) (i : ∀ σ H Q, t' σ H Q → t σ H Q) : PT X e t' := ⟨fun p s σ H Q I q => h.run p s σ H Q I (i _ _ _ q)⟩
theorem PW.imp {X : Cx} {e : Expr} {t t' : TT} (h : PW X e t) (i : ∀ σ H Q, t' σ H Q → t σ H Q) : PW X e t' := ⟨fun w p s σ H Q I q => h.run w p s σ H Q I (i _ _ _ q)⟩
theorem PA.imp {X : Cx} {e : List Expr} {t t' : TA} (h : PA X e t) (i : ∀ σ H Q, t' σ H Q → t σ H Q) : PA X e t' := ⟨fun w p s σ H Q I q => h.run w p s σ H Q I (i _ _ _ q)⟩
theorem PS.imp {X : Cx} {e : Stmt} {t t' : TS} (h : PS X e t) (i : ∀ D σ H, t' D σ H → t D σ H) : PS X e t' := ⟨fun p s σ H D I q => h.run p s σ H D I (i _ _ _ q)⟩
theorem PSs.imp {X : Cx} {e : List Stmt} {t t' : TS} (h : PSs X e t) (i : ∀ D σ H, t' D σ H → t D σ H) : PSs X e t' := ⟨fun p s σ H D I q => h.run p s σ H D I (i _ _ _ q)⟩

/-- bind within a canonical reading -/
theorem cO.bind {α β γ δ' : Type} {rel : RelD α β} {rel2 : RelD γ δ'} {K : PySem.W.Frag} {W : WX} {g : Lc → Store → Oc (α × Store)} {f : α → Lc → Store → Oc (γ × Store)} {σ : St} {H : Hp} {P : β → Hp → Prop} {Q : δ' → Hp → Prop}
    (h : cO rel2 K W (fun δ S => (g δ S).bind fun a S1 => f a δ S1) σ H Q)
    (k : ∀ d v δ S1 ι1 R1 Fr H1, Ab K Fr S1 ι1 R1 H1 → Locs K R1 S1 ι1 δ σ → rel R1 S1 ι1 d v → wpO rel2 K Fr S1 ι1 R1 (f d δ S1) Q (fun c d H' => W c d σ H') → P v H1) : cO rel K W g σ H P := by
  obtain ⟨δ, S, ι, R, Fr, ab, lo, w⟩ := h
  exact ⟨δ, S, ι, R, Fr, ab, lo, wpO.bind w fun d S1 v ι1 R1 H1 st ab1 r w1 => k d v δ S1 ι1 R1 Fr H1 ab1 (lo.step st) r w1⟩

/-! ### names, constants -/
def xVar (i : Nat) : LE := fun δ S => match δ[i]? with
  | some (some d) => .ok (d, S)
  | _ => .bad
def xC (d : D) : LE := fun _ S => .ok (d, S)
section
variable {X : Cx} {W : WX}
theorem de_var (i : Nat) {x : Str} {pos : Pos} (hN : X.N[i]? = some x := by rfl) (hv : Vis X.env.scope x := by first | exact Or.inl rfl | exact Or.inr (Or.inl rfl) | exact Or.inr (Or.inr rfl)) (hd : (x == ("__debug__" : Str)) = false := by decide)
    (hcd : (x == ("__classdict__" : Str)) = false := by decide) : DE X W (.Name x pos) (xVar i) :=
  PE.imp (pe_var (i := i) hN hv hd hcd) fun σ H Q ⟨δ, S, ι, R, Fr, ab, lo, w⟩ => by
    unfold xVar at w
    cases e : δ[i]? with
    | none => rw [e] at w; exact w.elim
    | some o =>
      cases o with
      | none => rw [e] at w; exact w.elim
      | some d =>
        rw [e] at w
        obtain ⟨v, e2, r⟩ := lo.2 i d e
        exact ⟨v, e2, w.ok ab r⟩
/-- a constant value: of every world the same -/
def Konst (K : PySem.W.Frag) (d : D) (v : V) : Prop := ∀ R S ι, Rep K R S ι d v
theorem konst_of {K : PySem.W.Frag} {d : D} {v : V} (h : ∀ R S ι, Rep K R S ι d v) : Konst K d v := h
theorem de_const {e : Expr} {v : V} {d : D} (h : PE X e (tC v)) (r : Konst X.K d v) : DE X W e (xC d) :=
  PE.imp h fun σ H Q ⟨δ, S, ι, R, Fr, ab, lo, w⟩ => w.ok ab (r R S ι)
theorem de_int {i : Int} {j : Nat} {pos : Pos} : DE X W (.Constant (.int i) j pos) (xC (.int i)) := de_const pe_int fun _ _ _ => by unfold Rep; rfl
theorem de_bl {i : Bool} {j : Nat} {pos : Pos} : DE X W (.Constant (.bool i) j pos) (xC (.bl i)) := de_const pe_bl fun _ _ _ => by unfold Rep; rfl
theorem de_non {j : Nat} {pos : Pos} : DE X W (.Constant .none j pos) (xC .non) := de_const pe_non fun _ _ _ => by unfold Rep; rfl
theorem de_str {i : Str} {j : Nat} {pos : Pos} : DE X W (.Constant (.str i) j pos) (xC (.str i)) := de_const pe_str fun _ _ _ => by unfold Rep; rfl
/-- a module's constant -/
theorem de_glob {x : Str} {v : V} {u : Value} {d : D} {pos : Pos} (hg : Gl X x) (hm : X.mg x = some u) (r : RelV v u) (k : Konst X.K d v) (hd : (x == ("__debug__" : Str)) = false := by decide) : DE X W (.Name x pos) (xC d) := de_const (pe_glob hg hm r hd) k

/-! ### operators by values -/
abbrev F1 := D → Store → Oc (D × Store)
abbrev F2 := D → D → Store → Oc (D × Store)
def x1 (f : F1) (a : LE) : LE := fun δ S => (a δ S).bind fun d S1 => f d S1
def x2 (f : F2) (a b : LE) : LE := fun δ S => (a δ S).bind fun d S1 => (b δ S1).bind fun e S2 => f d e S2
/-- f tells what the rule r gives -/
def Op2 (K : PySem.W.Frag) (r : R2) (f : F2) : Prop := ∀ (Fr : Hp) (S : Store) (ι : Nat → Addr) (R H : Hp) (d e : D) (x y : V) (Q : VK) (E : XK), Ab K Fr S ι R H → Rep K R S ι d x → Rep K R S ι e y → wpO (Rep K) K Fr S ι R (f d e S) Q E → r x y H Q
def Op1 (K : PySem.W.Frag) (r : V → Hp → VK → Prop) (f : F1) : Prop := ∀ (Fr : Hp) (S : Store) (ι : Nat → Addr) (R H : Hp) (d : D) (x : V) (Q : VK) (E : XK), Ab K Fr S ι R H → Rep K R S ι d x → wpO (Rep K) K Fr S ι R (f d S) Q E → r x H Q
theorem op2_read {X : Cx} {r : R2} {f : F2} (h : Op2 X.K r f) {ga gb : LE} : ∀ σ H Q, cO (Rep X.K) X.K W (x2 f ga gb) σ H Q → tOp r (cO (Rep X.K) X.K W ga) (cO (Rep X.K) X.K W gb) σ H Q := fun σ H Q w =>
  cO.bind (f := fun d δ S1 => (gb δ S1).bind fun e S2 => f d e S2) w fun d x δ S1 ι1 R1 Fr H1 ab lo rx w1 =>
    ⟨δ, S1, ι1, R1, Fr, ab, lo, wpO.bind w1 fun e S2 y ι2 R2 H2 st ab2 ry w2 => h Fr S2 ι2 R2 H2 d e x y Q _ ab2 (rx.step st) ry w2⟩
variable {a b e : Expr} {ga gb : LE} {pos : Pos}
theorem de_op {op : Operator} {r : R2} {f : F2} (h : Op2 X.K r f) (ho : OpR X (binaryOp op) r) (ha : DE X W a ga) (hb : DE X W b gb) : DE X W (.BinOp a op b pos) (x2 f ga gb) := PE.imp (pe_op ho ha hb) (op2_read h)
theorem de_cmp {op : CmpOp} {r : R2} {f : F2} (h : Op2 X.K r f) (ho : OpR X (compareOp op) r) (ha : DE X W a ga) (hb : DE X W b gb) (hm : behindInMarks op b = false) : DE X W (.Compare a [op] [b] pos) (x2 f ga gb) := PE.imp (pe_cmpR ho ha hb hm) (op2_read h)
theorem de_ix {r : R2} {f : F2} (h : Op2 X.K r f) (ho : IxR X r) (ha : DE X W a ga) (hb : DE X W b gb) (hs : PlainIx b) : DE X W (.Subscript a b pos) (x2 f ga gb) := PE.imp (pe_ix ho ha hb hs) (op2_read h)
theorem de_un {op : UnaryOp} {r : V → Hp → VK → Prop} {f : F1} (h : Op1 X.K r f) (ho : UnR X (unaryOp op) r) (ha : DE X W a ga) : DE X W (.UnaryOp op a pos) (x1 f ga) :=
  PE.imp (pe_un ho ha) fun σ H Q w => cO.bind (f := fun d δ S1 => f d S1) w fun d x δ S1 ι1 R1 Fr H1 ab lo rx w1 => h Fr S1 ι1 R1 H1 d x Q _ ab rx w1

/-! ### tests -/
def tB (g : LE) : LT := fun δ S => (g δ S).bind fun d S1 => match d with
  | .bl b => .ok (b, S1)
  | _ => .bad
theorem rep_bl {K : PySem.W.Frag} {R : Hp} {S : Store} {ι : Nat → Addr} {b : Bool} {v : V} (h : Rep K R S ι (.bl b) v) : v = .bl b := by unfold Rep at h; exact h
theorem tB_read {K : PySem.W.Frag} {g : LE} : ∀ σ H Q, cO relB K W (tB g) σ H Q → tTest (cO (Rep K) K W g) σ H Q := fun σ H Q w =>
  cO.bind (f := fun d δ S1 => match d with | .bl b => .ok (b, S1) | _ => .bad) w fun d x δ S1 ι1 R1 Fr H1 ab lo rx w1 => by
    cases d with
    | bl b => exact ⟨b, rep_bl rx, w1.ok ab rfl⟩
    | _ => exact w1.elim
theorem dt_cmp {op : CmpOp} {r : R2} {f : F2} (h : Op2 X.K r f) (ho : OpR X (compareOp op) r) (ha : DE X W a ga) (hb : DE X W b gb) (hm : behindInMarks op b = false) : DT X W (.Compare a [op] [b] pos) (tB (x2 f ga gb)) := by
  refine PT.imp (pt_cmpR ho ha hb hm) fun σ H Q w => ?_
  have z := tB_read _ _ _ w
  exact op2_read h _ _ _ z
theorem dt_val (h : DE X W e ga) (he : ∀ whole, isTrue e X.env whole = (do let v ← whole; standAt e.pos; holding [v] (truthy v)) := by intro _; rfl) : DT X W e (tB ga) :=
  PT.imp (pt_val h he) (tB_read)
def tAndD (a b : LT) : LT := fun δ S => (a δ S).bind fun c S1 => if c = true then b δ S1 else .ok (false, S1)
def tOrD (a b : LT) : LT := fun δ S => (a δ S).bind fun c S1 => if c = true then .ok (true, S1) else b δ S1
def tNotD (a : LT) : LT := fun δ S => (a δ S).bind fun c S1 => .ok (!c, S1)
variable {rest : List Expr} {ta tb : LT}
theorem dw_and1 (ha : DT X W a ta) : DW X W (.BoolOp .And [a] pos) ta := pw_and1 ha
theorem dw_or1 (ha : DT X W a ta) : DW X W (.BoolOp .Or [a] pos) ta := pw_or1 ha
theorem dw_and (ha : DT X W a ta) (hb : DW X W (.BoolOp .And (b :: rest) pos) tb) : DW X W (.BoolOp .And (a :: b :: rest) pos) (tAndD ta tb) :=
  PW.imp (pw_and ha hb) fun σ H Q w => cO.bind (f := fun c δ S1 => if c = true then tb δ S1 else .ok (false, S1)) w fun c x δ S1 ι1 R1 Fr H1 ab lo rx w1 => by
    obtain rfl : x = c := rx
    cases x with
    | true => exact iteT ⟨δ, S1, ι1, R1, Fr, ab, lo, w1⟩
    | false => exact iteF (wpO.ok (rel := relB) w1 ab rfl)
theorem dw_or (ha : DT X W a ta) (hb : DW X W (.BoolOp .Or (b :: rest) pos) tb) : DW X W (.BoolOp .Or (a :: b :: rest) pos) (tOrD ta tb) :=
  PW.imp (pw_or ha hb) fun σ H Q w => cO.bind (f := fun c δ S1 => if c = true then .ok (true, S1) else tb δ S1) w fun c x δ S1 ι1 R1 Fr H1 ab lo rx w1 => by
    obtain rfl : x = c := rx
    cases x with
    | false => exact iteF ⟨δ, S1, ι1, R1, Fr, ab, lo, w1⟩
    | true => exact iteT (wpO.ok (rel := relB) w1 ab rfl)
theorem dw_pt {t : LT} (h : DW X W e t) : DT X W e t := PW.pt h
theorem dt_not (ha : DT X W a ta) : DT X W (.UnaryOp .Not a pos) (tNotD ta) :=
  PT.imp (pt_not ha) fun σ H Q w => cO.bind (f := fun c δ S1 => .ok (!c, S1)) w fun c x δ S1 ι1 R1 Fr H1 ab lo rx w1 => by
    obtain rfl : x = c := rx
    exact w1.ok ab rfl
/-! and, or, not as values: all but the last bool -/
def xAndD (a b : LE) : LE := fun δ S => (a δ S).bind fun c S1 => match c with
  | .bl true => b δ S1
  | .bl false => .ok (.bl false, S1)
  | _ => .bad
def xOrD (a b : LE) : LE := fun δ S => (a δ S).bind fun c S1 => match c with
  | .bl false => b δ S1
  | .bl true => .ok (.bl true, S1)
  | _ => .bad
def xNotD (a : LE) : LE := fun δ S => (a δ S).bind fun c S1 => match c with
  | .bl c => .ok (.bl (!c), S1)
  | _ => .bad
theorem rep_bl_intro {K : PySem.W.Frag} {R : Hp} {S : Store} {ι : Nat → Addr} {b : Bool} : Rep K R S ι (.bl b) (.bl b) := by unfold Rep; rfl
theorem de_one {op : BoolOp} (ha : DE X W a ga) : DE X W (.BoolOp op [a] pos) ga := pe_one ha
theorem de_and (ha : DE X W a ga) (hb : DE X W (.BoolOp .And (b :: rest) pos) gb) : DE X W (.BoolOp .And (a :: b :: rest) pos) (xAndD ga gb) :=
  PE.imp (pe_and ha hb) fun σ H Q w => cO.bind (f := fun c δ S1 => match c with | .bl true => gb δ S1 | .bl false => .ok (.bl false, S1) | _ => .bad) w fun c x δ S1 ι1 R1 Fr H1 ab lo rx w1 => by
    cases c with
    | bl c =>
      refine ⟨c, rep_bl rx, ?_⟩
      cases c with
      | true => exact iteT ⟨δ, S1, ι1, R1, Fr, ab, lo, w1⟩
      | false => exact iteF (w1.ok ab rep_bl_intro)
    | _ => exact w1.elim
theorem de_or (ha : DE X W a ga) (hb : DE X W (.BoolOp .Or (b :: rest) pos) gb) : DE X W (.BoolOp .Or (a :: b :: rest) pos) (xOrD ga gb) :=
  PE.imp (pe_or ha hb) fun σ H Q w => cO.bind (f := fun c δ S1 => match c with | .bl false => gb δ S1 | .bl true => .ok (.bl true, S1) | _ => .bad) w fun c x δ S1 ι1 R1 Fr H1 ab lo rx w1 => by
    cases c with
    | bl c =>
      refine ⟨c, rep_bl rx, ?_⟩
      cases c with
      | false => exact iteF ⟨δ, S1, ι1, R1, Fr, ab, lo, w1⟩
      | true => exact iteT (w1.ok ab rep_bl_intro)
    | _ => exact w1.elim
theorem de_not (ha : DE X W a ga) : DE X W (.UnaryOp .Not a pos) (xNotD ga) :=
  PE.imp (pe_not ha) fun σ H Q w => cO.bind (f := fun (c : D) (δ : Lc) (S1 : Store) => (match c with | .bl c => Oc.ok (D.bl (!c), S1) | _ => Oc.bad : Oc (D × Store))) w fun c x δ S1 ι1 R1 Fr H1 ab lo rx w1 => by
    cases c with
    | bl c => exact ⟨c, rep_bl rx, w1.ok ab rep_bl_intro⟩
    | _ => exact w1.elim
/-- not of a test as a value: not (test) where the test is any expression with a PT -/
def xIf (t : LT) (a b : LE) : LE := fun δ S => (t δ S).bind fun c S1 => if c = true then a δ S1 else b δ S1
theorem de_if {c : Expr} (hc : DT X W c ta) (ha : DE X W a ga) (hb : DE X W b gb) : DE X W (.IfExp c a b pos) (xIf ta ga gb) :=
  PE.imp (pe_ifExp hc ha hb) fun σ H Q w => cO.bind (f := fun c δ S1 => if c = true then ga δ S1 else gb δ S1) w fun c x δ S1 ι1 R1 Fr H1 ab lo rx w1 => by
    obtain rfl : x = c := rx
    cases x with
    | true => exact iteT ⟨δ, S1, ι1, R1, Fr, ab, lo, w1⟩
    | false => exact iteF ⟨δ, S1, ι1, R1, Fr, ab, lo, w1⟩
/-! ### arguments, displays -/
def xNil : LA := fun _ S => .ok ([], S)
def xCons (a : LE) (r : LA) : LA := fun δ S => (a δ S).bind fun d S1 => (r δ S1).bind fun ds S2 => .ok (d :: ds, S2)
theorem da_nil : DA X W [] xNil := PA.imp pa_nil fun σ H Q ⟨δ, S, ι, R, Fr, ab, lo, w⟩ => w.ok ab (by unfold RepL; rfl)
theorem repL_cons {K : PySem.W.Frag} {R : Hp} {S : Store} {ι : Nat → Addr} {d : D} {ds : List D} {v : V} {vs : List V} (r : Rep K R S ι d v) (q : RepL K R S ι ds vs) : RepL K R S ι (d :: ds) (v :: vs) := by
  unfold RepL; exact ⟨v, vs, rfl, r, q⟩
theorem repL_nil {K : PySem.W.Frag} {R : Hp} {S : Store} {ι : Nat → Addr} : RepL K R S ι [] [] := by unfold RepL; rfl
theorem da_cons {es : List Expr} {gs : LA} (ha : DE X W e ga) (hr : DA X W es gs) (hs : starEach (e :: es) X.env = (false, eval e X.env) :: starEach es X.env := by rfl) : DA X W (e :: es) (xCons ga gs) :=
  PA.imp (pa_cons ha hr hs) fun σ H Q w => cO.bind (f := fun d δ S1 => (gs δ S1).bind fun ds S2 => .ok (d :: ds, S2)) w fun d x δ S1 ι1 R1 Fr H1 ab lo rx w1 =>
    ⟨δ, S1, ι1, R1, Fr, ab, lo, wpO.bind w1 fun ds S2 vs ι2 R2 H2 st ab2 rs w2 => w2.ok ab2 (repL_cons (rx.step st) rs)⟩
end
end DL

set_option Elab.async false
set_option linter.all false
set_option maxRecDepth 100000
set_option maxHeartbeats 4000000
namespace DL
open PySem PySem.Spec L2
variable {Fr : Hp}

inductive Fl where
  | nx | brk | cont | ret (d : D)
inductive Os where
  | ok (f : Fl) (δ : Lc) (S : Store)
  | exc (c : Str) (fs : XF) (δ : Lc) (S : Store)
  | bad
abbrev LS := Lc → Store → Os

def wpS (K : PySem.W.Frag) (Fr : Hp) (S : Store) (ι : Nat → Addr) (R : Hp) (o : Os) (D : Ends) (W : WX) : Prop :=
  match o with
  | .ok .nx δ S' => ∀ σ ι' R' H', Stp S ι R S' ι' R' → Ab K Fr S' ι' R' H' → Locs K R' S' ι' δ σ → D.nx σ H'
  | .ok .brk δ S' => ∀ σ ι' R' H', Stp S ι R S' ι' R' → Ab K Fr S' ι' R' H' → Locs K R' S' ι' δ σ → D.bk σ H'
  | .ok .cont δ S' => ∀ σ ι' R' H', Stp S ι R S' ι' R' → Ab K Fr S' ι' R' H' → Locs K R' S' ι' δ σ → D.ct σ H'
  | .ok (.ret d) δ S' => ∀ v ι' R' H', Stp S ι R S' ι' R' → Ab K Fr S' ι' R' H' → Rep K R' S' ι' d v → D.rt v H'
  | .exc c fs δ S' => ∀ σ dx ι' R' H', Stp S ι R S' ι' R' → Ab K Fr S' ι' R' H' → Locs K R' S' ι' δ σ → XRep K R' S' ι' fs dx → W (.ref (He.ga K c)) dx σ H'
  | .bad => False

theorem wpS.step {K : PySem.W.Frag} {S S1 : Store} {ι ι1 : Nat → Addr} {R R1 : Hp} {o : Os} {D : Ends} {W : WX}
    (h : wpS K Fr S ι R o D W) (t : Stp S ι R S1 ι1 R1) : wpS K Fr S1 ι1 R1 o D W := by
  cases o with
  | ok f δ S' =>
    cases f with
    | nx => exact fun σ ι' R' H' s => h σ ι' R' H' (t.trans s)
    | brk => exact fun σ ι' R' H' s => h σ ι' R' H' (t.trans s)
    | cont => exact fun σ ι' R' H' s => h σ ι' R' H' (t.trans s)
    | ret d => exact fun σ ι' R' H' s => h σ ι' R' H' (t.trans s)
  | exc c fs δ S' => exact fun σ dx ι' R' H' s => h σ dx ι' R' H' (t.trans s)
  | bad => exact h

/-- the canonical reading of a statement -/
def cS (K : PySem.W.Frag) (W : WX) (g : LS) : TS := fun D σ H => ∃ δ S ι R Fr, Ab K Fr S ι R H ∧ Locs K R S ι δ σ ∧ wpS K Fr S ι R (g δ S) D W
abbrev DS (X : Cx) (W : WX) (st : Stmt) (g : LS) : Prop := PS X st (cS X.K W g)
abbrev DSs (X : Cx) (W : WX) (sts : List Stmt) (g : LS) : Prop := PSs X sts (cS X.K W g)

/-- bind of an expression's outcome into a statement -/
def bindE {α : Type} (δ : Lc) (o : Oc (α × Store)) (f : α → Store → Os) : Os :=
  match o with
  | .ok (a, S) => f a S
  | .exc c fs S => .exc c fs δ S
  | .bad => .bad
theorem cS.bindE {α β : Type} {rel : RelD α β} {K : PySem.W.Frag} {W : WX} {g : Lc → Store → Oc (α × Store)} {f : Lc → α → Store → Os} {σ : L2.St} {H : Hp} {P : β → Hp → Prop} {D : Ends}
    (h : cS K W (fun δ S => bindE δ (g δ S) (f δ)) D σ H)
    (k : ∀ d v δ S1 ι1 R1 Fr H1, Ab K Fr S1 ι1 R1 H1 → Locs K R1 S1 ι1 δ σ → rel R1 S1 ι1 d v → wpS K Fr S1 ι1 R1 (f δ d S1) D W → P v H1) : cO rel K W g σ H P := by
  obtain ⟨δ, S, ι, R, Fr, ab, lo, w⟩ := h
  refine ⟨δ, S, ι, R, Fr, ab, lo, ?_⟩
  have w : wpS K Fr S ι R (DL.bindE δ (g δ S) (f δ)) D W := w
  unfold DL.bindE at w
  cases e : g δ S with
  | ok a =>
    rw [e] at w
    exact fun v ι' R' H' st ab' r => k a.1 v δ a.2 ι' R' Fr H' ab' (lo.step st) r (w.step st)
  | exc c fs S' =>
    rw [e] at w
    exact fun dx ι' R' H' st ab' xr => w σ dx ι' R' H' st ab' (lo.step st) xr
  | bad =>
    rw [e] at w
    exact w

theorem wpS.bindE {α β : Type} {rel : RelD α β} {K : PySem.W.Frag} {W : WX} {S : Store} {ι : Nat → Addr} {R : Hp} {δ : Lc} {σ : L2.St} {o : Oc (α × Store)} {f : α → Store → Os} {P : β → Hp → Prop} {D : Ends}
    (w : wpS K Fr S ι R (DL.bindE δ o f) D W) (lo : Locs K R S ι δ σ) (k : ∀ d S1 v ι1 R1 H1, Stp S ι R S1 ι1 R1 → Ab K Fr S1 ι1 R1 H1 → rel R1 S1 ι1 d v → wpS K Fr S1 ι1 R1 (f d S1) D W → P v H1) :
    wpO rel K Fr S ι R o P fun c x H' => W c x σ H' := by
  cases o with
  | ok a => exact fun v ι' R' H' st ab' r => k a.1 a.2 v ι' R' H' st ab' r (wpS.step w st)
  | exc c fs S' => exact fun dx ι' R' H' st ab' xr => w σ dx ι' R' H' st ab' (lo.step st) xr
  | bad => exact w
def sNil : LS := fun δ S => .ok .nx δ S
def sSeq (a b : LS) : LS := fun δ S => match a δ S with
  | .ok .nx δ' S' => b δ' S'
  | o => o
def sExpr (g : LE) : LS := fun δ S => bindE δ (g δ S) fun _ S1 => .ok .nx δ S1
def sSet (i : Nat) (g : LE) : LS := fun δ S => bindE δ (g δ S) fun d S1 => .ok .nx (δ.set i (some d)) S1
def sRet (g : LE) : LS := fun δ S => bindE δ (g δ S) fun d S1 => .ok (.ret d) δ S1
def sIf (t : LT) (a b : LS) : LS := fun δ S => bindE δ (t δ S) fun c S1 => if c = true then a δ S1 else b δ S1
section
variable {X : Cx} {W : WX} {st : Stmt} {sts : List Stmt} {ga gb : LS} {g : LE} {e : Expr} {pos pos' : Pos}
theorem ds_nil : DSs X W [] sNil := PSs.imp pss_nil fun D σ H ⟨δ, S, ι, R, Fr, ab, lo, w⟩ => w σ ι R H .refl ab lo
theorem seq_read {K : PySem.W.Frag} : ∀ D σ H, cS K W (sSeq ga gb) D σ H → tSeq (cS K W ga) (cS K W gb) D σ H := fun D σ H ⟨δ, S, ι, R, Fr, ab, lo, w⟩ => by
  refine ⟨δ, S, ι, R, Fr, ab, lo, ?_⟩
  unfold sSeq at w
  cases e : ga δ S with
  | ok f δ1 S1 =>
    rw [e] at w
    cases f with
    | nx => exact fun σ1 ι1 R1 H1 st ab1 lo1 => ⟨δ1, S1, ι1, R1, Fr, ab1, lo1, w.step st⟩
    | brk => exact w
    | cont => exact w
    | ret d => exact w
  | exc c fs δ1 S1 =>
    rw [e] at w
    exact w
  | bad =>
    rw [e] at w
    exact w
theorem ds_cons (h1 : DS X W st ga) (h2 : DSs X W sts gb) : DSs X W (st :: sts) (sSeq ga gb) := PSs.imp (pss_cons h1 h2) seq_read
theorem ds_one (h1 : DS X W st ga) : DSs X W [st] ga := pss_one h1
theorem ds_pass : DS X W (.Pass pos) sNil := PS.imp ps_pass fun D σ H ⟨δ, S, ι, R, Fr, ab, lo, w⟩ => w σ ι R H .refl ab lo
def sBrk : LS := fun δ S => .ok .brk δ S
def sCont : LS := fun δ S => .ok .cont δ S
theorem ds_break : DS X W (.Break pos) sBrk := PS.imp ps_break fun D σ H ⟨δ, S, ι, R, Fr, ab, lo, w⟩ => w σ ι R H .refl ab lo
theorem ds_continue : DS X W (.Continue pos) sCont := PS.imp ps_continue fun D σ H ⟨δ, S, ι, R, Fr, ab, lo, w⟩ => w σ ι R H .refl ab lo
theorem ds_doc {x : Str} {j : Nat} : DS X W (.Expr (.Constant (.str x) j pos) pos') sNil := PS.imp ps_doc fun D σ H ⟨δ, S, ι, R, Fr, ab, lo, w⟩ => w σ ι R H .refl ab lo
theorem ds_expr (he : DE X W e g) (hs : swapsWith e none pos.line X.env = pure false := by rfl) : DS X W (.Expr e pos) (sExpr g) :=
  PS.imp (ps_expr he hs) fun D σ H w => cS.bindE (f := fun δ _ S1 => .ok .nx δ S1) w fun d v δ S1 ι1 R1 Fr H1 ab lo r w1 => w1 σ ι1 R1 H1 .refl ab lo
theorem ds_set (i : Nat) {x : Str} {pos1 : Pos} (hN : X.N.Nodup) (he : DE X W e g) (hi : X.N[i]? = some x := by rfl) (hx : L2.Loc X.env.scope x := by first | exact Or.inl rfl | exact Or.inr rfl) (hs : swapsWith e (some (.Name x pos1)) pos.line X.env = pure false := by rfl)
    (hf : X.fn x = true ∨ X.env.scope.names.lookup x = some .local := by first | exact .inl rfl | exact .inr rfl | assumption) : DS X W (.Assign [.Name x pos1] e pos) (sSet i g) :=
  PS.imp (ps_set hN hi hx he hs hf) fun D σ H w => cS.bindE (f := fun δ d S1 => .ok .nx (δ.set i (some d)) S1) w fun d v δ S1 ι1 R1 Fr H1 ab lo r w1 => w1 (σ.set i (some v)) ι1 R1 H1 .refl ab (lo.set r i)
theorem ds_ret (he : DE X W e g) : DS X W (.Return (some e) pos) (sRet g) :=
  PS.imp (ps_ret he) fun D σ H w => cS.bindE (f := fun δ d S1 => .ok (.ret d) δ S1) w fun d v δ S1 ι1 R1 Fr H1 ab lo r w1 => w1 v ι1 R1 H1 .refl ab r
theorem rep_non {K : PySem.W.Frag} {R : Hp} {S : Store} {ι : Nat → Addr} : Rep K R S ι .non .non := by unfold Rep; rfl
def sRetN : LS := fun δ S => .ok (.ret .non) δ S
theorem ds_retN : DS X W (.Return none pos) sRetN := PS.imp ps_retN fun D σ H ⟨δ, S, ι, R, Fr, ab, lo, w⟩ => w .non ι R H .refl ab rep_non
theorem ds_if {c : Expr} {a b : List Stmt} {t : LT} (hc : DT X W c t) (ha : DSs X W a ga) (hb : DSs X W b gb) : DS X W (.If c a b pos) (sIf t ga gb) :=
  PS.imp (ps_if hc ha hb) fun D σ H w => cS.bindE (f := fun δ c S1 => if c = true then ga δ S1 else gb δ S1) w fun c x δ S1 ι1 R1 Fr H1 ab lo rx w1 => by
    obtain rfl : x = c := rx
    cases x with
    | true => exact iteT ⟨δ, S1, ι1, R1, Fr, ab, lo, w1⟩
    | false => exact iteF ⟨δ, S1, ι1, R1, Fr, ab, lo, w1⟩

/-! ### targets -/
abbrev LG := D → Lc → Store → Oc (Lc × Store)
def cG (K : PySem.W.Frag) (g : LG) : TG := fun v σ H Q => ∃ d δ S ι R Fr, Ab K Fr S ι R H ∧ Locs K R S ι δ σ ∧ Rep K R S ι d v ∧ wpO (Locs K) K Fr S ι R (g d δ S) Q fun _ _ _ => False
abbrev LGs := List D → Lc → Store → Oc (Lc × Store)
def cGs (K : PySem.W.Frag) (g : LGs) : TGs := fun vs σ H Q => ∃ ds δ S ι R Fr, Ab K Fr S ι R H ∧ Locs K R S ι δ σ ∧ RepL K R S ι ds vs ∧ wpO (Locs K) K Fr S ι R (g ds δ S) Q fun _ _ _ => False
abbrev DG (X : Cx) (e : Expr) (g : LG) : Prop := PG X e (cG X.K g)
abbrev DGs (X : Cx) (es : List Expr) (g : LGs) : Prop := PGs X es (cGs X.K g)
theorem PG.imp {X : Cx} {e : Expr} {t t' : TG} (h : PG X e t) (i : ∀ v σ H Q, t' v σ H Q → t v σ H Q) : PG X e t' := ⟨fun p s σ H v u Q I r q => h.run p s σ H v u Q I r (i _ _ _ _ q)⟩
theorem PGs.imp {X : Cx} {es : List Expr} {t t' : TGs} (h : PGs X es t) (i : ∀ v σ H Q, t' v σ H Q → t v σ H Q) : PGs X es t' := ⟨fun p s σ H v u Q I r q => h.run p s σ H v u Q I r (i _ _ _ _ q)⟩
def gNm (i : Nat) : LG := fun d δ S => .ok (δ.set i (some d), S)
theorem dg_name (i : Nat) {x : Str} (hN : X.N.Nodup) (hi : X.N[i]? = some x := by rfl) (hx : L2.Loc X.env.scope x := by first | exact Or.inl rfl | exact Or.inr rfl) (hf : X.fn x = true ∨ X.env.scope.names.lookup x = some .local := by first | exact .inl rfl | exact .inr rfl | assumption) : DG X (.Name x pos) (gNm i) :=
  PG.imp (pg_name hN hi hx hf) fun v σ H Q ⟨d, δ, S, ι, R, Fr, ab, lo, r, w⟩ => w.ok ab (lo.set r i)
def gNl : LGs := fun ds δ S => match ds with
  | [] => .ok (δ, S)
  | _ => .bad
def gCn (g : LG) (gs : LGs) : LGs := fun ds δ S => match ds with
  | d :: ds => (g d δ S).bind fun δ1 S1 => gs ds δ1 S1
  | _ => .bad

theorem dgs_nil : DGs X [] gNl := PGs.imp pgs_nil fun vs σ H Q ⟨ds, δ, S, ι, R, Fr, ab, lo, r, w⟩ => by
  cases ds with
  | nil =>
    unfold RepL at r
    exact ⟨r, w.ok ab lo⟩
  | cons d ds => exact w.elim
theorem dgs_cons {es : List Expr} {gg : LG} {gs : LGs} (h1 : DG X e gg) (h2 : DGs X es gs) (hs : (assignEach (e :: es) X.env).map (·.2) = assign e X.env :: (assignEach es X.env).map (·.2) := by rfl) : DGs X (e :: es) (gCn gg gs) := PGs.imp (pgs_cons h1 h2 hs) fun vs σ H Q ⟨ds, δ, S, ι, R, Fr, ab, lo, r, w⟩ => by
  cases ds with
  | nil => exact w.elim
  | cons d ds =>
    unfold RepL at r
    obtain ⟨v, vs', e1, r1, r2⟩ := r
    refine ⟨v, vs', e1, d, δ, S, ι, R, Fr, ab, lo, r1, ?_⟩
    exact wpO.bind w fun δ1 S1 σ1 ι1 R1 H1 st ab1 lo1 w1 => ⟨ds, δ1, S1, ι1, R1, Fr, ab1, lo1, r2.step st, w1⟩
end
theorem RepL.length {K : PySem.W.Frag} {R : Hp} {S : Store} {ι : Nat → Addr} : ∀ {ds : List D} {xs : List V}, RepL K R S ι ds xs → xs.length = ds.length
  | [], xs, h => by unfold RepL at h; rw [h]; rfl
  | d :: ds, xs, h => by
    unfold RepL at h
    obtain ⟨v, vs, e, _, r⟩ := h
    rw [e, List.length_cons, List.length_cons, RepL.length r]
theorem RepL.get {K : PySem.W.Frag} {R : Hp} {S : Store} {ι : Nat → Addr} : ∀ {ds : List D} {xs : List V} {i : Nat} {d : D}, RepL K R S ι ds xs → ds[i]? = some d → ∃ v, xs[i]? = some v ∧ Rep K R S ι d v
  | [], _, _, _, _, e => by simp at e
  | d :: ds, xs, i, d', h, e => by
    unfold RepL at h
    obtain ⟨v, vs, e1, r1, r⟩ := h
    subst e1
    cases i with
    | zero => simp at e; subst e; exact ⟨v, by simp, r1⟩
    | succ i =>
      obtain ⟨u, e2, r2⟩ := RepL.get (i := i) (d := d') r (by simpa using e)
      exact ⟨u, by simpa using e2, r2⟩
theorem RepL.append {K : PySem.W.Frag} {R : Hp} {S : Store} {ι : Nat → Addr} : ∀ {ds es : List D} {xs ys : List V}, RepL K R S ι ds xs → RepL K R S ι es ys → RepL K R S ι (ds ++ es) (xs ++ ys)
  | [], _, xs, _, h, q => by unfold RepL at h; subst h; exact q
  | d :: ds, es, xs, ys, h, q => by
    unfold RepL at h
    obtain ⟨v, vs, e1, r1, r⟩ := h
    subst e1
    exact repL_cons r1 (RepL.append r q)
theorem RepL.take {K : PySem.W.Frag} {R : Hp} {S : Store} {ι : Nat → Addr} : ∀ {ds : List D} {xs : List V} (n : Nat), RepL K R S ι ds xs → RepL K R S ι (ds.take n) (xs.take n)
  | [], xs, n, h => by unfold RepL at h; subst h; simp; exact repL_nil
  | d :: ds, xs, 0, h => by simp; exact repL_nil
  | d :: ds, xs, n + 1, h => by
    unfold RepL at h
    obtain ⟨v, vs, e1, r1, r⟩ := h
    subst e1
    simp only [List.take_succ_cons]
    exact repL_cons r1 (RepL.take n r)
theorem RepL.drop {K : PySem.W.Frag} {R : Hp} {S : Store} {ι : Nat → Addr} : ∀ {ds : List D} {xs : List V} (n : Nat), RepL K R S ι ds xs → RepL K R S ι (ds.drop n) (xs.drop n)
  | [], xs, n, h => by unfold RepL at h; subst h; simp; exact repL_nil
  | d :: ds, xs, 0, h => by simpa using h
  | d :: ds, xs, n + 1, h => by
    unfold RepL at h
    obtain ⟨v, vs, e1, r1, r⟩ := h
    subst e1
    simp only [List.drop_succ_cons]
    exact RepL.drop n r
theorem RepL.set {K : PySem.W.Frag} {R : Hp} {S : Store} {ι : Nat → Addr} : ∀ {ds : List D} {xs : List V} (n : Nat) {d : D} {v : V}, RepL K R S ι ds xs → Rep K R S ι d v → RepL K R S ι (ds.set n d) (xs.set n v)
  | [], xs, n, _, _, h, _ => by unfold RepL at h; subst h; simp; exact repL_nil
  | d :: ds, xs, n, d', v', h, q => by
    unfold RepL at h
    obtain ⟨v, vs, e1, r1, r⟩ := h
    subst e1
    cases n with
    | zero => exact repL_cons q r
    | succ n => exact repL_cons r1 (RepL.set n r q)
section
variable {X : Cx} {W : WX} {st : Stmt} {sts : List Stmt} {ga gb : LS} {g : LE} {e : Expr} {pos pos' : Pos}
/-- a tuple that is unpacked -/
def gTp (n : Nat) (gs : LGs) : LG := fun d δ S => match d with
  | .tup ds => if ds.length = n then gs ds δ S else .bad
  | _ => .bad
theorem gTp_read {K : PySem.W.Frag} {gs : LGs} {n : Nat} : ∀ v σ H Q, cG K (gTp n gs) v σ H Q → gTup K n (cGs K gs) v σ H Q := fun v σ H Q ⟨d, δ, S, ι, R, Fr, ab, lo, r, w⟩ => by
  cases d with
  | tup ds =>
    unfold Rep at r
    obtain ⟨a, xs, e1, sq, rs⟩ := r
    have w' : wpO (Locs K) K Fr S ι R (if ds.length = n then gs ds δ S else .bad) Q (fun _ _ _ => False) := w
    by_cases hl : ds.length = n
    · rw [if_pos hl] at w'
      exact ⟨a, xs, e1, seqT_sub ab.sub sq, by rw [rs.length]; exact hl, ds, δ, S, ι, R, Fr, ab, lo, rs, w'⟩
    · rw [if_neg hl] at w'
      exact w'.elim
  | _ => exact w.elim
theorem dg_tup {es : List Expr} {k : Nat} {gs : LGs} (hc : X.calm = true) (h : DGs X es gs) {n : Nat} (hn : (assignEach es X.env).length = n := by rfl) (hst : (assignEach es X.env).findIdx? (·.1) = none := by rfl) : DG X (.Tuple es k pos) (gTp n gs) :=
  PG.imp (pg_tup hc h hn hst) gTp_read
/-- x, y = e -/
def sGo (o : Oc (Lc × Store)) : Os := match o with
  | .ok (δ2, S2) => .ok .nx δ2 S2
  | _ => .bad
def sAsg (g : LE) (t : LG) : LS := fun δ S => bindE δ (g δ S) fun d S1 => sGo (t d δ S1)
theorem sGo_read {K : PySem.W.Frag} {S : Store} {ι : Nat → Addr} {R : Hp} {o : Oc (Lc × Store)} {D : Ends} (w : wpS K Fr S ι R (sGo o) D W) : wpO (Locs K) K Fr S ι R o D.nx fun _ _ _ => False := by
  cases o with
  | ok a => exact fun σ2 ι' R' H' st ab' lo2 => w σ2 ι' R' H' st ab' lo2
  | exc c fs S' => exact w.elim
  | bad => exact w
theorem ds_asg {tg : Expr} {gt : LG} (he : DE X W e g) (hg : DG X tg gt) (hs : swapsWithSole [tg] e pos.line X.env = pure false := by rfl) (hw : swappedStores [tg] e X.env = pure none := by rfl) (h1 : (assignEach [tg] X.env).map (·.2) = [assign tg X.env] := by rfl) : DS X W (.Assign [tg] e pos) (sAsg g gt) :=
  PS.imp (ps_asg he hg hs hw h1) fun D σ H w => cS.bindE (f := fun δ d S1 => sGo (gt d δ S1)) w fun d v δ S1 ι1 R1 Fr H1 ab lo r w1 => ⟨d, δ, S1, ι1, R1, Fr, ab, lo, r, sGo_read w1⟩
end

/-! ### while -/
open Classical in
def whGo (c : LT) (b : LS) : Nat → LS
  | 0 => fun _ _ => .bad
  | n + 1 => fun δ S => bindE δ (c δ S) fun k S1 => if k = true then (match b δ S1 with
      | .ok .nx δ2 S2 => whGo c b n δ2 S2
      | .ok .cont δ2 S2 => whGo c b n δ2 S2
      | .ok .brk δ2 S2 => .ok .nx δ2 S2
      | o => o) else .ok .nx δ S1
open Classical in
noncomputable def sWh (c : LT) (b : LS) : LS := fun δ S => if h : ∃ n, whGo c b n δ S ≠ .bad then whGo c b (choose h) δ S else .bad
section
variable {X : Cx} {W : WX} {c : Expr} {body : List Stmt} {gc : LT} {gb : LS} {pos : Pos}
theorem ds_while (hp : PassesOwn (model X.prog X.w) X.A X.env X.xe) (hc : DT X W c gc) (hb : DSs X W body gb) : DS X W (.While c body [] pos) (sWh gc gb) :=
  PS.imp (ps_while hp hc hb) fun D σ H ⟨δ, S, ι, R, Fr, ab, lo, w⟩ => by
    unfold sWh at w
    split at w
    · rename_i h
      refine ⟨fun m σ H => ∃ δ S ι R Fr, Ab X.K Fr S ι R H ∧ Locs X.K R S ι δ σ ∧ wpS X.K Fr S ι R (whGo gc gb m δ S) D W, ⟨_, δ, S, ι, R, Fr, ab, lo, w⟩, ?_⟩
      rintro m σ H ⟨δ, S, ι, R, Fr, ab, lo, w⟩
      cases m with
      | zero => exact w.elim
      | succ n =>
        refine cS.bindE (g := gc) (f := fun δ k S1 => if k = true then (match gb δ S1 with
          | .ok .nx δ2 S2 => whGo gc gb n δ2 S2
          | .ok .cont δ2 S2 => whGo gc gb n δ2 S2
          | .ok .brk δ2 S2 => .ok .nx δ2 S2
          | o => o) else .ok .nx δ S1) ⟨δ, S, ι, R, Fr, ab, lo, w⟩ fun k x δ S1 ι1 R1 Fr H1 ab lo rx w1 => ?_
        obtain rfl : x = k := rx
        cases x with
        | false =>
          refine iteF ?_
          exact w1 σ ι1 R1 H1 .refl ab lo
        | true =>
          refine iteT ⟨fun σ H => ∃ δ S ι R Fr, Ab X.K Fr S ι R H ∧ Locs X.K R S ι δ σ ∧ wpS X.K Fr S ι R (whGo gc gb n δ S) D W, fun σ' H' q => ⟨n, Nat.lt_succ_self n, q⟩, δ, S1, ι1, R1, Fr, ab, lo, ?_⟩
          have w2 : wpS X.K Fr S1 ι1 R1 (match gb δ S1 with
          | .ok .nx δ2 S2 => whGo gc gb n δ2 S2
          | .ok .cont δ2 S2 => whGo gc gb n δ2 S2
          | .ok .brk δ2 S2 => .ok .nx δ2 S2
          | o => o) D W := w1
          cases e : gb δ S1 with
          | ok f δ2 S2 =>
            rw [e] at w2
            cases f with
            | nx => exact fun σ2 ι2 R2 H2 st ab2 lo2 => ⟨δ2, S2, ι2, R2, Fr, ab2, lo2, w2.step st⟩
            | cont => exact fun σ2 ι2 R2 H2 st ab2 lo2 => ⟨δ2, S2, ι2, R2, Fr, ab2, lo2, w2.step st⟩
            | brk => exact w2
            | ret d => exact w2
          | exc c fs δ2 S2 =>
            rw [e] at w2
            exact w2
          | bad =>
            rw [e] at w2
            exact w2
    · exact w.elim
end
theorem whGo_mono {c : LT} {b : LS} : ∀ {n m : Nat} {δ : Lc} {S : Store}, whGo c b n δ S ≠ .bad → n ≤ m → whGo c b m δ S = whGo c b n δ S
  | 0, _, _, _, h, _ => (h rfl).elim
  | n + 1, 0, _, _, _, l => absurd l (Nat.not_succ_le_zero n)
  | n + 1, m + 1, δ, S, h, l => by
    unfold whGo at h ⊢
    unfold bindE at h ⊢
    cases e : c δ S with
    | exc => rfl
    | bad => rfl
    | ok a =>
      rw [e] at h
      dsimp only at h ⊢
      by_cases k : a.1 = true
      · rw [if_pos k] at h
        rw [if_pos k, if_pos k]
        cases e2 : b δ a.2 with
        | bad => rfl
        | exc => rfl
        | ok f δ2 S2 =>
          rw [e2] at h
          cases f with
          | nx => exact whGo_mono h (Nat.le_of_succ_le_succ l)
          | cont => exact whGo_mono h (Nat.le_of_succ_le_succ l)
          | brk => rfl
          | ret d => rfl
      · rw [if_neg k, if_neg k]
open Classical in
theorem sWh_of {c : LT} {b : LS} {n : Nat} {δ : Lc} {S : Store} {o : Os} (h : whGo c b n δ S = o) (hb : o ≠ .bad) : sWh c b δ S = o := by
  have h1 : ∃ n, whGo c b n δ S ≠ .bad := ⟨n, by rw [h]; exact hb⟩
  unfold sWh
  rw [dif_pos h1]
  have h2 := choose_spec h1
  have e1 := whGo_mono (m := max n (choose h1)) h2 (Nat.le_max_right _ _)
  have e2 := whGo_mono (m := max n (choose h1)) (n := n) (by rw [h]; exact hb) (Nat.le_max_left _ _)
  rw [← e1, e2, h]
end DL

set_option Elab.async false
set_option linter.all false
set_option maxRecDepth 100000
set_option maxHeartbeats 4000000
namespace DL
open PySem PySem.Spec L2
variable {Fr : Hp}

/-! ### what is walked: the items, and when they may be asked for -/
structure Src where
  items : List D
  ok : Store → Prop
def relIt (K : PySem.W.Frag) : RelD Src It := fun R S ι src J => ∀ Fr S' ι' R' H' i, Stp S ι R S' ι' R' → Ab K Fr S' ι' R' H' → src.ok S' →
  (∀ d, src.items[i]? = some d → J.go i H' ∧ ∀ x H2, J.yld i H' x H2 → ∃ R2, Stp S' ι' R' S' ι' R2 ∧ Ab K Fr S' ι' R2 H2 ∧ Rep K R2 S' ι' d x) ∧ (src.items.length ≤ i → J.stop i H')
abbrev LI := Lc → Store → Oc (Src × Store)
def cI (K : PySem.W.Frag) (W : WX) (g : LI) : TI := fun σ H P => cO (relIt K) K W g σ H P
abbrev DI (X : Cx) (W : WX) (tg e : Expr) (g : LI) : Prop := PI X tg e (cI X.K W g)
theorem PI.imp {X : Cx} {tg e : Expr} {t t' : TI} (h : PI X tg e t) (i : ∀ σ H Q, t' σ H Q → t σ H Q) : PI X tg e t' := ⟨fun p s σ H R I q => h.run p s σ H R I (i _ _ _ q)⟩
theorem PI.or {X : Cx} {tg e : Expr} {t t' : TI} (h : PI X tg e t) (h' : PI X tg e t') : PI X tg e (fun σ H Q => t σ H Q ∨ t' σ H Q) := ⟨fun p s σ H R I q => q.elim (h.run p s σ H R I) (h'.run p s σ H R I)⟩

/-- a list, by its tree or by its cell -/
def asL (d : D) (S : Store) : Option (List D) := match d with
  | .lst ds => some ds
  | .fln ds => some ds
  | .ref n => match S[n]? with
    | some (some (.lst ds)) => some ds
    | _ => none
  | _ => none
theorem asL_ok {K : PySem.W.Frag} {S : Store} {ι : Nat → Addr} {R H : Hp} {d : D} {ds : List D} {v : V} (ab : Ab K Fr S ι R H) (r : Rep K R S ι d v) (e : asL d S = some ds) : ∃ a xs, v = .ref a ∧ SqL K H a xs ∧ RepL K R S ι ds xs := by
  cases d with
  | lst es =>
    have e1 : es = ds := Option.some.inj e
    subst e1
    unfold Rep at r
    obtain ⟨a, xs, e2, q, rs⟩ := r
    exact ⟨a, xs, e2, SqL.of (ab.sub _ _ q), rs⟩
  | fln es =>
    have e1 : es = ds := Option.some.inj e
    subst e1
    unfold Rep at r
    obtain ⟨a, xs, e2, q, rs⟩ := r
    exact ⟨a, xs, e2, Same.seq ab.sub q, rs⟩
  | ref n =>
    unfold Rep at r
    obtain ⟨a, e2, l, q⟩ := r
    unfold asL at e
    cases h : S[n]? with
    | none => simp only [h] at e; cases e
    | some o =>
      cases o with
      | none => simp only [h] at e; cases e
      | some c =>
        cases c with
        | lst es =>
          simp only [h] at e
          have e1 : es = ds := Option.some.inj e
          subst e1
          have z := ab.cell n _ h
          obtain ⟨xs, hH, rs⟩ := z
          have ea := q ⟨_, h⟩
          subst ea
          exact ⟨_, xs, e2, SqL.of hH, rs⟩
        | _ => simp only [h] at e; cases e
  | _ => cases e
theorem listIt {K : PySem.W.Frag} {S : Store} {ι : Nat → Addr} {R H : Hp} {d : D} {ds : List D} {a : Addr} (r : Rep K R S ι d (.ref a)) (ok : Store → Prop) (hok : ∀ S', ok S' → asL d S' = some ds) : relIt K R S ι ⟨ds, ok⟩ (Itl K a) := by
  intro Fr S' ι' R' H' i st ab hS
  obtain ⟨a', xs, e, q, rs⟩ := asL_ok ab (r.step st) (hok S' hS)
  cases e
  refine ⟨fun d e => ?_, fun l => ⟨xs, q, by rw [rs.length]; exact l⟩⟩
  obtain ⟨v, e1, r1⟩ := rs.get e
  refine ⟨⟨xs, v, q, e1⟩, fun x H2 y => ?_⟩
  obtain ⟨rfl, y⟩ := y
  have e2 := y xs q
  rw [e1] at e2
  cases e2
  exact ⟨R', .refl, ab, r1⟩
theorem tupIt {K : PySem.W.Frag} {S : Store} {ι : Nat → Addr} {R : Hp} {ds : List D} {a : Addr} {xs : List V} (q : SqT K R a xs) (rs : RepL K R S ι ds xs) : relIt K R S ι ⟨ds, fun _ => True⟩ (Itt K a) := by
  intro Fr S' ι' R' H' i st ab hS
  have q' : SqT K H' a xs := seqT_sub ab.sub (seqT_sub st.sub q)
  have rs' := RepL.step st rs
  refine ⟨fun d e => ?_, fun l => ⟨xs, q', by rw [rs'.length]; exact l⟩⟩
  obtain ⟨v, e1, r1⟩ := rs'.get e
  refine ⟨⟨xs, v, q', e1⟩, fun x H2 y => ?_⟩
  obtain ⟨rfl, y⟩ := y
  have e2 := y xs q'
  rw [e1] at e2
  cases e2
  exact ⟨R', .refl, ab, r1⟩
/-- the signs of a text -/
def signs (z : Str) : List D := z.cps.toList.map fun c => .str ⟨#[c]⟩
theorem strIt {K : PySem.W.Frag} {S : Store} {ι : Nat → Addr} {R : Hp} {z : Str} : relIt K R S ι ⟨signs z, fun _ => True⟩ (Its z) := by
  intro Fr S' ι' R' H' i st ab hS
  refine ⟨fun d e => ?_, fun l => by
    show z.cps.size ≤ i
    simpa [signs] using l⟩
  have e' : (z.cps.toList.map fun c => D.str ⟨#[c]⟩)[i]? = some d := e
  rw [List.getElem?_map] at e'
  cases h : z.cps.toList[i]? with
  | none => rw [h] at e'; cases e'
  | some c =>
    rw [h] at e'
    have e3 : D.str ⟨#[c]⟩ = d := Option.some.inj e'
    subst e3
    have hlt : i < z.cps.size := by
      have := (List.getElem?_eq_some_iff.mp h).1
      simpa using this
    refine ⟨hlt, fun x H2 y => ?_⟩
    obtain ⟨rfl, c', h', rfl⟩ := y
    have h2 : z.cps[i]? = some c := by simpa using h
    rw [h2] at h'
    cases h'
    exact ⟨R', .refl, ab, by unfold Rep; rfl⟩
/-- anything of these that an expression tells -/
def srcOf (d : D) (S : Store) : Oc (Src × Store) := match d with
  | .lst ds => .ok (⟨ds, fun _ => True⟩, S)
  | .fln ds => .ok (⟨ds, fun _ => True⟩, S)
  | .tup ds => .ok (⟨ds, fun _ => True⟩, S)
  | .str z => .ok (⟨signs z, fun _ => True⟩, S)
  | .ref n => match S[n]? with
    | some (some (.lst ds)) => .ok (⟨ds, fun S' => S'[n]? = some (some (.lst ds))⟩, S)
    | _ => .bad
  | _ => .bad
def xIter (g : LE) : LI := fun δ S => (g δ S).bind srcOf
section
variable {X : Cx} {W : WX} {e : Expr} {g : LE} {tg : Expr} {pos : Pos}
theorem di_any (he : DE X W e g) : DI X W tg e (xIter g) := by
  refine PI.imp (PI.or (pi_list he) (PI.or (pi_tup he) (pi_str he))) fun σ H Q w => ?_
  obtain ⟨δ, S, ι, R, Fr, ab, lo, w⟩ := w
  have w : wpO (relIt X.K) X.K Fr S ι R ((g δ S).bind srcOf) Q _ := w
  cases e1 : g δ S with
  | bad => rw [e1] at w; exact w.elim
  | exc c fs S' =>
    rw [e1] at w
    refine .inl ⟨δ, S, ι, R, Fr, ab, lo, ?_⟩
    rw [e1]
    exact w
  | ok a =>
    obtain ⟨d, S1⟩ := a
    rw [e1] at w
    have w : wpO (relIt X.K) X.K Fr S ι R (srcOf d S1) Q _ := w
    cases d with
    | lst ds =>
      refine .inl ⟨δ, S, ι, R, Fr, ab, lo, ?_⟩
      rw [e1]
      intro v ι1 R1 H1 st ab1 r
      have r' := r
      unfold Rep at r'
      obtain ⟨a, xs, rfl, q, rs⟩ := r'
      exact ⟨a, rfl, ⟨xs, SqL.of (ab1.sub _ _ q)⟩, w _ ι1 R1 H1 st ab1 (listIt (H := H1) r (fun _ => True) fun _ _ => rfl)⟩
    | fln ds =>
      refine .inl ⟨δ, S, ι, R, Fr, ab, lo, ?_⟩
      rw [e1]
      intro v ι1 R1 H1 st ab1 r
      have r' := r
      unfold Rep at r'
      obtain ⟨a, xs, rfl, q, rs⟩ := r'
      exact ⟨a, rfl, ⟨xs, Same.seq ab1.sub q⟩, w _ ι1 R1 H1 st ab1 (listIt (H := H1) r (fun _ => True) fun _ _ => rfl)⟩
    | tup ds =>
      refine .inr (.inl ⟨δ, S, ι, R, Fr, ab, lo, ?_⟩)
      rw [e1]
      intro v ι1 R1 H1 st ab1 r
      unfold Rep at r
      obtain ⟨a, xs, rfl, q, rs⟩ := r
      exact ⟨a, rfl, ⟨xs, seqT_sub ab1.sub q⟩, w _ ι1 R1 H1 st ab1 (tupIt q rs)⟩
    | str z =>
      refine .inr (.inr ⟨δ, S, ι, R, Fr, ab, lo, ?_⟩)
      rw [e1]
      intro v ι1 R1 H1 st ab1 r
      unfold Rep at r
      subst r
      exact ⟨z, rfl, w _ ι1 R1 H1 st ab1 strIt⟩
    | ref n =>
      refine .inl ⟨δ, S, ι, R, Fr, ab, lo, ?_⟩
      rw [e1]
      intro v ι1 R1 H1 st ab1 r
      unfold srcOf at w
      cases h : S1[n]? with
      | none => simp only [h] at w; exact w.elim
      | some o =>
        cases o with
        | none => simp only [h] at w; exact w.elim
        | some c =>
          cases c with
          | lst ds =>
            simp only [h] at w
            have ea : asL (.ref n) S1 = some ds := by unfold asL; simp only [h]
            obtain ⟨a, xs, rfl, q, rs⟩ := asL_ok ab1 r ea
            exact ⟨a, rfl, ⟨xs, q⟩, w _ ι1 R1 H1 st ab1 (listIt (H := H1) r _ fun S' hS => by unfold asL; simp only [hS])⟩
          | _ => simp only [h] at w; exact w.elim
    | _ => exact w.elim
end

/-! ### for -/
open Classical in
noncomputable def forGo (ok : Store → Prop) (tg : LG) (b : LS) : List D → LS
  | [] => fun δ S => if ok S then .ok .nx δ S else .bad
  | d :: ds => fun δ S => if ok S then (match tg d δ S with
    | .ok (δ1, S1) => (match b δ1 S1 with
      | .ok .nx δ2 S2 => forGo ok tg b ds δ2 S2
      | .ok .cont δ2 S2 => forGo ok tg b ds δ2 S2
      | .ok .brk δ2 S2 => .ok .nx δ2 S2
      | o => o)
    | _ => .bad) else .bad
noncomputable def sFor (it : LI) (tg : LG) (b : LS) : LS := fun δ S => bindE δ (it δ S) fun src S1 => forGo src.ok tg b src.items δ S1
section
variable {X : Cx} {W : WX} {iter : Expr} {tgt : Expr} {body : List Stmt} {gi : LI} {gt : LG} {gb : LS} {pos : Pos}
theorem ds_for (hp : PassesOwn (model X.prog X.w) X.A X.env X.xe) (hc : X.calm = true) (hi : DI X W tgt iter gi) (hg : DG X tgt gt) (hb : DSs X W body gb)
    (hs : ∀ x, foldedSetIterable iter X.env x = pure x := by intro _; rfl) : DS X W (.For tgt iter body [] pos) (sFor gi gt gb) :=
  PS.imp (ps_for hp hc hi hg hb hs) fun D σ H w => cS.bindE (f := fun (δ : Lc) (src : Src) (S1 : Store) => forGo src.ok gt gb src.items δ S1) w fun src J δ S1 ι1 R1 Fr H1 ab lo rJ w1 => by
    refine ⟨fun i m σ H => m = src.items.length - i ∧ i ≤ src.items.length ∧ ∃ δ S' ι' R', Stp S1 ι1 R1 S' ι' R' ∧ Ab X.K Fr S' ι' R' H ∧ Locs X.K R' S' ι' δ σ ∧ wpS X.K Fr S' ι' R' (forGo src.ok gt gb (src.items.drop i) δ S') D W, ⟨_, rfl, Nat.zero_le _, δ, S1, ι1, R1, .refl, ab, lo, w1⟩, ?_⟩
    rintro i m σ H ⟨rfl, hi, δ, S', ι', R', st, ab, lo, w⟩
    by_cases hlt : i < src.items.length
    · have hd : src.items.drop i = src.items[i] :: src.items.drop (i + 1) := List.drop_eq_getElem_cons hlt
      rw [hd] at w
      unfold forGo at w
      by_cases hok : src.ok S'
      · rw [if_pos hok] at w
        obtain ⟨j1, _⟩ := rJ Fr S' ι' R' H i st ab hok
        obtain ⟨jg, jy⟩ := j1 _ (List.getElem?_eq_getElem hlt)
        refine .inr ⟨jg, fun σ H => ∃ δ S' ι' R', Stp S1 ι1 R1 S' ι' R' ∧ Ab X.K Fr S' ι' R' H ∧ Locs X.K R' S' ι' δ σ ∧ wpS X.K Fr S' ι' R' (forGo src.ok gt gb (src.items.drop (i + 1)) δ S') D W, fun σ' H' q => ⟨_, by omega, rfl, hlt, q⟩, fun x H2 y => ?_⟩
        obtain ⟨R2, st2, ab2, r2⟩ := jy x H2 y
        refine ⟨src.items[i], δ, S', ι', R2, Fr, ab2, lo.step st2, r2, ?_⟩
        cases e : gt src.items[i] δ S' with
        | bad => rw [e] at w; exact w.elim
        | exc c fs S2 => rw [e] at w; exact w.elim
        | ok a =>
          rw [e] at w
          obtain ⟨δ3, S3⟩ := a
          intro σ3 ι3 R3 H3 st3 ab3 lo3
          refine ⟨δ3, S3, ι3, R3, Fr, ab3, lo3, ?_⟩
          have w := w.step (st2.trans st3)
          have st4 := (st.trans st2).trans st3
          dsimp only at w
          cases e2 : gb δ3 S3 with
          | bad => rw [e2] at w; exact w
          | exc c fs δ4 S4 => rw [e2] at w; exact w
          | ok f δ4 S4 =>
            rw [e2] at w
            cases f with
            | nx => exact fun σ5 ι5 R5 H5 st5 ab5 lo5 => ⟨δ4, S4, ι5, R5, st4.trans st5, ab5, lo5, w.step st5⟩
            | cont => exact fun σ5 ι5 R5 H5 st5 ab5 lo5 => ⟨δ4, S4, ι5, R5, st4.trans st5, ab5, lo5, w.step st5⟩
            | brk => exact w
            | ret d => exact w
      · rw [if_neg hok] at w
        exact w.elim
    · have e : i = src.items.length := by omega
      have hd : src.items.drop i = [] := List.drop_eq_nil_of_le (Nat.le_of_eq e.symm)
      rw [hd] at w
      unfold forGo at w
      by_cases hok : src.ok S'
      · rw [if_pos hok] at w
        obtain ⟨_, js⟩ := rJ Fr S' ι' R' H i st ab hok
        exact .inl ⟨js (Nat.le_of_eq e.symm), w σ ι' R' H .refl ab lo⟩
      · rw [if_neg hok] at w
        exact w.elim
end

/-! ### comprehensions -/
def wipeD (δ : Lc) : List Nat → Lc
  | [] => δ
  | v :: vs => (wipeD δ vs).set v none
theorem wipe_locs {K : PySem.W.Frag} {R : Hp} {S : Store} {ι : Nat → Addr} {δ : Lc} {σ : L2.St} (h : Locs K R S ι δ σ) : ∀ vs, Locs K R S ι (wipeD δ vs) (wipe σ vs)
  | [] => h
  | v :: vs => (wipe_locs h vs).clear v none
open Classical in
noncomputable def lcGo (ok : Store → Prop) (tg : LG) (tt : LT) (el : LE) (δ : Lc) : List D → List D → Store → Oc (List D × Store)
  | [], acc, S => if ok S then .ok (acc, S) else .bad
  | d :: ds, acc, S => if ok S then (match tg d δ S with
    | .ok (δ1, S1) => (tt δ1 S1).bind fun b S2 => if b = true then (el δ1 S2).bind fun y S3 => if acc.length < sizeLine then lcGo ok tg tt el δ ds (acc ++ [y]) S3 else .bad else lcGo ok tg tt el δ ds acc S2
    | _ => .bad) else .bad
def noEx {α : Type} (o : Oc α) : Oc α := match o with
  | .exc _ _ _ => .bad
  | o => o
noncomputable def lLc (vs : List Nat) (it : LI) (tg : LG) (tt : LT) (el : LE) : LA := fun δ S => (it δ S).bind fun src S1 => noEx (lcGo src.ok tg tt el (wipeD δ vs) src.items [] S1)
def yes : LT := fun _ S => .ok (true, S)

theorem wipe_set {σ : L2.St} {i : Nat} {o : Option V} : ∀ {vs : List Nat}, i ∈ vs → wipe (σ.set i o) vs = wipe σ vs
  | [], h => by cases h
  | v :: vs, h => by
    show (wipe (σ.set i o) vs).set v none = (wipe σ vs).set v none
    by_cases e : i = v
    · subst e
      by_cases hm : i ∈ vs
      · rw [wipe_set hm]
      · have gen : ∀ (vs : List Nat) (σ : L2.St), wipe (σ.set i o) vs = if i ∈ vs then wipe σ vs else (wipe σ vs).set i o := by
          intro vs
          induction vs with
          | nil => intro σ; simp [wipe]
          | cons u us ih =>
            intro σ
            show (wipe (σ.set i o) us).set u none = _
            rw [ih]
            by_cases h1 : i ∈ us
            · rw [if_pos h1, if_pos (List.mem_cons_of_mem _ h1)]; rfl
            · rw [if_neg h1]
              by_cases h2 : i = u
              · subst h2
                rw [if_pos (List.mem_cons_self ..), List.set_set]; rfl
              · rw [if_neg (by simp [h1, h2]), List.set_comm _ _ h2]; rfl
        rw [gen vs σ, if_neg hm, List.set_set]
    · rcases List.mem_cons.mp h with z | z
      · exact absurd z e
      · rw [wipe_set z]
/-- a target's reading, and what it tells -/
structure TgOk (K : PySem.W.Frag) (vs : List Nat) (g : TG) (gt : LG) : Prop where
  keep : ∀ d δ S δ1 S1, gt d δ S = .ok (δ1, S1) → S1 = S
  read : ∀ (R : Hp) (S : Store) (ι : Nat → Addr) (H : Hp) (d : D) (x : V) (δ δ1 : Lc) (S1 : Store) (σ : L2.St) (Q : L2.St → Hp → Prop), (∀ a o, R a = some o → H a = some o) → Locs K R S ι δ σ → Rep K R S ι d x → gt d δ S = .ok (δ1, S1) →
    (∀ σ1, Locs K R S ι δ1 σ1 → wipe σ1 vs = wipe σ vs → Q σ1 H) → g x σ H Q
structure TgsOk (K : PySem.W.Frag) (vs : List Nat) (g : TGs) (gt : LGs) : Prop where
  keep : ∀ d δ S δ1 S1, gt d δ S = .ok (δ1, S1) → S1 = S
  read : ∀ (R : Hp) (S : Store) (ι : Nat → Addr) (H : Hp) (ds : List D) (xs : List V) (δ δ1 : Lc) (S1 : Store) (σ : L2.St) (Q : L2.St → Hp → Prop), (∀ a o, R a = some o → H a = some o) → Locs K R S ι δ σ → RepL K R S ι ds xs → gt ds δ S = .ok (δ1, S1) →
    (∀ σ1, Locs K R S ι δ1 σ1 → wipe σ1 vs = wipe σ vs → Q σ1 H) → g xs σ H Q
theorem tg_name {K : PySem.W.Frag} {vs : List Nat} {i : Nat} (h : i ∈ vs := by decide) : TgOk K vs (gName i) (gNm i) := ⟨fun d δ S δ1 S1 e => by
  unfold gNm at e
  cases e
  rfl, fun R S ι H d x δ δ1 S1 σ Q sub lo r e k => by
  unfold gNm at e
  cases e
  exact k _ (lo.set r i) (wipe_set h)⟩
theorem tgs_nil {K : PySem.W.Frag} {vs : List Nat} : TgsOk K vs gNil gNl := ⟨fun ds δ S δ1 S1 e => by
  cases ds with
  | nil => unfold gNl at e; cases e; rfl
  | cons d ds => exact (nomatch e), fun R S ι H ds xs δ δ1 S1 σ Q sub lo r e k => by
  cases ds with
  | nil =>
    unfold RepL at r
    unfold gNl at e
    cases e
    exact ⟨r, k σ lo rfl⟩
  | cons d ds => cases e⟩
theorem tgs_cons {K : PySem.W.Frag} {vs : List Nat} {g : TG} {gt : LG} {gs : TGs} {gts : LGs} (h1 : TgOk K vs g gt) (h2 : TgsOk K vs gs gts) : TgsOk K vs (gCons g gs) (gCn gt gts) := by
  have split : ∀ {d : D} {ds : List D} {δ : Lc} {S : Store} {δ1 : Lc} {S1 : Store}, gCn gt gts (d :: ds) δ S = .ok (δ1, S1) → ∃ δ2 S2, gt d δ S = .ok (δ2, S2) ∧ gts ds δ2 S2 = .ok (δ1, S1) := fun {d ds δ S δ1 S1} e => by
    have e : (gt d δ S).bind (fun δ1 S1 => gts ds δ1 S1) = .ok (δ1, S1) := e
    cases e2 : gt d δ S with
    | bad => rw [e2] at e; cases e
    | exc c fs S2 => rw [e2] at e; cases e
    | ok a =>
      obtain ⟨δ2, S2⟩ := a
      rw [e2] at e
      exact ⟨δ2, S2, rfl, e⟩
  refine ⟨fun ds δ S δ1 S1 e => ?_, fun R S ι H ds xs δ δ1 S1 σ Q sub lo r e k => ?_⟩
  · cases ds with
    | nil => cases e
    | cons d ds =>
      obtain ⟨δ2, S2, e1, e2⟩ := split e
      exact (h2.keep _ _ _ _ _ e2).trans (h1.keep _ _ _ _ _ e1)
  · cases ds with
    | nil => cases e
    | cons d ds =>
      unfold RepL at r
      obtain ⟨v, vs', e0, r1, r2⟩ := r
      obtain ⟨δ2, S2, e1, e2⟩ := split e
      obtain rfl := h1.keep _ _ _ _ _ e1
      exact ⟨v, vs', e0, h1.read R S2 ι H d v δ δ2 S2 σ _ sub lo r1 e1 fun σ2 lo2 w2 => h2.read R S2 ι H ds vs' δ2 δ1 S1 σ2 Q sub lo2 r2 e2 fun σ3 lo3 w3 => k σ3 lo3 (w3.trans w2)⟩
theorem tg_tup {K : PySem.W.Frag} {vs : List Nat} {n : Nat} {gs : TGs} {gts : LGs} (h : TgsOk K vs gs gts) : TgOk K vs (gTup K n gs) (gTp n gts) := by
  have split : ∀ {d : D} {δ : Lc} {S : Store} {δ1 : Lc} {S1 : Store}, gTp n gts d δ S = .ok (δ1, S1) → ∃ ds, d = .tup ds ∧ ds.length = n ∧ gts ds δ S = .ok (δ1, S1) := fun {d δ S δ1 S1} e => by
    cases d with
    | tup ds =>
      have e : (if ds.length = n then gts ds δ S else .bad) = .ok (δ1, S1) := e
      by_cases hl : ds.length = n
      · rw [if_pos hl] at e
        exact ⟨ds, rfl, hl, e⟩
      · rw [if_neg hl] at e
        cases e
    | _ => cases e
  refine ⟨fun d δ S δ1 S1 e => ?_, fun R S ι H d x δ δ1 S1 σ Q sub lo r e k => ?_⟩
  · obtain ⟨ds, _, _, e2⟩ := split e
    exact h.keep _ _ _ _ _ e2
  · obtain ⟨ds, rfl, hl, e2⟩ := split e
    unfold Rep at r
    obtain ⟨a, xs, e1, sq, rs⟩ := r
    exact ⟨a, xs, e1, seqT_sub sub sq, by rw [rs.length]; exact hl, h.read R S ι H ds xs δ δ1 S1 σ Q sub lo rs e2 k⟩
/-! frames -/
section
variable {K : PySem.W.Frag} {S : Store} {ι : Nat → Addr} {R H : Hp} {a : Addr} {o o' : HO}
theorem CellOk.keep {c : Cell} {H' : Hp} {n : Addr} (h : CellOk K R S ι H n c) (e : H' n = H n) : CellOk K R S ι H' n c := by
  cases c with
  | lst ds => obtain ⟨xs, q, r⟩ := h; exact ⟨xs, e.trans q, r⟩
  | dct ks ds => obtain ⟨xs, q, l, r⟩ := h; exact ⟨xs, e.trans q, l, r⟩
  | ins c ns ds => obtain ⟨dx, xs, q, q2, l, r⟩ := h; exact ⟨dx, xs, e.trans q, q2, l, r⟩
  | fct ks ds => obtain ⟨dx, xs, q, q2, l, r⟩ := h; exact ⟨dx, xs, e.trans q, q2, l, r⟩
  | dtt ks ds => obtain ⟨xs, q, l, r⟩ := h; exact ⟨xs, e.trans q, l, r⟩
  | exo c => exact e.trans h
theorem CellOk.there {c : Cell} {n : Addr} (h : CellOk K R S ι H n c) : ∃ o, H n = some o := by
  cases c with
  | lst ds => obtain ⟨xs, q, r⟩ := h; exact ⟨_, q⟩
  | dct ks ds => obtain ⟨xs, q, l, r⟩ := h; exact ⟨_, q⟩
  | ins c ns ds => obtain ⟨dx, xs, q, q2, l, r⟩ := h; exact ⟨_, q⟩
  | fct ks ds => obtain ⟨dx, xs, q, q2, l, r⟩ := h; exact ⟨_, q⟩
  | dtt ks ds => obtain ⟨xs, q, l, r⟩ := h; exact ⟨_, q⟩
  | exo c => exact ⟨_, h⟩
theorem Ab.frame_new (ab : Ab K Fr S ι R H) (h : H a = none) : Ab K (upd Fr a o) S ι R (upd H a o) := by
  have nc : ∀ n c, S[n]? = some (some c) → ι n ≠ a := fun n c e z => by
    obtain ⟨o, q⟩ := (ab.cell n c e).there
    rw [z, h] at q
    cases q
  have nr : R a = none := Same.free ab.sub h
  refine ⟨fun b u e => ?_, fun b u e => ?_, fun b u n c e e2 => ?_, fun b u e => ?_, fun n c e => (ab.cell n c e).keep (upd_ne (nc n c e)), ab.off, ab.inj⟩
  · by_cases hb : b = a
    · subst hb; rw [upd_same] at e ⊢; exact e
    · rw [upd_ne hb] at e ⊢; exact ab.fsub b u e
  · by_cases hb : b = a
    · subst hb; exact nr
    · rw [upd_ne hb] at e; exact ab.foff b u e
  · by_cases hb : b = a
    · subst hb; exact nc n c e2
    · rw [upd_ne hb] at e; exact ab.fcel b u n c e e2
  · rw [upd_ne (ne_of_none (ab.sub b u e) h)]; exact ab.sub b u e
theorem Ab.frame_set (ab : Ab K (upd Fr a o) S ι R H) : Ab K (upd Fr a o') S ι R (upd H a o') := by
  have ha : upd Fr a o a = some o := upd_same
  have nc : ∀ n c, S[n]? = some (some c) → ι n ≠ a := fun n c e => ab.fcel a o n c ha e
  have nr : R a = none := ab.foff a o ha
  refine ⟨fun b u e => ?_, fun b u e => ?_, fun b u n c e e2 => ?_, fun b u e => ?_, fun n c e => (ab.cell n c e).keep (upd_ne (nc n c e)), ab.off, ab.inj⟩
  · by_cases hb : b = a
    · subst hb; rw [upd_same] at e ⊢; exact e
    · rw [upd_ne hb] at e ⊢; exact ab.fsub b u (by rw [upd_ne hb]; exact e)
  · by_cases hb : b = a
    · subst hb; exact nr
    · rw [upd_ne hb] at e; exact ab.foff b u (by rw [upd_ne hb]; exact e)
  · by_cases hb : b = a
    · subst hb; exact nc n c e2
    · rw [upd_ne hb] at e; exact ab.fcel b u n c (by rw [upd_ne hb]; exact e) e2
  · have hb : b ≠ a := fun z => by rw [z, nr] at e; cases e
    rw [upd_ne hb]; exact ab.sub b u e
theorem CellOk.grow {c : Cell} {S' : Store} {ι' : Nat → Addr} {R' : Hp} {n : Addr} (h : CellOk K R S ι H n c) (t : Stp S ι R S' ι' R') : CellOk K R' S' ι' H n c := by
  cases c with
  | lst ds => obtain ⟨xs, q, r⟩ := h; exact ⟨xs, q, RepL.step t r⟩
  | dct ks ds => obtain ⟨xs, q, l, r⟩ := h; exact ⟨xs, q, l, RepL.step t r⟩
  | ins c ns ds => obtain ⟨dx, xs, q, q2, l, r⟩ := h; exact ⟨dx, xs, q, t.sub _ _ q2, l, RepF.step t r⟩
  | fct ks ds => obtain ⟨dx, xs, q, q2, l, r⟩ := h; exact ⟨dx, xs, q, t.sub _ _ q2, l, RepL.step t r⟩
  | dtt ks ds => obtain ⟨xs, q, l, r⟩ := h; exact ⟨xs, q, l, RepL.step t r⟩
  | exo c => exact h
theorem Stp.rnew {R' : Hp} (sub : ∀ a o, R a = some o → R' a = some o) : Stp S ι R S ι R' := ⟨sub, fun _ _ => rfl, fun _ _ h => h, Nat.le_refl _⟩
theorem upd_sub {R : Hp} {a : Addr} {o : HO} (h : R a = none) : ∀ b u, R b = some u → upd R a o b = some u := fun b u e => by rw [upd_ne (ne_of_none e h)]; exact e
/-- what was held apart is let into what stands -/
theorem Ab.frame_out (ab : Ab K (upd Fr a o) S ι R H) (hF : Fr a = none) : Ab K Fr S ι (upd R a o) H ∧ Stp S ι R S ι (upd R a o) := by
  have ha : upd Fr a o a = some o := upd_same
  have nc : ∀ n c, S[n]? = some (some c) → ι n ≠ a := fun n c e => ab.fcel a o n c ha e
  have nr : R a = none := ab.foff a o ha
  have st : Stp S ι R S ι (upd R a o) := Stp.rnew (upd_sub nr)
  refine ⟨⟨fun b u e => ab.fsub b u (upd_sub hF b u e), fun b u e => ?_, fun b u n c e e2 => ab.fcel b u n c (upd_sub hF b u e) e2, fun b u e => ?_, fun n c e => (ab.cell n c e).grow st, fun n c e hz => ?_, ab.inj⟩, st⟩
  · rw [upd_ne (ne_of_none e hF)]; exact ab.foff b u (upd_sub hF b u e)
  · by_cases hb : b = a
    · subst hb; rw [upd_same] at e; rw [← e]; exact ab.fsub b o ha
    · rw [upd_ne hb] at e; exact ab.sub b u e
  · rw [upd_ne (nc n c e)]; exact ab.off n c e hz
/-- a new object that stands -/
theorem Ab.rnew (ab : Ab K Fr S ι R H) (h : H a = none) : Ab K Fr S ι (upd R a o) (upd H a o) ∧ Stp S ι R S ι (upd R a o) := (ab.frame_new h).frame_out (Same.free ab.fsub h)
end

theorem wipe_sub {σ : L2.St} {vs : List Nat} : ∀ {us : List Nat}, (∀ u ∈ us, u ∈ vs) → wipe (wipe σ us) vs = wipe σ vs
  | [], _ => rfl
  | u :: us, h => by
    show wipe ((wipe σ us).set u none) vs = wipe σ vs
    rw [wipe_set (h u (List.mem_cons_self ..)), wipe_sub fun x hx => h x (List.mem_cons_of_mem _ hx)]
def WF : WX := fun _ _ _ _ => False
/-! ### an expression whose value is a new list: it stands by itself, or it is a cell -/
def wpN (K : PySem.W.Frag) (Fr : Hp) (S : Store) (ι : Nat → Addr) (R : Hp) (o : Oc (List D × Store)) (Q : VK) (E : XK) : Prop :=
  match o with
  | .ok (ds, S') => ∀ p xs ι' R' H', Stp S ι R S' ι' R' → Fr p = none → Ab K (upd Fr p (.lst xs)) S' ι' R' H' → RepL K R' S' ι' ds xs → Q (.ref p) H'
  | .exc c fs S' => ∀ dx ι' R' H', Stp S ι R S' ι' R' → Ab K Fr S' ι' R' H' → XRep K R' S' ι' fs dx → E (.ref (He.ga K c)) dx H'
  | .bad => False
theorem wpN.step {K : PySem.W.Frag} {S S1 : Store} {ι ι1 : Nat → Addr} {R R1 : Hp} {o : Oc (List D × Store)} {Q : VK} {E : XK}
    (h : wpN K Fr S ι R o Q E) (t : Stp S ι R S1 ι1 R1) : wpN K Fr S1 ι1 R1 o Q E := by
  cases o with
  | ok a => exact fun p xs ι' R' H' s => h p xs ι' R' H' (t.trans s)
  | exc c fs S' => exact fun v ι' R' H' s => h v ι' R' H' (t.trans s)
  | bad => exact h
def cN (K : PySem.W.Frag) (W : WX) (g : LA) : TE := fun σ H Q => ∃ δ S ι R Fr, Ab K Fr S ι R H ∧ Locs K R S ι δ σ ∧ wpN K Fr S ι R (g δ S) Q fun c d H' => W c d σ H'
abbrev DN (X : Cx) (W : WX) (e : Expr) (g : LA) : Prop := PE X e (cN X.K W g)
theorem wpN.bind {α β : Type} {rel : RelD α β} {K : PySem.W.Frag} {S : Store} {ι : Nat → Addr} {R : Hp} {o : Oc (α × Store)} {f : α → Store → Oc (List D × Store)} {P : β → Hp → Prop} {Q : VK} {E : XK}
    (h : wpN K Fr S ι R (o.bind f) Q E) (k : ∀ d S1 v ι1 R1 H1, Stp S ι R S1 ι1 R1 → Ab K Fr S1 ι1 R1 H1 → rel R1 S1 ι1 d v → wpN K Fr S1 ι1 R1 (f d S1) Q E → P v H1) : wpO rel K Fr S ι R o P E := by
  cases o with
  | ok a => exact fun v ι' R' H' s ab r => k a.1 a.2 v ι' R' H' s ab r (wpN.step h s)
  | exc c fs S' => exact h
  | bad => exact h
theorem cN.bind {α β : Type} {rel : RelD α β} {K : PySem.W.Frag} {W : WX} {g : Lc → Store → Oc (α × Store)} {f : α → Lc → Store → Oc (List D × Store)} {σ : L2.St} {H : Hp} {P : β → Hp → Prop} {Q : VK}
    (h : cN K W (fun δ S => (g δ S).bind fun a S1 => f a δ S1) σ H Q)
    (k : ∀ d v δ S1 ι1 R1 Fr H1, Ab K Fr S1 ι1 R1 H1 → Locs K R1 S1 ι1 δ σ → rel R1 S1 ι1 d v → wpN K Fr S1 ι1 R1 (f d δ S1) Q (fun c d H' => W c d σ H') → P v H1) : cO rel K W g σ H P := by
  obtain ⟨δ, S, ι, R, Fr, ab, lo, w⟩ := h
  exact ⟨δ, S, ι, R, Fr, ab, lo, wpN.bind w fun d S1 v ι1 R1 H1 st ab1 r w1 => k d v δ S1 ι1 R1 Fr H1 ab1 (lo.step st) r w1⟩
/-- it stands, a tree -/
def xFz (g : LA) : LE := fun δ S => (g δ S).bind fun ds S1 => .ok (.lst ds, S1)
/-- it is the next cell -/
def xCell (g : LA) : LE := fun δ S => (g δ S).bind fun ds S1 => .ok (.ref S1.length, S1 ++ [some (.lst ds)])
theorem Ab.push {K : PySem.W.Frag} {S : Store} {ι : Nat → Addr} {R H : Hp} {a : Addr} {o : HO} {c : Cell} (ab : Ab K (upd Fr a o) S ι R H) (hF : Fr a = none) (hc : CellOk K R S ι H a c) :
    Ab K Fr (S ++ [some c]) (fun n => if n = S.length then a else ι n) R H ∧ Stp S ι R (S ++ [some c]) (fun n => if n = S.length then a else ι n) R := by
  have ha : upd Fr a o a = some o := upd_same
  have nc : ∀ n c, S[n]? = some (some c) → ι n ≠ a := fun n c e => ab.fcel a o n c ha e
  have nr : R a = none := ab.foff a o ha
  have lt : ∀ n c, S[n]? = some (some c) → n < S.length := fun n c e => (List.getElem?_eq_some_iff.mp e).1
  have st : Stp S ι R (S ++ [some c]) (fun n => if n = S.length then a else ι n) R := ⟨fun _ _ h => h, fun n h => if_neg (Nat.ne_of_lt h), fun n h l => by
    obtain ⟨c', e⟩ := l
    rw [List.getElem?_append_left h] at e
    exact ⟨c', e⟩, by simp⟩
  have cases : ∀ n c', (S ++ [some c])[n]? = some (some c') → (n < S.length ∧ S[n]? = some (some c')) ∨ (n = S.length ∧ c' = c) := fun n c' e => by
    by_cases h : n < S.length
    · rw [List.getElem?_append_left h] at e
      exact .inl ⟨h, e⟩
    · rw [List.getElem?_append_right (by omega)] at e
      have h2 : n - S.length = 0 := by
        have := (List.getElem?_eq_some_iff.mp e).1
        simp at this
        omega
      rw [h2] at e
      simp at e
      exact .inr ⟨by omega, e.symm⟩
  refine ⟨⟨fun b u e => ab.fsub b u (upd_sub hF b u e), fun b u e => ab.foff b u (upd_sub hF b u e), fun b u n c' e e2 => ?_, ab.sub, fun n c' e => ?_, fun n c' e hz => ?_, fun n m c1 c2 e1 e2 e => ?_⟩, st⟩
  · rcases cases n c' e2 with ⟨h, e3⟩ | ⟨h, e3⟩
    · show (if n = S.length then a else ι n) ≠ b
      rw [if_neg (Nat.ne_of_lt h)]; exact ab.fcel b u n c' (upd_sub hF b u e) e3
    · show (if n = S.length then a else ι n) ≠ b
      rw [if_pos h]
      intro z
      rw [← z, hF] at e
      cases e
  · rcases cases n c' e with ⟨h, e3⟩ | ⟨h, e3⟩
    · show CellOk K R _ _ H (if n = S.length then a else ι n) c'
      rw [if_neg (Nat.ne_of_lt h)]; exact (ab.cell n c' e3).grow st
    · show CellOk K R _ _ H (if n = S.length then a else ι n) c'
      rw [if_pos h, e3]; exact hc.grow st
  · rcases cases n c' e with ⟨h, e3⟩ | ⟨h, e3⟩
    · show R (if n = S.length then a else ι n) = none
      rw [if_neg (Nat.ne_of_lt h)]; exact ab.off n c' e3 hz
    · show R (if n = S.length then a else ι n) = none
      rw [if_pos h]; exact nr
  · have e : (if n = S.length then a else ι n) = if m = S.length then a else ι m := e
    rcases cases n c1 e1 with ⟨h, e3⟩ | ⟨h, e3⟩ <;> rcases cases m c2 e2 with ⟨h', e4⟩ | ⟨h', e4⟩
    · rw [if_neg (Nat.ne_of_lt h), if_neg (Nat.ne_of_lt h')] at e; exact ab.inj n m c1 c2 e3 e4 e
    · rw [if_neg (Nat.ne_of_lt h), if_pos h'] at e; exact absurd e (nc n c1 e3)
    · rw [if_pos h, if_neg (Nat.ne_of_lt h')] at e; exact absurd e.symm (nc m c2 e4)
    · rw [h, h']
section
variable {X : Cx} {W : WX} {e : Expr} {g : LA}
theorem fz_read {K : PySem.W.Frag} : ∀ σ H Q, cO (Rep K) K W (xFz g) σ H Q → cN K W g σ H Q := fun σ H Q ⟨δ, S, ι, R, Fr, ab, lo, w⟩ => by
  refine ⟨δ, S, ι, R, Fr, ab, lo, ?_⟩
  have w : wpO (Rep K) K Fr S ι R ((g δ S).bind fun ds S1 => .ok (.lst ds, S1)) Q _ := w
  cases e : g δ S with
  | bad => rw [e] at w; exact w
  | exc c fs S' => rw [e] at w; exact w
  | ok a =>
    obtain ⟨ds, S'⟩ := a
    rw [e] at w
    intro p xs ι' R' H' st hF ab' rs
    obtain ⟨ab7, st7⟩ := ab'.frame_out hF
    refine w (.ref p) ι' _ H' (st.trans st7) ab7 ?_
    unfold Rep
    exact ⟨p, xs, rfl, upd_same, RepL.step st7 rs⟩
theorem cell_read {K : PySem.W.Frag} : ∀ σ H Q, cO (Rep K) K W (xCell g) σ H Q → cN K W g σ H Q := fun σ H Q ⟨δ, S, ι, R, Fr, ab, lo, w⟩ => by
  refine ⟨δ, S, ι, R, Fr, ab, lo, ?_⟩
  have w : wpO (Rep K) K Fr S ι R ((g δ S).bind fun ds S1 => .ok (.ref S1.length, S1 ++ [some (.lst ds)])) Q _ := w
  cases e : g δ S with
  | bad => rw [e] at w; exact w
  | exc c fs S' => rw [e] at w; exact w
  | ok a =>
    obtain ⟨ds, S'⟩ := a
    rw [e] at w
    intro p xs ι' R' H' st hF ab' rs
    obtain ⟨ab7, st7⟩ := Ab.push (c := .lst ds) ab' hF ⟨xs, ab'.fsub p _ upd_same, rs⟩
    refine w (.ref p) _ R' H' (st.trans st7) ab7 ?_
    unfold Rep
    exact ⟨p, rfl, by simp, fun _ => (if_pos rfl).symm⟩
theorem de_fz (h : DN X W e g) : DE X W e (xFz g) := PE.imp h fz_read
theorem de_cell (h : DN X W e g) : DE X W e (xCell g) := PE.imp h cell_read
end
/-- a display -/
def lDisp (g : LA) : LA := fun δ S => (g δ S).bind fun ds S1 => if ds.length ≤ sizeLine then .ok (ds, S1) else .bad
theorem dn_lst {X : Cx} {W : WX} {es : List Expr} {g : LA} {pos : Pos} (h : DA X W es g) : DN X W (.List es pos) (lDisp g) := PE.imp (pe_lst h) fun σ H Q w => by
  refine cN.bind (rel := RepL X.K) (f := fun ds δ S1 => if ds.length ≤ sizeLine then .ok (ds, S1) else .bad) w fun ds xs δ S1 ι1 R1 Fr H1 ab lo rs w1 => ?_
  by_cases hl : ds.length ≤ sizeLine
  · rw [if_pos hl] at w1
    exact ⟨by rw [rs.length]; exact hl, fun p hp => w1 p xs ι1 R1 _ .refl (Same.free ab.fsub hp) (ab.frame_new hp) rs⟩
  · rw [if_neg hl] at w1
    exact w1.elim
section
variable {X : Cx} {W : WX} {elt tg iter : Expr} {ifs : List Expr} {scope : Scope} {own : List (Str × Nat)} {gi : LI} {g : TG} {gt : LG} {tt : LT} {el : LE} {pos : Pos}
theorem lcGo_read {K : PySem.W.Frag} {vs : List Nat} : ∀ σ H Q, cN K W (lLc vs gi gt tt el) σ H Q → TgOk K vs g gt → tLc (cI K W gi) g (cO relB K WF tt) (cO (Rep K) K WF el) vs σ H Q := fun σ H Q w T => by
  refine cN.bind (rel := relIt K) (f := fun (src : Src) δ S1 => noEx (lcGo src.ok gt tt el (wipeD δ vs) src.items [] S1)) w fun src J δ S1 ι1 R1 Fr H1 ab lo rJ w1 => ?_
  intro D hD
  have hF : Fr D = none := Same.free ab.fsub hD
  refine ⟨fun i m H => m = src.items.length - i ∧ i ≤ src.items.length ∧ ∃ acc xs S' ι' R', Stp S1 ι1 R1 S' ι' R' ∧ Ab K (upd Fr D (.lst xs)) S' ι' R' H ∧ RepL K R' S' ι' acc xs ∧ wpN K Fr S' ι' R' (noEx (lcGo src.ok gt tt el (wipeD δ vs) (src.items.drop i) acc S')) Q (fun c d H' => W c d σ H'),
    ⟨_, rfl, Nat.zero_le _, [], [], S1, ι1, R1, .refl, ab.frame_new hD, repL_nil, w1⟩, ?_⟩
  rintro i m H ⟨rfl, hi, acc, xs, S', ι', R', st, ab, rs, w⟩
  by_cases hlt : i < src.items.length
  · have hd : src.items.drop i = src.items[i] :: src.items.drop (i + 1) := List.drop_eq_getElem_cons hlt
    rw [hd] at w
    unfold lcGo at w
    by_cases hok : src.ok S'
    · rw [if_pos hok] at w
      obtain ⟨j1, _⟩ := rJ _ S' ι' R' H i st ab hok
      obtain ⟨jg, jy⟩ := j1 _ (List.getElem?_eq_getElem hlt)
      refine .inr ⟨jg, fun H => ∃ acc xs S' ι' R', Stp S1 ι1 R1 S' ι' R' ∧ Ab K (upd Fr D (.lst xs)) S' ι' R' H ∧ RepL K R' S' ι' acc xs ∧ wpN K Fr S' ι' R' (noEx (lcGo src.ok gt tt el (wipeD δ vs) (src.items.drop (i + 1)) acc S')) Q (fun c d H' => W c d σ H'), fun H' q => ⟨_, by omega, rfl, hlt, q⟩, fun x H2 y => ?_⟩
      obtain ⟨R2, st2, ab2, r2⟩ := jy x H2 y
      cases e : gt src.items[i] (wipeD δ vs) S' with
      | bad => rw [e] at w; exact w.elim
      | exc c fs S2 => rw [e] at w; exact w.elim
      | ok a =>
        rw [e] at w
        obtain ⟨δ3, S3⟩ := a
        obtain rfl := T.keep _ _ _ _ _ e
        refine T.read R2 S3 ι' H2 _ x (wipeD δ vs) δ3 S3 (wipe σ vs) _ ab2.sub (wipe_locs ((lo.step st).step st2) vs) r2 e fun σ3 lo3 w3 => ⟨w3.trans (wipe_sub fun _ h => h), ?_⟩
        dsimp only at w
        refine ⟨δ3, S3, ι', R2, upd Fr D (.lst xs), ab2, lo3, ?_⟩
        cases e2 : tt δ3 S3 with
        | bad => rw [e2] at w; exact w.elim
        | exc c fs S2 => rw [e2] at w; exact w.elim
        | ok a =>
          obtain ⟨b, S4⟩ := a
          rw [e2] at w
          intro b' ι4 R4 H4 st4 ab4 rb
          obtain rfl : b' = b := rb
          have st5 := (st.trans st2).trans st4
          have rs4 := RepL.step (st2.trans st4) rs
          have w := w.step (st2.trans st4)
          have w : wpN K Fr S4 ι4 R4 (noEx (if b' = true then (el δ3 S4).bind fun y S3 => if acc.length < sizeLine then lcGo src.ok gt tt el (wipeD δ vs) (src.items.drop (i + 1)) (acc ++ [y]) S3 else .bad else lcGo src.ok gt tt el (wipeD δ vs) (src.items.drop (i + 1)) acc S4)) Q (fun c d H' => W c d σ H') := w
          cases b' with
          | false =>
            rw [if_neg Bool.false_ne_true] at w
            exact iteF ⟨acc, xs, S4, ι4, R4, st5, ab4, rs4, w⟩
          | true =>
            rw [if_pos rfl] at w
            refine iteT ?_
            refine ⟨δ3, S4, ι4, R4, upd Fr D (.lst xs), ab4, lo3.step st4, ?_⟩
            cases e3 : el δ3 S4 with
            | bad => rw [e3] at w; exact w.elim
            | exc c fs S2 => rw [e3] at w; exact w.elim
            | ok a =>
              obtain ⟨y, S5⟩ := a
              rw [e3] at w
              intro yv ι6 R6 H6 st6 ab6 ry
              have w := w.step st6
              have w : wpN K Fr S5 ι6 R6 (noEx (if acc.length < sizeLine then lcGo src.ok gt tt el (wipeD δ vs) (src.items.drop (i + 1)) (acc ++ [y]) S5 else .bad)) Q (fun c d H' => W c d σ H') := w
              have rs6 := RepL.step st6 rs4
              by_cases hl : acc.length < sizeLine
              · rw [if_pos hl] at w
                exact ⟨xs, ab6.fsub D _ upd_same, by rw [rs6.length]; exact hl, acc ++ [y], xs ++ [yv], S5, ι6, R6, st5.trans st6, ab6.frame_set, rs6.append (repL_cons ry repL_nil), w⟩
              · rw [if_neg hl] at w
                exact w.elim
    · rw [if_neg hok] at w
      exact w.elim
  · have e : i = src.items.length := by omega
    have hd : src.items.drop i = [] := List.drop_eq_nil_of_le (Nat.le_of_eq e.symm)
    rw [hd] at w
    unfold lcGo at w
    by_cases hok : src.ok S'
    · rw [if_pos hok] at w
      obtain ⟨_, js⟩ := rJ _ S' ι' R' H i st ab hok
      refine .inl ⟨js (Nat.le_of_eq e.symm), ?_⟩
      have w : wpN K Fr S' ι' R' (.ok (acc, S')) Q (fun c d H' => W c d σ H') := w
      exact w D xs ι' R' H .refl hF ab rs
    · rw [if_neg hok] at w
      exact w.elim
theorem dts_nil : PTs X [] (cO relB X.K W yes) := ⟨fun pins s σ H Q I ⟨δ, S, ι, R, Fr, ab, lo, w⟩ => pts_nil.run pins s σ H Q I (wpO.ok (rel := relB) w ab rfl)⟩
theorem dts_one {c : Expr} (h : DT X W c tt) : PTs X [c] (cO relB X.K W tt) := pts_one h
abbrev Blk (X : Cx) (s : Shared) (H : Hp) (scope : Scope) (C : Addr) (cl : List (Str × Addr)) (fp : List Addr) : Cx := X.blk s H scope (compEnvC scope cl C X.env) fp
theorem dn_lc (hc : X.calm = true) (hN : X.N.Nodup) (own : List (Str × Nat)) (hi : DI X W tg iter gi) (ok : BlkOk X.N X.env.scope scope own) (T : TgOk X.K (own.map (·.2)) g gt)
    (hg : ∀ (s : Shared) (H : Hp) (C : Addr) (cl : List (Str × Addr)) (fp : List Addr), PG (Blk X s H scope C cl fp) tg g) (ht : ∀ (s : Shared) (H : Hp) (C : Addr) (cl : List (Str × Addr)) (fp : List Addr), PTs (Blk X s H scope C cl fp) ifs (cO relB X.K WF tt))
    (he : ∀ (s : Shared) (H : Hp) (C : Addr) (cl : List (Str × Addr)) (fp : List Addr), DE (Blk X s H scope C cl fp) WF elt el) (hs : ∀ x, foldedSetIterable iter X.env x = pure x := by intro _; rfl) :
    DN X W (.ListComp elt [⟨tg, iter, ifs, 0⟩] scope pos) (lLc (own.map (·.2)) gi gt tt el) :=
  PE.imp (pe_lc hc hN hi ok hg ht he hs) fun σ H Q w => lcGo_read σ H Q w T
theorem ds_setLcR {i : Nat} {y : Str} {py spos : Pos} {h : LE} (hc : X.calm = true) (hN : X.N.Nodup) (own : List (Str × Nat)) (hy : X.N[i]? = some y) (hyl : X.env.scope.names.lookup y = some .local)
    (hsw : swapsWith (.ListComp elt [⟨tg, iter, ifs, 0⟩] scope pos) (some (.Name y py)) spos.line X.env = pure true) (hi : DI X W tg iter gi) (ok : BlkOk X.N X.env.scope scope own) (T : TgOk X.K (own.map (·.2)) g gt)
    (hg : ∀ (s : Shared) (H : Hp) (C : Addr) (cl : List (Str × Addr)) (fp : List Addr), PG (Blk X s H scope C cl fp) tg g) (ht : ∀ (s : Shared) (H : Hp) (C : Addr) (cl : List (Str × Addr)) (fp : List Addr), PTs (Blk X s H scope C cl fp) ifs (cO relB X.K WF tt))
    (he : ∀ (s : Shared) (H : Hp) (C : Addr) (cl : List (Str × Addr)) (fp : List Addr), DE (Blk X s H scope C cl fp) WF elt el) (hh : ∀ σ H Q, cO (Rep X.K) X.K W h σ H Q → cN X.K W (lLc (own.map (·.2)) gi gt tt el) σ H Q) (hs : ∀ x, foldedSetIterable iter X.env x = pure x := by intro _; rfl) :
    DS X W (.Assign [.Name y py] (.ListComp elt [⟨tg, iter, ifs, 0⟩] scope pos) spos) (sSet i h) :=
  PS.imp (ps_setLc hc hN hy hyl hsw hi ok hg ht he hs) fun D σ H w => lcGo_read (W := W) σ H _ (hh σ H _ (cS.bindE (rel := Rep X.K) (f := fun δ d S1 => .ok .nx (δ.set i (some d)) S1) w fun d v δ S1 ι1 R1 Fr H1 ab lo r w1 => w1 (σ.set i (some v)) ι1 R1 H1 .refl ab (lo.set r i))) T
end
end DL

set_option Elab.async false
set_option linter.all false
set_option maxRecDepth 100000
set_option maxHeartbeats 4000000
namespace DL
open PySem PySem.Spec L2
variable {Fr : Hp}

/-! ### calls whose exceptions are wished for at the slots -/
section
variable {X : Cx} {CX : CXT} {k n : Nat} {f C : Addr} {fd : FuncData} {ps ks : List Str} {sp : Sp} {dvs : List V} {ds : List Value} {E : L2.St → XK} {x m : Str} {p pos apos : Pos} {e o : Expr} {es : List Expr} {kws : List Keyword} {ta : TE} {t tk : TA} {g : List Value → List Value → List Value} {gV : List V → List V → List V}
theorem run_fnD {pins : List (Addr × Obj)} {σ : L2.St} {H : Hp} {s : Shared} {Q : VK} {us : List Value} {vs : List V} (F : FnOk X.prog X.w X.K X.mg X.base CX k f fd ps sp) (hr : Room k X.A) (hb : Binds X.K fd ps ds) (hd : Vals dvs ds) (hx : PassesAt CX X σ (E σ))
    (I : Inv X pins σ H s) (r : Vals vs us) (h : sp (vs ++ dvs) H Q (E σ)) : wpAny (model X.prog X.w) X.A (call (.ref f) us) (EP X pins σ Q) X.xe s := by
  have r2 : Vals (vs ++ dvs) (us ++ ds) := r.append hd
  have hl : (us ++ ds).length = ps.length := by rw [← r2.length]; exact F.len _ _ _ _ h
  refine wpAny_call (codeAny_mono (F.run X.A X.stack s H ⟨us, []⟩ (us ++ ds) (vs ++ dvs) Q (E σ) hr I.env0 (hb s us I.kIn hl) r2 h) fun r s' hq => ?_)
  cases r with
  | error e => exact hx pins H s e s' I hq
  | ok fl =>
    cases fl with
    | ret u => exact I.after hq
    | next => exact False.elim hq
    | brk => exact False.elim hq
    | cont => exact False.elim hq
theorem run_fnDN {pins : List (Addr × Obj)} {σ : L2.St} {H : Hp} {s : Shared} {Q : VK} {us ws : List Value} {vs zs : List V} (F : FnOk X.prog X.w X.K X.mg X.base CX k f fd ps sp) (hr : Room k X.A) (hb : KBn X.K fd ps n ks g gV) (hx : PassesAt CX X σ (E σ))
    (I : Inv X pins σ H s) (r : Vals vs us) (rz : Vals zs ws) (l1 : vs.length = n) (l2 : zs.length = ks.length) (h : sp (gV vs zs) H Q (E σ)) : wpAny (model X.prog X.w) X.A (call (.ref f) us (ks.zip ws)) (EP X pins σ Q) X.xe s := by
  have r2 := hb.rel r rz
  refine wpAny_call (codeAny_mono (F.run X.A X.stack s H ⟨us, ks.zip ws⟩ (g us ws) (gV vs zs) Q (E σ) hr I.env0 (hb.to s us ws I.kIn (r.length.symm.trans l1) (rz.length.symm.trans l2)) r2 h) fun r s' hq => ?_)
  cases r with
  | error e => exact hx pins H s e s' I hq
  | ok fl =>
    cases fl with
    | ret u => exact I.after hq
    | next => exact False.elim hq
    | brk => exact False.elim hq
    | cont => exact False.elim hq
def tCallD (sp : Sp) (dvs : List V) (E : L2.St → XK) (t : TA) : TE := fun σ H Q => t σ H fun vs H1 => sp (vs ++ dvs) H1 Q (E σ)
theorem pe_callD (F : FnOk X.prog X.w X.K X.mg X.base CX k f fd ps sp) (hr : Room k X.A) (hg : Gl X x) (hm : X.mg x = some (.ref f)) (hk : PySem.W.keepIn X.K (.ref f) = true) (hb : Binds X.K fd ps ds) (hd : Vals dvs ds) (hx : ∀ σ, PassesAt CX X σ (E σ))
    (ha : PA X (e :: es) t) (hdb : (x == ("__debug__" : Str)) = false := by decide) (he : starEach (e :: es) X.env = (false, eval e X.env) :: starEach es X.env := by rfl) (hpl : (backTo pos (starEach es X.env)).any (·.1) = false := by rfl) :
    PE X (.Call (.Name x p) (e :: es) [] pos) (tCallD sp dvs E t) := by
  refine ⟨fun pins s σ H Q I h => ?_⟩
  refine wpAny_Call_Name_kw (ld_glob I hg hm ?_ hdb)
  refine PySem.W.callWith_K (h₀ := X.base) I.ok.mod.kin hk (thn (ha.run pos pins s σ H _ I h) fun us s1 ⟨vs, H1, I1, r, q⟩ => ⟨I1.kIn, ?_⟩) he hpl
  exact run_fnD F hr hb hd (hx σ) I1 r q
theorem pe_callD0 (F : FnOk X.prog X.w X.K X.mg X.base CX k f fd ps sp) (hr : Room k X.A) (hg : Gl X x) (hm : X.mg x = some (.ref f)) (hk : PySem.W.keepIn X.K (.ref f) = true) (hb : Binds X.K fd ps ds) (hd : Vals dvs ds) (hx : ∀ σ, PassesAt CX X σ (E σ))
    (hdb : (x == ("__debug__" : Str)) = false := by decide) : PE X (.Call (.Name x p) [] [] pos) (tCallD sp dvs E tNil) := by
  refine ⟨fun pins s σ H Q I h => ?_⟩
  refine wpAny_Call_Name_kw (ld_glob I hg hm ?_ hdb)
  exact PySem.W.callWith_K0 I.kIn hk (run_fnD (us := []) F hr hb hd (hx σ) I .nil h)
def tMethD (C : Addr) (m : Str) (sp : Sp) (dvs : List V) (E : L2.St → XK) (ta : TE) (t : TA) : TE := fun σ H Q => ta σ H fun x H1 => ∃ a dx fs, x = .ref a ∧ H1 a = some (.ins C dx fs) ∧ fs.lookup m = none ∧
  t σ H1 fun vs H2 => sp (x :: (vs ++ dvs)) H2 Q (E σ)
theorem pe_methD {pl : Sem Bool} (he : PE X o ta) (c : Cls X.K C) (hm : Meth X.K C m f) (F : FnOk X.prog X.w X.K X.mg X.base CX k f fd ps sp) (hr : Room k X.A) (hb : Binds X.K fd ps ds) (hd : Vals dvs ds) (hx : ∀ σ, PassesAt CX X σ (E σ)) (ha : PA X (e :: es) t)
    (hst : starEach (e :: es) X.env = (false, eval e X.env) :: starEach es X.env := by rfl) (hpl : (backTo pos (starEach es X.env)).any (·.1) = false := by rfl)
    (ht : eval (.Call (.Attribute o m apos) (e :: es) [] pos) X.env = (do
      let ov ← eval o X.env
      standAt apos.atName
      let (f, first) ← holding [ov] (getMethod ov m pl)
      callWith pos f first (backTo pos (starEach (e :: es) X.env)) (backToKw pos (keywordEach [] X.env))) := by rfl) :
    PE X (.Call (.Attribute o m apos) (e :: es) [] pos) (tMethD C m sp dvs E ta t) := by
  refine ⟨fun pins s σ H Q I h => ?_⟩
  refine PySem.W.methodCall_KW (pl := pl) (thn (he.run pins s σ H _ I h) fun u s1 ⟨x, H1, I1, rx, a, dx, fs, ex, ea, l, q⟩ => ?_) ht
  subst ex
  obtain rfl : u = Value.ref a := rx
  refine getmeth_ok I1 ea c hm l ?_
  refine PySem.W.callWith_K (first := [.ref a]) (h₀ := X.base) I.ok.mod.kin hm.kp (thn (ha.run pos pins s1 σ H1 _ I1 q) fun us s2 ⟨vs, H2, I2, r, q2⟩ => ⟨I2.kIn, ?_⟩) hst hpl
  exact run_fnD (us := .ref a :: us) (vs := .ref a :: vs) F hr hb hd (hx σ) I2 (.cons rfl r) q2
theorem pe_methD0 {pl : Sem Bool} (he : PE X o ta) (c : Cls X.K C) (hm : Meth X.K C m f) (F : FnOk X.prog X.w X.K X.mg X.base CX k f fd ps sp) (hr : Room k X.A) (hb : Binds X.K fd ps ds) (hd : Vals dvs ds) (hx : ∀ σ, PassesAt CX X σ (E σ))
    (ht : eval (.Call (.Attribute o m apos) [] [] pos) X.env = (do
      let ov ← eval o X.env
      standAt apos.atName
      let (f, first) ← holding [ov] (getMethod ov m pl)
      callWith pos f first (backTo pos (starEach [] X.env)) (backToKw pos (keywordEach [] X.env))) := by rfl) :
    PE X (.Call (.Attribute o m apos) [] [] pos) (tMethD C m sp dvs E ta tNil) := by
  refine ⟨fun pins s σ H Q I h => ?_⟩
  refine PySem.W.methodCall_KW (pl := pl) (thn (he.run pins s σ H _ I h) fun u s1 ⟨x, H1, I1, rx, a, dx, fs, ex, ea, l, q⟩ => ?_) ht
  subst ex
  obtain rfl : u = Value.ref a := rx
  refine getmeth_ok I1 ea c hm l ?_
  exact PySem.W.callWith_K0 (first := [.ref a]) I1.kIn hm.kp (run_fnD (us := [.ref a]) (vs := [.ref a]) F hr hb hd (hx σ) I1 (.cons rfl .nil) q)
def tMakeD (C : Addr) (sp : Sp) (dvs : List V) (E : L2.St → XK) (t : TA) : TE := fun σ H Q => t σ H fun vs H1 => ∀ x dx, H1 x = none → H1 dx = none → dx ≠ x →
  sp (.ref x :: (vs ++ dvs)) (upd (upd H1 dx (.own x)) x (.ins C dx [])) (fun v H2 => v = .non ∧ Q (.ref x) H2) (E σ)
theorem run_makeD {pins : List (Addr × Obj)} {σ : L2.St} {H : Hp} {s : Shared} {Q : VK} {us : List Value} {vs : List V} (M : Mk X.K C f) (F : FnOk X.prog X.w X.K X.mg X.base CX k f fd ps sp) (hr : Room (k + 1) X.A) (hb : Binds X.K fd ps ds) (hd : Vals dvs ds)
    (hx : PassesAt CX X σ (E σ)) (I : Inv X pins σ H s) (r : Vals vs us)
    (h : ∀ x dx, H x = none → H dx = none → dx ≠ x → sp (.ref x :: (vs ++ dvs)) (upd (upd H dx (.own x)) x (.ins C dx [])) (fun v H2 => v = .non ∧ Q (.ref x) H2) (E σ)) :
    wpAny (model X.prog X.w) X.A (call (.ref C) us) (EP X pins σ Q) X.xe s := by
  have hq := h (s.heap.objs.size + 1) s.heap.objs.size (I.hok.fresh (Nat.le_succ _)) (I.hok.fresh (Nat.le_refl _)) (Nat.ne_of_lt (Nat.lt_succ_self _))
  have I2 := Inv.made (C := C) I
  have r2 : Vals (V.ref (s.heap.objs.size + 1) :: (vs ++ dvs)) (Value.ref (s.heap.objs.size + 1) :: (us ++ ds)) := .cons rfl (r.append hd)
  have hl : (Value.ref (s.heap.objs.size + 1) :: us ++ ds).length = ps.length := by
    have e := r2.length
    rw [F.len _ _ _ _ hq] at e
    exact e.symm
  refine wpAny_call (make_map (f := f) I.kIn M.makes M.init (beq_iff_eq.mp M.fn) (codeAny_mono (F.run _ X.stack _ _ ⟨Value.ref (s.heap.objs.size + 1) :: us, []⟩ (Value.ref (s.heap.objs.size + 1) :: (us ++ ds)) _ _ (E σ) (hr.make C us [])
    (I2.env0.make C us []) (hb _ (Value.ref (s.heap.objs.size + 1) :: us) I2.kIn hl) r2 hq) fun r s' hq' => ?_))
  cases r with
  | error e => exact hx pins _ _ e s' I2 hq'
  | ok fl =>
    cases fl with
    | ret u =>
      obtain ⟨v, H', I3, rv, ev, q3⟩ := I2.after hq'
      subst ev
      exact ⟨rv, ⟨V.ref (s.heap.objs.size + 1), H', I3, rfl, q3⟩⟩
    | next => exact False.elim hq'
    | brk => exact False.elim hq'
    | cont => exact False.elim hq'
theorem pe_makeD (M : Mk X.K C f) (F : FnOk X.prog X.w X.K X.mg X.base CX k f fd ps sp) (hr : Room (k + 1) X.A) (hg : Gl X x) (hm : X.mg x = some (.ref C)) (hb : Binds X.K fd ps ds) (hd : Vals dvs ds) (hx : ∀ σ, PassesAt CX X σ (E σ))
    (ha : PA X (e :: es) t) (hdb : (x == ("__debug__" : Str)) = false := by decide) (he : starEach (e :: es) X.env = (false, eval e X.env) :: starEach es X.env := by rfl) (hpl : (backTo pos (starEach es X.env)).any (·.1) = false := by rfl) :
    PE X (.Call (.Name x p) (e :: es) [] pos) (tMakeD C sp dvs E t) := by
  refine ⟨fun pins s σ H Q I h => ?_⟩
  refine wpAny_Call_Name_kw (ld_glob I hg hm ?_ hdb)
  refine PySem.W.callWith_K (h₀ := X.base) I.ok.mod.kin M.kp (thn (ha.run pos pins s σ H _ I h) fun us s1 ⟨vs, H1, I1, r, q⟩ => ⟨I1.kIn, ?_⟩) he hpl
  exact run_makeD M F hr hb hd (hx σ) I1 r q
theorem pe_makeD0 (M : Mk X.K C f) (F : FnOk X.prog X.w X.K X.mg X.base CX k f fd ps sp) (hr : Room (k + 1) X.A) (hg : Gl X x) (hm : X.mg x = some (.ref C)) (hb : Binds X.K fd ps ds) (hd : Vals dvs ds) (hx : ∀ σ, PassesAt CX X σ (E σ))
    (hdb : (x == ("__debug__" : Str)) = false := by decide) : PE X (.Call (.Name x p) [] [] pos) (tMakeD C sp dvs E tNil) := by
  refine ⟨fun pins s σ H Q I h => ?_⟩
  refine wpAny_Call_Name_kw (ld_glob I hg hm ?_ hdb)
  exact PySem.W.callWith_K0 I.kIn M.kp (run_makeD (us := []) M F hr hb hd (hx σ) I .nil h)
/-- f(e, .., k = v, ..) -/
def tCallND (n m : Nat) (sp : Sp) (gV : List V → List V → List V) (E : L2.St → XK) (t tk : TA) : TE := fun σ H Q => t σ H fun vs H1 => tk σ H1 fun zs H2 => vs.length = n ∧ zs.length = m ∧ sp (gV vs zs) H2 Q (E σ)
theorem pe_callND (F : FnOk X.prog X.w X.K X.mg X.base CX k f fd ps sp) (hr : Room k X.A) (hg : Gl X x) (hm : X.mg x = some (.ref f)) (hk : PySem.W.keepIn X.K (.ref f) = true) (hb : KBn X.K fd ps n ks g gV) (hx : ∀ σ, PassesAt CX X σ (E σ))
    (ha : PA X (e :: es) t) (hkw : PK X kws tk) (hall : (backToKw pos (keywordEach kws X.env)).all (·.1.isSome) = true := by rfl) (hks : (backToKw pos (keywordEach kws X.env)).filterMap (·.1) = ks := by rfl)
    (hdb : (x == ("__debug__" : Str)) = false := by decide) (he : starEach (e :: es) X.env = (false, eval e X.env) :: starEach es X.env := by rfl)
    (hpl : ((backTo pos (starEach (e :: es) X.env)).any (·.1) || (backToKw pos (keywordEach kws X.env)).any (·.1.isNone)) = false := by rfl) :
    PE X (.Call (.Name x p) (e :: es) kws pos) (tCallND n ks.length sp gV E t tk) := by
  refine ⟨fun pins s σ H Q I h => ?_⟩
  refine wpAny_Call_Name_kw (ld_glob I hg hm ?_ hdb)
  refine PySem.W.callWith_KW (h₀ := X.base) I.ok.mod.kin hk hall (thn (ha.run pos pins s σ H _ I h) fun us s1 ⟨vs, H1, I1, r, q⟩ => ?_) hpl he
  refine thn (hkw.run pos pins s1 σ H1 _ I1 q) fun ws s2 ⟨zs, H2, I2, rz, l1, l2, q2⟩ => ⟨I2.kIn, ?_⟩
  rw [hks]
  exact run_fnDN F hr hb (hx σ) I2 r rz l1 l2 q2
end

/-! ### a def's promise by its meaning -/
abbrev Fn := List D → Store → Oc (D × Store)
def SpD (K : PySem.W.Frag) (n : Nat) (F : Fn) : Sp := fun vs H Q E => vs.length = n ∧ ∃ ds S ι R Fr, Ab K Fr S ι R H ∧ RepL K R S ι ds vs ∧ wpO (Rep K) K Fr S ι R (F ds S) Q E
/-- a def with its meaning -/
abbrev FnD (P : Program) (w : World) (K : PySem.W.Frag) (mg : Str → Option Value) (base : Heap) (k : Nat) (f : Addr) (fd : FuncData) (ps : List Str) (F : Fn) : Prop := FnOk P w K mg base (L2.CX P w) k f fd ps (SpD K ps.length F)
def bodyD (m : Nat) (g : LS) : Fn := fun ds S => match g (ds.map some ++ List.replicate (m - ds.length) none) S with
  | .ok (.ret d) _ S' => .ok (d, S')
  | .ok .nx _ S' => .ok (.non, S')
  | .exc c fs _ S' => .exc c fs S'
  | _ => .bad
theorem locs_start {K : PySem.W.Frag} {R : Hp} {S : Store} {ι : Nat → Addr} {ds : List D} {vs : List V} {N : List Str} (rs : RepL K R S ι ds vs) : Locs K R S ι (ds.map some ++ List.replicate (N.length - ds.length) none) (L2.start N vs) := by
  unfold L2.start
  have hl := rs.length
  refine ⟨by simp [hl], fun i d e => ?_⟩
  by_cases h : i < ds.length
  · rw [List.getElem?_append_left (by simpa using h), List.getElem?_map] at e
    cases e2 : ds[i]? with
    | none => rw [e2] at e; cases e
    | some d' =>
      rw [e2] at e
      have e3 : d' = d := by simpa using e
      subst e3
      obtain ⟨v, e4, r⟩ := rs.get e2
      exact ⟨v, by rw [List.getElem?_append_left (by simp [hl]; exact h), List.getElem?_map, e4]; rfl, r⟩
  · rw [List.getElem?_append_right (by simpa using h)] at e
    rw [List.getElem?_replicate] at e
    split at e <;> cases e
section
variable {P : Program} {w : World} {K : PySem.W.Frag} {mg : Str → Option Value} {base : Heap}
/-- what a body's rules ask of where they stand -/
structure Ctc (X : Cx) (W : WX) (k : Nat) : Prop where
  hr : Room k X.A
  tk : Takes X W
  calm : X.calm = true
  nd : X.N.Nodup
structure Ctx (X : Cx) (W : WX) (k : Nat) : Prop extends Ctc X W k where
  po : PassesOwn (model X.prog X.w) X.A X.env X.xe
  hs : X.stack = X.env :: X.outer
  hf : X.env.frame = some X.env.locals
theorem Ctc.blk {X : Cx} {W : WX} {k : Nat} (c : Ctc X W k) (s : Shared) (H : Hp) (scope : Scope) (C : Addr) (cl : List (Str × Addr)) (fp : List Addr) : Ctc (Blk X s H scope C cl fp) WF k := ⟨c.hr, takes0, c.calm, c.nd⟩
/-- THE RULE for a def -/
theorem fn_ok {x qual : Str} {params : Arguments} {body : List Stmt} {scope : Scope} {dvs : List V} {kws : List (Str × V)} {f : Addr} {fd : FuncData} {N ps : List Str} {k : Nat} {g : LS}
    (F : FunD K x qual params body scope dvs kws f fd) (S : FnScope N ps scope)
    (hbody : ∀ (cdv : Value) (A : Around) (outer : List Env) (s : Shared) (H : Hp) (E : XK),
      Ctx (cxOf (L2.CX P w) P w K mg base N qual scope f cdv A outer s H E) (fun cls d _ H' => E cls d H') k → DSs (cxOf (L2.CX P w) P w K mg base N qual scope f cdv A outer s H E) (fun cls d _ H' => E cls d H') body g) :
    FnD P w K mg base (k + 1) f fd ps (bodyD N.length g) := by
  refine F.ok S (fun vs H Q E h => h.1) fun cdv A outer s H vs Q E hr h => ⟨_, hbody cdv A outer s H E ⟨⟨hr, takes_of rfl rfl rfl rfl, rfl, S.nd⟩, passes_of rfl, rfl, rfl⟩, ?_⟩
  obtain ⟨_, ds, S', ι, R, Fr, ab, rs, w⟩ := h
  refine ⟨_, S', ι, R, Fr, ab, locs_start (N := N) rs, ?_⟩
  unfold bodyD at w
  cases e : g (ds.map some ++ List.replicate (N.length - ds.length) none) S' with
  | bad => rw [e] at w; exact w
  | exc c fs δ S2 => rw [e] at w; exact fun σ dx ι' R' H' st ab' lo xr => w dx ι' R' H' st ab' xr
  | ok fl δ S2 =>
    rw [e] at w
    cases fl with
    | nx => exact fun σ ι' R' H' st ab' lo => w .non ι' R' H' st ab' rep_non
    | brk => exact w.elim
    | cont => exact w.elim
    | ret d => exact fun v ι' R' H' st ab' r => w v ι' R' H' st ab' r
end

/-! ### calls by meaning -/
def KonstL (K : PySem.W.Frag) (dd : List D) (dvs : List V) : Prop := ∀ R S ι, RepL K R S ι dd dvs
theorem konstL_nil {K : PySem.W.Frag} : KonstL K [] [] := fun _ _ _ => repL_nil
theorem konstL_cons {K : PySem.W.Frag} {d : D} {v : V} {dd : List D} {dvs : List V} (h : Konst K d v) (t : KonstL K dd dvs) : KonstL K (d :: dd) (v :: dvs) := fun R S ι => repL_cons (h R S ι) (t R S ι)
def xCall (n : Nat) (F : Fn) (dd : List D) (args : LA) : LE := fun δ S => (args δ S).bind fun ds S1 => if (ds ++ dd).length = n then F (ds ++ dd) S1 else .bad
theorem spD_of {K : PySem.W.Frag} {n : Nat} {F : Fn} {S : Store} {ι : Nat → Addr} {R H : Hp} {ds dd : List D} {vs dvs : List V} {Q : VK} {E : XK} (ab : Ab K Fr S ι R H) (rs : RepL K R S ι ds vs) (hD : KonstL K dd dvs)
    (w : wpO (Rep K) K Fr S ι R (if (ds ++ dd).length = n then F (ds ++ dd) S else .bad) Q E) : SpD K n F (vs ++ dvs) H Q E := by
  have r2 := rs.append (hD R S ι)
  by_cases h : (ds ++ dd).length = n
  · rw [if_pos h] at w
    exact ⟨by rw [r2.length]; exact h, _, S, ι, R, Fr, ab, r2, w⟩
  · rw [if_neg h] at w
    exact w.elim
section
variable {X : Cx} {W : WX} {k n : Nat} {a C : Addr} {fd : FuncData} {ps : List Str} {F : Fn} {dvs : List V} {ds : List Value} {dd : List D} {x m : Str} {p pos apos : Pos} {e o : Expr} {es : List Expr} {g : LA} {go : LE}
theorem call_read {K : PySem.W.Frag} (hD : KonstL K dd dvs) : ∀ σ H Q, cO (Rep K) K W (xCall n F dd g) σ H Q → tCallD (SpD K n F) dvs (WE W) (cO (RepL K) K W g) σ H Q := fun σ H Q w =>
  cO.bind (rel := RepL K) (rel2 := Rep K) (f := fun ds (_ : Lc) S1 => if (ds ++ dd).length = n then F (ds ++ dd) S1 else .bad) w fun ds vs δ S1 ι1 R1 Fr H1 ab lo rs w1 => spD_of ab rs hD w1
theorem de_call (c : Ctc X W k) (hF : FnD X.prog X.w X.K X.mg X.base k a fd ps F) (hm : X.mg x = some (.ref a)) (hk : PySem.W.keepIn X.K (.ref a) = true) (hb : Binds X.K fd ps ds) (hd : Vals dvs ds) (hD : KonstL X.K dd dvs)
    (ha : DA X W (e :: es) g) (hg : Gl X x := by rfl) (hdb : (x == ("__debug__" : Str)) = false := by decide) (he : starEach (e :: es) X.env = (false, eval e X.env) :: starEach es X.env := by rfl) (hpl : (backTo pos (starEach es X.env)).any (·.1) = false := by rfl) :
    DE X W (.Call (.Name x p) (e :: es) [] pos) (xCall ps.length F dd g) := PE.imp (pe_callD hF c.hr hg hm hk hb hd (fun σ => passAt c.tk σ) ha hdb he hpl) (call_read hD)
theorem nil_read {K : PySem.W.Frag} {σ : L2.St} {H : Hp} {P : List V → Hp → Prop} (h : cO (RepL K) K W xNil σ H P) : tNil σ H P := by
  obtain ⟨δ, S, ι, R, Fr, ab, lo, w⟩ := h
  exact w.ok ab repL_nil
theorem de_call0 (c : Ctc X W k) (hF : FnD X.prog X.w X.K X.mg X.base k a fd ps F) (hm : X.mg x = some (.ref a)) (hk : PySem.W.keepIn X.K (.ref a) = true) (hb : Binds X.K fd ps ds) (hd : Vals dvs ds) (hD : KonstL X.K dd dvs)
    (hg : Gl X x := by rfl) (hdb : (x == ("__debug__" : Str)) = false := by decide) :
    DE X W (.Call (.Name x p) [] [] pos) (xCall ps.length F dd xNil) := PE.imp (pe_callD0 hF c.hr hg hm hk hb hd (fun σ => passAt c.tk σ) hdb) fun σ H Q w => nil_read (call_read (g := xNil) hD σ H Q w)
/-! methods -/
def insOf (d : D) (S : Store) : Option (Str × List Str × List D) := match d with
  | .ins c ns ds => some (c, ns, ds)
  | .ref n => match S[n]? with
    | some (some (.ins c ns ds)) => some (c, ns, ds)
    | _ => none
  | _ => none
theorem insOf_ok {K : PySem.W.Frag} {S : Store} {ι : Nat → Addr} {R H : Hp} {d : D} {c : Str} {ns : List Str} {ds : List D} {v : V} (ab : Ab K Fr S ι R H) (r : Rep K R S ι d v) (e : insOf d S = some (c, ns, ds)) :
    ∃ a dx fs, v = .ref a ∧ H a = some (.ins (He.ga K c) dx fs) ∧ InsOk K c ns ds fs ∧ RepF K R S ι ns ds fs := by
  cases d with
  | ins c' ns' ds' =>
    have e1 : some (c', ns', ds') = some (c, ns, ds) := e
    cases e1
    unfold Rep at r
    obtain ⟨a, dx, fs, e2, q, q2, l, rs⟩ := r
    exact ⟨a, dx, fs, e2, ab.sub _ _ q, l, rs⟩
  | ref n =>
    unfold Rep at r
    obtain ⟨a, e2, l, q⟩ := r
    unfold insOf at e
    cases h : S[n]? with
    | none => simp only [h] at e; cases e
    | some o =>
      cases o with
      | none => simp only [h] at e; cases e
      | some cc =>
        cases cc with
        | ins c' ns' ds' =>
          simp only [h] at e
          cases e
          have z := ab.cell n _ h
          obtain ⟨dx, fs, hH, hR, io, rs⟩ := z
          have ea := q ⟨_, h⟩
          subst ea
          exact ⟨_, dx, fs, e2, hH, io, rs⟩
        | _ => simp only [h] at e; cases e
  | _ => cases e
theorem InsOk.nometh {K : PySem.W.Frag} {c : Str} {ns : List Str} {ds : List D} {fs : List (Str × V)} {m : Str} {f : Addr} (io : InsOk K c ns ds fs) (hm : Meth K (He.ga K c) m f) : fs.lookup m = none := by
  cases e : fs.lookup m with
  | none => rfl
  | some v =>
    have h1 := io.noat m (io.only m v e)
    have h2 := hm.at_
    unfold NoAttr at h1
    rw [h1] at h2
    cases h2
/-- the receiver is an instance of the class named c -/
def isIns (c : Str) (d : D) (S : Store) : Bool := match insOf d S with
  | some (c', _, _) => decide (c' = c)
  | _ => false
def xMeth (c : Str) (n : Nat) (F : Fn) (dd : List D) (o : LE) (args : LA) : LE := fun δ S => (o δ S).bind fun d S1 => if isIns c d S1 = true then (args δ S1).bind fun ds S2 => if (d :: (ds ++ dd)).length = n then F (d :: (ds ++ dd)) S2 else .bad else .bad
theorem meth_read {K : PySem.W.Frag} {c : Str} {f : Addr} (hm : Meth K (He.ga K c) m f) (hD : KonstL K dd dvs) : ∀ σ H Q, cO (Rep K) K W (xMeth c n F dd go g) σ H Q → tMethD (He.ga K c) m (SpD K n F) dvs (WE W) (cO (Rep K) K W go) (cO (RepL K) K W g) σ H Q := fun σ H Q w =>
  cO.bind (rel := Rep K) (rel2 := Rep K) (f := fun d (δ : Lc) S1 => if isIns c d S1 = true then (g δ S1).bind fun ds S2 => if (d :: (ds ++ dd)).length = n then F (d :: (ds ++ dd)) S2 else .bad else .bad) w fun d v δ S1 ι1 R1 Fr H1 ab lo r w1 => by
    by_cases h : isIns c d S1 = true
    · rw [if_pos h] at w1
      unfold isIns at h
      cases e : insOf d S1 with
      | none => rw [e] at h; cases h
      | some q =>
        obtain ⟨c', ns, ds'⟩ := q
        rw [e] at h
        obtain rfl : c' = c := of_decide_eq_true h
        obtain ⟨a, dx, fs, rfl, hH, io, rf⟩ := insOf_ok ab r e
        refine ⟨a, dx, fs, rfl, hH, io.nometh hm, δ, S1, ι1, R1, Fr, ab, lo, ?_⟩
        refine wpO.bind w1 fun ds S2 vs ι2 R2 H2 st ab2 rs w2 => ?_
        by_cases hl : (d :: (ds ++ dd)).length = n
        · rw [if_pos hl] at w2
          have r2 := repL_cons (r.step st) (rs.append (hD R2 S2 ι2))
          exact ⟨by rw [r2.length]; exact hl, _, S2, ι2, R2, Fr, ab2, r2, w2⟩
        · rw [if_neg hl] at w2
          exact w2.elim
    · rw [if_neg h] at w1
      exact w1.elim
theorem de_meth {pl : Sem Bool} (cn : Str) (c : Ctc X W k) (cl : Cls X.K (He.ga X.K cn)) (hm : Meth X.K (He.ga X.K cn) m a) (hF : FnD X.prog X.w X.K X.mg X.base k a fd ps F) (hb : Binds X.K fd ps ds) (hd : Vals dvs ds) (hD : KonstL X.K dd dvs) (ho : DE X W o go) (ha : DA X W (e :: es) g)
    (hst : starEach (e :: es) X.env = (false, eval e X.env) :: starEach es X.env := by rfl) (hpl : (backTo pos (starEach es X.env)).any (·.1) = false := by rfl)
    (ht : eval (.Call (.Attribute o m apos) (e :: es) [] pos) X.env = (do
      let ov ← eval o X.env
      standAt apos.atName
      let (f, first) ← holding [ov] (getMethod ov m pl)
      callWith pos f first (backTo pos (starEach (e :: es) X.env)) (backToKw pos (keywordEach [] X.env))) := by rfl) :
    DE X W (.Call (.Attribute o m apos) (e :: es) [] pos) (xMeth cn ps.length F dd go g) := PE.imp (pe_methD ho cl hm hF c.hr hb hd (fun σ => passAt c.tk σ) ha hst hpl ht) (meth_read hm hD)
theorem de_meth0 {pl : Sem Bool} (cn : Str) (c : Ctc X W k) (cl : Cls X.K (He.ga X.K cn)) (hm : Meth X.K (He.ga X.K cn) m a) (hF : FnD X.prog X.w X.K X.mg X.base k a fd ps F) (hb : Binds X.K fd ps ds) (hd : Vals dvs ds) (hD : KonstL X.K dd dvs) (ho : DE X W o go)
    (ht : eval (.Call (.Attribute o m apos) [] [] pos) X.env = (do
      let ov ← eval o X.env
      standAt apos.atName
      let (f, first) ← holding [ov] (getMethod ov m pl)
      callWith pos f first (backTo pos (starEach [] X.env)) (backToKw pos (keywordEach [] X.env))) := by rfl) :
    DE X W (.Call (.Attribute o m apos) [] [] pos) (xMeth cn ps.length F dd go xNil) := PE.imp (pe_methD0 ho cl hm hF c.hr hb hd (fun σ => passAt c.tk σ) ht) fun σ H Q w => by
  have z := meth_read (g := xNil) (W := W) hm hD σ H Q w
  obtain ⟨δ, S, ι, R, Fr, ab, lo, w1⟩ := z
  exact ⟨δ, S, ι, R, Fr, ab, lo, by
    cases e1 : go δ S with
    | bad => rw [e1] at w1; exact w1
    | exc c fs S' => rw [e1] at w1; exact w1
    | ok q => rw [e1] at w1; exact fun v ι' R' H' st ab' r => let ⟨a, dx, fs, e2, h2, h3, h4⟩ := w1 v ι' R' H' st ab' r; ⟨a, dx, fs, e2, h2, h3, nil_read h4⟩⟩
end
end DL

set_option Elab.async false
set_option linter.all false
set_option maxRecDepth 100000
set_option maxHeartbeats 4000000
namespace DL
open PySem PySem.Spec L2
variable {Fr : Hp}

/-! ### fields -/
def fldAt (i : Nat) (f : Str) (ns : List Str) (ds : List D) : Option D := if ns[i]? = some f then (match ds[i]? with
  | some .bot => none
  | o => o) else none
theorem RepF.get {K : PySem.W.Frag} {R : Hp} {S : Store} {ι : Nat → Addr} : ∀ {ns : List Str} {ds : List D} {fs : List (Str × V)} {i : Nat} {f : Str} {d : D}, RepF K R S ι ns ds fs → fldAt i f ns ds = some d → ∃ v, fs.lookup f = some v ∧ Rep K R S ι d v
  | [], ds, fs, i, f, d, _, e => by simp [fldAt] at e
  | n :: ns, [], fs, i, f, d, _, e => by
    unfold fldAt at e
    split at e
    · simp at e
    · cases e
  | n :: ns, d' :: ds, fs, i, f, d, h, e => by
    have hr : RepF K R S ι ns ds fs := by cases d' <;> (unfold RepF at h; exact h.2)
    unfold fldAt at e
    cases i with
    | succ i =>
      refine RepF.get (i := i) (f := f) (d := d) hr ?_
      unfold fldAt
      simpa using e
    | zero =>
      by_cases hn : n = f
      · subst hn
        rw [if_pos (by simp)] at e
        cases d' with
        | bot => cases e
        | _ =>
          have e2 := Option.some.inj e
          subst e2
          unfold RepF at h
          exact h.1
      · rw [if_neg (by simpa using hn)] at e
        cases e
def fldOf (i : Nat) (f : Str) : F1 := fun d S => match insOf d S with
  | some (_, ns, ds) => (match fldAt i f ns ds with
    | some x => .ok (x, S)
    | none => .bad)
  | none => .bad
def xFld (i : Nat) (f : Str) (g : LE) : LE := x1 (fldOf i f) g
theorem fldAt_mem {i : Nat} {f : Str} {ns : List Str} {ds : List D} {d : D} (e : fldAt i f ns ds = some d) : f ∈ ns := by
  unfold fldAt at e
  split at e
  · rename_i h
    exact List.mem_of_getElem? h
  · cases e
section
variable {X : Cx} {W : WX} {o e : Expr} {f : Str} {go ge : LE} {pos pos' tpos : Pos}
theorem de_fld (i : Nat) (ho : DE X W o go) (hb : attributeBase o f X.env (eval o X.env) = eval o X.env := by rfl) : DE X W (.Attribute o f pos) (xFld i f go) :=
  PE.imp (pe_fld ho hb) fun σ H Q w => cO.bind (rel := Rep X.K) (rel2 := Rep X.K) (f := fun d (_ : Lc) S1 => fldOf i f d S1) w fun d v δ S1 ι1 R1 Fr H1 ab lo r w1 => by
    unfold fldOf at w1
    cases e : insOf d S1 with
    | none => rw [e] at w1; exact w1.elim
    | some q =>
      obtain ⟨c, ns, ds⟩ := q
      rw [e] at w1
      dsimp only at w1
      cases e2 : fldAt i f ns ds with
      | none => rw [e2] at w1; exact w1.elim
      | some x =>
        rw [e2] at w1
        obtain ⟨a, dx, fs, rfl, hH, io, rf⟩ := insOf_ok ab r e
        obtain ⟨u, l, ru⟩ := rf.get e2
        exact ⟨a, _, dx, fs, u, rfl, hH, io.cls, io.noat f (fldAt_mem e2), l, w1.ok ab ru⟩
end
theorem lookup_put_some (f : Str) (v : V) : ∀ fs : List (Str × V), (fs.lookup f).isSome = true → (putF f v fs).length = fs.length
  | [], h => by simp at h
  | (g, u) :: fs, h => by
    unfold putF
    by_cases e : g = f
    · rw [if_pos e]; rfl
    · rw [if_neg e]
      have hb : (f == g) = false := by simpa using fun z : f = g => e z.symm
      have h2 : (fs.lookup f).isSome = true := by simpa [List.lookup, hb] using h
      show (putF f v fs).length + 1 = fs.length + 1
      rw [lookup_put_some f v fs h2]
theorem nb_le : ∀ ds : List D, nb ds ≤ ds.length
  | [] => Nat.le_refl 0
  | d :: ds => by
    have := nb_le ds
    unfold nb
    split <;> simp <;> omega
theorem nb_set {d : D} (hd : isBot d = false) : ∀ {ds : List D} {i : Nat} {e : D}, ds[i]? = some e → nb (ds.set i d) = nb ds + (if isBot e then 1 else 0)
  | [], i, e, h => by simp at h
  | x :: ds, 0, e, h => by
    have : x = e := by simpa using h
    subst this
    show (if isBot d then 0 else 1) + nb ds = (if isBot x then 0 else 1) + nb ds + _
    rw [hd]
    cases isBot x <;> simp <;> omega
  | x :: ds, i + 1, e, h => by
    show (if isBot x then 0 else 1) + nb (ds.set i d) = (if isBot x then 0 else 1) + nb ds + _
    rw [nb_set hd (i := i) (e := e) (by simpa using h)]
    omega
theorem repF_bot {K : PySem.W.Frag} {R : Hp} {S : Store} {ι : Nat → Addr} {n : Str} {ns : List Str} {d : D} {ds : List D} {fs : List (Str × V)} :
    RepF K R S ι (n :: ns) (d :: ds) fs ↔ ((isBot d = true ∧ fs.lookup n = none) ∨ (isBot d = false ∧ ∃ v, fs.lookup n = some v ∧ Rep K R S ι d v)) ∧ RepF K R S ι ns ds fs := by
  cases d <;> simp [RepF, isBot]
theorem RepF.put {K : PySem.W.Frag} {R : Hp} {S : Store} {ι : Nat → Addr} {f : Str} {d : D} {v : V} (hd : isBot d = false) (r : Rep K R S ι d v) : ∀ {ns : List Str} {ds : List D} {fs : List (Str × V)} {i : Nat}, ns.Nodup → ns[i]? = some f → RepF K R S ι ns ds fs → RepF K R S ι ns (ds.set i d) (putF f v fs)
  | [], ds, fs, i, _, e, _ => by simp at e
  | n :: ns, [], fs, i, _, e, _ => by cases i <;> (unfold RepF; trivial)
  | n :: ns, d' :: ds, fs, 0, nd, e, h => by
    obtain rfl : n = f := by simpa using e
    show RepF K R S ι (n :: ns) (d :: ds) (putF n v fs)
    rw [repF_bot] at h ⊢
    refine ⟨.inr ⟨hd, v, by rw [lookup_putF, if_pos rfl], r⟩, ?_⟩
    have hn : n ∉ ns := (List.nodup_cons.mp nd).1
    have go : ∀ {ns : List Str} {ds : List D}, n ∉ ns → RepF K R S ι ns ds fs → RepF K R S ι ns ds (putF n v fs) := by
      intro ns
      induction ns with
      | nil => intro ds _ _; cases ds <;> (unfold RepF; trivial)
      | cons m ms ih =>
        intro ds hm hr
        cases ds with
        | nil => unfold RepF; trivial
        | cons x xs =>
          rw [repF_bot] at hr ⊢
          have hne : ¬ m = n := fun z => hm (by rw [z]; exact List.mem_cons_self ..)
          rw [lookup_putF, if_neg hne]
          exact ⟨hr.1, ih (fun z => hm (List.mem_cons_of_mem _ z)) hr.2⟩
    exact go hn h.2
  | n :: ns, d' :: ds, fs, i + 1, nd, e, h => by
    have e' : ns[i]? = some f := by simpa using e
    show RepF K R S ι (n :: ns) (d' :: ds.set i d) (putF f v fs)
    rw [repF_bot] at h ⊢
    have hne : ¬ n = f := fun z => (List.nodup_cons.mp nd).1 (by rw [z]; exact List.mem_of_getElem? e')
    rw [lookup_putF, if_neg hne]
    exact ⟨h.1, RepF.put hd r (List.nodup_cons.mp nd).2 e' h.2⟩
theorem RepF.at {K : PySem.W.Frag} {R : Hp} {S : Store} {ι : Nat → Addr} {f : Str} : ∀ {ns : List Str} {ds : List D} {fs : List (Str × V)} {i : Nat} {e : D}, ns[i]? = some f → ds[i]? = some e → RepF K R S ι ns ds fs → (isBot e = true ∧ fs.lookup f = none) ∨ (isBot e = false ∧ ∃ v, fs.lookup f = some v ∧ Rep K R S ι e v)
  | [], ds, fs, i, e, h1, _, _ => by simp at h1
  | n :: ns, [], fs, i, e, _, h2, _ => by simp at h2
  | n :: ns, d :: ds, fs, 0, e, h1, h2, h => by
    obtain rfl : n = f := by simpa using h1
    obtain rfl : d = e := by simpa using h2
    exact (repF_bot.mp h).1
  | n :: ns, d :: ds, fs, i + 1, e, h1, h2, h => RepF.at (i := i) (by simpa using h1) (by simpa using h2) (repF_bot.mp h).2
/-- the cell n is changed -/
theorem Ab.cset {K : PySem.W.Frag} {S : Store} {ι : Nat → Addr} {R H : Hp} {n : Nat} {c c' : Cell} {o : HO} (ab : Ab K Fr S ι R H) (h : S[n]? = some (some c)) (hc : CellOk K R S ι (upd H (ι n) o) (ι n) c') (hz : isF c = false := by rfl) :
    Ab K Fr (S.set n (some c')) ι R (upd H (ι n) o) ∧ Stp S ι R (S.set n (some c')) ι R := by
  have hlt : n < S.length := (List.getElem?_eq_some_iff.mp h).1
  have st : Stp S ι R (S.set n (some c')) ι R := ⟨fun _ _ e => e, fun _ _ => rfl, fun m hm l => by
    obtain ⟨c2, e⟩ := l
    by_cases hn : n = m
    · subst hn; exact ⟨c, h⟩
    · rw [List.getElem?_set_ne hn] at e; exact ⟨c2, e⟩, by simp⟩
  have cas : ∀ m c2, (S.set n (some c'))[m]? = some (some c2) → (m = n ∧ c2 = c') ∨ (m ≠ n ∧ S[m]? = some (some c2)) := fun m c2 e => by
    by_cases hn : n = m
    · subst hn
      rw [List.getElem?_set_self hlt] at e
      exact .inl ⟨rfl, (Option.some.inj (Option.some.inj e)).symm⟩
    · rw [List.getElem?_set_ne hn] at e
      exact .inr ⟨fun z => hn z.symm, e⟩
  have live : ∀ m c2, (S.set n (some c'))[m]? = some (some c2) → ∃ c3, S[m]? = some (some c3) := fun m c2 e => by
    rcases cas m c2 e with ⟨rfl, _⟩ | ⟨_, e⟩
    · exact ⟨c, h⟩
    · exact ⟨c2, e⟩
  have nr := ab.off n c h hz
  refine ⟨⟨fun b u e => ?_, ab.foff, fun b u m c2 e e2 => ?_, fun b u e => ?_, fun m c2 e => ?_, fun m c2 e hz2 => ?_, fun m k c2 c3 e1 e2 e => ?_⟩, st⟩
  · rw [upd_ne (fun z => ab.fcel b u n c e h z.symm)]; exact ab.fsub b u e
  · obtain ⟨c3, e3⟩ := live m c2 e2; exact ab.fcel b u m c3 e e3
  · rw [upd_ne (fun z => by rw [z, nr] at e; cases e)]; exact ab.sub b u e
  · rcases cas m c2 e with ⟨rfl, rfl⟩ | ⟨hn, e⟩
    · exact hc.grow st
    · exact ((ab.cell m c2 e).keep (upd_ne fun z => hn (ab.inj m n c2 c e h z))).grow st
  · rcases cas m c2 e with ⟨rfl, rfl⟩ | ⟨hn, e⟩
    · exact nr
    · exact ab.off m c2 e hz2
  · obtain ⟨c4, e4⟩ := live m c2 e1; obtain ⟨c5, e5⟩ := live k c3 e2; exact ab.inj m k c4 c5 e4 e5 e
/-- self.f = e -/
def stFld (i : Nat) (f : Str) (cs : List Str) (d : D) (y : D) (S : Store) : Oc (Unit × Store) := match d with
  | .ref n => (match S[n]? with
    | some (some (.ins c ns ds)) => (match ds[i]? with
      | some e => if ns[i]? = some f ∧ isBot y = false then .ok ((), S.set n (some (.ins c ns (ds.set i y)))) else .bad
      | none => .bad)
    | _ => .bad)
  | _ => .bad
def sFldD (i : Nat) (f : Str) (go ge : LE) : LS := fun δ S => bindE δ (ge δ S) fun y S1 => bindE δ (go δ S1) fun d S2 => (match stFld i f [] d y S2 with
  | .ok (_, S3) => .ok .nx δ S3
  | _ => .bad)
theorem stFld_ok {K : PySem.W.Frag} {S S3 : Store} {ι : Nat → Addr} {R H : Hp} {i : Nat} {f : Str} {cs : List Str} {d y : D} {v u : V} (ab : Ab K Fr S ι R H) (r : Rep K R S ι d v) (ry : Rep K R S ι y u) (e : stFld i f cs d y S = .ok ((), S3)) :
    ∃ a c dx fs, v = .ref a ∧ H a = some (.ins (He.ga K c) dx fs) ∧ Cls K (He.ga K c) ∧ NoAttr K (He.ga K c) f ∧ fs.length < 1000 ∧ Ab K Fr S3 ι R (upd H a (.ins (He.ga K c) dx (putF f u fs))) ∧ Stp S ι R S3 ι R := by
  cases d with
  | ref n =>
    unfold Rep at r
    obtain ⟨a, e2, l, q⟩ := r
    unfold stFld at e
    cases h : S[n]? with
    | none => simp only [h] at e; cases e
    | some o =>
      cases o with
      | none => simp only [h] at e; cases e
      | some cc =>
        cases cc with
        | ins c ns ds =>
          simp only [h] at e
          cases h2 : ds[i]? with
          | none => rw [h2] at e; cases e
          | some x =>
            rw [h2] at e
            dsimp only at e
            by_cases hc : ns[i]? = some f ∧ isBot y = false
            · rw [if_pos hc] at e
              obtain ⟨hn, hy⟩ := hc
              have e3 : S.set n (some (.ins c ns (ds.set i y))) = S3 := by
                injection e with e
                exact (Prod.mk.inj e).2
              subst e3
              obtain ⟨dx, fs, hH, hR, io, rf⟩ := ab.cell n _ h
              have ea := q ⟨_, h⟩
              subst ea
              have hlen : (putF f u fs).length ≤ nb (ds.set i y) := by
                rw [nb_set hy h2]
                rcases rf.at hn h2 with ⟨hb, hl⟩ | ⟨hb, v', hl, _⟩
                · rw [hb, if_pos rfl]
                  have := length_putF f u fs
                  have := io.fl
                  omega
                · rw [hb, if_neg Bool.false_ne_true, lookup_put_some f u fs (by rw [hl]; rfl)]
                  exact io.fl
              have fin := ab.cset (o := .ins (He.ga K c) dx (putF f u fs)) (c' := .ins c ns (ds.set i y)) h
                ⟨dx, putF f u fs, upd_same, hR, ⟨io.cls, io.isi, io.noat, by simpa using io.len, io.nd, by simpa using io.few, hlen, fun g w hg => by
                  rw [lookup_putF] at hg
                  split at hg
                  · rename_i z; rw [z]; exact List.mem_of_getElem? hn
                  · exact io.only g w hg⟩, RepF.put hy ry io.nd hn rf⟩
              refine ⟨_, c, dx, fs, e2, hH, io.cls, io.noat f (List.mem_of_getElem? hn), ?_, fin.1, fin.2⟩
              have := io.fl
              have := nb_le ds
              have := io.few
              omega
            · rw [if_neg hc] at e; cases e
        | _ => simp only [h] at e; cases e
  | _ => cases e
section
variable {X : Cx} {W : WX} {o e : Expr} {f : Str} {go ge : LE} {pos pos' tpos : Pos}
theorem ds_fld (i : Nat) (ho : DE X W o go) (he : DE X W e ge) (hs : swapsWith e (some (.Attribute o f pos')) pos.line X.env = pure false := by rfl) : DS X W (.Assign [.Attribute o f pos'] e pos) (sFldD i f go ge) :=
  PS.imp (ps_fld ho he hs) fun D σ H w => cS.bindE (rel := Rep X.K) (f := fun δ y S1 => bindE δ (go δ S1) fun d S2 => (match stFld i f [] d y S2 with | .ok (_, S3) => .ok .nx δ S3 | _ => .bad)) w fun y u δ S1 ι1 R1 Fr H1 ab lo ry w1 => by
    refine ⟨δ, S1, ι1, R1, Fr, ab, lo, ?_⟩
    refine wpS.bindE (rel := Rep X.K) w1 lo fun d S2 v ι2 R2 H2 st ab2 r w2 => ?_
    cases e3 : stFld i f [] d y S2 with
    | bad => rw [e3] at w2; exact w2.elim
    | exc c fs S' => rw [e3] at w2; exact w2.elim
    | ok q =>
      rw [e3] at w2
      obtain ⟨⟨⟩, S3⟩ := q
      obtain ⟨a, c, dx, fs, e4, hH, hc, hn, hl, ab3, st3⟩ := stFld_ok ab2 r (ry.step st) e3
      exact ⟨a, _, dx, fs, e4, hH, hc, hn, hl, w2 σ ι2 R2 _ st3 ab3 ((lo.step st).step st3)⟩
end
end DL

set_option Elab.async false
set_option linter.all false
set_option maxRecDepth 100000
set_option maxHeartbeats 4000000
namespace DL
open PySem PySem.Spec L2
variable {Fr : Hp}

mutual
def noRef : D → Bool
  | .ref _ => false
  | .tup ds => noRefL ds
  | .lst ds => noRefL ds
  | .fln ds => noRefL ds
  | .ins _ _ ds => noRefL ds
  | .exn _ _ _ _ _ => false
  | _ => true
def noRefL : List D → Bool
  | [] => true
  | d :: ds => noRef d && noRefL ds
end
section
variable {K : PySem.W.Frag} {S S' : Store} {ι ι' : Nat → Addr} {R R' H : Hp}
mutual
theorem Rep.free : ∀ {d : D} {v : V}, noRef d = true → Rep K R S ι d v → Rep K R S' ι' d v
  | .non, _, _, h => by unfold Rep at h ⊢; exact h
  | .bl _, _, _, h => by unfold Rep at h ⊢; exact h
  | .int _, _, _, h => by unfold Rep at h ⊢; exact h
  | .str _, _, _, h => by unfold Rep at h ⊢; exact h
  | .val _, _, _, h => by unfold Rep at h ⊢; exact h
  | .tup ds, v, n, h => by
    unfold Rep at h ⊢
    obtain ⟨a, xs, e, q, r⟩ := h
    exact ⟨a, xs, e, q, RepL.free n r⟩
  | .lst ds, v, n, h => by
    unfold Rep at h ⊢
    obtain ⟨a, xs, e, q, r⟩ := h
    exact ⟨a, xs, e, q, RepL.free n r⟩
  | .fln ds, v, n, h => by
    unfold Rep at h ⊢
    obtain ⟨a, xs, e, q, r⟩ := h
    exact ⟨a, xs, e, q, RepL.free n r⟩
  | .ins c ns ds, v, n, h => by
    unfold Rep at h ⊢
    obtain ⟨a, dx, xs, e, q, q2, l, r⟩ := h
    exact ⟨a, dx, xs, e, q, q2, l, RepF.free n r⟩
  | .ref _, _, n, _ => by cases n
  | .exn _ _ _ _ _, _, n, _ => by cases n
  | .bot, _, _, h => by unfold Rep at h; exact h.elim
theorem RepL.free : ∀ {ds : List D} {xs : List V}, noRefL ds = true → RepL K R S ι ds xs → RepL K R S' ι' ds xs
  | [], _, _, h => by unfold RepL at h ⊢; exact h
  | d :: ds, xs, n, h => by
    have n2 : noRef d = true ∧ noRefL ds = true := by simpa [noRefL] using n
    unfold RepL at h ⊢
    obtain ⟨v, vs, e, r, q⟩ := h
    exact ⟨v, vs, e, Rep.free n2.1 r, RepL.free n2.2 q⟩
theorem RepF.free : ∀ {ds : List D} {ns : List Str} {fs : List (Str × V)}, noRefL ds = true → RepF K R S ι ns ds fs → RepF K R S' ι' ns ds fs
  | [], [], _, _, h => by unfold RepF; trivial
  | [], _ :: _, _, _, h => by unfold RepF; trivial
  | _ :: _, [], _, _, h => by unfold RepF; trivial
  | d :: ds, n :: ns, fs, nn, h => by
    have n2 : noRef d = true ∧ noRefL ds = true := by simpa [noRefL] using nn
    rw [repF_bot] at h ⊢
    refine ⟨?_, RepF.free n2.2 h.2⟩
    rcases h.1 with h1 | ⟨h1, v, e, r⟩
    · exact .inl h1
    · exact .inr ⟨h1, v, e, Rep.free n2.1 r⟩
end
/-! what a store's beginning tells stays told when the rest goes -/
mutual
theorem Rep.back {ι0 : Nat → Addr} {R0 : Hp} (hlen : S.length ≤ S'.length) (live : ∀ n, n < S.length → Live S n → Live S' n) : ∀ {d : D} {v v0 : V}, Rep K R0 S ι0 d v0 → Rep K R' S' ι' d v → Rep K R' S ι' d v
  | .non, _, _, _, h => by unfold Rep at h ⊢; exact h
  | .bl _, _, _, _, h => by unfold Rep at h ⊢; exact h
  | .int _, _, _, _, h => by unfold Rep at h ⊢; exact h
  | .str _, _, _, _, h => by unfold Rep at h ⊢; exact h
  | .val _, _, _, _, h => by unfold Rep at h ⊢; exact h
  | .tup ds, v, _, h0, h => by
    unfold Rep at h h0 ⊢
    obtain ⟨a, xs, e, q, r⟩ := h
    obtain ⟨a0, xs0, e0, q0, r0⟩ := h0
    exact ⟨a, xs, e, q, RepL.back hlen live r0 r⟩
  | .lst ds, v, _, h0, h => by
    unfold Rep at h h0 ⊢
    obtain ⟨a, xs, e, q, r⟩ := h
    obtain ⟨a0, xs0, e0, q0, r0⟩ := h0
    exact ⟨a, xs, e, q, RepL.back hlen live r0 r⟩
  | .fln ds, v, _, h0, h => by
    unfold Rep at h h0 ⊢
    obtain ⟨a, xs, e, q, r⟩ := h
    obtain ⟨a0, xs0, e0, q0, r0⟩ := h0
    exact ⟨a, xs, e, q, RepL.back hlen live r0 r⟩
  | .ins c ns ds, v, _, h0, h => by
    unfold Rep at h h0 ⊢
    obtain ⟨a, dx, xs, e, q, q2, l, r⟩ := h
    obtain ⟨a0, dx0, xs0, e0, q0, q20, l0, r0⟩ := h0
    exact ⟨a, dx, xs, e, q, q2, l, RepF.back hlen live r0 r⟩
  | .ref n, v, _, h0, h => by
    unfold Rep at h h0 ⊢
    obtain ⟨a, e, l, q⟩ := h
    obtain ⟨a0, e0, l0, q0⟩ := h0
    exact ⟨a, e, l0, fun z => q (live n l0 z)⟩
  | .exn a d c ns ds, v, _, h0, h => by
    unfold Rep at h h0 ⊢
    obtain ⟨e, q⟩ := h
    refine ⟨e, ?_⟩
    rcases q with q | ⟨dd, xs, q1, q2, q3, q4⟩
    · exact .inl q
    · rcases h0.2 with q0 | ⟨dd0, xs0, p1, p2, p3, p4⟩
      · exact .inl q0
      · exact .inr ⟨dd, xs, q1, q2, q3, RepL.back hlen live p4 q4⟩
  | .bot, _, _, _, h => by unfold Rep at h; exact h.elim
theorem RepL.back {ι0 : Nat → Addr} {R0 : Hp} (hlen : S.length ≤ S'.length) (live : ∀ n, n < S.length → Live S n → Live S' n) : ∀ {ds : List D} {xs xs0 : List V}, RepL K R0 S ι0 ds xs0 → RepL K R' S' ι' ds xs → RepL K R' S ι' ds xs
  | [], _, _, _, h => by unfold RepL at h ⊢; exact h
  | d :: ds, xs, _, h0, h => by
    unfold RepL at h h0 ⊢
    obtain ⟨v, vs, e, r, q⟩ := h
    obtain ⟨v0, vs0, e0, r0, q0⟩ := h0
    exact ⟨v, vs, e, Rep.back hlen live r0 r, RepL.back hlen live q0 q⟩
theorem RepF.back {ι0 : Nat → Addr} {R0 : Hp} (hlen : S.length ≤ S'.length) (live : ∀ n, n < S.length → Live S n → Live S' n) : ∀ {ds : List D} {ns : List Str} {fs fs0 : List (Str × V)}, RepF K R0 S ι0 ns ds fs0 → RepF K R' S' ι' ns ds fs → RepF K R' S ι' ns ds fs
  | [], [], _, _, _, h => by unfold RepF; trivial
  | [], _ :: _, _, _, _, h => by unfold RepF; trivial
  | _ :: _, [], _, _, _, h => by unfold RepF; trivial
  | d :: ds, n :: ns, fs, fs0, h0, h => by
    rw [repF_bot] at h h0 ⊢
    refine ⟨?_, RepF.back hlen live h0.2 h.2⟩
    rcases h.1 with h1 | ⟨h1, v, e, r⟩
    · exact .inl h1
    · rcases h0.1 with ⟨z, _⟩ | ⟨_, v0, e0, r0⟩
      · rw [h1] at z; cases z
      · exact .inr ⟨h1, v, e, Rep.back hlen live r0 r⟩
end
theorem Ab.back {H0 : Hp} (ab0 : Ab K Fr S ι R H0) (st : Stp S ι R S' ι' R') (ab : Ab K Fr S' ι' R' H) (e : S'.take S.length = S) : Ab K Fr S ι' R' H ∧ Stp S ι R S ι' R' := by
  have up : ∀ (n : Nat) (o : Option Cell), S[n]? = some o → S'[n]? = some o := fun n o h => by
    have hlt : n < S.length := (List.getElem?_eq_some_iff.mp h).1
    rw [← e] at h
    rw [List.getElem?_take_of_lt hlt] at h
    exact h
  have live : ∀ n, n < S.length → Live S n → Live S' n := fun n _ ⟨c, h⟩ => ⟨c, up n _ h⟩
  refine ⟨⟨ab.fsub, ab.foff, fun b u n c h h2 => ab.fcel b u n c h (up n _ h2), ab.sub, fun n c h => ?_, fun n c h hz => ab.off n c (up n _ h) hz, fun n m c c' h1 h2 => ab.inj n m c c' (up n _ h1) (up m _ h2)⟩, st.sub, st.io, fun _ _ l => l, Nat.le_refl _⟩
  have h0 := ab0.cell n c h
  have h1 := ab.cell n c (up n _ h)
  cases c with
  | lst ds =>
    obtain ⟨xs, q, r⟩ := h1
    obtain ⟨xs0, q0, r0⟩ := h0
    exact ⟨xs, q, RepL.back (ι0 := ι) (R0 := R) st.len live r0 r⟩
  | dct ks ds =>
    obtain ⟨xs, q, l, r⟩ := h1
    obtain ⟨xs0, q0, l0, r0⟩ := h0
    exact ⟨xs, q, l, RepL.back (ι0 := ι) (R0 := R) st.len live r0 r⟩
  | ins c ns ds =>
    obtain ⟨dx, xs, q, q2, l, r⟩ := h1
    obtain ⟨dx0, xs0, q0, q20, l0, r0⟩ := h0
    exact ⟨dx, xs, q, q2, l, RepF.back (ι0 := ι) (R0 := R) st.len live r0 r⟩
  | fct ks ds =>
    obtain ⟨dx, xs, q, q2, l, r⟩ := h1
    obtain ⟨dx0, xs0, q0, q20, l0, r0⟩ := h0
    exact ⟨dx, xs, q, q2, l, RepL.back (ι0 := ι) (R0 := R) st.len live r0 r⟩
  | dtt ks ds =>
    obtain ⟨xs, q, l, r⟩ := h1
    obtain ⟨xs0, q0, l0, r0⟩ := h0
    exact ⟨xs, q, l, RepL.back (ι0 := ι) (R0 := R) st.len live r0 r⟩
  | exo c => exact h1
end
def noRefX : XF → Bool
  | none => true
  | some (_, ds) => noRefL ds
theorem XRep.free {K : PySem.W.Frag} {S S' : Store} {ι ι' : Nat → Addr} {R : Hp} {fs : XF} {d : Option Addr} (n : noRefX fs = true) (h : XRep K R S ι fs d) : XRep K R S' ι' fs d := by
  cases fs with
  | none => exact h
  | some q =>
    obtain ⟨ns, ds⟩ := q
    obtain ⟨a, xs, e, q, l, r⟩ := h
    exact ⟨a, xs, e, q, l, RepL.free n r⟩
open Classical in
/-- a def that leaves nothing behind: what it made for itself goes -/
noncomputable def pureD (F : Fn) : Fn := fun ds S => match F ds S with
  | .ok (d, S') => if S'.take S.length = S ∧ noRef d = true then .ok (d, S) else .bad
  | .exc c fs S' => if S'.take S.length = S ∧ noRefX fs = true then .exc c fs S else .bad
  | .bad => .bad
theorem pure_wp {K : PySem.W.Frag} {S : Store} {ι : Nat → Addr} {R H : Hp} {F : Fn} {ds : List D} {Q : VK} {E : XK} (ab0 : Ab K Fr S ι R H) (h : wpO (Rep K) K Fr S ι R (pureD F ds S) Q E) : wpO (Rep K) K Fr S ι R (F ds S) Q E := by
  unfold pureD at h
  cases e : F ds S with
  | bad => rw [e] at h; exact h
  | ok q =>
    obtain ⟨d, S'⟩ := q
    rw [e] at h
    dsimp only at h
    split at h
    · rename_i hc
      intro v ι' R' H' st ab r
      obtain ⟨ab2, st2⟩ := ab0.back st ab hc.1
      exact h v ι' R' H' st2 ab2 (Rep.free hc.2 r)
    · exact h.elim
  | exc c fs S' =>
    rw [e] at h
    dsimp only at h
    split at h
    · rename_i hc
      intro v ι' R' H' st ab r
      obtain ⟨ab2, st2⟩ := ab0.back st ab hc.1
      exact h v ι' R' H' st2 ab2 (XRep.free hc.2 r)
    · exact h.elim
theorem FnD.pure {P : Program} {w : World} {K : PySem.W.Frag} {mg : Str → Option Value} {base : Heap} {k : Nat} {f : Addr} {fd : FuncData} {ps : List Str} {F : Fn} (h : FnD P w K mg base k f fd ps F) : FnD P w K mg base k f fd ps (pureD F) :=
  FnOk.imp h fun vs H Q E ⟨l, ds, S, ι, R, Fr, ab, rs, q⟩ => ⟨l, ds, S, ι, R, Fr, ab, rs, pure_wp ab q⟩

/-! ### cells that stand from now on -/
theorem Ab.kill {K : PySem.W.Frag} {S : Store} {ι : Nat → Addr} {R H : Hp} {n : Nat} {c : Cell} {o : HO} (ab : Ab K Fr S ι R H) (h : S[n]? = some (some c)) (ho : H (ι n) = some o) (hz : isF c = false := by rfl) :
    Ab K Fr (S.set n none) ι (upd R (ι n) o) H ∧ Stp S ι R (S.set n none) ι (upd R (ι n) o) := by
  have hlt : n < S.length := (List.getElem?_eq_some_iff.mp h).1
  have nr := ab.off n c h hz
  have cas : ∀ m c2, (S.set n none)[m]? = some (some c2) → m ≠ n ∧ S[m]? = some (some c2) := fun m c2 e => by
    by_cases hn : n = m
    · subst hn
      rw [List.getElem?_set_self hlt] at e
      cases e
    · rw [List.getElem?_set_ne hn] at e
      exact ⟨fun z => hn z.symm, e⟩
  have st : Stp S ι R (S.set n none) ι (upd R (ι n) o) := ⟨upd_sub nr, fun _ _ => rfl, fun m _ ⟨c2, e⟩ => ⟨c2, (cas m c2 e).2⟩, by simp⟩
  refine ⟨⟨ab.fsub, fun b u e => ?_, fun b u m c2 e e2 => ab.fcel b u m c2 e (cas m c2 e2).2, fun b u e => ?_, fun m c2 e => (ab.cell m c2 (cas m c2 e).2).grow st, fun m c2 e hz2 => ?_, fun m k c2 c3 e1 e2 e => ab.inj m k c2 c3 (cas m c2 e1).2 (cas k c3 e2).2 e⟩, st⟩
  · rw [upd_ne (fun z => ab.fcel b u n c e h z.symm)]; exact ab.foff b u e
  · by_cases hb : b = ι n
    · subst hb; rw [upd_same] at e; rw [← e]; exact ho
    · rw [upd_ne hb] at e; exact ab.sub b u e
  · obtain ⟨hm, e⟩ := cas m c2 e
    rw [upd_ne (fun z => hm (ab.inj m n c2 c e h z))]; exact ab.off m c2 e hz2
/-- a cell's list, a cell's instance stand, a tree -/
def frz : F1 := fun d S => match d with
  | .ref n => (match S[n]? with
    | some (some (.lst ds)) => .ok (.lst ds, S.set n none)
    | some (some (.ins c ns ds)) => .ok (.ins c ns ds, S.set n none)
    | _ => .bad)
  | d => .ok (d, S)
def xFrz (g : LE) : LE := fun δ S => (g δ S).bind frz
theorem frz_wp {K : PySem.W.Frag} {S : Store} {ι : Nat → Addr} {R H : Hp} {d : D} {v : V} {Q : VK} {E : XK} (ab : Ab K Fr S ι R H) (r : Rep K R S ι d v) (w : wpO (Rep K) K Fr S ι R (frz d S) Q E) : Q v H := by
  unfold frz at w
  cases d with
  | ref n =>
    have r0 := r
    unfold Rep at r0
    obtain ⟨a, e, l, q⟩ := r0
    dsimp only at w
    cases h : S[n]? with
    | none => rw [h] at w; exact w.elim
    | some o =>
      cases o with
      | none => rw [h] at w; exact w.elim
      | some c =>
        have ea := q ⟨_, h⟩
        subst ea
        have hc := ab.cell n c h
        cases c with
        | lst ds =>
          rw [h] at w
          obtain ⟨xs, hH, rs⟩ := hc
          obtain ⟨ab2, st2⟩ := ab.kill h hH
          refine w v ι _ H st2 ab2 ?_
          unfold Rep
          exact ⟨_, xs, e, upd_same, RepL.step st2 rs⟩
        | ins c ns ds =>
          rw [h] at w
          obtain ⟨dx, fs, hH, hR, io, rs⟩ := hc
          obtain ⟨ab2, st2⟩ := ab.kill h hH
          refine w v ι _ H st2 ab2 ?_
          unfold Rep
          exact ⟨_, dx, fs, e, upd_same, st2.sub _ _ hR, io, RepF.step st2 rs⟩
        | dct ks ds => rw [h] at w; exact w.elim
        | fct ks ds => rw [h] at w; exact w.elim
        | dtt ks ds => rw [h] at w; exact w.elim
        | exo c => rw [h] at w; exact w.elim
  | _ => exact w.ok ab r
theorem frz_read {K : PySem.W.Frag} {W : WX} {g : LE} : ∀ σ H Q, cO (Rep K) K W (xFrz g) σ H Q → cO (Rep K) K W g σ H Q := fun σ H Q w =>
  cO.bind (rel := Rep K) (rel2 := Rep K) (f := fun d (_ : Lc) S1 => frz d S1) w fun d v δ S1 ι1 R1 Fr H1 ab lo r w1 => frz_wp ab r w1
theorem de_frz {X : Cx} {W : WX} {e : Expr} {g : LE} (h : DE X W e g) : DE X W e (xFrz g) := PE.imp h frz_read

/-! ### C(..) -/
def bots (ns : List Str) : List D := ns.map fun _ => .bot
theorem nb_bots : ∀ ns : List Str, nb (bots ns) = 0
  | [] => rfl
  | n :: ns => by
    show (if isBot .bot then 0 else 1) + nb (bots ns) = 0
    rw [nb_bots ns]; rfl
theorem repF_bots {K : PySem.W.Frag} {R : Hp} {S : Store} {ι : Nat → Addr} : ∀ ns : List Str, RepF K R S ι ns (bots ns) []
  | [] => by unfold RepF; trivial
  | n :: ns => by
    show RepF K R S ι (n :: ns) (.bot :: bots ns) []
    rw [repF_bot]
    exact ⟨.inl ⟨rfl, rfl⟩, repF_bots ns⟩
/-- what the class named c, of these fields, must have -/
structure MkC (K : PySem.W.Frag) (c : Str) (ns : List Str) : Prop where
  cls : Cls K (He.ga K c)
  isi : IsiC K (He.ga K c)
  noat : ∀ f ∈ ns, NoAttr K (He.ga K c) f
  nd : ns.Nodup
  few : ns.length ≤ 900
def xMake (c : Str) (ns : List Str) (n : Nat) (F : Fn) (dd : List D) (args : LA) : LE := fun δ S => (args δ S).bind fun ds S1 => if (D.ref S1.length :: (ds ++ dd)).length = n then (F (.ref S1.length :: (ds ++ dd)) (S1 ++ [some (.ins c ns (bots ns))])).bind fun d S2 => match d with
  | .non => .ok (.ref S1.length, S2)
  | _ => .bad else .bad
section
variable {X : Cx} {W : WX} {k n : Nat} {a C : Addr} {fd : FuncData} {ps : List Str} {F : Fn} {dvs : List V} {ds : List Value} {dd : List D} {x m : Str} {p pos apos : Pos} {e o : Expr} {es : List Expr} {g : LA} {go : LE} {ns : List Str}
theorem make_read {K : PySem.W.Frag} {c : Str} (M : MkC K c ns) (hD : KonstL K dd dvs) : ∀ σ H Q, cO (Rep K) K W (xMake c ns n F dd g) σ H Q → tMakeD (He.ga K c) (SpD K n F) dvs (WE W) (cO (RepL K) K W g) σ H Q := fun σ H Q w =>
  cO.bind (rel := RepL K) (rel2 := Rep K) (f := fun ds (_ : Lc) S1 => if (D.ref S1.length :: (ds ++ dd)).length = n then (F (.ref S1.length :: (ds ++ dd)) (S1 ++ [some (.ins c ns (bots ns))])).bind fun d S2 => match d with | .non => .ok (.ref S1.length, S2) | _ => .bad else .bad) w fun ds vs δ S1 ι1 R1 Fr H1 ab lo rs w1 => by
    by_cases hl : (D.ref S1.length :: (ds ++ dd)).length = n
    · rw [if_pos hl] at w1
      intro y dx hy hdx hne
      obtain ⟨ab2, st2⟩ := ab.rnew (o := .own y) hdx
      have hy2 : upd H1 dx (.own y) y = none := by rw [upd_ne (Ne.symm hne)]; exact hy
      have ab3 := ab2.frame_new (o := .ins (He.ga K c) dx []) hy2
      obtain ⟨ab4, st4⟩ := Ab.push (c := .ins c ns (bots ns)) ab3 (Same.free ab.fsub hy) ⟨dx, [], upd_same, upd_same, ⟨M.cls, M.isi, M.noat, by simp [bots], M.nd, by simpa [bots] using M.few, by rw [nb_bots]; exact Nat.le_refl 0, fun f v h => by simp at h⟩, repF_bots ns⟩
      have st := st2.trans st4
      have rr : Rep K (upd R1 dx (.own y)) (S1 ++ [some (.ins c ns (bots ns))]) (fun n => if n = S1.length then y else ι1 n) (.ref S1.length) (.ref y) := by
        unfold Rep
        exact ⟨y, rfl, by simp, fun _ => (if_pos rfl).symm⟩
      have r2 := repL_cons rr ((RepL.step st rs).append (hD _ _ _))
      refine ⟨by rw [r2.length]; exact hl, _, _, _, _, Fr, ab4, r2, ?_⟩
      refine wpO.bind (rel2 := Rep K) (w1.step st) fun d S2 v ι3 R3 H3 st5 ab5 rv w5 => ?_
      cases d with
      | non =>
        unfold Rep at rv
        exact ⟨rv, w5.ok ab5 (rr.step st5)⟩
      | _ => exact w5.elim
    · rw [if_neg hl] at w1
      exact w1.elim
theorem de_make (cn : Str) (c : Ctc X W (k + 1)) (M : Mk X.K (He.ga X.K cn) a) (mk : MkC X.K cn ns) (hF : FnD X.prog X.w X.K X.mg X.base k a fd ps F) (hm : X.mg x = some (.ref (He.ga X.K cn))) (hb : Binds X.K fd ps ds) (hd : Vals dvs ds) (hD : KonstL X.K dd dvs)
    (ha : DA X W (e :: es) g) (hg : Gl X x := by rfl) (hdb : (x == ("__debug__" : Str)) = false := by decide) (he : starEach (e :: es) X.env = (false, eval e X.env) :: starEach es X.env := by rfl) (hpl : (backTo pos (starEach es X.env)).any (·.1) = false := by rfl) :
    DE X W (.Call (.Name x p) (e :: es) [] pos) (xMake cn ns ps.length F dd g) := PE.imp (pe_makeD M hF c.hr hg hm hb hd (fun σ => passAt c.tk σ) ha hdb he hpl) (make_read mk hD)
theorem de_make0 (cn : Str) (c : Ctc X W (k + 1)) (M : Mk X.K (He.ga X.K cn) a) (mk : MkC X.K cn ns) (hF : FnD X.prog X.w X.K X.mg X.base k a fd ps F) (hm : X.mg x = some (.ref (He.ga X.K cn))) (hb : Binds X.K fd ps ds) (hd : Vals dvs ds) (hD : KonstL X.K dd dvs)
    (hg : Gl X x := by rfl) (hdb : (x == ("__debug__" : Str)) = false := by decide) :
    DE X W (.Call (.Name x p) [] [] pos) (xMake cn ns ps.length F dd xNil) := PE.imp (pe_makeD0 M hF c.hr hg hm hb hd (fun σ => passAt c.tk σ) hdb) fun σ H Q w => nil_read (make_read (g := xNil) mk hD σ H Q w)
/-- a made thing stands at once (its class never changes it) -/
noncomputable def xMakeF (g : LE) : LE := fun δ => pureD (fun _ => xFrz g δ) []
theorem makeF_read {K : PySem.W.Frag} {g : LE} : ∀ σ H Q, cO (Rep K) K W (xMakeF g) σ H Q → cO (Rep K) K W g σ H Q := fun σ H Q ⟨δ, S, ι, R, Fr, ab, lo, w⟩ => frz_read σ H Q ⟨δ, S, ι, R, Fr, ab, lo, pure_wp ab w⟩
theorem de_makeF {g : LE} (h : DE X W e g) : DE X W e (xMakeF g) := PE.imp h makeF_read
end

/-! ### raise -/
/-- raise C('..') -/
def sRaise0 (c : Str) : LS := fun δ S => .exc c none δ S
/-- raise C(e), C's own __init__ keeping e as its field f -/
def sRaise1 (c f : Str) (g : LE) : LS := fun δ S => bindE δ (g δ S) fun d S1 => .exc c (some ([f], [d])) δ S1
/-- what __init__ of such a class promises -/
def SpX (K : PySem.W.Frag) (f : Str) : Sp := fun vs H Q _ => ∃ (a C : Addr) (y : V), vs = [.ref a, y] ∧ OexC K C ∧ PySem.W.findIn K (.ref C) f = some none ∧ H a = some (exo a C none) ∧ ∀ dx, H dx = none → dx ≠ a → Q .non (upd (upd H dx (exd dx [(f, y)])) a (exo a C (some dx)))
section
variable {X : Cx} {W : WX} {k n : Nat} {fI : Addr} {fd : FuncData} {ps : List Str} {x m f : Str} {p p2 pos apos : Pos} {e o : Expr} {j : Nat} {g : LE}
theorem ds_raise0 (cn : Str) (c : Ctc X W k) (q : PySem.W.excIn X.K (He.ga X.K cn) He.veBase "ValueError.__new__" = true) (hm : X.mg x = some (.ref (He.ga X.K cn))) (hk : PySem.W.keepIn X.K (.ref (He.ga X.K cn)) = true) (r : Raises X (.ref (He.ga X.K cn)))
    (hg : Gl X x := by rfl) (hdb : (x == ("__debug__" : Str)) = false := by decide) : DS X W (.Raise (some (.Call (.Name x p) [.Constant (.str m) j p2] [] pos)) none apos) (sRaise0 cn) :=
  PS.imp (ps_raise c.calm c.tk (pmk_own PySem.F.excBase_ValueError q hm hk r hg hdb)) fun D σ H ⟨δ, S, ι, R, Fr, ab, lo, w⟩ => w σ none ι R H .refl ab lo rfl
theorem ds_raise1 (cn : Str) (c : Ctc X W (k + 1)) (T : OexC X.K (He.ga X.K cn)) (iC : PySem.W.findIn X.K (.ref (He.ga X.K cn)) "__init__" = some (some (.ref fI))) (tI : PySem.W.typeIn X.K (.ref fI) = some (.type "function")) (nf : PySem.W.findIn X.K (.ref (He.ga X.K cn)) f = some none)
    (hF : FnOk X.prog X.w X.K X.mg X.base (L2.CX X.prog X.w) k fI fd ps (SpX X.K f)) (hb : Binds X.K fd ps []) (hm : X.mg x = some (.ref (He.ga X.K cn))) (he : DE X W e g) (hg : Gl X x := by rfl) (hdb : (x == ("__debug__" : Str)) = false := by decide)
    (hs : starEach [e] X.env = (false, eval e X.env) :: starEach [] X.env := by rfl) (hpl : (backTo pos (starEach [] X.env)).any (·.1) = false := by rfl) :
    DS X W (.Raise (some (.Call (.Name x p) [e] [] pos)) none apos) (sRaise1 cn f g) :=
  PS.imp (ps_raise c.calm c.tk (pmk_oex T iC tI hF c.hr hb .nil passL hg hm (pa_cons he pa_nil hs) hdb hs hpl)) fun D σ H w => cS.bindE (rel := Rep X.K) (f := fun δ d S1 => .exc cn (some ([f], [d])) δ S1) w fun d y δ S1 ι1 R1 Fr H1 ab lo r w1 => by
    refine ⟨by show 1 ≤ 1000; decide, fun a ha => ?_⟩
    refine ⟨a, _, y, rfl, T, nf, upd_same, fun dx hdx hne => ⟨rfl, dx, [(f, y)], upd_same, ?_, ?_, ?_⟩⟩
    · rw [upd_ne hne, upd_same]
    · rw [upd_ne hne] at hdx; exact hdx
    · have hdx1 : H1 dx = none := by rw [upd_ne hne] at hdx; exact hdx
      have eH : upd (del (upd (upd (upd H1 a (exo a (He.ga X.K cn) none)) dx (exd dx [(f, y)])) a (exo a (He.ga X.K cn) (some dx))) a) dx (.xd [(f, y)]) = upd H1 dx (.xd [(f, y)]) := by
        funext b
        by_cases h1 : b = dx
        · rw [h1, upd_same, upd_same]
        · rw [upd_ne h1, upd_ne h1]
          by_cases h2 : b = a
          · rw [h2, del_same, ha]
          · rw [del_ne h2, upd_ne h2, upd_ne h1, upd_ne h2]
      rw [eH]
      obtain ⟨ab2, st2⟩ := ab.rnew (o := .xd [(f, y)]) hdx1
      exact w1 σ (some dx) ι1 _ _ st2 ab2 (lo.step st2) ⟨dx, [y], rfl, upd_same, rfl, repL_cons (r.step st2) repL_nil⟩
end
/-- __init__ of such a class -/
theorem exc_init {P : Program} {w : World} {K : PySem.W.Frag} {mg : Str → Option Value} {base : Heap} {x qual self pn f : Str} {params : Arguments} {scope : Scope} {fI : Addr} {fd : FuncData} {q1 q2 q3 q4 : Pos}
    (F : FunD K x qual params [.Assign [.Attribute (.Name self q1) f q2] (.Name pn q3) q4] scope [] [] fI fd) (S : FnScope [self, pn] [self, pn] scope)
    (v1 : Vis scope self) (v2 : Vis scope pn) (d1 : (self == ("__debug__" : Str)) = false) (d2 : (self == ("__classdict__" : Str)) = false) (d3 : (pn == ("__debug__" : Str)) = false) (d4 : (pn == ("__classdict__" : Str)) = false) : FnOk P w K mg base (L2.CX P w) 1 fI fd [self, pn] (SpX K f) := by
  refine F.ok S (fun vs H Q E h => ?_) fun cdv A outer s H vs Q E hr h => ⟨_, pss_one (ps_ost (to := tVar 0) (te := tVar 1) (pe_var (i := 0) rfl v1 d1 d2) (pe_var (i := 1) rfl v2 d3 d4)), ?_⟩
  · obtain ⟨a, C, y, rfl, _⟩ := h
    rfl
  · obtain ⟨a, C, y, rfl, T, nf, ha, q⟩ := h
    exact ⟨y, rfl, .ref a, rfl, a, C, rfl, T, nf, .inl ⟨ha, fun dx hd hne => q dx hd hne⟩⟩
def oexB (K : PySem.W.Frag) (C : Addr) : Bool := (match K.lookup C with
  | some ⟨.type "type", _, .cls cd, sl⟩ => (match cd.mro, sl.toList with
    | .ref C' :: bm, [_, _, _, _, some (.builtin n), _] => C' == C && n == "ValueError.__new__" && !cd.hasDel && cd.hasDict && PySem.HandSPX.refsVE bm
    | _, _ => false)
  | _ => false) && (He.eqO (PySem.W.findIn K (.ref C) "__setattr__") (some (some (.builtin "object.__setattr__"))) && (decide (PySem.W.subIn K (.ref C) (.type "BaseException") = some true) && (decide (PySem.W.typeIn K (.ref C) = some (.type "type")) && PySem.W.keepIn K (.ref C))))
theorem oexB_ok {K : PySem.W.Frag} {C : Addr} (h : oexB K C = true) : OexC K C := by
  obtain ⟨h1, h2⟩ := He.ba h
  obtain ⟨h2, h3⟩ := He.ba h2
  obtain ⟨h3, h4⟩ := He.ba h3
  obtain ⟨h4, h5⟩ := He.ba h4
  refine ⟨?_, He.eqO_ok h2, of_decide_eq_true h3, of_decide_eq_true h4, h5⟩
  split at h1
  · rename_i dd cd sl ho
    split at h1
    · rename_i C' bm k0 k1 k2 k3 n k5 hm hs
      simp only [Bool.and_eq_true, beq_iff_eq, Bool.not_eq_true'] at h1
      obtain ⟨⟨⟨⟨rfl, rfl⟩, hdel⟩, hdict⟩, hve⟩ := h1
      obtain ⟨nm, bs, mro, ns, qn, hd, sn, sub, ab, col, del⟩ := cd
      dsimp only at hm hdel hdict
      subst hm hdel hdict
      have hsl : sl = #[k0, k1, k2, k3, some (.builtin "ValueError.__new__"), k5] := by
        obtain ⟨l⟩ := sl
        simp only at hs
        rw [hs]
      subst hsl
      exact ⟨nm, qn, ns, bs, bm, sn, sub, ab, col, dd, k0, k1, k2, k3, k5, ho, hve⟩
    · cases h1
  · cases h1
end DL

set_option Elab.async false
set_option linter.all false
set_option maxRecDepth 100000
set_option maxHeartbeats 4000000
namespace DL
open PySem PySem.Spec L2
variable {Fr : Hp}

/-! ### values read off trees -/
section
variable {K : PySem.W.Frag} {R H : Hp} {S : Store} {ι : Nat → Addr} {v : V}
theorem rep_int {i : Int} (h : Rep K R S ι (.int i) v) : v = .int i := by unfold Rep at h; exact h
theorem rep_str {x : Str} (h : Rep K R S ι (.str x) v) : v = .str x := by unfold Rep at h; exact h
theorem rep_non' (h : Rep K R S ι .non v) : v = .non := by unfold Rep at h; exact h
theorem int_rep {i : Int} : Rep K R S ι (.int i) (.int i) := by unfold Rep; rfl
theorem str_rep {i : Str} : Rep K R S ι (.str i) (.str i) := by unfold Rep; rfl
/-- a list that is tracked -/
def asM (d : D) (S : Store) : Option (List D) := match d with
  | .lst ds => some ds
  | .ref n => match S[n]? with
    | some (some (.lst ds)) => some ds
    | _ => none
  | _ => none
theorem asM_ok {d : D} {ds : List D} (ab : Ab K Fr S ι R H) (r : Rep K R S ι d v) (e : asM d S = some ds) : ∃ a xs, v = .ref a ∧ H a = some (.lst xs) ∧ RepL K R S ι ds xs := by
  cases d with
  | lst es =>
    have e1 : es = ds := Option.some.inj e
    subst e1
    unfold Rep at r
    obtain ⟨a, xs, e2, q, rs⟩ := r
    exact ⟨a, xs, e2, ab.sub _ _ q, rs⟩
  | ref n =>
    unfold Rep at r
    obtain ⟨a, e2, l, q⟩ := r
    unfold asM at e
    cases h : S[n]? with
    | none => simp only [h] at e; cases e
    | some o =>
      cases o with
      | none => simp only [h] at e; cases e
      | some c =>
        cases c with
        | lst es =>
          simp only [h] at e
          have e1 : es = ds := Option.some.inj e
          subst e1
          obtain ⟨xs, hH, rs⟩ := ab.cell n _ h
          have ea := q ⟨_, h⟩
          subst ea
          exact ⟨_, xs, e2, hH, rs⟩
        | _ => simp only [h] at e; cases e
  | _ => cases e
/-- a list or a tuple, to be read -/
def asS (d : D) (S : Store) : Option (List D) := match d with
  | .tup ds => some ds
  | d => asL d S
theorem asS_ok {d : D} {ds : List D} (ab : Ab K Fr S ι R H) (r : Rep K R S ι d v) (e : asS d S = some ds) : ∃ a xs, v = .ref a ∧ (SqL K H a xs ∨ SqT K H a xs) ∧ RepL K R S ι ds xs := by
  have go : asL d S = some ds → ∃ a xs, v = .ref a ∧ (SqL K H a xs ∨ SqT K H a xs) ∧ RepL K R S ι ds xs := fun e => by
    obtain ⟨a, xs, h1, h2, h3⟩ := asL_ok ab r e
    exact ⟨a, xs, h1, .inl h2, h3⟩
  cases d with
  | tup es =>
    have e1 : es = ds := Option.some.inj e
    subst e1
    unfold Rep at r
    obtain ⟨a, xs, e2, q, rs⟩ := r
    exact ⟨a, xs, e2, .inr (seqT_sub ab.sub q), rs⟩
  | _ => exact go e
theorem rep_tup {ds : List D} (ab : Ab K Fr S ι R H) (r : Rep K R S ι (.tup ds) v) : ∃ a xs, v = .ref a ∧ SqT K H a xs ∧ RepL K R S ι ds xs := by
  unfold Rep at r
  obtain ⟨a, xs, e2, q, rs⟩ := r
  exact ⟨a, xs, e2, seqT_sub ab.sub q, rs⟩
/-- a new tuple, a new list that stands -/
theorem new_tup {ds : List D} {xs : List V} {Q : VK} {E : XK} {p : Addr} (ab : Ab K Fr S ι R H) (rs : RepL K R S ι ds xs) (hp : H p = none) (w : wpO (Rep K) K Fr S ι R (.ok (.tup ds, S)) Q E) : Q (.ref p) (upd H p (.tup xs)) := by
  obtain ⟨ab2, st2⟩ := ab.rnew (o := .tup xs) hp
  refine w (.ref p) ι _ _ st2 ab2 ?_
  unfold Rep
  exact ⟨p, xs, rfl, .inl (.inl upd_same), RepL.step st2 rs⟩
theorem new_lst {ds : List D} {xs : List V} {Q : VK} {E : XK} {p : Addr} (ab : Ab K Fr S ι R H) (rs : RepL K R S ι ds xs) (hp : H p = none) (w : wpO (Rep K) K Fr S ι R (.ok (.lst ds, S)) Q E) : Q (.ref p) (upd H p (.lst xs)) := by
  obtain ⟨ab2, st2⟩ := ab.rnew (o := .lst xs) hp
  refine w (.ref p) ι _ _ st2 ab2 ?_
  unfold Rep
  exact ⟨p, xs, rfl, upd_same, RepL.step st2 rs⟩
end
def xTup (g : LA) : LE := fun δ S => (g δ S).bind fun ds S1 => if ds.length ≤ sizeLine then .ok (.tup ds, S1) else .bad
theorem de_tup {X : Cx} {W : WX} {es : List Expr} {g : LA} {j : Nat} {pos : Pos} (h : DA X W es g) : DE X W (.Tuple es j pos) (xTup g) := PE.imp (pe_tup h) fun σ H Q w =>
  cO.bind (rel := RepL X.K) (rel2 := Rep X.K) (f := fun ds (_ : Lc) S1 => if ds.length ≤ sizeLine then .ok (.tup ds, S1) else .bad) w fun ds xs δ S1 ι1 R1 Fr H1 ab lo rs w1 => by
    by_cases hl : ds.length ≤ sizeLine
    · rw [if_pos hl] at w1
      exact ⟨by rw [rs.length]; exact hl, fun p hp => new_tup ab rs hp w1⟩
    · rw [if_neg hl] at w1
      exact w1.elim

/-! ### + -/
def rAddD (K : PySem.W.Frag) : R2 := fun x y H Q => (rI0 (fun i j => .int (i + j)) x y H Q ∨ (∃ i j, x = .str i ∧ y = .str j ∧ i.length + j.length ≤ sizeLine ∧ Q (.str (i ++ j)) H)) ∨ (rCat x y H Q ∨ rCatT K x y H Q)
theorem or_addD {X : Cx} : OpR X (binaryOp .Add) (rAddD X.K) := OpR.or (OpR.or op_add op_add_str) (OpR.or op_cat op_catT)
def isSeqL : D → Bool
  | .lst _ => true
  | .ref _ => true
  | _ => false
def dAdd : F2 := fun d e S => match d, e with
  | .int i, .int j => .ok (.int (i + j), S)
  | .str x, .str y => if x.length + y.length ≤ sizeLine then .ok (.str (x ++ y), S) else .bad
  | .tup xs, .tup ys => if xs ≠ [] ∧ ys ≠ [] ∧ xs.length + ys.length ≤ sizeLine then .ok (.tup (xs ++ ys), S) else .bad
  | d, e => match asM d S, asM e S with
    | some xs, some ys => if xs.length + ys.length ≤ sizeLine then .ok (.lst (xs ++ ys), S) else .bad
    | _, _ => .bad
theorem add_sound {K : PySem.W.Frag} : Op2 K (rAddD K) dAdd := fun Fr S ι R H d e x y Q E ab rx ry w => by
  have lists : wpO (Rep K) K Fr S ι R (match asM d S, asM e S with
    | some xs, some ys => if xs.length + ys.length ≤ sizeLine then .ok (.lst (xs ++ ys), S) else .bad
    | _, _ => .bad) Q E → rAddD K x y H Q := fun w => by
    cases e1 : asM d S with
    | none => simp only [e1] at w; exact w.elim
    | some xs =>
      cases e2 : asM e S with
      | none => simp only [e1, e2] at w; exact w.elim
      | some ys =>
        simp only [e1, e2] at w
        by_cases hl : xs.length + ys.length ≤ sizeLine
        · rw [if_pos hl] at w
          obtain ⟨a, vs, rfl, ha, rs⟩ := asM_ok ab rx e1
          obtain ⟨b, us, rfl, hb, rt⟩ := asM_ok ab ry e2
          exact .inr (.inl ⟨a, b, vs, us, rfl, rfl, ha, hb, by rw [rs.length, rt.length]; exact hl, fun p hp => new_lst ab (rs.append rt) hp w⟩)
        · rw [if_neg hl] at w
          exact w.elim
  cases d with
  | int i =>
    cases e with
    | int j =>
      rw [rep_int rx, rep_int ry]
      exact .inl (.inl ⟨i, j, rfl, rfl, w.ok ab int_rep⟩)
    | _ => exact lists w
  | str i =>
    cases e with
    | str j =>
      have w : wpO (Rep K) K Fr S ι R (if i.length + j.length ≤ sizeLine then .ok (.str (i ++ j), S) else .bad) Q E := w
      by_cases hl : i.length + j.length ≤ sizeLine
      · rw [if_pos hl] at w
        rw [rep_str rx, rep_str ry]
        exact .inl (.inr ⟨i, j, rfl, rfl, hl, w.ok ab str_rep⟩)
      · rw [if_neg hl] at w
        exact w.elim
    | _ => exact lists w
  | tup xs =>
    cases e with
    | tup ys =>
      have w : wpO (Rep K) K Fr S ι R (if xs ≠ [] ∧ ys ≠ [] ∧ xs.length + ys.length ≤ sizeLine then .ok (.tup (xs ++ ys), S) else .bad) Q E := w
      by_cases hl : xs ≠ [] ∧ ys ≠ [] ∧ xs.length + ys.length ≤ sizeLine
      · rw [if_pos hl] at w
        obtain ⟨a, vs, rfl, ha, rs⟩ := rep_tup ab rx
        obtain ⟨b, us, rfl, hb, rt⟩ := rep_tup ab ry
        refine .inr (.inr ⟨a, b, vs, us, rfl, rfl, ha, hb, fun z => ?_, by rw [rs.length, rt.length]; exact hl.2.2, fun z => ?_, fun _ p hp => new_tup ab (rs.append rt) hp w⟩)
        · have := rs.length
          rw [z] at this
          exact hl.1 (List.length_eq_zero_iff.mp this.symm)
        · have := rt.length
          rw [z] at this
          exact (hl.2.1 (List.length_eq_zero_iff.mp this.symm)).elim
      · rw [if_neg hl] at w
        exact w.elim
    | _ => exact lists w
  | _ => exact lists w

/-! ### ints -/
def dI0 (g : Int → Int → D) : F2 := fun d e S => match d, e with
  | .int i, .int j => .ok (g i j, S)
  | _, _ => .bad
open Classical in
noncomputable def dIC (C : Int → Int → Prop) (g : Int → Int → D) : F2 := fun d e S => match d, e with
  | .int i, .int j => if C i j then .ok (g i j, S) else .bad
  | _, _ => .bad
theorem i0_sound {K : PySem.W.Frag} {g : Int → Int → V} {g' : Int → Int → D} (hg : ∀ i j, Konst K (g' i j) (g i j)) : Op2 K (rI0 g) (dI0 g') := fun Fr S ι R H d e x y Q E ab rx ry w => by
  cases d with
  | int i =>
    cases e with
    | int j =>
      rw [rep_int rx, rep_int ry]
      exact ⟨i, j, rfl, rfl, w.ok ab (hg i j R S ι)⟩
    | _ => exact w.elim
  | _ => exact w.elim
theorem iC_sound {K : PySem.W.Frag} {C : Int → Int → Prop} {g : Int → Int → V} {g' : Int → Int → D} (hg : ∀ i j, Konst K (g' i j) (g i j)) : Op2 K (rI C g) (dIC C g') := fun Fr S ι R H d e x y Q E ab rx ry w => by
  cases d with
  | int i =>
    cases e with
    | int j =>
      unfold dIC at w
      dsimp only at w
      rw [rep_int rx, rep_int ry]
      by_cases hc : C i j
      · rw [if_pos hc] at w
        exact ⟨i, j, rfl, rfl, hc, w.ok ab (hg i j R S ι)⟩
      · rw [if_neg hc] at w
        exact w.elim
    | _ => exact w.elim
  | _ => exact w.elim
theorem ki {K : PySem.W.Frag} {i : Int} : Konst K (.int i) (.int i) := fun _ _ _ => int_rep
theorem kb {K : PySem.W.Frag} {i : Bool} : Konst K (.bl i) (.bl i) := fun _ _ _ => rep_bl_intro
theorem ks {K : PySem.W.Frag} {i : Str} : Konst K (.str i) (.str i) := fun _ _ _ => str_rep
theorem kn {K : PySem.W.Frag} : Konst K .non .non := fun _ _ _ => rep_non
def dSub : F2 := dI0 fun i j => .int (i - j)
/-- one factor small, or both together not too long -/
def MulOk (i j : Int) : Prop := CMul i j ∨ CMulW i j
noncomputable def dMul : F2 := dIC MulOk fun i j => .int (i * j)
theorem op_mulX {X : Cx} : OpR X (binaryOp .Mult) (rI MulOk fun i j => .int (i * j)) := opI fun _ _ _ _ _ _ _ hc q => PyProof.Rows.mul_int q (hc.elim (fun h => h.ok) fun h => h.ok)
noncomputable def dFdiv : F2 := dIC CDivW fun i j => .int (i / j)
noncomputable def dMod : F2 := dIC (fun _ j => 0 < j) fun i j => .int (i % j)
noncomputable def dPow : F2 := dIC CPow fun i j => .int (i ^ j.toNat)
section
variable {X : Cx} {W : WX} {a b c e : Expr} {ga gb gc : LE} {pos : Pos}
theorem de_add (ha : DE X W a ga) (hb : DE X W b gb) : DE X W (.BinOp a .Add b pos) (x2 dAdd ga gb) := de_op add_sound or_addD ha hb
theorem de_sub (ha : DE X W a ga) (hb : DE X W b gb) : DE X W (.BinOp a .Sub b pos) (x2 dSub ga gb) := de_op (i0_sound fun _ _ => ki) op_sub ha hb
theorem de_mul (ha : DE X W a ga) (hb : DE X W b gb) : DE X W (.BinOp a .Mult b pos) (x2 dMul ga gb) := de_op (iC_sound fun _ _ => ki) op_mulX ha hb
theorem de_fdiv (ha : DE X W a ga) (hb : DE X W b gb) : DE X W (.BinOp a .FloorDiv b pos) (x2 dFdiv ga gb) := de_op (iC_sound fun _ _ => ki) op_fdivW ha hb
theorem de_mod (ha : DE X W a ga) (hb : DE X W b gb) : DE X W (.BinOp a .Mod b pos) (x2 dMod ga gb) := de_op (iC_sound fun _ _ => ki) op_mod ha hb
theorem de_pow (ha : DE X W a ga) (hb : DE X W b gb) : DE X W (.BinOp a .Pow b pos) (x2 dPow ga gb) := de_op (iC_sound fun _ _ => ki) op_pow ha hb
def dNeg : F1 := fun d S => match d with
  | .int i => .ok (.int (-i), S)
  | _ => .bad
theorem de_neg (ha : DE X W a ga) : DE X W (.UnaryOp .USub a pos) (x1 dNeg ga) := de_un (r := rU fun i => .int (-i)) (fun Fr S ι R H d x Q E ab rx w => by
  cases d with
  | int i =>
    rw [rep_int rx]
    exact ⟨i, rfl, w.ok ab int_rep⟩
  | _ => exact w.elim) un_neg ha

/-! ### orders: ints, texts -/
def dOrd (f : Int → Int → Bool) (g : List Nat → List Nat → Bool) : F2 := fun d e S => match d, e with
  | .int i, .int j => .ok (.bl (f i j), S)
  | .str x, .str y => .ok (.bl (g x.cps.toList y.cps.toList), S)
  | _, _ => .bad
def rOrd (f : Int → Int → Bool) (g : List Nat → List Nat → Bool) : R2 := fun x y H Q => rI0 (fun i j => .bl (f i j)) x y H Q ∨ (∃ i j, x = .str i ∧ y = .str j ∧ Q (.bl (g i.cps.toList j.cps.toList)) H)
theorem ord_sound {K : PySem.W.Frag} {f : Int → Int → Bool} {g : List Nat → List Nat → Bool} : Op2 K (rOrd f g) (dOrd f g) := fun Fr S ι R H d e x y Q E ab rx ry w => by
  cases d with
  | int i =>
    cases e with
    | int j =>
      rw [rep_int rx, rep_int ry]
      exact .inl ⟨i, j, rfl, rfl, w.ok ab rep_bl_intro⟩
    | _ => exact w.elim
  | str i =>
    cases e with
    | str j =>
      rw [rep_str rx, rep_str ry]
      exact .inr ⟨i, j, rfl, rfl, w.ok ab rep_bl_intro⟩
    | _ => exact w.elim
  | _ => exact w.elim
def dLt : F2 := dOrd (fun i j => decide (i < j)) fun x y => decide (x < y)
def dLe : F2 := dOrd (fun i j => decide (i ≤ j)) fun x y => !decide (y < x)
def dGt : F2 := dOrd (fun i j => decide (j < i)) fun x y => decide (y < x)
def dGe : F2 := dOrd (fun i j => decide (j ≤ i)) fun x y => !decide (x < y)
theorem or_lt : OpR X (compareOp .Lt) (rOrd (fun i j => decide (i < j)) fun x y => decide (x < y)) := OpR.or op_lt op_lt_str
theorem or_le : OpR X (compareOp .LtE) (rOrd (fun i j => decide (i ≤ j)) fun x y => !decide (y < x)) := OpR.or op_le op_le_str
theorem or_gt : OpR X (compareOp .Gt) (rOrd (fun i j => decide (j < i)) fun x y => decide (y < x)) := OpR.or op_gt op_gt_str
theorem or_ge : OpR X (compareOp .GtE) (rOrd (fun i j => decide (j ≤ i)) fun x y => !decide (x < y)) := OpR.or op_ge op_ge_str
theorem de_lt (ha : DE X W a ga) (hb : DE X W b gb) : DE X W (.Compare a [.Lt] [b] pos) (x2 dLt ga gb) := de_cmp ord_sound or_lt ha hb (nomark _)
theorem de_le (ha : DE X W a ga) (hb : DE X W b gb) : DE X W (.Compare a [.LtE] [b] pos) (x2 dLe ga gb) := de_cmp ord_sound or_le ha hb (nomark _)
theorem de_gt (ha : DE X W a ga) (hb : DE X W b gb) : DE X W (.Compare a [.Gt] [b] pos) (x2 dGt ga gb) := de_cmp ord_sound or_gt ha hb (nomark _)
theorem de_ge (ha : DE X W a ga) (hb : DE X W b gb) : DE X W (.Compare a [.GtE] [b] pos) (x2 dGe ga gb) := de_cmp ord_sound or_ge ha hb (nomark _)
theorem dt_lt (ha : DE X W a ga) (hb : DE X W b gb) : DT X W (.Compare a [.Lt] [b] pos) (tB (x2 dLt ga gb)) := dt_cmp ord_sound or_lt ha hb (nomark _)
theorem dt_le (ha : DE X W a ga) (hb : DE X W b gb) : DT X W (.Compare a [.LtE] [b] pos) (tB (x2 dLe ga gb)) := dt_cmp ord_sound or_le ha hb (nomark _)
theorem dt_gt (ha : DE X W a ga) (hb : DE X W b gb) : DT X W (.Compare a [.Gt] [b] pos) (tB (x2 dGt ga gb)) := dt_cmp ord_sound or_gt ha hb (nomark _)
theorem dt_ge (ha : DE X W a ga) (hb : DE X W b gb) : DT X W (.Compare a [.GtE] [b] pos) (tB (x2 dGe ga gb)) := dt_cmp ord_sound or_ge ha hb (nomark _)
/-- a chain of two -/
def xChain (f f' : F2) (a b c : LE) : LE := fun δ S => (a δ S).bind fun d S1 => (b δ S1).bind fun e S2 => (f d e S2).bind fun k S3 => match k with
  | .bl true => (c δ S3).bind fun h S4 => f' e h S4
  | .bl false => .ok (.bl false, S3)
  | _ => .bad
theorem chain_read {K : PySem.W.Frag} {r r' : R2} {f f' : F2} (h : Op2 K r f) (h' : Op2 K r' f') : ∀ σ H Q, cO (Rep K) K W (xChain f f' ga gb gc) σ H Q → tChain r r' (cO (Rep K) K W ga) (cO (Rep K) K W gb) (cO (Rep K) K W gc) σ H Q := fun σ H Q w =>
  cO.bind (rel := Rep K) (rel2 := Rep K) (f := fun d δ S1 => (gb δ S1).bind fun e S2 => (f d e S2).bind fun k S3 => match k with
  | .bl true => (gc δ S3).bind fun h S4 => f' e h S4
  | .bl false => .ok (.bl false, S3)
  | _ => .bad) w fun d x δ S1 ι1 R1 Fr H1 ab lo rx w1 => by
    refine ⟨δ, S1, ι1, R1, Fr, ab, lo, wpO.bind w1 fun e S2 y ι2 R2 H2 st ab2 ry w2 => ?_⟩
    refine h Fr S2 ι2 R2 H2 d e x y _ _ ab2 (rx.step st) ry (wpO.bind w2 fun k S3 z ι3 R3 H3 st3 ab3 rz w3 => ?_)
    cases k with
    | bl k =>
      refine ⟨k, rep_bl rz, ?_⟩
      cases k with
      | false => exact iteF (w3.ok ab3 rep_bl_intro)
      | true => exact iteT ⟨δ, S3, ι3, R3, Fr, ab3, (lo.step st).step st3, wpO.bind w3 fun q S4 u ι4 R4 H4 st4 ab4 ru w4 => h' Fr S4 ι4 R4 H4 e q y u _ _ ab4 ((ry.step st3).step st4) ru w4⟩
    | _ => exact w3.elim
theorem de_chain {op op' : CmpOp} {r r' : R2} {f f' : F2} (h : Op2 X.K r f) (h' : Op2 X.K r' f') (ho : OpR X (compareOp op) r) (ho' : OpR X (compareOp op') r') (ha : DE X W a ga) (hb : DE X W b gb) (hc : DE X W c gc) (t : PE X (.Compare a [op, op'] [b, c] pos) (tChain r r' (cO (Rep X.K) X.K W ga) (cO (Rep X.K) X.K W gb) (cO (Rep X.K) X.K W gc))) :
    DE X W (.Compare a [op, op'] [b, c] pos) (xChain f f' ga gb gc) := PE.imp t (chain_read h h')
end
end DL

set_option Elab.async false
set_option linter.all false
set_option maxRecDepth 100000
set_option maxHeartbeats 4000000
namespace DL
open PySem PySem.Spec L2
variable {Fr : Hp}

/-! ### == -/
mutual
def toPy : D → Option PyData
  | .non => some .none
  | .bl b => some (.bool b)
  | .int i => some (.int i)
  | .str x => some (.str x)
  | .lst ds => (toPyL ds).map .list
  | .fln ds => (toPyL ds).map .list
  | .tup ds => (toPyL ds).map .tuple
  | _ => none
def toPyL : List D → Option (List PyData)
  | [] => some []
  | d :: ds => match toPy d, toPyL ds with
    | some p, some ps => some (p :: ps)
    | _, _ => none
end
/-- a cell's list for its name -/
def deref (d : D) (S : Store) : D := match d with
  | .ref n => (match S[n]? with
    | some (some (.lst ds)) => .lst ds
    | _ => .ref n)
  | d => d
section
variable {K : PySem.W.Frag} {R H : Hp} {S : Store} {ι : Nat → Addr}
mutual
theorem toPy_ok (ab : Ab K Fr S ι R H) : ∀ {d : D} {v : V} {p : PyData}, toPy d = some p → Rep K R S ι d v → Dp K H v p
  | .non, v, p, e, r => by unfold Rep at r; unfold toPy at e; cases e; subst r; exact .non
  | .bl b, v, p, e, r => by unfold Rep at r; unfold toPy at e; cases e; subst r; exact .bl b
  | .int i, v, p, e, r => by unfold Rep at r; unfold toPy at e; cases e; subst r; exact .int i
  | .str x, v, p, e, r => by unfold Rep at r; unfold toPy at e; cases e; subst r; exact .str x
  | .lst ds, v, p, e, r => by
    unfold toPy at e
    cases h : toPyL ds with
    | none => rw [h] at e; cases e
    | some ps =>
      rw [h] at e
      cases e
      unfold Rep at r
      obtain ⟨a, xs, rfl, q, rs⟩ := r
      exact .lst (SqL.of (ab.sub _ _ q)) (toPyL_ok ab h rs)
  | .fln ds, v, p, e, r => by
    unfold toPy at e
    cases h : toPyL ds with
    | none => rw [h] at e; cases e
    | some ps =>
      rw [h] at e
      cases e
      unfold Rep at r
      obtain ⟨a, xs, rfl, q, rs⟩ := r
      exact .lst (Same.seq ab.sub q) (toPyL_ok ab h rs)
  | .tup ds, v, p, e, r => by
    unfold toPy at e
    cases h : toPyL ds with
    | none => rw [h] at e; cases e
    | some ps =>
      rw [h] at e
      cases e
      unfold Rep at r
      obtain ⟨a, xs, rfl, q, rs⟩ := r
      exact .tup (seqT_sub ab.sub q) (toPyL_ok ab h rs)
  | .ins _ _ _, _, _, e, _ => by unfold toPy at e; cases e
  | .ref _, _, _, e, _ => by unfold toPy at e; cases e
  | .val _, _, _, e, _ => by unfold toPy at e; cases e
  | .bot, _, _, e, _ => by unfold toPy at e; cases e
theorem toPyL_ok (ab : Ab K Fr S ι R H) : ∀ {ds : List D} {xs : List V} {ps : List PyData}, toPyL ds = some ps → RepL K R S ι ds xs → DpAll K H xs ps
  | [], xs, ps, e, r => by unfold RepL at r; unfold toPyL at e; cases e; subst r; exact .nil
  | d :: ds, xs, ps, e, r => by
    unfold RepL at r
    obtain ⟨v, vs, rfl, r1, r2⟩ := r
    unfold toPyL at e
    cases h1 : toPy d with
    | none => rw [h1] at e; cases e
    | some p =>
      cases h2 : toPyL ds with
      | none => rw [h1, h2] at e; cases e
      | some qs =>
        rw [h1, h2] at e
        cases e
        exact .cons (toPy_ok ab h1 r1) (toPyL_ok ab h2 r2)
end
theorem dp_of {d : D} {v : V} {p : PyData} (ab : Ab K Fr S ι R H) (e : toPy (deref d S) = some p) (r : Rep K R S ι d v) : Dp K H v p := by
  have go : deref d S = d → Dp K H v p := fun z => by rw [z] at e; exact toPy_ok ab e r
  cases d with
  | ref n =>
    cases h : S[n]? with
    | none => exact go (by unfold deref; simp only [h])
    | some o =>
      cases o with
      | none => exact go (by unfold deref; simp only [h])
      | some c =>
        cases c with
        | lst ds =>
          have z : deref (.ref n) S = .lst ds := by unfold deref; simp only [h]
          rw [z] at e
          unfold toPy at e
          cases h2 : toPyL ds with
          | none => rw [h2] at e; cases e
          | some ps =>
            rw [h2] at e
            cases e
            unfold Rep at r
            obtain ⟨a, rfl, l, q⟩ := r
            obtain ⟨xs, hH, rs⟩ := ab.cell n _ h
            have ea := q ⟨_, h⟩
            subst ea
            exact .lst (SqL.of hH) (toPyL_ok ab h2 rs)
        | dct ks ds => exact go (by unfold deref; simp only [h])
        | fct ks ds => exact go (by unfold deref; simp only [h])
        | dtt ks ds => exact go (by unfold deref; simp only [h])
        | exo c => exact go (by unfold deref; simp only [h])
        | ins c ns ds => exact go (by unfold deref; simp only [h])
  | _ => exact go rfl
end
/-- scalars by their values -/
def eqS : D → D → Option Bool
  | .int i, .int j => some (decide (i = j))
  | .str x, .str y => some (decide (x = y))
  | .bl a, .bl b => some (decide (a = b))
  | .non, .non => some true
  | .non, .int _ => some false
  | .int _, .non => some false
  | .non, .str _ => some false
  | .str _, .non => some false
  | .non, .bl _ => some false
  | .bl _, .non => some false
  | .int _, .str _ => some false
  | .str _, .int _ => some false
  | .bl _, .str _ => some false
  | .str _, .bl _ => some false
  | _, _ => none
def eqD (d e : D) (S : Store) : Option Bool := match eqS d e with
  | some b => some b
  | none => match toPy (deref d S), toPy (deref e S) with
    | some p, some q => if SeqAt.shaped p = true ∧ SeqAt.shaped q = true then some (PyData.eqv p q) else none
    | _, _ => none
def dEq : F2 := fun d e S => match eqD d e S with
  | some b => .ok (.bl b, S)
  | none => .bad
def dNe : F2 := fun d e S => match eqD d e S with
  | some b => .ok (.bl (!b), S)
  | none => .bad
theorem eqS_ok {K : PySem.W.Frag} {R : Hp} {S : Store} {ι : Nat → Addr} {d e : D} {x y : V} {b : Bool} (rx : Rep K R S ι d x) (ry : Rep K R S ι e y) (h : eqS d e = some b) : scal x y = true ∧ decide (x = y) = b := by
  cases d <;> cases e <;> first
    | (cases h; done)
    | (unfold Rep at rx ry; subst rx ry; cases h; exact ⟨rfl, by simp⟩)
theorem eqD_ok {K : PySem.W.Frag} {R H : Hp} {S : Store} {ι : Nat → Addr} {d e : D} {x y : V} {b : Bool} (ab : Ab K Fr S ι R H) (rx : Rep K R S ι d x) (ry : Rep K R S ι e y) (h : eqD d e S = some b) :
    (scal x y = true ∧ decide (x = y) = b) ∨ ∃ p q, Dp K H x p ∧ Dp K H y q ∧ SeqAt.shaped p = true ∧ SeqAt.shaped q = true ∧ PyData.eqv p q = b := by
  unfold eqD at h
  cases h1 : eqS d e with
  | some c =>
    rw [h1] at h
    cases h
    exact .inl (eqS_ok rx ry h1)
  | none =>
    rw [h1] at h
    dsimp only at h
    cases h2 : toPy (deref d S) with
    | none => rw [h2] at h; cases h
    | some p =>
      cases h3 : toPy (deref e S) with
      | none => rw [h2, h3] at h; cases h
      | some q =>
        rw [h2, h3] at h
        dsimp only at h
        by_cases hs : SeqAt.shaped p = true ∧ SeqAt.shaped q = true
        · rw [if_pos hs] at h
          cases h
          exact .inr ⟨p, q, dp_of ab h2 rx, dp_of ab h3 ry, hs.1, hs.2, rfl⟩
        · rw [if_neg hs] at h
          cases h
def rEqA (K : PySem.W.Frag) : R2 := fun x y H Q => rEq x y H Q ∨ rEqD K x y H Q
def rNeA (K : PySem.W.Frag) : R2 := fun x y H Q => rNe x y H Q ∨ rNeD K x y H Q
theorem eq_sound {K : PySem.W.Frag} : Op2 K (rEqA K) dEq := fun Fr S ι R H d e x y Q E ab rx ry w => by
  unfold dEq at w
  cases h : eqD d e S with
  | none => rw [h] at w; exact w.elim
  | some b =>
    rw [h] at w
    rcases eqD_ok ab rx ry h with ⟨h1, h2⟩ | ⟨p, q, h1, h2, h3, h4, h5⟩
    · exact .inl ⟨h1, by rw [h2]; exact w.ok ab rep_bl_intro⟩
    · exact .inr ⟨p, q, h1, h2, h3, h4, by rw [h5]; exact w.ok ab rep_bl_intro⟩
theorem ne_sound {K : PySem.W.Frag} : Op2 K (rNeA K) dNe := fun Fr S ι R H d e x y Q E ab rx ry w => by
  unfold dNe at w
  cases h : eqD d e S with
  | none => rw [h] at w; exact w.elim
  | some b =>
    rw [h] at w
    rcases eqD_ok ab rx ry h with ⟨h1, h2⟩ | ⟨p, q, h1, h2, h3, h4, h5⟩
    · exact .inl ⟨h1, by rw [h2]; exact w.ok ab rep_bl_intro⟩
    · exact .inr ⟨p, q, h1, h2, h3, h4, by rw [h5]; exact w.ok ab rep_bl_intro⟩
section
variable {X : Cx} {W : WX} {k : Nat} {a b c e : Expr} {ga gb gc : LE} {pos : Pos}
theorem or_eq (c : Ctc X W k) : OpR X (compareOp .Eq) (rEqA X.K) := OpR.or op_eq (op_eqD c.hr.units)
theorem or_ne (c : Ctc X W k) : OpR X (compareOp .NotEq) (rNeA X.K) := OpR.or op_ne (op_neD c.hr.units)
theorem de_eq (c : Ctc X W k) (ha : DE X W a ga) (hb : DE X W b gb) : DE X W (.Compare a [.Eq] [b] pos) (x2 dEq ga gb) := de_cmp eq_sound (or_eq c) ha hb (nomark _)
theorem de_ne (c : Ctc X W k) (ha : DE X W a ga) (hb : DE X W b gb) : DE X W (.Compare a [.NotEq] [b] pos) (x2 dNe ga gb) := de_cmp ne_sound (or_ne c) ha hb (nomark _)
theorem dt_eq (c : Ctc X W k) (ha : DE X W a ga) (hb : DE X W b gb) : DT X W (.Compare a [.Eq] [b] pos) (tB (x2 dEq ga gb)) := dt_cmp eq_sound (or_eq c) ha hb (nomark _)
theorem dt_ne (c : Ctc X W k) (ha : DE X W a ga) (hb : DE X W b gb) : DT X W (.Compare a [.NotEq] [b] pos) (tB (x2 dNe ga gb)) := dt_cmp ne_sound (or_ne c) ha hb (nomark _)
/-! ### is None -/
def isNon : D → Option Bool
  | .non => some true
  | .bot => none
  | .val _ => none
  | _ => some false
def dIsN : F1 := fun d S => match isNon d with
  | some b => .ok (.bl b, S)
  | none => .bad
def dNotN : F1 := fun d S => match isNon d with
  | some b => .ok (.bl (!b), S)
  | none => .bad
theorem isNon_ok {K : PySem.W.Frag} {R : Hp} {S : Store} {ι : Nat → Addr} {d : D} {x : V} {b : Bool} (r : Rep K R S ι d x) (h : isNon d = some b) : decide (x = .non) = b := by
  cases d <;> first
    | (cases h; done)
    | (unfold Rep at r; subst r; cases h; simp; done)
    | (unfold Rep at r; obtain ⟨a, xs, rfl, _⟩ := r; cases h; simp; done)
    | (unfold Rep at r; obtain ⟨a, dx, xs, rfl, _⟩ := r; cases h; simp; done)
    | (unfold Rep at r; obtain ⟨a, rfl, _⟩ := r; cases h; simp; done)
    | (unfold Rep at r; obtain ⟨rfl, _⟩ := r; cases h; simp; done)
theorem isN_sound {K : PySem.W.Frag} {W : WX} : ∀ σ H Q, cO (Rep K) K W (x1 dIsN ga) σ H Q → tIsN (cO (Rep K) K W ga) σ H Q := fun σ H Q w =>
  cO.bind (rel := Rep K) (rel2 := Rep K) (f := fun d (_ : Lc) S1 => dIsN d S1) w fun d x δ S1 ι1 R1 Fr H1 ab lo rx w1 => by
    unfold dIsN at w1
    cases h : isNon d with
    | none => rw [h] at w1; exact w1.elim
    | some b =>
      rw [h] at w1
      show Q (.bl (decide (x = .non))) H1
      rw [isNon_ok rx h]
      exact w1.ok ab rep_bl_intro
theorem notN_sound {K : PySem.W.Frag} {W : WX} : ∀ σ H Q, cO (Rep K) K W (x1 dNotN ga) σ H Q → tNotN (cO (Rep K) K W ga) σ H Q := fun σ H Q w =>
  cO.bind (rel := Rep K) (rel2 := Rep K) (f := fun d (_ : Lc) S1 => dNotN d S1) w fun d x δ S1 ι1 R1 Fr H1 ab lo rx w1 => by
    unfold dNotN at w1
    cases h : isNon d with
    | none => rw [h] at w1; exact w1.elim
    | some b =>
      rw [h] at w1
      show Q (.bl (!decide (x = .non))) H1
      rw [isNon_ok rx h]
      exact w1.ok ab rep_bl_intro
theorem de_isN {j : Nat} {pos' : Pos} (ha : DE X W a ga) : DE X W (.Compare a [.Is] [.Constant .none j pos'] pos) (x1 dIsN ga) := PE.imp (pe_cmp (pc_isN ha) rfl) isN_sound
theorem de_notN {j : Nat} {pos' : Pos} (ha : DE X W a ga) : DE X W (.Compare a [.IsNot] [.Constant .none j pos'] pos) (x1 dNotN ga) := PE.imp (pe_cmp (pc_notN ha) rfl) notN_sound
theorem dt_isN {j : Nat} {pos' : Pos} (ha : DE X W a ga) : DT X W (.Compare a [.Is] [.Constant .none j pos'] pos) (tB (x1 dIsN ga)) := PT.imp (pt_cmp (pc_isN ha) rfl) fun σ H Q w => isN_sound σ H _ (tB_read σ H Q w)
theorem dt_notN {j : Nat} {pos' : Pos} (ha : DE X W a ga) : DT X W (.Compare a [.IsNot] [.Constant .none j pos'] pos) (tB (x1 dNotN ga)) := PT.imp (pt_cmp (pc_notN ha) rfl) fun σ H Q w => notN_sound σ H _ (tB_read σ H Q w)
/-! ### in, not in -/
def flatD : D → Bool
  | .non => true
  | .bl _ => true
  | .int _ => true
  | .str _ => true
  | _ => false
def vOf : D → V
  | .bl b => .bl b
  | .int i => .int i
  | .str x => .str x
  | _ => .non
theorem flat_rep {K : PySem.W.Frag} {R : Hp} {S : Store} {ι : Nat → Addr} {d : D} {x : V} (r : Rep K R S ι d x) (h : flatD d = true) : x = vOf d ∧ flatV x = true := by
  cases d <;> first
    | (cases h; done)
    | (unfold Rep at r; subst r; exact ⟨rfl, rfl⟩)
theorem flat_repL {K : PySem.W.Frag} {R : Hp} {S : Store} {ι : Nat → Addr} : ∀ {ds : List D} {xs : List V}, RepL K R S ι ds xs → ds.all flatD = true → xs = ds.map vOf ∧ xs.all flatV = true
  | [], xs, r, h => by unfold RepL at r; subst r; exact ⟨rfl, rfl⟩
  | d :: ds, xs, r, h => by
    unfold RepL at r
    obtain ⟨v, vs, rfl, r1, r2⟩ := r
    rw [List.all_cons, Bool.and_eq_true] at h
    obtain ⟨h1, h2⟩ := flat_rep r1 h.1
    obtain ⟨h3, h4⟩ := flat_repL r2 h.2
    exact ⟨by rw [h1, h3]; rfl, by rw [List.all_cons, h2, h4]; rfl⟩
def inD (d : D) (ds : List D) : Bool := inV (vOf d) (ds.map vOf)
/-- one sign in a text, or a thing in a list or tuple of flat ones -/
def memD (d e : D) (S : Store) : Option Bool := match d, e with
  | .str x, .str z => (match x.cps.toList with
    | [c] => some (decide (c ∈ z.cps.toList))
    | _ => none)
  | d, e => match asS e S with
    | some ds => if flatD d = true ∧ ds.all flatD = true then some (inD d ds) else none
    | none => none
def dIn (neg : Bool) : F2 := fun d e S => match memD d e S with
  | some b => .ok (.bl (if neg then !b else b), S)
  | none => .bad
def rInA (K : PySem.W.Frag) (neg : Bool) : R2 := fun x y H Q => (∃ (c : Nat) (z : Str), x = .str ⟨#[c]⟩ ∧ y = .str z ∧ Q (.bl (if neg then !decide (c ∈ z.cps.toList) else decide (c ∈ z.cps.toList))) H) ∨ rIn K neg x y H Q
theorem one_sign {x : Str} {c : Nat} (h : x.cps.toList = [c]) : x = ⟨#[c]⟩ := by
  obtain ⟨⟨l⟩⟩ := x
  have h : l = [c] := h
  rw [h]
theorem in_sound {K : PySem.W.Frag} {neg : Bool} : Op2 K (rInA K neg) (dIn neg) := fun Fr S ι R H d e x y Q E ab rx ry w => by
  unfold dIn at w
  cases h : memD d e S with
  | none => rw [h] at w; exact w.elim
  | some b =>
    rw [h] at w
    have go : (match asS e S with | some ds => if flatD d = true ∧ ds.all flatD = true then some (inD d ds) else none | none => none) = some b → rInA K neg x y H Q := fun h => by
      cases h1 : asS e S with
      | none => rw [h1] at h; cases h
      | some ds =>
        rw [h1] at h
        dsimp only at h
        by_cases hf : flatD d = true ∧ ds.all flatD = true
        · rw [if_pos hf] at h
          cases h
          obtain ⟨p, xs, rfl, sq, rs⟩ := asS_ok ab ry h1
          obtain ⟨h2, h3⟩ := flat_rep rx hf.1
          obtain ⟨h4, h5⟩ := flat_repL rs hf.2
          refine .inr ⟨p, xs, rfl, sq, h3, h5, ?_⟩
          rw [h2, h4]
          exact w.ok ab rep_bl_intro
        · rw [if_neg hf] at h
          cases h
    cases d with
    | str z =>
      cases e with
      | str u =>
        unfold memD at h
        dsimp only at h
        cases h1 : z.cps.toList with
        | nil => rw [h1] at h; cases h
        | cons c r =>
          cases r with
          | nil =>
            rw [h1] at h
            cases h
            rw [rep_str rx, rep_str ry]
            exact .inl ⟨c, u, by rw [one_sign h1], rfl, w.ok ab rep_bl_intro⟩
          | cons c' r' => rw [h1] at h; cases h
      | _ => exact go h
    | _ => exact go h
theorem or_in : OpR X (compareOp .In) (rInA X.K false) := fun pins s σ H x y v u Q I rx ry h => by
  rcases h with h | h
  · exact op_in_sign pins s σ H x y v u Q I rx ry h
  · exact op_in_seq pins s σ H x y v u Q I rx ry h
theorem or_notIn : OpR X (compareOp .NotIn) (rInA X.K true) := fun pins s σ H x y v u Q I rx ry h => by
  rcases h with h | h
  · exact op_notIn_sign pins s σ H x y v u Q I rx ry h
  · exact op_notIn_seq pins s σ H x y v u Q I rx ry h
theorem de_in (ha : DE X W a ga) (hb : DE X W b gb) (hm : behindInMarks .In b = false := by rfl) : DE X W (.Compare a [.In] [b] pos) (x2 (dIn false) ga gb) := de_cmp in_sound or_in ha hb hm
theorem de_notIn (ha : DE X W a ga) (hb : DE X W b gb) (hm : behindInMarks .NotIn b = false := by rfl) : DE X W (.Compare a [.NotIn] [b] pos) (x2 (dIn true) ga gb) := de_cmp in_sound or_notIn ha hb hm
theorem dt_in (ha : DE X W a ga) (hb : DE X W b gb) (hm : behindInMarks .In b = false := by rfl) : DT X W (.Compare a [.In] [b] pos) (tB (x2 (dIn false) ga gb)) := dt_cmp in_sound or_in ha hb hm
theorem dt_notIn (ha : DE X W a ga) (hb : DE X W b gb) (hm : behindInMarks .NotIn b = false := by rfl) : DT X W (.Compare a [.NotIn] [b] pos) (tB (x2 (dIn true) ga gb)) := dt_cmp in_sound or_notIn ha hb hm
/-! ### subscripts -/
def dIx : F2 := fun d e S => match d, e with
  | .str z, .int i => if z.length ≤ sizeLine then (match atI z.cps.toList i with
    | some c => .ok (.str ⟨#[c]⟩, S)
    | none => .bad) else .bad
  | d, .int i => (match asS d S with
    | some ds => (match atI ds i with
      | some x => .ok (x, S)
      | none => .bad)
    | none => .bad)
  | _, _ => .bad
theorem atI_rep {K : PySem.W.Frag} {R : Hp} {S : Store} {ι : Nat → Addr} {ds : List D} {xs : List V} {i : Int} {d : D} (rs : RepL K R S ι ds xs) (h : atI ds i = some d) : ∃ v, atI xs i = some v ∧ Rep K R S ι d v := by
  unfold atI at h ⊢
  rw [rs.length]
  cases e : ixN ds.length i with
  | none => rw [e] at h; cases h
  | some j =>
    rw [e] at h
    exact rs.get (i := j) h
theorem ix_sound {K : PySem.W.Frag} : Op2 K (rIx K) dIx := fun Fr S ι R H d e x y Q E ab rx ry w => by
  cases e with
  | int i =>
    have go : wpO (Rep K) K Fr S ι R (match asS d S with | some ds => (match atI ds i with | some x => .ok (x, S) | none => .bad) | none => .bad) Q E → rIx K x y H Q := fun w => by
      cases h1 : asS d S with
      | none => rw [h1] at w; exact w.elim
      | some ds =>
        rw [h1] at w
        dsimp only at w
        cases h2 : atI ds i with
        | none => rw [h2] at w; exact w.elim
        | some z =>
          rw [h2] at w
          obtain ⟨p, xs, rfl, sq, rs⟩ := asS_ok ab rx h1
          obtain ⟨v, h3, rv⟩ := atI_rep rs h2
          rw [rep_int ry]
          rcases sq with sq | sq
          · exact .inl ⟨p, xs, i, v, rfl, rfl, sq, h3, w.ok ab rv⟩
          · exact .inr (.inl ⟨p, xs, i, v, rfl, rfl, sq, h3, w.ok ab rv⟩)
    cases d with
    | str z =>
      have w : wpO (Rep K) K Fr S ι R (if z.length ≤ sizeLine then (match atI z.cps.toList i with | some c => .ok (.str ⟨#[c]⟩, S) | none => .bad) else .bad) Q E := w
      by_cases hl : z.length ≤ sizeLine
      · rw [if_pos hl] at w
        cases h2 : atI z.cps.toList i with
        | none => rw [h2] at w; exact w.elim
        | some c =>
          rw [h2] at w
          rw [rep_str rx, rep_int ry]
          exact .inr (.inr ⟨z, i, c, rfl, rfl, hl, h2, w.ok ab str_rep⟩)
      · rw [if_neg hl] at w
        exact w.elim
    | _ => exact go w
  | _ => cases d <;> exact w.elim
theorem de_sub_ix (ha : DE X W a ga) (hb : DE X W b gb) (hs : PlainIx b := by intro _ _; rfl) : DE X W (.Subscript a b pos) (x2 dIx ga gb) := de_ix ix_sound ix_seq ha hb hs
end
end DL

set_option Elab.async false
set_option linter.all false
set_option maxRecDepth 100000
set_option maxHeartbeats 4000000
namespace DL
open PySem PySem.Spec L2
variable {Fr : Hp}

/-! ### isinstance -/
inductive Ty where
  | non | bl | int | str | lst | tup | dct
  deriving DecidableEq
def Ty.nm : Ty → String
  | .non => "NoneType" | .bl => "bool" | .int => "int" | .str => "str" | .lst => "list" | .tup => "tuple" | .dct => "dict"
def Ty.sub : Ty → Ty → Bool
  | .bl, .int => true
  | a, b => decide (a = b)
inductive Tk where
  | b (t : Ty)
  | own (c : Str)
def tyOf (d : D) (S : Store) : Option Tk := match d with
  | .non => some (.b .non)
  | .bl _ => some (.b .bl)
  | .int _ => some (.b .int)
  | .str _ => some (.b .str)
  | .lst _ => some (.b .lst)
  | .tup _ => some (.b .tup)
  | .ins c _ _ => some (.own c)
  | .ref n => (match S[n]? with
    | some (some (.lst _)) => some (.b .lst)
    | some (some (.dct _ _)) => some (.b .dct)
    | some (some (.ins c _ _)) => some (.own c)
    | _ => none)
  | _ => none
theorem kit_tab {K : PySem.W.Frag} : ∀ (a b : Ty), b ≠ .non → PySem.W.kitOne K (.type a.nm) (.type b.nm) = some (a.sub b) := by
  intro a b hb
  cases b with
  | non => exact absurd rfl hb
  | _ => cases a <;> exact kit_ty (by decide +kernel)
theorem ty_mem {b : Ty} (hb : b ≠ .non) : b.nm ∈ ["int", "bool", "str", "list", "tuple", "dict"] := by
  cases b with
  | non => exact absurd rfl hb
  | _ => simp [Ty.nm]
theorem ty_mem2 (b : Ty) : b.nm ∈ ["NoneType", "bool", "int", "str", "list", "tuple", "dict"] := by
  cases b <;> simp [Ty.nm]
/-- what tyOf tells of a value -/
def TkOk (K : PySem.W.Frag) (H : Hp) (x : V) : Tk → Prop
  | .b t => TyX K H x (.type t.nm)
  | .own c => TyX K H x (.ref (He.ga K c)) ∧ IsiC K (He.ga K c)
theorem tyOf_ok {K : PySem.W.Frag} {R H : Hp} {S : Store} {ι : Nat → Addr} {d : D} {x : V} {t : Tk} (ab : Ab K Fr S ι R H) (r : Rep K R S ι d x) (e : tyOf d S = some t) : TkOk K H x t := by
  cases d with
  | non => cases e; unfold Rep at r; subst r; exact .base .non
  | bl b => cases e; unfold Rep at r; subst r; exact .base (.bl b)
  | int b => cases e; unfold Rep at r; subst r; exact .base (.int b)
  | str b => cases e; unfold Rep at r; subst r; exact .base (.str b)
  | lst ds => cases e; unfold Rep at r; obtain ⟨a, xs, rfl, q, _⟩ := r; exact .base (.lst (ab.sub _ _ q))
  | tup ds =>
    cases e
    unfold Rep at r
    obtain ⟨a, xs, rfl, q, _⟩ := r
    rcases q with (q | ⟨o, q⟩) | ⟨o, its, n, h1, h2, _⟩
    · exact .base (.tup (ab.sub _ _ q))
    · exact .fTuple (ab.sub _ _ q)
    · exact .kTuple h1 h2
  | ins c ns ds =>
    cases e
    unfold Rep at r
    obtain ⟨a, dx, fs, rfl, q, _, io, _⟩ := r
    exact ⟨.base (.ins (ab.sub _ _ q) io.cls io.isi.ha io.isi.hn io.isi.htk io.isi.hm), io.isi⟩
  | ref n =>
    unfold tyOf at e
    unfold Rep at r
    obtain ⟨a, rfl, l, q⟩ := r
    cases h : S[n]? with
    | none => simp only [h] at e; cases e
    | some o =>
      cases o with
      | none => simp only [h] at e; cases e
      | some c =>
        have ea := q ⟨_, h⟩
        subst ea
        have hc := ab.cell n c h
        cases c with
        | lst ds => simp only [h] at e; cases e; obtain ⟨xs, hH, _⟩ := hc; exact .base (.lst hH)
        | dct ks ds => simp only [h] at e; cases e; obtain ⟨xs, hH, _⟩ := hc; exact .base (.dK hH)
        | fct ks ds => simp only [h] at e; cases e
        | dtt ks ds => simp only [h] at e; cases e
        | exo c => simp only [h] at e; cases e
        | ins c ns ds => simp only [h] at e; cases e; obtain ⟨dx, fs, hH, _, io, _⟩ := hc; exact ⟨.base (.ins hH io.cls io.isi.ha io.isi.hn io.isi.htk io.isi.hm), io.isi⟩
  | _ => cases e
def isiB (T : Ty) : Tk → Bool
  | .b t => t.sub T
  | .own _ => false
def isiO (c : Str) : Tk → Option Bool
  | .b _ => some false
  | .own c' => if c' = c then some true else none
def dIsi (T : Ty) : F1 := fun d S => match tyOf d S with
  | some t => .ok (.bl (isiB T t), S)
  | none => .bad
def dIsiO (c : Str) : F1 := fun d S => match tyOf d S with
  | some t => (match isiO c t with
    | some b => .ok (.bl b, S)
    | none => .bad)
  | none => .bad
def dIsiT (Ts : List Ty) : F1 := fun d S => match tyOf d S with
  | some t => .ok (.bl (Ts.any fun T => isiB T t), S)
  | none => .bad
theorem kit_isiB {K : PySem.W.Frag} {H : Hp} {x : V} {t : Tk} {T : Ty} (hT : T ≠ .non) (h : TkOk K H x t) : ∃ u, TyX K H x u ∧ PySem.W.kitOne K u (.type T.nm) = some (isiB T t) := by
  cases t with
  | b t => exact ⟨_, h, kit_tab t T hT⟩
  | own c => exact ⟨_, h.1, h.2.no _ (ty_mem hT)⟩
theorem kit_isiT {K : PySem.W.Frag} {H : Hp} {x : V} {t : Tk} (h : TkOk K H x t) : ∃ u, TyX K H x u ∧ ∀ Ts : List Ty, (∀ T ∈ Ts, T ≠ .non) → PySem.W.kitAny K u (Ts.map fun T => .type T.nm) = some (Ts.any fun T => isiB T t) := by
  have go : ∀ u, (∀ T : Ty, T ≠ .non → PySem.W.kitOne K u (.type T.nm) = some (isiB T t)) → ∀ Ts : List Ty, (∀ T ∈ Ts, T ≠ .non) → PySem.W.kitAny K u (Ts.map fun T => .type T.nm) = some (Ts.any fun T => isiB T t) := by
    intro u hu Ts
    induction Ts with
    | nil => intro _; rfl
    | cons T Ts ih =>
      intro hT
      rw [List.map_cons, List.any_cons]
      refine kitAny_cons (hu T (hT T (List.mem_cons_self ..))) (fun hb => ?_) fun hb => ?_
      · rw [hb, Bool.false_or]; exact ih fun T' h' => hT T' (List.mem_cons_of_mem _ h')
      · rw [hb, Bool.true_or]
  cases t with
  | b t => exact ⟨_, h, go _ fun T hT => kit_tab t T hT⟩
  | own c => exact ⟨_, h.1, go _ fun T hT => h.2.no _ (ty_mem hT)⟩
theorem cls_list : ∀ Ts : List Ty, Paired ClsV (Ts.map fun T => V.ty T.nm) (Ts.map fun T => Value.type T.nm)
  | [] => .nil
  | T :: Ts => .cons (.ty _) (cls_list Ts)
section
variable {X : Cx} {W : WX} {k : Nat} {a b c e : Expr} {ga gb gc : LE} {pos p p2 : Pos} {x y : Str}
theorem pe_tyname {T : String} (hg : Gl X y) (hm : X.mg y = none) (hv : bootBuiltins y = some (.type T)) (hn : y ≠ "__name__" := by decide) (hdb : (y == ("__debug__" : Str)) = false := by decide) : PE X (.Name y p2) (tC (.ty T)) := pe_bltn hg hm hv rfl hn hdb
theorem de_isi (T : Ty) (hm : X.mg "isinstance" = none) (hm2 : X.mg y = none) (hT : T ≠ .non) (hv : bootBuiltins y = some (.type T.nm)) (ha : DE X W a ga) (hg : Gl X "isinstance" := by rfl) (hg2 : Gl X y := by rfl) (hn : y ≠ "__name__" := by decide) (hdb : (y == ("__debug__" : Str)) = false := by decide)
    (he : starEach [a, .Name y p2] X.env = (false, eval a X.env) :: starEach [.Name y p2] X.env := by rfl) (he2 : starEach [.Name y p2] X.env = (false, eval (.Name y p2) X.env) :: starEach [] X.env := by rfl) (hpl : (backTo pos (starEach [.Name y p2] X.env)).any (·.1) = false := by rfl) :
    DE X W (.Call (.Name "isinstance" p) [a, .Name y p2] [] pos) (x1 (dIsi T) ga) :=
  PE.imp (pe_callB call_isi hg hm (by decide +kernel) (pa_cons ha (pa_cons (pe_tyname hg2 hm2 hv hn hdb) pa_nil he2) he) (by decide) (by decide) he hpl) fun σ H Q w => cO.bind (rel := Rep X.K) (rel2 := Rep X.K) (f := fun d (_ : Lc) S1 => dIsi T d S1) w fun d v δ S1 ι1 R1 Fr H1 ab lo r w1 => by
    unfold dIsi at w1
    cases e : tyOf d S1 with
    | none => rw [e] at w1; exact w1.elim
    | some t =>
      rw [e] at w1
      obtain ⟨u, h1, h2⟩ := kit_isiB hT (tyOf_ok ab r e)
      exact ⟨v, .ty T.nm, u, _, _, rfl, .ty _, h1, h2, w1.ok ab rep_bl_intro⟩
theorem de_isiO (cn : Str) (hm : X.mg "isinstance" = none) (hm2 : X.mg y = some (.ref (He.ga X.K cn))) (T : IsiC X.K (He.ga X.K cn)) (ha : DE X W a ga) (hg : Gl X "isinstance" := by rfl) (hg2 : Gl X y := by rfl) (hdb : (y == ("__debug__" : Str)) = false := by decide)
    (he : starEach [a, .Name y p2] X.env = (false, eval a X.env) :: starEach [.Name y p2] X.env := by rfl) (he2 : starEach [.Name y p2] X.env = (false, eval (.Name y p2) X.env) :: starEach [] X.env := by rfl) (hpl : (backTo pos (starEach [.Name y p2] X.env)).any (·.1) = false := by rfl) :
    DE X W (.Call (.Name "isinstance" p) [a, .Name y p2] [] pos) (x1 (dIsiO cn) ga) :=
  PE.imp (pe_callB call_isi hg hm (by decide +kernel) (pa_cons ha (pa_cons (pe_glob (v := .ref (He.ga X.K cn)) hg2 hm2 rfl hdb) pa_nil he2) he) (by decide) (by decide) he hpl) fun σ H Q w => cO.bind (rel := Rep X.K) (rel2 := Rep X.K) (f := fun d (_ : Lc) S1 => dIsiO cn d S1) w fun d v δ S1 ι1 R1 Fr H1 ab lo r w1 => by
    unfold dIsiO at w1
    cases e : tyOf d S1 with
    | none => rw [e] at w1; exact w1.elim
    | some t =>
      rw [e] at w1
      dsimp only at w1
      have h := tyOf_ok ab r e
      cases t with
      | b t => exact ⟨v, .ref (He.ga X.K cn), _, _, _, rfl, .own _, h, T.tgt _ (ty_mem2 t), w1.ok ab rep_bl_intro⟩
      | own c' =>
        unfold isiO at w1
        dsimp only at w1
        by_cases hc : c' = cn
        · rw [if_pos hc] at w1
          subst hc
          refine ⟨v, .ref (He.ga X.K c'), _, _, _, rfl, .own _, h.1, ?_, w1.ok ab rep_bl_intro⟩
          unfold PySem.W.kitOne
          rw [if_pos (beq_self_eq_true _)]
        · rw [if_neg hc] at w1
          exact w1.elim
/-- isinstance(e, (T1, T2)) -/
theorem de_isiT (Ts : List Ty) (hm : X.mg "isinstance" = none) (hT : ∀ T ∈ Ts, T ≠ .non) {es : List Expr} {j : Nat} (ha : DE X W a ga) (hes : PA X es (fun _ H Q => Q (Ts.map fun T => V.ty T.nm) H)) (hl : Ts.length ≤ 1000) (hg : Gl X "isinstance" := by rfl)
    (he : starEach [a, .Tuple es j p2] X.env = (false, eval a X.env) :: starEach [.Tuple es j p2] X.env := by rfl) (he2 : starEach [.Tuple es j p2] X.env = (false, eval (.Tuple es j p2) X.env) :: starEach [] X.env := by rfl) (hpl : (backTo pos (starEach [.Tuple es j p2] X.env)).any (·.1) = false := by rfl) :
    DE X W (.Call (.Name "isinstance" p) [a, .Tuple es j p2] [] pos) (x1 (dIsiT Ts) ga) :=
  PE.imp (pe_callB call_isiT hg hm (by decide +kernel) (pa_cons ha (pa_cons (pe_tup hes) pa_nil he2) he) (by decide) (by decide) he hpl) fun σ H Q w => cO.bind (rel := Rep X.K) (rel2 := Rep X.K) (f := fun d (_ : Lc) S1 => dIsiT Ts d S1) w fun d v δ S1 ι1 R1 Fr H1 ab lo r w1 => by
    unfold dIsiT at w1
    cases e : tyOf d S1 with
    | none => rw [e] at w1; exact w1.elim
    | some t =>
      rw [e] at w1
      refine ⟨by rw [List.length_map, sizeLine_eq]; omega, fun tp hp => ?_⟩
      obtain ⟨ab2, st2⟩ := ab.rnew (o := .tup (Ts.map fun T => V.ty T.nm)) hp
      obtain ⟨u, h1, h2⟩ := kit_isiT (tyOf_ok ab2 (r.step st2) e)
      exact ⟨v, tp, _, u, Ts.map fun T => .type T.nm, _, rfl, upd_same, cls_list Ts, h1, h2 Ts hT, (w1.step st2).ok ab2 rep_bl_intro⟩

/-! ### built-in calls by meaning -/
def OpA (K : PySem.W.Frag) (r : List V → Hp → VK → Prop) (f : Fn) : Prop := ∀ (Fr : Hp) (S : Store) (ι : Nat → Addr) (R H : Hp) (ds : List D) (xs : List V) (Q : VK) (E : XK), Ab K Fr S ι R H → RepL K R S ι ds xs → wpO (Rep K) K Fr S ι R (f ds S) Q E → r xs H Q
def xB (f : Fn) (args : LA) : LE := fun δ S => (args δ S).bind fun ds S1 => f ds S1
theorem xB_read {K : PySem.W.Frag} {r : List V → Hp → VK → Prop} {f : Fn} {g : LA} (h : OpA K r f) : ∀ σ H Q, cO (Rep K) K W (xB f g) σ H Q → tCB r (cO (RepL K) K W g) σ H Q := fun σ H Q w =>
  cO.bind (rel := RepL K) (rel2 := Rep K) (f := fun ds (_ : Lc) S1 => f ds S1) w fun ds xs δ S1 ι1 R1 Fr H1 ab lo rs w1 => h Fr S1 ι1 R1 H1 ds xs Q _ ab rs w1
theorem de_blt {id : String} {es : List Expr} {g : LA} {r : List V → Hp → VK → Prop} {f : Fn} (h : OpA X.K r f) (hc : CallR X (.builtin id) r) (hm : X.mg x = none) (hv : bootBuiltins x = some (.builtin id)) (ha : DA X W (e :: es) g) (hg : Gl X x := by rfl) (hn : x ≠ "__name__" := by decide) (hdb : (x == ("__debug__" : Str)) = false := by decide)
    (he : starEach (e :: es) X.env = (false, eval e X.env) :: starEach es X.env := by rfl) (hpl : (backTo pos (starEach es X.env)).any (·.1) = false := by rfl) : DE X W (.Call (.Name x p) (e :: es) [] pos) (xB f g) := PE.imp (pe_callB hc hg hm hv ha hn hdb he hpl) (xB_read h)
theorem de_bty {T : String} {es : List Expr} {g : LA} {r : List V → Hp → VK → Prop} {f : Fn} (h : OpA X.K r f) (hc : CallR X (.type T) r) (hm : X.mg x = none) (hv : bootBuiltins x = some (.type T)) (ha : DA X W (e :: es) g) (hg : Gl X x := by rfl) (hn : x ≠ "__name__" := by decide) (hdb : (x == ("__debug__" : Str)) = false := by decide)
    (he : starEach (e :: es) X.env = (false, eval e X.env) :: starEach es X.env := by rfl) (hpl : (backTo pos (starEach es X.env)).any (·.1) = false := by rfl) : DE X W (.Call (.Name x p) (e :: es) [] pos) (xB f g) := PE.imp (pe_callTy hc hg hm hv ha hn hdb he hpl) (xB_read h)
theorem repL1 {K : PySem.W.Frag} {R : Hp} {S : Store} {ι : Nat → Addr} {d : D} {xs : List V} (r : RepL K R S ι [d] xs) : ∃ v, xs = [v] ∧ Rep K R S ι d v := by
  unfold RepL at r
  obtain ⟨v, vs, rfl, r1, r2⟩ := r
  unfold RepL at r2
  subst r2
  exact ⟨v, rfl, r1⟩
theorem repL2 {K : PySem.W.Frag} {R : Hp} {S : Store} {ι : Nat → Addr} {d e : D} {xs : List V} (r : RepL K R S ι [d, e] xs) : ∃ v u, xs = [v, u] ∧ Rep K R S ι d v ∧ Rep K R S ι e u := by
  unfold RepL at r
  obtain ⟨v, vs, rfl, r1, r2⟩ := r
  obtain ⟨u, rfl, r3⟩ := repL1 r2
  exact ⟨v, u, rfl, r1, r3⟩
def bLen : Fn := fun ds S => match ds with
  | [.str z] => if z.length ≤ sizeLine then .ok (.int z.length, S) else .bad
  | [d] => (match asS d S with
    | some xs => .ok (.int xs.length, S)
    | none => .bad)
  | _ => .bad
def rLenD (K : PySem.W.Frag) : List V → Hp → VK → Prop := fun xs H Q => (∃ p ys, xs = [.ref p] ∧ (SqL K H p ys ∨ SqT K H p ys) ∧ Q (.int ys.length) H) ∨ ∃ z, xs = [.str z] ∧ z.length ≤ sizeLine ∧ Q (.int z.length) H
theorem cr_lenD : CallR X (.builtin "len") (rLenD X.K) := CallR.or call_len_seq call_len_str
theorem len_sound {K : PySem.W.Frag} : OpA K (rLenD K) bLen := fun Fr S ι R H ds xs Q E ab rs w => by
  match ds, rs, w with
  | [], _, w => exact w.elim
  | [d], rs, w =>
    obtain ⟨v, rfl, r⟩ := repL1 rs
    have go : wpO (Rep K) K Fr S ι R (match asS d S with | some xs => .ok (.int xs.length, S) | none => .bad) Q E → rLenD K [v] H Q := fun w => by
      cases h : asS d S with
      | none => rw [h] at w; exact w.elim
      | some ys =>
        rw [h] at w
        obtain ⟨a, xs, rfl, sq, rs⟩ := asS_ok ab r h
        exact .inl ⟨a, xs, rfl, sq, by rw [rs.length]; exact w.ok ab int_rep⟩
    cases d with
    | str z =>
      have w : wpO (Rep K) K Fr S ι R (if z.length ≤ sizeLine then .ok (.int z.length, S) else .bad) Q E := w
      by_cases hl : z.length ≤ sizeLine
      · rw [if_pos hl] at w
        rw [rep_str r]
        exact .inr ⟨z, rfl, hl, w.ok ab int_rep⟩
      · rw [if_neg hl] at w
        exact w.elim
    | _ => exact go w
  | d :: _ :: _, _, w => cases d <;> exact w.elim
def bInt : Fn := fun ds S => match ds with
  | [.int i] => .ok (.int i, S)
  | [.bl b] => .ok (.int (if b then 1 else 0), S)
  | _ => .bad
theorem int_sound {K : PySem.W.Frag} : OpA K (fun xs H Q => (∃ i, xs = [.int i] ∧ Q (.int i) H) ∨ ∃ k, xs = [.bl k] ∧ Q (.int (if k then 1 else 0)) H) bInt := fun Fr S ι R H ds xs Q E ab rs w => by
  match ds, rs, w with
  | [], _, w => exact w.elim
  | [d], rs, w =>
    obtain ⟨v, rfl, r⟩ := repL1 rs
    cases d with
    | int i => rw [rep_int r]; exact .inl ⟨i, rfl, w.ok ab int_rep⟩
    | bl i => rw [rep_bl r]; exact .inr ⟨i, rfl, w.ok ab int_rep⟩
    | _ => exact w.elim
  | d :: _ :: _, _, w => cases d <;> exact w.elim
open Classical in
noncomputable def bI1 (C : Int → Prop) (g : Int → D) : Fn := fun ds S => match ds with
  | [.int i] => if C i then .ok (g i, S) else .bad
  | _ => .bad
noncomputable def bAbs : Fn := bI1 (fun _ => True) fun i => .int (if i < 0 then -i else i)
noncomputable def bStrI : Fn := bI1 (fun i => i.natAbs.log2 < 1920) fun i => .str (toString i)
theorem i1_sound {K : PySem.W.Frag} {C : Int → Prop} {g : Int → D} {gv : Int → V} (hg : ∀ i, Konst K (g i) (gv i)) {r : List V → Hp → VK → Prop} (hr : ∀ i H Q, C i → Q (gv i) H → r [.int i] H Q) : OpA K r (bI1 C g) := fun Fr S ι R H ds xs Q E ab rs w => by
  match ds, rs, w with
  | [], _, w => exact w.elim
  | [d], rs, w =>
    obtain ⟨v, rfl, r⟩ := repL1 rs
    cases d with
    | int i =>
      unfold bI1 at w
      dsimp only at w
      rw [rep_int r]
      by_cases hc : C i
      · rw [if_pos hc] at w
        exact hr i H Q hc (w.ok ab (hg i R S ι))
      · rw [if_neg hc] at w
        exact w.elim
    | _ => exact w.elim
  | d :: _ :: _, _, w => cases d <;> exact w.elim
theorem abs_sound {K : PySem.W.Frag} : OpA K (fun xs H Q => ∃ i, xs = [.int i] ∧ Q (.int (if i < 0 then -i else i)) H) bAbs := i1_sound (gv := fun i => .int (if i < 0 then -i else i)) (fun _ => ki) fun i H Q _ q => ⟨i, rfl, q⟩
theorem strI_sound {K : PySem.W.Frag} : OpA K (fun xs H Q => ∃ i : Int, xs = [.int i] ∧ i.natAbs.log2 < 1920 ∧ Q (.str (toString i)) H) bStrI := i1_sound (gv := fun i => .str (toString i)) (fun _ => ks) fun i H Q c q => ⟨i, rfl, c, q⟩
def bI2 (g : Int → Int → D) : Fn := fun ds S => match ds with
  | [.int i, .int j] => .ok (g i j, S)
  | _ => .bad
theorem i2_sound {K : PySem.W.Frag} {g : Int → Int → D} {gv : Int → Int → V} (hg : ∀ i j, Konst K (g i j) (gv i j)) : OpA K (fun xs H Q => ∃ i j, xs = [.int i, .int j] ∧ Q (gv i j) H) (bI2 g) := fun Fr S ι R H ds xs Q E ab rs w => by
  match ds, rs, w with
  | [], _, w => exact w.elim
  | [d], _, w => cases d <;> exact w.elim
  | [d, e], rs, w =>
    obtain ⟨v, u, rfl, r1, r2⟩ := repL2 rs
    cases d with
    | int i =>
      cases e with
      | int j => rw [rep_int r1, rep_int r2]; exact ⟨i, j, rfl, w.ok ab (hg i j R S ι)⟩
      | _ => exact w.elim
    | _ => exact w.elim
  | d :: e :: _ :: _, _, w => cases d <;> cases e <;> exact w.elim
def bMax : Fn := bI2 fun i j => .int (if j > i then j else i)
def bMin : Fn := bI2 fun i j => .int (if j < i then j else i)
def bOrd : Fn := fun ds S => match ds with
  | [.str x] => if x.length = 1 then .ok (.int (x.cps.getD 0 0 : Nat), S) else .bad
  | _ => .bad
theorem ord_soundB {K : PySem.W.Frag} : OpA K (fun xs H Q => ∃ x : Str, xs = [.str x] ∧ x.length = 1 ∧ Q (.int (x.cps.getD 0 0 : Nat)) H) bOrd := fun Fr S ι R H ds xs Q E ab rs w => by
  match ds, rs, w with
  | [], _, w => exact w.elim
  | [d], rs, w =>
    obtain ⟨v, rfl, r⟩ := repL1 rs
    cases d with
    | str x =>
      have w : wpO (Rep K) K Fr S ι R (if x.length = 1 then .ok (.int (x.cps.getD 0 0 : Nat), S) else .bad) Q E := w
      rw [rep_str r]
      by_cases hc : x.length = 1
      · rw [if_pos hc] at w
        exact ⟨x, rfl, hc, w.ok ab int_rep⟩
      · rw [if_neg hc] at w
        exact w.elim
    | _ => exact w.elim
  | d :: _ :: _, _, w => cases d <;> exact w.elim
variable {es : List Expr} {g : LA}
theorem de_len (hm : X.mg "len" = none) (ha : DA X W (e :: []) g) (hg : Gl X "len" := by rfl) (he : starEach (e :: []) X.env = (false, eval e X.env) :: starEach [] X.env := by rfl) (hpl : (backTo pos (starEach [] X.env)).any (·.1) = false := by rfl) : DE X W (.Call (.Name "len" p) (e :: []) [] pos) (xB bLen g) := de_blt len_sound cr_lenD hm (by decide +kernel) ha hg (by decide) (by decide) he hpl
theorem de_bint (hm : X.mg "int" = none) (ha : DA X W (e :: []) g) (hg : Gl X "int" := by rfl) (he : starEach (e :: []) X.env = (false, eval e X.env) :: starEach [] X.env := by rfl) (hpl : (backTo pos (starEach [] X.env)).any (·.1) = false := by rfl) : DE X W (.Call (.Name "int" p) (e :: []) [] pos) (xB bInt g) := de_bty int_sound call_int1 hm (by decide +kernel) ha hg (by decide) (by decide) he hpl
theorem de_str1 (hm : X.mg "str" = none) (ha : DA X W (e :: []) g) (hg : Gl X "str" := by rfl) (he : starEach (e :: []) X.env = (false, eval e X.env) :: starEach [] X.env := by rfl) (hpl : (backTo pos (starEach [] X.env)).any (·.1) = false := by rfl) : DE X W (.Call (.Name "str" p) (e :: []) [] pos) (xB bStrI g) := de_bty strI_sound call_str_int hm (by decide +kernel) ha hg (by decide) (by decide) he hpl
theorem de_abs (hm : X.mg "abs" = none) (ha : DA X W (e :: []) g) (hg : Gl X "abs" := by rfl) (he : starEach (e :: []) X.env = (false, eval e X.env) :: starEach [] X.env := by rfl) (hpl : (backTo pos (starEach [] X.env)).any (·.1) = false := by rfl) : DE X W (.Call (.Name "abs" p) (e :: []) [] pos) (xB bAbs g) := de_blt abs_sound call_abs hm (by decide +kernel) ha hg (by decide) (by decide) he hpl
theorem de_ord (hm : X.mg "ord" = none) (ha : DA X W (e :: []) g) (hg : Gl X "ord" := by rfl) (he : starEach (e :: []) X.env = (false, eval e X.env) :: starEach [] X.env := by rfl) (hpl : (backTo pos (starEach [] X.env)).any (·.1) = false := by rfl) : DE X W (.Call (.Name "ord" p) (e :: []) [] pos) (xB bOrd g) := de_blt ord_soundB call_ord hm (by decide +kernel) ha hg (by decide) (by decide) he hpl
theorem de_max2 (cc : Ctc X W k) (hm : X.mg "max" = none) (ha : DA X W [e, b] g) (hg : Gl X "max" := by rfl) (he : starEach [e, b] X.env = (false, eval e X.env) :: starEach [b] X.env := by rfl) (hpl : (backTo pos (starEach [b] X.env)).any (·.1) = false := by rfl) : DE X W (.Call (.Name "max" p) [e, b] [] pos) (xB bMax g) := de_blt (i2_sound fun _ _ => ki) (call_max2 cc.calm) hm (by decide +kernel) ha hg (by decide) (by decide) he hpl
theorem de_min2 (cc : Ctc X W k) (hm : X.mg "min" = none) (ha : DA X W [e, b] g) (hg : Gl X "min" := by rfl) (he : starEach [e, b] X.env = (false, eval e X.env) :: starEach [b] X.env := by rfl) (hpl : (backTo pos (starEach [b] X.env)).any (·.1) = false := by rfl) : DE X W (.Call (.Name "min" p) [e, b] [] pos) (xB bMin g) := de_blt (i2_sound fun _ _ => ki) (call_min2 cc.calm) hm (by decide +kernel) ha hg (by decide) (by decide) he hpl

/-! ### range -/
def rngSrc (lo hi : Int) : Src := ⟨(List.range (hi - lo).toNat).map fun (i : Nat) => D.int (lo + i), fun _ => True⟩
theorem rngIt {K : PySem.W.Frag} {R : Hp} {S : Store} {ι : Nat → Addr} {lo hi : Int} : relIt K R S ι (rngSrc lo hi) (Itr lo (hi - lo).toNat) := by
  intro Fr S' ι' R' H' i st ab hS
  refine ⟨fun d e => ?_, fun l => ?_⟩
  · have e : ((List.range (hi - lo).toNat).map fun (i : Nat) => D.int (lo + i))[i]? = some d := e
    rw [List.getElem?_map] at e
    have hlt : i < (hi - lo).toNat := by
      cases h : (List.range (hi - lo).toNat)[i]? with
      | none => rw [h] at e; cases e
      | some j => simpa using (List.getElem?_eq_some_iff.mp h).1
    rw [List.getElem?_range hlt] at e
    have e2 : D.int (lo + (i : Nat)) = d := Option.some.inj e
    subst e2
    exact ⟨hlt, fun x H2 y => by obtain ⟨rfl, rfl⟩ := y; exact ⟨R', .refl, ab, int_rep⟩⟩
  · have : ((List.range (hi - lo).toNat).map fun (i : Nat) => D.int (lo + i)).length ≤ i := l
    simp at this
    exact Int.toNat_le.mpr (by omega)
def srcRng1 : List D → Store → Oc (Src × Store) := fun ds S => match ds with
  | [.int j] => if -(2 ^ 62) ≤ j ∧ j < 2 ^ 62 then .ok (rngSrc 0 j, S) else .bad
  | _ => .bad
def srcRng2 : List D → Store → Oc (Src × Store) := fun ds S => match ds with
  | [.int i, .int j] => if -(2 ^ 62) ≤ i ∧ i < 2 ^ 62 ∧ -(2 ^ 62) ≤ j ∧ j < 2 ^ 62 then .ok (rngSrc i j, S) else .bad
  | _ => .bad
def xRng1 (args : LA) : LI := fun δ S => (args δ S).bind srcRng1
def xRng2 (args : LA) : LI := fun δ S => (args δ S).bind srcRng2
theorem di_rng1 {tg : Expr} (hm : X.mg "range" = none) (ha : DA X W [e] g) (hg : Gl X "range" := by rfl) (hs : starEach [e] X.env = [(false, eval e X.env)] := by rfl) : DI X W tg (.Call (.Name "range" p) [e] [] pos) (xRng1 g) :=
  PI.imp (pi_range1 hg hm ha hs) fun σ H Q w => cO.bind (rel := RepL X.K) (rel2 := relIt X.K) (f := fun ds (_ : Lc) S1 => srcRng1 ds S1) w fun ds xs δ S1 ι1 R1 Fr H1 ab lo rs w1 => by
    match ds, rs, w1 with
    | [], _, w => exact w.elim
    | [d], rs, w =>
      obtain ⟨v, rfl, r⟩ := repL1 rs
      cases d with
      | int j =>
        have w : wpO (relIt X.K) X.K Fr S1 ι1 R1 (if -(2 ^ 62) ≤ j ∧ j < 2 ^ 62 then .ok (rngSrc 0 j, S1) else .bad) Q _ := w
        by_cases hc : -(2 ^ 62) ≤ j ∧ j < 2 ^ 62
        · rw [if_pos hc] at w
          have z := rngIt (K := X.K) (R := R1) (S := S1) (ι := ι1) (lo := 0) (hi := j)
          rw [show (j - 0).toNat = j.toNat by rw [Int.sub_zero]] at z
          exact ⟨j, by rw [rep_int r], hc.1, hc.2, w.ok ab z⟩
        · rw [if_neg hc] at w
          exact w.elim
      | _ => exact w.elim
    | d :: e :: _, _, w => cases d <;> exact w.elim
theorem di_rng2 {tg : Expr} (hm : X.mg "range" = none) (ha : DA X W [e, b] g) (hg : Gl X "range" := by rfl) (hs : starEach [e, b] X.env = [(false, eval e X.env), (false, eval b X.env)] := by rfl) (hs2 : starEach [b] X.env = [(false, eval b X.env)] := by rfl) : DI X W tg (.Call (.Name "range" p) [e, b] [] pos) (xRng2 g) :=
  PI.imp (pi_range2 hg hm ha hs hs2) fun σ H Q w => cO.bind (rel := RepL X.K) (rel2 := relIt X.K) (f := fun ds (_ : Lc) S1 => srcRng2 ds S1) w fun ds xs δ S1 ι1 R1 Fr H1 ab lo rs w1 => by
    match ds, rs, w1 with
    | [], _, w => exact w.elim
    | [d], _, w => cases d <;> exact w.elim
    | [d, e], rs, w =>
      obtain ⟨v, u, rfl, r1, r2⟩ := repL2 rs
      cases d with
      | int i =>
        cases e with
        | int j =>
          have w : wpO (relIt X.K) X.K Fr S1 ι1 R1 (if -(2 ^ 62) ≤ i ∧ i < 2 ^ 62 ∧ -(2 ^ 62) ≤ j ∧ j < 2 ^ 62 then .ok (rngSrc i j, S1) else .bad) Q _ := w
          by_cases hc : -(2 ^ 62) ≤ i ∧ i < 2 ^ 62 ∧ -(2 ^ 62) ≤ j ∧ j < 2 ^ 62
          · rw [if_pos hc] at w
            exact ⟨i, j, by rw [rep_int r1, rep_int r2], hc, w.ok ab rngIt⟩
          · rw [if_neg hc] at w
            exact w.elim
        | _ => exact w.elim
      | _ => exact w.elim
    | d :: e :: _ :: _, _, w => cases d <;> cases e <;> exact w.elim
end
end DL

set_option Elab.async false
set_option linter.all false
set_option maxRecDepth 100000
set_option maxHeartbeats 4000000
namespace DL
open PySem PySem.Spec L2
variable {Fr : Hp}

/-! ### methods of built-in types by meaning -/
abbrev Fm := D → List D → Store → Oc (D × Store)
def OpM (K : PySem.W.Frag) (r : V → List V → Hp → VK → Prop) (f : Fm) : Prop := ∀ (Fr : Hp) (S : Store) (ι : Nat → Addr) (R H : Hp) (d : D) (ds : List D) (x : V) (xs : List V) (Q : VK) (E : XK), Ab K Fr S ι R H → Rep K R S ι d x → RepL K R S ι ds xs → wpO (Rep K) K Fr S ι R (f d ds S) Q E → r x xs H Q
def isStr (d : D) (_ : Store) : Bool := match d with
  | .str _ => true
  | _ => false
def isLst (d : D) (S : Store) : Bool := (asL d S).isSome
def asDct (d : D) (S : Store) : Option (List Key × List D) := match d with
  | .ref n => (match S[n]? with
    | some (some (.dct ks ds)) => some (ks, ds)
    | _ => none)
  | _ => none
def isDct (d : D) (S : Store) : Bool := (asDct d S).isSome
def TyChk (K : PySem.W.Frag) (T : String) (q : D → Store → Bool) : Prop := ∀ (Fr : Hp) (S : Store) (ι : Nat → Addr) (R H : Hp) (d : D) (x : V), Ab K Fr S ι R H → Rep K R S ι d x → q d S = true → tyV K T x H
theorem chk_str {K : PySem.W.Frag} : TyChk K "str" isStr := fun Fr S ι R H d x ab r h => by
  cases d with
  | str z => rw [rep_str r]; rfl
  | _ => cases h
theorem chk_lst {K : PySem.W.Frag} : TyChk K "list" isLst := fun Fr S ι R H d x ab r h => by
  unfold isLst at h
  cases e : asL d S with
  | none => rw [e] at h; cases h
  | some ds =>
    obtain ⟨a, xs, rfl, q, _⟩ := asL_ok ab r e
    exact .inl ⟨rfl, xs, q⟩
theorem asDct_ok {K : PySem.W.Frag} {S : Store} {ι : Nat → Addr} {R H : Hp} {d : D} {ks : List Key} {ds : List D} {v : V} (ab : Ab K Fr S ι R H) (r : Rep K R S ι d v) (e : asDct d S = some (ks, ds)) : ∃ n a xs, d = .ref n ∧ a = ι n ∧ S[n]? = some (some (.dct ks ds)) ∧ v = .ref a ∧ H a = some (.dK (ks.zip xs)) ∧ ks.length = ds.length ∧ RepL K R S ι ds xs := by
  cases d with
  | ref n =>
    unfold asDct at e
    unfold Rep at r
    obtain ⟨a, rfl, l, q⟩ := r
    cases h : S[n]? with
    | none => simp only [h] at e; cases e
    | some o =>
      cases o with
      | none => simp only [h] at e; cases e
      | some c =>
        have ea := q ⟨_, h⟩
        subst ea
        have hc := ab.cell n c h
        cases c with
        | dct ks' ds' =>
          simp only [h] at e
          cases e
          obtain ⟨xs, hH, hl, rs⟩ := hc
          exact ⟨n, _, xs, rfl, rfl, h, rfl, hH, hl, rs⟩
        | _ => simp only [h] at e; cases e
  | _ => cases e
theorem chk_dct {K : PySem.W.Frag} : TyChk K "dict" isDct := fun Fr S ι R H d x ab r h => by
  unfold isDct at h
  cases e : asDct d S with
  | none => rw [e] at h; cases h
  | some q =>
    obtain ⟨ks, ds⟩ := q
    obtain ⟨n, a, xs, _, _, _, rfl, hH, _⟩ := asDct_ok ab r e
    exact .inr (.inr (.inl ⟨rfl, .inl ⟨_, hH⟩⟩))
def xBM (q : D → Store → Bool) (f : Fm) (o : LE) (args : LA) : LE := fun δ S => (o δ S).bind fun d S1 => if q d S1 = true then (args δ S1).bind fun ds S2 => f d ds S2 else .bad
section
variable {X : Cx} {W : WX} {k : Nat} {a b c e o : Expr} {ga gb gc go : LE} {pos p p2 apos cpos : Pos} {x y name : Str} {es : List Expr} {g : LA} {T id : String} {r : V → List V → Hp → VK → Prop} {q : D → Store → Bool} {f : Fm}
theorem xBM_read {K : PySem.W.Frag} (h : OpM K r f) (hq : TyChk K T q) : ∀ σ H Q, cO (Rep K) K W (xBM q f go g) σ H Q → tBM K T r (cO (Rep K) K W go) (cO (RepL K) K W g) σ H Q := fun σ H Q w =>
  cO.bind (rel := Rep K) (rel2 := Rep K) (f := fun d δ S1 => if q d S1 = true then (g δ S1).bind fun ds S2 => f d ds S2 else .bad) w fun d v δ S1 ι1 R1 Fr H1 ab lo r w1 => by
    by_cases hc : q d S1 = true
    · rw [if_pos hc] at w1
      exact ⟨hq Fr S1 ι1 R1 H1 d v ab r hc, δ, S1, ι1, R1, Fr, ab, lo, wpO.bind w1 fun ds S2 xs ι2 R2 H2 st ab2 rs w2 => h Fr S2 ι2 R2 H2 d ds v xs Q _ ab2 (r.step st) rs w2⟩
    · rw [if_neg hc] at w1
      exact w1.elim
theorem de_bm (pa : PlainAttrs T) (slot : Slot T name id) (hty : typeOf (.builtin id) = pure (.type "method_descriptor")) (hm : MtR X id r) (h : OpM X.K r f) (hq : TyChk X.K T q) (ho : DE X W o go) (ha : DA X W (e :: es) g)
    (hbase : attributeBase o name X.env (eval o X.env) = eval o X.env := by rfl)
    (hfew : ((backTo cpos (starEach (e :: es) X.env)).all (fun x => !x.1) && (backToKw cpos (keywordEach [] X.env)).all (fun x => x.1.isSome)
      && decide ((e :: es).length + ([] : List Keyword).length + (if ([] : List Keyword).isEmpty then 0 else 1) < 30)) = true := by rfl)
    (hline : (apos.endLine == cpos.line) = true := by rfl) (hs : starEach (e :: es) X.env = (false, eval e X.env) :: starEach es X.env := by rfl) (hplain : (backTo cpos (starEach es X.env)).any (·.1) = false := by rfl) :
    DE X W (.Call (.Attribute o name apos) (e :: es) [] cpos) (xBM q f go g) := PE.imp (pe_bm pa slot hty hm ho ha hbase hfew hline hs hplain) (xBM_read h hq)
theorem de_bm0 (pa : PlainAttrs T) (slot : Slot T name id) (hty : typeOf (.builtin id) = pure (.type "method_descriptor")) (hm : MtR X id r) (h : OpM X.K r f) (hq : TyChk X.K T q) (ho : DE X W o go)
    (hbase : attributeBase o name X.env (eval o X.env) = eval o X.env := by rfl) (hline : (apos.endLine == cpos.line) = true := by rfl) :
    DE X W (.Call (.Attribute o name apos) [] [] cpos) (xBM q f go xNil) := PE.imp (pe_bm0 pa slot hty hm ho hbase hline) fun σ H Q w => by
  obtain ⟨δ, S, ι, R, Fr, ab, lo, w1⟩ := xBM_read (W := W) (T := T) (g := xNil) h hq σ H Q w
  refine ⟨δ, S, ι, R, Fr, ab, lo, ?_⟩
  cases e1 : go δ S with
  | bad => rw [e1] at w1; exact w1
  | exc c fs S' => rw [e1] at w1; exact w1
  | ok z => rw [e1] at w1; exact fun v ι' R' H' st ab' r => let ⟨h1, h2⟩ := w1 v ι' R' H' st ab' r; ⟨h1, nil_read h2⟩
/-! append -/
def mAppend : Fm := fun d ds S => match d, ds with
  | .ref n, [x] => (match S[n]? with
    | some (some (.lst xs)) => if xs.length < sizeLine then .ok (.non, S.set n (some (.lst (xs ++ [x])))) else .bad
    | _ => .bad)
  | _, _ => .bad
theorem append_sound {K : PySem.W.Frag} : OpM K rAppend mAppend := fun Fr S ι R H d ds x xs Q E ab r rs w => by
  match ds, rs, w with
  | [], _, w => cases d <;> exact w.elim
  | [e], rs, w =>
    obtain ⟨u, rfl, re⟩ := repL1 rs
    cases d with
    | ref n =>
      unfold mAppend at w
      dsimp only at w
      unfold Rep at r
      obtain ⟨a, rfl, l, q⟩ := r
      cases h : S[n]? with
      | none => rw [h] at w; exact w.elim
      | some o =>
        cases o with
        | none => rw [h] at w; exact w.elim
        | some c =>
          cases c with
          | lst ys =>
            rw [h] at w
            dsimp only at w
            have ea := q ⟨_, h⟩
            subst ea
            obtain ⟨vs, hH, rv⟩ := ab.cell n _ h
            by_cases hl : ys.length < sizeLine
            · rw [if_pos hl] at w
              obtain ⟨ab2, st2⟩ := ab.cset (o := .lst (vs ++ [u])) (c' := .lst (ys ++ [e])) h ⟨_, upd_same, rv.append (repL_cons re repL_nil)⟩
              exact ⟨_, vs, u, rfl, rfl, hH, by rw [rv.length]; exact hl, w .non ι R _ st2 ab2 rep_non⟩
            · rw [if_neg hl] at w
              exact w.elim
          | _ => rw [h] at w; exact w.elim
    | _ => exact w.elim
  | e :: e2 :: _, _, w => cases d <;> exact w.elim
theorem de_append (ho : DE X W o go) (ha : DA X W [e] g) (hbase : attributeBase o "append" X.env (eval o X.env) = eval o X.env := by rfl)
    (hfew : ((backTo cpos (starEach [e] X.env)).all (fun x => !x.1) && (backToKw cpos (keywordEach [] X.env)).all (fun x => x.1.isSome)
      && decide (([e] : List Expr).length + ([] : List Keyword).length + (if ([] : List Keyword).isEmpty then 0 else 1) < 30)) = true := by rfl)
    (hline : (apos.endLine == cpos.line) = true := by rfl) (hs : starEach [e] X.env = (false, eval e X.env) :: starEach [] X.env := by rfl) (hplain : (backTo cpos (starEach [] X.env)).any (·.1) = false := by rfl) :
    DE X W (.Call (.Attribute o "append" apos) [e] [] cpos) (xBM isLst mAppend go g) := de_bm PySem.F.plainAttrs_list PySem.F.slot_list_append PySem.F.type_list_append mt_append append_sound chk_lst ho ha hbase hfew hline hs hplain
/-! texts: one argument an int, a text -/
open Classical in
noncomputable def mSI (C : Str → Int → Prop) (f : Str → Int → D) : Fm := fun d ds S => match d, ds with
  | .str z, [.int i] => if C z i then .ok (f z i, S) else .bad
  | _, _ => .bad
noncomputable def mZfill : Fm := mSI (fun _ i => PadOk i = true) fun a i => .str (Txt.zfill a i)
theorem zfill_sound {K : PySem.W.Frag} : OpM K (fun x xs H Q => ∃ (a : Str) (i : Int), x = .str a ∧ xs = [.int i] ∧ PadOk i = true ∧ Q (.str (Txt.zfill a i)) H) mZfill := fun Fr S ι R H d ds x xs Q E ab r rs w => by
  match ds, rs, w with
  | [], _, w => cases d <;> exact w.elim
  | [e], rs, w =>
    obtain ⟨u, rfl, re⟩ := repL1 rs
    cases d with
    | str z =>
      cases e with
      | int i =>
        unfold mZfill mSI at w
        dsimp only at w
        rw [rep_str r, rep_int re]
        by_cases hc : PadOk i = true
        · rw [if_pos hc] at w
          exact ⟨z, i, rfl, rfl, hc, w.ok ab str_rep⟩
        · rw [if_neg hc] at w
          exact w.elim
      | _ => exact w.elim
    | _ => cases e <;> exact w.elim
  | e :: e2 :: _, _, w => cases d <;> cases e <;> exact w.elim
theorem de_zfill (ho : DE X W o go) (ha : DA X W [e] g) (hbase : attributeBase o "zfill" X.env (eval o X.env) = eval o X.env := by rfl)
    (hfew : ((backTo cpos (starEach [e] X.env)).all (fun x => !x.1) && (backToKw cpos (keywordEach [] X.env)).all (fun x => x.1.isSome)
      && decide (([e] : List Expr).length + ([] : List Keyword).length + (if ([] : List Keyword).isEmpty then 0 else 1) < 30)) = true := by rfl)
    (hline : (apos.endLine == cpos.line) = true := by rfl) (hs : starEach [e] X.env = (false, eval e X.env) :: starEach [] X.env := by rfl) (hplain : (backTo cpos (starEach [] X.env)).any (·.1) = false := by rfl) :
    DE X W (.Call (.Attribute o "zfill" apos) [e] [] cpos) (xBM isStr mZfill go g) := de_bm PySem.F.plainAttrs_str PySem.F.slot_str_zfill PySem.F.type_str_zfill mt_zfill zfill_sound chk_str ho ha hbase hfew hline hs hplain
/-! join -/
def txs : List D → Option (List Str)
  | [] => some []
  | .str z :: ds => (txs ds).map (z :: ·)
  | _ => none
theorem txs_ok {K : PySem.W.Frag} {R : Hp} {S : Store} {ι : Nat → Addr} : ∀ {ds : List D} {xs : List V} {ys : List Str}, txs ds = some ys → RepL K R S ι ds xs → xs = ys.map V.str
  | [], xs, ys, e, r => by cases e; unfold RepL at r; exact r
  | d :: ds, xs, ys, e, r => by
    cases d with
    | str z =>
      have e : (txs ds).map (z :: ·) = some ys := e
      cases h : txs ds with
      | none => rw [h] at e; cases e
      | some zs =>
        rw [h] at e
        cases e
        unfold RepL at r
        obtain ⟨v, vs, rfl, r1, r2⟩ := r
        rw [rep_str r1, txs_ok h r2]
        rfl
    | _ => cases e
def mJoin : Fm := fun d ds S => match d, ds with
  | .str z, [e] => (match (asS e S).bind txs with
    | some ys => if (ys.map (·.length)).sum + ys.length * z.length ≤ 16777216 then .ok (.str (Txt.join z ys), S) else .bad
    | none => .bad)
  | _, _ => .bad
theorem join_sound {K : PySem.W.Frag} : OpM K (fun x xs H Q => ∃ a p, ∃ ys : List Str, x = .str a ∧ xs = [.ref p] ∧ (SqL K H p (ys.map V.str) ∨ SqT K H p (ys.map V.str)) ∧
    (ys.map (·.length)).sum + ys.length * a.length ≤ 16777216 ∧ Q (.str (Txt.join a ys)) H) mJoin := fun Fr S ι R H d ds x xs Q E ab r rs w => by
  match ds, rs, w with
  | [], _, w => cases d <;> exact w.elim
  | [e], rs, w =>
    obtain ⟨u, rfl, re⟩ := repL1 rs
    cases d with
    | str z =>
      unfold mJoin at w
      dsimp only at w
      cases h1 : asS e S with
      | none => rw [h1] at w; exact w.elim
      | some es =>
        rw [h1] at w
        dsimp only [Option.bind] at w
        cases h2 : txs es with
        | none => rw [h2] at w; exact w.elim
        | some ys =>
          rw [h2] at w
          dsimp only at w
          obtain ⟨a, vs, rfl, sq, rv⟩ := asS_ok ab re h1
          have e3 := txs_ok h2 rv
          subst e3
          rw [rep_str r]
          by_cases hc : (ys.map (·.length)).sum + ys.length * z.length ≤ 16777216
          · rw [if_pos hc] at w
            exact ⟨z, a, ys, rfl, rfl, sq, hc, w.ok ab str_rep⟩
          · rw [if_neg hc] at w
            exact w.elim
    | _ => exact w.elim
  | e :: e2 :: _, _, w => cases d <;> exact w.elim
theorem de_join (ho : DE X W o go) (ha : DA X W [e] g) (hbase : attributeBase o "join" X.env (eval o X.env) = eval o X.env := by rfl)
    (hfew : ((backTo cpos (starEach [e] X.env)).all (fun x => !x.1) && (backToKw cpos (keywordEach [] X.env)).all (fun x => x.1.isSome)
      && decide (([e] : List Expr).length + ([] : List Keyword).length + (if ([] : List Keyword).isEmpty then 0 else 1) < 30)) = true := by rfl)
    (hline : (apos.endLine == cpos.line) = true := by rfl) (hs : starEach [e] X.env = (false, eval e X.env) :: starEach [] X.env := by rfl) (hplain : (backTo cpos (starEach [] X.env)).any (·.1) = false := by rfl) :
    DE X W (.Call (.Attribute o "join" apos) [e] [] cpos) (xBM isStr mJoin go g) := de_bm PySem.F.plainAttrs_str PySem.F.slot_str_join PySem.F.type_str_join mt_join join_sound chk_str ho ha hbase hfew hline hs hplain

/-! ### slices -/
abbrev LO := Lc → Store → Oc (Option Int × Store)
def relO : RelD (Option Int) (Option Int) := fun _ _ _ a b => b = a
abbrev DO (X : Cx) (W : WX) (e : Option Expr) (g : LO) : Prop := PO X e (cO relO X.K W g)
def oNone : LO := fun _ S => .ok (none, S)
def oSome (g : LE) : LO := fun δ S => (g δ S).bind fun d S1 => match d with
  | .int i => .ok (some i, S1)
  | _ => .bad
theorem PO.imp {X : Cx} {e : Option Expr} {t t' : TO} (h : PO X e t) (i : ∀ σ H Q, t' σ H Q → t σ H Q) : PO X e t' := ⟨fun p s σ H Q I q => h.run p s σ H Q I (i _ _ _ q)⟩
theorem do_none : DO X W none oNone := PO.imp po_none fun σ H Q ⟨δ, S, ι, R, Fr, ab, lo, w⟩ => wpO.ok (rel := relO) w ab rfl
theorem do_some (h : DE X W e ga) : DO X W (some e) (oSome ga) := PO.imp (po_some h) fun σ H Q w => cO.bind (rel := Rep X.K) (rel2 := relO) (f := fun d (_ : Lc) S1 => (match d with
  | .int i => .ok (some i, S1)
  | _ => .bad : Oc (Option Int × Store))) w fun d x δ S1 ι1 R1 Fr H1 ab lo r w1 => by
  cases d with
  | int i => exact ⟨i, rep_int r, wpO.ok (rel := relO) w1 ab rfl⟩
  | _ => exact w1.elim
def cutD (xs : List D) (lo hi : Option Int) : List D := (xs.drop (HT.sIx xs.length 0 lo)).take (HT.sIx xs.length xs.length hi - HT.sIx xs.length 0 lo)
theorem cut_rep {K : PySem.W.Frag} {R : Hp} {S : Store} {ι : Nat → Addr} {ds : List D} {xs : List V} (rs : RepL K R S ι ds xs) (lo hi : Option Int) : RepL K R S ι (cutD ds lo hi) (cutV xs lo hi) := by
  unfold cutD cutV
  rw [rs.length]
  exact (rs.drop _).take _
def sliceD (d : D) (lo hi : Option Int) (S : Store) : Oc (D × Store) := match d with
  | .str z => if z.length ≤ sizeLine then .ok (.str (cutS z lo hi), S) else .bad
  | .tup xs => if HT.sIx xs.length 0 lo = 0 ∧ HT.sIx xs.length xs.length hi = xs.length then .bad else .ok (.tup (cutD xs lo hi), S)
  | d => (match asL d S with
    | some xs => .ok (.lst (cutD xs lo hi), S)
    | none => .bad)
def rSlA (K : PySem.W.Frag) : V → Option Int → Option Int → Hp → VK → Prop := fun x lo hi H Q => rSlL K x lo hi H Q ∨ (rSlS x lo hi H Q ∨ rSlT K x lo hi H Q)
theorem sl_any : SlR X (rSlA X.K) := SlR.or sl_list (SlR.or sl_str sl_tup)
def xSl (o : LE) (l h : LO) : LE := fun δ S => (o δ S).bind fun d S1 => (l δ S1).bind fun i S2 => (h δ S2).bind fun j S3 => sliceD d i j S3
theorem slice_sound {K : PySem.W.Frag} {S : Store} {ι : Nat → Addr} {R H : Hp} {d : D} {x : V} {lo hi : Option Int} {Q : VK} {E : XK} (ab : Ab K Fr S ι R H) (r : Rep K R S ι d x) (w : wpO (Rep K) K Fr S ι R (sliceD d lo hi S) Q E) : rSlA K x lo hi H Q := by
  have go : wpO (Rep K) K Fr S ι R (match asL d S with | some xs => .ok (.lst (cutD xs lo hi), S) | none => .bad) Q E → rSlA K x lo hi H Q := fun w => by
    cases h : asL d S with
    | none => rw [h] at w; exact w.elim
    | some ds =>
      rw [h] at w
      obtain ⟨a, xs, rfl, q, rs⟩ := asL_ok ab r h
      exact .inl ⟨a, xs, rfl, q, fun p hp => new_lst ab (cut_rep rs lo hi) hp w⟩
  cases d with
  | str z =>
    have w : wpO (Rep K) K Fr S ι R (if z.length ≤ sizeLine then .ok (.str (cutS z lo hi), S) else .bad) Q E := w
    by_cases hl : z.length ≤ sizeLine
    · rw [if_pos hl] at w
      rw [rep_str r]
      exact .inr (.inl ⟨z, rfl, hl, w.ok ab str_rep⟩)
    · rw [if_neg hl] at w
      exact w.elim
  | tup ds =>
    have w : wpO (Rep K) K Fr S ι R (if HT.sIx ds.length 0 lo = 0 ∧ HT.sIx ds.length ds.length hi = ds.length then .bad else .ok (.tup (cutD ds lo hi), S)) Q E := w
    by_cases hl : HT.sIx ds.length 0 lo = 0 ∧ HT.sIx ds.length ds.length hi = ds.length
    · rw [if_pos hl] at w
      exact w.elim
    · rw [if_neg hl] at w
      obtain ⟨a, xs, rfl, q, rs⟩ := rep_tup ab r
      exact .inr (.inr ⟨a, xs, rfl, q, by rw [rs.length]; exact hl, fun p hp => new_tup ab (cut_rep rs lo hi) hp w⟩)
  | _ => exact go w
theorem de_slice {lo hi : Option Expr} {gl gh : LO} (ho : DE X W o go) (hl : DO X W lo gl) (hh : DO X W hi gh) : DE X W (.Subscript o (.Slice lo hi none p2) pos) (xSl go gl gh) :=
  PE.imp (pe_slice sl_any ho hl hh) fun σ H Q w => cO.bind (rel := Rep X.K) (rel2 := Rep X.K) (f := fun d δ S1 => (gl δ S1).bind fun i S2 => (gh δ S2).bind fun j S3 => sliceD d i j S3) w fun d x δ S1 ι1 R1 Fr H1 ab lo rx w1 =>
    ⟨δ, S1, ι1, R1, Fr, ab, lo, wpO.bind w1 fun i S2 i' ι2 R2 H2 st2 ab2 ei w2 => by
      obtain rfl : i' = i := ei
      exact ⟨δ, S2, ι2, R2, Fr, ab2, lo.step st2, wpO.bind w2 fun j S3 j' ι3 R3 H3 st3 ab3 ej w3 => by
        obtain rfl : j' = j := ej
        exact slice_sound ab3 ((rx.step st2).step st3) w3⟩⟩
/-- e[::-1] of a list -/
def dRev : F1 := fun d S => match asL d S with
  | some xs => .ok (.lst xs.reverse, S)
  | none => .bad
theorem RepL.reverse {K : PySem.W.Frag} {R : Hp} {S : Store} {ι : Nat → Addr} : ∀ {ds : List D} {xs : List V}, RepL K R S ι ds xs → RepL K R S ι ds.reverse xs.reverse
  | [], xs, r => by unfold RepL at r; subst r; exact repL_nil
  | d :: ds, xs, r => by
    unfold RepL at r
    obtain ⟨v, vs, rfl, r1, r2⟩ := r
    rw [List.reverse_cons, List.reverse_cons]
    exact (RepL.reverse r2).append (repL_cons r1 repL_nil)
theorem de_rev {j : Nat} {p1 p3 : Pos} (ha : DE X W e ga) : DE X W (.Subscript e (.Slice none none (some (.UnaryOp .USub (.Constant (.int 1) j p1) p2)) p3) pos) (x1 dRev ga) :=
  PE.imp (pe_revL ha) fun σ H Q w => cO.bind (rel := Rep X.K) (rel2 := Rep X.K) (f := fun d (_ : Lc) S1 => dRev d S1) w fun d x δ S1 ι1 R1 Fr H1 ab lo r w1 => by
    unfold dRev at w1
    cases h : asL d S1 with
    | none => rw [h] at w1; exact w1.elim
    | some ds =>
      rw [h] at w1
      obtain ⟨a, xs, rfl, q, rs⟩ := asL_ok ab r h
      exact ⟨a, xs, rfl, q, fun p hp => new_lst ab rs.reverse hp w1⟩

/-! ### x op= e -/
def sAug (i : Nat) (f : F2) (ge : LE) : LS := fun δ S => match δ[i]? with
  | some (some d) => bindE δ (ge δ S) fun e S1 => bindE δ (f d e S1) fun h S2 => .ok .nx (δ.set i (some h)) S2
  | _ => .bad
theorem ds_aug (i : Nat) {op : Operator} {r2 : R2} {f2 : F2} (h : Op2 X.K r2 f2) (hN : X.N.Nodup) (ho : OpR X (inplaceOp op) r2) (he : DE X W e ga) (hi : X.N[i]? = some x := by rfl) (hx : L2.Loc X.env.scope x := by first | exact Or.inl rfl | exact Or.inr rfl)
    (hf : X.fn x = true ∨ X.env.scope.names.lookup x = some .local := by first | exact .inl rfl | exact .inr rfl | assumption) : DS X W (.AugAssign (.Name x p) op e pos) (sAug i f2 ga) :=
  PS.imp (ps_aug hN hi hx he (fun pins s σ H x y v u Q I rx ry q => ho pins s σ H x y v u Q I rx ry q) hf) fun D σ H ⟨δ, S, ι, R, Fr, ab, lo, w⟩ => by
    unfold sAug at w
    cases e1 : δ[i]? with
    | none => simp only [e1] at w; exact w.elim
    | some od =>
      cases od with
      | none => simp only [e1] at w; exact w.elim
      | some d =>
        simp only [e1] at w
        obtain ⟨v, e2, r⟩ := lo.2 i d e1
        refine ⟨v, e2, δ, S, ι, R, Fr, ab, lo, wpS.bindE (rel := Rep X.K) w lo fun e S1 y ι1 R1 H1 st1 ab1 ry w1 => ?_⟩
        exact h Fr S1 ι1 R1 H1 d e v y _ _ ab1 (r.step st1) ry (wpS.bindE (rel := Rep X.K) w1 (lo.step st1) fun hh S2 z ι2 R2 H2 st2 ab2 rz w2 => w2 (σ.set i (some z)) ι2 R2 H2 .refl ab2 (((lo.step st1).step st2).set rz i))
theorem iop_fdivW : OpR X (inplaceOp .FloorDiv) (rI CDivW fun i j => .int (i / j)) := opI fun i j _ _ _ _ _ hc q => by
  have h1 : (0 : Int) < j := hc.1
  exact PyProof.Rows.ifloordiv_int (by omega) (by rw [Int.fdiv_eq_ediv_of_nonneg i (by omega)]; exact q) (.inl (PyProof.noPylong_of_log2 hc.2))
theorem ds_augDiv (i : Nat) (hN : X.N.Nodup) (he : DE X W e ga) (hi : X.N[i]? = some x := by rfl) (hx : L2.Loc X.env.scope x := by first | exact Or.inl rfl | exact Or.inr rfl)
    (hf : X.fn x = true ∨ X.env.scope.names.lookup x = some .local := by first | exact .inl rfl | exact .inr rfl | assumption) : DS X W (.AugAssign (.Name x p) .FloorDiv e pos) (sAug i dFdiv ga) := ds_aug i (iC_sound fun _ _ => ki) hN iop_fdivW he hi hx hf
theorem ds_augSub (i : Nat) (hN : X.N.Nodup) (he : DE X W e ga) (hi : X.N[i]? = some x := by rfl) (hx : L2.Loc X.env.scope x := by first | exact Or.inl rfl | exact Or.inr rfl)
    (hf : X.fn x = true ∨ X.env.scope.names.lookup x = some .local := by first | exact .inl rfl | exact .inr rfl | assumption) : DS X W (.AugAssign (.Name x p) .Sub e pos) (sAug i dSub ga) := ds_aug i (i0_sound fun _ _ => ki) hN iop_sub he hi hx hf
def dIAdd : F2 := fun d e S => match d, e with
  | .int i, .int j => .ok (.int (i + j), S)
  | .str x, .str y => if x.length + y.length ≤ sizeLine then .ok (.str (x ++ y), S) else .bad
  | _, _ => .bad
theorem iadd_sound {K : PySem.W.Frag} : Op2 K (fun x y H Q => rI0 (fun i j => .int (i + j)) x y H Q ∨ (∃ i j, x = .str i ∧ y = .str j ∧ i.length + j.length ≤ sizeLine ∧ Q (.str (i ++ j)) H)) dIAdd := fun Fr S ι R H d e x y Q E ab rx ry w => by
  cases d with
  | int i =>
    cases e with
    | int j => rw [rep_int rx, rep_int ry]; exact .inl ⟨i, j, rfl, rfl, w.ok ab int_rep⟩
    | _ => exact w.elim
  | str i =>
    cases e with
    | str j =>
      have w : wpO (Rep K) K Fr S ι R (if i.length + j.length ≤ sizeLine then .ok (.str (i ++ j), S) else .bad) Q E := w
      by_cases hl : i.length + j.length ≤ sizeLine
      · rw [if_pos hl] at w
        rw [rep_str rx, rep_str ry]
        exact .inr ⟨i, j, rfl, rfl, hl, w.ok ab str_rep⟩
      · rw [if_neg hl] at w
        exact w.elim
    | _ => exact w.elim
  | _ => exact w.elim
theorem ds_augAdd (i : Nat) (hN : X.N.Nodup) (he : DE X W e ga) (hi : X.N[i]? = some x := by rfl) (hx : L2.Loc X.env.scope x := by first | exact Or.inl rfl | exact Or.inr rfl)
    (hf : X.fn x = true ∨ X.env.scope.names.lookup x = some .local := by first | exact .inl rfl | exact .inr rfl | assumption) : DS X W (.AugAssign (.Name x p) .Add e pos) (sAug i dIAdd ga) := ds_aug i iadd_sound hN (OpR.or iop_add iop_add_str) he hi hx hf
end
end DL

set_option Elab.async false
set_option linter.all false
set_option maxRecDepth 100000
set_option maxHeartbeats 4000000
namespace DL
open PySem PySem.Spec L2
variable {Fr : Hp}
/-! ### the head's facts: defs, named facts, one more Bool -/
abbrev AlX : Type := He.AlD × Bool
def obsX (fa : List He.Fa) (fn : List He.DefD) (chk : PySem.W.Frag → Bool) (K : PySem.W.Frag) : AlX := (He.obsD fa fn K, chk K)
def obsXG (n : Nat) (fa : List He.Fa) (fn : List He.DefD) (chk : PySem.W.Frag → Bool) (g : Addr → Option Obj) : AlX := obsX fa fn chk (He.frG g (He.asD g n))
def hookX (n : Nat) (fa : List He.Fa) (fn : List He.DefD) (chk : PySem.W.Frag → Bool) : PySem.W.Hook where
  α := AlX
  obs := fun s => obsXG n fa fn chk s.heap.get?
  val := fun _ => (He.valD fn, true)
  says := fun _ h => ∃ K : PySem.W.Frag, K.In h ∧ He.SaysD fa fn K ∧ chk K = true
  of := fun _ _ e => ⟨_, He.frG_in, congrArg (fun z : AlX => z.1) e, congrArg (fun z : AlX => z.2) e⟩
  keeps := fun _ _ _ ⟨K, hK, c⟩ k => ⟨K, PySem.W.Frag.In.keeps hK k, c⟩
theorem obsXG_eq {n : Nat} {fa : List He.Fa} {fn : List He.DefD} {chk : PySem.W.Frag → Bool} {g : Addr → Option Obj} {s : Shared} (h : ∀ a, g a = s.heap.get? a) : obsXG n fa fn chk g = (hookX n fa fn chk).obs s := by
  have e : g = s.heap.get? := funext h
  rw [e] <;> rfl
/-! ### facts of classes -/
def isiCB (K : PySem.W.Frag) (C : Addr) : Bool := He.eqO (PySem.W.findIn K (.ref C) "__class__") (some (some (.builtin "object.__class__"))) && (He.eqO (PySem.W.specialIn K (.builtin "object.__class__") "__get__") (some (some (.builtin "getset_descriptor.__get__"))) && (decide (PySem.W.takesIn K (.builtin "object.__class__") = some true) && (decide (PySem.W.mroIn K C (.type "object") = some true) &&
  ((["int", "bool", "str", "list", "tuple", "dict"].all fun T => decide (PySem.W.kitOne K (.ref C) (.type T) = some false)) && (["NoneType", "bool", "int", "str", "list", "tuple", "dict"].all fun T => decide (PySem.W.kitOne K (.type T) (.ref C) = some false))))))
theorem isiCB_ok {K : PySem.W.Frag} {C : Addr} (h : isiCB K C = true) : IsiC K C := by
  obtain ⟨h1, h⟩ := He.ba h
  obtain ⟨h2, h⟩ := He.ba h
  obtain ⟨h3, h⟩ := He.ba h
  obtain ⟨h4, h⟩ := He.ba h
  obtain ⟨h5, h6⟩ := He.ba h
  exact ⟨He.eqO_ok h1, He.eqO_ok h2, of_decide_eq_true h3, of_decide_eq_true h4, fun T hT => of_decide_eq_true (List.all_eq_true.mp h5 T hT), fun T hT => of_decide_eq_true (List.all_eq_true.mp h6 T hT)⟩
def mkCB (K : PySem.W.Frag) (c : Str) (ns : List Str) : Bool := (He.Fa.cls c).ok K && (isiCB K (He.ga K c) && ((ns.all fun f => (He.Fa.noat c f).ok K) && (decide ns.Nodup && decide (ns.length ≤ 900))))
theorem mkCB_ok {K : PySem.W.Frag} {c : Str} {ns : List Str} (h : mkCB K c ns = true) : MkC K c ns := by
  obtain ⟨h1, h⟩ := He.ba h
  obtain ⟨h2, h⟩ := He.ba h
  obtain ⟨h3, h⟩ := He.ba h
  obtain ⟨h4, h5⟩ := He.ba h
  exact ⟨He.cls_ok h1, isiCB_ok h2, fun f hf => He.noat_ok (List.all_eq_true.mp h3 f hf), of_decide_eq_true h4, of_decide_eq_true h5⟩
/-- an error with its own __init__ of one field: all that raising it asks -/
def excB (K : PySem.W.Frag) (c f : Str) : Bool := oexB K (He.ga K c) && (He.eqO (PySem.W.findIn K (.ref (He.ga K c)) "__init__") (some (some (.ref (He.ma K (He.ga K c) "__init__")))) && (decide (PySem.W.typeIn K (.ref (He.ma K (He.ga K c) "__init__")) = some (.type "function")) && He.eqO (PySem.W.findIn K (.ref (He.ga K c)) f) (some none)))
structure ExcF (K : PySem.W.Frag) (c f : Str) : Prop where
  T : OexC K (He.ga K c)
  iC : PySem.W.findIn K (.ref (He.ga K c)) "__init__" = some (some (.ref (He.ma K (He.ga K c) "__init__")))
  tI : PySem.W.typeIn K (.ref (He.ma K (He.ga K c) "__init__")) = some (.type "function")
  nf : PySem.W.findIn K (.ref (He.ga K c)) f = some none
theorem excB_ok {K : PySem.W.Frag} {c f : Str} (h : excB K c f = true) : ExcF K c f := by
  obtain ⟨h1, h⟩ := He.ba h
  obtain ⟨h2, h⟩ := He.ba h
  obtain ⟨h3, h4⟩ := He.ba h
  exact ⟨oexB_ok h1, He.eqO_ok h2, of_decide_eq_true h3, He.eqO_ok h4⟩
/-! ### a module's constants: trees of the written part -/
def kLeaf : Value → D → Bool
  | .none, .non => true
  | .bool b, .bl c => b == c
  | .int i _, .int j => decide (i = j)
  | .str x _, .str y => decide (x = y)
  | _, _ => false
def kAll (f : Value → D → Bool) : List Value → List D → Bool
  | [], [] => true
  | u :: us, d :: ds => f u d && kAll f us ds
  | _, _ => false
/-- a written value as a tree -/
def kTree (K : PySem.W.Frag) : Nat → Value → D → Bool
  | 0, u, d => kLeaf u d
  | n + 1, u, d => (match u, d with
    | .ref a, .tup ds => (match K.lookup a with
      | some ⟨.type c, _, .seq its _, _⟩ => decide (c = "tuple") && (decide (its.size ≤ sizeLine) && kAll (kTree K n) its.toList ds)
      | _ => false)
    | u, d => kLeaf u d)
theorem kLeaf_ok {K : PySem.W.Frag} {u : Value} {d : D} (h : kLeaf u d = true) : ∃ v, RelV v u ∧ Konst K d v := by
  cases u <;> cases d <;> first
    | (cases h; done)
    | exact ⟨.non, rfl, kn⟩
    | (have e := eq_of_beq h; subst e; exact ⟨.bl _, rfl, kb⟩)
    | (have e := of_decide_eq_true h; subst e; exact ⟨.int _, ⟨_, rfl⟩, ki⟩)
    | (have e := of_decide_eq_true h; subst e; exact ⟨.str _, ⟨_, rfl⟩, ks⟩)
theorem kAll_ok {K : PySem.W.Frag} {f : Value → D → Bool} (hf : ∀ u d, f u d = true → ∃ v, RelV v u ∧ Konst K d v) : ∀ {us : List Value} {ds : List D}, kAll f us ds = true → ∃ vs, Vals vs us ∧ KonstL K ds vs
  | [], [], _ => ⟨[], .nil, konstL_nil⟩
  | [], _ :: _, h => by cases h
  | _ :: _, [], h => by cases h
  | u :: us, d :: ds, h => by
    obtain ⟨h1, h2⟩ := He.ba h
    obtain ⟨v, r, k⟩ := hf u d h1
    obtain ⟨vs, rs, ks⟩ := kAll_ok hf h2
    exact ⟨v :: vs, .cons r rs, konstL_cons k ks⟩
theorem kTree_ok {K : PySem.W.Frag} : ∀ {n : Nat} {u : Value} {d : D}, kTree K n u d = true → ∃ v, RelV v u ∧ Konst K d v
  | 0, _, _, h => kLeaf_ok h
  | n + 1, u, d, h => by
    unfold kTree at h
    split at h
    · rename_i a ds
      split at h
      · rename_i c dd its m sl q
        obtain ⟨h1, h⟩ := He.ba h
        obtain ⟨h2, h3⟩ := He.ba h
        obtain ⟨vs, rs, ks⟩ := kAll_ok (fun _ _ => kTree_ok) h3
        refine ⟨.ref a, rfl, fun R S ι => ?_⟩
        unfold Rep
        exact ⟨a, vs, rfl, .inr ⟨_, its, m, q, congrArg Value.type (of_decide_eq_true h1), rfl, of_decide_eq_true h2, rs⟩, ks R S ι⟩
      · cases h
    · exact kLeaf_ok h
def konB (K : PySem.W.Frag) (x : Str) (d : D) : Bool := match PySem.W.nsIn K mainGlobals x with
  | some (some u) => kTree K 4 u d
  | _ => false
structure Kon (K : PySem.W.Frag) (mg : Str → Option Value) (x : Str) (d : D) : Prop where
  ex : ∃ u v, mg x = some u ∧ RelV v u ∧ Konst K d v
theorem konB_ok {K : PySem.W.Frag} {h : Heap} {mg : Str → Option Value} (X : K.In h) (G : h.Ns mainGlobals mg) {x : Str} {d : D} (c : konB K x d = true) : Kon K mg x d := by
  unfold konB at c
  cases e : PySem.W.nsIn K mainGlobals x with
  | none => rw [e] at c; cases c
  | some o =>
    rw [e] at c
    cases o with
    | none => cases c
    | some u =>
      obtain ⟨v, r, k⟩ := kTree_ok c
      exact ⟨u, v, PySem.W.mg_of X G e, r, k⟩
theorem de_kon {X : Cx} {W : WX} {x : Str} {d : D} {pos : Pos} (k : Kon X.K X.mg x d) (hg : Gl X x := by rfl) (hd : (x == ("__debug__" : Str)) = false := by decide) : DE X W (.Name x pos) (xC d) := by
  obtain ⟨u, v, h1, h2, h3⟩ := k.ex
  exact de_glob hg h1 h2 h3 hd
/-- how a call of so many written arguments binds, the defaults' values behind them -/
def Bnd (K : PySem.W.Frag) (fd : FuncData) (ps : List Str) (dvs : List V) : Prop := ∃ ds, Vals dvs ds ∧ Binds K fd ps ds
/-- a class that is made -/
def mkrB (K : PySem.W.Frag) (c : Str) : Bool := (He.Fa.mkr c).ok K
theorem ctc_lo {X : Cx} {W : WX} {j k : Nat} (c : Ctc X W k) (h : j ≤ k) : Ctc X W j := ⟨c.hr.mono h, c.tk, c.calm, c.nd⟩
theorem raises_of {X : Cx} {C : Addr} (T : OexC X.K C) : Raises X (.ref C) := raises_own T.exC T.tyC
/-- the law's promise from its meaning -/
theorem law_sp {K : PySem.W.Frag} {F : Fn} (hF : ∀ ns : List Int, ns.length ≤ 63 → ∃ S', F [.fln (ns.map D.int)] [] = .ok (.bl true, S')) (H : Hp) (a : Addr) (ns : List Int) (hl : ns.length ≤ 63) (hS : SqL K H a (ns.map V.int)) :
    SpD K 1 F [.ref a] H (fun v _ => v = .bl true) (fun _ _ _ => False) := by
  obtain ⟨S', e⟩ := hF ns hl
  have intsR : ∀ ns : List Int, RepL K H [] (fun _ => 0) (ns.map D.int) (ns.map V.int) := fun ns => by
    induction ns with
    | nil => exact repL_nil
    | cons n ns ih => exact repL_cons int_rep ih
  refine ⟨rfl, [.fln (ns.map D.int)], [], fun _ => 0, H, fun _ => none, ⟨fun _ _ h => (nomatch h), fun _ _ h => (nomatch h), fun _ _ _ _ h => (nomatch h), fun _ _ h => h, fun n c h => by simp at h, fun n c h => by simp at h, fun n m c c' h => by simp at h⟩, repL_cons ?_ repL_nil, ?_⟩
  · unfold Rep
    exact ⟨a, _, rfl, hS, intsR ns⟩
  · rw [e]
    exact fun v ι' R' H' st ab r => rep_bl r
end DL

set_option Elab.async false
set_option linter.all false
set_option maxRecDepth 100000
set_option maxHeartbeats 4000000
namespace DL
open PySem PySem.Spec L2
section
variable {X : Cx} {W : WX} {k : Nat} {a b c : Expr} {ga gb gc : LE} {pos : Pos}
theorem de_chain2 {op op' : CmpOp} {r r' : R2} {f f' : F2} (h : ∀ {K : PySem.W.Frag}, Op2 K r f) (h' : ∀ {K : PySem.W.Frag}, Op2 K r' f') (ho : OpR X (compareOp op) r) (ho' : OpR X (compareOp op') r') (ha : DE X W a ga) (hb : DE X W b gb) (hc : DE X W c gc)
    (hm : lastMarks [op, op'] [b, c] = false := by with_unfolding_all rfl) : DE X W (.Compare a [op, op'] [b, c] pos) (xChain f f' ga gb gc) := PE.imp (pe_chain ho ho' ha hb hc hm) (chain_read h h')
theorem dt_chain2 {op op' : CmpOp} {r r' : R2} {f f' : F2} (h : ∀ {K : PySem.W.Frag}, Op2 K r f) (h' : ∀ {K : PySem.W.Frag}, Op2 K r' f') (ho : OpR X (compareOp op) r) (ho' : OpR X (compareOp op') r') (ha : DE X W a ga) (hb : DE X W b gb) (hc : DE X W c gc)
    (hm : lastMarks [op, op'] [b, c] = false := by with_unfolding_all rfl) : DT X W (.Compare a [op, op'] [b, c] pos) (tB (xChain f f' ga gb gc)) := PT.imp (pt_chain ho ho' ha hb hc hm) fun σ H Q w => by
  have z := tB_read σ H Q w
  unfold tTest at z ⊢
  exact chain_read h h' σ H _ z
end
theorem walk_ofX {l : PySem.W.OpenLaw} {n k : Nat} {q : Program} {loose : List Str} {XP : (Str → Option Value) → Heap → Prop} {YP : World → Heap → Prop} {d : DefRec} {x : Str}
    (hn : l.most = some n) (hn2 : n ≤ sizeLine) (hdf : d.params.defaults = []) (hr : Room k callerA)
    (F : ∀ (w : World) (mg : Str → Option Value) (fa : Addr) (h : Heap), YP w h → h.Ns mainGlobals mg → mg d.name = some (.ref fa) →
      ∃ (K : PySem.W.Frag) (fd : FuncData) (sp : Sp), K.In h ∧ (∀ (s : Shared) (u : Value), BindsTo s fd ⟨[u], []⟩ [(x, u)]) ∧
        (∀ (H : Hp) (a : Addr) (ns : List Int), ns.length ≤ n → Only H → SqL K H a (ns.map V.int) → sp [.ref a] H (fun v _ => v = .bl true) fun _ _ _ => False) ∧
        ∀ base : Heap, K.In base → base.Ns mainGlobals mg → FnOk l.prog w K mg base (L2.CX l.prog w) k fa fd [x] sp) :
    PySem.W.WalkO q loose XP YP l.row.toRowW d [] (fun f vs => PySem.call f vs) := by
  refine Att.attach_call hn hdf fun w s₀ s₁ mg mb fa o pm cd doc a vs ns G Y ho hd hcd hmg hobj hints hlen hg => ?_
  obtain ⟨K, fd, sp, KX, hb, hsp, hF⟩ := F w mg fa _ Y G.T.g hmg
  refine law_call KX G.T.g G.T.b G.T.builtins G.T.nolimit hg hobj hints (Nat.le_trans hlen hn2) hr hF hb (fun H hO hS => hsp H a ns hlen hO hS) fun H e s' h => ?_
  obtain ⟨_, _, _, _, _, _, _, _, _, _, _, _, z⟩ := h
  exact z.elim
end DL

set_option Elab.async false
set_option linter.all false
set_option maxRecDepth 100000
set_option maxHeartbeats 4000000
/-! try .. except in the D-layer (own work; the class question of a caught error with fields after the kit's of one without). -/
namespace PySem.W
open PySem PySem.Spec PySem.Calls PyProof.Rows
section
variable {prog : Program} {w : World} {A : Around} {E : Value → Shared → Prop} {s : Shared} {K : Frag} {x D : Addr} {ox : Obj} {dk : Option Obj}
theorem dl_findObj {C : Addr} {nm : Str} {at_ gt_ : Value} (h0 : (clsIn K C).isSome = true) (h1 : findIn K (.ref C) nm = some (some at_)) (h2 : specialIn K at_ "__get__" = some (some gt_)) (h3 : takesIn K at_ = some true) : findObj K C dk nm = some (.bind gt_ at_) := by
  obtain ⟨q, e⟩ := Option.isSome_iff_exists.mp h0
  unfold findObj
  rw [e, Option.bind_some, h1, Option.bind_some]
  simp [h2, h3]
theorem dl_class {Q : Option Value → Shared → Prop} (k1 : findIn K (.ref D) "__getattribute__" = some (some (.builtin "BaseException.__getattribute__"))) (k2 : findIn K (.ref D) "__getattr__" = some none) (k3 : subIn K (.ref D) (.type "BaseException") = some true)
    (k4 : hasDictIn K D = true) (k5 : findIn K (.ref D) "__class__" = some (some (.builtin "object.__class__")))
    (k6 : specialIn K (.builtin "object.__class__") "__get__" = some (some (.builtin "getset_descriptor.__get__"))) (k7 : takesIn K (.builtin "object.__class__") = some true) (k8 : mroIn K D (.type "object") = some true)
    (X : K.In s.heap) (I : InstAt s.heap x ox D dk) (q : Q (some (.ref D)) { s with toks := s.toks + 1 }) : wpAny (model prog w) A (getAttr? (.ref x) "__class__") Q E s := by
  have k9 : findObj K D dk "__class__" = some (.bind (.builtin "getset_descriptor.__get__") (.builtin "object.__class__")) := dl_findObj (by obtain ⟨cd, hc, _⟩ := any_some k4; rw [hc]; rfl) k5 k6 k7
  obtain ⟨hp, gg, dd, tt, oo⟩ := s
  have T0 := I.type (M := model prog w)
  have T1 := looks_findIn (M := model prog w) X k1
  have T2 := looks_findIn (M := model prog w) X k2
  have T3 := looks_find (M := model prog w) X I k9
  have T4 : Looks (model prog w) hp (isInstance (.ref x) (.type "BaseException")) true := T0.andThen (looks_subIn X k3)
  have z0 : (false && onTheHeap (Value.builtin "BaseException.__getattribute__")) = false := rfl
  have z2 : (Value.builtin "BaseException.__getattribute__" == Value.builtin "object.__getattribute__") = false := by decide +kernel
  have z1 : (onTheHeap (Value.ref D) && Value.builtin "BaseException.__getattribute__" == Value.builtin "object.__getattribute__") = false := by rw [z2]; rfl
  unfold getAttr? getAttrBy? getAttrBy
  refine wpAny_bind (wpAny_mkText (wpAny_bind (wpAny_attempt (wpAny_holding (wpAny_bind (T0.at (wpAny_bind (T1.at ?_))))))))
  show wpAny _ _ (if (onTheHeap (Value.ref D) && Value.builtin "BaseException.__getattribute__" == Value.builtin "object.__getattribute__") = true then _ else _) _ _ _
  rw [z1, if_neg Bool.false_ne_true]
  unfold getAttrByItsOwn hookBefore
  refine wpAny_bind ?_
  rw [if_pos (show onTheHeap (Value.ref D) = true from rfl)]
  refine T2.at ?_
  refine wpAny_bind (wpAny_attempt (wpAny_holding ?_))
  unfold callGetattribute
  rw [z0, if_neg Bool.false_ne_true]
  unfold boundAndCalled
  rw [PySem.F.excAttr_ValueError.ga.bind (.ref x)]
  refine wpAny_bind (wpAny_pure ?_)
  show wpAny _ _ (call (.builtin "BaseException.__getattribute__") [.ref x, .str "__class__" tt]) _ _ _
  refine wpAny_call (codeAny_call_builtin PySem.F.excAttr_ValueError.ga.plain PySem.F.entry_bexc_ga ?_)
  refine @check_slot (model prog w) _ _ ⟨hp, gg, dd, tt + 1, oo⟩ "BaseException.__getattribute__" "BaseException" "__getattribute__" (.ref x) [.str "__class__" tt] [] _ (by decide +kernel) (by decide +kernel) T4 (PySem.F.args_bexc_ga (.ref x) (.str "__class__" tt)) ?_
  unfold Builtin.«object.__getattribute__»
  refine wpAny_bind (wpAny_of_eq (a := ((Value.ref x : Value), [Value.str "__class__" tt])) (by first | rfl | (simp only [slotArgs]; rfl)) ?_)
  refine wpAny_bind (wpAny_pure (wpAny_bind (T0.at (wpAny_bind (T3.at ?_)))))
  show wpAny _ _ (holding [Value.builtin "object.__class__"] (call (.builtin "getset_descriptor.__get__") [.builtin "object.__class__", .ref x, .ref D]) >>= ret) _ _ _
  refine wpAny_bind (wpAny_holding (wpAny_call (class_get (s := ⟨hp, gg, dd, tt + 1, oo⟩) (ox := ox) (od := dk) X I k8 ?_)))
  refine wpAny_pure ?_
  show wpAny _ _ (handedOut (.ref D)) _ _ _
  rw [handedOut_of (v := .ref D) rfl]
  first
    | exact wpAny_pure (wpAny_pure q)
    | exact wpAny_pure q
    | exact wpAny_pure (wpAny_bind (wpAny_pure (wpAny_pure q)))
theorem dl_kitx (c : L2.ExcC K D) : KitX K (.ref x) (.ref D) (fun h => InstAt h x ox D dk) where
  ty := fun _ _ _ I => I.type
  it := fun _ _ X _ => by
    obtain ⟨q, hq, _⟩ := any_some c.hd
    unfold clsIn at hq
    split at hq
    · rename_i o1 o2 o3 o4 ho
      intro A1 Q1 E1 s1 k1 q1
      unfold isType loadHead
      exact wpAny_bind (wpAny_loadPart (k1 _ _ (X _ _ ho)) (wpAny_pure q1))
    · cases hq
  ne := fun h tp dd its n sl X htp => by
    obtain ⟨q, hq, _⟩ := any_some c.hd
    refine Bool.eq_false_iff.mpr fun qq => ?_
    have e : D = tp := Value.ref.inj (beq_iff_eq.mp qq)
    subst e
    unfold clsIn at hq
    split at hq
    · rename_i o1 o2 o3 o4 ho
      have z := (X _ _ ho).symm.trans htp
      cases z
    · cases hq
  ca := fun X I k => dl_class c.hg c.hk c.hs c.hd c.ha c.hn c.ht c.hm X I k
end
end PySem.W
namespace DL
open PySem PySem.Spec L2
variable {Fr : Hp}
/-! ### isinstance of the caught one -/
/-- the suite's exception as an instance -/
theorem exc_inst {X : Cx} {a C : Addr} {oe : Obj} {d : Option Addr} {pn pins : List (Addr × Obj)} {σ : L2.St} {H : Hp} {s : Shared} (I : Inv (X.suite a ((a, oe) :: pn)) pins σ H s) (hz : Zc (.ref C) d oe) (hf : ∃ vs, oe.data = .fields vs)
    (hd : d = none ∨ ∃ dd fs, d = some dd ∧ H dd = some (.xd fs)) : ∃ od, PySem.W.InstAt s.heap a oe C od := by
  obtain ⟨ha, _⟩ := I.pin (a, oe) (List.mem_append_left _ List.mem_cons_self)
  obtain ⟨vs, hv⟩ := hf
  rcases hd with rfl | ⟨dd, fs, rfl, ea⟩
  · exact ⟨none, ha, hz.1, by unfold PySem.W.notCls; rw [hv] <;> rfl, by rw [hz.2]; trivial⟩
  · have hx : ObjOk X.prog X.w H s.heap dd (.xd fs) := I.hok dd _ ea
    obtain ⟨mA, hns, hr⟩ := hx
    obtain ⟨od, ho, hl⟩ := lookIn_ns hns
    exact ⟨some od, ha, hz.1, by unfold PySem.W.notCls; rw [hv] <;> rfl, by rw [hz.2]; exact ho⟩
def rIsX (K : PySem.W.Frag) (C a : Addr) (d : Option Addr) : List V → Hp → VK → Prop := fun xs H Q => (d = none ∨ ∃ dd fs, d = some dd ∧ H dd = some (.xd fs)) ∧ ∃ b, ((∃ (c : V) (cv : Value), xs = [.ref a, c] ∧ ClsV c cv ∧ PySem.W.kitOne K (.ref C) cv = some b) ∨
  (∃ (tp : Addr) (cs : List V) (us : List Value), xs = [.ref a, .ref tp] ∧ H tp = some (.tup cs) ∧ Paired ClsV cs us ∧ PySem.W.kitAny K (.ref C) us = some b)) ∧ Q (.bl b) H
theorem call_isX {X : Cx} {a C : Addr} {oe : Obj} {d : Option Addr} {pn : List (Addr × Obj)} (T : ExcC X.K C) (hz : Zc (.ref C) d oe) (hf : ∃ vs, oe.data = .fields vs) : CallR (X.suite a ((a, oe) :: pn)) (.builtin "isinstance") (rIsX X.K C a d) := by
  intro pins s σ H xs us Q I r h
  obtain ⟨hd, b, hc, q⟩ := h
  obtain ⟨od, J⟩ := exc_inst I hz hf hd
  rcases hc with ⟨c, cv, rfl, k, e⟩ | ⟨tp, cs, ws, rfl, hT, k, e⟩
  · obtain ⟨u1, u2, rfl, r1, r2⟩ := vals2 r
    have e2 := k.eq r2
    subst e2
    obtain rfl : u1 = Value.ref a := r1
    exact PySem.W.kia_one (PySem.W.dl_kitx T) I.kIn J e (fun z => nomatch z) fun tk => ⟨.bl b, H, I.tok tk, rfl, q⟩
  · obtain ⟨u1, u2, rfl, r1, r2⟩ := vals2 r
    obtain rfl : u1 = Value.ref a := r1
    cases (show u2 = Value.ref tp from r2)
    obtain ⟨_, its, rv, o, h1, h2, n, h3⟩ := (show ObjOk X.prog X.w H s.heap tp (.tup cs) from I.hok tp _ hT)
    have e3 := ClsV.all k rv
    subst e3
    obtain ⟨oc, od2, dt, sl⟩ := o
    simp only at h2 h3
    subst h2 h3
    exact PySem.W.kia_tup (PySem.W.dl_kitx T) I.kIn J h1 e (fun z => nomatch z) fun tk => ⟨.bl b, H, I.tok tk, rfl, q⟩
/-- the caught one as a tree -/
def exnD (a : Addr) (d : Option Addr) (c : Str) (fs : XF) : D := match fs with
  | none => .exn a none c [] []
  | some (ns, ds) => .exn a d c ns ds
/-- the slot holds the caught one -/
def isExn (i : Nat) (a : Addr) (d : Option Addr) (c : Str) (δ : Lc) : Option (List Str × List D) := match δ[i]? with
  | some (some (.exn a' d' c' ns ds)) => if a' = a ∧ c' = c ∧ d' = d then some (ns, ds) else none
  | _ => none
theorem isExn_ok {K : PySem.W.Frag} {S : Store} {ι : Nat → Addr} {R H : Hp} {i : Nat} {a : Addr} {d : Option Addr} {c : Str} {δ : Lc} {σ : L2.St} {ns : List Str} {ds : List D} (ab : Ab K Fr S ι R H) (lo : Locs K R S ι δ σ) (e : isExn i a d c δ = some (ns, ds)) :
    σ[i]? = some (some (.ref a)) ∧ (ns = [] ∧ d = none ∨ ∃ dd xs, d = some dd ∧ H dd = some (.xd (ns.zip xs)) ∧ ns.length = ds.length ∧ RepL K R S ι ds xs) := by
  unfold isExn at e
  split at e
  · rename_i a' d' c' ns' ds' h
    split at e
    · rename_i hc
      cases e
      obtain ⟨v, h1, r⟩ := lo.2 i _ h
      unfold Rep at r
      obtain ⟨rfl, r⟩ := r
      obtain ⟨rfl, rfl, rfl⟩ := hc
      refine ⟨h1, ?_⟩
      rcases r with r | ⟨dd, xs, q1, q2, q3, q4⟩
      · exact .inl ⟨r.2, r.1⟩
      · exact .inr ⟨dd, xs, q1, ab.sub _ _ q2, q3, q4⟩
    · cases e
  · cases e
/-- isinstance(e, C) of the caught one: by a table -/
def xIsX (i : Nat) (a : Addr) (d : Option Addr) (c : Str) (sel : Str → Option Bool) : LE := fun δ S => match isExn i a d c δ with
  | some _ => (match sel c with
    | some b => .ok (.bl b, S)
    | none => .bad)
  | none => .bad
/-- e.f of the caught one -/
def xXf (i : Nat) (a : Addr) (d : Option Addr) (c f : Str) (ok : Str → Bool) : LE := fun δ S => match isExn i a d c δ with
  | some (ns, ds) => (match (ns.zip ds).lookup f with
    | some y => if ok c = true then .ok (y, S) else .bad
    | none => .bad)
  | none => .bad
/-- of a class all that isinstance of its caught instances asks -/
def excCB (K : PySem.W.Frag) (D : Addr) : Bool := He.eqO (PySem.W.findIn K (.ref D) "__getattribute__") (some (some (.builtin "BaseException.__getattribute__"))) && (He.eqO (PySem.W.findIn K (.ref D) "__getattr__") (some none) && (decide (PySem.W.subIn K (.ref D) (.type "BaseException") = some true) && (PySem.W.hasDictIn K D &&
  (He.eqO (PySem.W.findIn K (.ref D) "__class__") (some (some (.builtin "object.__class__"))) && (He.eqO (PySem.W.specialIn K (.builtin "object.__class__") "__get__") (some (some (.builtin "getset_descriptor.__get__"))) && (decide (PySem.W.takesIn K (.builtin "object.__class__") = some true) && decide (PySem.W.mroIn K D (.type "object") = some true)))))))
theorem excCB_ok {K : PySem.W.Frag} {D : Addr} (h : excCB K D = true) : ExcC K D := by
  obtain ⟨h1, h⟩ := He.ba h
  obtain ⟨h2, h⟩ := He.ba h
  obtain ⟨h3, h⟩ := He.ba h
  obtain ⟨h4, h⟩ := He.ba h
  obtain ⟨h5, h⟩ := He.ba h
  obtain ⟨h6, h⟩ := He.ba h
  obtain ⟨h7, h8⟩ := He.ba h
  exact ⟨He.eqO_ok h1, He.eqO_ok h2, of_decide_eq_true h3, h4, He.eqO_ok h5, He.eqO_ok h6, of_decide_eq_true h7, of_decide_eq_true h8⟩
/-- a table of classes, right by kitOne (isinstance) -/
def selK (l : List (Str × Bool)) : Str → Option Bool := fun c => l.lookup c
def isTabB (K : PySem.W.Frag) (l : List (Str × Bool)) (cv : Value) : Bool := l.all fun p => excCB K (He.ga K p.1) && decide (PySem.W.kitOne K (.ref (He.ga K p.1)) cv = some p.2)
structure IsTab (K : PySem.W.Frag) (l : List (Str × Bool)) (cv : Value) : Prop where
  at_ : ∀ c b, selK l c = some b → ExcC K (He.ga K c) ∧ PySem.W.kitOne K (.ref (He.ga K c)) cv = some b
theorem lookup_mem : ∀ {l : List (Str × Bool)} {c : Str} {b : Bool}, l.lookup c = some b → (c, b) ∈ l
  | [], _, _, h => by cases h
  | (x, y) :: l, c, b, h => by
    by_cases e : c = x
    · subst e
      rw [List.lookup_cons_self] at h
      cases h
      exact List.mem_cons_self ..
    · rw [List.lookup_cons, beq_false_of_ne e] at h
      exact List.mem_cons_of_mem _ (lookup_mem h)
theorem isTabB_ok {K : PySem.W.Frag} {l : List (Str × Bool)} {cv : Value} (h : isTabB K l cv = true) : IsTab K l cv := ⟨fun c b e => by
  have z := List.all_eq_true.mp h _ (lookup_mem e)
  obtain ⟨h1, h2⟩ := He.ba z
  exact ⟨excCB_ok h1, of_decide_eq_true h2⟩⟩
/-- .. by exmOne (an except clause) -/
def exTabB (K : PySem.W.Frag) (l : List (Str × Bool)) (cv : Value) : Bool := l.all fun p => decide (PySem.W.exmOne K (.ref (He.ga K p.1)) cv = some p.2)
structure ExTab (K : PySem.W.Frag) (l : List (Str × Bool)) (cv : Value) : Prop where
  at_ : ∀ c b, selK l c = some b → PySem.W.exmOne K (.ref (He.ga K c)) cv = some b
theorem exTabB_ok {K : PySem.W.Frag} {l : List (Str × Bool)} {cv : Value} (h : exTabB K l cv = true) : ExTab K l cv := ⟨fun c b e => of_decide_eq_true (List.all_eq_true.mp h _ (lookup_mem e))⟩
/-- fields of caught ones of these classes can be read -/
def xfTabB (K : PySem.W.Frag) (l : List Str) (f : Str) : Bool := l.all fun c => xfB K (He.ga K c) && He.eqO (PySem.W.findIn K (.ref (He.ga K c)) f) (some none)
structure XfTab (K : PySem.W.Frag) (l : List Str) (f : Str) : Prop where
  at_ : ∀ c, decide (c ∈ l) = true → XfC K (He.ga K c) ∧ PySem.W.findIn K (.ref (He.ga K c)) f = some none
theorem xfTabB_ok {K : PySem.W.Frag} {l : List Str} {f : Str} (h : xfTabB K l f = true) : XfTab K l f := ⟨fun c e => by
  obtain ⟨h1, h2⟩ := He.ba (List.all_eq_true.mp h c (of_decide_eq_true e))
  exact ⟨xfB_ok h1, He.eqO_ok h2⟩⟩
section
variable {X : Cx} {W : WX} {a : Addr} {oe : Obj} {d : Option Addr} {c : Str} {pn : List (Addr × Obj)} {x y : Str} {p p1 p2 pos : Pos} {i : Nat} {l : List (Str × Bool)}
theorem lookup_zip {K : PySem.W.Frag} {R : Hp} {S : Store} {ι : Nat → Addr} {f : Str} {yd : D} : ∀ {ns : List Str} {ds : List D} {xs : List V}, RepL K R S ι ds xs → (ns.zip ds).lookup f = some yd → ∃ v, (ns.zip xs).lookup f = some v ∧ Rep K R S ι yd v
  | [], _, _, _, h => by cases h
  | _ :: _, [], _, _, h => by cases h
  | n :: ns, d :: ds, xs, r, h => by
    unfold RepL at r
    obtain ⟨v, vs, rfl, r1, r2⟩ := r
    rw [List.zip_cons_cons] at h ⊢
    by_cases e : f = n
    · subst e
      rw [List.lookup_cons_self] at h ⊢
      cases h
      exact ⟨v, rfl, r1⟩
    · rw [List.lookup_cons, beq_false_of_ne e] at h ⊢
      exact lookup_zip r2 h
/-- classes by their names: own ones and the kit's -/
theorem kitAny_tab {K : PySem.W.Frag} {u : Value} : ∀ {cvs : List Value} {bs : List Bool}, Paired (fun cv b => PySem.W.kitOne K u cv = some b) cvs bs → PySem.W.kitAny K u cvs = some (bs.any id)
  | [], _, h => by cases h; rfl
  | cv :: cvs, _, h => by
    cases h with
    | cons h1 h2 =>
      rename_i b bs
      refine kitAny_cons h1 (fun hb => ?_) fun hb => ?_
      · rw [kitAny_tab h2]; subst hb; rfl
      · subst hb; rfl
theorem exn_d {H : Hp} {ns : List Str} {P : Addr → List V → Prop} (h : ns = [] ∧ d = none ∨ ∃ dd xs, d = some dd ∧ H dd = some (.xd (ns.zip xs)) ∧ P dd xs) : d = none ∨ ∃ dd fs, d = some dd ∧ H dd = some (.xd fs) := by
  rcases h with h | ⟨dd, xs, h1, h2, _⟩
  · exact .inl h.2
  · exact .inr ⟨dd, _, h1, h2⟩
/-- isinstance(e, C), one class -/
theorem de_isX (i : Nat) {cv : Value} {c1 : V} (hz : Zc (.ref (He.ga X.K c)) d oe) (hf : ∃ vs, oe.data = .fields vs) (T : IsTab X.K l cv) (hm : X.mg "isinstance" = none) (hc : PE (X.suite a ((a, oe) :: pn)) (.Name y p2) (tC c1)) (k : ClsV c1 cv)
    (hN : X.N[i]? = some x := by rfl) (hv : Vis X.env.scope x := by first | exact Or.inl rfl | exact Or.inr (Or.inl rfl) | exact Or.inr (Or.inr rfl)) (hg : Gl X "isinstance" := by rfl)
    (hdx : (x == ("__debug__" : Str)) = false := by decide) (hcx : (x == ("__classdict__" : Str)) = false := by decide)
    (he : starEach [.Name x p1, .Name y p2] X.env = (false, eval (.Name x p1) X.env) :: starEach [.Name y p2] X.env := by rfl) (he2 : starEach [.Name y p2] X.env = (false, eval (.Name y p2) X.env) :: starEach [] X.env := by rfl) (hpl : (backTo pos (starEach [.Name y p2] X.env)).any (·.1) = false := by rfl) :
    DE (X.suite a ((a, oe) :: pn)) W (.Call (.Name "isinstance" p) [.Name x p1, .Name y p2] [] pos) (xIsX i a d c (selK l)) := by
  by_cases hs : ∃ b, selK l c = some b
  · obtain ⟨b, eb⟩ := hs
    obtain ⟨t1, t2⟩ := T.at_ c b eb
    refine PE.imp (pe_callB (X := X.suite a ((a, oe) :: pn)) (call_isX t1 hz hf) hg hm (by decide +kernel) (pa_cons (pe_var (i := i) hN hv hdx hcx) (pa_cons hc pa_nil he2) he) (by decide) (by decide) he hpl) fun σ H Q ⟨δ, S, ι, R, Fr, ab, lo, w⟩ => ?_
    unfold xIsX at w
    cases e : isExn i a d c δ with
    | none => rw [e] at w; exact w.elim
    | some q =>
      rw [e] at w
      dsimp only at w
      rw [eb] at w
      obtain ⟨h1, h2⟩ := isExn_ok ab lo e
      refine ⟨.ref a, h1, exn_d h2, b, .inl ⟨c1, cv, rfl, k, t2⟩, w.ok ab rep_bl_intro⟩
  · refine ⟨fun pins s σ H Q I ⟨δ, S, ι, R, Fr, ab, lo, w⟩ => ?_⟩
    unfold xIsX at w
    cases e : isExn i a d c δ with
    | none => rw [e] at w; exact w.elim
    | some q =>
      rw [e] at w
      cases es : selK l c with
      | none => rw [es] at w; exact w.elim
      | some b => exact (hs ⟨b, es⟩).elim
def selT (tb : List (List (Str × Bool))) : Str → Option Bool := fun c => (tb.mapM fun l => selK l c).map fun bs => bs.any id
def inL (ls : List Str) : Str → Bool := fun c => decide (c ∈ ls)
/-- isinstance(e, (C1, C2, ..)) -/
theorem de_isXT (i : Nat) {cvs : List Value} {cs : List V} {tb : List (List (Str × Bool))} {es : List Expr} {j : Nat} (hz : Zc (.ref (He.ga X.K c)) d oe) (hf : ∃ vs, oe.data = .fields vs) (T : Paired (fun cv l => IsTab X.K l cv) cvs tb) (hm : X.mg "isinstance" = none)
    (hes : PA (X.suite a ((a, oe) :: pn)) es (fun _ H Q => Q cs H)) (k : Paired ClsV cs cvs) (hl : cs.length ≤ 1000) (hne : tb ≠ [])
    (hN : X.N[i]? = some x := by rfl) (hv : Vis X.env.scope x := by first | exact Or.inl rfl | exact Or.inr (Or.inl rfl) | exact Or.inr (Or.inr rfl)) (hg : Gl X "isinstance" := by rfl)
    (hdx : (x == ("__debug__" : Str)) = false := by decide) (hcx : (x == ("__classdict__" : Str)) = false := by decide)
    (he : starEach [.Name x p1, .Tuple es j p2] X.env = (false, eval (.Name x p1) X.env) :: starEach [.Tuple es j p2] X.env := by rfl) (he2 : starEach [.Tuple es j p2] X.env = (false, eval (.Tuple es j p2) X.env) :: starEach [] X.env := by rfl) (hpl : (backTo pos (starEach [.Tuple es j p2] X.env)).any (·.1) = false := by rfl) :
    DE (X.suite a ((a, oe) :: pn)) W (.Call (.Name "isinstance" p) [.Name x p1, .Tuple es j p2] [] pos) (xIsX i a d c (selT tb)) := by
  by_cases hs : ∃ bs, (tb.mapM fun l => selK l c) = some bs
  · obtain ⟨bs, eb⟩ := hs
    have key : ∀ {cvs : List Value} {tb : List (List (Str × Bool))} {bs : List Bool}, Paired (fun cv l => IsTab X.K l cv) cvs tb → (tb.mapM fun l => selK l c) = some bs → Paired (fun cv b => PySem.W.kitOne X.K (.ref (He.ga X.K c)) cv = some b) cvs bs ∧ (tb ≠ [] → ExcC X.K (He.ga X.K c)) := by
      intro cvs tb bs h
      induction h generalizing bs with
      | nil => intro e; cases e; exact ⟨.nil, fun h => absurd rfl h⟩
      | cons h1 h2 ih =>
        rename_i cv l cvs tb
        intro e
        rw [List.mapM_cons] at e
        cases e1 : selK l c with
        | none => rw [e1] at e; cases e
        | some b =>
          rw [e1] at e
          cases e2 : (tb.mapM fun l => selK l c) with
          | none => simp [e2] at e
          | some bs' =>
            simp [e2] at e
            subst e
            obtain ⟨t1, t2⟩ := h1.at_ c b e1
            exact ⟨.cons t2 (ih e2).1, fun _ => t1⟩
    obtain ⟨hk, ht⟩ := key T eb
    refine PE.imp (pe_callB (X := X.suite a ((a, oe) :: pn)) (call_isX (ht hne) hz hf) hg hm (by decide +kernel) (pa_cons (pe_var (i := i) hN hv hdx hcx) (pa_cons (pe_tup hes) pa_nil he2) he) (by decide) (by decide) he hpl) fun σ H Q ⟨δ, S, ι, R, Fr, ab, lo, w⟩ => ?_
    unfold xIsX at w
    cases e : isExn i a d c δ with
    | none => rw [e] at w; exact w.elim
    | some q =>
      rw [e] at w
      unfold selT at w
      dsimp only at w
      rw [eb] at w
      obtain ⟨h1, h2⟩ := isExn_ok ab lo e
      refine ⟨.ref a, h1, by rw [sizeLine_eq]; omega, fun tp hp => ?_⟩
      obtain ⟨ab2, st2⟩ := ab.rnew (o := .tup cs) hp
      have h3 : d = none ∨ ∃ dd fs, d = some dd ∧ upd H tp (.tup cs) dd = some (.xd fs) := by
        rcases exn_d h2 with h | ⟨dd, fs, r1, r2⟩
        · exact .inl h
        · refine .inr ⟨dd, fs, r1, ?_⟩
          unfold upd
          rw [if_neg (fun z => by subst z; rw [hp] at r2; cases r2)]
          exact r2
      exact ⟨h3, bs.any id, .inr ⟨tp, cs, cvs, rfl, upd_same, k, kitAny_tab hk⟩, (w.step st2).ok ab2 rep_bl_intro⟩
  · refine ⟨fun pins s σ H Q I ⟨δ, S, ι, R, Fr, ab, lo, w⟩ => ?_⟩
    unfold xIsX at w
    cases e : isExn i a d c δ with
    | none => rw [e] at w; exact w.elim
    | some q =>
      rw [e] at w
      unfold selT at w
      dsimp only at w
      cases es : (tb.mapM fun l => selK l c) with
      | none => rw [es] at w; exact w.elim
      | some b => exact (hs ⟨b, es⟩).elim
/-- e.f -/
theorem de_xf (i : Nat) {f : Str} {ls : List Str} (hz : Zc (.ref (He.ga X.K c)) d oe) (hf : ∃ vs, oe.data = .fields vs) (T : XfTab X.K ls f) (hN : X.N[i]? = some x := by rfl) (hv : Vis X.env.scope x := by first | exact Or.inl rfl | exact Or.inr (Or.inl rfl) | exact Or.inr (Or.inr rfl))
    (hdx : (x == ("__debug__" : Str)) = false := by decide) (hcx : (x == ("__classdict__" : Str)) = false := by decide) (hb : attributeBase (.Name x p1) f X.env (eval (.Name x p1) X.env) = eval (.Name x p1) X.env := by rfl) :
    DE (X.suite a ((a, oe) :: pn)) W (.Attribute (.Name x p1) f pos) (xXf i a d c f (inL ls)) := by
  by_cases hs : decide (c ∈ ls) = true
  · obtain ⟨t1, t2⟩ := T.at_ c hs
    refine PE.imp (pe_xf (X := X) t1 t2 hz hf (pe_var (X := X.suite a ((a, oe) :: pn)) (i := i) hN hv hdx hcx) hb) fun σ H Q ⟨δ, S, ι, R, Fr, ab, lo, w⟩ => ?_
    unfold xXf at w
    cases e : isExn i a d c δ with
    | none => rw [e] at w; exact w.elim
    | some q =>
      obtain ⟨ns, ds⟩ := q
      rw [e] at w
      dsimp only at w
      obtain ⟨h1, h2⟩ := isExn_ok ab lo e
      cases el : (ns.zip ds).lookup f with
      | none => rw [el] at w; exact w.elim
      | some yd =>
        rw [el] at w
        dsimp only at w
        rw [show inL ls c = true from hs, if_pos rfl] at w
        refine ⟨.ref a, h1, rfl, rfl, ?_⟩
        rcases h2 with ⟨rfl, _⟩ | ⟨dd, xs, rfl, q2, q3, q4⟩
        · cases el
        · obtain ⟨v, e1, r⟩ := lookup_zip q4 el
          exact ⟨dd, _, v, rfl, q2, e1, w.ok ab r⟩
  · refine ⟨fun pins s σ H Q I ⟨δ, S, ι, R, Fr, ab, lo, w⟩ => ?_⟩
    unfold xXf at w
    cases e : isExn i a d c δ with
    | none => rw [e] at w; exact w.elim
    | some q =>
      obtain ⟨ns, ds⟩ := q
      rw [e] at w
      dsimp only at w
      cases el : (ns.zip ds).lookup f with
      | none => rw [el] at w; exact w.elim
      | some yd => rw [el] at w; dsimp only at w; rw [if_neg (show ¬ inL ls c = true from hs)] at w; exact w.elim
end
/-! ### try -/
/-- behind a suite that had the exception in slot i -/
def unE (i : Nat) : Os → Os
  | .ok f δ S => .ok f (δ.set i none) S
  | .exc _ _ _ _ => .bad
  | .bad => .bad
open Classical in
/-- one answer of all objects -/
noncomputable def allO (f : Addr → Option Addr → Os) : Os := if h : ∃ o, ∀ a d, f a d = o then choose h else .bad
theorem allO_eq {f : Addr → Option Addr → Os} {o : Os} (h : ∀ a d, f a d = o) : allO f = o := by
  have hh : ∃ o, ∀ a d, f a d = o := ⟨o, h⟩
  unfold allO
  rw [dif_pos hh]
  exact ((Classical.choose_spec hh) 0 none).symm.trans (h 0 none)
theorem allO_at {f : Addr → Option Addr → Os} (h : allO f ≠ .bad) (a : Addr) (d : Option Addr) : f a d = allO f := by
  by_cases hh : ∃ o, ∀ a d, f a d = o
  · unfold allO
    rw [dif_pos hh]
    exact Classical.choose_spec hh a d
  · unfold allO at h
    rw [dif_neg hh] at h
    exact absurd rfl h
def dOf (fs : XF) (d : Option Addr) : Option Addr := match fs with
  | none => none
  | some _ => d
noncomputable def sTryAs (sel : Str → Option Bool) (i : Nat) (b : LS) (h : Addr → Option Addr → Str → LS) : LS := fun δ S => match b δ S with
  | .exc c fs δ1 S1 => (match sel c with
    | some true => allO fun a d => unE i (h a (dOf fs d) c (δ1.set i (some (exnD a d c fs))) S1)
    | some false => .exc c fs δ1 S1
    | none => .bad)
  | o => o
def sTryO (sel : Str → Option Bool) (b : LS) (h : LS) : LS := fun δ S => match b δ S with
  | .exc c fs δ1 S1 => (match sel c with
    | some true => (match h δ1 S1 with
      | .exc _ _ _ _ => .bad
      | o => o)
    | some false => .exc c fs δ1 S1
    | none => .bad)
  | o => o
section
variable {X : Cx} {W : WX} {k : Nat} {x n : Str} {cv : Value} {l : List (Str × Bool)} {body suite : List Stmt} {b₀ : Stmt} {np pos pos' : Pos} {gb : LS}
theorem exnD_rep {K : PySem.W.Frag} {R : Hp} {S : Store} {ι : Nat → Addr} {a : Addr} {d : Option Addr} {c : Str} {fs : XF} (h : XRep K R S ι fs d) : Rep K R S ι (exnD a d c fs) (.ref a) ∧ dOf fs d = d := by
  cases fs with
  | none =>
    have h : d = none := h
    subst h
    exact ⟨by unfold exnD Rep; exact ⟨rfl, .inl ⟨rfl, rfl⟩⟩, rfl⟩
  | some q =>
    obtain ⟨ns, ds⟩ := q
    obtain ⟨dd, xs, rfl, q2, q3, q4⟩ := h
    exact ⟨by unfold exnD Rep; exact ⟨rfl, .inr ⟨dd, xs, rfl, q2, q3, q4⟩⟩, rfl⟩
theorem ds_try_as (cx : Ctx X W k) (i : Nat) {gh : Addr → Option Addr → Str → LS} (hc : Names X x cv) (T : ExTab X.K l cv)
    (hb : ∀ (W' : WX) (pn : List (Addr × Obj)) (xe : Value → Shared → Prop), Ctx (X.tr pn xe) W' k → DSs (X.tr pn xe) W' body gb)
    (hsu : ∀ (a : Addr) (oe : Obj) (d : Option Addr) (c : Str) (pn : List (Addr × Obj)), Zc (.ref (He.ga X.K c)) d oe → (∃ vs, oe.data = .fields vs) → DSs (X.suite a ((a, oe) :: pn)) WF (b₀ :: suite) (gh a d c))
    (hi : X.N[i]? = some n := by rfl) (hln : X.env.kindOf n = some .local := by rfl) :
    DS X W (.Try body [.ExceptHandler (some (.Name x np)) (some n) (b₀ :: suite) pos'] [] [] pos) (sTryAs (selK l) i gb gh) := by
  refine PS.imp (ps_try_as (tb := fun W' => cS X.K W' gb) (ts := fun a cls d D σ H => ∃ c, cls = .ref (He.ga X.K c) ∧ cS X.K WF (gh a d c) D σ H) (Wout := W) cx.hs cx.hf cx.nd hi hln hc cx.tk
    (fun W' pn xe tk po => hb W' pn xe ⟨⟨cx.hr, tk, cx.calm, cx.nd⟩, po, cx.hs, cx.hf⟩) (fun a oe cls d pn hz hf => ⟨fun pins s σ H D I ⟨c, e, w⟩ => ?_⟩)) fun D σ H ⟨δ, S, ι, R, Fr, ab, lo, w⟩ => ⟨δ, S, ι, R, Fr, ab, lo, ?_⟩
  · subst e
    exact (hsu a oe d c pn hz hf).run pins s σ H D I w
  · unfold sTryAs at w
    cases e : gb δ S with
    | bad => rw [e] at w; exact w.elim
    | ok f δ1 S1 => rw [e] at w; cases f <;> exact w
    | exc c fs δ1 S1 =>
      rw [e] at w
      dsimp only at w
      intro σ1 dx ι1 R1 H1 st ab1 lo1 xr
      cases es : selK l c with
      | none => rw [es] at w; exact w.elim
      | some b =>
        rw [es] at w
        refine ⟨b, T.at_ c b es, fun hb a ha => ?_, fun hb => ?_⟩
        · subst hb
          dsimp only at w
          obtain ⟨r1, r2⟩ := exnD_rep (a := a) (c := c) xr
          have hne : allO (fun a d => unE i (gh a (dOf fs d) c (δ1.set i (some (exnD a d c fs))) S1)) ≠ .bad := fun z => by rw [z] at w; exact w.elim
          have ew := allO_at hne a dx
          rw [← ew, r2] at w
          refine ⟨c, rfl, δ1.set i (some (exnD a dx c fs)), S1, ι1, R1, Fr, ab1, lo1.set r1 i, ?_⟩
          have w := w.step st
          cases eo : gh a dx c (δ1.set i (some (exnD a dx c fs))) S1 with
          | bad => rw [eo] at w; exact w.elim
          | exc c2 fs2 δ2 S2 => rw [eo] at w; exact w.elim
          | ok f δ2 S2 =>
            rw [eo] at w
            cases f with
            | nx => exact fun σ2 ι2 R2 H2 st2 ab2 lo2 => w _ ι2 R2 H2 st2 ab2 (lo2.clear i none)
            | brk => exact fun σ2 ι2 R2 H2 st2 ab2 lo2 => w _ ι2 R2 H2 st2 ab2 (lo2.clear i none)
            | cont => exact fun σ2 ι2 R2 H2 st2 ab2 lo2 => w _ ι2 R2 H2 st2 ab2 (lo2.clear i none)
            | ret d => exact w
        · subst hb
          exact w σ1 dx ι1 R1 H1 st ab1 lo1 xr
theorem ds_try_only (cx : Ctx X W k) {gh : LS} (hc : Names X x cv) (T : ExTab X.K l cv)
    (hb : ∀ (W' : WX) (pn : List (Addr × Obj)) (xe : Value → Shared → Prop), Ctx (X.tr pn xe) W' k → DSs (X.tr pn xe) W' body gb)
    (hsu : ∀ (a : Addr) (oe : Obj) (d : Option Addr) (cls : Value) (pn : List (Addr × Obj)), Zc cls d oe → (∃ vs, oe.data = .fields vs) → DSs (X.suite a ((a, oe) :: pn)) WF (b₀ :: suite) gh) :
    DS X W (.Try body [.ExceptHandler (some (.Name x np)) none (b₀ :: suite) pos'] [] [] pos) (sTryO (selK l) gb gh) := by
  refine PS.imp (ps_try_only (tb := fun W' => cS X.K W' gb) (ts := fun a cls d => cS X.K WF gh) (Wout := W) cx.hs cx.hf hc cx.tk
    (fun W' pn xe tk po => hb W' pn xe ⟨⟨cx.hr, tk, cx.calm, cx.nd⟩, po, cx.hs, cx.hf⟩) (fun a oe cls d pn hz hf => hsu a oe d cls pn hz hf)) fun D σ H ⟨δ, S, ι, R, Fr, ab, lo, w⟩ => ⟨δ, S, ι, R, Fr, ab, lo, ?_⟩
  unfold sTryO at w
  cases e : gb δ S with
  | bad => rw [e] at w; exact w.elim
  | ok f δ1 S1 => rw [e] at w; cases f <;> exact w
  | exc c fs δ1 S1 =>
    rw [e] at w
    dsimp only at w
    intro σ1 dx ι1 R1 H1 st ab1 lo1 xr
    cases es : selK l c with
    | none => rw [es] at w; exact w.elim
    | some b =>
      rw [es] at w
      refine ⟨b, T.at_ c b es, fun hb a ha => ?_, fun hb => ?_⟩
      · subst hb
        dsimp only at w
        refine ⟨δ1, S1, ι1, R1, Fr, ab1, lo1, ?_⟩
        cases eo : gh δ1 S1 with
        | bad => rw [eo] at w; exact w.elim
        | exc c2 fs2 δ2 S2 => rw [eo] at w; exact w.elim
        | ok f δ2 S2 =>
          rw [eo] at w
          have w := w.step st
          cases f <;> exact w
      · subst hb
        exact w σ1 dx ι1 R1 H1 st ab1 lo1 xr
end
end DL

set_option Elab.async false
set_option linter.all false
set_option maxRecDepth 100000
set_option maxHeartbeats 4000000
namespace DL
open PySem PySem.Spec L2 SX
variable {Fr : Hp}
/-! ### all, any, sum of lists; int of figures -/
def bls : List D → Option (List Bool)
  | [] => some []
  | .bl b :: ds => (bls ds).map (b :: ·)
  | _ => none
def nts : List D → Option (List Int)
  | [] => some []
  | .int b :: ds => (nts ds).map (b :: ·)
  | _ => none
theorem bls_ok {K : PySem.W.Frag} {R : Hp} {S : Store} {ι : Nat → Addr} : ∀ {ds : List D} {xs : List V} {ys : List Bool}, bls ds = some ys → RepL K R S ι ds xs → xs = ys.map V.bl
  | [], xs, ys, e, r => by cases e; unfold RepL at r; exact r
  | d :: ds, xs, ys, e, r => by
    cases d with
    | bl b =>
      unfold bls at e
      cases h : bls ds with
      | none => rw [h] at e; cases e
      | some zs =>
        rw [h] at e
        cases e
        unfold RepL at r
        obtain ⟨v, vs, rfl, r1, r2⟩ := r
        rw [bls_ok h r2, rep_bl r1]
        rfl
    | _ => cases e
theorem nts_ok {K : PySem.W.Frag} {R : Hp} {S : Store} {ι : Nat → Addr} : ∀ {ds : List D} {xs : List V} {ys : List Int}, nts ds = some ys → RepL K R S ι ds xs → xs = ys.map V.int
  | [], xs, ys, e, r => by cases e; unfold RepL at r; exact r
  | d :: ds, xs, ys, e, r => by
    cases d with
    | int b =>
      unfold nts at e
      cases h : nts ds with
      | none => rw [h] at e; cases e
      | some zs =>
        rw [h] at e
        cases e
        unfold RepL at r
        obtain ⟨v, vs, rfl, r1, r2⟩ := r
        rw [nts_ok h r2, rep_int r1]
        rfl
    | _ => cases e
theorem bls_map (bs : List Bool) : bls (bs.map D.bl) = some bs := by
  induction bs with
  | nil => rfl
  | cons b bs ih => unfold List.map bls; rw [ih]; rfl
theorem nts_map (bs : List Int) : nts (bs.map D.int) = some bs := by
  induction bs with
  | nil => rfl
  | cons b bs ih => unfold List.map nts; rw [ih]; rfl
def bBs (f : List Bool → Bool) : Fn := fun ds S => match ds with
  | [d] => (match (asL d S).bind bls with
    | some bs => .ok (.bl (f bs), S)
    | none => .bad)
  | _ => .bad
def bAll : Fn := bBs fun bs => bs.all id
def bAny : Fn := bBs fun bs => bs.any id
def bSum : Fn := fun ds S => match ds with
  | [d] => (match (asL d S).bind nts with
    | some bs => .ok (.int bs.sum, S)
    | none => .bad)
  | _ => .bad
theorem bBs_sound {K : PySem.W.Frag} {f : List Bool → Bool} : OpA K (fun vs H Q => ∃ (a : Addr) (bs : List Bool), vs = [V.ref a] ∧ SqL K H a (bs.map V.bl) ∧ Q (.bl (f bs)) H) (bBs f) := fun Fr S ι R H ds xs Q E ab rs w => by
  match ds, rs, w with
  | [], _, w => exact w.elim
  | [d], rs, w =>
    obtain ⟨v, rfl, r⟩ := repL1 rs
    unfold bBs at w
    dsimp only at w
    cases h : asL d S with
    | none => rw [h] at w; exact w.elim
    | some ys =>
      rw [h] at w
      cases hb : bls ys with
      | none => simp only [Option.bind_some, hb] at w; exact w.elim
      | some bs =>
        simp only [Option.bind_some, hb] at w
        obtain ⟨a, vs, rfl, hq, rv⟩ := asL_ok ab r h
        refine ⟨a, bs, rfl, ?_, w.ok ab rep_bl_intro⟩
        rw [← bls_ok hb rv]
        exact hq
  | d :: _ :: _, _, w => exact w.elim
theorem bSum_sound {K : PySem.W.Frag} : OpA K (rSum K) bSum := fun Fr S ι R H ds xs Q E ab rs w => by
  match ds, rs, w with
  | [], _, w => exact w.elim
  | [d], rs, w =>
    obtain ⟨v, rfl, r⟩ := repL1 rs
    unfold bSum at w
    dsimp only at w
    cases h : asL d S with
    | none => rw [h] at w; exact w.elim
    | some ys =>
      rw [h] at w
      cases hb : nts ys with
      | none => simp only [Option.bind_some, hb] at w; exact w.elim
      | some bs =>
        simp only [Option.bind_some, hb] at w
        obtain ⟨a, vs, rfl, hq, rv⟩ := asL_ok ab r h
        refine ⟨a, bs, rfl, ?_, w.ok ab int_rep⟩
        rw [← nts_ok hb rv]
        exact hq
  | d :: _ :: _, _, w => exact w.elim
section
variable {X : Cx} {W : WX} {k : Nat} {e b : Expr} {g : LA} {pos p : Pos}
theorem de_all (cc : Ctc X W k) (hm : X.mg "all" = none) (ha : DA X W [e] g) (hg : Gl X "all" := by rfl) (he : starEach [e] X.env = (false, eval e X.env) :: starEach [] X.env := by rfl) (hpl : (backTo pos (starEach [] X.env)).any (·.1) = false := by rfl) :
    DE X W (.Call (.Name "all" p) [e] [] pos) (xB bAll g) := de_blt bBs_sound (cr_all cc.calm) hm (by decide +kernel) ha hg (by decide) (by decide) he hpl
theorem de_any (cc : Ctc X W k) (hm : X.mg "any" = none) (ha : DA X W [e] g) (hg : Gl X "any" := by rfl) (he : starEach [e] X.env = (false, eval e X.env) :: starEach [] X.env := by rfl) (hpl : (backTo pos (starEach [] X.env)).any (·.1) = false := by rfl) :
    DE X W (.Call (.Name "any" p) [e] [] pos) (xB bAny g) := de_blt bBs_sound (cr_any cc.calm) hm (by decide +kernel) ha hg (by decide) (by decide) he hpl
theorem de_sum (cc : Ctc X W k) (hm : X.mg "sum" = none) (ha : DA X W [e] g) (hg : Gl X "sum" := by rfl) (he : starEach [e] X.env = (false, eval e X.env) :: starEach [] X.env := by rfl) (hpl : (backTo pos (starEach [] X.env)).any (·.1) = false := by rfl) :
    DE X W (.Call (.Name "sum" p) [e] [] pos) (xB bSum g) := de_blt bSum_sound (cr_sum cc.calm) hm (by decide +kernel) ha hg (by decide) (by decide) he hpl
end
/-- int(text, 16) -/
def hexOk (l : List Nat) : Bool := decide (l ≠ []) && (decide (l.length ≤ 640) && l.all fun c => (decide (48 ≤ c) && decide (c ≤ 57)) || (decide (97 ≤ c) && decide (c ≤ 102)))
def bIntHex : Fn := fun ds S => match ds with
  | [.str z, .int i] => if i = 16 ∧ hexOk z.cps.toList = true then .ok (.int ((Hx.hexNum z.cps.toList : Nat) : Int), S) else .bad
  | _ => .bad
theorem hex_sound {K : PySem.W.Frag} : OpA K rIntHex bIntHex := fun Fr S ι R H ds xs Q E ab rs w => by
  match ds, rs, w with
  | [], _, w => exact w.elim
  | [d], _, w => cases d <;> exact w.elim
  | [d, e], rs, w =>
    obtain ⟨u, v, rfl, r1, r2⟩ := repL2 rs
    cases d with
    | str z =>
      cases e with
      | int i =>
        unfold bIntHex at w
        dsimp only at w
        split at w
        · rename_i hc
          obtain ⟨rfl, hc⟩ := hc
          rw [rep_str r1, rep_int r2]
          unfold hexOk at hc
          obtain ⟨h1, hc⟩ := He.ba hc
          obtain ⟨h2, h3⟩ := He.ba hc
          refine ⟨z.cps.toList, by rw [S_tl], of_decide_eq_true h1, of_decide_eq_true h2, fun c hm => ?_, w.ok ab int_rep⟩
          have z1 := List.all_eq_true.mp h3 c hm
          simp only [Bool.or_eq_true, Bool.and_eq_true, decide_eq_true_eq] at z1
          unfold Hx.IsHex
          omega
        · exact w.elim
      | _ => exact w.elim
    | _ => cases e <;> exact w.elim
  | d :: e :: _ :: _, _, w => cases d <;> cases e <;> exact w.elim
theorem de_inthex {X : Cx} {W : WX} {e b : Expr} {g : LA} {pos p : Pos} (hm : X.mg "int" = none) (ha : DA X W [e, b] g) (hg : Gl X "int" := by rfl) (he : starEach [e, b] X.env = (false, eval e X.env) :: starEach [b] X.env := by rfl) (hpl : (backTo pos (starEach [b] X.env)).any (·.1) = false := by rfl) :
    DE X W (.Call (.Name "int" p) [e, b] [] pos) (xB bIntHex g) := de_bty hex_sound call_int_hex hm (by decide +kernel) ha hg (by decide) (by decide) he hpl
end DL

set_option Elab.async false
set_option linter.all false
set_option maxRecDepth 100000
set_option maxHeartbeats 4000000
namespace DL
open PySem PySem.Spec L2
variable {Fr : Hp}
/-! ### dicts with keys that are ints and texts -/
def keyD : D → Option Key
  | .int i => some (.inl i)
  | .str x => some (.inr x)
  | _ => none
theorem keyD_ok {K : PySem.W.Frag} {R : Hp} {S : Store} {ι : Nat → Addr} {d : D} {v : V} {k : Key} (r : Rep K R S ι d v) (e : keyD d = some k) : v = kV k := by
  cases d with
  | int i => cases e; exact rep_int r
  | str x => cases e; exact rep_str r
  | _ => cases e
def dval : List Key → List D → Key → Option D
  | k' :: ks, d :: ds, k => if k' = k then some d else dval ks ds k
  | _, _, _ => none
theorem dval_some {K : PySem.W.Frag} {R : Hp} {S : Store} {ι : Nat → Addr} {k : Key} {d : D} : ∀ {ks : List Key} {ds : List D} {xs : List V}, RepL K R S ι ds xs → dval ks ds k = some d → ∃ v, valV (ks.zip xs) k = some v ∧ Rep K R S ι d v
  | [], _, _, _, e => by cases e
  | _ :: _, [], _, _, e => by cases e
  | k' :: ks, d' :: ds, xs, r, e => by
    unfold RepL at r
    obtain ⟨v, vs, rfl, r1, r2⟩ := r
    unfold dval at e
    rw [List.zip_cons_cons]
    by_cases h : k' = k
    · rw [if_pos h] at e
      cases e
      exact ⟨v, valV_pos h, r1⟩
    · rw [if_neg h] at e
      rw [valV_neg h]
      exact dval_some r2 e
theorem dval_none {K : PySem.W.Frag} {R : Hp} {S : Store} {ι : Nat → Addr} {k : Key} : ∀ {ks : List Key} {ds : List D} {xs : List V}, ks.length = ds.length → RepL K R S ι ds xs → dval ks ds k = none → valV (ks.zip xs) k = none
  | [], _, _, _, _, _ => rfl
  | _ :: _, [], _, l, _, _ => by cases l
  | k' :: ks, d' :: ds, xs, l, r, e => by
    unfold RepL at r
    obtain ⟨v, vs, rfl, r1, r2⟩ := r
    unfold dval at e
    rw [List.zip_cons_cons]
    by_cases h : k' = k
    · rw [if_pos h] at e; cases e
    · rw [if_neg h] at e
      rw [valV_neg h]
      exact dval_none (Nat.succ.inj l) r2 e
/-- the values behind d[k] = y -/
def dputV : List Key → List D → Key → D → List D
  | k' :: ks, d :: ds, k, y => (if k' = k then y else d) :: dputV ks ds k y
  | _, ds, _, _ => ds
def memK (ks : List Key) (k : Key) : Bool := ks.any fun k' => decide (k' = k)
def dputK (ks : List Key) (ds : List D) (k : Key) (y : D) : List Key × List D := if memK ks k = true then (ks, dputV ks ds k y) else (ks ++ [k], ds ++ [y])
theorem zip_any {xs : List V} {k : Key} : ∀ {ks : List Key}, ks.length = xs.length → ((ks.zip xs).any fun kv => decide (kv.1 = k)) = memK ks k := by
  induction xs with
  | nil => intro ks l; cases ks with | nil => rfl | cons _ _ => cases l
  | cons x xs ih =>
    intro ks l
    cases ks with
    | nil => cases l
    | cons k' ks =>
      rw [List.zip_cons_cons, List.any_cons, ih (Nat.succ.inj l)]
      rfl
theorem dput_ok {K : PySem.W.Frag} {R : Hp} {S : Store} {ι : Nat → Addr} {k : Key} {y : D} {v : V} {ks : List Key} {ds : List D} {xs : List V} (l : ks.length = ds.length) (r : RepL K R S ι ds xs) (ry : Rep K R S ι y v) :
    ∃ xs', putK (ks.zip xs) k v = (dputK ks ds k y).1.zip xs' ∧ RepL K R S ι (dputK ks ds k y).2 xs' ∧ (dputK ks ds k y).1.length = (dputK ks ds k y).2.length := by
  have lx : ks.length = xs.length := l.trans r.length.symm
  unfold putK dputK
  rw [zip_any lx]
  by_cases h : memK ks k = true
  · rw [if_pos h, if_pos h]
    have key : ∀ {ks : List Key} {ds : List D} {xs : List V}, ks.length = ds.length → RepL K R S ι ds xs → ∃ xs', (ks.zip xs).map (fun kv => if kv.1 = k then (kv.1, v) else kv) = ks.zip xs' ∧ RepL K R S ι (dputV ks ds k y) xs' ∧ ks.length = (dputV ks ds k y).length := by
      intro ks
      induction ks with
      | nil =>
        intro ds xs l r
        cases ds with
        | nil => exact ⟨[], rfl, by unfold dputV; exact repL_nil, rfl⟩
        | cons _ _ => cases l
      | cons k' ks ih =>
        intro ds xs l r
        cases ds with
        | nil => cases l
        | cons d ds =>
          unfold RepL at r
          obtain ⟨u, us, rfl, r1, r2⟩ := r
          obtain ⟨xs', e1, e2, e3⟩ := ih (Nat.succ.inj l) r2
          by_cases h : k' = k
          · refine ⟨v :: xs', ?_, ?_, ?_⟩
            · rw [List.zip_cons_cons, List.map_cons, e1, if_pos h]; rfl
            · unfold dputV; rw [if_pos h]; exact repL_cons ry e2
            · unfold dputV; rw [List.length_cons, List.length_cons, e3]
          · refine ⟨u :: xs', ?_, ?_, ?_⟩
            · rw [List.zip_cons_cons, List.map_cons, e1, if_neg h]; rfl
            · unfold dputV; rw [if_neg h]; exact repL_cons r1 e2
            · unfold dputV; rw [List.length_cons, List.length_cons, e3]
    exact key l r
  · rw [if_neg h, if_neg h]
    refine ⟨xs ++ [v], ?_, r.append (repL_cons ry repL_nil), by rw [List.length_append, List.length_append, l]; rfl⟩
    show _ = (ks ++ [k]).zip (xs ++ [v])
    rw [List.zip_append lx]
    rfl
/-! reading -/
/-- a dict's cell, walked or not -/
def asDk (d : D) (S : Store) : Option (List Key × List D) := match d with
  | .ref n => match S[n]? with
    | some (some (.dct ks ds)) => some (ks, ds)
    | some (some (.fct ks ds)) => some (ks, ds)
    | _ => none
  | _ => none
theorem asDk_ok {K : PySem.W.Frag} {S : Store} {ι : Nat → Addr} {R H : Hp} {d : D} {ks : List Key} {ds : List D} {v : V} (ab : Ab K Fr S ι R H) (r : Rep K R S ι d v) (e : asDk d S = some (ks, ds)) :
    ∃ a xs, v = .ref a ∧ Rd H a (.dK (ks.zip xs)) ∧ ks.length = ds.length ∧ RepL K R S ι ds xs := by
  unfold asDk at e
  cases d with
  | ref n =>
    dsimp only at e
    unfold Rep at r
    obtain ⟨a, rfl, l, q⟩ := r
    cases h : S[n]? with
    | none => rw [h] at e; cases e
    | some o =>
      cases o with
      | none => rw [h] at e; cases e
      | some c =>
        have ea := q ⟨_, h⟩
        subst ea
        have z := ab.cell n c h
        cases c with
        | dct ks' ds' => rw [h] at e; cases e; obtain ⟨xs, h1, h2, h3⟩ := z; exact ⟨_, xs, rfl, .inl h1, h2, h3⟩
        | fct ks' ds' => rw [h] at e; cases e; obtain ⟨o, xs, h1, _, h2, h3⟩ := z; exact ⟨_, xs, rfl, .inr ⟨o, h1⟩, h2, h3⟩
        | _ => rw [h] at e; cases e
  | _ => cases e
def dDget : F2 := fun d e S => match asDk d S, keyD e with
  | some (ks, ds), some k => (match dval ks ds k with
    | some y => .ok (y, S)
    | none => .bad)
  | _, _ => .bad
section
variable {X : Cx} {W : WX} {k : Nat} {o i e f : Expr} {go gi ge gf : LE} {pos apos cpos tpos : Pos}
theorem ctc_u (c : Ctc X W k) : X.A.units + 1 < cLine := by have := c.hr.un; omega
theorem dget_read {K : PySem.W.Frag} {W : WX} : ∀ σ H Q, cO (Rep K) K W (x2 dDget go gi) σ H Q → tDGet (cO (Rep K) K W go) (cO (Rep K) K W gi) σ H Q := fun σ H Q w =>
  cO.bind (rel := Rep K) (rel2 := Rep K) (f := fun d δ S1 => (gi δ S1).bind fun e S2 => dDget d e S2) w fun d x δ S1 ι1 R1 Fr H1 ab lo rx w1 => by
    refine ⟨δ, S1, ι1, R1, Fr, ab, lo, wpO.bind w1 fun e S2 y ι2 R2 H2 st ab2 ry w2 => ?_⟩
    unfold dDget at w2
    cases h1 : asDk d S2 with
    | none => rw [h1] at w2; exact w2.elim
    | some q =>
      obtain ⟨ks, ds⟩ := q
      cases h2 : keyD e with
      | none => rw [h1, h2] at w2; exact w2.elim
      | some kk =>
        rw [h1, h2] at w2
        dsimp only at w2
        cases h3 : dval ks ds kk with
        | none => rw [h3] at w2; exact w2.elim
        | some yd =>
          rw [h3] at w2
          obtain ⟨a, xs, rfl, hH, hl, rs⟩ := asDk_ok ab2 (rx.step st) h1
          obtain ⟨v, e1, r⟩ := dval_some rs h3
          have ek := keyD_ok ry h2
          subst ek
          refine ⟨a, v, rfl, ?_, w2.ok ab2 r⟩
          exact .inl ⟨_, kk, hH, rfl, e1.symm⟩
theorem de_dget (c : Ctc X W k) (ho : DE X W o go) (hi : DE X W i gi) (hs : NoSl i := by intro _ _; rfl) : DE X W (.Subscript o i pos) (x2 dDget go gi) := PE.imp (pe_dget (ctc_u c) ho hi hs) dget_read
/-- what a dict holds at a key -/
theorem dict_at {K : PySem.W.Frag} {S : Store} {ι : Nat → Addr} {R H : Hp} {d : D} {ks : List Key} {ds : List D} {e : D} {kk : Key} {x y : V} (ab : Ab K Fr S ι R H) (r : Rep K R S ι d x) (h1 : asDct d S = some (ks, ds)) (ry : Rep K R S ι e y) (h2 : keyD e = some kk) :
    ∃ a o, x = .ref a ∧ IsD H a ∧ DGet H a y o ∧ (∀ yd, dval ks ds kk = some yd → ∃ v, o = some v ∧ Rep K R S ι yd v) ∧ (dval ks ds kk = none → o = none) := by
  obtain ⟨n, a, xs, _, _, _, rfl, hH, hl, rs⟩ := asDct_ok ab r h1
  have ek := keyD_ok ry h2
  subst ek
  refine ⟨a, valV (ks.zip xs) kk, rfl, .inl ⟨_, .inl hH⟩, DGet.k hH, fun yd h3 => ?_, fun h3 => dval_none hl rs h3⟩
  obtain ⟨v, e1, r⟩ := dval_some rs h3
  exact ⟨v, e1, r⟩
/-- k in d -/
def dDin (neg : Bool) : F2 := fun e d S => match asDct d S, keyD e with
  | some (ks, ds), some k => .ok (.bl (if neg then !(dval ks ds k).isSome else (dval ks ds k).isSome), S)
  | _, _ => .bad
theorem din_read {K : PySem.W.Frag} {W : WX} : ∀ σ H Q, cO (Rep K) K W (x2 (dDin false) gi go) σ H Q → tDIn (cO (Rep K) K W gi) (cO (Rep K) K W go) σ H Q := fun σ H Q w =>
  cO.bind (rel := Rep K) (rel2 := Rep K) (f := fun e δ S1 => (go δ S1).bind fun d S2 => dDin false e d S2) w fun e y δ S1 ι1 R1 Fr H1 ab lo ry w1 => by
    refine ⟨δ, S1, ι1, R1, Fr, ab, lo, wpO.bind w1 fun d S2 x ι2 R2 H2 st ab2 rx w2 => ?_⟩
    unfold dDin at w2
    cases h1 : asDct d S2 with
    | none => rw [h1] at w2; exact w2.elim
    | some q =>
      obtain ⟨ks, ds⟩ := q
      cases h2 : keyD e with
      | none => rw [h1, h2] at w2; exact w2.elim
      | some kk =>
        rw [h1, h2] at w2
        dsimp only at w2
        obtain ⟨a, o, rfl, _, g, g1, g2⟩ := dict_at ab2 rx h1 (ry.step st) h2
        refine ⟨a, o, rfl, g, ?_⟩
        cases h3 : dval ks ds kk with
        | none => rw [h3] at w2; rw [g2 h3]; exact w2.ok ab2 rep_bl_intro
        | some yd => rw [h3] at w2; obtain ⟨v, e1, _⟩ := g1 yd h3; rw [e1]; exact w2.ok ab2 rep_bl_intro
theorem dnotin_read {K : PySem.W.Frag} {W : WX} : ∀ σ H Q, cO (Rep K) K W (x2 (dDin true) gi go) σ H Q → tDNotIn (cO (Rep K) K W gi) (cO (Rep K) K W go) σ H Q := fun σ H Q w =>
  cO.bind (rel := Rep K) (rel2 := Rep K) (f := fun e δ S1 => (go δ S1).bind fun d S2 => dDin true e d S2) w fun e y δ S1 ι1 R1 Fr H1 ab lo ry w1 => by
    refine ⟨δ, S1, ι1, R1, Fr, ab, lo, wpO.bind w1 fun d S2 x ι2 R2 H2 st ab2 rx w2 => ?_⟩
    unfold dDin at w2
    cases h1 : asDct d S2 with
    | none => rw [h1] at w2; exact w2.elim
    | some q =>
      obtain ⟨ks, ds⟩ := q
      cases h2 : keyD e with
      | none => rw [h1, h2] at w2; exact w2.elim
      | some kk =>
        rw [h1, h2] at w2
        dsimp only at w2
        obtain ⟨a, o, rfl, _, g, g1, g2⟩ := dict_at ab2 rx h1 (ry.step st) h2
        refine ⟨a, o, rfl, g, ?_⟩
        cases h3 : dval ks ds kk with
        | none => rw [h3] at w2; rw [g2 h3]; exact w2.ok ab2 rep_bl_intro
        | some yd => rw [h3] at w2; obtain ⟨v, e1, _⟩ := g1 yd h3; rw [e1]; exact w2.ok ab2 rep_bl_intro
theorem de_din (c : Ctc X W k) (hi : DE X W i gi) (ho : DE X W o go) (hm : behindInMarks .In o = false := by rfl) : DE X W (.Compare i [.In] [o] pos) (x2 (dDin false) gi go) := PE.imp (pe_cmp (pc_din (ctc_u c) hi ho) hm) din_read
theorem de_dnotin (c : Ctc X W k) (hi : DE X W i gi) (ho : DE X W o go) (hm : behindInMarks .NotIn o = false := by rfl) : DE X W (.Compare i [.NotIn] [o] pos) (x2 (dDin true) gi go) := PE.imp (pe_cmp (pc_dnotin (ctc_u c) hi ho) hm) dnotin_read
theorem dt_din (c : Ctc X W k) (hi : DE X W i gi) (ho : DE X W o go) (hm : behindInMarks .In o = false := by rfl) : DT X W (.Compare i [.In] [o] pos) (DL.tB (x2 (dDin false) gi go)) := PT.imp (pt_cmp (pc_din (ctc_u c) hi ho) hm) fun σ H Q w => din_read σ H _ (tB_read σ H Q w)
theorem dt_dnotin (c : Ctc X W k) (hi : DE X W i gi) (ho : DE X W o go) (hm : behindInMarks .NotIn o = false := by rfl) : DT X W (.Compare i [.NotIn] [o] pos) (DL.tB (x2 (dDin true) gi go)) := PT.imp (pt_cmp (pc_dnotin (ctc_u c) hi ho) hm) fun σ H Q w => dnotin_read σ H _ (tB_read σ H Q w)
/-- d.get(k), d.get(k, x) -/
def xDg1 (o e : LE) : LE := fun δ S => (o δ S).bind fun d S1 => if isDct d S1 = true then (e δ S1).bind fun y S2 => (match asDct d S2, keyD y with
  | some (ks, ds), some k => .ok ((dval ks ds k).getD .non, S2)
  | _, _ => .bad) else .bad
def xDg2 (o e f : LE) : LE := fun δ S => (o δ S).bind fun d S1 => if isDct d S1 = true then (e δ S1).bind fun y S2 => (f δ S2).bind fun z S3 => (match asDct d S3, keyD y with
  | some (ks, ds), some k => .ok ((dval ks ds k).getD z, S3)
  | _, _ => .bad) else .bad
theorem isDct_at {K : PySem.W.Frag} {S : Store} {ι : Nat → Addr} {R H : Hp} {d : D} {x : V} (ab : Ab K Fr S ι R H) (r : Rep K R S ι d x) (h : isDct d S = true) : ∃ a, x = .ref a ∧ IsD H a := by
  unfold isDct at h
  cases e : asDct d S with
  | none => rw [e] at h; cases h
  | some q =>
    obtain ⟨ks, ds⟩ := q
    obtain ⟨n, a, xs, _, _, _, rfl, hH, _⟩ := asDct_ok ab r e
    exact ⟨a, rfl, .inl ⟨_, .inl hH⟩⟩
theorem de_dget1 (c : Ctc X W k) (ho : DE X W o go) (he : DE X W e ge) (m : M1 X o "get" apos e cpos := by exact ⟨by rfl, by rfl, by rfl, by rfl⟩) : DE X W (.Call (.Attribute o "get" apos) [e] [] cpos) (xDg1 go ge) :=
  PE.imp (pe_dget1 (ctc_u c) ho he m) fun σ H Q w => cO.bind (rel := Rep X.K) (rel2 := Rep X.K) (f := fun d δ S1 => if isDct d S1 = true then (ge δ S1).bind fun y S2 => (match asDct d S2, keyD y with
  | some (ks, ds), some k => .ok ((dval ks ds k).getD .non, S2)
  | _, _ => .bad) else .bad) w fun d x δ S1 ι1 R1 Fr H1 ab lo rx w1 => by
    by_cases hd : isDct d S1 = true
    · rw [if_pos hd] at w1
      obtain ⟨a, rfl, hD⟩ := isDct_at ab rx hd
      refine ⟨a, rfl, hD, δ, S1, ι1, R1, Fr, ab, lo, wpO.bind w1 fun y S2 v ι2 R2 H2 st ab2 ry w2 => ?_⟩
      cases h1 : asDct d S2 with
      | none => rw [h1] at w2; exact w2.elim
      | some q =>
        obtain ⟨ks, ds⟩ := q
        cases h2 : keyD y with
        | none => rw [h1, h2] at w2; exact w2.elim
        | some kk =>
          rw [h1, h2] at w2
          dsimp only at w2
          obtain ⟨a', oo, e1, _, g, g1, g2⟩ := dict_at ab2 (rx.step st) h1 ry h2
          cases e1
          refine ⟨oo, g, ?_⟩
          cases h3 : dval ks ds kk with
          | none => rw [h3] at w2; rw [g2 h3]; exact w2.ok ab2 rep_non
          | some yd => rw [h3] at w2; obtain ⟨v, e1, r⟩ := g1 yd h3; rw [e1]; exact w2.ok ab2 r
    · rw [if_neg hd] at w1
      exact w1.elim
theorem de_dget2 (c : Ctc X W k) (ho : DE X W o go) (he : DE X W e ge) (hf : DE X W f gf) (m : M2 X o "get" apos e f cpos := by exact ⟨by rfl, by rfl, by rfl, by rfl⟩) : DE X W (.Call (.Attribute o "get" apos) [e, f] [] cpos) (xDg2 go ge gf) :=
  PE.imp (pe_dget2 (ctc_u c) ho he hf m) fun σ H Q w => cO.bind (rel := Rep X.K) (rel2 := Rep X.K) (f := fun d δ S1 => if isDct d S1 = true then (ge δ S1).bind fun y S2 => (gf δ S2).bind fun z S3 => (match asDct d S3, keyD y with
  | some (ks, ds), some k => .ok ((dval ks ds k).getD z, S3)
  | _, _ => .bad) else .bad) w fun d x δ S1 ι1 R1 Fr H1 ab lo rx w1 => by
    by_cases hd : isDct d S1 = true
    · rw [if_pos hd] at w1
      obtain ⟨a, rfl, hD⟩ := isDct_at ab rx hd
      refine ⟨a, rfl, hD, δ, S1, ι1, R1, Fr, ab, lo, wpO.bind w1 fun y S2 v ι2 R2 H2 st ab2 ry w2 => ?_⟩
      refine ⟨δ, S2, ι2, R2, Fr, ab2, lo.step st, wpO.bind w2 fun z S3 u ι3 R3 H3 st3 ab3 rz w3 => ?_⟩
      cases h1 : asDct d S3 with
      | none => rw [h1] at w3; exact w3.elim
      | some q =>
        obtain ⟨ks, ds⟩ := q
        cases h2 : keyD y with
        | none => rw [h1, h2] at w3; exact w3.elim
        | some kk =>
          rw [h1, h2] at w3
          dsimp only at w3
          obtain ⟨a', oo, e1, _, g, g1, g2⟩ := dict_at ab3 ((rx.step st).step st3) h1 (ry.step st3) h2
          cases e1
          refine ⟨oo, g, ?_⟩
          cases h3 : dval ks ds kk with
          | none => rw [h3] at w3; rw [g2 h3]; exact w3.ok ab3 rz
          | some yd => rw [h3] at w3; obtain ⟨v, e1, r⟩ := g1 yd h3; rw [e1]; exact w3.ok ab3 r
    · rw [if_neg hd] at w1
      exact w1.elim
/-- d[k] = v: the value first, then the dict, then the key -/
def stKey (d y : D) (k : D) (S : Store) : Option Store := match d with
  | .ref n => (match S[n]?, keyD k with
    | some (some (.dct ks ds)), some kk => if ks.length < sizeLine then some (S.set n (some (.dct (dputK ks ds kk y).1 (dputK ks ds kk y).2))) else none
    | _, _ => none)
  | _ => none
def sDset (go gi ge : LE) : LS := fun δ S => bindE δ (ge δ S) fun y S1 => bindE δ (go δ S1) fun d S2 => bindE δ (gi δ S2) fun kd S3 => (match stKey d y kd S3 with
  | some S4 => .ok .nx δ S4
  | none => .bad)
theorem stKey_ok {K : PySem.W.Frag} {S S4 : Store} {ι : Nat → Addr} {R H : Hp} {d y kd : D} {x v u : V} (ab : Ab K Fr S ι R H) (r : Rep K R S ι d x) (ry : Rep K R S ι y v) (rk : Rep K R S ι kd u) (e : stKey d y kd S = some S4) :
    ∃ a H', x = .ref a ∧ DPut H a u v H' ∧ Ab K Fr S4 ι R H' ∧ Stp S ι R S4 ι R := by
  cases d with
  | ref n =>
    unfold Rep at r
    obtain ⟨a, rfl, l, q⟩ := r
    unfold stKey at e
    cases h : S[n]? with
    | none => simp only [h] at e; cases e
    | some o =>
      cases o with
      | none => simp only [h] at e; cases e
      | some cc =>
        cases cc with
        | dct ks ds =>
          cases h2 : keyD kd with
          | none => simp only [h, h2] at e; cases e
          | some kk =>
            simp only [h, h2] at e
            by_cases hl : ks.length < sizeLine
            · rw [if_pos hl] at e
              cases e
              have ea := q ⟨_, h⟩
              subst ea
              obtain ⟨xs, hH, hlen, rs⟩ := ab.cell n _ h
              have ek := keyD_ok rk h2
              subst ek
              obtain ⟨xs', e1, e2, e3⟩ := dput_ok (k := kk) hlen rs ry
              obtain ⟨ab2, st2⟩ := ab.cset (o := .dK ((dputK ks ds kk y).1.zip xs')) (c' := .dct (dputK ks ds kk y).1 (dputK ks ds kk y).2) h ⟨xs', upd_same, e3, e2⟩
              refine ⟨_, _, rfl, ?_, ab2, st2⟩
              rw [← e1]
              refine DPut.k hH ?_
              rw [List.length_zip, rs.length]
              omega
            · rw [if_neg hl] at e
              cases e
        | _ => simp only [h] at e; cases e
  | _ => cases e
theorem ds_dset {pos' : Pos} (c : Ctc X W k) (ho : DE X W o go) (hi : DE X W i gi) (he : DE X W e ge) (hs : swapsWith e (some (.Subscript o i pos')) pos.line X.env = pure false := by rfl) : DS X W (.Assign [.Subscript o i pos'] e pos) (sDset go gi ge) :=
  PS.imp (ps_dput (ctc_u c) ho hi he hs) fun D σ H w => cS.bindE (rel := Rep X.K) (f := fun δ y S1 => bindE δ (go δ S1) fun d S2 => bindE δ (gi δ S2) fun kd S3 => (match stKey d y kd S3 with
  | some S4 => .ok .nx δ S4
  | none => .bad)) w fun y u δ S1 ι1 R1 Fr H1 ab lo ry w1 => by
    refine ⟨δ, S1, ι1, R1, Fr, ab, lo, ?_⟩
    refine wpS.bindE (rel := Rep X.K) w1 lo fun d S2 v ι2 R2 H2 st ab2 r w2 => ?_
    refine ⟨δ, S2, ι2, R2, Fr, ab2, lo.step st, ?_⟩
    refine wpS.bindE (rel := Rep X.K) w2 (lo.step st) fun kd S3 x ι3 R3 H3 st3 ab3 rk w3 => ?_
    cases e3 : stKey d y kd S3 with
    | none => rw [e3] at w3; exact w3.elim
    | some S4 =>
      rw [e3] at w3
      obtain ⟨a, H', ex, hp, ab4, st4⟩ := stKey_ok ab3 (r.step st3) ((ry.step st).step st3) rk e3
      exact ⟨a, H', ex, hp, w3 σ ι3 R3 H' st4 ab4 (((lo.step st).step st3).step st4)⟩
/-- {} -/
def xDnew : LE := fun _ S => .ok (.ref S.length, S ++ [some (.dct [] [])])
theorem de_dnew : DE X W (.Dict [] [] pos) xDnew := PE.imp pe_dnewK fun σ H Q ⟨δ, S, ι, R, Fr, ab, lo, w⟩ p hp => by
  obtain ⟨ab7, st7⟩ := Ab.push (c := .dct [] []) (ab.frame_new (o := .dK []) hp) (Same.free ab.fsub hp) ⟨[], upd_same, rfl, repL_nil⟩
  refine w (.ref p) _ R _ st7 ab7 ?_
  unfold Rep
  exact ⟨p, rfl, by simp, fun _ => (if_pos rfl).symm⟩
/-! {k: v, ..} with written keys -/
theorem Ab.unframe' {K : PySem.W.Frag} {S : Store} {ι : Nat → Addr} {R H : Hp} {a : Addr} {o : HO} (ab : Ab K (upd Fr a o) S ι R H) (hF : Fr a = none) : Ab K Fr S ι R H := by
  have sb : ∀ b u, Fr b = some u → upd Fr a o b = some u := fun b u e => by
    unfold upd
    rw [if_neg (fun z => by subst z; rw [hF] at e; cases e)]
    exact e
  exact ⟨fun b u e => ab.fsub b u (sb b u e), fun b u e => ab.foff b u (sb b u e), fun b u n c e e2 => ab.fcel b u n c (sb b u e) e2, ab.sub, ab.cell, ab.off, ab.inj⟩
theorem Ab.reframe {K : PySem.W.Frag} {S : Store} {ι : Nat → Addr} {R H : Hp} {a : Addr} {o o' : HO} (ab : Ab K (upd Fr a o) S ι R H) (hF : Fr a = none) : Ab K (upd Fr a o') S ι R (upd H a o') := by
  have ha : upd Fr a o a = some o := upd_same
  have nr : R a = none := ab.foff a o ha
  have nc : ∀ n c, S[n]? = some (some c) → ι n ≠ a := fun n c e => ab.fcel a o n c ha e
  have ab0 := Ab.unframe' ab hF
  refine ⟨fun b u e => ?_, fun b u e => ?_, fun b u n c e e2 => ?_, fun b u e => ?_, fun n c e => ?_, ab.off, ab.inj⟩
  · by_cases hb : b = a
    · subst hb; rw [upd_same] at e ⊢; exact e
    · rw [upd_ne hb] at e ⊢; exact ab0.fsub b u e
  · by_cases hb : b = a
    · subst hb; exact nr
    · rw [upd_ne hb] at e; exact ab0.foff b u e
  · by_cases hb : b = a
    · subst hb; exact nc n c e2
    · rw [upd_ne hb] at e; exact ab0.fcel b u n c e e2
  · rw [upd_ne (fun z => by subst z; rw [nr] at e; cases e)]
    exact ab.sub b u e
  · have z := ab.cell n c e
    have hne := nc n c e
    cases c with
    | lst ds => obtain ⟨xs, h1, h2⟩ := z; exact ⟨xs, by rw [upd_ne hne]; exact h1, h2⟩
    | dct ks ds => obtain ⟨xs, h1, h2⟩ := z; exact ⟨xs, by rw [upd_ne hne]; exact h1, h2⟩
    | ins c ns ds => obtain ⟨dx, fs, h1, h2⟩ := z; exact ⟨dx, fs, by rw [upd_ne hne]; exact h1, h2⟩
    | fct ks ds => obtain ⟨dx, fs, h1, h2⟩ := z; exact ⟨dx, fs, by rw [upd_ne hne]; exact h1, h2⟩
    | dtt ks ds => obtain ⟨xs, h1, h2⟩ := z; exact ⟨xs, by rw [upd_ne hne]; exact h1, h2⟩
    | exo c => exact (upd_ne hne).trans z
def DPs (X : Cx) (W : WX) (pos : Pos) (keys : List (Option Expr)) (values : List Expr) (ks : List Key) (g : LA) : Prop :=
  ∃ trs, PPs X pos keys values trs ∧ ∀ σ H (Q : List (V × V) → Hp → Prop), cO (RepL X.K) X.K W g σ H (fun vs H' => Q ((ks.zip vs).map fun kv => (kV kv.1, kv.2)) H') → tPairs trs σ H Q
theorem dps_nil : DPs X W pos [] [] [] xNil := ⟨[], pps_nil, fun σ H Q ⟨δ, S, ι, R, Fr, ab, lo, w⟩ => w.ok ab (show RepL X.K R S ι [] [] from repL_nil)⟩
theorem dps_cons {ke ve : Expr} {keys : List (Option Expr)} {values : List Expr} {kk : Key} {ks : List Key} {gv : LE} {g : LA} (hk : PE X ke (tC (kV kk))) (hv : DE X W ve gv) (hr : DPs X W pos keys values ks g) :
    DPs X W pos (some ke :: keys) (ve :: values) (kk :: ks) (xCons gv g) := by
  obtain ⟨trs, h1, h2⟩ := hr
  refine ⟨_, pps_cons hk hv h1, fun σ H Q w => ?_⟩
  show cO (Rep X.K) X.K W gv σ H fun y H2 => tPairs trs σ H2 fun ps H3 => Q ((kV kk, y) :: ps) H3
  refine cO.bind (rel := Rep X.K) (rel2 := RepL X.K) (f := fun d δ S1 => (g δ S1).bind fun ds S2 => .ok (d :: ds, S2)) w fun d y δ S1 ι1 R1 Fr H1 ab lo ry w1 => ?_
  refine h2 σ H1 _ ⟨δ, S1, ι1, R1, Fr, ab, lo, wpO.bind w1 fun ds S2 vs ι2 R2 H2 st ab2 rs w2 => ?_⟩
  exact w2.ok ab2 (repL_cons (ry.step st) rs)
theorem pk_int {i : Int} {j : Nat} {p : Pos} (h : PE X (.Constant (.int i) j p) (tC (.int i))) : PE X (.Constant (.int i) j p) (tC (kV (.inl i))) := h
def xDdisp (ks : List Key) (g : LA) : LE := fun δ S => (g δ S).bind fun ds S1 => if ds.length = ks.length ∧ ks.length ≤ 15 ∧ ks.Nodup then .ok (.ref S1.length, S1 ++ [some (.dct ks ds)]) else .bad
theorem merge_nodup : ∀ {ks : List Key} {xs : List V} {acc : List (Key × V)}, ks.length = xs.length → (acc.map (·.1) ++ ks).Nodup → mergeK acc (ks.zip xs) = acc ++ ks.zip xs
  | [], _, acc, _, _ => by simp [mergeK]
  | _ :: _, [], _, l, _ => by cases l
  | k :: ks, x :: xs, acc, l, nd => by
    rw [List.zip_cons_cons]
    show mergeK (putK acc k x) (ks.zip xs) = _
    have hk : ¬ (acc.any fun kv => decide (kv.1 = k)) = true := by
      intro h
      obtain ⟨kv, hm, hd⟩ := List.any_eq_true.mp h
      have e := of_decide_eq_true hd
      have := (List.nodup_append.mp nd).2.2 kv.1 (List.mem_map_of_mem hm) k (List.mem_cons_self ..)
      exact this e
    have ep : putK acc k x = acc ++ [(k, x)] := by unfold putK; rw [if_neg hk]
    rw [ep, merge_nodup (Nat.succ.inj l) (by rw [List.map_append, List.append_assoc]; exact nd), List.append_assoc]
    rfl
theorem de_ddisp {keys : List (Option Expr)} {values : List Expr} {ks : List Key} {g : LA} (h : DPs X W pos keys values ks g) (hall : keys.all (·.isSome) = true := by rfl) (hl : keys.length = values.length := by rfl) (h0 : keys ≠ [] := by exact List.cons_ne_nil _ _)
    (h15 : keys.length ≤ 15 := by decide) : DE X W (.Dict keys values pos) (xDdisp ks g) := by
  obtain ⟨trs, h1, h2⟩ := h
  refine PE.imp (pe_disp h1 hall hl h0 h15) fun σ H Q ⟨δ, S, ι, R, Fr, ab, lo, w⟩ p hp => ?_
  have hF := Same.free ab.fsub hp
  refine h2 σ _ _ ⟨δ, S, ι, R, upd Fr p (.dK []), ab.frame_new hp, lo, ?_⟩
  have w : wpO (Rep X.K) X.K Fr S ι R ((g δ S).bind fun ds S1 => if ds.length = ks.length ∧ ks.length ≤ 15 ∧ ks.Nodup then .ok (.ref S1.length, S1 ++ [some (.dct ks ds)]) else .bad) Q _ := w
  cases e : g δ S with
  | bad => rw [e] at w; exact w
  | exc c fs S' => rw [e] at w; exact fun dx ι' R' H' st ab' xr => w dx ι' R' H' st (Ab.unframe' ab' hF) xr
  | ok a =>
    obtain ⟨ds, S1⟩ := a
    rw [e] at w
    intro vs ι1 R1 H1 st ab1 rs
    have w : wpO (Rep X.K) X.K Fr S ι R (if ds.length = ks.length ∧ ks.length ≤ 15 ∧ ks.Nodup then .ok (.ref S1.length, S1 ++ [some (.dct ks ds)]) else .bad) Q _ := w
    by_cases hc : ds.length = ks.length ∧ ks.length ≤ 15 ∧ ks.Nodup
    · rw [if_pos hc] at w
      obtain ⟨c1, c2, c3⟩ := hc
      have lv : ks.length = vs.length := c1.symm.trans rs.length.symm
      refine ⟨ab1.fsub p _ upd_same, ks.zip vs, rfl, by rw [List.length_zip]; omega, ?_⟩
      rw [merge_nodup lv (by simpa using c3), List.nil_append]
      obtain ⟨ab7, st7⟩ := Ab.push (c := .dct ks ds) (Ab.reframe (o' := .dK (ks.zip vs)) ab1 hF) hF ⟨vs, upd_same, c1.symm, rs⟩
      refine w (.ref p) _ R1 _ (st.trans st7) ab7 ?_
      unfold Rep
      exact ⟨p, rfl, by simp, fun _ => (if_pos rfl).symm⟩
    · rw [if_neg hc] at w
      exact w.elim
end
end DL

set_option Elab.async false
set_option linter.all false
set_option maxRecDepth 100000
set_option maxHeartbeats 4000000
namespace DL
open PySem PySem.Spec L2
variable {Fr : Hp}
/-! ### methods that change a cell's list -/
def mLst (g : List D → List D → Option (D × List D)) : Fm := fun d ds S => match d with
  | .ref n => (match S[n]? with
    | some (some (.lst xs)) => (match g xs ds with
      | some (y, xs') => .ok (y, S.set n (some (.lst xs')))
      | none => .bad)
    | _ => .bad)
  | _ => .bad
def LstOk (K : PySem.W.Frag) (r : V → List V → Hp → VK → Prop) (g : List D → List D → Option (D × List D)) : Prop := ∀ (R H : Hp) (S : Store) (ι : Nat → Addr) (a : Addr) (vs us : List V) (xs ds : List D) (y : D) (xs' : List D) (Q : VK),
  H a = some (.lst vs) → RepL K R S ι xs vs → RepL K R S ι ds us → g xs ds = some (y, xs') → ∃ vs' u, RepL K R S ι xs' vs' ∧ Rep K R S ι y u ∧ (Q u (upd H a (.lst vs')) → r (.ref a) us H Q)
theorem lst_sound {K : PySem.W.Frag} {r : V → List V → Hp → VK → Prop} {g : List D → List D → Option (D × List D)} (hg : LstOk K r g) : OpM K r (mLst g) := fun Fr S ι R H d ds x us Q E ab rx rs w => by
  cases d with
  | ref n =>
    unfold mLst at w
    dsimp only at w
    unfold Rep at rx
    obtain ⟨a, rfl, l, q⟩ := rx
    cases h : S[n]? with
    | none => rw [h] at w; exact w.elim
    | some o =>
      cases o with
      | none => rw [h] at w; exact w.elim
      | some c =>
        cases c with
        | lst xs =>
          rw [h] at w
          dsimp only at w
          have ea := q ⟨_, h⟩
          subst ea
          obtain ⟨vs, hH, rv⟩ := ab.cell n _ h
          cases e : g xs ds with
          | none => rw [e] at w; exact w.elim
          | some p =>
            obtain ⟨y, xs'⟩ := p
            rw [e] at w
            obtain ⟨vs', u, r1, r2, q2⟩ := hg R H S ι (ι n) vs us xs ds y xs' Q hH rv rs e
            obtain ⟨ab2, st2⟩ := ab.cset (o := .lst vs') (c' := .lst xs') h ⟨_, upd_same, r1⟩
            exact q2 (w u ι R _ st2 ab2 (r2.step st2))
        | _ => rw [h] at w; exact w.elim
  | _ => exact w.elim
def gPop : List D → List D → Option (D × List D) := fun xs ds => match ds with
  | [] => (xs[xs.length - 1]?).map fun y => (y, xs.dropLast)
  | _ => none
theorem RepL.dropLast {K : PySem.W.Frag} {R : Hp} {S : Store} {ι : Nat → Addr} {ds : List D} {xs : List V} (r : RepL K R S ι ds xs) : RepL K R S ι ds.dropLast xs.dropLast := by
  rw [List.dropLast_eq_take, List.dropLast_eq_take, r.length]
  exact r.take _
theorem RepL.eraseIdx {K : PySem.W.Frag} {R : Hp} {S : Store} {ι : Nat → Addr} {ds : List D} {xs : List V} (r : RepL K R S ι ds xs) (k : Nat) : RepL K R S ι (ds.eraseIdx k) (xs.eraseIdx k) := by
  rw [List.eraseIdx_eq_take_drop_succ, List.eraseIdx_eq_take_drop_succ]
  exact (r.take _).append (r.drop _)
theorem pop_ok {K : PySem.W.Frag} : LstOk K rPop gPop := fun R H S ι a vs us xs ds y xs' Q hH rv rs e => by
  cases ds with
  | cons _ _ => cases e
  | nil =>
    unfold RepL at rs
    subst rs
    unfold gPop at e
    dsimp only at e
    cases h : xs[xs.length - 1]? with
    | none => rw [h] at e; cases e
    | some z =>
      rw [h] at e
      cases e
      obtain ⟨v, hv, r2⟩ := rv.get h
      exact ⟨vs.dropLast, v, rv.dropLast, r2, fun q => ⟨a, vs, v, rfl, rfl, hH, by rw [rv.length]; exact hv, q⟩⟩
open Classical in
noncomputable def gPopAt : List D → List D → Option (D × List D) := fun xs ds => match ds with
  | [.int i] => if -(2 ^ 63) ≤ i ∧ i < 2 ^ 63 then (match seqIndex? i xs.length with
    | some k => (xs[k]?).map fun y => (y, xs.eraseIdx k)
    | none => none) else none
  | _ => none
theorem popAt_ok {K : PySem.W.Frag} : LstOk K rPopAt gPopAt := fun R H S ι a vs us xs ds y xs' Q hH rv rs e => by
  unfold gPopAt at e
  split at e
  · rename_i i
    obtain ⟨u, rfl, ru⟩ := repL1 rs
    have ru := rep_int ru
    subst ru
    split at e
    · rename_i hb
      cases h1 : seqIndex? i xs.length with
      | none => rw [h1] at e; cases e
      | some k =>
        rw [h1] at e
        dsimp only at e
        cases h : xs[k]? with
        | none => rw [h] at e; cases e
        | some z =>
          rw [h] at e
          cases e
          obtain ⟨v, hv, r2⟩ := rv.get h
          exact ⟨vs.eraseIdx k, v, rv.eraseIdx k, r2, fun q => ⟨a, vs, i, k, v, rfl, rfl, hH, hb.1, hb.2, by rw [rv.length]; exact h1, hv, q⟩⟩
    · cases e
  · cases e
def gClear : List D → List D → Option (D × List D) := fun _ ds => match ds with
  | [] => some (.non, [])
  | _ => none
theorem clear_ok {K : PySem.W.Frag} : LstOk K rClear gClear := fun R H S ι a vs us xs ds y xs' Q hH rv rs e => by
  cases ds with
  | cons _ _ => cases e
  | nil =>
    unfold RepL at rs
    subst rs
    cases e
    exact ⟨[], .non, repL_nil, rep_non, fun q => ⟨a, vs, rfl, rfl, hH, q⟩⟩
def rInsert : V → List V → Hp → VK → Prop := fun x vs H Q => ∃ (l : Addr) (xs : List V) (i : Int) (y : V), x = .ref l ∧ vs = [.int i, y] ∧ H l = some (.lst xs) ∧ xs.length < sizeLine ∧ 0 ≤ i ∧ i < 2 ^ 63 ∧
    Q .non (upd H l (.lst (xs.take i.toNat ++ [y] ++ xs.drop i.toNat)))
open Classical in
noncomputable def gInsert : List D → List D → Option (D × List D) := fun xs ds => match ds with
  | [.int i, y] => if xs.length < sizeLine ∧ 0 ≤ i ∧ i < 2 ^ 63 then some (.non, xs.take i.toNat ++ [y] ++ xs.drop i.toNat) else none
  | _ => none
theorem insert_ok {K : PySem.W.Frag} : LstOk K rInsert gInsert := fun R H S ι a vs us xs ds y xs' Q hH rv rs e => by
  unfold gInsert at e
  split at e
  · rename_i i y0
    obtain ⟨u, u2, rfl, ru, r2⟩ := repL2 rs
    have ru := rep_int ru
    subst ru
    split at e
    · rename_i hb
      cases e
      exact ⟨vs.take i.toNat ++ [u2] ++ vs.drop i.toNat, .non, ((rv.take _).append (repL_cons r2 repL_nil)).append (rv.drop _), rep_non, fun q => ⟨a, vs, i, u2, rfl, rfl, hH, by rw [rv.length]; exact hb.1, hb.2.1, hb.2.2, q⟩⟩
    · cases e
  · cases e
section
variable {X : Cx} {W : WX} {k : Nat} {a b c e e2 o i : Expr} {ga gb gc go gi ge : LE} {pos p p2 apos cpos : Pos} {x y name : Str} {es : List Expr} {g : LA}
theorem de_popL (ho : DE X W o go) (hbase : attributeBase o "pop" X.env (eval o X.env) = eval o X.env := by rfl) (hline : (apos.endLine == cpos.line) = true := by rfl) :
    DE X W (.Call (.Attribute o "pop" apos) [] [] cpos) (xBM isLst (mLst gPop) go xNil) := de_bm0 PySem.F.plainAttrs_list PySem.F.slot_list_pop PySem.F.type_list_pop mt_pop (lst_sound pop_ok) chk_lst ho hbase hline
theorem de_clearL (ho : DE X W o go) (hbase : attributeBase o "clear" X.env (eval o X.env) = eval o X.env := by rfl) (hline : (apos.endLine == cpos.line) = true := by rfl) :
    DE X W (.Call (.Attribute o "clear" apos) [] [] cpos) (xBM isLst (mLst gClear) go xNil) := de_bm0 PySem.F.plainAttrs_list PySem.F.slot_list_clear PySem.F.type_list_clear mt_clear (lst_sound clear_ok) chk_lst ho hbase hline
theorem de_popAtL (ho : DE X W o go) (ha : DA X W [e] g) (hbase : attributeBase o "pop" X.env (eval o X.env) = eval o X.env := by rfl)
    (hfew : ((backTo cpos (starEach [e] X.env)).all (fun x => !x.1) && (backToKw cpos (keywordEach [] X.env)).all (fun x => x.1.isSome)
      && decide (([e] : List Expr).length + ([] : List Keyword).length + (if ([] : List Keyword).isEmpty then 0 else 1) < 30)) = true := by rfl)
    (hline : (apos.endLine == cpos.line) = true := by rfl) (hs : starEach [e] X.env = (false, eval e X.env) :: starEach [] X.env := by rfl) (hplain : (backTo cpos (starEach [] X.env)).any (·.1) = false := by rfl) :
    DE X W (.Call (.Attribute o "pop" apos) [e] [] cpos) (xBM isLst (mLst gPopAt) go g) := de_bm PySem.F.plainAttrs_list PySem.F.slot_list_pop PySem.F.type_list_pop mt_popAt (lst_sound popAt_ok) chk_lst ho ha hbase hfew hline hs hplain
theorem de_insertL (ho : DE X W o go) (ha : DA X W [e, e2] g) (hbase : attributeBase o "insert" X.env (eval o X.env) = eval o X.env := by rfl)
    (hfew : ((backTo cpos (starEach [e, e2] X.env)).all (fun x => !x.1) && (backToKw cpos (keywordEach [] X.env)).all (fun x => x.1.isSome)
      && decide (([e, e2] : List Expr).length + ([] : List Keyword).length + (if ([] : List Keyword).isEmpty then 0 else 1) < 30)) = true := by rfl)
    (hline : (apos.endLine == cpos.line) = true := by rfl) (hs : starEach [e, e2] X.env = (false, eval e X.env) :: starEach [e2] X.env := by rfl) (hplain : (backTo cpos (starEach [e2] X.env)).any (·.1) = false := by rfl) :
    DE X W (.Call (.Attribute o "insert" apos) [e, e2] [] cpos) (xBM isLst (mLst gInsert) go g) := de_bm PySem.F.plainAttrs_list PySem.F.slot_list_insert PySem.F.type_list_insert mt_insert (lst_sound insert_ok) chk_lst ho ha hbase hfew hline hs hplain
end
/-! ### xs[i] = e -/
def stLst (d y : D) (k : D) (S : Store) : Option Store := match d with
  | .ref n => (match S[n]?, k with
    | some (some (.lst ds)), .int i => (match ixN ds.length i with
      | some j => some (S.set n (some (.lst (ds.set j y))))
      | none => none)
    | _, _ => none)
  | _ => none
def sLset (go gi ge : LE) : LS := fun δ S => bindE δ (ge δ S) fun y S1 => bindE δ (go δ S1) fun d S2 => bindE δ (gi δ S2) fun kd S3 => (match stLst d y kd S3 with
  | some S4 => .ok .nx δ S4
  | none => .bad)
theorem stLst_ok {K : PySem.W.Frag} {S S4 : Store} {ι : Nat → Addr} {R H : Hp} {d y kd : D} {x v u : V} (ab : Ab K Fr S ι R H) (r : Rep K R S ι d x) (ry : Rep K R S ι y v) (rk : Rep K R S ι kd u) (e : stLst d y kd S = some S4) :
    ∃ a vs i j, x = .ref a ∧ u = .int i ∧ H a = some (.lst vs) ∧ ixN vs.length i = some j ∧ Ab K Fr S4 ι R (upd H a (.lst (vs.set j v))) ∧ Stp S ι R S4 ι R := by
  cases d with
  | ref n =>
    unfold Rep at r
    obtain ⟨a, rfl, l, q⟩ := r
    unfold stLst at e
    cases h : S[n]? with
    | none => simp only [h] at e; cases e
    | some o =>
      cases o with
      | none => simp only [h] at e; cases e
      | some cc =>
        cases cc with
        | lst ds =>
          cases kd with
          | int i =>
            simp only [h] at e
            cases hj : ixN ds.length i with
            | none => simp only [hj] at e; cases e
            | some j =>
              simp only [hj] at e
              cases e
              have ea := q ⟨_, h⟩
              subst ea
              obtain ⟨vs, hH, rs⟩ := ab.cell n _ h
              have ek := rep_int rk
              subst ek
              obtain ⟨ab2, st2⟩ := ab.cset (o := .lst (vs.set j v)) (c' := .lst (ds.set j y)) h ⟨_, upd_same, rs.set j ry⟩
              exact ⟨ι n, vs, i, j, rfl, rfl, hH, by rw [rs.length]; exact hj, ab2, st2⟩
          | _ => simp only [h] at e; cases e
        | _ => simp only [h] at e; cases e
  | _ => cases e
section
variable {X : Cx} {W : WX} {k : Nat} {o i e : Expr} {go gi ge : LE} {pos pos' : Pos}
theorem ds_lset (ho : DE X W o go) (hi : DE X W i gi) (he : DE X W e ge) (hs : swapsWithSole [.Subscript o i pos'] e pos.line X.env = pure false := by rfl) (hw : swappedStores [.Subscript o i pos'] e X.env = pure none := by rfl)
    (h1 : (assignEach [.Subscript o i pos'] X.env).map (·.2) = [assign (.Subscript o i pos') X.env] := by rfl)
    (ha : ∀ v, assign (.Subscript o i pos') X.env v = (do let ov ← holding [v] (eval o X.env); let iv ← holding [v, ov] (eval i X.env); standAt pos'; holding [v, ov, iv] (setItem ov iv v); release [v, ov, iv] []) := by intro _; rfl) : DS X W (.Assign [.Subscript o i pos'] e pos) (sLset go gi ge) :=
  PS.imp (ps_asg he (pg_sub ho hi set_list ha) hs hw h1) fun D σ H w => cS.bindE (rel := Rep X.K) (f := fun δ y S1 => bindE δ (go δ S1) fun d S2 => bindE δ (gi δ S2) fun kd S3 => (match stLst d y kd S3 with
  | some S4 => .ok .nx δ S4
  | none => .bad)) w fun y v δ S1 ι1 R1 Fr H1 ab lo ry w1 => by
    refine ⟨δ, S1, ι1, R1, Fr, ab, lo, wpS.bindE w1 lo fun d S2 x ι2 R2 H2 st ab2 rx w2 => ?_⟩
    refine ⟨δ, S2, ι2, R2, Fr, ab2, lo.step st, wpS.bindE w2 (lo.step st) fun kd S3 u ι3 R3 H3 st3 ab3 ru w3 => ?_⟩
    cases e : stLst d y kd S3 with
    | none => rw [e] at w3; exact w3.elim
    | some S4 =>
      rw [e] at w3
      obtain ⟨a, vs, i, j, rfl, rfl, hH, hj, ab4, st4⟩ := stLst_ok ab3 (rx.step st3) ((ry.step st).step st3) ru e
      exact ⟨a, vs, i, j, rfl, rfl, hH, hj, w3 _ ι3 R3 _ st4 ab4 (((lo.step st).step st3).step st4)⟩
end
/-! ### new lists by calls -/
def OpN (K : PySem.W.Frag) (r : List V → Hp → VK → Prop) (f : List D → Store → Oc (List D × Store)) : Prop := ∀ (Fr : Hp) (S : Store) (ι : Nat → Addr) (R H : Hp) (ds : List D) (xs : List V) (Q : VK) (E : XK), Ab K Fr S ι R H → RepL K R S ι ds xs → wpN K Fr S ι R (f ds S) Q E → r xs H Q
def xBN (f : List D → Store → Oc (List D × Store)) (args : LA) : LA := fun δ S => (args δ S).bind fun ds S1 => f ds S1
theorem xBN_read {K : PySem.W.Frag} {W : WX} {r : List V → Hp → VK → Prop} {f : List D → Store → Oc (List D × Store)} {g : LA} (h : OpN K r f) : ∀ σ H Q, cN K W (xBN f g) σ H Q → tCB r (cO (RepL K) K W g) σ H Q := fun σ H Q w =>
  cN.bind (rel := RepL K) (f := fun ds (_ : Lc) S1 => f ds S1) w fun ds xs δ S1 ι1 R1 Fr H1 ab lo rs w1 => h Fr S1 ι1 R1 H1 ds xs Q _ ab rs w1
theorem wpN.new {K : PySem.W.Frag} {S : Store} {ι : Nat → Addr} {R H : Hp} {ds : List D} {xs : List V} {Q : VK} {E : XK} {p : Addr} (w : wpN K Fr S ι R (.ok (ds, S)) Q E) (ab : Ab K Fr S ι R H) (rs : RepL K R S ι ds xs) (hp : H p = none) : Q (.ref p) (upd H p (.lst xs)) :=
  w p xs ι R _ .refl (Same.free ab.fsub hp) (ab.frame_new hp) rs
/-- list(x) -/
def nList : List D → Store → Oc (List D × Store) := fun ds S => match ds with
  | [d] => (match asS d S with
    | some xs => .ok (xs, S)
    | none => .bad)
  | _ => .bad
theorem nList_ok {K : PySem.W.Frag} : OpN K (fun xs H Q => ∃ p ys, xs = [.ref p] ∧ (SqL K H p ys ∨ SqT K H p ys) ∧ ∀ l, H l = none → Q (.ref l) (upd H l (.lst ys))) nList := fun Fr S ι R H ds xs Q E ab rs w => by
  match ds, rs, w with
  | [], _, w => exact w.elim
  | [d], rs, w =>
    obtain ⟨v, rfl, r⟩ := repL1 rs
    unfold nList at w
    dsimp only at w
    cases h : asS d S with
    | none => rw [h] at w; exact w.elim
    | some ys =>
      rw [h] at w
      obtain ⟨a, vs, rfl, q, r2⟩ := asS_ok ab r h
      exact ⟨a, vs, rfl, q, fun l hl => w.new ab r2 hl⟩
  | _ :: _ :: _, _, w => exact w.elim
def insI (x : Int) : List Int → List Int
  | [] => [x]
  | y :: ys => if x ≤ y then x :: y :: ys else y :: insI x ys
def sortI : List Int → List Int
  | [] => []
  | x :: xs => insI x (sortI xs)
theorem insI_perm (x : Int) : ∀ l, (insI x l).Perm (x :: l)
  | [] => .refl _
  | y :: ys => by
    unfold insI
    split
    · exact .refl _
    · exact ((insI_perm x ys).cons y).trans (.swap x y ys)
theorem sortI_perm : ∀ l, (sortI l).Perm l
  | [] => .refl _
  | x :: xs => (insI_perm x _).trans ((sortI_perm xs).cons x)
theorem insI_sorted (x : Int) : ∀ l, l.Pairwise (· ≤ ·) → (insI x l).Pairwise (· ≤ ·)
  | [], _ => by unfold insI; exact List.pairwise_singleton _ _
  | y :: ys, h => by
    unfold insI
    obtain ⟨h1, h2⟩ := List.pairwise_cons.mp h
    split
    · rename_i hx
      refine List.pairwise_cons.mpr ⟨fun z hz => ?_, h⟩
      rcases List.mem_cons.mp hz with e | e
      · rw [e]; exact hx
      · exact Int.le_trans hx (h1 z e)
    · rename_i hx
      refine List.pairwise_cons.mpr ⟨fun z hz => ?_, insI_sorted x ys h2⟩
      rcases List.mem_cons.mp ((insI_perm x ys).mem_iff.mp hz) with e | e
      · rw [e]; omega
      · exact h1 z e
theorem sortI_sorted : ∀ l, (sortI l).Pairwise (· ≤ ·)
  | [] => .nil
  | x :: xs => insI_sorted x _ (sortI_sorted xs)
theorem perm_uniq {α : Type} {le : α → α → Prop} (anti : ∀ a b, le a b → le b a → a = b) : ∀ {l m : List α}, l.Perm m → l.Pairwise le → m.Pairwise le → l = m
  | [], m, p, _, _ => (List.nil_perm.mp p).symm
  | x :: xs, [], p, _, _ => absurd p.length_eq (by simp)
  | x :: xs, y :: ys, p, h1, h2 => by
    obtain ⟨a1, a2⟩ := List.pairwise_cons.mp h1
    obtain ⟨b1, b2⟩ := List.pairwise_cons.mp h2
    have e : x = y := by
      rcases List.mem_cons.mp (p.mem_iff.mp (List.mem_cons_self (a := x) (l := xs))) with e | hx
      · exact e
      · rcases List.mem_cons.mp (p.mem_iff.mpr (List.mem_cons_self (a := y) (l := ys))) with e | hy
        · exact e.symm
        · exact anti _ _ (a1 y hy) (b1 x hx)
    subst e
    rw [perm_uniq anti p.cons_inv a2 b2]
theorem sortI_uniq {l m : List Int} (p : m.Perm l) (h : m.Pairwise (· ≤ ·)) : m = sortI l :=
  perm_uniq (fun _ _ h1 h2 => Int.le_antisymm h1 h2) (p.trans (sortI_perm l).symm) h (sortI_sorted l)
theorem repL_ints {K : PySem.W.Frag} {R : Hp} {S : Store} {ι : Nat → Addr} : ∀ ns : List Int, RepL K R S ι (ns.map D.int) (ns.map V.int)
  | [] => repL_nil
  | n :: ns => repL_cons int_rep (repL_ints ns)
/-- pairs of ints -/
def prs (ds : List D) : Option (List (Int × Int)) := match ds with
  | [] => some []
  | .tup [.int i, .int j] :: ds => (prs ds).map ((i, j) :: ·)
  | _ => none
def prD (p : Int × Int) : D := .tup [.int p.1, .int p.2]
def lexLe (p q : Int × Int) : Bool := decide (p.1 < q.1) || (decide (p.1 = q.1) && decide (p.2 ≤ q.2))
theorem lexLe_iff {p q : Int × Int} : lexLe p q = true ↔ p.1 < q.1 ∨ (p.1 = q.1 ∧ p.2 ≤ q.2) := by
  unfold lexLe
  simp
def insP (x : Int × Int) : List (Int × Int) → List (Int × Int)
  | [] => [x]
  | y :: ys => if lexLe x y = true then x :: y :: ys else y :: insP x ys
def sortP : List (Int × Int) → List (Int × Int)
  | [] => []
  | x :: xs => insP x (sortP xs)
theorem insP_perm (x : Int × Int) : ∀ l, (insP x l).Perm (x :: l)
  | [] => .refl _
  | y :: ys => by
    unfold insP
    split
    · exact .refl _
    · exact ((insP_perm x ys).cons y).trans (.swap x y ys)
theorem sortP_perm : ∀ l, (sortP l).Perm l
  | [] => .refl _
  | x :: xs => (insP_perm x _).trans ((sortP_perm xs).cons x)
theorem lexLe_trans {p q r : Int × Int} (h1 : lexLe p q = true) (h2 : lexLe q r = true) : lexLe p r = true := by
  rw [lexLe_iff] at *; omega
theorem lexLe_total {p q : Int × Int} (h : ¬ lexLe p q = true) : lexLe q p = true := by
  rw [lexLe_iff] at *; omega
theorem lexLe_anti {p q : Int × Int} (h1 : lexLe p q = true) (h2 : lexLe q p = true) : p = q := by
  rw [lexLe_iff] at *
  obtain ⟨a, b⟩ := p
  obtain ⟨c, d⟩ := q
  have : a = c := by dsimp only at *; omega
  have : b = d := by dsimp only at *; omega
  simp [*]
theorem insP_sorted (x : Int × Int) : ∀ l, l.Pairwise (fun p q => lexLe p q = true) → (insP x l).Pairwise (fun p q => lexLe p q = true)
  | [], _ => by unfold insP; exact List.pairwise_singleton _ _
  | y :: ys, h => by
    unfold insP
    obtain ⟨h1, h2⟩ := List.pairwise_cons.mp h
    split
    · rename_i hx
      refine List.pairwise_cons.mpr ⟨fun z hz => ?_, h⟩
      rcases List.mem_cons.mp hz with e | e
      · rw [e]; exact hx
      · exact lexLe_trans hx (h1 z e)
    · rename_i hx
      refine List.pairwise_cons.mpr ⟨fun z hz => ?_, insP_sorted x ys h2⟩
      rcases List.mem_cons.mp ((insP_perm x ys).mem_iff.mp hz) with e | e
      · rw [e]; exact lexLe_total hx
      · exact h1 z e
theorem sortP_sorted : ∀ l, (sortP l).Pairwise (fun p q => lexLe p q = true)
  | [] => .nil
  | x :: xs => insP_sorted x _ (sortP_sorted xs)
theorem sortP_uniq {l m : List (Int × Int)} (p : m.Perm l) (h : m.Pairwise (fun p q => lexLe p q = true)) : m = sortP l :=
  perm_uniq (fun _ _ h1 h2 => lexLe_anti h1 h2) (p.trans (sortP_perm l).symm) h (sortP_sorted l)
inductive All2 {α β : Type} (r : α → β → Prop) : List α → List β → Prop
  | nil : All2 r [] []
  | cons {a b as bs} (h : r a b) (t : All2 r as bs) : All2 r (a :: as) (b :: bs)
def PrAt (K : PySem.W.Frag) (H : Hp) (x : V) (p : Int × Int) : Prop := ∃ t, x = .ref t ∧ SqT K H t [.int p.1, .int p.2]
/-- sorted(xs), xs a list of pairs of ints -/
def rSortedPT (K : PySem.W.Frag) : List V → Hp → VK → Prop := fun vs H Q => ∃ (a : Addr) (xs : List V) (ps : List (Int × Int)) (rel : V → Int × Int → Prop), vs = [V.ref a] ∧ SqL K H a xs ∧ All2 rel xs ps ∧ (∀ x p, rel x p → PrAt K H x p) ∧
  ∀ ys l, All2 rel ys (sortP ps) → H l = none → Q (.ref l) (upd H l (.lst ys))
theorem all2_of {α β : Type} {r : α → β → Prop} {k : α → β} : ∀ {xs : List α}, (∀ x ∈ xs, r x (k x)) → All2 r xs (xs.map k)
  | [], _ => .nil
  | x :: xs, h => .cons (h x (List.mem_cons_self ..)) (all2_of fun y hy => h y (List.mem_cons_of_mem _ hy))
theorem all2_map {α β : Type} {r : α → β → Prop} {k : α → β} : ∀ {xs : List α} {ps : List β}, All2 r xs ps → (∀ x p, x ∈ xs → r x p → k x = p) → ps = xs.map k ∧ ∀ x ∈ xs, r x (k x)
  | [], _, .nil, _ => ⟨rfl, fun _ h => nomatch h⟩
  | x :: xs, p :: ps, .cons h t, u => by
    obtain ⟨e, q⟩ := all2_map t fun y p hy => u y p (List.mem_cons_of_mem _ hy)
    have e0 := u x p (List.mem_cons_self ..) h
    refine ⟨by rw [List.map_cons, ← e, e0], fun y hy => ?_⟩
    rcases List.mem_cons.mp hy with e1 | hy
    · subst e1; rw [e0]; exact h
    · exact q y hy
theorem lexB_le {p q : Int × Int} (h : SrtO.lexB q p = false) : lexLe p q = true := by
  rw [SrtO.lexB_no] at h
  rw [lexLe_iff]
  omega
open Classical in
theorem cr_sortedPT {X : Cx} : CallR X (.builtin "sorted") (rSortedPT X.K) := by
  intro pins s σ H vs us Q I r h
  obtain ⟨a, xs, ps, rel, rfl, hs, hp, hx, q⟩ := h
  obtain ⟨its, rv, hl, hz⟩ := I.list hs
  obtain ⟨u, rfl, ru⟩ := vals1 r
  obtain rfl : u = Value.ref a := ru
  obtain ⟨k, hk⟩ : ∃ k : V → Int × Int, ∀ x p, rel x p → k x = p := by
    refine ⟨fun x => if h : ∃ p, rel x p then Classical.choose h else (0, 0), fun x p hr => ?_⟩
    have hh : ∃ p, rel x p := ⟨p, hr⟩
    dsimp only
    rw [dif_pos hh]
    obtain ⟨t, e1, q1⟩ := hx x p hr
    obtain ⟨t', e2, q2⟩ := hx x _ (Classical.choose_spec hh)
    subst e1
    cases e2
    have e := I.tuple_inj q1 q2
    injection e with e3 e4
    injection e3 with e3
    injection e4 with e4 _
    injection e4 with e4
    exact Prod.ext e3.symm e4.symm
  obtain ⟨ep, hrel⟩ := all2_map hp fun x p _ hr => hk x p hr
  have hmem : ∀ x ∈ xs, ∃ t, x = V.ref t ∧ SqT X.K H t [.int (k x).1, .int (k x).2] := fun x m => hx x _ (hrel x m)
  obtain ⟨e1, e2⟩ := refs_back rv fun x m => by
    obtain ⟨t, e, _⟩ := hmem x m
    exact ⟨t, e⟩
  refine SrtO.sorted_pairsO (k := fun u => k (backV u)) hl.isList (by rw [← rv.length]; exact hz) (fun v hv => ?_) fun h' d out h1 h2 kp hd hn => ?_
  · obtain ⟨t, rfl⟩ := e2 v hv
    have hm : V.ref t ∈ xs := by rw [e1]; exact List.mem_map.mpr ⟨_, hv, rfl⟩
    obtain ⟨t', e, ht⟩ := hmem _ hm
    cases e
    obtain ⟨its2, r2, p2, _⟩ := I.tuple ht
    obtain ⟨u1, u2, rfl, ri, rj⟩ := vals2 r2
    obtain ⟨t1, rfl⟩ := ri
    obtain ⟨t2, rfl⟩ := rj
    obtain ⟨o, ho, hc, n, hd⟩ := p2
    exact ⟨t, o, t1, t2, n, rfl, ho, hc, hd⟩
  · have h3 : ∀ u ∈ out, ∃ a, u = Value.ref a := fun u hu => e2 u (h2.perm.mem_iff.mp hu)
    obtain ⟨n, hn⟩ := hn
    have hb : SrtO.Stb (ltP k) (out.map backV) xs := by
      rw [e1]
      exact SrtO.Stb.map (ltP_swo k) backV h2
    refine ⟨.ref d, upd H d (.lst (out.map backV)), I.laid (t' := s.toks) kp hd ⟨?_, out, n, vals_back h3, hn⟩, rfl, q _ d ?_ (I.hok.fresh hd)⟩
    · rw [hb.len]
      exact hz
    · have hsrt : SrtO.Srtd (ltP k) (out.map backV) := SrtO.srtd_map h1
      have e3 : sortP ps = (out.map backV).map k := by
        refine (sortP_uniq ?_ ?_).symm
        · rw [ep]; exact hb.perm.map k
        · rw [List.pairwise_map]
          exact List.Pairwise.imp (fun h => lexB_le h) hsrt
      rw [e3]
      exact all2_of fun x hx => hrel x (hb.perm.mem_iff.mp hx)
/-- sorted(x): ints, pairs of ints -/
def nSorted : List D → Store → Oc (List D × Store) := fun ds S => match ds with
  | [d] => (match asL d S with
    | some xs => (match nts xs with
      | some ns => .ok ((sortI ns).map D.int, S)
      | none => (match prs xs with
        | some ps => .ok ((sortP ps).map prD, S)
        | none => .bad))
    | none => .bad)
  | _ => .bad
def rSortedA (K : PySem.W.Frag) : List V → Hp → VK → Prop := fun xs H Q => rSortedI K xs H Q ∨ rSortedPT K xs H Q
theorem cr_sortedA {X : Cx} : CallR X (.builtin "sorted") (rSortedA X.K) := CallR.or cr_sortedI cr_sortedPT
theorem prs_ok {K : PySem.W.Frag} {R : Hp} {S : Store} {ι : Nat → Addr} : ∀ {ds : List D} {xs : List V} {ps : List (Int × Int)}, RepL K R S ι ds xs → prs ds = some ps → All2 (fun x p => Rep K R S ι (prD p) x) xs ps
  | [], xs, ns, r, e => by unfold RepL at r; cases e; subst r; exact .nil
  | d :: ds, xs, ns, r, e => by
    unfold RepL at r
    obtain ⟨v, vs, rfl, r1, r2⟩ := r
    unfold prs at e
    split at e
    · rename_i heq; cases heq
    · rename_i i j ds' heq
      cases heq
      cases h : prs ds with
      | none => rw [h] at e; cases e
      | some ms =>
        rw [h] at e
        cases e
        exact .cons r1 (prs_ok r2 h)
    · cases e
theorem repL_all2 {K : PySem.W.Frag} {R : Hp} {S : Store} {ι : Nat → Addr} : ∀ {ps : List (Int × Int)} {xs : List V}, All2 (fun x p => Rep K R S ι (prD p) x) xs ps → RepL K R S ι (ps.map prD) xs
  | [], _, .nil => repL_nil
  | _ :: _, _, .cons h t => repL_cons h (repL_all2 t)
theorem prD_at {K : PySem.W.Frag} {R H : Hp} {S : Store} {ι : Nat → Addr} {p : Int × Int} {x : V} (ab : Ab K Fr S ι R H) (r : Rep K R S ι (prD p) x) : PrAt K H x p := by
  unfold prD Rep at r
  obtain ⟨a, xs, rfl, q, rs⟩ := r
  obtain ⟨v, u, rfl, r1, r2⟩ := repL2 rs
  rw [rep_int r1, rep_int r2] at q
  exact ⟨a, rfl, seqT_sub ab.sub q⟩
theorem nSorted_ok {K : PySem.W.Frag} : OpN K (rSortedA K) nSorted := fun Fr S ι R H ds xs Q E ab rs w => by
  match ds, rs, w with
  | [], _, w => exact w.elim
  | [d], rs, w =>
    obtain ⟨v, rfl, r⟩ := repL1 rs
    unfold nSorted at w
    dsimp only at w
    cases h : asL d S with
    | none => rw [h] at w; exact w.elim
    | some ys =>
      rw [h] at w
      dsimp only at w
      obtain ⟨a, vs, rfl, q, r2⟩ := asL_ok ab r h
      cases hn : nts ys with
      | some ns =>
        rw [hn] at w
        have e := nts_ok hn r2
        subst e
        refine .inl ⟨a, ns, rfl, q, fun ns' p hp hs h0 => ?_⟩
        rw [sortI_uniq hp hs]
        exact w.new ab (repL_ints _) h0
      | none =>
        rw [hn] at w
        dsimp only at w
        cases hp : prs ys with
        | none => rw [hp] at w; exact w.elim
        | some ps =>
          rw [hp] at w
          exact .inr ⟨a, vs, ps, _, rfl, q, prs_ok r2 hp, fun x p hr => prD_at ab hr, fun zs l hz h0 => w.new ab (repL_all2 hz) h0⟩
  | _ :: _ :: _, _, w => exact w.elim
section
variable {X : Cx} {W : WX} {k : Nat} {e b : Expr} {g : LA} {pos p : Pos}
theorem dn_list (hm : X.mg "list" = none) (ha : DA X W [e] g) (hg : Gl X "list" := by rfl) (he : starEach [e] X.env = (false, eval e X.env) :: starEach [] X.env := by rfl) (hpl : (backTo pos (starEach [] X.env)).any (·.1) = false := by rfl) :
    DN X W (.Call (.Name "list" p) [e] [] pos) (xBN nList g) := PE.imp (pe_callTy call_list_of hg hm (by decide +kernel) ha (by decide) (by decide) he hpl) (xBN_read nList_ok)
theorem dn_sorted (hm : X.mg "sorted" = none) (ha : DA X W [e] g) (hg : Gl X "sorted" := by rfl) (he : starEach [e] X.env = (false, eval e X.env) :: starEach [] X.env := by rfl) (hpl : (backTo pos (starEach [] X.env)).any (·.1) = false := by rfl) :
    DN X W (.Call (.Name "sorted" p) [e] [] pos) (xBN nSorted g) := PE.imp (pe_callB cr_sortedA hg hm (by decide +kernel) ha (by decide) (by decide) he hpl) (xBN_read nSorted_ok)
end
section
variable {P : Program} {w : World} {K : PySem.W.Frag} {mg : Str → Option Value} {base : Heap}
/-- a def of which nothing is promised -/
theorem fn_bad {x qual : Str} {params : Arguments} {body : List Stmt} {scope : Scope} {dvs : List V} {kws : List (Str × V)} {f : Addr} {fd : FuncData} {N ps : List Str} {k : Nat}
    (F : FunD K x qual params body scope dvs kws f fd) (S : FnScope N ps scope) : FnD P w K mg base (k + 1) f fd ps (fun _ _ => .bad) :=
  FunD.ok F S (fun vs H Q E h => h.1) fun _ _ _ _ _ vs Q E _ h => by
    obtain ⟨_, ds, S, ι, R, Fr, _, _, w⟩ := h
    exact w.elim
end
end DL

set_option Elab.async false
set_option linter.all false
set_option maxRecDepth 100000
set_option maxHeartbeats 4000000
namespace DL
open PySem PySem.Spec L2
variable {Fr : Hp}
/-! ### enumerate of a list, a tuple, a text, from a count on -/
inductive Kd where
  | l | t | s
inductive SeqV (K : PySem.W.Frag) (H : Hp) : Kd → V → List V → Prop
  | lst {a : Addr} {xs : List V} (h : SqL K H a xs) : SeqV K H .l (.ref a) xs
  | tup {a : Addr} {xs : List V} (h : SqT K H a xs) : SeqV K H .t (.ref a) xs
  | str {z : Str} : SeqV K H .s (.str z) (z.cps.toList.map fun c => .str ⟨#[c]⟩)
/-- what an iterator over such a thing is like -/
def IterAt (k : Kd) (h : Heap) (it : Addr) (v : Value) (i : Nat) : Prop := match k, v with
  | .l, .ref a => h.IsListIter it a i
  | .t, .ref a => h.IsTupleIter it a i
  | .s, .str x t => h.IsStrIter it (strIterType x) x t i
  | _, _ => False
theorem IterAt.cas {k : Kd} {h : Heap} {it : Addr} {v : Value} {i : Nat} (q : IterAt k h it v i) : ∃ o n vs, h.get? it = some o ∧ o.cls = .type n ∧ o.data = .fields vs ∧ ∀ h' : Heap, h'.get? it = some o → IterAt k h' it v i := by
  cases k <;> cases v <;> first
    | exact q.elim
    | (obtain ⟨o, e, c, d⟩ := q; exact ⟨o, _, _, e, c, d, fun h' e' => ⟨o, e', c, d⟩⟩)
/-- the iterator draws what the thing holds -/
structure Drw (P : Program) (w : World) (A : Around) (k : Kd) (it : Addr) (v : Value) (xs : List V) (h0 : Heap) (i0 : Nat) where
  fp : List Addr
  Pd : Nat → Value → Prop
  Sd : Nat → Heap → Prop
  D : Draws P w A it fp xs.length Pd Sd
  at0 : Sd i0 h0
  fps : ∀ b ∈ fp, b = it ∨ v = .ref b
  fin : ∀ i, xs.length ≤ i → ∀ (s : Shared) (Q E : Value → Shared → Prop), Sd i s.heap → (∀ h' e, Heap.ExtBut it s.heap h' → (∃ o, h'.get? e = some o ∧ o.cls = .type "StopIteration") → E (.ref e) { s with heap := h' }) → wpAny (model P w) A (Builtin.SmallTypes.nextOf (.ref it)) Q E s
  val : ∀ j u, Pd j u → ∃ x, xs[j]? = some x ∧ RelV x u
  next : ∀ j h, Sd j h → IterAt k h it v j
theorem vals_at {ys : List V} {us : List Value} (h : Vals ys us) (j : Nat) (u : Value) (e : us.toArray[j]? = some u) : ∃ y, ys[j]? = some y ∧ RelV y u := by
  have e : us[j]? = some u := by simpa using e
  have hj := (List.getElem?_eq_some_iff.mp e).1
  have hl := h.length
  obtain ⟨u', e', ry⟩ := h.get (List.getElem?_eq_getElem (show j < ys.length by omega))
  rw [e] at e'
  cases e'
  exact ⟨_, List.getElem?_eq_getElem (by omega), ry⟩
theorem drw_of {X : Cx} {pins : List (Addr × Obj)} {σ : L2.St} {H : Hp} {s : Shared} {x : V} {v : Value} {xs : List V} {it : Addr} {i : Nat} {k : Kd} (hh : X.A.in1.handled = none) (I : Inv X pins σ H s) (hs : SeqV X.K H k x xs) (r : RelV x v) (q : IterAt k s.heap it v i) : Nonempty (Drw X.prog X.w X.A.in1 k it v xs s.heap i) := by
  cases hs with
  | @lst a _ h =>
    cases r
    obtain ⟨us, rv, p, hz⟩ := I.list h
    have hl := p.isList
    have q : s.heap.IsListIter it a i := q
    have hn : us.toArray.size = xs.length := by rw [List.size_toArray]; exact rv.length.symm
    have hne : a ≠ it := fun z => by
      obtain ⟨o, e, c, d⟩ := q
      obtain ⟨o', e', c', _⟩ := hl
      rw [← z, e'] at e
      cases e
      rw [c'] at c
      exact absurd (Value.type.inj c) (by decide)
    exact ⟨⟨[it, a], fun j u => us.toArray[j]? = some u, fun j h => h.IsListIter it a j ∧ h.IsList a us.toArray, hn ▸ Draws.list hh it a hne us.toArray, ⟨q, hl⟩, fun b hb => by
      rcases List.mem_cons.mp hb with e | hb
      · exact .inl e
      · have e : b = a := by simpa using hb
        exact .inr (by rw [e]), fun j hj s Q E z hE => wpAny_nextOf_list_end hh z.1 z.2 (Array.getElem?_eq_none (by omega)) hE, vals_at rv, fun j h z => z.1⟩⟩
  | @tup a _ h =>
    cases r
    obtain ⟨us, rv, p, hz⟩ := I.tuple h
    have q : s.heap.IsTupleIter it a i := q
    have hn : us.toArray.size = xs.length := by rw [List.size_toArray]; exact rv.length.symm
    have hne : a ≠ it := fun z => by
      obtain ⟨o, e, c, d⟩ := q
      obtain ⟨o', e', c', _⟩ := p
      rw [← z, e'] at e
      cases e
      rw [c'] at c
      exact absurd (Value.type.inj c) (by decide)
    exact ⟨⟨[it, a], fun j u => us.toArray[j]? = some u, fun j h => h.IsTupleIter it a j ∧ h.IsTuple a us.toArray, hn ▸ Draws.tuple hh it a hne us.toArray, ⟨q, p⟩, fun b hb => by
      rcases List.mem_cons.mp hb with e | hb
      · exact .inl e
      · have e : b = a := by simpa using hb
        exact .inr (by rw [e]), fun j hj s Q E z hE => wpAny_nextOf_tuple_end hh z.1 z.2 (Array.getElem?_eq_none (by omega)) hE, vals_at rv, fun j h z => z.1⟩⟩
  | @str z0 =>
    obtain ⟨t, rfl⟩ := r
    have q : s.heap.IsStrIter it (strIterType z0) z0 t i := q
    have hn : z0.cps.size = (z0.cps.toList.map fun c => V.str ⟨#[c]⟩).length := by rw [List.length_map]; rfl
    exact ⟨⟨[it], fun j u => ∃ c tt, z0.cps[j]? = some c ∧ u = .str ⟨#[c]⟩ tt, fun j h => h.IsStrIter it (strIterType z0) z0 t j, hn ▸ Draws.text hh it z0 t, q, fun b hb => .inl (by simpa using hb), fun j hj s Q E z hE => by
      have hx : z0.cps[j]? = none := Array.getElem?_eq_none (by omega)
      cases ha : z0.cps.all (· < 128)
      · simp only [strIterType, ha, Bool.false_eq_true, if_false] at z
        exact wpAny_nextOf_wide_end hh z hx hE
      · simp only [strIterType, ha, if_true] at z
        exact wpAny_nextOf_ascii_end hh z hx hE, fun j u ⟨c, tt, e1, e2⟩ => ⟨.str ⟨#[c]⟩, by rw [List.getElem?_map, Array.getElem?_toList, e1]; rfl, tt, e2⟩, fun j h z => z⟩⟩
theorem SeqV.inj {X : Cx} {pins : List (Addr × Obj)} {σ : L2.St} {H : Hp} {s : Shared} {k : Kd} {x : V} {xs ys : List V} (I : Inv X pins σ H s) (h1 : SeqV X.K H k x xs) (h2 : SeqV X.K H k x ys) : xs = ys := by
  cases h1 with
  | lst h1 => cases h2 with | lst h2 => exact I.list_inj h1 h2
  | tup h1 => cases h2 with | tup h2 => exact I.tuple_inj h1 h2
  | str => cases h2; rfl
/-- pairs (c + i, item) -/
def ItE (K : PySem.W.Frag) (k : Kd) (c : Int) (x : V) : It :=
  ⟨fun i H => ∃ xs y, SeqV K H k x xs ∧ xs[i]? = some y,
   fun i H v H' => ∃ T y, v = .ref T ∧ H T = none ∧ H' = upd H T (.tup [.int (c + (i : Nat)), y]) ∧ ∀ xs, SeqV K H k x xs → xs[i]? = some y,
   fun i H => ∃ xs, SeqV K H k x xs ∧ xs.length ≤ i⟩
theorem turn_enumE {P : Program} {w : World} {K : PySem.W.Frag} {elts : List Expr} {kk : Nat} {tpos : Pos} (k : Kd) (c : Int) (x : V) (v : Value) (rx : RelV x v) (e it : Addr) (hne : e ≠ it) :
    Turn P w K (.Tuple elts kk tpos) (ItE K k c x) [e, it] e (fun i h => (∃ old, IsEnum h e it (c + (i : Nat)) old) ∧ IterAt k h it v i ∧ (∀ b, v = .ref b → b ≠ e)) where
  mem := List.mem_cons_self ..
  obj := fun i h ⟨⟨old, he⟩, q, _⟩ b hb => by
    rcases List.mem_cons.mp hb with z | hb
    · subst z; exact ⟨_, he, fun u q => nomatch q⟩
    · have z : b = it := by simpa using hb
      subst z
      obtain ⟨o, n, vs, e1, _, d, _⟩ := q.cas
      exact ⟨o, e1, fun u z => by rw [d] at z; cases z⟩
  keep := fun i h h' ⟨⟨old, he⟩, q, hv⟩ kp => by
    obtain ⟨o, n, vs, e1, _, d, f⟩ := q.cas
    exact ⟨⟨old, kp e (List.mem_cons_self ..) _ he⟩, f h' (kp it (by simp) o e1), hv⟩
  item := by
    intro X hP hw hK hc i pins s σ H E I hf ⟨⟨old, he⟩, q, hv⟩ ⟨xs, y, hs, hy⟩
    subst hP hw hK
    obtain ⟨W⟩ := drw_of (by exact I.ok.hd hc) I hs rx q
    have hel : e < s.heap.objs.size := Heap.lt_size he
    have hfe : e ∉ W.fp := fun hm => by
      rcases W.fps e hm with z | z
      · exact hne z
      · exact hv e z rfl
    refine wpAny_pyNext_enum_itemC W.D he W.at0 ((List.getElem?_eq_some_iff.mp hy).1) hne hfe fun u h' tk hP' ho hS' hT hz hk => ?_
    obtain ⟨y', hy', ry⟩ := W.val i u hP'
    rw [hy] at hy'
    cases hy'
    refine ⟨_, rfl, wpAny_letOwnedTupleGo_enum (s := { s with heap := h', toks := tk + 1 }) ho fun h2 he2 sb => ?_⟩
    have hT2 : h2.get? s.heap.objs.size = some { cls := .type "tuple", data := .seq #[.int (c + (i : Nat)) tk, u] } := by rw [sb.2 _ (Nat.ne_of_gt hel)]; exact hT
    have nw : ObjOk X.prog X.w (upd H s.heap.objs.size (.tup [.int (c + (i : Nat)), y])) h2 s.heap.objs.size (.tup [.int (c + (i : Nat)), y]) :=
      ⟨by show 2 ≤ sizeLine; rw [sizeLine_eq]; omega, [.int (c + (i : Nat)) tk, u], .cons ⟨tk, rfl⟩ (.cons ry .nil), ⟨_, hT2, rfl, _, rfl⟩⟩
    have I2 : Inv X pins σ (upd H s.heap.objs.size (.tup [.int (c + (i : Nat)), y])) { s with heap := h2, toks := tk + 1 } := by
      refine I.turnedNew (ch := [e, it]) (fun b o hb z => ?_) hf (Nat.le_refl _) nw
      have b1 : b ≠ e := fun q => hb (by simp [q])
      have b2 : b ≠ it := fun q => hb (by simp [q])
      rw [sb.2 b b1]
      exact hk b o b1 b2 z
    refine ⟨.ref s.heap.objs.size, _, I2, rfl, ⟨_, y, rfl, I.hok.fresh (Nat.le_refl _), rfl, fun ys h3 => by rw [SeqV.inj I h3 hs]; exact hy⟩, ⟨⟨u, ?_⟩, ?_, hv⟩, fun b hb => ?_⟩
    · rw [show c + ((i + 1 : Nat) : Int) = c + (i : Nat) + 1 by omega]
      exact he2
    · have z := W.next (i + 1) h' hS'
      obtain ⟨o, n, vs, e1, _, _, f⟩ := z.cas
      exact f h2 (by rw [sb.2 it (Ne.symm hne)]; exact e1)
    · have hlt : b < s.heap.objs.size := by
        rcases List.mem_cons.mp hb with z | hb
        · subst z; exact hel
        · have z : b = it := by simpa using hb
          subst z
          obtain ⟨o, n, vs, e1, _⟩ := q.cas
          exact Heap.lt_size e1
      rw [upd_ne (Nat.ne_of_lt hlt)]
      exact (hf b hb).1
  done := by
    intro X hP hw hK hc i pins s σ H E I hf ⟨⟨old, he⟩, q, hv⟩ ⟨xs, hs, hl⟩
    subst hP hw hK
    obtain ⟨W⟩ := drw_of (by exact I.ok.hd hc) I hs rx q
    obtain ⟨f0, f1, f2, f3, f4, f5⟩ := hf it (by simp)
    have W2 : Draws X.prog X.w X.A.in1 it W.fp i W.Pd (fun j h => W.Sd j h ∧ i ≤ j) := ⟨fun j h z => W.D.live j h z.1, fun j h h' z kp => ⟨W.D.frame j h h' z.1 kp, z.2⟩, fun j s Q E hj z _ => absurd z.2 (by omega), fun s Q E z hE => W.fin i hl s Q E z.1 hE⟩
    exact wpAny_pyNext_enum_endD W2 he ⟨W.at0, Nat.le_refl _⟩ fun h' eb => ⟨rfl, I.turned (t' := s.toks) (fun b o hb z => eb b o hb z) f0 f1 f3 f4 f5⟩
  self := fun A i s Q E ⟨⟨old, he⟩, _⟩ h => wpAny_pyIter_enum he h
/-! enumerate(v), enumerate(v, start=c) -/
theorem begins_of {X : Cx} {pins : List (Addr × Obj)} {σ : L2.St} {H : Hp} {s : Shared} {k : Kd} {x : V} {v : Value} {xs : List V} (I : Inv X pins σ H s) (hs : SeqV X.K H k x xs) (r : RelV x v) :
    ∃ (o : Obj) (Hc : Heap → Prop), Begins v o Hc ∧ Hc s.heap ∧ (∀ (h' : Heap) (it : Addr), h'.get? it = some o → IterAt k h' it v 0) ∧ ∀ b, v = .ref b → b < s.heap.objs.size := by
  cases hs with
  | @lst a _ h =>
    cases r
    obtain ⟨us, rv, p, hz⟩ := I.list h
    exact ⟨_, _, begins_list a us.toArray, p.isList, fun h' it e => ⟨_, e, rfl, rfl⟩, fun b e => by cases e; obtain ⟨o, e, _⟩ := p.isList; exact Heap.lt_size e⟩
  | @tup a _ h =>
    cases r
    obtain ⟨us, rv, p, hz⟩ := I.tuple h
    exact ⟨_, _, begins_tuple a us.toArray, p, fun h' it e => ⟨_, e, rfl, rfl⟩, fun b e => by cases e; obtain ⟨o, e, _⟩ := p; exact Heap.lt_size e⟩
  | @str z =>
    obtain ⟨t, rfl⟩ := r
    exact ⟨_, _, begins_text z t, trivial, fun h' it e => ⟨_, e, rfl, rfl⟩, fun b e => by cases e⟩
set_option maxHeartbeats 1000000 in
theorem meets_enum1 {v : Value} {o : Obj} {Hc : Heap → Prop} (B : Begins v o Hc) : Meets (Builtin.«enumerate.__new__» ⟨[.type "enumerate", v], []⟩) (fun _ R s => Hc s.heap ∧
    R (.ok (.ret (.ref (s.heap.push o).objs.size))) { s with heap := (s.heap.push o).push { cls := .type "enumerate", data := .fields #[.none, .bool false, .ref s.heap.objs.size, rawInt 0, .none, .none] } }) := by
  refine .of_wp fun prog w A R s h => ?_
  obtain ⟨hp, g, d, tk, os⟩ := s
  obtain ⟨h1, h⟩ := h
  have hsub := sub_enumerate
  have go : ∀ {A' : Around} {E Q : Value → Shared → Prop}, Q (.ref hp.objs.size) ⟨hp.push o, g, d, tk, os⟩ → wpAny (model prog w) A' (pyIter v) Q E ⟨hp, g, d, tk, os⟩ := fun q => B.iter prog w _ _ _ _ h1 q
  wp_walk using go
  refine wpAny_stack_any fun st => wpAny_pure ?_
  split
  · rename_i c _ _ _ _ _
    cases (c == Value.type "enumerate") <;> (wp_walk using go; exact ⟨_, rfl, h⟩)
  · wp_walk using go
    exact ⟨_, rfl, h⟩
theorem call_enum1 {prog : Program} {w : World} {A : Around} {E : Value → Shared → Prop} {s : Shared} {v : Value} {o : Obj} {Hc : Heap → Prop} {Q : Value → Shared → Prop} (B : Begins v o Hc) (h1 : Hc s.heap)
    (h : ∀ h', IsEnum h' (s.heap.objs.size + 1) s.heap.objs.size 0 .none → h'.get? s.heap.objs.size = some o → (∀ b u, s.heap.get? b = some u → h'.get? b = some u) → Q (.ref (s.heap.objs.size + 1)) { s with heap := h' }) :
    wpAny (model prog w) A (call (.type "enumerate") [v]) Q E s := by
  refine callType_new F.called_enumerate (by decide) (F.typeCall_enumerate_1 _) (F.newCall_enumerate_1 _) (fun ob => F.args_object_init_2 ob _) F.entry_enumerate_new (meets_enum1 B) ⟨h1, ?_⟩
  have hz : (s.heap.push o).objs.size = s.heap.objs.size + 1 := Heap.size_push ..
  show _ ∧ _
  rw [hz]
  have he : IsEnum ((s.heap.push o).push { cls := .type "enumerate", data := .fields #[.none, .bool false, .ref s.heap.objs.size, rawInt 0, .none, .none] }) (s.heap.objs.size + 1) s.heap.objs.size 0 .none := by
    rw [← hz]
    exact Heap.get?_push_size (s.heap.push o) rfl
  exact ⟨⟨_, he, rfl⟩, h _ he (Heap.get?_push_of_some _ (Heap.get?_push_size _ B.free)) fun b u x => Heap.get?_push_of_some _ (Heap.get?_push_of_some _ x)⟩
/-- what the call has laid -/
theorem enum_laid {X : Cx} {pins : List (Addr × Obj)} {σ : L2.St} {H : Hp} {s : Shared} {h' : Heap} {k : Kd} {c : Int} {x : V} {v : Value} {elts : List Expr} {kk : Nat} {tpos : Pos} {o : Obj} {R : It → Hp → Prop} (I : Inv X pins σ H s) (rx : RelV x v)
    (he : IsEnum h' (s.heap.objs.size + 1) s.heap.objs.size c .none) (ho : h'.get? s.heap.objs.size = some o) (hk : ∀ b u, s.heap.get? b = some u → h'.get? b = some u) (hi : ∀ (h' : Heap) (it : Addr), h'.get? it = some o → IterAt k h' it v 0)
    (hb : ∀ b, v = .ref b → b < s.heap.objs.size) (q : R (ItE X.K k c x) H) : PIE X pins σ (.Tuple elts kk tpos) R (.ref (s.heap.objs.size + 1)) { s with heap := h' } := by
  refine ⟨s.heap.objs.size + 1, [s.heap.objs.size + 1, s.heap.objs.size], _, _, H, rfl, I.kept (t' := s.toks) hk, turn_enumE k c x v rx (s.heap.objs.size + 1) s.heap.objs.size (Nat.succ_ne_self _), ⟨⟨.none, ?_⟩, hi h' _ ho, fun b e z => ?_⟩, fun b hb' => ?_, q⟩
  · rw [show c + ((0 : Nat) : Int) = c by omega]; exact he
  · exact absurd z (Nat.ne_of_lt (Nat.lt_succ_of_lt (hb b e)))
  · have hle : s.heap.objs.size ≤ b := by
      rcases List.mem_cons.mp hb' with z | z
      · rw [z]; exact Nat.le_succ _
      · have z : b = s.heap.objs.size := by simpa using z
        rw [z]; exact Nat.le_refl _
    exact I.fpOk hle (I.hok.fresh hle)
def iEnumE (K : PySem.W.Frag) (ta : TA) : TI := fun σ H R => ta σ H fun vs H1 => ∃ k x xs, vs = [x] ∧ SeqV K H1 k x xs ∧ R (ItE K k 0 x) H1
theorem pi_enumE {X : Cx} {e : Expr} {ta : TA} {p pos tpos : Pos} {elts : List Expr} {kk : Nat} (hg : Gl X "enumerate") (hm : X.mg "enumerate" = none) (ha : PA X [e] ta) (hs : starEach [e] X.env = [(false, eval e X.env)] := by rfl) :
    PI X (.Tuple elts kk tpos) (.Call (.Name "enumerate" p) [e] [] pos) (iEnumE X.K ta) := by
  refine ⟨fun pins s σ H R I h => ?_⟩
  refine PyProof.Rows.Call_ (ld_blt I hg hm PyProof.Rows.boot_enumerate (PyProof.Rows.callWith_type1 (thn (ha.run pos pins s σ H _ I h) fun us s1 ⟨vs, H1, I1, r1, k, x, xs, ex, hq, q⟩ => ?_) hs rfl))
  subst ex
  cases r1 with
  | cons r rr =>
    cases rr
    obtain ⟨o, Hc, B, h1, hi, hb⟩ := begins_of I1 hq r
    exact call_enum1 B h1 fun h' he ho hk => wpAny_pyIter_enum he (enum_laid I1 r he ho hk hi hb q)
def iEnumS (K : PySem.W.Frag) (ta tk : TA) : TI := fun σ H R => ta σ H fun vs H1 => tk σ H1 fun zs H2 => ∃ k x xs c, vs = [x] ∧ zs = [.int c] ∧ (-(2 ^ 63) ≤ c ∧ c < 2 ^ 63) ∧ SeqV K H2 k x xs ∧ R (ItE K k c x) H2
theorem callWith_tykw {M : Model} {A : Around} {E : Value → Shared → Prop} {s : Shared} {env : Env} {pos : Pos} {T : String} {e : Expr} {rest : List Expr} {kws : List Keyword} {Q : Value → Shared → Prop}
    (h : wpAny M A (spliced (backTo pos (starEach (e :: rest) env))) (fun vs s₁ => wpAny M A (evalAll ((backToKw pos (keywordEach kws env)).map (·.2))) (fun kvs s₂ => wpAny M A (call (.type T) vs (((backToKw pos (keywordEach kws env)).filterMap (·.1)).zip kvs)) Q E s₂) E s₁) E s)
    (he : backTo pos (starEach (e :: rest) env) = (false, eval e env) :: backTo pos (starEach rest env)) (hpl : (backTo pos (starEach (e :: rest) env)).any (·.1) = false)
    (hall : (backToKw pos (keywordEach kws env)).all (·.1.isSome) = true) (hkw : (backToKw pos (keywordEach kws env)).any (·.1.isNone) = false) :
    wpAny M A (callWith pos (.type T) [] (backTo pos (starEach (e :: rest) env)) (backToKw pos (keywordEach kws env))) Q E s := by
  have h2 : wpAny M A (evalArgs (.type T) true (backTo pos (starEach (e :: rest) env)) (backToKw pos (keywordEach kws env))) (fun a s₁ => wpAny M A (call (.type T) ([] ++ a.pos) a.kw) Q E s₁) E s := by
    rw [he] at h ⊢
    exact PyProof.Rows.evalArgs_kwB hall h
  unfold callWith
  refine wpAny_bind (wpAny_holding (wpAny_mono h2 (fun a s1 h1 => wpAny_bind (wpAny_standAt ?_)) fun _ _ x => x))
  simp only [hpl, hkw, Bool.or_false]
  refine wpAny_bind (wpAny_pure ?_)
  exact wpAny_bind (wpAny_mono h1 (fun r s2 hr => wpAny_bind (wpAny_holding (wpAny_point (wpAny_pure hr)))) fun _ _ x => x)
theorem pi_enumS {X : Cx} {e e2 : Expr} {ta tk : TA} {p p2 pos tpos : Pos} {elts : List Expr} {kk : Nat} (hg : Gl X "enumerate") (hm : X.mg "enumerate" = none) (ha : PA X [e] ta) (hk : PK X [⟨some "start", e2, p2⟩] tk)
    (he : backTo pos (starEach [e] X.env) = (false, eval e X.env) :: backTo pos (starEach [] X.env) := by rfl) (hpl : (backTo pos (starEach [e] X.env)).any (·.1) = false := by rfl)
    (hall : (backToKw pos (keywordEach [⟨some "start", e2, p2⟩] X.env)).all (·.1.isSome) = true := by rfl) (hnone : (backToKw pos (keywordEach [⟨some "start", e2, p2⟩] X.env)).any (·.1.isNone) = false := by rfl)
    (hks : (backToKw pos (keywordEach [⟨some "start", e2, p2⟩] X.env)).filterMap (·.1) = [("start" : Str)] := by rfl) :
    PI X (.Tuple elts kk tpos) (.Call (.Name "enumerate" p) [e] [⟨some "start", e2, p2⟩] pos) (iEnumS X.K ta tk) := by
  refine ⟨fun pins s σ H R I h => ?_⟩
  refine wpAny_Call_Name_kw (ld_blt I hg hm PyProof.Rows.boot_enumerate ?_)
  refine callWith_tykw (thn (ha.run pos pins s σ H _ I h) fun us s1 ⟨vs, H1, I1, r1, q1⟩ => thn (hk.run pos pins s1 σ H1 _ I1 q1) fun ws s2 ⟨zs, H2, I2, r2, k, x, xs, c, e1, e2, hc, hq, q⟩ => ?_) he hpl hall hnone
  rw [hks]
  subst e1 e2
  cases r1 with
  | cons r rr =>
    cases rr
    cases r2 with
    | cons r2 rr =>
      cases rr
      obtain ⟨t, rfl⟩ := r2
      obtain ⟨o, Hc, B, h1, hi, hb⟩ := begins_of I2 hq r
      exact enum_begins_start B h1 hc.1 hc.2 fun h' he ho hz hk => wpAny_pyIter_enum he (enum_laid I2 r he ho hk hi hb q)
/-! by meaning -/
def seqD (d : D) (S : Store) : Option (Kd × List D) := match d with
  | .str z => some (.s, signs z)
  | .tup ds => some (.t, ds)
  | d => (asL d S).map fun ds => (.l, ds)
theorem seqD_ok {K : PySem.W.Frag} {S : Store} {ι : Nat → Addr} {R H : Hp} {d : D} {k : Kd} {ds : List D} {v : V} (ab : Ab K Fr S ι R H) (r : Rep K R S ι d v) (e : seqD d S = some (k, ds)) : ∃ xs, SeqV K H k v xs ∧ RepL K R S ι ds xs := by
  have go : (asL d S).map (fun ds => (Kd.l, ds)) = some (k, ds) → ∃ xs, SeqV K H k v xs ∧ RepL K R S ι ds xs := fun e => by
    cases h : asL d S with
    | none => rw [h] at e; cases e
    | some es =>
      rw [h] at e
      cases e
      obtain ⟨a, xs, rfl, q, rs⟩ := asL_ok ab r h
      exact ⟨xs, .lst q, rs⟩
  cases d with
  | str z =>
    cases e
    rw [rep_str r]
    refine ⟨_, .str, ?_⟩
    unfold signs
    induction z.cps.toList with
    | nil => exact repL_nil
    | cons c cs ih => exact repL_cons str_rep ih
  | tup es =>
    cases e
    unfold Rep at r
    obtain ⟨a, xs, rfl, q, rs⟩ := r
    exact ⟨xs, .tup (seqT_sub ab.sub q), rs⟩
  | _ => exact go e
def enumL (c : Int) : List D → List D
  | [] => []
  | d :: ds => .tup [.int c, d] :: enumL (c + 1) ds
theorem enumL_at (c : Int) : ∀ (ds : List D) (i : Nat), (enumL c ds)[i]? = (ds[i]?).map fun d => .tup [.int (c + (i : Nat)), d] := by
  intro ds
  induction ds generalizing c with
  | nil => intro i; rfl
  | cons d ds ih =>
    intro i
    cases i with
    | zero => show some (D.tup [.int c, d]) = _; simp
    | succ i =>
      show (enumL (c + 1) ds)[i]? = _
      rw [ih, List.getElem?_cons_succ, show c + 1 + (i : Int) = c + ((i + 1 : Nat) : Int) by omega]
theorem enumL_len (c : Int) : ∀ ds : List D, (enumL c ds).length = ds.length
  | [] => rfl
  | d :: ds => congrArg Nat.succ (enumL_len (c + 1) ds)
/-- the thing, as it stood when the walk began, stands -/
def stays (d : D) (S : Store) (S' : Store) : Prop := match d with
  | .ref n => S'[n]? = S[n]?
  | _ => True
theorem stays_seq {d : D} {S S' : Store} (h : stays d S S') : seqD d S' = seqD d S := by
  cases d with
  | ref n =>
    unfold seqD asL
    dsimp only
    rw [show S'[n]? = S[n]? from h]
  | _ => rfl
def srcEnum (c : Int) (d : D) (S : Store) : Oc (Src × Store) := match seqD d S with
  | some (_, ds) => .ok (⟨enumL c ds, stays d S⟩, S)
  | none => .bad
theorem enumIt {K : PySem.W.Frag} {S : Store} {ι : Nat → Addr} {R H : Hp} {d : D} {k : Kd} {ds : List D} {v : V} {c : Int} (r : Rep K R S ι d v) (e : seqD d S = some (k, ds)) : relIt K R S ι ⟨enumL c ds, stays d S⟩ (ItE K k c v) := by
  intro Fr S' ι' R' H' i st ab' ok
  have ok : stays d S S' := ok
  have e' := (stays_seq ok).trans e
  obtain ⟨xs, hs, rs⟩ := seqD_ok ab' (r.step st) e'
  refine ⟨fun d' hd' => ?_, fun hl => ⟨xs, hs, by rw [rs.length]; rw [show (Src.items ⟨enumL c ds, stays d S⟩) = enumL c ds from rfl, enumL_len] at hl; exact hl⟩⟩
  have hd' : (enumL c ds)[i]? = some d' := hd'
  rw [enumL_at] at hd'
  cases hx : ds[i]? with
  | none => rw [hx] at hd'; cases hd'
  | some y =>
    rw [hx] at hd'
    cases hd'
    obtain ⟨u, hu, ru⟩ := rs.get hx
    refine ⟨⟨xs, u, hs, hu⟩, fun x H2 ⟨T, y', e1, hT, e2, hy⟩ => ?_⟩
    subst e1 e2
    have := hy xs hs
    rw [hu] at this
    cases this
    obtain ⟨ab2, st2⟩ := ab'.rnew (o := .tup [.int (c + (i : Nat)), u]) hT
    refine ⟨_, st2, ab2, ?_⟩
    unfold Rep
    exact ⟨T, _, rfl, .inl (.inl upd_same), repL_cons int_rep (repL_cons (ru.step st2) repL_nil)⟩
def srcEnum0 : List D → Store → Oc (Src × Store) := fun ds S => match ds with
  | [d] => srcEnum 0 d S
  | _ => .bad
def xEnum (args : LA) : LI := fun δ S => (args δ S).bind srcEnum0
theorem di_enum {X : Cx} {W : WX} {e : Expr} {g : LA} {p pos tpos : Pos} {elts : List Expr} {kk : Nat} (hm : X.mg "enumerate" = none) (ha : DA X W [e] g) (hg : Gl X "enumerate" := by rfl) (hs : starEach [e] X.env = [(false, eval e X.env)] := by rfl) :
    DI X W (.Tuple elts kk tpos) (.Call (.Name "enumerate" p) [e] [] pos) (xEnum g) :=
  PI.imp (pi_enumE hg hm ha hs) fun σ H Q w => cO.bind (rel := RepL X.K) (rel2 := relIt X.K) (f := fun ds (_ : Lc) S1 => srcEnum0 ds S1) w fun ds xs δ S1 ι1 R1 Fr H1 ab lo rs w1 => by
    match ds, rs, w1 with
    | [], _, w1 => exact w1.elim
    | [d], rs, w1 =>
      obtain ⟨v, rfl, r⟩ := repL1 rs
      have w1 : wpO (relIt X.K) X.K Fr S1 ι1 R1 (srcEnum 0 d S1) Q _ := w1
      unfold srcEnum at w1
      cases e : seqD d S1 with
      | none => rw [e] at w1; exact w1.elim
      | some q =>
        obtain ⟨k, ds⟩ := q
        rw [e] at w1
        obtain ⟨xs, hs, _⟩ := seqD_ok ab r e
        exact ⟨k, v, xs, rfl, hs, w1.ok ab (enumIt (H := H1) r e)⟩
    | _ :: _ :: _, _, w1 => exact w1.elim
open Classical in
noncomputable def srcEnumS (ds zs : List D) (S : Store) : Oc (Src × Store) := match ds, zs with
  | [d], [.int c] => if -(2 ^ 63) ≤ c ∧ c < 2 ^ 63 then srcEnum c d S else .bad
  | _, _ => .bad
noncomputable def xEnumS (a b : LA) : LI := fun δ S => (a δ S).bind fun ds S1 => (b δ S1).bind fun zs S2 => srcEnumS ds zs S2
/-- keywords' values -/
abbrev DK (X : Cx) (W : WX) (kws : List Keyword) (g : LA) : Prop := PK X kws (cO (RepL X.K) X.K W g)
theorem PK.imp {X : Cx} {e : List Keyword} {t t' : TA} (h : PK X e t) (i : ∀ σ H Q, t' σ H Q → t σ H Q) : PK X e t' := ⟨fun w p s σ H Q I q => h.run w p s σ H Q I (i _ _ _ q)⟩
theorem dk_nil {X : Cx} {W : WX} : DK X W [] xNil := PK.imp pk_nil fun σ H Q ⟨δ, S, ι, R, Fr, ab, lo, w⟩ => w.ok ab repL_nil
theorem dk_cons {X : Cx} {W : WX} {e : Expr} {kws : List Keyword} {kpos : Pos} {nm : Option Str} {ga : LE} {gs : LA} (ha : DE X W e ga) (hr : DK X W kws gs) : DK X W (⟨nm, e, kpos⟩ :: kws) (xCons ga gs) :=
  PK.imp (pk_cons ha hr) fun σ H Q w => cO.bind (f := fun d δ S1 => (gs δ S1).bind fun ds S2 => .ok (d :: ds, S2)) w fun d x δ S1 ι1 R1 Fr H1 ab lo rx w1 =>
    ⟨δ, S1, ι1, R1, Fr, ab, lo, wpO.bind w1 fun ds S2 vs ι2 R2 H2 st ab2 rs w2 => w2.ok ab2 (repL_cons (rx.step st) rs)⟩
theorem di_enumS {X : Cx} {W : WX} {e e2 : Expr} {g gk : LA} {p p2 pos tpos : Pos} {elts : List Expr} {kk : Nat} (hm : X.mg "enumerate" = none) (ha : DA X W [e] g) (hk : DK X W [⟨some "start", e2, p2⟩] gk) (hg : Gl X "enumerate" := by rfl)
    (he : backTo pos (starEach [e] X.env) = (false, eval e X.env) :: backTo pos (starEach [] X.env) := by rfl) (hpl : (backTo pos (starEach [e] X.env)).any (·.1) = false := by rfl)
    (hall : (backToKw pos (keywordEach [⟨some "start", e2, p2⟩] X.env)).all (·.1.isSome) = true := by rfl) (hnone : (backToKw pos (keywordEach [⟨some "start", e2, p2⟩] X.env)).any (·.1.isNone) = false := by rfl)
    (hks : (backToKw pos (keywordEach [⟨some "start", e2, p2⟩] X.env)).filterMap (·.1) = [("start" : Str)] := by rfl) :
    DI X W (.Tuple elts kk tpos) (.Call (.Name "enumerate" p) [e] [⟨some "start", e2, p2⟩] pos) (xEnumS g gk) :=
  PI.imp (pi_enumS hg hm ha hk he hpl hall hnone hks) fun σ H Q w => cO.bind (rel := RepL X.K) (rel2 := relIt X.K) (f := fun ds δ S1 => (gk δ S1).bind fun zs S2 => srcEnumS ds zs S2) w fun ds xs δ S1 ι1 R1 Fr H1 ab lo rs w1 =>
    ⟨δ, S1, ι1, R1, Fr, ab, lo, wpO.bind w1 fun zs S2 us ι2 R2 H2 st ab2 rz w2 => by
      unfold srcEnumS at w2
      split at w2
      · rename_i d c
        obtain ⟨v, rfl, r⟩ := repL1 rs
        obtain ⟨u, rfl, ru⟩ := repL1 rz
        rw [rep_int ru]
        split at w2
        · rename_i hc
          unfold srcEnum at w2
          cases e : seqD d S2 with
          | none => rw [e] at w2; exact w2.elim
          | some q =>
            obtain ⟨k, ds⟩ := q
            rw [e] at w2
            obtain ⟨xs, hs, _⟩ := seqD_ok ab2 (r.step st) e
            exact ⟨k, v, xs, c, rfl, rfl, hc, hs, w2.ok ab2 (enumIt (H := H2) (r.step st) e)⟩
        · exact w2.elim
      · exact w2.elim⟩
end DL

set_option Elab.async false
set_option linter.all false
set_option maxRecDepth 100000
set_option maxHeartbeats 400000
namespace DL
open PySem PySem.W PySem.Spec L2
variable {Fr : Hp}
/-! ### max, min with default= -/
theorem alike_ints (ns : List Int) : AlikeAll (ns.map PyData.int) := by
  refine ⟨fun x hx y hy => ?_, fun x hx => ?_⟩
  · obtain ⟨i, _, rfl⟩ := List.mem_map.mp hx
    obtain ⟨j, _, rfl⟩ := List.mem_map.mp hy
    unfold alike
    rfl
  · obtain ⟨i, _, rfl⟩ := List.mem_map.mp hx
    exact fun h => nomatch h
theorem depth_ints : ∀ ns : List Int, PyData.depthAll (ns.map PyData.int) = 0
  | [] => rfl
  | n :: ns => by
    show max (PyData.depth (.int n)) (PyData.depthAll (ns.map PyData.int)) = 0
    rw [depth_ints ns]
    rfl
theorem foldl_max : ∀ (ns : List Int) (n : Int), ns.foldl max n ∈ n :: ns ∧ ∀ y ∈ n :: ns, y ≤ ns.foldl max n
  | [], n => by simp
  | m :: ns, n => by
    obtain ⟨h1, h2⟩ := foldl_max ns (max n m)
    show ns.foldl max (max n m) ∈ n :: m :: ns ∧ _
    refine ⟨?_, fun y hy => ?_⟩
    · rcases List.mem_cons.mp h1 with e | e
      · rw [e]
        rcases Int.le_total n m with q | q
        · rw [Int.max_eq_right q]; simp
        · rw [Int.max_eq_left q]; simp
      · exact List.mem_cons_of_mem _ (List.mem_cons_of_mem _ e)
    · have h0 := h2 (max n m) (List.mem_cons_self ..)
      have a1 : n ≤ max n m := Int.le_max_left ..
      have a2 : m ≤ max n m := Int.le_max_right ..
      rcases List.mem_cons.mp hy with e | hy
      · rw [e]; exact Int.le_trans a1 h0
      · rcases List.mem_cons.mp hy with e | hy
        · rw [e]; exact Int.le_trans a2 h0
        · exact h2 y (List.mem_cons_of_mem _ hy)
theorem foldl_min : ∀ (ns : List Int) (n : Int), ns.foldl min n ∈ n :: ns ∧ ∀ y ∈ n :: ns, ns.foldl min n ≤ y
  | [], n => by simp
  | m :: ns, n => by
    obtain ⟨h1, h2⟩ := foldl_min ns (min n m)
    show ns.foldl min (min n m) ∈ n :: m :: ns ∧ _
    refine ⟨?_, fun y hy => ?_⟩
    · rcases List.mem_cons.mp h1 with e | e
      · rw [e]
        rcases Int.le_total n m with q | q
        · rw [Int.min_eq_left q]; simp
        · rw [Int.min_eq_right q]; simp
      · exact List.mem_cons_of_mem _ (List.mem_cons_of_mem _ e)
    · have h0 := h2 (min n m) (List.mem_cons_self ..)
      have a1 : min n m ≤ n := Int.min_le_left ..
      have a2 : min n m ≤ m := Int.min_le_right ..
      rcases List.mem_cons.mp hy with e | hy
      · rw [e]; exact Int.le_trans h0 a1
      · rcases List.mem_cons.mp hy with e | hy
        · rw [e]; exact Int.le_trans h0 a2
        · exact h2 y (List.mem_cons_of_mem _ hy)
/-- the greatest, the least of ints, or something else where there are none -/
def rOptD (K : PySem.W.Frag) (f : Int → List Int → Int) : List V → List V → Hp → VK → Prop := fun xs zs H Q => ∃ (a : Addr) (ns : List Int) (d : V), xs = [.ref a] ∧ zs = [d] ∧ SqL K H a (ns.map V.int) ∧ (match ns with
  | [] => Q d H
  | n :: ns => Q (.int (f n ns)) H)
theorem cr_maxD {X : Cx} (hc : X.calm = true) (hu : X.A.units + 1 < cLine) : CallRK X (.builtin "max") ["default"] (rOptD X.K fun n ns => ns.foldl max n) := by
  intro pins s σ H xs zs us ws Q I r1 r2 h
  obtain ⟨a, ns, d, rfl, rfl, hs, q⟩ := h
  obtain ⟨its, rv, hl, hz⟩ := I.list hs
  cases r1 with
  | cons r rr =>
    cases rr
    cases r
    cases r2 with
    | @cons _ u _ _ r rr =>
      cases rr
      refine max_list_default (I.ok.hd hc) hl.isList (rv.ints.reads _) (alike_ints ns) (by rw [depth_ints]; omega) (fun e h' tk hk => ?_) fun y ys i v h' tk bs e hv hr hk => ?_
      · cases ns with
        | nil => exact ⟨d, H, I.kept hk, r, q⟩
        | cons n ns => cases e
      · cases ns with
        | nil => cases e
        | cons n ns =>
          cases e
          rw [maxD_ints] at hr
          cases hr
          exact ⟨.int _, H, I.kept hk, ⟨_, rfl⟩, q⟩
theorem cr_minD {X : Cx} (hc : X.calm = true) (hu : X.A.units + 1 < cLine) : CallRK X (.builtin "min") ["default"] (rOptD X.K fun n ns => ns.foldl min n) := by
  intro pins s σ H xs zs us ws Q I r1 r2 h
  obtain ⟨a, ns, d, rfl, rfl, hs, q⟩ := h
  obtain ⟨its, rv, hl, hz⟩ := I.list hs
  cases r1 with
  | cons r rr =>
    cases rr
    cases r
    cases r2 with
    | @cons _ u _ _ r rr =>
      cases rr
      refine min_list_default (I.ok.hd hc) hl.isList (rv.ints.reads _) (alike_ints ns) (by rw [depth_ints]; omega) (fun e h' tk hk => ?_) fun y ys i v h' tk bs e hv hr hk => ?_
      · cases ns with
        | nil => exact ⟨d, H, I.kept hk, r, q⟩
        | cons n ns => cases e
      · cases ns with
        | nil => cases e
        | cons n ns =>
          cases e
          rw [minD_ints] at hr
          cases hr
          exact ⟨.int _, H, I.kept hk, ⟨_, rfl⟩, q⟩
/-! ### sum(xs, start=0) -/
theorem args_sumS (a b : Value) : argsOk "sum" ⟨[a], [(Str.ofString "start", b)]⟩ := by unfold argsOk; kernel_rfl
theorem call_sumS {prog : Program} {w : World} {A : Around} {E : Value → Shared → Prop} {s : Shared} {x : Value} {tt : Tok} {Q : Value → Shared → Prop}
    (h : wpAny (model prog w) A.in1 (pyIter x) (fun it s2 => ∃ I fp wr n P St val, it = .ref I ∧ Walks prog w A.in1 I fp wr n P St ∧ St 0 s2.heap ∧ (∀ b ∈ fp, b < s2.heap.objs.size) ∧ (∀ i v, P i v → ∃ t, v = .int (val i) t) ∧
      ∀ h' tk t', (∀ b o, b ∉ wr → s2.heap.get? b = some o → h'.get? b = some o) → Q (.int (preSum val n) t') { s2 with heap := h', toks := tk }) E s) :
    wpAny (model prog w) A (call (.builtin "sum") [x] [(Str.ofString "start", .int 0 tt)]) Q E s := by
  refine PyProof.Rows.kmk_tree F.kind_sum F.plain_sum F.entry_sum (args_sumS _ _) ?_
  unfold Builtin.«sum»
  simp only [List.length_cons, List.length_nil]
  rw [if_neg (by decide)]
  have eb : Builtin.Builtins.bindParams "sum" ["start"] 0 ⟨[], [(Str.ofString "start", .int 0 tt)]⟩ = pure [some (.int 0 tt)] := by kernel_rfl
  refine wpAny_bind (wpAny_of_eq eb ?_)
  refine wpAny_bind (wpAny_mono h (fun it s2 hx => ?_) fun _ _ e => e)
  obtain ⟨I, fp, wr, n, P, St, val, rfl, W, hst, hfp, hval, hQ⟩ := hx
  refine wpAny_bind (wpAny_rule ?_)
  refine wpAny_bind (wpAny_mkInt ?_)
  refine wpAny_bind (wpAny_pure ?_)
  simp only [List.forIn_cons, List.forIn_nil]
  refine wpAny_bind (wpAny_bind (wpAny_bind (wpAny_isInstance (T := "int") (b := false) (typeIs_int _ _ _) sub_int_str ?_)))
  simp only [Bool.false_eq_true, if_false]
  refine wpAny_pure (wpAny_bind (wpAny_bind (wpAny_isInstance (T := "int") (b := false) (typeIs_int _ _ _) sub_int_bytes ?_)))
  simp only [Bool.false_eq_true, if_false]
  refine wpAny_pure (wpAny_bind (wpAny_bind (wpAny_isInstance (T := "int") (b := false) (typeIs_int _ _ _) sub_int_bytearray ?_)))
  simp only [Bool.false_eq_true, if_false]
  refine wpAny_pure (wpAny_pure ?_)
  refine wpAny_bind (wpAny_newObj_type ?_)
  have hS : s2.heap.objs.size ∉ fp := fun hm => Nat.lt_irrefl _ (hfp _ hm)
  refine wpAny_pure ⟨plainId_quiet F.plain_sum_loop _, codeAny_sum_loopG W val hval s2.heap.objs.size hS n 0 _ s2.toks 0 0 (Or.inl rfl) rfl (Nat.zero_le _) (W.frame _ _ _ hst fun b _ o e => Heap.get?_push_of_some _ e) (Heap.get?_push_size _ rfl) fun h' tk t' hk => ?_⟩
  exact hQ h' tk t' fun b o hb e => hk b o hb (Nat.ne_of_lt (Heap.lt_size e)) (Heap.get?_push_of_some _ e)
theorem cr_sumS {X : Cx} (hc : X.calm = true) : CallRK X (.builtin "sum") ["start"] (fun xs zs H Q => ∃ (a : Addr) (ns : List Int), xs = [.ref a] ∧ zs = [.int 0] ∧ SqL X.K H a (ns.map V.int) ∧ Q (.int ns.sum) H) := by
  intro pins s σ H xs zs us ws Q I r1 r2 h
  obtain ⟨a, ns, rfl, rfl, hs, q⟩ := h
  obtain ⟨its, rv, hl, hz⟩ := I.list hs
  cases r1 with
  | cons r rr =>
    cases rr
    cases r
    cases r2 with
    | cons r rr =>
      cases rr
      obtain ⟨t, rfl⟩ := r
      have hh : X.A.handled = none := I.ok.hd hc
      have hi := rv.ints
      obtain ⟨xs, e⟩ := hi.allInts.items
      have hn : numsOf (intItems xs).toList = ns := by rw [← e]; exact hi.numsOf
      rw [nums_intItems] at hn
      have hL := hl.isList
      rw [e] at hL
      refine call_sumS (iter_intList hL fun s2 e2 st hfp hne => ?_)
      subst e2
      refine ⟨_, _, _, _, _, _, numAt xs, rfl, Walks.list (A := X.A.in1) hh _ a hne (intItems xs), st, hfp, fun _ _ => intItems_at, fun h' tk t' hk => ?_⟩
      have hk2 := old_kept hk
      rw [show (intItems xs).size = xs.size by simp [intItems], preSum_eq, List.take_of_length_le (by simp), hn]
      exact ⟨.int ns.sum, H, I.kept hk2, ⟨_, rfl⟩, q⟩
/-! ### built-ins called with keywords, by meaning -/
abbrev Fk := List D → List D → Store → Oc (D × Store)
def OpK (K : PySem.W.Frag) (r : List V → List V → Hp → VK → Prop) (f : Fk) : Prop := ∀ (Fr : Hp) (S : Store) (ι : Nat → Addr) (R H : Hp) (ds zs : List D) (xs us : List V) (Q : VK) (E : XK), Ab K Fr S ι R H → RepL K R S ι ds xs → RepL K R S ι zs us → wpO (Rep K) K Fr S ι R (f ds zs S) Q E → r xs us H Q
def xBK (f : Fk) (a k : LA) : LE := fun δ S => (a δ S).bind fun ds S1 => (k δ S1).bind fun zs S2 => f ds zs S2
theorem xBK_read {K : PySem.W.Frag} {W : WX} {r : List V → List V → Hp → VK → Prop} {f : Fk} {g gk : LA} (h : OpK K r f) : ∀ σ H Q, cO (Rep K) K W (xBK f g gk) σ H Q → tCKw r (cO (RepL K) K W g) (cO (RepL K) K W gk) σ H Q := fun σ H Q w =>
  cO.bind (rel := RepL K) (rel2 := Rep K) (f := fun ds δ S1 => (gk δ S1).bind fun zs S2 => f ds zs S2) w fun ds xs δ S1 ι1 R1 Fr H1 ab lo rs w1 =>
    ⟨δ, S1, ι1, R1, Fr, ab, lo, wpO.bind w1 fun zs S2 us ι2 R2 H2 st ab2 rz w2 => h Fr S2 ι2 R2 H2 ds zs xs us Q _ ab2 (RepL.step st rs) rz w2⟩
theorem de_bltK {X : Cx} {W : WX} {x : Str} {p pos : Pos} {e : Expr} {es : List Expr} {kws : List Keyword} {g gk : LA} {id : String} {ks : List Str} {r : List V → List V → Hp → VK → Prop} {f : Fk} (hf : OpK X.K r f) (hc : CallRK X (.builtin id) ks r) (hm : X.mg x = none) (hv : bootBuiltins x = some (.builtin id)) (ha : DA X W (e :: es) g) (hk : DK X W kws gk)
    (hg : Gl X x := by rfl) (hn : x ≠ "__name__" := by decide) (hdb : (x == ("__debug__" : Str)) = false := by decide)
    (he : backTo pos (starEach (e :: es) X.env) = (false, eval e X.env) :: backTo pos (starEach es X.env) := by rfl) (hpl : (backTo pos (starEach (e :: es) X.env)).any (·.1) = false := by rfl)
    (hall : (backToKw pos (keywordEach kws X.env)).all (·.1.isSome) = true := by rfl) (hnone : (backToKw pos (keywordEach kws X.env)).any (·.1.isNone) = false := by rfl) (hks : (backToKw pos (keywordEach kws X.env)).filterMap (·.1) = ks := by rfl) :
    DE X W (.Call (.Name x p) (e :: es) kws pos) (xBK f g gk) := PE.imp (pe_callBK hc hg hm hv ha hk hn hdb he hpl hall hnone hks) (xBK_read hf)
def bOptD (f : Int → List Int → Int) : Fk := fun ds zs S => match ds, zs with
  | [d], [z] => (match (asL d S).bind nts with
    | some [] => .ok (z, S)
    | some (n :: ns) => .ok (.int (f n ns), S)
    | none => .bad)
  | _, _ => .bad
theorem bOptD_ok {K : PySem.W.Frag} {f : Int → List Int → Int} : OpK K (rOptD K f) (bOptD f) := fun Fr S ι R H ds zs xs us Q E ab rs rz w => by
  unfold bOptD at w
  split at w
  · rename_i d z
    obtain ⟨v, rfl, r⟩ := repL1 rs
    obtain ⟨u, rfl, ru⟩ := repL1 rz
    cases h : asL d S with
    | none => rw [h] at w; exact w.elim
    | some ys =>
      rw [h, Option.bind_some] at w
      obtain ⟨a, vs, rfl, q, r2⟩ := asL_ok ab r h
      cases hn : nts ys with
      | none => rw [hn] at w; exact w.elim
      | some ns =>
        rw [hn] at w
        have e := nts_ok hn r2
        subst e
        refine ⟨a, ns, u, rfl, rfl, q, ?_⟩
        cases ns with
        | nil => exact w.ok ab ru
        | cons n ns => exact w.ok ab int_rep
  · exact w.elim
def bSumS : Fk := fun ds zs S => match ds, zs with
  | [d], [.int 0] => (match (asL d S).bind nts with
    | some ns => .ok (.int ns.sum, S)
    | none => .bad)
  | _, _ => .bad
theorem bSumS_ok {K : PySem.W.Frag} : OpK K (fun xs zs H Q => ∃ (a : Addr) (ns : List Int), xs = [.ref a] ∧ zs = [.int 0] ∧ SqL K H a (ns.map V.int) ∧ Q (.int ns.sum) H) bSumS := fun Fr S ι R H ds zs xs us Q E ab rs rz w => by
  unfold bSumS at w
  split at w
  · rename_i d
    obtain ⟨v, rfl, r⟩ := repL1 rs
    obtain ⟨u, rfl, ru⟩ := repL1 rz
    cases h : asL d S with
    | none => rw [h] at w; exact w.elim
    | some ys =>
      rw [h, Option.bind_some] at w
      obtain ⟨a, vs, rfl, q, r2⟩ := asL_ok ab r h
      cases hn : nts ys with
      | none => rw [hn] at w; exact w.elim
      | some ns =>
        rw [hn] at w
        have e := nts_ok hn r2
        subst e
        exact ⟨a, ns, rfl, by rw [rep_int ru], q, w.ok ab int_rep⟩
  · exact w.elim
section
variable {X : Cx} {W : WX} {k : Nat} {p pos p2 : Pos} {e e2 : Expr} {g gk : LA}
theorem de_maxD (c : Ctc X W k) (hm : X.mg "max" = none) (ha : DA X W [e] g) (hk : DK X W [⟨some "default", e2, p2⟩] gk) (hg : Gl X "max" := by rfl)
    (he : backTo pos (starEach [e] X.env) = (false, eval e X.env) :: backTo pos (starEach [] X.env) := by rfl) (hpl : (backTo pos (starEach [e] X.env)).any (·.1) = false := by rfl)
    (hall : (backToKw pos (keywordEach [⟨some "default", e2, p2⟩] X.env)).all (·.1.isSome) = true := by rfl) (hnone : (backToKw pos (keywordEach [⟨some "default", e2, p2⟩] X.env)).any (·.1.isNone) = false := by rfl)
    (hks : (backToKw pos (keywordEach [⟨some "default", e2, p2⟩] X.env)).filterMap (·.1) = [("default" : Str)] := by rfl) :
    DE X W (.Call (.Name "max" p) [e] [⟨some "default", e2, p2⟩] pos) (xBK (bOptD fun n ns => ns.foldl max n) g gk) :=
  de_bltK bOptD_ok (cr_maxD c.calm (ctc_u c)) hm (by decide +kernel) ha hk hg (by decide) (by decide) he hpl hall hnone hks
theorem de_minD (c : Ctc X W k) (hm : X.mg "min" = none) (ha : DA X W [e] g) (hk : DK X W [⟨some "default", e2, p2⟩] gk) (hg : Gl X "min" := by rfl)
    (he : backTo pos (starEach [e] X.env) = (false, eval e X.env) :: backTo pos (starEach [] X.env) := by rfl) (hpl : (backTo pos (starEach [e] X.env)).any (·.1) = false := by rfl)
    (hall : (backToKw pos (keywordEach [⟨some "default", e2, p2⟩] X.env)).all (·.1.isSome) = true := by rfl) (hnone : (backToKw pos (keywordEach [⟨some "default", e2, p2⟩] X.env)).any (·.1.isNone) = false := by rfl)
    (hks : (backToKw pos (keywordEach [⟨some "default", e2, p2⟩] X.env)).filterMap (·.1) = [("default" : Str)] := by rfl) :
    DE X W (.Call (.Name "min" p) [e] [⟨some "default", e2, p2⟩] pos) (xBK (bOptD fun n ns => ns.foldl min n) g gk) :=
  de_bltK bOptD_ok (cr_minD c.calm (ctc_u c)) hm (by decide +kernel) ha hk hg (by decide) (by decide) he hpl hall hnone hks
theorem de_sumS (c : Ctc X W k) (hm : X.mg "sum" = none) (ha : DA X W [e] g) (hk : DK X W [⟨some "start", e2, p2⟩] gk) (hg : Gl X "sum" := by rfl)
    (he : backTo pos (starEach [e] X.env) = (false, eval e X.env) :: backTo pos (starEach [] X.env) := by rfl) (hpl : (backTo pos (starEach [e] X.env)).any (·.1) = false := by rfl)
    (hall : (backToKw pos (keywordEach [⟨some "start", e2, p2⟩] X.env)).all (·.1.isSome) = true := by rfl) (hnone : (backToKw pos (keywordEach [⟨some "start", e2, p2⟩] X.env)).any (·.1.isNone) = false := by rfl)
    (hks : (backToKw pos (keywordEach [⟨some "start", e2, p2⟩] X.env)).filterMap (·.1) = [("start" : Str)] := by rfl) :
    DE X W (.Call (.Name "sum" p) [e] [⟨some "start", e2, p2⟩] pos) (xBK bSumS g gk) :=
  de_bltK bSumS_ok (cr_sumS c.calm) hm (by decide +kernel) ha hk hg (by decide) (by decide) he hpl hall hnone hks
end
/-! ### a list that is unpacked -/
def gUl (n : Nat) (gs : LGs) : LG := fun d δ S => match asL d S with
  | some ds => if ds.length = n then gs ds δ S else .bad
  | none => .bad
theorem dg_unl {X : Cx} {pos : Pos} {es : List Expr} {k : Nat} {gs : LGs} (hc : X.calm = true) (h : DGs X es gs) {n : Nat} (hn : (assignEach es X.env).length = n := by rfl) (hst : (assignEach es X.env).findIdx? (·.1) = none := by rfl) : DG X (.Tuple es k pos) (gUl n gs) :=
  PG.imp (pg_unl hc h hn hst) fun v σ H Q ⟨d, δ, S, ι, R, Fr, ab, lo, r, w⟩ => by
    unfold gUl at w
    cases e : asL d S with
    | none => simp only [e] at w; exact w.elim
    | some ds =>
      simp only [e] at w
      by_cases hl : ds.length = n
      · rw [if_pos hl] at w
        obtain ⟨a, xs, rfl, q, rs⟩ := asL_ok ab r e
        exact ⟨a, xs, rfl, q, by rw [rs.length]; exact hl, ds, δ, S, ι, R, Fr, ab, lo, rs, w⟩
      · rw [if_neg hl] at w
        exact w.elim
end DL

set_option Elab.async false
set_option linter.all false
set_option maxRecDepth 100000
set_option maxHeartbeats 400000
namespace DL
open PySem PySem.Spec L2
variable {Fr : Hp}
/-! ### an own method called by a built-in: len(x), repr(x), x == y -/
section
variable {X : Cx} {CX : CXT} {k n : Nat} {f C : Addr} {fd : FuncData} {ps : List Str} {sp : Sp} {E : L2.St → XK} {ta tb : TE} {e e2 : Expr} {p pos : Pos}
theorem run_sub {A : Around} {pins : List (Addr × Obj)} {σ : L2.St} {H : Hp} {s : Shared} {Q : VK} {us : List Value} {vs : List V} (F : FnOk X.prog X.w X.K X.mg X.base CX k f fd ps sp) (sb : Sub X k A) (hb : Binds X.K fd ps []) (hx : PassesAt CX X σ (E σ))
    (I : Inv X pins σ H s) (r : Vals vs us) (h : sp vs H Q (E σ)) : wpAny (model X.prog X.w) A (call (.ref f) us) (EP X pins σ Q) X.xe s := by
  have e0 : Env0 X.prog X.w X.K X.mg X.base A X.stack s H := by
    have z := I.env0
    exact ⟨by rw [sb.fr]; exact z.frames, z.mod, z.bs, z.bsz, z.funs, z.frf, z.hok, z.bare⟩
  have hl : us.length = ps.length := by rw [← r.length]; exact F.len _ _ _ _ h
  have b2 : BindsTo s fd ⟨us, []⟩ (ps.zip us) := by
    have := hb s us I.kIn (by simpa using hl)
    simpa using this
  refine wpAny_call (codeAny_mono (F.run A X.stack s H ⟨us, []⟩ us vs Q (E σ) sb.room e0 b2 r h) fun o s' hq => ?_)
  cases o with
  | error er => exact hx pins H s er s' I hq
  | ok fl =>
    cases fl with
    | ret w => exact I.after hq
    | _ => exact hq.elim
/-- len(x) by its class's __len__ -/
def tLenO (C : Addr) (sp : Sp) (E : L2.St → XK) (ta : TE) : TE := fun σ H Q => tCons ta tNil σ H fun vs H1 => ∃ a dx fs, vs = [.ref a] ∧ H1 a = some (.ins C dx fs) ∧ sp vs H1 (fun v H2 => ∃ n, v = .int n ∧ (0 ≤ n ∧ n < 2 ^ 63) ∧ Q (.int n) H2) (E σ)
theorem pe_lenO (hg : Gl X "len") (hm : X.mg "len" = none) (hM : Meth X.K C "__len__" f) (F : FnOk X.prog X.w X.K X.mg X.base CX k f fd ps sp) (hr : Room (k + 1) X.A) (hb : Binds X.K fd ps []) (hx : ∀ σ, PassesAt CX X σ (E σ)) (ha : PE X e ta)
    (he : starEach [e] X.env = (false, eval e X.env) :: starEach [] X.env := by rfl) (hpl : (backTo pos (starEach [] X.env)).any (·.1) = false := by rfl) : PE X (.Call (.Name "len" p) [e] [] pos) (tLenO C sp E ta) := by
  refine ⟨fun pins s σ H Q I h => ?_⟩
  refine wpAny_Call_Name_kw (ld_blt I hg hm boot_len ?_)
  refine PyProof.Rows.callWith_builtin1 (thn ((pa_cons ha pa_nil he).run pos pins s σ H (fun vs H1 => ∃ a dx fs, vs = [.ref a] ∧ H1 a = some (.ins C dx fs) ∧ sp vs H1 (fun v H2 => ∃ n, v = .int n ∧ (0 ≤ n ∧ n < 2 ^ 63) ∧ Q (.int n) H2) (E σ)) I h) fun us s1 ⟨vs, H1, I1, r1, a, dx, fs, ex, hH, hq⟩ => ?_) he hpl
  subst ex
  cases r1 with
  | cons r rr =>
      cases rr
      cases r
      obtain ⟨mA, J, _⟩ := ins_get I1.hok hH
      obtain ⟨od, J, _⟩ := J.look
      obtain ⟨m, hF⟩ := I1.fr
      have sb : Sub X k X.A.in1 := Sub.in1 ⟨hr, rfl⟩
      refine PySem.W.len_K hF I1.ok.mod.kin J hM.at_ hM.fn (thn (run_sub F sb hb (hx σ) I1 (.cons (show RelV (.ref a) (.ref a) from rfl) .nil) hq) fun v s2 ⟨x, H2, I2, rx, i, ex, hi, q⟩ => ?_)
      subst ex
      obtain ⟨t, rfl⟩ := rx
      exact ⟨hi, .int i, H2, I2.kept (t' := s2.toks + 1) fun b o z => z, ⟨_, rfl⟩, q⟩
/-- repr(x) by its class's __repr__ -/
def tReprO (C : Addr) (sp : Sp) (E : L2.St → XK) (ta : TE) : TE := fun σ H Q => tCons ta tNil σ H fun vs H1 => ∃ a dx fs, vs = [.ref a] ∧ H1 a = some (.ins C dx fs) ∧ sp vs H1 (fun v H2 => ∃ z, v = .str z ∧ Q (.str z) H2) (E σ)
theorem pe_reprO (hg : Gl X "repr") (hm : X.mg "repr" = none) (hM : Meth X.K C "__repr__" f) (F : FnOk X.prog X.w X.K X.mg X.base CX k f fd ps sp) (hr : Room (k + 1) X.A) (hu : X.A.in1.units < cLine) (hb : Binds X.K fd ps []) (hx : ∀ σ, PassesAt CX X σ (E σ)) (ha : PE X e ta)
    (he : starEach [e] X.env = (false, eval e X.env) :: starEach [] X.env := by rfl) (hpl : (backTo pos (starEach [] X.env)).any (·.1) = false := by rfl) : PE X (.Call (.Name "repr" p) [e] [] pos) (tReprO C sp E ta) := by
  refine ⟨fun pins s σ H Q I h => ?_⟩
  refine wpAny_Call_Name_kw (ld_blt I hg hm (by decide +kernel : bootBuiltins "repr" = some (.builtin "repr")) ?_)
  refine PyProof.Rows.callWith_builtin1 (thn ((pa_cons ha pa_nil he).run pos pins s σ H (fun vs H1 => ∃ a dx fs, vs = [.ref a] ∧ H1 a = some (.ins C dx fs) ∧ sp vs H1 (fun v H2 => ∃ z, v = .str z ∧ Q (.str z) H2) (E σ)) I h) fun us s1 ⟨vs, H1, I1, r1, a, dx, fs, ex, hH, hq⟩ => ?_) he hpl
  subst ex
  cases r1 with
  | cons r rr =>
      cases rr
      cases r
      obtain ⟨mA, J, _⟩ := ins_get I1.hok hH
      obtain ⟨od, J, _⟩ := J.look
      obtain ⟨m, hF⟩ := I1.fr
      have sb : Sub X k X.A.in1 := Sub.in1 ⟨hr, rfl⟩
      refine PySem.W.repr_K hu hF I1.ok.mod.kin J hM.at_ hM.fn (thn (run_sub F sb hb (hx σ) I1 (.cons (show RelV (.ref a) (.ref a) from rfl) .nil) hq) fun v s2 ⟨x, H2, I2, rx, z, ex, q⟩ => ?_)
      subst ex
      obtain ⟨t, rfl⟩ := rx
      exact ⟨.str z, H2, I2, ⟨_, rfl⟩, q⟩
/-- x == y by the class's __eq__, y of that class too, or of a built-in type -/
def EqTy (K : PySem.W.Frag) (C : Addr) (H : Hp) (y : V) : Prop := (∃ b dx fs, y = .ref b ∧ H b = some (.ins C dx fs)) ∨ ∃ T, TyX K H y (.type T) ∧ PySem.W.subIn K (.type T) (.ref C) = some false
def tEqO (K : PySem.W.Frag) (C : Addr) (neg : Bool) (sp : Sp) (E : L2.St → XK) (ta tb : TE) : TE := fun σ H Q => ta σ H fun x H1 => tb σ H1 fun y H2 => ∃ a dx fs, x = .ref a ∧ H2 a = some (.ins C dx fs) ∧ EqTy K C H2 y ∧ sp [x, y] H2 (fun v H3 => ∃ b, v = .bl b ∧ Q (.bl (if neg then !b else b)) H3) (E σ)
end
/-! by meaning -/
def xLenO (c : Str) (F : Fn) (go : LE) : LE := fun δ S => (go δ S).bind fun d S1 => if isIns c d S1 = true then (F [d] S1).bind fun v S2 => (match v with
  | .int n => if 0 ≤ n ∧ n < 2 ^ 63 then .ok (.int n, S2) else .bad
  | _ => .bad) else .bad
theorem isIns_ok {K : PySem.W.Frag} {S : Store} {ι : Nat → Addr} {R H : Hp} {d : D} {c : Str} {v : V} (ab : Ab K Fr S ι R H) (r : Rep K R S ι d v) (h : isIns c d S = true) : ∃ a dx fs, v = .ref a ∧ H a = some (.ins (He.ga K c) dx fs) := by
  unfold isIns at h
  cases e : insOf d S with
  | none => rw [e] at h; cases h
  | some q =>
    obtain ⟨c', ns, ds⟩ := q
    rw [e] at h
    have hc : c' = c := of_decide_eq_true h
    subst hc
    obtain ⟨a, dx, fs, e1, e2, _⟩ := insOf_ok ab r e
    exact ⟨a, dx, fs, e1, e2⟩
section
variable {X : Cx} {W : WX} {k n : Nat} {a : Addr} {fd : FuncData} {ps : List Str} {F : Fn} {e : Expr} {ge : LE} {p pos : Pos}
theorem de_lenO (cn : Str) (c : Ctc X W (k + 1)) (hm : X.mg "len" = none) (hM : Meth X.K (He.ga X.K cn) "__len__" a) (hF : FnD X.prog X.w X.K X.mg X.base k a fd ps F) (hp : ps.length = 1) (hb : Bnd X.K fd ps []) (ha : DE X W e ge) (hg : Gl X "len" := by rfl)
    (he : starEach [e] X.env = (false, eval e X.env) :: starEach [] X.env := by rfl) (hpl : (backTo pos (starEach [] X.env)).any (·.1) = false := by rfl) : DE X W (.Call (.Name "len" p) [e] [] pos) (xLenO cn F ge) := by
  obtain ⟨ds0, hd0, hb⟩ := hb
  cases hd0
  refine PE.imp (pe_lenO (E := WE W) hg hm hM hF c.hr hb (fun σ => passAt c.tk σ) ha he hpl) fun σ H Q w => ?_
  refine cO.bind (rel := Rep X.K) (rel2 := Rep X.K) (f := fun d (_ : Lc) S1 => if isIns cn d S1 = true then (F [d] S1).bind fun v S2 => (match v with
    | .int n => if 0 ≤ n ∧ n < 2 ^ 63 then .ok (.int n, S2) else .bad
    | _ => .bad) else .bad) w fun d v δ S1 ι1 R1 Fr H1 ab lo r w1 => ?_
  by_cases hc : isIns cn d S1 = true
  · rw [if_pos hc] at w1
    obtain ⟨b, dx, fs, rfl, hH⟩ := isIns_ok ab r hc
    refine ⟨b, dx, fs, rfl, hH, by rw [hp]; rfl, [d], S1, ι1, R1, Fr, ab, repL_cons r repL_nil, wpO.bind (rel := Rep X.K) w1 fun v S2 u ι2 R2 H2 st ab2 ru w2 => ?_⟩
    cases v with
    | int i =>
      dsimp only at w2
      by_cases hi : 0 ≤ i ∧ i < 2 ^ 63
      · rw [if_pos hi] at w2
        exact ⟨i, rep_int ru, hi, w2.ok ab2 int_rep⟩
      · rw [if_neg hi] at w2
        exact w2.elim
    | _ => exact w2.elim
  · rw [if_neg hc] at w1
    exact w1.elim
end
/-! o.f += e -/
def clsD (d : D) (S : Store) : Option Str := (insOf d S).map (·.1)
def sFaug (i : Nat) (f : Str) (g : F2) (go ge : LE) : LS := fun δ S => bindE δ (go δ S) fun d S1 => bindE δ (fldOf i f d S1) fun v S2 => bindE δ (ge δ S2) fun y S3 => bindE δ (g v y S3) fun z S4 => if clsD d S4 = clsD d S1 then (match stFld i f [] d z S4 with
  | .ok (_, S5) => .ok .nx δ S5
  | _ => .bad) else .bad
def dIntAdd : F2 := fun d e S => match d, e with
  | .int i, .int j => .ok (.int (i + j), S)
  | _, _ => .bad
theorem fldOf_same {i : Nat} {f : Str} {d v : D} {S S2 : Store} (h : fldOf i f d S = .ok (v, S2)) : S2 = S := by
  unfold fldOf at h
  split at h
  · split at h
    · cases h; rfl
    · cases h
  · cases h
theorem ds_faugAdd {X : Cx} {W : WX} {o e : Expr} {f : Str} {go ge : LE} {pos tpos : Pos} (i : Nat) (ho : DE X W o go) (he : DE X W e ge) : DS X W (.AugAssign (.Attribute o f tpos) .Add e pos) (sFaug i f dIntAdd go ge) :=
  PS.imp (ps_fldaug ho he in_add) fun D σ H w => by
    refine cS.bindE (rel := Rep X.K) (f := fun δ d S1 => bindE δ (fldOf i f d S1) fun v S2 => bindE δ (ge δ S2) fun y S3 => bindE δ (dIntAdd v y S3) fun z S4 => if clsD d S4 = clsD d S1 then (match stFld i f [] d z S4 with
      | .ok (_, S5) => .ok .nx δ S5
      | _ => .bad) else .bad) w fun d x δ S1 ι1 R1 Fr H1 ab lo r w1 => ?_
    unfold fldOf at w1
    cases e1 : insOf d S1 with
    | none => rw [e1] at w1; exact w1.elim
    | some q =>
      obtain ⟨c, ns, ds⟩ := q
      rw [e1] at w1
      dsimp only at w1
      cases e2 : fldAt i f ns ds with
      | none => rw [e2] at w1; exact w1.elim
      | some v =>
        rw [e2] at w1
        obtain ⟨a, dx, fs, rfl, hH, io, rf⟩ := insOf_ok ab r e1
        obtain ⟨u, hu, ru⟩ := rf.get e2
        refine ⟨a, He.ga X.K c, dx, fs, u, rfl, hH, io.cls, io.noat f (fldAt_mem e2), hu, δ, S1, ι1, R1, Fr, ab, lo, wpS.bindE (show wpS _ _ _ _ _ (DL.bindE δ (ge δ S1) fun y S3 => bindE δ (dIntAdd v y S3) fun z S4 => if clsD d S4 = clsD d S1 then (match stFld i f [] d z S4 with
          | .ok (_, S5) => .ok .nx δ S5
          | _ => .bad) else .bad) _ _ from w1) lo fun y S3 yv ι3 R3 H3 st3 ab3 ry w3 => ?_⟩
        cases v with
        | int m =>
          cases y with
          | int j =>
            refine ⟨m, j, rep_int ru, rep_int ry, ?_⟩
            have w3 : wpS X.K Fr S3 ι3 R3 (if clsD d S3 = clsD d S1 then (match stFld i f [] d (.int (m + j)) S3 with
              | .ok (_, S5) => .ok .nx δ S5
              | _ => .bad) else .bad) D W := w3
            by_cases hc : clsD d S3 = clsD d S1
            · rw [if_pos hc] at w3
              cases e3 : stFld i f [] d (.int (m + j)) S3 with
              | ok p =>
                obtain ⟨_, S5⟩ := p
                rw [e3] at w3
                have hcl : clsD d S3 = some c := by rw [hc]; unfold clsD; rw [e1]; rfl
                cases e6 : insOf d S3 with
                | none => unfold clsD at hcl; rw [e6] at hcl; cases hcl
                | some q =>
                  obtain ⟨c3, ns3, ds3⟩ := q
                  have hc3 : c3 = c := by unfold clsD at hcl; rw [e6] at hcl; exact Option.some.inj hcl
                  subst hc3
                  obtain ⟨a3, dx3, fs3, e7, h7, _, _⟩ := insOf_ok ab3 (r.step st3) e6
                  cases e7
                  obtain ⟨a', c', dx', fs', e4, h4, _, _, hl, ab5, st5⟩ := stFld_ok ab3 (r.step st3) (int_rep (i := m + j)) e3
                  cases e4
                  rw [h7] at h4
                  injection h4 with h4
                  injection h4 with h8 h9 h10
                  rw [← h8, ← h9, ← h10] at ab5
                  rw [← h10] at hl
                  exact ⟨dx3, fs3, h7, hl, w3 _ ι3 R3 _ st5 ab5 ((lo.step st3).step st5)⟩
              | _ => rw [e3] at w3; exact w3.elim
            · rw [if_neg hc] at w3
              exact w3.elim
          | _ => exact w3.elim
        | _ => exact w3.elim
/-- a default that is an object -/
theorem keB_ok {K : PySem.W.Frag} {a : Addr} {d : D} (h : kTree K 1 (.ref a) d = true) : Konst K d (.ref a) := by
  obtain ⟨v, r, k⟩ := kTree_ok h
  cases v with
  | ref b =>
    have e : Value.ref a = Value.ref b := r
    cases e
    exact k
  | non => cases (show Value.ref a = Value.none from r)
  | bl b => cases (show Value.ref a = Value.bool b from r)
  | int i => obtain ⟨t, e⟩ := (show ∃ t, Value.ref a = Value.int i t from r); cases e
  | str i => obtain ⟨t, e⟩ := (show ∃ t, Value.ref a = Value.str i t from r); cases e
  | byt i => obtain ⟨t, e⟩ := (show ∃ t, Value.ref a = Value.bytes i t from r); cases e
  | flt i => obtain ⟨t, e⟩ := (show ∃ t, Value.ref a = Value.float i t from r); cases e
  | ty n => cases (show Value.ref a = Value.type n from r)
/-! tuple(x) -/
def bTuple : Fn := fun ds S => match ds with
  | [.tup xs] => .ok (.tup xs, S)
  | [d] => (match asL d S with
    | some xs => .ok (.tup xs, S)
    | none => .bad)
  | _ => .bad
theorem bTuple_ok {K : PySem.W.Frag} : OpA K (fun xs H Q => ∃ p ys, xs = [.ref p] ∧ ((SqL K H p ys ∧ ∀ l, H l = none → Q (.ref l) (upd H l (.tup ys))) ∨ (SqT K H p ys ∧ Q (.ref p) H))) bTuple := fun Fr S ι R H ds xs Q E ab rs w => by
  match ds, rs, w with
  | [], _, w => exact w.elim
  | [d], rs, w =>
    obtain ⟨v, rfl, r⟩ := repL1 rs
    have go : wpO (Rep K) K Fr S ι R (match asL d S with | some xs => .ok (.tup xs, S) | none => .bad) Q E → ∃ p ys, [v] = [V.ref p] ∧ ((SqL K H p ys ∧ ∀ l, H l = none → Q (.ref l) (upd H l (.tup ys))) ∨ (SqT K H p ys ∧ Q (.ref p) H)) := fun w => by
      cases h : asL d S with
      | none => rw [h] at w; exact w.elim
      | some ys =>
        rw [h] at w
        obtain ⟨a, vs, rfl, q, r2⟩ := asL_ok ab r h
        refine ⟨a, vs, rfl, .inl ⟨q, fun l hl => ?_⟩⟩
        obtain ⟨ab2, st2⟩ := ab.rnew (o := .tup vs) hl
        refine w (.ref l) ι _ _ st2 ab2 ?_
        unfold Rep
        exact ⟨l, vs, rfl, .inl (.inl upd_same), RepL.step st2 r2⟩
    cases d with
    | tup es =>
      have r0 := r
      unfold Rep at r
      obtain ⟨a, ys, rfl, q, r2⟩ := r
      exact ⟨a, ys, rfl, .inr ⟨seqT_sub ab.sub q, w.ok ab r0⟩⟩
    | _ => exact go w
  | d1 :: _ :: _, _, w => cases d1 <;> exact w.elim
theorem de_tuple {X : Cx} {W : WX} {e : Expr} {g : LA} {p pos : Pos} (hm : X.mg "tuple" = none) (ha : DA X W [e] g) (hg : Gl X "tuple" := by rfl) (he : starEach [e] X.env = (false, eval e X.env) :: starEach [] X.env := by rfl) (hpl : (backTo pos (starEach [] X.env)).any (·.1) = false := by rfl) :
    DE X W (.Call (.Name "tuple" p) [e] [] pos) (xB bTuple g) := de_bty bTuple_ok call_tuple_of hm (by decide +kernel) ha hg (by decide) (by decide) he hpl
end DL

set_option Elab.async false
set_option linter.all false
set_option maxRecDepth 100000
set_option maxHeartbeats 400000
/-! sorted of a tuple of pairs of ints -/
namespace SrtO
open PySem PySem.Spec PyProof.Rows
variable {prog : Program} {w : World} {A : Around} {E : Value → Shared → Prop} {s : Shared}
theorem gather_tup {l : Addr} {vs : List Value} {Q : List Value → Shared → Prop} (hl : IsTup s.heap l vs.toArray) (hz : vs.length ≤ sizeLine)
    (h : Q vs { s with heap := (s.heap.push (seqObj "list" #[] 0)).update s.heap.objs.size (Obj.mapSeq (· ++ vs.toArray)) }) : wpAny (model prog w) A (collect (.ref l)) Q E s := by
  obtain ⟨o, ho, hc, n, hd⟩ := hl
  have h1 : (s.heap.push (seqObj "list" #[] 0)).get? l = some o := Heap.get?_push_of_some _ ho
  have h0 : (s.heap.push (seqObj "list" #[] 0)).get? s.heap.objs.size = some (seqObj "list" #[] 0) := Heap.get?_push_size _ rfl
  unfold collect
  refine wpAny_bind (wpAny_runValue (codeAny_builtin entry_proto_collect' ?_))
  show wpAny (model prog w) _ (do again (.builtin "list.__iadd__" ⟨[← newList [], .ref l], []⟩)) _ E s
  refine wpAny_bind (wpAny_newList (wpAny_pure ⟨Code.quiet_builtin _ (by decide +kernel), codeAny_builtin entry_list_iadd' ?_⟩))
  show wpAny (model prog w) _ (Builtin.List.listExtendWith (.ref s.heap.objs.size) (.ref l) (.ref s.heap.objs.size)) _ E _
  unfold Builtin.List.listExtendWith
  refine wpAny_bind (wpAny_typeOf (T := "tuple") ⟨o, h1, hc⟩ ?_)
  have t1 : (Value.type "tuple" == Value.type "list") = false := by decide +kernel
  have t2 : (Value.type "tuple" == Value.type "tuple") = true := by decide +kernel
  simp only [t1, t2, Bool.or_true, Bool.true_or, Bool.false_or, if_true]
  refine wpAny_bind (listItems_at h1 hd ?_)
  refine wpAny_bind (listItems_at (xs := #[]) (n := 0) h0 rfl ?_)
  rw [if_neg (by simp)]
  refine wpAny_bind (listUpdate_at (xs := #[]) (n := 0) h0 rfl ?_ (Nat.zero_le _) (by simp only [Array.size_append, List.size_toArray, List.length_nil]; omega))
  refine wpAny_pure ?_
  refine wpAny_bind (wpAny_load (get?_update_seq h0 _) ?_)
  have e : ((#[] : Array Value) ++ vs.toArray).toList = vs := by simp
  show wpAny (model prog w) A (pure ((#[] : Array Value) ++ vs.toArray).toList) Q E _
  rw [e]
  exact wpAny_pure h
theorem sorted_tup {l : Addr} {vs : List Value} {ltv : Value → Value → Bool} {Q : Value → Shared → Prop} (O : Swo ltv) (hl : IsTup s.heap l vs.toArray) (hz : vs.length ≤ sizeLine)
    (hS : 2 ≤ vs.length → ∀ (h1 : Heap) (a : Addr), h1.get? a = some (seqObj "list" vs.toArray 0) → (∀ b o, s.heap.get? b = some o → b ≠ a ∧ h1.get? b = some o) → SortableO prog w A.in1.in1 { s with heap := h1 } a vs ltv)
    (h : ∀ out : List Value, Srtd ltv out → Stb ltv out vs → Q (.ref (s.heap.objs.size + 1)) { s with heap := sortedAll s.heap vs out.toArray }) : wpAny (model prog w) A (call (.builtin "sorted") [.ref l]) Q E s := by
  refine Calls.call_function_entry kind_sorted plain_sorted entry_sorted (args_sorted1 _) ?_
  unfold Builtin.«sorted»
  refine wpAny_bind (m := checkCount "sorted" 1 1 _) (wpAny_pure (wpAny_bind (gather_tup hl hz (wpAny_bind (wpAny_newList ?_ hz)))))
  let H1 : Heap := (s.heap.push (seqObj "list" #[] 0)).update s.heap.objs.size (Obj.mapSeq (· ++ vs.toArray))
  have z : H1.objs.size = s.heap.objs.size + 1 := by show ((s.heap.push _).update _ _).objs.size = _; rw [Heap.size_update, size_push']
  have at1 : (H1.push (seqObj "list" vs.toArray 0)).get? (s.heap.objs.size + 1) = some (seqObj "list" vs.toArray 0) := by rw [← z]; exact Heap.get?_push_size _ rfl
  have old : ∀ b o, s.heap.get? b = some o → b ≠ s.heap.objs.size + 1 ∧ (H1.push (seqObj "list" vs.toArray 0)).get? b = some o := fun b o q => by
    have lt := Heap.lt_size q
    refine ⟨Nat.ne_of_lt (Nat.lt_succ_of_lt lt), Heap.get?_push_of_some _ ?_⟩
    show ((s.heap.push _).update _ _).get? b = _
    rw [Heap.get?_update_ne _ _ _ _ (Nat.ne_of_lt lt)]
    exact Heap.get?_push_of_some _ q
  show wpAny (model prog w) _ _ _ E { s with heap := H1.push (seqObj "list" vs.toArray 0) }
  rw [z]
  exact wpAny_bind (wpAny_holding (wpAny_call_entry slot_list_sort ⟨_, at1, rfl⟩ entry_list_sort (list_sort_ord O at1 hz (fun h2 => hS h2 _ _ at1 old) fun out hs hb => ⟨_, rfl, wpAny_pure ⟨_, rfl, h out hs hb⟩⟩) (args_list_sort _)))
theorem sorted_pairsT {l : Addr} {vs : List Value} {k : Value → Int × Int} {Q : Value → Shared → Prop} (hl : IsTup s.heap l vs.toArray) (hz : vs.length ≤ sizeLine) (hp : ∀ v ∈ vs, Srt.IsPair s.heap v (k v).1 (k v).2)
    (h : ∀ (h' : Heap) (d : Addr) (out : List Value), Srtd (fun v u => lexB (k v) (k u)) out → Stb (fun v u => lexB (k v) (k u)) out vs → (∀ b o, s.heap.get? b = some o → h'.get? b = some o) → s.heap.objs.size ≤ d → (∃ n, h'.get? d = some (seqObj "list" out.toArray n)) → Q (.ref d) { s with heap := h' }) :
    wpAny (model prog w) A (call (.builtin "sorted") [.ref l]) Q E s := by
  refine sorted_tup (swo_lex k) hl hz (fun h2 h1 a ha kk => pairs_sortableO (s := { s with heap := h1 }) (by omega) (fun v hm => (hp v hm).keeps fun b o e _ => (kk b o e).2) fun o e c => ?_) fun out hs hb => h _ _ out hs hb (fun b o e => sortedAll_old e) (Nat.le_succ _) (sortedAll_at s.heap vs out.toArray)
  have e' : some o = some (seqObj "list" vs.toArray 0) := e.symm.trans ha
  cases e'
  exact absurd (Value.type.inj c) (by decide)
end SrtO
namespace DL
open PySem PySem.Spec L2
variable {Fr : Hp}
open Classical in
/-- sorted(t), t a tuple of pairs of ints -/
theorem cr_sortedPS {X : Cx} : CallR X (.builtin "sorted") (fun vs H Q => ∃ (a : Addr) (xs : List V) (ps : List (Int × Int)) (rel : V → Int × Int → Prop), vs = [V.ref a] ∧ SqT X.K H a xs ∧ All2 rel xs ps ∧ (∀ x p, rel x p → PrAt X.K H x p) ∧
    ∀ ys l, All2 rel ys (sortP ps) → H l = none → Q (.ref l) (upd H l (.lst ys))) := by
  intro pins s σ H vs us Q I r h
  obtain ⟨a, xs, ps, rel, rfl, hs, hp, hx, q⟩ := h
  obtain ⟨its, rv, hl, hz⟩ := I.tuple hs
  obtain ⟨u, rfl, ru⟩ := vals1 r
  obtain rfl : u = Value.ref a := ru
  obtain ⟨k, hk⟩ : ∃ k : V → Int × Int, ∀ x p, rel x p → k x = p := by
    refine ⟨fun x => if h : ∃ p, rel x p then Classical.choose h else (0, 0), fun x p hr => ?_⟩
    have hh : ∃ p, rel x p := ⟨p, hr⟩
    dsimp only
    rw [dif_pos hh]
    obtain ⟨t, e1, q1⟩ := hx x p hr
    obtain ⟨t', e2, q2⟩ := hx x _ (Classical.choose_spec hh)
    subst e1
    cases e2
    have e := I.tuple_inj q1 q2
    injection e with e3 e4
    injection e3 with e3
    injection e4 with e4 _
    injection e4 with e4
    exact Prod.ext e3.symm e4.symm
  obtain ⟨ep, hrel⟩ := all2_map hp fun x p _ hr => hk x p hr
  have hmem : ∀ x ∈ xs, ∃ t, x = V.ref t ∧ SqT X.K H t [.int (k x).1, .int (k x).2] := fun x m => hx x _ (hrel x m)
  obtain ⟨e1, e2⟩ := refs_back rv fun x m => let ⟨t, e, _⟩ := hmem x m; ⟨t, e⟩
  refine SrtO.sorted_pairsT (k := fun u => k (backV u)) hl (by rw [← rv.length]; exact hz) (fun v hv => ?_) fun h' d out h1 h2 kp hd hn => ?_
  · obtain ⟨t, rfl⟩ := e2 v hv
    have hm : V.ref t ∈ xs := by rw [e1]; exact List.mem_map.mpr ⟨_, hv, rfl⟩
    obtain ⟨t', e, ht⟩ := hmem _ hm
    cases e
    obtain ⟨its2, r2, p2, _⟩ := I.tuple ht
    obtain ⟨u1, u2, rfl, ri, rj⟩ := vals2 r2
    obtain ⟨t1, rfl⟩ := ri
    obtain ⟨t2, rfl⟩ := rj
    obtain ⟨o, ho, hc, n, hd⟩ := p2
    exact ⟨t, o, t1, t2, n, rfl, ho, hc, hd⟩
  · have h3 : ∀ u ∈ out, ∃ a, u = Value.ref a := fun u hu => e2 u (h2.perm.mem_iff.mp hu)
    obtain ⟨n, hn⟩ := hn
    have hb : SrtO.Stb (ltP k) (out.map backV) xs := by rw [e1]; exact SrtO.Stb.map (ltP_swo k) backV h2
    have hsrt : SrtO.Srtd (ltP k) (out.map backV) := SrtO.srtd_map h1
    refine ⟨.ref d, upd H d (.lst (out.map backV)), I.laid (t' := s.toks) kp hd ⟨by rw [hb.len]; exact hz, out, n, vals_back h3, hn⟩, rfl, q _ d ?_ (I.hok.fresh hd)⟩
    have e3 : sortP ps = (out.map backV).map k := by
      refine (sortP_uniq ?_ ?_).symm
      · rw [ep]; exact hb.perm.map k
      · rw [List.pairwise_map]
        exact List.Pairwise.imp (fun h => lexB_le h) hsrt
    rw [e3]
    exact all2_of fun x hx => hrel x (hb.perm.mem_iff.mp hx)
/-- sorted of a tuple of pairs, of a list -/
def nSortedT : List D → Store → Oc (List D × Store) := fun ds S => match ds with
  | [.tup xs] => (match prs xs with
    | some ps => .ok ((sortP ps).map prD, S)
    | none => .bad)
  | ds => nSorted ds S
theorem nSortedT_ok {K : PySem.W.Frag} : OpN K (fun xs H Q => rSortedA K xs H Q ∨ (∃ (a : Addr) (ys : List V) (ps : List (Int × Int)) (rel : V → Int × Int → Prop), xs = [V.ref a] ∧ SqT K H a ys ∧ All2 rel ys ps ∧ (∀ x p, rel x p → PrAt K H x p) ∧
    ∀ ys l, All2 rel ys (sortP ps) → H l = none → Q (.ref l) (upd H l (.lst ys)))) nSortedT := fun Fr S ι R H ds xs Q E ab rs w => by
  unfold nSortedT at w
  split at w
  · rename_i ys
    obtain ⟨v, rfl, r⟩ := repL1 rs
    cases hp : prs ys with
    | none => rw [hp] at w; exact w.elim
    | some ps =>
      rw [hp] at w
      unfold Rep at r
      obtain ⟨a, vs, rfl, q, r2⟩ := r
      exact .inr ⟨a, vs, ps, _, rfl, seqT_sub ab.sub q, prs_ok r2 hp, fun x p hr => prD_at ab hr, fun zs l hz h0 => w.new ab (repL_all2 hz) h0⟩
  · exact .inl (nSorted_ok Fr S ι R H _ xs Q E ab rs w)
theorem dn_sortedT {X : Cx} {W : WX} {e : Expr} {g : LA} {p pos : Pos} (hm : X.mg "sorted" = none) (ha : DA X W [e] g) (hg : Gl X "sorted" := by rfl) (he : starEach [e] X.env = (false, eval e X.env) :: starEach [] X.env := by rfl) (hpl : (backTo pos (starEach [] X.env)).any (·.1) = false := by rfl) :
    DN X W (.Call (.Name "sorted" p) [e] [] pos) (xBN nSortedT g) := PE.imp (pe_callB (CallR.or cr_sortedA cr_sortedPS) hg hm (by decide +kernel) ha (by decide) (by decide) he hpl) (xBN_read nSortedT_ok)
end DL

set_option Elab.async false
set_option linter.all false
set_option maxRecDepth 100000
set_option maxHeartbeats 4000000
/-! Slices, sums and turned-about lists that become cells (own work). -/
namespace DL
open PySem PySem.Spec L2
variable {Fr : Hp}
section
variable {X : Cx} {W : WX} {k : Nat} {o e a b : Expr} {go ga gb : LE} {pos p2 : Pos}
def nSl (o : LE) (l h : LO) : LA := fun δ S => (o δ S).bind fun d S1 => (l δ S1).bind fun i S2 => (h δ S2).bind fun j S3 => (match asL d S3 with
  | some xs => .ok (cutD xs i j, S3)
  | none => .bad)
theorem dn_slice {lo hi : Option Expr} {gl gh : LO} (ho : DE X W o go) (hl : DO X W lo gl) (hh : DO X W hi gh) : DN X W (.Subscript o (.Slice lo hi none p2) pos) (nSl go gl gh) :=
  PE.imp (pe_slice sl_list ho hl hh) fun σ H Q w => cN.bind (rel := Rep X.K) (f := fun d δ S1 => (gl δ S1).bind fun i S2 => (gh δ S2).bind fun j S3 => (match asL d S3 with
    | some xs => .ok (cutD xs i j, S3)
    | none => .bad)) w fun d x δ S1 ι1 R1 Fr H1 ab lo rx w1 =>
    ⟨δ, S1, ι1, R1, Fr, ab, lo, wpN.bind w1 fun i S2 i' ι2 R2 H2 st2 ab2 ei w2 => by
      obtain rfl : i' = i := ei
      exact ⟨δ, S2, ι2, R2, Fr, ab2, lo.step st2, wpN.bind w2 fun j S3 j' ι3 R3 H3 st3 ab3 ej w3 => by
        obtain rfl : j' = j := ej
        cases h : asL d S3 with
        | none => rw [h] at w3; exact w3.elim
        | some ds =>
          rw [h] at w3
          obtain ⟨a, xs, rfl, q, rs⟩ := asL_ok ab3 ((rx.step st2).step st3) h
          exact ⟨a, xs, rfl, q, fun p hp => wpN.new w3 ab3 (cut_rep rs i' j') hp⟩⟩⟩
def nRev (g : LE) : LA := fun δ S => (g δ S).bind fun d S1 => (match asL d S1 with
  | some xs => .ok (xs.reverse, S1)
  | none => .bad)
theorem dn_rev {j : Nat} {p1 p3 : Pos} (ha : DE X W e ga) : DN X W (.Subscript e (.Slice none none (some (.UnaryOp .USub (.Constant (.int 1) j p1) p2)) p3) pos) (nRev ga) :=
  PE.imp (pe_revL ha) fun σ H Q w => cN.bind (rel := Rep X.K) (f := fun d (_ : Lc) S1 => (match asL d S1 with
    | some xs => .ok (xs.reverse, S1)
    | none => .bad)) w fun d x δ S1 ι1 R1 Fr H1 ab lo r w1 => by
    cases h : asL d S1 with
    | none => rw [h] at w1; exact w1.elim
    | some ds =>
      rw [h] at w1
      obtain ⟨a, xs, rfl, q, rs⟩ := asL_ok ab r h
      exact ⟨a, xs, rfl, q, fun p hp => wpN.new w1 ab rs.reverse hp⟩
def nAdd (ga gb : LE) : LA := fun δ S => (ga δ S).bind fun d S1 => (gb δ S1).bind fun e S2 => (match asM d S2, asM e S2 with
  | some xs, some ys => if xs.length + ys.length ≤ sizeLine then .ok (xs ++ ys, S2) else .bad
  | _, _ => .bad)
theorem dn_add (ha : DE X W a ga) (hb : DE X W b gb) : DN X W (.BinOp a .Add b pos) (nAdd ga gb) :=
  PE.imp (pe_op op_cat ha hb) fun σ H Q w => cN.bind (rel := Rep X.K) (f := fun d δ S1 => (gb δ S1).bind fun e S2 => (match asM d S2, asM e S2 with
    | some xs, some ys => if xs.length + ys.length ≤ sizeLine then .ok (xs ++ ys, S2) else .bad
    | _, _ => .bad)) w fun d x δ S1 ι1 R1 Fr H1 ab lo rx w1 =>
    ⟨δ, S1, ι1, R1, Fr, ab, lo, wpN.bind w1 fun e S2 y ι2 R2 H2 st2 ab2 ry w2 => by
      cases h1 : asM d S2 with
      | none => simp only [h1] at w2; exact w2.elim
      | some ds =>
        cases h2 : asM e S2 with
        | none => simp only [h1, h2] at w2; exact w2.elim
        | some es =>
          simp only [h1, h2] at w2
          by_cases hl : ds.length + es.length ≤ sizeLine
          · rw [if_pos hl] at w2
            obtain ⟨a, xs, rfl, q, rs⟩ := asM_ok ab2 (rx.step st2) h1
            obtain ⟨b, ys, rfl, q2, rs2⟩ := asM_ok ab2 ry h2
            exact ⟨a, b, xs, ys, rfl, rfl, q, q2, by rw [rs.length, rs2.length]; exact hl, fun p hp => wpN.new w2 ab2 (rs.append rs2) hp⟩
          · rw [if_neg hl] at w2
            exact w2.elim⟩
end
end DL
namespace DL
open PySem PySem.Spec L2
/-! text * int -/
def MulSz (z : Str) (k : Int) : Prop := 0 ≤ k ∧ k ≤ 1048576 ∧ z.length ≤ 1048576 ∧ z.length * k.toNat ≤ 1048576
instance (z : Str) (k : Int) : Decidable (MulSz z k) := by unfold MulSz; infer_instance
theorem mulSz_ok {z : Str} {k : Int} (h : MulSz z k) : PySem.MulOk z k := by
  obtain ⟨h0, h1, h2, h3⟩ := h
  refine ⟨?_, fun g1 _ => ?_, fun _ _ => ?_⟩
  · rw [decide_eq_false (by omega), decide_eq_false (by omega)]
    rfl
  · have hk : 0 < k := by omega
    have e : (z.length : Int) ≤ (2 ^ 63 - 1) / k := by
      rw [Int.le_ediv_iff_mul_le hk]
      have : (z.length : Int) * k = ((z.length * k.toNat : Nat) : Int) := by
        rw [Int.natCast_mul, Int.toNat_of_nonneg h0]
      rw [this]
      omega
    omega
  · show decide (z.length * k.toNat > sizeLine) = false
    refine decide_eq_false fun h => ?_
    have : sizeLine = 16777216 := sizeLine_eq
    omega
def rMulS : R2 := fun x y H Q => ∃ z k, x = .str z ∧ y = .int k ∧ MulSz z k ∧ Q (.str (Txt.mul z k)) H
theorem op_mulS {X : Cx} : OpR X (binaryOp .Mult) rMulS := by
  intro pins s σ H x y v u Q I rx ry h
  obtain ⟨z, k, rfl, rfl, hk, q⟩ := h
  obtain ⟨t, rfl⟩ := rx
  obtain ⟨t', rfl⟩ := ry
  exact SB.mul (mulSz_ok hk) fun t' tk => ⟨.str (Txt.mul z k), H, I.tok _, ⟨_, rfl⟩, q⟩
def dMulS : F2 := fun d e S => match d, e with
  | .str z, .int k => if MulSz z k then .ok (.str (Txt.mul z k), S) else .bad
  | _, _ => .bad
theorem mulS_sound {K : PySem.W.Frag} : Op2 K rMulS dMulS := fun Fr S ι R H d e x y Q E ab rx ry w => by
  cases d with
  | str z =>
    cases e with
    | int k =>
      have w : wpO (Rep K) K Fr S ι R (if MulSz z k then .ok (.str (Txt.mul z k), S) else .bad) Q E := w
      by_cases h : MulSz z k
      · rw [if_pos h] at w
        rw [rep_str rx, rep_int ry]
        exact ⟨z, k, rfl, rfl, h, w.ok ab str_rep⟩
      · rw [if_neg h] at w
        exact w.elim
    | _ => exact w.elim
  | _ => exact w.elim
theorem de_mulS {X : Cx} {W : WX} {a b : Expr} {ga gb : LE} {pos : Pos} (ha : DE X W a ga) (hb : DE X W b gb) : DE X W (.BinOp a .Mult b pos) (x2 dMulS ga gb) := de_op mulS_sound op_mulS ha hb
end DL

set_option Elab.async false
set_option linter.all false
set_option maxRecDepth 100000
set_option maxHeartbeats 4000000
/-! Calls with keywords (own work). -/
namespace DL
open PySem PySem.Spec L2
variable {Fr : Hp}
/-- things by their places -/
def pick {α : Type} : List Nat → List α → List α
  | [], _ => []
  | i :: is, xs => match xs[i]? with
    | some a => a :: pick is xs
    | none => pick is xs
theorem Vals.pick : ∀ (is : List Nat) {vs : List V} {us : List Value}, Vals vs us → Vals (pick is vs) (pick is us)
  | [], _, _, _ => .nil
  | i :: is, vs, us, r => by
    unfold DL.pick
    cases e : vs[i]? with
    | none => rw [r.none_of e]; exact Vals.pick is r
    | some x =>
      obtain ⟨u, e2, q⟩ := r.get e
      rw [e2]
      exact .cons q (Vals.pick is r)
theorem RepL.none_of {K : PySem.W.Frag} {R : Hp} {S : Store} {ι : Nat → Addr} {ds : List D} {vs : List V} (r : RepL K R S ι ds vs) {i : Nat} (e : ds[i]? = none) : vs[i]? = none := by
  rw [List.getElem?_eq_none_iff] at e ⊢
  rw [r.length]
  exact e
theorem RepL.pick {K : PySem.W.Frag} {R : Hp} {S : Store} {ι : Nat → Addr} : ∀ (is : List Nat) {ds : List D} {vs : List V}, RepL K R S ι ds vs → RepL K R S ι (pick is ds) (pick is vs)
  | [], _, _, _ => repL_nil
  | i :: is, ds, vs, r => by
    unfold DL.pick
    cases e : ds[i]? with
    | none => rw [r.none_of e]; exact RepL.pick is r
    | some x =>
      obtain ⟨u, e2, q⟩ := r.get e
      rw [e2]
      exact repL_cons q (RepL.pick is r)
theorem pick_tail {α : Type} (a : α) (xs : List α) : ∀ is : List Nat, pick (is.map Nat.succ) (a :: xs) = pick is xs
  | [] => rfl
  | i :: is => by
    show (match (a :: xs)[i + 1]? with | some b => b :: pick (is.map Nat.succ) (a :: xs) | none => pick (is.map Nat.succ) (a :: xs)) = _
    rw [pick_tail a xs is]
    rfl
theorem Oc.bind_assoc {α β γ : Type} (o : Oc (α × Store)) (f : α → Store → Oc (β × Store)) (g : β → Store → Oc (γ × Store)) : (o.bind f).bind g = o.bind fun a S => (f a S).bind g := by cases o <;> rfl
/-- values, then keywords' values, then standing ones, put in the parameters' order -/
def xKw (np nk : Nat) (sel : List Nat) (dd : List D) (a b : LA) : LA := fun δ S => (a δ S).bind fun ds S1 => (b δ S1).bind fun zs S2 => if ds.length = np ∧ zs.length = nk then .ok (pick sel (ds ++ zs ++ dd), S2) else .bad
def kgV (sel : List Nat) (cvs : List V) : List V → List V → List V := fun vs zs => pick sel (vs ++ zs ++ cvs)
section
variable {X : Cx} {CX : CXT} {k n : Nat} {C f : Addr} {m : Str} {fd : FuncData} {ps ks : List Str} {sp : Sp} {E : L2.St → XK} {o e : Expr} {es : List Expr} {kws : List Keyword} {apos pos : Pos} {ta t tk : TA} {te : TE} {g : List Value → List Value → List Value} {gV : List V → List V → List V}
def tMethND (C : Addr) (m : Str) (n l : Nat) (sp : Sp) (gV : List V → List V → List V) (E : L2.St → XK) (to : TE) (t tk : TA) : TE := fun σ H Q => to σ H fun x H1 => ∃ a dx fs, x = .ref a ∧ H1 a = some (.ins C dx fs) ∧ fs.lookup m = none ∧
  t σ H1 fun vs H2 => tk σ H2 fun zs H3 => vs.length = n ∧ zs.length = l ∧ sp (gV (.ref a :: vs) zs) H3 Q (E σ)
theorem pe_methND {pl : Sem Bool} (he : PE X o te) (c : Cls X.K C) (hm : Meth X.K C m f) (F : FnOk X.prog X.w X.K X.mg X.base CX k f fd ps sp) (hr : Room k X.A) (hb : KBn X.K fd ps (n + 1) ks g gV) (hx : ∀ σ, PassesAt CX X σ (E σ))
    (ha : PA X (e :: es) t) (hkw : PK X kws tk) (hall : (backToKw pos (keywordEach kws X.env)).all (·.1.isSome) = true := by rfl) (hks : (backToKw pos (keywordEach kws X.env)).filterMap (·.1) = ks := by rfl)
    (hst : starEach (e :: es) X.env = (false, eval e X.env) :: starEach es X.env := by rfl)
    (hpl : ((backTo pos (starEach (e :: es) X.env)).any (·.1) || (backToKw pos (keywordEach kws X.env)).any (·.1.isNone)) = false := by rfl)
    (ht : eval (.Call (.Attribute o m apos) (e :: es) kws pos) X.env = (do
      let ov ← eval o X.env
      standAt apos.atName
      let (f, first) ← holding [ov] (getMethod ov m pl)
      callWith pos f first (backTo pos (starEach (e :: es) X.env)) (backToKw pos (keywordEach kws X.env))) := by rfl) :
    PE X (.Call (.Attribute o m apos) (e :: es) kws pos) (tMethND C m n ks.length sp gV E te t tk) := by
  refine ⟨fun pins s σ H Q I h => ?_⟩
  refine PySem.W.methodCall_KW (pl := pl) (thn (he.run pins s σ H _ I h) fun u s1 ⟨x, H1, I1, rx, a, dx, fs, ex, ea, l, q⟩ => ?_) ht
  subst ex
  obtain rfl : u = Value.ref a := rx
  refine getmeth_ok I1 ea c hm l ?_
  refine PySem.W.callWith_KW (first := [.ref a]) (h₀ := X.base) I.ok.mod.kin hm.kp hall (thn (ha.run pos pins s1 σ H1 _ I1 q) fun us s2 ⟨vs, H2, I2, r, q2⟩ => ?_) hpl hst
  refine thn (hkw.run pos pins s2 σ H2 _ I2 q2) fun ws s3 ⟨zs, H3, I3, rz, l1, l2, q3⟩ => ⟨I3.kIn, ?_⟩
  rw [hks]
  exact run_fnDN (us := .ref a :: us) (vs := .ref a :: vs) F hr hb (hx σ) I3 (.cons rfl r) rz (by rw [List.length_cons, l1]) l2 q3
/-- o.m(k = v, ..) -/
def tMethK (C : Addr) (m : Str) (l : Nat) (sp : Sp) (gV : List V → List V → List V) (E : L2.St → XK) (to : TE) (tk : TA) : TE := fun σ H Q => to σ H fun x H1 => ∃ a dx fs, x = .ref a ∧ H1 a = some (.ins C dx fs) ∧ fs.lookup m = none ∧
  tk σ H1 fun zs H3 => zs.length = l ∧ sp (gV [.ref a] zs) H3 Q (E σ)
theorem pe_methK {pl : Sem Bool} (he : PE X o te) (c : Cls X.K C) (hm : Meth X.K C m f) (F : FnOk X.prog X.w X.K X.mg X.base CX k f fd ps sp) (hr : Room k X.A) (hb : KBn X.K fd ps 1 ks g gV) (hx : ∀ σ, PassesAt CX X σ (E σ))
    (hkw : PK X kws tk) (hall : (backToKw pos (keywordEach kws X.env)).all (·.1.isSome) = true := by rfl) (hks : (backToKw pos (keywordEach kws X.env)).filterMap (·.1) = ks := by rfl)
    (hpl : ((backTo pos (starEach [] X.env)).any (·.1) || (backToKw pos (keywordEach kws X.env)).any (·.1.isNone)) = false := by rfl)
    (ht : eval (.Call (.Attribute o m apos) [] kws pos) X.env = (do
      let ov ← eval o X.env
      standAt apos.atName
      let (f, first) ← holding [ov] (getMethod ov m pl)
      callWith pos f first (backTo pos (starEach [] X.env)) (backToKw pos (keywordEach kws X.env))) := by rfl) :
    PE X (.Call (.Attribute o m apos) [] kws pos) (tMethK C m ks.length sp gV E te tk) := by
  refine ⟨fun pins s σ H Q I h => ?_⟩
  refine PySem.W.methodCall_KW (pl := pl) (thn (he.run pins s σ H _ I h) fun u s1 ⟨x, H1, I1, rx, a, dx, fs, ex, ea, l, q⟩ => ?_) ht
  subst ex
  obtain rfl : u = Value.ref a := rx
  refine getmeth_ok I1 ea c hm l ?_
  refine PySem.W.callWith_KW0 (first := [.ref a]) (h₀ := X.base) I.ok.mod.kin hm.kp hall (thn (hkw.run pos pins s1 σ H1 _ I1 q) fun ws s3 ⟨zs, H3, I3, rz, l2, q3⟩ => ⟨I3.kIn, ?_⟩) hpl
  rw [hks]
  exact run_fnDN (us := [.ref a]) (vs := [.ref a]) F hr hb (hx σ) I3 (.cons rfl .nil) rz rfl l2 q3
/-! C(.., k = v, ..) -/
def tMakeND (C : Addr) (n m : Nat) (sp : Sp) (gV : List V → List V → List V) (E : L2.St → XK) (t tk : TA) : TE := fun σ H Q => t σ H fun vs H1 => tk σ H1 fun zs H2 => vs.length = n ∧ zs.length = m ∧ ∀ x dx, H2 x = none → H2 dx = none → dx ≠ x →
  sp (gV (.ref x :: vs) zs) (upd (upd H2 dx (.own x)) x (.ins C dx [])) (fun v H3 => v = .non ∧ Q (.ref x) H3) (E σ)
theorem run_makeND {pins : List (Addr × Obj)} {σ : L2.St} {H : Hp} {s : Shared} {Q : VK} {us ws : List Value} {vs zs : List V} {EE : XK} (M : Mk X.K C f) (F : FnOk X.prog X.w X.K X.mg X.base CX k f fd ps sp) (hr : Room (k + 1) X.A) (hb : KBn X.K fd ps (n + 1) ks g gV) (hx : PassesAt CX X σ EE)
    (I : Inv X pins σ H s) (r : Vals vs us) (rz : Vals zs ws) (l1 : vs.length = n) (l2 : zs.length = ks.length)
    (h : ∀ x dx, H x = none → H dx = none → dx ≠ x → sp (gV (.ref x :: vs) zs) (upd (upd H dx (.own x)) x (.ins C dx [])) (fun v H2 => v = .non ∧ Q (.ref x) H2) EE) :
    wpAny (model X.prog X.w) X.A (call (.ref C) us (ks.zip ws)) (EP X pins σ Q) X.xe s := by
  have hq := h (s.heap.objs.size + 1) s.heap.objs.size (I.hok.fresh (Nat.le_succ _)) (I.hok.fresh (Nat.le_refl _)) (Nat.ne_of_lt (Nat.lt_succ_self _))
  have I2 := Inv.made (C := C) I
  have r1 : Vals (V.ref (s.heap.objs.size + 1) :: vs) (Value.ref (s.heap.objs.size + 1) :: us) := .cons rfl r
  have r2 := hb.rel r1 rz
  have n1 : (Value.ref (s.heap.objs.size + 1) :: us).length = n + 1 := by
    rw [List.length_cons, ← r.length, l1]
  refine wpAny_call (make_map (f := f) I.kIn M.makes M.init (beq_iff_eq.mp M.fn) (codeAny_mono (F.run _ X.stack _ _ ⟨Value.ref (s.heap.objs.size + 1) :: us, ks.zip ws⟩ (g (Value.ref (s.heap.objs.size + 1) :: us) ws) _ _ EE (hr.make C us (ks.zip ws))
    (I2.env0.make C us (ks.zip ws)) (hb.to _ (Value.ref (s.heap.objs.size + 1) :: us) ws I2.kIn n1 (rz.length.symm.trans l2)) r2 hq) fun r s' hq' => ?_))
  cases r with
  | error e => exact hx pins _ _ e s' I2 hq'
  | ok fl =>
    cases fl with
    | ret u =>
      obtain ⟨v, H', I3, rv, ev, q3⟩ := I2.after hq'
      subst ev
      exact ⟨rv, ⟨V.ref (s.heap.objs.size + 1), H', I3, rfl, q3⟩⟩
    | next => exact False.elim hq'
    | brk => exact False.elim hq'
    | cont => exact False.elim hq'
theorem pe_makeKD0 {x : Str} {p : Pos} (M : Mk X.K C f) (F : FnOk X.prog X.w X.K X.mg X.base CX k f fd ps sp) (hr : Room (k + 1) X.A) (hg : Gl X x) (hm : X.mg x = some (.ref C)) (hb : KBn X.K fd ps 1 ks g gV) (hx : ∀ σ, PassesAt CX X σ (E σ)) (hkw : PK X kws tk)
    (hall : (backToKw pos (keywordEach kws X.env)).all (·.1.isSome) = true := by rfl) (hks : (backToKw pos (keywordEach kws X.env)).filterMap (·.1) = ks := by rfl) (hdb : (x == ("__debug__" : Str)) = false := by decide)
    (hpl : ((backTo pos (starEach [] X.env)).any (·.1) || (backToKw pos (keywordEach kws X.env)).any (·.1.isNone)) = false := by rfl) :
    PE X (.Call (.Name x p) [] kws pos) (tMakeND C 0 ks.length sp gV E tNil tk) := by
  refine ⟨fun pins s σ H Q I h => ?_⟩
  refine wpAny_Call_Name_kw (ld_glob I hg hm ?_ hdb)
  refine PySem.W.callWith_KW0 (h₀ := X.base) I.ok.mod.kin M.kp hall ?_ hpl
  refine thn (hkw.run pos pins s σ H _ I h) fun ws s2 ⟨zs, H2, I2, rz, l1, l2, q2⟩ => ⟨I2.kIn, ?_⟩
  rw [hks]
  exact run_makeND (us := []) (vs := []) M F hr hb (hx σ) I2 .nil rz rfl l2 q2
theorem pe_makeKD {x : Str} {p : Pos} (M : Mk X.K C f) (F : FnOk X.prog X.w X.K X.mg X.base CX k f fd ps sp) (hr : Room (k + 1) X.A) (hg : Gl X x) (hm : X.mg x = some (.ref C)) (hb : KBn X.K fd ps (n + 1) ks g gV) (hx : ∀ σ, PassesAt CX X σ (E σ)) (ha : PA X (e :: es) t) (hkw : PK X kws tk)
    (hall : (backToKw pos (keywordEach kws X.env)).all (·.1.isSome) = true := by rfl) (hks : (backToKw pos (keywordEach kws X.env)).filterMap (·.1) = ks := by rfl) (hdb : (x == ("__debug__" : Str)) = false := by decide)
    (he : starEach (e :: es) X.env = (false, eval e X.env) :: starEach es X.env := by rfl) (hpl : ((backTo pos (starEach (e :: es) X.env)).any (·.1) || (backToKw pos (keywordEach kws X.env)).any (·.1.isNone)) = false := by rfl) :
    PE X (.Call (.Name x p) (e :: es) kws pos) (tMakeND C n ks.length sp gV E t tk) := by
  refine ⟨fun pins s σ H Q I h => ?_⟩
  refine wpAny_Call_Name_kw (ld_glob I hg hm ?_ hdb)
  refine PySem.W.callWith_KW (h₀ := X.base) I.ok.mod.kin M.kp hall (thn (ha.run pos pins s σ H _ I h) fun us s1 ⟨vs, H1, I1, r, q⟩ => ?_) hpl he
  refine thn (hkw.run pos pins s1 σ H1 _ I1 q) fun ws s2 ⟨zs, H2, I2, rz, l1, l2, q2⟩ => ⟨I2.kIn, ?_⟩
  rw [hks]
  exact run_makeND M F hr hb (hx σ) I2 r rz l1 l2 q2
end
/-! ### by meaning -/
section
variable {X : Cx} {W : WX} {k np : Nat} {a C : Addr} {fd : FuncData} {ps ks : List Str} {F : Fn} {cvs : List V} {cc : List D} {x m : Str} {p pos apos : Pos} {e o : Expr} {es : List Expr} {kws : List Keyword} {ga gk : LA} {go : LE} {ns : List Str} {sel sel0 : List Nat} {g : List Value → List Value → List Value}
theorem kw_step {K : PySem.W.Frag} {δ : Lc} {S : Store} {ι : Nat → Addr} {R : Hp} {nk : Nat} {f : List D → Store → Oc (D × Store)} {Q : VK} {P : List V → Hp → Prop} {W : WX} {σ : L2.St} {vs : List V} {ds : List D} (hD : KonstL K cc cvs) (lo : Locs K R S ι δ σ) (rs : RepL K R S ι ds vs)
    {H : Hp} (ab : Ab K Fr S ι R H) (w : wpO (Rep K) K Fr S ι R (((gk δ S).bind fun zs S2 => if ds.length = np ∧ zs.length = nk then .ok (pick sel (ds ++ zs ++ cc), S2) else .bad : Oc (List D × Store)).bind f) Q (fun c d H' => W c d σ H'))
    (h : ∀ zs S2 zv ι2 R2 H2, Stp S ι R S2 ι2 R2 → Ab K Fr S2 ι2 R2 H2 → RepL K R2 S2 ι2 zs zv → vs.length = np → zv.length = nk → RepL K R2 S2 ι2 (pick sel (ds ++ zs ++ cc)) (pick sel (vs ++ zv ++ cvs)) → wpO (Rep K) K Fr S2 ι2 R2 (f (pick sel (ds ++ zs ++ cc)) S2) Q (fun c d H' => W c d σ H') → P zv H2) :
    cO (RepL K) K W gk σ H P := by
  rw [Oc.bind_assoc] at w
  refine ⟨δ, S, ι, R, Fr, ab, lo, wpO.bind w fun zs S2 zv ι2 R2 H2 st ab2 rz w2 => ?_⟩
  by_cases hl : ds.length = np ∧ zs.length = nk
  · rw [if_pos hl] at w2
    have r3 : RepL K R2 S2 ι2 (ds ++ zs ++ cc) (vs ++ zv ++ cvs) := ((rs.step st).append rz).append (hD R2 S2 ι2)
    exact h zs S2 zv ι2 R2 H2 st ab2 rz (by rw [rs.length]; exact hl.1) (by rw [rz.length]; exact hl.2) (RepL.pick sel r3) w2
  · rw [if_neg hl] at w2
    exact w2.elim
theorem callK_read {K : PySem.W.Frag} {n nk : Nat} (hD : KonstL K cc cvs) : ∀ σ H Q, cO (Rep K) K W (xCall n F [] (xKw np nk sel cc ga gk)) σ H Q → tCallND np nk (SpD K n F) (kgV sel cvs) (WE W) (cO (RepL K) K W ga) (cO (RepL K) K W gk) σ H Q := fun σ H Q w => by
  have w' : cO (Rep K) K W (fun δ S => (ga δ S).bind fun ds S1 => ((gk δ S1).bind fun zs S2 => if ds.length = np ∧ zs.length = nk then .ok (pick sel (ds ++ zs ++ cc), S2) else .bad : Oc (List D × Store)).bind fun es S3 => if (es ++ []).length = n then F (es ++ []) S3 else .bad) σ H Q := by
    obtain ⟨δ, S, ι, R, Fr, ab, lo, w⟩ := w
    refine ⟨δ, S, ι, R, Fr, ab, lo, ?_⟩
    unfold xCall xKw at w
    rw [Oc.bind_assoc] at w
    exact w
  exact cO.bind (rel := RepL K) (rel2 := Rep K) (f := fun ds δ S1 => ((gk δ S1).bind fun zs S2 => if ds.length = np ∧ zs.length = nk then .ok (pick sel (ds ++ zs ++ cc), S2) else .bad : Oc (List D × Store)).bind fun es S3 => if (es ++ []).length = n then F (es ++ []) S3 else .bad) w' fun ds vs δ S1 ι1 R1 Fr H1 ab lo rs w1 =>
    kw_step hD lo rs ab w1 fun zs S2 zv ι2 R2 H2 st ab2 rz l1 l2 r3 w2 => ⟨l1, l2, by
      have z := spD_of (n := n) (F := F) ab2 r3 konstL_nil w2
      rw [List.append_nil] at z
      exact z⟩
theorem de_callK (c : Ctc X W k) (hF : FnD X.prog X.w X.K X.mg X.base k a fd ps F) (hm : X.mg x = some (.ref a)) (hk : PySem.W.keepIn X.K (.ref a) = true) (hb : KBn X.K fd ps np ks g (kgV sel cvs)) (hD : KonstL X.K cc cvs)
    (ha : DA X W (e :: es) ga) (hkw : DK X W kws gk) (hg : Gl X x := by rfl) (hall : (backToKw pos (keywordEach kws X.env)).all (·.1.isSome) = true := by rfl) (hks : (backToKw pos (keywordEach kws X.env)).filterMap (·.1) = ks := by rfl)
    (hdb : (x == ("__debug__" : Str)) = false := by decide) (he : starEach (e :: es) X.env = (false, eval e X.env) :: starEach es X.env := by rfl)
    (hpl : ((backTo pos (starEach (e :: es) X.env)).any (·.1) || (backToKw pos (keywordEach kws X.env)).any (·.1.isNone)) = false := by rfl) :
    DE X W (.Call (.Name x p) (e :: es) kws pos) (xCall ps.length F [] (xKw np ks.length sel cc ga gk)) := PE.imp (pe_callND hF c.hr hg hm hk hb (fun σ => passAt c.tk σ) ha hkw hall hks hdb he hpl) (callK_read hD)
theorem spD_cons {K : PySem.W.Frag} {n : Nat} {S : Store} {ι : Nat → Addr} {R H : Hp} {ds : List D} {vs : List V} {d : D} {v : V} {Q : VK} {E : XK} (ab : Ab K Fr S ι R H) (r : Rep K R S ι d v) (rs : RepL K R S ι ds vs)
    (w : wpO (Rep K) K Fr S ι R (if (d :: (ds ++ [])).length = n then F (d :: (ds ++ [])) S else .bad) Q E) : SpD K n F (v :: vs) H Q E := by
  rw [List.append_nil] at w
  have r2 := repL_cons r rs
  by_cases h : (d :: ds).length = n
  · rw [if_pos h] at w
    exact ⟨by rw [r2.length]; exact h, _, S, ι, R, Fr, ab, r2, w⟩
  · rw [if_neg h] at w
    exact w.elim
theorem kgV_cons (hs : sel0 = 0 :: sel.map Nat.succ) (v : V) (vs zs : List V) : kgV sel0 cvs (v :: vs) zs = v :: pick sel (vs ++ zs ++ cvs) := by
  subst hs
  show v :: pick (sel.map Nat.succ) (v :: (vs ++ zs ++ cvs)) = _
  rw [pick_tail]
theorem methK_read {K : PySem.W.Frag} {c : Str} {f : Addr} {n nk : Nat} (hm : Meth K (He.ga K c) m f) (hs : sel0 = 0 :: sel.map Nat.succ) (hD : KonstL K cc cvs) : ∀ σ H Q, cO (Rep K) K W (xMeth c n F [] go (xKw np nk sel cc ga gk)) σ H Q → tMethND (He.ga K c) m np nk (SpD K n F) (kgV sel0 cvs) (WE W) (cO (Rep K) K W go) (cO (RepL K) K W ga) (cO (RepL K) K W gk) σ H Q := fun σ H Q w =>
  cO.bind (rel := Rep K) (rel2 := Rep K) (f := fun d (δ : Lc) S1 => if isIns c d S1 = true then (xKw np nk sel cc ga gk δ S1).bind fun ds S2 => if (d :: (ds ++ [])).length = n then F (d :: (ds ++ [])) S2 else .bad else .bad) w fun d v δ S1 ι1 R1 Fr H1 ab lo r w1 => by
    by_cases h : isIns c d S1 = true
    · rw [if_pos h] at w1
      unfold isIns at h
      cases e : insOf d S1 with
      | none => rw [e] at h; cases h
      | some q =>
        obtain ⟨c', ns, ds'⟩ := q
        rw [e] at h
        obtain rfl : c' = c := of_decide_eq_true h
        obtain ⟨a, dx, fs, rfl, hH, io, rf⟩ := insOf_ok ab r e
        refine ⟨a, dx, fs, rfl, hH, io.nometh hm, δ, S1, ι1, R1, Fr, ab, lo, ?_⟩
        unfold xKw at w1
        rw [Oc.bind_assoc] at w1
        refine wpO.bind w1 fun ds S2 vs ι2 R2 H2 st ab2 rs w2 => ?_
        refine kw_step hD (lo.step st) rs ab2 w2 fun zs S3 zv ι3 R3 H3 st3 ab3 rz l1 l2 r3 w3 => ⟨l1, l2, ?_⟩
        rw [kgV_cons hs]
        exact spD_cons ab3 ((r.step st).step st3) r3 w3
    · rw [if_neg h] at w1
      exact w1.elim
theorem de_methK {pl : Sem Bool} (cn : Str) (c : Ctc X W k) (cl : Cls X.K (He.ga X.K cn)) (hm : Meth X.K (He.ga X.K cn) m a) (hF : FnD X.prog X.w X.K X.mg X.base k a fd ps F) (hb : KBn X.K fd ps (np + 1) ks g (kgV sel0 cvs)) (hs : sel0 = 0 :: sel.map Nat.succ) (hD : KonstL X.K cc cvs) (ho : DE X W o go)
    (ha : DA X W (e :: es) ga) (hkw : DK X W kws gk) (hall : (backToKw pos (keywordEach kws X.env)).all (·.1.isSome) = true := by rfl) (hks : (backToKw pos (keywordEach kws X.env)).filterMap (·.1) = ks := by rfl)
    (hst : starEach (e :: es) X.env = (false, eval e X.env) :: starEach es X.env := by rfl)
    (hpl : ((backTo pos (starEach (e :: es) X.env)).any (·.1) || (backToKw pos (keywordEach kws X.env)).any (·.1.isNone)) = false := by rfl)
    (ht : eval (.Call (.Attribute o m apos) (e :: es) kws pos) X.env = (do
      let ov ← eval o X.env
      standAt apos.atName
      let (f, first) ← holding [ov] (getMethod ov m pl)
      callWith pos f first (backTo pos (starEach (e :: es) X.env)) (backToKw pos (keywordEach kws X.env))) := by rfl) :
    DE X W (.Call (.Attribute o m apos) (e :: es) kws pos) (xMeth cn ps.length F [] go (xKw np ks.length sel cc ga gk)) := PE.imp (pe_methND ho cl hm hF c.hr hb (fun σ => passAt c.tk σ) ha hkw hall hks hst hpl ht) (methK_read hm hs hD)
theorem makeK_read {K : PySem.W.Frag} {c : Str} {n nk : Nat} (M : MkC K c ns) (hs : sel0 = 0 :: sel.map Nat.succ) (hD : KonstL K cc cvs) : ∀ σ H Q, cO (Rep K) K W (xMake c ns n F [] (xKw np nk sel cc ga gk)) σ H Q → tMakeND (He.ga K c) np nk (SpD K n F) (kgV sel0 cvs) (WE W) (cO (RepL K) K W ga) (cO (RepL K) K W gk) σ H Q := fun σ H Q w => by
  have w' : cO (Rep K) K W (fun δ S => (ga δ S).bind fun ds S1 => ((gk δ S1).bind fun zs S2 => if ds.length = np ∧ zs.length = nk then .ok (pick sel (ds ++ zs ++ cc), S2) else .bad : Oc (List D × Store)).bind fun ds S1 => if (D.ref S1.length :: (ds ++ [])).length = n then (F (.ref S1.length :: (ds ++ [])) (S1 ++ [some (.ins c ns (bots ns))])).bind fun d S2 => match d with | .non => .ok (.ref S1.length, S2) | _ => .bad else .bad) σ H Q := by
    obtain ⟨δ, S, ι, R, Fr, ab, lo, w⟩ := w
    refine ⟨δ, S, ι, R, Fr, ab, lo, ?_⟩
    unfold xMake xKw at w
    rw [Oc.bind_assoc] at w
    exact w
  exact cO.bind (rel := RepL K) (rel2 := Rep K) (f := fun ds δ S1 => ((gk δ S1).bind fun zs S2 => if ds.length = np ∧ zs.length = nk then .ok (pick sel (ds ++ zs ++ cc), S2) else .bad : Oc (List D × Store)).bind fun ds S1 => if (D.ref S1.length :: (ds ++ [])).length = n then (F (.ref S1.length :: (ds ++ [])) (S1 ++ [some (.ins c ns (bots ns))])).bind fun d S2 => match d with | .non => .ok (.ref S1.length, S2) | _ => .bad else .bad) w' fun ds vs δ S1 ι1 R1 Fr H1 ab lo rs w1 =>
    kw_step hD lo rs ab w1 fun zs S2 zv ι2 R2 H2 st ab2 rz l1 l2 r3 w2 => ⟨l1, l2, by
    by_cases hl : (D.ref S2.length :: (pick sel (ds ++ zs ++ cc) ++ [])).length = n
    · rw [if_pos hl] at w2
      intro y dx hy hdx hne
      obtain ⟨abb, stt⟩ := ab2.rnew (o := .own y) hdx
      have hy2 : upd H2 dx (.own y) y = none := by rw [upd_ne (Ne.symm hne)]; exact hy
      have ab3 := abb.frame_new (o := .ins (He.ga K c) dx []) hy2
      obtain ⟨ab4, st4⟩ := Ab.push (c := .ins c ns (bots ns)) ab3 (Same.free ab2.fsub hy) ⟨dx, [], upd_same, upd_same, ⟨M.cls, M.isi, M.noat, by simp [bots], M.nd, by simpa [bots] using M.few, by rw [nb_bots]; exact Nat.le_refl 0, fun f v h => by simp at h⟩, repF_bots ns⟩
      have stq := stt.trans st4
      have rr : Rep K (upd R2 dx (.own y)) (S2 ++ [some (.ins c ns (bots ns))]) (fun n => if n = S2.length then y else ι2 n) (.ref S2.length) (.ref y) := by
        unfold Rep
        exact ⟨y, rfl, by simp, fun _ => (if_pos rfl).symm⟩
      have r2 := repL_cons rr (RepL.step stq r3)
      rw [kgV_cons hs]
      rw [List.append_nil] at hl w2
      refine ⟨by rw [r2.length]; exact hl, _, _, _, _, Fr, ab4, r2, ?_⟩
      refine wpO.bind (rel2 := Rep K) (w2.step stq) fun d S3 v ι3 R3 H3 st5 ab5 rv w5 => ?_
      cases d with
      | non =>
        unfold Rep at rv
        exact ⟨rv, w5.ok ab5 (rr.step st5)⟩
      | _ => exact w5.elim
    · rw [if_neg hl] at w2
      exact w2.elim⟩
theorem de_makeK (cn : Str) (c : Ctc X W (k + 1)) (M : Mk X.K (He.ga X.K cn) a) (mk : MkC X.K cn ns) (hF : FnD X.prog X.w X.K X.mg X.base k a fd ps F) (hm : X.mg x = some (.ref (He.ga X.K cn))) (hb : KBn X.K fd ps (np + 1) ks g (kgV sel0 cvs)) (hs : sel0 = 0 :: sel.map Nat.succ) (hD : KonstL X.K cc cvs)
    (ha : DA X W (e :: es) ga) (hkw : DK X W kws gk) (hg : Gl X x := by rfl) (hall : (backToKw pos (keywordEach kws X.env)).all (·.1.isSome) = true := by rfl) (hks : (backToKw pos (keywordEach kws X.env)).filterMap (·.1) = ks := by rfl)
    (hdb : (x == ("__debug__" : Str)) = false := by decide) (he : starEach (e :: es) X.env = (false, eval e X.env) :: starEach es X.env := by rfl)
    (hpl : ((backTo pos (starEach (e :: es) X.env)).any (·.1) || (backToKw pos (keywordEach kws X.env)).any (·.1.isNone)) = false := by rfl) :
    DE X W (.Call (.Name x p) (e :: es) kws pos) (xMake cn ns ps.length F [] (xKw np ks.length sel cc ga gk)) := PE.imp (pe_makeKD M hF c.hr hg hm hb (fun σ => passAt c.tk σ) ha hkw hall hks hdb he hpl) (makeK_read mk hs hD)
theorem de_makeK0 (cn : Str) (c : Ctc X W (k + 1)) (M : Mk X.K (He.ga X.K cn) a) (mk : MkC X.K cn ns) (hF : FnD X.prog X.w X.K X.mg X.base k a fd ps F) (hm : X.mg x = some (.ref (He.ga X.K cn))) (hb : KBn X.K fd ps 1 ks g (kgV sel0 cvs)) (hs : sel0 = 0 :: sel.map Nat.succ) (hD : KonstL X.K cc cvs)
    (hkw : DK X W kws gk) (hg : Gl X x := by rfl) (hall : (backToKw pos (keywordEach kws X.env)).all (·.1.isSome) = true := by rfl) (hks : (backToKw pos (keywordEach kws X.env)).filterMap (·.1) = ks := by rfl)
    (hdb : (x == ("__debug__" : Str)) = false := by decide)
    (hpl : ((backTo pos (starEach [] X.env)).any (·.1) || (backToKw pos (keywordEach kws X.env)).any (·.1.isNone)) = false := by rfl) :
    DE X W (.Call (.Name x p) [] kws pos) (xMake cn ns ps.length F [] (xKw 0 ks.length sel cc xNil gk)) := PE.imp (pe_makeKD0 M hF c.hr hg hm hb (fun σ => passAt c.tk σ) hkw hall hks hdb hpl) fun σ H Q w => nil_read (makeK_read (ga := xNil) mk hs hD σ H Q w)
end
/-! ### what a call with keywords binds -/
/-- .. of a def without defaults, or all of them written -/
def KBx (K : PySem.W.Frag) (fd : FuncData) (ps : List Str) (n : Nat) (ks : List Str) (sel : List Nat) (cvs : List V) : Prop := ∃ g, KBn K fd ps n ks g (kgV sel cvs)
section
variable {K : PySem.W.Frag} {x qual : Str} {params : Arguments} {body : List Stmt} {scope : Scope} {dvs : List V} {kws : List (Str × V)} {f : Addr} {fd : FuncData} {ps : List Str}
theorem kbA (F : FunD K x qual params body scope dvs kws f fd) (n : Nat) (ks : List Str) (ms : List (Str × V)) (sel : List Nat) (hd : dvs ≠ []) (hk : kws ≠ []) (hms : ∀ q ∈ ms, q ∈ kws)
    (h : ∀ (T D : Addr) (doc pm : Value) (an : Option Addr) (cdv ct : Value) (us its mv ws : List Value), us.length = n → its.length = dvs.length → mv.length = ms.length → ws.length = ks.length →
      ∃ k, bindArgs (PySem.W.fnOf x qual params body scope (.ref T) (.ref D) doc pm an cdv ct) ⟨us, ks.zip ws⟩ = seqItems? (.ref T) >>= k ∧ KwChain D ((ms.map (·.1)).zip mv) (k (some its.toArray)) (ps.zip (pick sel (us ++ ws ++ (its ++ mv))))) :
    KBx K fd ps n ks sel (dvs ++ ms.map (·.2)) := by
  obtain ⟨its, mv, hb⟩ := FunD.kbinds F n ks ms (fun us its mv ws => pick sel (us ++ ws ++ (its ++ mv))) hd hk hms (fun a b c d => Vals.pick sel ((a.append d).append (b.append c))) h
  exact ⟨_, hb⟩
theorem kbB (F : FunD K x qual params body scope dvs kws f fd) (n : Nat) (ks : List Str) (sel : List Nat) (hd : dvs ≠ [])
    (h : ∀ (T : Addr) (kV doc pm : Value) (an : Option Addr) (cdv ct : Value) (us its ws : List Value), us.length = n → its.length = dvs.length → ws.length = ks.length →
      ∃ k, bindArgs (PySem.W.fnOf x qual params body scope (.ref T) kV doc pm an cdv ct) ⟨us, ks.zip ws⟩ = seqItems? (.ref T) >>= k ∧ k (some its.toArray) = pure (ps.zip (pick sel (us ++ ws ++ its)))) :
    KBx K fd ps n ks sel dvs := by
  obtain ⟨its, hb⟩ := FunD.kbindsD F n ks (fun us its ws => pick sel (us ++ ws ++ its)) hd (fun a b d => Vals.pick sel ((a.append d).append b)) h
  exact ⟨_, hb⟩
theorem kbC (F : FunD K x qual params body scope [] kws f fd) (n : Nat) (ks : List Str) (ms : List (Str × V)) (sel : List Nat) (hk : kws ≠ []) (hms : ∀ q ∈ ms, q ∈ kws)
    (h : ∀ (D : Addr) (doc pm : Value) (an : Option Addr) (cdv ct : Value) (us mv ws : List Value), us.length = n → mv.length = ms.length → ws.length = ks.length →
      KwChain D ((ms.map (·.1)).zip mv) (bindArgs (PySem.W.fnOf x qual params body scope .none (.ref D) doc pm an cdv ct) ⟨us, ks.zip ws⟩) (ps.zip (pick sel (us ++ ws ++ mv)))) :
    KBx K fd ps n ks sel (ms.map (·.2)) := by
  obtain ⟨mv, hb⟩ := FunD.kbinds0 F n ks ms (fun us mv ws => pick sel (us ++ ws ++ mv)) hk hms (fun a b d => Vals.pick sel ((a.append d).append b)) h
  exact ⟨_, hb⟩
end
/-- a keyword-only default of the def at f, if it is an object -/
def kwdAt (f : Str × Option Str) (x : Str) (K : PySem.W.Frag) : Addr := match K.lookup (He.fAd K f) with
  | some ⟨_, _, .func fd, _⟩ => (match fd.kwdefaults with
    | .ref D => (match PySem.W.nsIn K D x with
      | some (some (.ref b)) => b
      | _ => 0)
    | _ => 0)
  | _ => 0
end DL

set_option Elab.async false
set_option linter.all false
set_option maxRecDepth 100000
set_option maxHeartbeats 4000000
/-! More targets: a, b = x, y; a = b = e; o.f, o[i] within a tuple; a star (own work). -/
namespace DL
open PySem PySem.Spec L2 PyProof.Rows
variable {Fr : Hp}
/-! ### a, b = x, y -/
def sPar2 (i j : Nat) (g : LA) : LS := fun δ S => bindE δ (g δ S) fun ds S1 => match ds with
  | [a, b] => .ok .nx ((δ.set i (some a)).set j (some b)) S1
  | _ => .bad
def sPar3 (i j l : Nat) (g : LA) : LS := fun δ S => bindE δ (g δ S) fun ds S1 => match ds with
  | [a, b, c] => .ok .nx (((δ.set i (some a)).set j (some b)).set l (some c)) S1
  | _ => .bad
section
variable {X : Cx} {W : WX} {g : LA} {pos : Pos}
theorem ds_par2 (i j : Nat) {x y : Str} {a b : Expr} {px py pt : Pos} {kt k2 pt2} (hc : X.calm = true) (hN : X.N.Nodup) (ha : DA X W [a, b] g) (hi : X.N[i]? = some x := by rfl) (hj : X.N[j]? = some y := by rfl) (hij : i ≠ j := by decide)
    (hx : X.env.scope.names.lookup x = some .local := by rfl) (hy : X.env.scope.names.lookup y = some .local := by rfl)
    (hw : swappedStores [.Tuple [.Name x px, .Name y py] kt pt] (.Tuple [a, b] k2 pt2) X.env = pure (some [x, y]) := by rfl)
    (hs : swapsWithSole [.Tuple [.Name x px, .Name y py] kt pt] (.Tuple [a, b] k2 pt2) pos.line X.env = pure false := by rfl) :
    DS X W (.Assign [.Tuple [.Name x px, .Name y py] kt pt] (.Tuple [a, b] k2 pt2) pos) (sPar2 i j g) :=
  PS.imp (ps_par hc hN hi hj hij hx hy ha hw hs) fun D σ H w => cS.bindE (rel := RepL X.K) (f := fun δ ds S1 => (match ds with
    | [a, b] => .ok .nx ((δ.set i (some a)).set j (some b)) S1
    | _ => .bad : Os)) w fun ds vs δ S1 ι1 R1 Fr H1 ab lo rs w1 => by
    match ds, rs, w1 with
    | [d1, d2], rs, w1 =>
      unfold RepL at rs
      obtain ⟨v1, vs1, rfl, r1, rs⟩ := rs
      obtain ⟨v2, rfl, r2⟩ := repL1 rs
      exact ⟨v1, v2, rfl, w1 _ ι1 R1 H1 .refl ab ((lo.set r1 i).set r2 j)⟩
    | [], _, w1 => exact w1.elim
    | [_], _, w1 => exact w1.elim
    | _ :: _ :: _ :: _, _, w1 => exact w1.elim
theorem ds_par3 (i j l : Nat) {x y z : Str} {a b c : Expr} {px py pz pt : Pos} {kt k2 pt2} (hc : X.calm = true) (hN : X.N.Nodup) (ha : DA X W [a, b, c] g) (hi : X.N[i]? = some x := by rfl) (hj : X.N[j]? = some y := by rfl) (hl : X.N[l]? = some z := by rfl) (hij : i ≠ j := by decide) (hil : i ≠ l := by decide) (hjl : j ≠ l := by decide)
    (hx : X.env.scope.names.lookup x = some .local := by rfl) (hy : X.env.scope.names.lookup y = some .local := by rfl) (hz : X.env.scope.names.lookup z = some .local := by rfl)
    (hw : swappedStores [.Tuple [.Name x px, .Name y py, .Name z pz] kt pt] (.Tuple [a, b, c] k2 pt2) X.env = pure (some [x, y, z]) := by rfl)
    (hs : swapsWithSole [.Tuple [.Name x px, .Name y py, .Name z pz] kt pt] (.Tuple [a, b, c] k2 pt2) pos.line X.env = pure false := by rfl) :
    DS X W (.Assign [.Tuple [.Name x px, .Name y py, .Name z pz] kt pt] (.Tuple [a, b, c] k2 pt2) pos) (sPar3 i j l g) :=
  PS.imp (ps_par3 hc hN hi hj hl hij hil hjl hx hy hz ha hw hs) fun D σ H w => cS.bindE (rel := RepL X.K) (f := fun δ ds S1 => (match ds with
    | [a, b, c] => .ok .nx (((δ.set i (some a)).set j (some b)).set l (some c)) S1
    | _ => .bad : Os)) w fun ds vs δ S1 ι1 R1 Fr H1 ab lo rs w1 => by
    match ds, rs, w1 with
    | [d1, d2, d3], rs, w1 =>
      unfold RepL at rs
      obtain ⟨v1, vs1, rfl, r1, rs⟩ := rs
      unfold RepL at rs
      obtain ⟨v2, vs2, rfl, r2, rs⟩ := rs
      obtain ⟨v3, rfl, r3⟩ := repL1 rs
      exact ⟨v1, v2, v3, rfl, w1 _ ι1 R1 H1 .refl ab (((lo.set r1 i).set r2 j).set r3 l)⟩
    | [], _, w1 => exact w1.elim
    | [_], _, w1 => exact w1.elim
    | [_, _], _, w1 => exact w1.elim
    | _ :: _ :: _ :: _ :: _, _, w1 => exact w1.elim
end
/-! ### t1 = t2 = e -/
def sAsg2 (g : LE) (t1 t2 : LG) : LS := fun δ S => bindE δ (g δ S) fun d S1 => sGo ((t1 d δ S1).bind fun δ1 S2 => t2 d δ1 S2)
def sAsg3 (g : LE) (t1 t2 t3 : LG) : LS := fun δ S => bindE δ (g δ S) fun d S1 => sGo ((t1 d δ S1).bind fun δ1 S2 => (t2 d δ1 S2).bind fun δ2 S3 => t3 d δ2 S3)
section
variable {X : Cx} {W : WX} {g : LE} {g1 g2 g3 : LG} {e : Expr} {pos : Pos}
theorem ds_asg2 {t1 t2 : Expr} (he : DE X W e g) (h1 : DG X t1 g1) (h2 : DG X t2 g2) (ha : (assignEach [t1, t2] X.env).map (·.2) = [assign t1 X.env, assign t2 X.env] := by rfl) (hw : swappedStores [t1, t2] e X.env = pure none := by rfl) : DS X W (.Assign [t1, t2] e pos) (sAsg2 g g1 g2) :=
  PS.imp (ps_asg2 he h1 h2 ha hw) fun D σ H w => cS.bindE (f := fun δ d S1 => sGo ((g1 d δ S1).bind fun δ1 S2 => g2 d δ1 S2)) w fun d v δ S1 ι1 R1 Fr H1 ab lo r w1 =>
    ⟨d, δ, S1, ι1, R1, Fr, ab, lo, r, wpO.bind (rel := Locs X.K) (rel2 := Locs X.K) (sGo_read w1) fun δ2 S2 σ2 ι2 R2 H2 st ab2 lo2 w2 => ⟨d, δ2, S2, ι2, R2, Fr, ab2, lo2, r.step st, w2⟩⟩
theorem ds_asg3 {t1 t2 t3 : Expr} (he : DE X W e g) (h1 : DG X t1 g1) (h2 : DG X t2 g2) (h3 : DG X t3 g3) (ha : (assignEach [t1, t2, t3] X.env).map (·.2) = [assign t1 X.env, assign t2 X.env, assign t3 X.env] := by rfl) (hw : swappedStores [t1, t2, t3] e X.env = pure none := by rfl) : DS X W (.Assign [t1, t2, t3] e pos) (sAsg3 g g1 g2 g3) :=
  PS.imp (ps_asg3 he h1 h2 h3 ha hw) fun D σ H w => cS.bindE (f := fun δ d S1 => sGo ((g1 d δ S1).bind fun δ1 S2 => (g2 d δ1 S2).bind fun δ2 S3 => g3 d δ2 S3)) w fun d v δ S1 ι1 R1 Fr H1 ab lo r w1 =>
    ⟨d, δ, S1, ι1, R1, Fr, ab, lo, r, wpO.bind (rel := Locs X.K) (rel2 := Locs X.K) (sGo_read w1) fun δ2 S2 σ2 ι2 R2 H2 st ab2 lo2 w2 => ⟨d, δ2, S2, ι2, R2, Fr, ab2, lo2, r.step st, wpO.bind (rel := Locs X.K) (rel2 := Locs X.K) w2 fun δ3 S3 σ3 ι3 R3 H3 st3 ab3 lo3 w3 => ⟨d, δ3, S3, ι3, R3, Fr, ab3, lo3, (r.step st).step st3, w3⟩⟩⟩
end
/-! ### o.f, d[k], xs[i] as targets -/
def gFldT (K : PySem.W.Frag) (to : TE) (f : Str) : TG := fun v σ H Q => to σ H fun x H1 => ∃ a C dx fs, x = .ref a ∧ H1 a = some (.ins C dx fs) ∧ Cls K C ∧ NoAttr K C f ∧ fs.length < 1000 ∧ Q σ (upd H1 a (.ins C dx (putF f v fs)))
theorem pg_fldT {X : Cx} {o : Expr} {f : Str} {to : TE} {pos : Pos} (ho : PE X o to)
    (ha : ∀ v, assign (.Attribute o f pos) X.env v = (do
      let ov ← holding [v] (eval o X.env)
      standAt pos.atName
      holding [v, ov] (setAttr ov f v)
      release [v, ov] []) := by intro _; rfl) : PG X (.Attribute o f pos) (gFldT X.K to f) := by
  refine ⟨fun pins s σ H v u Q I r h => ?_⟩
  rw [ha]
  refine wpAny_bind (wpAny_holding (thn (ho.run pins s σ H _ I h) fun ov s1 ⟨x, H1, I1, r1, a, C, dx, fs, ex, ea, c, n, l, q1⟩ => ?_))
  subst ex
  obtain rfl : ov = Value.ref a := r1
  refine wpAny_bind (wpAny_standAt (wpAny_bind (wpAny_holding (setattr_ok I1 ea c n l r fun s3 I3 => ?_))))
  exact wpAny_release ⟨σ, _, I3, q1⟩
def gFd (i : Nat) (f : Str) (go : LE) : LG := fun y δ S => (go δ S).bind fun d S2 => match stFld i f [] d y S2 with
  | .ok (_, S3) => .ok (δ, S3)
  | _ => .bad
def gDs (go gi : LE) : LG := fun y δ S => (go δ S).bind fun d S2 => (gi δ S2).bind fun kd S3 => match stKey d y kd S3 with
  | some S4 => .ok (δ, S4)
  | none => .bad
def gLs (go gi : LE) : LG := fun y δ S => (go δ S).bind fun d S2 => (gi δ S2).bind fun kd S3 => match stLst d y kd S3 with
  | some S4 => .ok (δ, S4)
  | none => .bad
section
variable {X : Cx} {k : Nat} {o i : Expr} {f : Str} {go gi : LE} {pos : Pos}
theorem dg_fld (n : Nat) (ho : DE X WF o go) (ha : ∀ v, assign (.Attribute o f pos) X.env v = (do
      let ov ← holding [v] (eval o X.env)
      standAt pos.atName
      holding [v, ov] (setAttr ov f v)
      release [v, ov] []) := by intro _; rfl) : DG X (.Attribute o f pos) (gFd n f go) :=
  PG.imp (pg_fldT ho ha) fun v σ H Q ⟨y, δ, S, ι, R, Fr, ab, lo, ry, w⟩ => ⟨δ, S, ι, R, Fr, ab, lo, wpO.bind (rel := Rep X.K) (rel2 := Locs X.K) w fun d S2 x ι2 R2 H2 st ab2 r w2 => by
    cases e3 : stFld n f [] d y S2 with
    | bad => rw [e3] at w2; exact w2.elim
    | exc c fs S' => rw [e3] at w2; exact w2.elim
    | ok q =>
      rw [e3] at w2
      obtain ⟨⟨⟩, S3⟩ := q
      obtain ⟨a, c, dx, fs, e4, hH, hc, hn, hl, ab3, st3⟩ := stFld_ok ab2 r (ry.step st) e3
      exact ⟨a, _, dx, fs, e4, hH, hc, hn, hl, w2 σ ι2 R2 _ st3 ab3 ((lo.step st).step st3)⟩⟩
theorem dg_dset {W : WX} (c : Ctc X W k) (ho : DE X WF o go) (hi : DE X WF i gi)
    (ha : ∀ v, assign (.Subscript o i pos) X.env v = (do
      let ov ← holding [v] (eval o X.env)
      let iv ← holding [v, ov] (eval i X.env)
      standAt pos
      holding [v, ov, iv] (setItem ov iv v)
      release [v, ov, iv] []) := by intro _; rfl) : DG X (.Subscript o i pos) (gDs go gi) :=
  PG.imp (pg_sub ho hi (set_dict (ctc_u c)) ha) fun v σ H Q ⟨y, δ, S, ι, R, Fr, ab, lo, ry, w⟩ => ⟨δ, S, ι, R, Fr, ab, lo, wpO.bind (rel := Rep X.K) (rel2 := Locs X.K) w fun d S2 x ι2 R2 H2 st ab2 r w2 =>
    ⟨δ, S2, ι2, R2, Fr, ab2, lo.step st, wpO.bind (rel := Rep X.K) (rel2 := Locs X.K) w2 fun kd S3 u ι3 R3 H3 st3 ab3 rk w3 => by
      cases e3 : stKey d y kd S3 with
      | none => rw [e3] at w3; exact w3.elim
      | some S4 =>
        rw [e3] at w3
        obtain ⟨a, H', ex, hp, ab4, st4⟩ := stKey_ok ab3 (r.step st3) ((ry.step st).step st3) rk e3
        exact ⟨a, H', ex, hp, w3 σ ι3 R3 H' st4 ab4 (((lo.step st).step st3).step st4)⟩⟩⟩
theorem dg_lset (ho : DE X WF o go) (hi : DE X WF i gi)
    (ha : ∀ v, assign (.Subscript o i pos) X.env v = (do
      let ov ← holding [v] (eval o X.env)
      let iv ← holding [v, ov] (eval i X.env)
      standAt pos
      holding [v, ov, iv] (setItem ov iv v)
      release [v, ov, iv] []) := by intro _; rfl) : DG X (.Subscript o i pos) (gLs go gi) :=
  PG.imp (pg_sub ho hi set_list ha) fun v σ H Q ⟨y, δ, S, ι, R, Fr, ab, lo, ry, w⟩ => ⟨δ, S, ι, R, Fr, ab, lo, wpO.bind (rel := Rep X.K) (rel2 := Locs X.K) w fun d S2 x ι2 R2 H2 st ab2 r w2 =>
    ⟨δ, S2, ι2, R2, Fr, ab2, lo.step st, wpO.bind (rel := Rep X.K) (rel2 := Locs X.K) w2 fun kd S3 u ι3 R3 H3 st3 ab3 rk w3 => by
      cases e3 : stLst d y kd S3 with
      | none => rw [e3] at w3; exact w3.elim
      | some S4 =>
        rw [e3] at w3
        obtain ⟨a, vs, i, j, rfl, rfl, hH, hj, ab4, st4⟩ := stLst_ok ab3 (r.step st3) ((ry.step st).step st3) rk e3
        exact ⟨a, vs, i, j, rfl, rfl, hH, hj, w3 _ ι3 R3 _ st4 ab4 (((lo.step st).step st3).step st4)⟩⟩⟩
end
/-! ### a star among targets -/
def starOf {α : Type} (xs : List α) (n i : Nat) (m : α) : List α := xs.take i ++ [m] ++ (xs.drop i).drop (xs.length + 1 - n)
def gStar (T : Addr → List V → Hp → Prop) (n i : Nat) (t : TGs) : TG := fun v σ H Q => ∃ a xs, v = .ref a ∧ T a xs H ∧ i < n ∧ n ≤ xs.length + 1 ∧ xs.length ≤ 16384 ∧
  ∀ p, H p = none → t (starOf xs n i (.ref p)) σ (upd H p (.lst ((xs.drop i).take (xs.length + 1 - n)))) Q
theorem pgs_star {X : Cx} {e : Expr} {es : List Expr} {p : Pos} {t : TG} {u : TGs} (h1 : PG X e t) (h2 : PGs X es u) : PGs X (.Starred e p :: es) (gCons t u) := by
  refine ⟨fun pins s σ H vs us Q I r h => ?_⟩
  obtain ⟨v, vr, e1, h⟩ := h
  subst e1
  cases r with
  | cons r rr =>
    show wpAny _ _ (assignInOrder (assign e X.env :: (assignEach es X.env).map (·.2)) _) _ _ _
    refine assignInOrder_cons (thn (h1.run pins s σ H _ _ _ I r h) fun _ s1 ⟨σ1, H1, I1, q1⟩ => ?_)
    exact h2.run pins s1 σ1 H1 _ _ Q I1 rr q1
section
variable {X : Cx} {pos : Pos}
theorem star_fin {pins : List (Addr × Obj)} {s2 : Shared} {σ : L2.St} {H : Hp} {xs : List V} {its : List Value} {n i : Nat} {es : List Expr} {t : TGs} {Q : L2.St → Hp → Prop} (h : PGs X es t) (I : Inv X pins σ H s2) (rv : Vals xs its) (hi : i < n) (hn : n ≤ xs.length + 1) (hz : xs.length ≤ 16384)
    (hw : ∀ p, H p = none → t (starOf xs n i (.ref p)) σ (upd H p (.lst ((xs.drop i).take (xs.length + 1 - n)))) Q) :
    wpAny (model X.prog X.w) X.A (newList ((its.drop i).take (its.length + 1 - n)) >>= fun d => pure (its.take i ++ [d] ++ (its.drop i).drop (its.length + 1 - n)))
      (fun us s3 => wpAny (model X.prog X.w) X.A (assignInOrder ((assignEach es X.env).map (·.2)) us) (fun _ s' => ∃ σ' H', Inv X pins σ' H' s' ∧ Q σ' H') X.xe s3) X.xe s2 := by
  have hl := rv.length
  have hz2 : ((xs.drop i).take (xs.length + 1 - n)).length ≤ sizeLine := by
    rw [List.length_take, List.length_drop, sizeLine_eq]; omega
  have hz3 : ((its.drop i).take (its.length + 1 - n)).length ≤ sizeLine := by
    rw [List.length_take, List.length_drop, sizeLine_eq]; omega
  refine wpAny_bind (wpAny_newList ?_ hz3)
  refine wpAny_pure ?_
  have hf : H s2.heap.objs.size = none := I.hok.fresh (Nat.le_refl _)
  have r2 : Vals ((xs.drop i).take (xs.length + 1 - n)) ((its.drop i).take (its.length + 1 - n)) := by rw [hl]; exact (rv.drop i).take _
  have I2 := I.laid (a := s2.heap.objs.size) (o := .lst ((xs.drop i).take (xs.length + 1 - n))) (t' := s2.toks) (h' := s2.heap.push { cls := .type "list", data := .seq ((its.drop i).take (its.length + 1 - n)).toArray }) (fun b u e => Heap.get?_push_of_some _ e) (Nat.le_refl _)
    ⟨hz2, _, 0, r2, Heap.get?_push_size _ rfl⟩
  have r3 : Vals (starOf xs n i (.ref s2.heap.objs.size)) (its.take i ++ [.ref s2.heap.objs.size] ++ (its.drop i).drop (its.length + 1 - n)) := by
    unfold starOf
    rw [hl]
    exact ((rv.take i).append (.cons (show RelV (.ref s2.heap.objs.size) (.ref s2.heap.objs.size) from rfl) .nil)).append ((rv.drop i).drop _)
  exact h.run pins _ σ _ _ _ Q I2 r3 (hw _ hf)
theorem pg_starT {es : List Expr} {k : Nat} {t : TGs} {n i : Nat} (hc : X.calm = true) (h : PGs X es t)
    (hn : (assignEach es X.env).length = n := by rfl) (hst : (assignEach es X.env).findIdx? (·.1) = some i := by rfl) : PG X (.Tuple es k pos) (gStar (fun a xs H => SqT X.K H a xs) n i t) := by
  refine ⟨fun pins s σ H v u Q I r hw => ?_⟩
  obtain ⟨a, xs, e1, hq, hi, hn1, hz, hw⟩ := hw
  subst e1
  cases r
  obtain ⟨its, rv, hl, hzz⟩ := I.tuple hq
  have hlen := rv.length
  rw [PyProof.Rows.assign_Tuple]
  refine wpAny_bind (wpAny_standAt ?_)
  unfold unpack
  rw [hn, hst]
  refine wpAny_bind (wpAny_holding ?_)
  have hh := I.ok.hd hc
  have hlt : a ≠ s.heap.objs.size := by obtain ⟨o, ho, _⟩ := hl; exact Nat.ne_of_lt (Heap.lt_size ho)
  unfold unpackItems
  refine wpAny_bind ?_
  unfold notIterableAtAll
  refine wpAny_bind (wpAny_specialOf hl.typeIs slot_tuple_iter.lookup ?_)
  refine wpAny_pure ?_
  simp only [Bool.false_eq_true, if_false]
  refine wpAny_bind (wpAny_holding (iter_tuple hl ?_))
  refine wpAny_bind (wpAny_holding (draw_tuple hlt i 0 _ _ ⟨_, Heap.get?_push_size _ rfl, rfl, rfl⟩ (hl.push _) (by show 0 + i ≤ its.length; omega) fun h₁ hit₁ hs₁ => ?_))
  have hl₁ : IsTup h₁ a its.toArray := (hl.push _).extBut hs₁.extBut hlt
  rw [Nat.zero_add] at hit₁
  have hit₁' := hit₁
  obtain ⟨oi, hoi, _⟩ := hit₁'
  have hl₁' := hl₁
  obtain ⟨ol, hol, _⟩ := hl₁'
  rw [List.drop_zero]
  have hfl : (its.take i).length = i := by rw [List.length_take]; omega
  show wpAny _ _ (if (its.take i).length < i then _ else _) _ _ _
  rw [if_neg (show ¬ ((its.take i).length < i) by rw [hfl]; omega)]
  refine wpAny_bind (wpAny_holding (PySem.W.kun_collect (s := { s with heap := h₁ }) (T := "tuple_iterator") (.inr (.inr (.inr rfl))) (Walks.tuple (A := X.A.in1) hh s.heap.objs.size a hlt its.toArray) (fun j u st => st.1.typeIs) (k := i) (by show i ≤ its.length; omega) ⟨hit₁, hl₁⟩ (Heap.lt_size hoi) (Heap.lt_size hol) (fun h₂ tk hk => ?_) (by show its.length ≤ sizeLine; rw [sizeLine_eq]; omega)))
  have hrl : (its.drop i).length = its.length - i := List.length_drop ..
  have hmid : (its.drop i).length - (n - 1 - i) = its.length + 1 - n := by rw [hrl]; omega
  show wpAny _ _ (if (its.drop i).length < n - 1 - i then _ else _) _ _ _
  rw [if_neg (by rw [hrl]; omega)]
  show wpAny _ _ (newList ((its.drop i).take ((its.drop i).length - (n - 1 - i))) >>= fun d => pure (its.take i ++ [d] ++ (its.drop i).drop ((its.drop i).length - (n - 1 - i)))) _ _ _
  rw [hmid]
  have I2 : Inv X pins σ H { s with heap := h₂, toks := tk } := I.kept (t' := tk) fun b o e => hk b o (Nat.ne_of_lt (Heap.lt_size e)) (hs₁.extBut b o (Nat.ne_of_lt (Heap.lt_size e)) (Heap.get?_push_of_some _ e))
  exact star_fin h I2 rv hi hn1 hz hw
theorem pg_starL {es : List Expr} {k : Nat} {t : TGs} {n i : Nat} (hc : X.calm = true) (h : PGs X es t)
    (hn : (assignEach es X.env).length = n := by rfl) (hst : (assignEach es X.env).findIdx? (·.1) = some i := by rfl) : PG X (.Tuple es k pos) (gStar (fun a xs H => SqL X.K H a xs) n i t) := by
  refine ⟨fun pins s σ H v u Q I r hw => ?_⟩
  obtain ⟨a, xs, e1, hq, hi, hn1, hz, hw⟩ := hw
  subst e1
  cases r
  obtain ⟨its, rv, pl, hzz⟩ := I.list hq
  have hl : s.heap.IsList a its.toArray := by
    obtain ⟨o, m, e, c, d, q⟩ := pl
    exact ⟨o, e, c, m, q⟩
  have hlen := rv.length
  rw [PyProof.Rows.assign_Tuple]
  refine wpAny_bind (wpAny_standAt ?_)
  unfold unpack
  rw [hn, hst]
  refine wpAny_bind (wpAny_holding ?_)
  have hh := I.ok.hd hc
  have hlt : a ≠ s.heap.objs.size := by obtain ⟨o, ho, _⟩ := hl; exact Nat.ne_of_lt (Heap.lt_size ho)
  unfold unpackItems
  refine wpAny_bind ?_
  unfold notIterableAtAll
  refine wpAny_bind (wpAny_specialOf hl.typeIs slot_list_iter.lookup ?_)
  refine wpAny_pure ?_
  simp only [Bool.false_eq_true, if_false]
  refine wpAny_bind (wpAny_holding (wpAny_pyIter_list hl ?_))
  refine wpAny_bind (wpAny_holding (PySem.W.kun_draw hlt i 0 _ _ ⟨_, Heap.get?_push_size _ rfl, rfl, rfl⟩ (hl.push _) (by show 0 + i ≤ its.length; omega) fun h₁ hit₁ hs₁ => ?_))
  have hl₁ : h₁.IsList a its.toArray := (hl.push _).extBut hs₁.extBut hlt
  rw [Nat.zero_add] at hit₁
  have hit₁' := hit₁
  obtain ⟨oi, hoi, _⟩ := hit₁'
  have hl₁' := hl₁
  obtain ⟨ol, hol, _⟩ := hl₁'
  rw [List.drop_zero]
  have hfl : (its.take i).length = i := by rw [List.length_take]; omega
  show wpAny _ _ (if (its.take i).length < i then _ else _) _ _ _
  rw [if_neg (show ¬ ((its.take i).length < i) by rw [hfl]; omega)]
  refine wpAny_bind (wpAny_holding (PySem.W.kun_collect (s := { s with heap := h₁ }) (T := "list_iterator") (.inr (.inr (.inl rfl))) (Walks.list (A := X.A.in1) hh s.heap.objs.size a hlt its.toArray) (fun j u st => st.1.typeIs) (k := i) (by show i ≤ its.length; omega) ⟨hit₁, hl₁⟩ (Heap.lt_size hoi) (Heap.lt_size hol) (fun h₂ tk hk => ?_) (by show its.length ≤ sizeLine; rw [sizeLine_eq]; omega)))
  have hrl : (its.drop i).length = its.length - i := List.length_drop ..
  have hmid : (its.drop i).length - (n - 1 - i) = its.length + 1 - n := by rw [hrl]; omega
  show wpAny _ _ (if (its.drop i).length < n - 1 - i then _ else _) _ _ _
  rw [if_neg (by rw [hrl]; omega)]
  show wpAny _ _ (newList ((its.drop i).take ((its.drop i).length - (n - 1 - i))) >>= fun d => pure (its.take i ++ [d] ++ (its.drop i).drop ((its.drop i).length - (n - 1 - i)))) _ _ _
  rw [hmid]
  have I2 : Inv X pins σ H { s with heap := h₂, toks := tk } := I.kept (t' := tk) fun b o e => hk b o (Nat.ne_of_lt (Heap.lt_size e)) (hs₁.extBut b o (Nat.ne_of_lt (Heap.lt_size e)) (Heap.get?_push_of_some _ e))
  exact star_fin h I2 rv hi hn1 hz hw
def starSrc (tup : Bool) (d : D) (S : Store) : Option (List D) := if tup then (match d with
  | .tup ds => some ds
  | _ => none) else asL d S
/-- a, *b, c = a tuple (a list): b is a new list that nobody changes -/
def gSt (tup : Bool) (n i : Nat) (gs : LGs) : LG := fun d δ S => match starSrc tup d S with
  | some ds => if i < n ∧ n ≤ ds.length + 1 ∧ ds.length ≤ 16384 then gs (starOf ds n i (.lst ((ds.drop i).take (ds.length + 1 - n)))) δ S else .bad
  | none => .bad
theorem gSt_read {K : PySem.W.Frag} {tup : Bool} {T : Addr → List V → Hp → Prop} {gs : LGs} {n i : Nat} (hT : ∀ {Fr S ι R H d v} {ds : List D}, Ab K Fr S ι R H → Rep K R S ι d v → starSrc tup d S = some ds → ∃ a xs, v = .ref a ∧ T a xs H ∧ RepL K R S ι ds xs) :
    ∀ v σ H Q, cG K (gSt tup n i gs) v σ H Q → gStar T n i (cGs K gs) v σ H Q := fun v σ H Q ⟨d, δ, S, ι, R, Fr, ab, lo, r, w⟩ => by
  unfold gSt at w
  cases e : starSrc tup d S with
  | none => rw [e] at w; exact w.elim
  | some ds =>
    rw [e] at w
    dsimp only at w
    obtain ⟨a, xs, rfl, q, rs⟩ := hT ab r e
    by_cases hl : i < n ∧ n ≤ ds.length + 1 ∧ ds.length ≤ 16384
    · rw [if_pos hl] at w
      have el := rs.length
      refine ⟨a, xs, rfl, q, hl.1, by rw [el]; exact hl.2.1, by rw [el]; exact hl.2.2, fun p hp => ?_⟩
      obtain ⟨ab2, st2⟩ := ab.rnew (o := .lst ((xs.drop i).take (xs.length + 1 - n))) hp
      refine ⟨_, δ, S, ι, _, Fr, ab2, lo.step st2, ?_, w.step st2⟩
      unfold starOf
      rw [← el]
      have rs2 := RepL.step st2 rs
      refine ((rs2.take i).append (repL_cons ?_ repL_nil)).append ((rs2.drop i).drop _)
      unfold Rep
      exact ⟨p, _, rfl, upd_same, (rs2.drop i).take _⟩
    · rw [if_neg hl] at w
      exact w.elim
theorem dgs_star {es : List Expr} {e : Expr} {p : Pos} {gg : LG} {gs : LGs} (h1 : DG X e gg) (h2 : DGs X es gs) : DGs X (.Starred e p :: es) (gCn gg gs) := PGs.imp (pgs_star h1 h2) fun vs σ H Q ⟨ds, δ, S, ι, R, Fr, ab, lo, r, w⟩ => by
  cases ds with
  | nil => exact w.elim
  | cons d ds =>
    unfold RepL at r
    obtain ⟨v, vs', e1, r1, r2⟩ := r
    refine ⟨v, vs', e1, d, δ, S, ι, R, Fr, ab, lo, r1, ?_⟩
    exact wpO.bind w fun δ1 S1 σ1 ι1 R1 H1 st ab1 lo1 w1 => ⟨ds, δ1, S1, ι1, R1, Fr, ab1, lo1, r2.step st, w1⟩
theorem dg_starT {es : List Expr} {k : Nat} {gs : LGs} (hc : X.calm = true) (h : DGs X es gs) {n i : Nat} (hn : (assignEach es X.env).length = n := by rfl) (hst : (assignEach es X.env).findIdx? (·.1) = some i := by rfl) : DG X (.Tuple es k pos) (gSt true n i gs) :=
  PG.imp (pg_starT hc h hn hst) (gSt_read fun {Fr S ι R H d v ds} ab r e => by
    cases d with
    | tup es =>
      have e1 : es = ds := Option.some.inj e
      subst e1
      unfold Rep at r
      obtain ⟨a, xs, e2, sq, rs⟩ := r
      exact ⟨a, xs, e2, seqT_sub ab.sub sq, rs⟩
    | _ => cases e)
theorem dg_starL {es : List Expr} {k : Nat} {gs : LGs} (hc : X.calm = true) (h : DGs X es gs) {n i : Nat} (hn : (assignEach es X.env).length = n := by rfl) (hst : (assignEach es X.env).findIdx? (·.1) = some i := by rfl) : DG X (.Tuple es k pos) (gSt false n i gs) :=
  PG.imp (pg_starL hc h hn hst) (gSt_read fun ab r e => asL_ok ab r e)
end
end DL

set_option Elab.async false
set_option linter.all false
set_option maxRecDepth 100000
set_option maxHeartbeats 4000000
/-! More of dicts: sorted(d), dict(d), d.pop (own work). -/
namespace DL
open PySem PySem.Spec L2
variable {Fr : Hp}
def kInts : List Key → Option (List Int)
  | [] => some []
  | .inl i :: ks => (kInts ks).map (i :: ·)
  | _ => none
theorem kInts_ok : ∀ {ks : List Key} {ns : List Int}, kInts ks = some ns → ks = ns.map Sum.inl
  | [], ns, h => by cases h; rfl
  | .inl i :: ks, ns, h => by
    unfold kInts at h
    cases e : kInts ks with
    | none => rw [e] at h; cases h
    | some ms =>
      rw [e] at h
      cases h
      rw [kInts_ok e]
      rfl
  | .inr _ :: _, _, h => by cases h
theorem kInts_map : ∀ ns : List Int, kInts (ns.map Sum.inl) = some ns
  | [] => rfl
  | n :: ns => by
    show (kInts (ns.map Sum.inl)).map (n :: ·) = _
    rw [kInts_map ns]
    rfl
/-- sorted(d) of a dict, all keys ints, any number of them (the kit's rule has it below 64) -/
theorem call_sortedDA {X : Cx} (hcalm : X.calm = true) : CallR X (.builtin "sorted") (fun xs H Q => ∃ (a : Addr) (kvs : List (Key × V)) (ks : List Int), xs = [.ref a] ∧ Rd H a (.dK kvs) ∧ kvs.map (·.1) = ks.map Sum.inl ∧ ks.length ≤ 16777216 ∧
    ∀ (ys : List Int) (p : Addr), ys.Perm ks → ys.Pairwise (· ≤ ·) → H p = none → Q (.ref p) (upd H p (.lst (ys.map V.int)))) := by
  intro pins s σ H xs us Q I r q
  obtain ⟨a, kvs, ks, ex, hd, hks, h64, q⟩ := q
  subst ex
  obtain ⟨u, eu, rx⟩ := vals1 r
  subst eu
  cases rx
  obtain ⟨z, lo, vs, rel, dd⟩ := dk_rd I.hok hd
  obtain ⟨ep, hat⟩ := dd.dictAt
  have hkeys : vs.map (·.1) = ks.map Sum.inl := rel.keys.symm.trans hks
  have hl : vs.length = ks.length := by
    have e := congrArg List.length hkeys
    rw [List.length_map, List.length_map] at e
    exact e
  have h16 : vs.length ≤ sizeLine := by rw [hl, sizeLine_eq]; omega
  refine Calls.call_function_entry PyProof.Rows.kind_sorted PyProof.Rows.plain_sorted PyProof.Rows.entry_sorted (PyProof.Rows.args_sorted1 _) ?_
  unfold Builtin.«sorted»
  refine wpAny_bind (m := checkCount "sorted" 1 1 _) (wpAny_pure ?_)
  refine wpAny_bind (PySem.W.kdu_collect (A := X.A.in1) (PySem.W.kdl_dict (knd := mixKind X.prog X.w) (kvs := vs) (ep := ep) lo) (I.ok.hd hcalm) hat h16 fun h' tk acc hk hacc => ?_)
  have hal : acc.toList.length = ks.length := by rw [Array.length_toList, hacc.1, hl]
  have hS : PyProof.Rows.IntsAre acc.toList ks := ints_each hal fun j v e => by
    obtain ⟨k, x, e1, e2⟩ := hacc.2 j v (by rw [← Array.getElem?_toList]; exact e)
    have e3 : (vs.map (·.1))[j]? = some k := by rw [List.getElem?_map, e1]; rfl
    rw [hkeys, List.getElem?_map] at e3
    cases e4 : ks[j]? with
    | none => rw [e4] at e3; cases e3
    | some y =>
      rw [e4] at e3
      have e5 : Sum.inl y = k := Option.some.inj e3
      subst e5
      rcases keyIs_shape (show keyIs (Sum.inl y) v = true from e2) with ⟨i, t, ek, ev⟩ | ⟨z, t, ek, ev⟩
      · cases ek
        exact ⟨y, t, rfl, ev⟩
      · cases ek
  have I1 : Inv X pins σ H { s with heap := h', toks := tk } := I.kept hk
  refine wpAny_bind (wpAny_newList ?_ (by rw [hal, sizeLine_eq]; omega))
  have hoL : (h'.push (PyProof.Rows.seqObj "list" acc.toList.toArray 0)).get? h'.objs.size = some (PyProof.Rows.seqObj "list" acc.toList.toArray 0) := Heap.get?_push_size _ rfl
  show wpAny _ _ _ _ _ { s with heap := h'.push (PyProof.Rows.seqObj "list" acc.toList.toArray 0), toks := tk }
  refine wpAny_bind (wpAny_holding (wpAny_call_entry PyProof.Rows.slot_list_sort ⟨_, hoL, rfl⟩ PyProof.Rows.entry_list_sort
    (SrtO.list_sort_ord (s := { s with heap := h'.push (PyProof.Rows.seqObj "list" acc.toList.toArray 0), toks := tk }) SrtO.swo_int hoL (by rw [hal, sizeLine_eq]; omega) (fun h2 => SrtO.ints_sortable hS h2) fun out h1 h2 => ⟨_, rfl, ?_⟩) (PyProof.Rows.args_list_sort _)))
  obtain ⟨k1, k2, k3⟩ := SrtO.ints_out hS h1 h2
  obtain ⟨e', he'⟩ := PyProof.Rows.sortedHeap_at (vs := acc.toList) (out := out.toArray) hoL
  have hlen : ((out.map SrtO.iv).map V.int).length ≤ sizeLine := by
    rw [List.length_map, k2.length_eq, sizeLine_eq]
    omega
  refine wpAny_pure ⟨_, rfl, .ref h'.objs.size, upd H h'.objs.size (.lst ((out.map SrtO.iv).map V.int)), I1.laid (t' := tk) (fun b u e => ?_) (Nat.le_refl _)
    (show ObjOk X.prog X.w _ _ _ (.lst ((out.map SrtO.iv).map V.int)) from ⟨hlen, out, e', vals_of_ints k1, he'⟩), rfl, q _ _ k2 k3 (I1.hok.fresh (Nat.le_refl _))⟩
  have hb : b < h'.objs.size := Heap.lt_size e
  rw [PyProof.Rows.sortedHeap_old (Nat.ne_of_lt hb) (by rw [PyProof.Rows.size_push']; exact Nat.lt_succ_of_lt hb)]
  exact Heap.get?_push_of_some _ e
/-- sorted(d) of a dict with int keys -/
def nSortedD : List D → Store → Oc (List D × Store) := fun ds S => match ds with
  | [d] => (match (asDct d S).bind fun q => kInts q.1 with
    | some ns => if ns.length ≤ 16777216 then .ok ((sortI ns).map D.int, S) else .bad
    | none => .bad)
  | _ => .bad
theorem nSortedD_ok {K : PySem.W.Frag} : OpN K (fun xs H Q => ∃ (a : Addr) (kvs : List (Key × V)) (ks : List Int), xs = [.ref a] ∧ Rd H a (.dK kvs) ∧ kvs.map (·.1) = ks.map Sum.inl ∧ ks.length ≤ 16777216 ∧
    ∀ (ys : List Int) (p : Addr), ys.Perm ks → ys.Pairwise (· ≤ ·) → H p = none → Q (.ref p) (upd H p (.lst (ys.map V.int)))) nSortedD := fun Fr S ι R H ds xs Q E ab rs w => by
  match ds, rs, w with
  | [], _, w => exact w.elim
  | [d], rs, w =>
    obtain ⟨v, rfl, r⟩ := repL1 rs
    unfold nSortedD at w
    dsimp only at w
    cases h : asDct d S with
    | none => rw [h] at w; exact w.elim
    | some q =>
      obtain ⟨ks, es⟩ := q
      rw [h, Option.bind_some] at w
      dsimp only at w
      cases h2 : kInts ks with
      | none => rw [h2] at w; exact w.elim
      | some ns =>
        rw [h2] at w
        dsimp only at w
        by_cases hl : ns.length ≤ 16777216
        · rw [if_pos hl] at w
          obtain ⟨n, a, us, _, _, _, rfl, hH, hlen, rs2⟩ := asDct_ok ab r h
          have ek := kInts_ok h2
          refine ⟨a, ks.zip us, ns, rfl, .inl hH, ?_, hl, fun ys p hp hs hf => ?_⟩
          · rw [← ek]
            exact List.map_fst_zip (Nat.le_of_eq (hlen.trans rs2.length.symm))
          · have e := sortI_uniq hp hs
            subst e
            exact w.new ab (repL_ints _) hf
        · rw [if_neg hl] at w
          exact w.elim
  | _ :: _ :: _, _, w => exact w.elim
section
variable {X : Cx} {W : WX} {k : Nat} {e : Expr} {g : LA} {p pos : Pos}
theorem dn_sortedD (hc : X.calm = true) (hm : X.mg "sorted" = none) (ha : DA X W [e] g) (hg : Gl X "sorted" := by rfl) (he : starEach [e] X.env = (false, eval e X.env) :: starEach [] X.env := by rfl) (hpl : (backTo pos (starEach [] X.env)).any (·.1) = false := by rfl) :
    DN X W (.Call (.Name "sorted" p) [e] [] pos) (xBN nSortedD g) := PE.imp (pe_callB (call_sortedDA hc) hg hm (by decide +kernel) ha (by decide) (by decide) he hpl) (xBN_read nSortedD_ok)
end
/-- dict(d): a copy -/
def bDictC : Fn := fun ds S => match ds with
  | [d] => (match asDct d S with
    | some (ks, es) => .ok (.ref S.length, S ++ [some (.dct ks es)])
    | none => .bad)
  | _ => .bad
theorem bDictC_ok {K : PySem.W.Frag} : OpA K (fun xs H Q => ∃ (a : Addr) (kvs : List (Key × V)), xs = [.ref a] ∧ Rd H a (.dK kvs) ∧ ∀ p, H p = none → Q (.ref p) (upd H p (.dK kvs))) bDictC := fun Fr S ι R H ds xs Q E ab rs w => by
  match ds, rs, w with
  | [], _, w => exact w.elim
  | [d], rs, w =>
    obtain ⟨v, rfl, r⟩ := repL1 rs
    unfold bDictC at w
    dsimp only at w
    cases h : asDct d S with
    | none => rw [h] at w; exact w.elim
    | some q =>
      obtain ⟨ks, es⟩ := q
      rw [h] at w
      dsimp only at w
      obtain ⟨n, a, us, _, _, _, rfl, hH, hlen, rs2⟩ := asDct_ok ab r h
      refine ⟨a, ks.zip us, rfl, .inl hH, fun p hp => ?_⟩
      obtain ⟨ab7, st7⟩ := Ab.push (c := .dct ks es) (ab.frame_new (o := .dK (ks.zip us)) hp) (Same.free ab.fsub hp) ⟨us, upd_same, hlen, rs2⟩
      refine w (.ref p) _ R _ st7 ab7 ?_
      unfold Rep
      exact ⟨p, rfl, by simp, fun _ => (if_pos rfl).symm⟩
  | _ :: _ :: _, _, w => exact w.elim
theorem de_dictC {X : Cx} {W : WX} {e : Expr} {g : LA} {p pos : Pos} (hm : X.mg "dict" = none) (ha : DA X W [e] g) (hg : Gl X "dict" := by rfl) (he : starEach [e] X.env = (false, eval e X.env) :: starEach [] X.env := by rfl) (hpl : (backTo pos (starEach [] X.env)).any (·.1) = false := by rfl) :
    DE X W (.Call (.Name "dict" p) [e] [] pos) (xB bDictC g) := de_bty bDictC_ok call_dictD hm (by decide +kernel) ha hg (by decide) (by decide) he hpl
/-! d.pop(k), d.pop(k, x) -/
def ddrop : List Key → List D → Key → List Key × List D
  | k' :: ks, d :: ds, k => if k' = k then ddrop ks ds k else (k' :: (ddrop ks ds k).1, d :: (ddrop ks ds k).2)
  | _, _, _ => ([], [])
theorem ddrop_ok {K : PySem.W.Frag} {R : Hp} {S : Store} {ι : Nat → Addr} {k : Key} : ∀ {ks : List Key} {ds : List D} {xs : List V}, ks.length = ds.length → RepL K R S ι ds xs →
    ∃ xs', dropK (ks.zip xs) k = (ddrop ks ds k).1.zip xs' ∧ (ddrop ks ds k).1.length = (ddrop ks ds k).2.length ∧ RepL K R S ι (ddrop ks ds k).2 xs'
  | [], [], xs, _, r => by
    unfold RepL at r
    subst r
    exact ⟨[], rfl, rfl, repL_nil⟩
  | k' :: ks, d :: ds, xs, l, r => by
    unfold RepL at r
    obtain ⟨v, vs, rfl, r1, r2⟩ := r
    obtain ⟨xs', e1, e2, e3⟩ := ddrop_ok (k := k) (ks := ks) (ds := ds) (Nat.succ.inj l) r2
    unfold ddrop
    rw [List.zip_cons_cons]
    by_cases h : k' = k
    · rw [if_pos h, dropK_pos h]
      exact ⟨xs', e1, e2, e3⟩
    · rw [if_neg h, dropK_neg h]
      refine ⟨v :: xs', ?_, ?_, repL_cons r1 e3⟩
      · rw [e1]; rfl
      · simpa using e2
  | [], _ :: _, _, l, _ => by cases l
  | _ :: _, [], _, l, _ => by cases l
def popK (d y : D) (z : Option D) (S : Store) : Option (D × Store) := match d with
  | .ref n => (match S[n]?, keyD y with
    | some (some (.dct ks ds)), some k => (match dval ks ds k, z with
      | some v, _ => some (v, S.set n (some (.dct (ddrop ks ds k).1 (ddrop ks ds k).2)))
      | none, some z => some (z, S)
      | none, none => none)
    | _, _ => none)
  | _ => none
def oOf {α : Type} : Option α → Oc α
  | some a => .ok a
  | none => .bad
def xPop1 (o e : LE) : LE := fun δ S => (o δ S).bind fun d S1 => if isDct d S1 = true then (e δ S1).bind fun y S2 => oOf (popK d y none S2) else .bad
def xPop2 (o e f : LE) : LE := fun δ S => (o δ S).bind fun d S1 => if isDct d S1 = true then (e δ S1).bind fun y S2 => (f δ S2).bind fun z S3 => oOf (popK d y (some z) S3) else .bad
theorem popK_ok {K : PySem.W.Frag} {S S4 : Store} {ι : Nat → Addr} {R H : Hp} {d y : D} {z : Option D} {v : D} {x u : V} (ab : Ab K Fr S ι R H) (r : Rep K R S ι d x) (rk : Rep K R S ι y u) (e : popK d y z S = some (v, S4)) :
    ∃ a kvs k, x = .ref a ∧ H a = some (.dK kvs) ∧ u = kV k ∧ ((∃ w, valV kvs k = some w ∧ Rep K R S4 ι v w ∧ Ab K Fr S4 ι R (upd H a (.dK (dropK kvs k))) ∧ Stp S ι R S4 ι R) ∨ (valV kvs k = none ∧ S4 = S ∧ z = some v)) := by
  cases d with
  | ref n =>
    unfold Rep at r
    obtain ⟨a, rfl, l, q⟩ := r
    unfold popK at e
    cases h : S[n]? with
    | none => simp only [h] at e; cases e
    | some o =>
      cases o with
      | none => simp only [h] at e; cases e
      | some cc =>
        cases cc with
        | dct ks ds =>
          cases h2 : keyD y with
          | none => simp only [h, h2] at e; cases e
          | some kk =>
            simp only [h, h2] at e
            have ea := q ⟨_, h⟩
            subst ea
            obtain ⟨xs, hH, hlen, rs⟩ := ab.cell n _ h
            have ek := keyD_ok rk h2
            subst ek
            refine ⟨_, _, kk, rfl, hH, rfl, ?_⟩
            cases h3 : dval ks ds kk with
            | some yd =>
              simp only [h3] at e
              cases e
              obtain ⟨w, e1, rw'⟩ := dval_some rs h3
              obtain ⟨xs', e4, e5, e6⟩ := ddrop_ok (k := kk) hlen rs
              obtain ⟨ab2, st2⟩ := ab.cset (o := .dK ((ddrop ks ds kk).1.zip xs')) (c' := .dct (ddrop ks ds kk).1 (ddrop ks ds kk).2) h ⟨xs', upd_same, e5, e6⟩
              refine .inl ⟨w, e1, rw'.step st2, ?_, st2⟩
              rw [e4]
              exact ab2
            | none =>
              have e1 := dval_none hlen rs h3
              cases z with
              | none => simp only [h3] at e; cases e
              | some z =>
                simp only [h3] at e
                cases e
                exact .inr ⟨e1, rfl, rfl⟩
        | _ => simp only [h] at e; cases e
  | _ => cases e
section
variable {X : Cx} {W : WX} {k : Nat} {o e f : Expr} {go ge gf : LE} {apos cpos : Pos}
theorem de_pop1 (ho : DE X W o go) (he : DE X W e ge) (m : M1 X o "pop" apos e cpos := by exact ⟨by rfl, by rfl, by rfl, by rfl⟩) : DE X W (.Call (.Attribute o "pop" apos) [e] [] cpos) (xPop1 go ge) :=
  PE.imp (pe_dpop1 ho he m) fun σ H Q w => cO.bind (rel := Rep X.K) (rel2 := Rep X.K) (f := fun d δ S1 => if isDct d S1 = true then (ge δ S1).bind fun y S2 => oOf (popK d y none S2) else .bad) w fun d x δ S1 ι1 R1 Fr H1 ab lo rx w1 => by
    by_cases hd : isDct d S1 = true
    · rw [if_pos hd] at w1
      obtain ⟨a, rfl, hD⟩ := isDct_at ab rx hd
      refine ⟨a, rfl, hD, δ, S1, ι1, R1, Fr, ab, lo, wpO.bind w1 fun y S2 v ι2 R2 H2 st ab2 ry w2 => ?_⟩
      cases h : popK d y none S2 with
      | none => rw [h] at w2; exact w2.elim
      | some q =>
        rw [h] at w2
        obtain ⟨a', kvs, kk, e1, hH, e2, h3⟩ := popK_ok ab2 (rx.step st) ry h
        cases e1
        rcases h3 with ⟨w, e3, r3, ab3, st3⟩ | ⟨_, _, e3⟩
        · exact ⟨kvs, kk, w, hH, e2, e3, w2 w ι2 R2 _ st3 ab3 r3⟩
        · cases e3
    · rw [if_neg hd] at w1
      exact w1.elim
theorem de_pop2 (ho : DE X W o go) (he : DE X W e ge) (hf : DE X W f gf) (m : M2 X o "pop" apos e f cpos := by exact ⟨by rfl, by rfl, by rfl, by rfl⟩) : DE X W (.Call (.Attribute o "pop" apos) [e, f] [] cpos) (xPop2 go ge gf) :=
  PE.imp (pe_dpop2 ho he hf m) fun σ H Q w => cO.bind (rel := Rep X.K) (rel2 := Rep X.K) (f := fun d δ S1 => if isDct d S1 = true then (ge δ S1).bind fun y S2 => (gf δ S2).bind fun z S3 => oOf (popK d y (some z) S3) else .bad) w fun d x δ S1 ι1 R1 Fr H1 ab lo rx w1 => by
    by_cases hd : isDct d S1 = true
    · rw [if_pos hd] at w1
      obtain ⟨a, rfl, hD⟩ := isDct_at ab rx hd
      refine ⟨a, rfl, hD, δ, S1, ι1, R1, Fr, ab, lo, wpO.bind w1 fun y S2 v ι2 R2 H2 st ab2 ry w2 => ?_⟩
      refine ⟨δ, S2, ι2, R2, Fr, ab2, lo.step st, wpO.bind w2 fun z S3 zv ι3 R3 H3 st3 ab3 rz w3 => ?_⟩
      cases h : popK d y (some z) S3 with
      | none => rw [h] at w3; exact w3.elim
      | some q =>
        rw [h] at w3
        obtain ⟨a', kvs, kk, e1, hH, e2, h3⟩ := popK_ok ab3 ((rx.step st).step st3) (ry.step st3) h
        cases e1
        refine ⟨kvs, kk, hH, e2, fun w hw => ?_, fun hw => ?_⟩
        · rcases h3 with ⟨w', e3, r3, ab4, st4⟩ | ⟨e3, _, _⟩
          · rw [hw] at e3
            cases e3
            exact w3 w ι3 R3 _ st4 ab4 r3
          · rw [hw] at e3; cases e3
        · rcases h3 with ⟨w', e3, _, _, _⟩ | ⟨_, e4, e5⟩
          · rw [hw] at e3; cases e3
          · obtain ⟨v, S4⟩ := q
            dsimp only at e4
            subst e4
            cases e5
            exact w3.ok ab3 rz
    · rw [if_neg hd] at w1
      exact w1.elim
end
/-! list(d) -/
def kD : Key → D
  | .inl i => .int i
  | .inr x => .str x
theorem kD_rep {K : PySem.W.Frag} {R : Hp} {S : Store} {ι : Nat → Addr} : ∀ ks : List Key, RepL K R S ι (ks.map kD) (ks.map kV)
  | [] => repL_nil
  | k :: ks => by
    refine repL_cons ?_ (kD_rep ks)
    cases k with
    | inl i => exact int_rep
    | inr x => unfold kD Rep; rfl
def nListD : List D → Store → Oc (List D × Store) := fun ds S => match ds with
  | [d] => (match asDct d S with
    | some (ks, _) => .ok (ks.map kD, S)
    | none => .bad)
  | _ => .bad
theorem nListD_ok {K : PySem.W.Frag} : OpN K (fun xs H Q => ∃ (a : Addr) (kvs : List (Key × V)), xs = [.ref a] ∧ Rd H a (.dK kvs) ∧ ∀ p, H p = none → Q (.ref p) (upd H p (.lst (kvs.map fun kv => kV kv.1)))) nListD := fun Fr S ι R H ds xs Q E ab rs w => by
  match ds, rs, w with
  | [], _, w => exact w.elim
  | [d], rs, w =>
    obtain ⟨v, rfl, r⟩ := repL1 rs
    unfold nListD at w
    dsimp only at w
    cases h : asDct d S with
    | none => rw [h] at w; exact w.elim
    | some q =>
      obtain ⟨ks, es⟩ := q
      rw [h] at w
      dsimp only at w
      obtain ⟨n, a, us, _, _, _, rfl, hH, hlen, rs2⟩ := asDct_ok ab r h
      refine ⟨a, ks.zip us, rfl, .inl hH, fun p hp => ?_⟩
      have e : (ks.zip us).map (fun kv => kV kv.1) = ks.map kV := by
        have e1 : (ks.zip us).map (·.1) = ks := List.map_fst_zip (Nat.le_of_eq (hlen.trans rs2.length.symm))
        calc (ks.zip us).map (fun kv => kV kv.1) = ((ks.zip us).map (·.1)).map kV := by rw [List.map_map]; rfl
          _ = ks.map kV := by rw [e1]
      rw [e]
      exact w.new ab (kD_rep ks) hp
  | _ :: _ :: _, _, w => exact w.elim
theorem dn_listD {X : Cx} {W : WX} {e : Expr} {g : LA} {p pos : Pos} (hc : X.calm = true) (hm : X.mg "list" = none) (ha : DA X W [e] g) (hg : Gl X "list" := by rfl) (he : starEach [e] X.env = (false, eval e X.env) :: starEach [] X.env := by rfl) (hpl : (backTo pos (starEach [] X.env)).any (·.1) = false := by rfl) :
    DN X W (.Call (.Name "list" p) [e] [] pos) (xBN nListD g) := PE.imp (pe_callTy (call_listD hc) hg hm (by decide +kernel) ha (by decide) (by decide) he hpl) (xBN_read nListD_ok)
/-! sum(d.values()) -/
def valsO (p d : Addr) : HO := .ext fun h => h.IsValuesView p d
theorem valsO_ok {P : Program} {w : World} {H : Hp} {h : Heap} {p d : Addr} (e : h.get? p = some { cls := .type "dict_values", data := .fields #[.ref d] }) : ObjOk P w H h p (valsO p d) :=
  ⟨⟨_, e, rfl, rfl⟩, ⟨_, e⟩, fun h1 h2 x k => let ⟨o, ho, r⟩ := x; ⟨o, k o ho, r⟩⟩
def rValsK : V → List V → Hp → VK → Prop := fun x xs H Q => ∃ (a : Addr) (kvs : List (L2.Key × V)), x = .ref a ∧ xs = [] ∧ H a = some (.dK kvs) ∧ ∀ p, H p = none → Q (.ref p) (upd H p (valsO p a))
theorem mt_valsK {X : Cx} : MtR X "dict.values" rValsK := by
  intro pins s σ H x xs v us Q I rx rxs h
  obtain ⟨a, kvs, rfl, rfl, ha, q⟩ := h
  cases rx
  cases rxs
  obtain ⟨z, lo, vs, rel, dd⟩ := dk_rd I.hok (.inl ha)
  have hf : H s.heap.objs.size = none := I.hok.fresh (Nat.le_refl _)
  exact call_meetsIn PySem.F.slot_dict_values dd.typeIs PySem.F.entry_dict_values (PySem.F.args_dict_values_1 _) (meets_dict_values (mixKind X.prog X.w) a lo)
    ⟨⟨vs, dd⟩, .ref s.heap.objs.size, upd H s.heap.objs.size (valsO s.heap.objs.size a), I.laid (t' := s.toks) (fun b u e => Heap.get?_push_of_some _ e) (Nat.le_refl _) (valsO_ok (Heap.get?_push_size _ rfl)), rfl, q _ hf⟩
theorem kv_ints : ∀ {kvs : List (L2.Key × V)} {vs : List (L2.Key × Value)} {ns : List Int}, KV kvs vs → kvs.map (·.2) = ns.map V.int → vs.length = ns.length ∧ ∀ (i : Nat) (k : L2.Key) (v : Value), vs[i]? = some (k, v) → ∃ t, v = .int (ns.getD i 0) t
  | [], vs, ns, r, e => by
    unfold KV at r
    cases r
    cases ns with
    | nil => exact ⟨rfl, fun i k v h => by simp at h⟩
    | cons _ _ => cases e
  | kv :: kvs, vs, ns, r, e => by
    unfold KV at r
    cases r with
    | cons h t =>
      cases ns with
      | nil => cases e
      | cons n ns =>
        rw [List.map_cons, List.map_cons] at e
        obtain ⟨e1, e2⟩ := List.cons.inj e
        obtain ⟨l, g⟩ := kv_ints (ns := ns) (show KV kvs _ from by unfold KV; exact t) e2
        refine ⟨by rw [List.length_cons, List.length_cons, l], fun i k v hi => ?_⟩
        cases i with
        | zero =>
          have e3 := Option.some.inj hi
          have h2 := h.2
          rw [e1] at h2
          obtain ⟨t, e4⟩ := (show ∃ t, _ = Value.int n t from h2)
          rw [e3] at e4
          exact ⟨t, e4⟩
        | succ i => exact g i k v hi
theorem preSum_list (ns : List Int) : preSum (fun i => ns.getD i 0) ns.length = ns.sum := by
  induction ns with
  | nil => rfl
  | cons n ns ih =>
    rw [List.length_cons, PySem.W.kdu_shift, List.sum_cons]
    exact congrArg (n + ·) ih
def rSumV : List V → Hp → VK → Prop := fun xs H Q => ∃ (p a : Addr) (kvs : List (L2.Key × V)) (ns : List Int), xs = [.ref p] ∧ H p = some (valsO p a) ∧ H a = some (.dK kvs) ∧ kvs.map (·.2) = ns.map V.int ∧ Q (.int ns.sum) H
theorem cr_sumV {X : Cx} (hc : X.calm = true) : CallR X (.builtin "sum") rSumV := by
  intro pins s σ H xs us Q I rx h
  obtain ⟨p, a, kvs, ns, rfl, hp, ha, hns, q⟩ := h
  obtain ⟨u, rfl, ru⟩ := vals1 rx
  cases ru
  obtain ⟨z, lo, vs, rel, dd⟩ := dk_rd I.hok (.inl ha)
  obtain ⟨ep, hat⟩ := dd.dictAt
  have hv : s.heap.IsValuesView p a := (show ObjOk X.prog X.w H s.heap p (valsO p a) from I.hok p _ hp).1
  have hh : X.A.handled = none := I.ok.hd hc
  obtain ⟨hl, hi⟩ := kv_ints rel hns
  refine call_sum_walkAnyS ?_
  have K := PySem.W.kdl_values (prog := X.prog) (w := X.w) (knd := mixKind X.prog X.w) (r := p) (d := a) (kvs := vs) (ep := ep)
  obtain ⟨oI, St, hit, W, st⟩ := K.iter X.A.in1 s hh ⟨hv, hat⟩
  refine hit _ _ ⟨s.heap.objs.size, _, _, _, vs.length, _, _, fun i => ns.getD i 0, rfl, W.toS, st, fun b hb => ?_, fun i v hx => ?_, fun s' t' hm => ?_⟩
  · show b < (s.heap.push oI).objs.size
    rw [PyProof.Rows.size_push']
    rcases List.mem_cons.mp hb with e | hb
    · rw [e]; exact Nat.lt_succ_self _
    · rw [List.mem_singleton.mp hb]; exact Nat.lt_succ_of_lt (K.there _ ⟨hv, hat⟩).2
  · obtain ⟨k, hk⟩ := hx
    exact hi i k v hk
  · have hk : ∀ b o, s.heap.get? b = some o → s'.heap.get? b = some o := fun b o e =>
      hm.heap b o (fun hI => absurd (Heap.lt_size e) (by rw [List.mem_singleton.mp hI]; exact Nat.lt_irrefl _)) (Heap.get?_push_of_some _ e)
    rw [PySem.Moved.eq_with hm, hl, preSum_list]
    exact ⟨.int ns.sum, H, I.kept (t' := s'.toks) hk, ⟨t', rfl⟩, q⟩
def xSumV (go : LE) : LE := fun δ S => (go δ S).bind fun d S1 => match (asDct d S1).bind fun q => nts q.2 with
  | some ns => .ok (.int ns.sum, S1)
  | none => .bad
theorem de_sumV {X : Cx} {W : WX} {o : Expr} {go : LE} {p apos cpos pos : Pos} (hc : X.calm = true) (hm : X.mg "sum" = none) (ho : DE X W o go) (hg : Gl X "sum" := by rfl) (hbase : attributeBase o "values" X.env (eval o X.env) = eval o X.env := by rfl) (hline : (apos.endLine == cpos.line) = true := by rfl)
    (he : starEach [.Call (.Attribute o "values" apos) [] [] cpos] X.env = (false, eval (.Call (.Attribute o "values" apos) [] [] cpos) X.env) :: starEach [] X.env := by rfl) (hpl : (backTo pos (starEach [] X.env)).any (·.1) = false := by rfl) :
    DE X W (.Call (.Name "sum" p) [.Call (.Attribute o "values" apos) [] [] cpos] [] pos) (xSumV go) :=
  PE.imp (pe_callB (cr_sumV hc) hg hm (by decide +kernel) (pa_cons (pe_bm0 PySem.F.plainAttrs_dict PySem.F.slot_dict_values PySem.F.type_dict_values mt_valsK ho hbase hline) pa_nil he) (by decide) (by decide) he hpl) fun σ H Q w =>
    cO.bind (rel := Rep X.K) (rel2 := Rep X.K) (f := fun d (_ : Lc) S1 => match (asDct d S1).bind fun q => nts q.2 with
      | some ns => .ok (.int ns.sum, S1)
      | none => .bad) w fun d x δ S1 ι1 R1 Fr H1 ab lo r w1 => by
      cases h : asDct d S1 with
      | none => rw [h] at w1; exact w1.elim
      | some q =>
        obtain ⟨ks, ds⟩ := q
        rw [h, Option.bind_some] at w1
        cases h2 : nts ds with
        | none => rw [h2] at w1; exact w1.elim
        | some ns =>
          rw [h2] at w1
          obtain ⟨n, a, us, _, _, _, rfl, hH, hlen, rs⟩ := asDct_ok ab r h
          have e := nts_ok h2 rs
          refine ⟨.inr (.inr (.inl ⟨rfl, .inl ⟨_, hH⟩⟩)), a, _, rfl, rfl, hH, fun p hp => ?_⟩
          obtain ⟨ab2, st2⟩ := ab.rnew (o := valsO p a) hp
          have hne : a ≠ p := fun z => by rw [z, hp] at hH; cases hH
          refine ⟨p, a, _, ns, rfl, upd_same, by rw [upd_ne hne]; exact hH, ?_, ?_⟩
          · rw [← e]
            exact List.map_snd_zip (Nat.le_of_eq (by rw [hlen, rs.length]))
          · exact w1 (.int ns.sum) ι1 _ _ st2 ab2 int_rep
end DL

set_option Elab.async false
set_option linter.all false
set_option maxRecDepth 100000
set_option maxHeartbeats 4000000
/-! More methods of texts (own work). -/
namespace DL
open PySem PySem.Spec L2
variable {Fr : Hp}
def mUpper : Fm := fun d ds S => match d, ds with
  | .str z, [] => if z.length ≤ 5592405 then .ok (.str (Txt.upper z), S) else .bad
  | _, _ => .bad
theorem upper_sound {K : PySem.W.Frag} : OpM K (fun x xs H Q => ∃ a, x = .str a ∧ xs = [] ∧ a.length ≤ 5592405 ∧ Q (.str (Txt.upper a)) H) mUpper := fun Fr S ι R H d ds x xs Q E ab r rs w => by
  match ds, rs, w with
  | _ :: _, _, w => cases d <;> exact w.elim
  | [], rs, w =>
    unfold RepL at rs
    subst rs
    cases d with
    | str z =>
      rw [rep_str r]
      have w' : wpO (Rep K) K Fr S ι R (if z.length ≤ 5592405 then .ok (.str (Txt.upper z), S) else .bad) Q E := w
      by_cases h : z.length ≤ 5592405
      · rw [if_pos h] at w'
        exact ⟨z, rfl, rfl, h, w'.ok ab (by unfold Rep; rfl)⟩
      · rw [if_neg h] at w'
        exact w'.elim
    | _ => exact w.elim
theorem str1_sound {K : PySem.W.Frag} {r : V → List V → Hp → VK → Prop} {f : Fm} (F : Str → Str → Store → Oc (D × Store)) (hf : ∀ a b S, f (.str a) [.str b] S = F a b S) (hb : ∀ d ds S, (∀ a b, ¬ (d = .str a ∧ ds = [.str b])) → f d ds S = .bad)
    (h : ∀ (Fr : Hp) (S : Store) (ι : Nat → Addr) (R H : Hp) (a b : Str) (Q : VK) (E : XK), Ab K Fr S ι R H → wpO (Rep K) K Fr S ι R (F a b S) Q E → r (.str a) [.str b] H Q) : OpM K r f := fun Fr S ι R H d ds x xs Q E ab rd rs w => by
  by_cases hc : ∃ a b, d = .str a ∧ ds = [.str b]
  · obtain ⟨a, b, rfl, rfl⟩ := hc
    obtain ⟨u, rfl, ru⟩ := repL1 rs
    rw [rep_str rd, rep_str ru]
    rw [hf] at w
    exact h Fr S ι R H a b Q E ab w
  · rw [hb d ds S fun a b z => hc ⟨a, b, z⟩] at w
    exact w.elim
def mIndex : Fm := fun d ds S => match d, ds with
  | .str a, [.str b] => (match Builtin.Str.occurrences a b 0 a.length 1 with
    | i :: _ => .ok (.int (i : Nat), S)
    | [] => .bad)
  | _, _ => .bad
theorem index_sound {K : PySem.W.Frag} : OpM K (fun x xs H Q => ∃ a b i rest, x = .str a ∧ xs = [.str b] ∧ Builtin.Str.occurrences a b 0 a.length 1 = i :: rest ∧ Q (.int (i : Nat)) H) mIndex :=
  str1_sound (fun a b S => match Builtin.Str.occurrences a b 0 a.length 1 with
    | i :: _ => .ok (.int (i : Nat), S)
    | [] => .bad) (fun _ _ _ => rfl) (fun d ds S h => by
      unfold mIndex
      split
      · exact absurd ⟨rfl, rfl⟩ (h _ _)
      · rfl) fun Fr S ι R H a b Q E ab w => by
    cases e : Builtin.Str.occurrences a b 0 a.length 1 with
    | nil => rw [e] at w; exact w.elim
    | cons i rest =>
      rw [e] at w
      exact ⟨a, b, i, rest, rfl, rfl, e, w.ok ab int_rep⟩
def mPart : Fm := fun d ds S => match d, ds with
  | .str a, [.str b] => if (b.length == 0) = false ∧ a.length ≤ sizeLine then .ok (.tup [.str (Txt.partition a b).1, .str (Txt.partition a b).2.1, .str (Txt.partition a b).2.2], S) else .bad
  | _, _ => .bad
theorem rep_strI {K : PySem.W.Frag} {R : Hp} {S : Store} {ι : Nat → Addr} {x : Str} : Rep K R S ι (.str x) (.str x) := by unfold Rep; rfl
theorem part_sound {K : PySem.W.Frag} : OpM K (fun x xs H Q => ∃ a b, x = .str a ∧ xs = [.str b] ∧ (b.length == 0) = false ∧ a.length ≤ sizeLine ∧ ∀ p, H p = none → Q (.ref p) (upd H p (.tup [.str (Txt.partition a b).1, .str (Txt.partition a b).2.1, .str (Txt.partition a b).2.2]))) mPart :=
  str1_sound (fun a b S => if (b.length == 0) = false ∧ a.length ≤ sizeLine then .ok (.tup [.str (Txt.partition a b).1, .str (Txt.partition a b).2.1, .str (Txt.partition a b).2.2], S) else .bad) (fun _ _ _ => rfl) (fun d ds S h => by
      unfold mPart
      split
      · exact absurd ⟨rfl, rfl⟩ (h _ _)
      · rfl) fun Fr S ι R H a b Q E ab w => by
    by_cases hc : (b.length == 0) = false ∧ a.length ≤ sizeLine
    · rw [if_pos hc] at w
      refine ⟨a, b, rfl, rfl, hc.1, hc.2, fun p hp => ?_⟩
      obtain ⟨ab2, st2⟩ := ab.rnew (o := .tup [.str (Txt.partition a b).1, .str (Txt.partition a b).2.1, .str (Txt.partition a b).2.2]) hp
      refine w (.ref p) ι _ _ st2 ab2 ?_
      unfold Rep
      exact ⟨p, _, rfl, .inl (.inl upd_same), repL_cons rep_strI (repL_cons rep_strI (repL_cons rep_strI repL_nil))⟩
    · rw [if_neg hc] at w
      exact w.elim
theorem repL_strs {K : PySem.W.Frag} {R : Hp} {S : Store} {ι : Nat → Addr} : ∀ xs : List Str, RepL K R S ι (xs.map D.str) (xs.map V.str)
  | [] => repL_nil
  | x :: xs => repL_cons rep_strI (repL_strs xs)
def mSplit : Fm := fun d ds S => match d, ds with
  | .str a, [.str b] => if (b.length == 0) = false ∧ a.length + 2 ≤ sizeLine then .ok (.lst ((Txt.split a b).map D.str), S) else .bad
  | _, _ => .bad
theorem split_sound {K : PySem.W.Frag} : OpM K (fun x xs H Q => ∃ a b, x = .str a ∧ xs = [.str b] ∧ (b.length == 0) = false ∧ a.length + 2 ≤ sizeLine ∧ rNewStrs (Txt.split a b) H Q) mSplit :=
  str1_sound (fun a b S => if (b.length == 0) = false ∧ a.length + 2 ≤ sizeLine then .ok (.lst ((Txt.split a b).map D.str), S) else .bad) (fun _ _ _ => rfl) (fun d ds S h => by
      unfold mSplit
      split
      · exact absurd ⟨rfl, rfl⟩ (h _ _)
      · rfl) fun Fr S ι R H a b Q E ab w => by
    by_cases hc : (b.length == 0) = false ∧ a.length + 2 ≤ sizeLine
    · rw [if_pos hc] at w
      refine ⟨a, b, rfl, rfl, hc.1, hc.2, fun p hp => ?_⟩
      obtain ⟨ab2, st2⟩ := ab.rnew (o := .lst ((Txt.split a b).map V.str)) hp
      refine w (.ref p) ι _ _ st2 ab2 ?_
      unfold Rep
      exact ⟨p, _, rfl, upd_same, repL_strs _⟩
    · rw [if_neg hc] at w
      exact w.elim
def mFind3 : Fm := fun d ds S => match d, ds with
  | .str a, [.str b, .int i] => .ok (.int (Txt.find3 a b i), S)
  | _, _ => .bad
theorem find3_sound {K : PySem.W.Frag} : OpM K (fun x xs H Q => ∃ (a b : Str) (i : Int), x = .str a ∧ xs = [.str b, .int i] ∧ Q (.int (Txt.find3 a b i)) H) mFind3 := fun Fr S ι R H d ds x xs Q E ab rd rs w => by
  unfold mFind3 at w
  split at w
  · rename_i a b i
    unfold RepL at rs
    obtain ⟨v, vs, rfl, r1, rs⟩ := rs
    obtain ⟨u, rfl, r2⟩ := repL1 rs
    rw [rep_str rd, rep_str r1, rep_int r2]
    exact ⟨a, b, i, rfl, rfl, w.ok ab int_rep⟩
  · exact w.elim
section
variable {X : Cx} {W : WX} {o e e2 : Expr} {go : LE} {g : LA} {apos cpos : Pos}
theorem de_upper (ho : DE X W o go) (hbase : attributeBase o "upper" X.env (eval o X.env) = eval o X.env := by rfl) (hline : (apos.endLine == cpos.line) = true := by rfl) :
    DE X W (.Call (.Attribute o "upper" apos) [] [] cpos) (xBM isStr mUpper go xNil) := de_bm0 PySem.F.plainAttrs_str PySem.F.slot_str_upper PySem.F.type_str_upper mt_upper upper_sound chk_str ho hbase hline
theorem de_index (ho : DE X W o go) (ha : DA X W [e] g) (hbase : attributeBase o "index" X.env (eval o X.env) = eval o X.env := by rfl)
    (hfew : ((backTo cpos (starEach [e] X.env)).all (fun x => !x.1) && (backToKw cpos (keywordEach [] X.env)).all (fun x => x.1.isSome)
      && decide (([e] : List Expr).length + ([] : List Keyword).length + (if ([] : List Keyword).isEmpty then 0 else 1) < 30)) = true := by rfl)
    (hline : (apos.endLine == cpos.line) = true := by rfl) (hs : starEach [e] X.env = (false, eval e X.env) :: starEach [] X.env := by rfl) (hplain : (backTo cpos (starEach [] X.env)).any (·.1) = false := by rfl) :
    DE X W (.Call (.Attribute o "index" apos) [e] [] cpos) (xBM isStr mIndex go g) := de_bm PySem.F.plainAttrs_str PySem.F.slot_str_index PySem.F.type_str_index mt_sindex index_sound chk_str ho ha hbase hfew hline hs hplain
theorem de_part (ho : DE X W o go) (ha : DA X W [e] g) (hbase : attributeBase o "partition" X.env (eval o X.env) = eval o X.env := by rfl)
    (hfew : ((backTo cpos (starEach [e] X.env)).all (fun x => !x.1) && (backToKw cpos (keywordEach [] X.env)).all (fun x => x.1.isSome)
      && decide (([e] : List Expr).length + ([] : List Keyword).length + (if ([] : List Keyword).isEmpty then 0 else 1) < 30)) = true := by rfl)
    (hline : (apos.endLine == cpos.line) = true := by rfl) (hs : starEach [e] X.env = (false, eval e X.env) :: starEach [] X.env := by rfl) (hplain : (backTo cpos (starEach [] X.env)).any (·.1) = false := by rfl) :
    DE X W (.Call (.Attribute o "partition" apos) [e] [] cpos) (xBM isStr mPart go g) := de_bm PySem.F.plainAttrs_str PySem.F.slot_str_partition PySem.F.type_str_partition mt_partition part_sound chk_str ho ha hbase hfew hline hs hplain
theorem de_split (ho : DE X W o go) (ha : DA X W [e] g) (hbase : attributeBase o "split" X.env (eval o X.env) = eval o X.env := by rfl)
    (hfew : ((backTo cpos (starEach [e] X.env)).all (fun x => !x.1) && (backToKw cpos (keywordEach [] X.env)).all (fun x => x.1.isSome)
      && decide (([e] : List Expr).length + ([] : List Keyword).length + (if ([] : List Keyword).isEmpty then 0 else 1) < 30)) = true := by rfl)
    (hline : (apos.endLine == cpos.line) = true := by rfl) (hs : starEach [e] X.env = (false, eval e X.env) :: starEach [] X.env := by rfl) (hplain : (backTo cpos (starEach [] X.env)).any (·.1) = false := by rfl) :
    DE X W (.Call (.Attribute o "split" apos) [e] [] cpos) (xBM isStr mSplit go g) := de_bm PySem.F.plainAttrs_str PySem.F.slot_str_split PySem.F.type_str_split mt_split split_sound chk_str ho ha hbase hfew hline hs hplain
theorem de_find3 (ho : DE X W o go) (ha : DA X W [e, e2] g) (hbase : attributeBase o "find" X.env (eval o X.env) = eval o X.env := by rfl)
    (hfew : ((backTo cpos (starEach [e, e2] X.env)).all (fun x => !x.1) && (backToKw cpos (keywordEach [] X.env)).all (fun x => x.1.isSome)
      && decide (([e, e2] : List Expr).length + ([] : List Keyword).length + (if ([] : List Keyword).isEmpty then 0 else 1) < 30)) = true := by rfl)
    (hline : (apos.endLine == cpos.line) = true := by rfl) (hs : starEach [e, e2] X.env = (false, eval e X.env) :: starEach [e2] X.env := by rfl) (hplain : (backTo cpos (starEach [e2] X.env)).any (·.1) = false := by rfl) :
    DE X W (.Call (.Attribute o "find" apos) [e, e2] [] cpos) (xBM isStr mFind3 go g) := de_bm PySem.F.plainAttrs_str PySem.F.slot_str_find PySem.F.type_str_find mt_find3 find3_sound chk_str ho ha hbase hfew hline hs hplain
end
end DL

set_option Elab.async false
set_option linter.all false
set_option maxRecDepth 100000
set_option maxHeartbeats 4000000
/-! zip of two lists, of two tuples (own work). -/
namespace DL
open PySem PySem.Spec L2 RZ
variable {Fr : Hp}
def zipD (xs ys : List D) : List D := (xs.zip ys).map fun p => .tup [p.1, p.2]
theorem zipD_at (xs ys : List D) (i : Nat) : (zipD xs ys)[i]? = (match xs[i]?, ys[i]? with
    | some x, some y => some (.tup [x, y])
    | _, _ => none) := by
  unfold zipD
  rw [List.getElem?_map]
  induction xs generalizing ys i with
  | nil => cases ys <;> rfl
  | cons x xs ih =>
    cases ys with
    | nil =>
      show _ = (match (x :: xs)[i]?, ([] : List D)[i]? with | some x, some y => some (D.tup [x, y]) | _, _ => none)
      cases (x :: xs)[i]? <;> rfl
    | cons y ys =>
      cases i with
      | zero => rfl
      | succ i => exact ih ys i
theorem zipD_len (xs ys : List D) : (zipD xs ys).length = min xs.length ys.length := by
  unfold zipD
  rw [List.length_map, List.length_zip]
def tupD : D → Option (List D)
  | .tup ds => some ds
  | _ => none
def srcZip : List D → Store → Oc (Src × Store) := fun ds S => match ds with
  | [d, e] => (match tupD d, tupD e with
    | some xs, some ys => .ok (⟨zipD xs ys, fun _ => True⟩, S)
    | _, _ => (match asL d S, asL e S with
      | some xs, some ys => .ok (⟨zipD xs ys, fun S' => asL d S' = some xs ∧ asL e S' = some ys⟩, S)
      | _, _ => .bad))
  | _ => .bad
def xZip (args : LA) : LI := fun δ S => (args δ S).bind srcZip
theorem zip_pair {K : PySem.W.Frag} {S : Store} {ι : Nat → Addr} {R : Hp} {x y : D} {T : Addr} {u v : V} (ru : Rep K R S ι x u) (rv : Rep K R S ι y v) (hT : R T = some (.tup [u, v])) : Rep K R S ι (.tup [x, y]) (.ref T) := by
  unfold Rep
  exact ⟨T, _, rfl, .inl (.inl hT), repL_cons ru (repL_cons rv repL_nil)⟩
theorem di_zip {X : Cx} {W : WX} {e e2 : Expr} {g : LA} {p pos tpos : Pos} {elts : List Expr} {kk : Nat} (hm : X.mg "zip" = none) (ha : DA X W [e, e2] g) (hg : Gl X "zip" := by rfl)
    (hs : starEach [e, e2] X.env = (false, eval e X.env) :: starEach [e2] X.env := by rfl) (hpl : (backTo pos (starEach [e2] X.env)).any (·.1) = false := by rfl) :
    DI X W (.Tuple elts kk tpos) (.Call (.Name "zip" p) [e, e2] [] pos) (xZip g) :=
  PI.imp (pi_zipA hg hm ha hs hpl) fun σ H Q w => cO.bind (rel := RepL X.K) (rel2 := relIt X.K) (f := fun ds (_ : Lc) S1 => srcZip ds S1) w fun ds vs δ S1 ι1 R1 Fr H1 ab lo rs w1 => by
    match ds, rs, w1 with
    | [], _, w1 => exact w1.elim
    | [_], _, w1 => exact w1.elim
    | _ :: _ :: _ :: _, _, w1 => exact w1.elim
    | [d, e], rs, w1 =>
      unfold RepL at rs
      obtain ⟨v1, vs1, rfl, r1, rs⟩ := rs
      obtain ⟨v2, rfl, r2⟩ := repL1 rs
      unfold srcZip at w1
      dsimp only at w1
      have lists : wpO (relIt X.K) X.K Fr S1 ι1 R1 (match asL d S1, asL e S1 with
          | some xs, some ys => .ok (⟨zipD xs ys, fun S' => asL d S' = some xs ∧ asL e S' = some ys⟩, S1)
          | _, _ => .bad) Q (fun c d H' => W c d σ H') → ∃ a b xs ys, [v1, v2] = [V.ref a, V.ref b] ∧ ((SqL X.K H1 a xs ∧ SqL X.K H1 b ys ∧ Q (Itz X.K a b) H1) ∨ (SqT X.K H1 a xs ∧ SqT X.K H1 b ys ∧ Q (ItzT X.K a b) H1)) := fun w1 => by
        cases h1 : asL d S1 with
        | none => rw [h1] at w1; exact w1.elim
        | some xs =>
          cases h2 : asL e S1 with
          | none => rw [h1, h2] at w1; exact w1.elim
          | some ys =>
            rw [h1, h2] at w1
            obtain ⟨a, us, rfl, q1, s1⟩ := asL_ok ab r1 h1
            obtain ⟨b, ws, rfl, q2, s2⟩ := asL_ok ab r2 h2
            refine ⟨a, b, us, ws, rfl, .inl ⟨q1, q2, w1.ok ab fun Fr' S' ι' R' H' i st ab' ok => ?_⟩⟩
            have ok : asL d S' = some xs ∧ asL e S' = some ys := ok
            obtain ⟨a', us', ea, q1', s1'⟩ := asL_ok ab' (r1.step st) ok.1
            obtain ⟨b', ws', eb, q2', s2'⟩ := asL_ok ab' (r2.step st) ok.2
            cases ea
            cases eb
            refine ⟨fun z hz => ?_, fun hl => ⟨us', ws', q1', q2', ?_⟩⟩
            · have hz : (zipD xs ys)[i]? = some z := hz
              rw [zipD_at] at hz
              cases hx : xs[i]? with
              | none => rw [hx] at hz; cases hz
              | some x =>
                cases hy : ys[i]? with
                | none => rw [hx, hy] at hz; cases hz
                | some y =>
                  rw [hx, hy] at hz
                  cases hz
                  obtain ⟨u, hu, ru⟩ := s1'.get hx
                  obtain ⟨v, hv, rv⟩ := s2'.get hy
                  refine ⟨⟨us', ws', u, v, q1', q2', hu, hv⟩, fun x' H2 ⟨T, u', v', e1, hT, e2, hy1, hy2⟩ => ?_⟩
                  subst e1 e2
                  have z1 := hy1 us' q1'
                  rw [hu] at z1
                  cases z1
                  have z2 := hy2 ws' q2'
                  rw [hv] at z2
                  cases z2
                  obtain ⟨ab2, st2⟩ := ab'.rnew (o := .tup [u, v]) hT
                  exact ⟨_, st2, ab2, zip_pair (ru.step st2) (rv.step st2) upd_same⟩
            · have hl : (zipD xs ys).length ≤ i := hl
              rw [zipD_len] at hl
              rw [s1'.length, s2'.length]
              omega
      cases h1 : tupD d with
      | none => rw [h1] at w1; exact lists w1
      | some xs =>
        cases h2 : tupD e with
        | none => rw [h1, h2] at w1; exact lists w1
        | some ys =>
          rw [h1, h2] at w1
          cases d with
          | tup xs1 =>
            cases e with
            | tup ys1 =>
              cases h1
              cases h2
              unfold Rep at r1 r2
              obtain ⟨a, us, rfl, q1, s1⟩ := r1
              obtain ⟨b, ws, rfl, q2, s2⟩ := r2
              refine ⟨a, b, us, ws, rfl, .inr ⟨seqT_sub ab.sub q1, seqT_sub ab.sub q2, w1.ok ab fun Fr' S' ι' R' H' i st ab' ok => ?_⟩⟩
              have q1' := seqT_sub ab'.sub (seqT_sub st.sub q1)
              have q2' := seqT_sub ab'.sub (seqT_sub st.sub q2)
              have s1' := RepL.step st s1
              have s2' := RepL.step st s2
              refine ⟨fun z hz => ?_, fun hl => ⟨us, ws, q1', q2', ?_⟩⟩
              · have hz : (zipD xs ys)[i]? = some z := hz
                rw [zipD_at] at hz
                cases hx : xs[i]? with
                | none => rw [hx] at hz; cases hz
                | some x =>
                  cases hy : ys[i]? with
                  | none => rw [hx, hy] at hz; cases hz
                  | some y =>
                    rw [hx, hy] at hz
                    cases hz
                    obtain ⟨u, hu, ru⟩ := s1'.get hx
                    obtain ⟨v, hv, rv⟩ := s2'.get hy
                    refine ⟨⟨us, ws, u, v, q1', q2', hu, hv⟩, fun x' H2 ⟨T, u', v', e1, hT, e2, hy1, hy2⟩ => ?_⟩
                    subst e1 e2
                    have z1 := hy1 us q1'
                    rw [hu] at z1
                    cases z1
                    have z2 := hy2 ws q2'
                    rw [hv] at z2
                    cases z2
                    obtain ⟨ab2, st2⟩ := ab'.rnew (o := .tup [u, v]) hT
                    exact ⟨_, st2, ab2, zip_pair (ru.step st2) (rv.step st2) upd_same⟩
              · have hl : (zipD xs ys).length ≤ i := hl
                rw [zipD_len] at hl
                rw [s1'.length, s2'.length]
                omega
            | _ => cases h2
          | _ => cases h1
end DL

set_option Elab.async false
set_option linter.all false
set_option maxRecDepth 100000
set_option maxHeartbeats 4000000
/-! list(range(a, b)) (own work). -/
namespace DL
open PySem PySem.Spec L2
variable {Fr : Hp}
def tRgA (ta : TA) : St → Hp → (Int → Int → Hp → Prop) → Prop := fun σ H Q => ta σ H fun vs H1 => ∃ i j : Int, vs = [.int i, .int j] ∧ Q i j H1
theorem prg_A {X : Cx} {a b : Expr} {ta : TA} {p pos : Pos} (hg : Gl X "range") (hm : X.mg "range" = none) (ha : PA X [a, b] ta) (hs : starEach [a, b] X.env = [(false, eval a X.env), (false, eval b X.env)] := by rfl) (hs2 : starEach [b] X.env = [(false, eval b X.env)] := by rfl) : PRg X (.Call (.Name "range" p) [a, b] [] pos) (tRgA ta) := by
  intro pins s σ H Q I h
  refine PyProof.Rows.Call_ (ld_blt I hg hm PyProof.Rows.boot_range (PyProof.Rows.callWith_type1 (thn (ha.run pos pins s σ H _ I h) fun us s1 ⟨vs, H1, I1, r1, q1⟩ => ?_) (by rw [hs, hs2]) (by rw [hs2]; rfl)))
  obtain ⟨i, j, e, q⟩ := q1
  subst e
  cases r1 with
  | cons r rr =>
    cases rr with
    | cons r' rr =>
      cases rr
      obtain ⟨t, rfl⟩ := r
      obtain ⟨t', rfl⟩ := r'
      exact call_range_2 ⟨_, i, j, _, _, _, H1, rfl, IsRange.new _ _ _ _ _ _ _, I1.kept fun b u e => Heap.get?_push_of_some _ e, q⟩
def rgnD (i j : Int) : List D := (List.range (j - i).toNat).map fun (k : Nat) => D.int (i + k)
theorem rgnD_rep {K : PySem.W.Frag} {R : Hp} {S : Store} {ι : Nat → Addr} (i : Int) : ∀ l : List Nat, RepL K R S ι (l.map fun (k : Nat) => D.int (i + k)) (l.map fun (k : Nat) => V.int (i + k))
  | [] => rfl
  | k :: l => repL_cons int_rep (rgnD_rep i l)
def nRng2 : List D → Store → Oc (List D × Store) := fun ds S => match ds with
  | [.int i, .int j] => if -(2 ^ 62) ≤ i ∧ i < 2 ^ 62 ∧ -(2 ^ 62) ≤ j ∧ j < 2 ^ 62 ∧ (j - i).toNat ≤ 2 ^ 24 then .ok (rgnD i j, S) else .bad
  | _ => .bad
theorem dn_listRg2 {X : Cx} {W : WX} {a b : Expr} {g : LA} {p p2 pos pos2 : Pos} (hc : X.calm = true) (hm : X.mg "list" = none) (hm2 : X.mg "range" = none) (ha : DA X W [a, b] g) (hg : Gl X "list" := by rfl) (hg2 : Gl X "range" := by rfl)
    (hs : starEach [a, b] X.env = [(false, eval a X.env), (false, eval b X.env)] := by rfl) (hs2 : starEach [b] X.env = [(false, eval b X.env)] := by rfl)
    (na : starEach [.Call (.Name "range" p2) [a, b] [] pos2] X.env = (false, eval (.Call (.Name "range" p2) [a, b] [] pos2) X.env) :: starEach [] X.env := by rfl) :
    DN X W (.Call (.Name "list" p) [.Call (.Name "range" p2) [a, b] [] pos2] [] pos) (xBN nRng2 g) :=
  PE.imp (pe_listRg hc hg hm (prg_A hg2 hm2 ha hs hs2) na) fun σ H Q w => cN.bind (rel := RepL X.K) (f := fun ds (_ : Lc) S1 => nRng2 ds S1) w fun ds xs δ S1 ι1 R1 Fr H1 ab lo rs w1 => by
    match ds, rs, w1 with
    | [], _, w => exact w.elim
    | [d], _, w => cases d <;> exact w.elim
    | [d, e], rs, w =>
      obtain ⟨v, u, rfl, r1, r2⟩ := repL2 rs
      cases d with
      | int i =>
        cases e with
        | int j =>
          dsimp only [nRng2] at w
          by_cases hc : -(2 ^ 62) ≤ i ∧ i < 2 ^ 62 ∧ -(2 ^ 62) ≤ j ∧ j < 2 ^ 62 ∧ (j - i).toNat ≤ 2 ^ 24
          · rw [if_pos hc] at w
            refine ⟨i, j, by rw [rep_int r1, rep_int r2], hc, fun q hq => ?_⟩
            exact w.new ab (rgnD_rep i _) hq
          · rw [if_neg hc] at w
            exact w.elim
        | _ => exact w.elim
      | _ => cases e <;> exact w.elim
    | d :: e :: f :: _, _, w => cases d <;> cases e <;> exact w.elim
/-! a thing of data in a list of data -/
def inP (d e : D) (S : Store) : Option Bool := match toPy (deref d S), toPy (deref e S) with
  | some p, some (.list qs) => if SeqAt.shaped p = true ∧ SeqAt.shaped (.list qs) = true then some (qs.any fun z => PyData.eqv z p) else none
  | _, _ => none
def dInP (neg : Bool) : F2 := fun d e S => match inP d e S with
  | some b => .ok (.bl (if neg then !b else b), S)
  | none => .bad
theorem inP_ok {K : PySem.W.Frag} {R H : Hp} {S : Store} {ι : Nat → Addr} {d e : D} {x y : V} {b : Bool} (ab : Ab K Fr S ι R H) (rx : Rep K R S ι d x) (ry : Rep K R S ι e y) (h : inP d e S = some b) :
    ∃ p qs, Dp K H x p ∧ Dp K H y (.list qs) ∧ SeqAt.shaped p = true ∧ SeqAt.shaped (.list qs) = true ∧ (qs.any fun z => PyData.eqv z p) = b := by
  unfold inP at h
  cases h2 : toPy (deref d S) with
  | none => rw [h2] at h; cases h
  | some p =>
    cases h3 : toPy (deref e S) with
    | none => rw [h2, h3] at h; cases h
    | some q =>
      rw [h2, h3] at h
      cases q with
      | list qs =>
        dsimp only at h
        by_cases hs : SeqAt.shaped p = true ∧ SeqAt.shaped (.list qs) = true
        · rw [if_pos hs] at h
          cases h
          exact ⟨p, qs, dp_of ab h2 rx, dp_of ab h3 ry, hs.1, hs.2, rfl⟩
        · rw [if_neg hs] at h
          cases h
      | _ => cases h
theorem inP_sound {K : PySem.W.Frag} : Op2 K (rInD K) (dInP false) := fun Fr S ι R H d e x y Q E ab rx ry w => by
  unfold dInP at w
  cases h : inP d e S with
  | none => rw [h] at w; exact w.elim
  | some b =>
    rw [h] at w
    obtain ⟨p, qs, h1, h2, h3, h4, h5⟩ := inP_ok ab rx ry h
    exact ⟨p, qs, h1, h2, h3, h4, by rw [h5]; exact w.ok ab rep_bl_intro⟩
theorem notInP_sound {K : PySem.W.Frag} : Op2 K (rNotInD K) (dInP true) := fun Fr S ι R H d e x y Q E ab rx ry w => by
  unfold dInP at w
  cases h : inP d e S with
  | none => rw [h] at w; exact w.elim
  | some b =>
    rw [h] at w
    obtain ⟨p, qs, h1, h2, h3, h4, h5⟩ := inP_ok ab rx ry h
    exact ⟨p, qs, h1, h2, h3, h4, by rw [h5]; exact w.ok ab rep_bl_intro⟩
section
variable {X : Cx} {W : WX} {k : Nat} {a b c e : Expr} {ga gb gc : LE} {pos : Pos}
theorem de_inP (c : Ctc X W k) (ha : DE X W a ga) (hb : DE X W b gb) (hm : behindInMarks .In b = false := by rfl) : DE X W (.Compare a [.In] [b] pos) (x2 (dInP false) ga gb) := de_cmp inP_sound (op_inD (by have := c.hr.un; omega)) ha hb hm
theorem de_notInP (c : Ctc X W k) (ha : DE X W a ga) (hb : DE X W b gb) (hm : behindInMarks .NotIn b = false := by rfl) : DE X W (.Compare a [.NotIn] [b] pos) (x2 (dInP true) ga gb) := de_cmp notInP_sound (op_notInD (by have := c.hr.un; omega)) ha hb hm
theorem dt_inP (c : Ctc X W k) (ha : DE X W a ga) (hb : DE X W b gb) (hm : behindInMarks .In b = false := by rfl) : DT X W (.Compare a [.In] [b] pos) (tB (x2 (dInP false) ga gb)) := dt_cmp inP_sound (op_inD (by have := c.hr.un; omega)) ha hb hm
theorem dt_notInP (c : Ctc X W k) (ha : DE X W a ga) (hb : DE X W b gb) (hm : behindInMarks .NotIn b = false := by rfl) : DT X W (.Compare a [.NotIn] [b] pos) (tB (x2 (dInP true) ga gb)) := dt_cmp notInP_sound (op_notInD (by have := c.hr.un; omega)) ha hb hm
end
end DL

set_option Elab.async false
set_option linter.all false
set_option maxRecDepth 100000
set_option maxHeartbeats 4000000
/-! xs[::2], xs[1::2] (own work). -/
namespace DL
open PySem PySem.Spec L2
open PyProof.Rows (Subscript_ subscriptTail tail_any)
variable {Fr : Hp}
/-- the places of xs[lo::2], n items -/
def ix2 (lo : Option Int) (n : Nat) : List Nat := sliceRange (sliceBounds lo none (some 2) n).1 (sliceBounds lo none (some 2) n).2.1 (sliceBounds lo none (some 2) n).2.2
def pick2 {α : Type} (lo : Option Int) (xs : List α) : List α := (ix2 lo xs.length).filterMap (xs[·]?)
theorem pick2_its (lo : Option Int) (its : List Value) : slicePick its.toArray lo none (some 2) = (pick2 lo its).toArray := by
  unfold slicePick pick2 ix2
  rw [List.size_toArray]
  congr 1
  simp only [List.getElem?_toArray]
theorem vals_ix : ∀ (l : List Nat) {xs : List V} {us : List Value}, Vals xs us → Vals (l.filterMap (xs[·]?)) (l.filterMap (us[·]?))
  | [], _, _, _ => .nil
  | i :: l, xs, us, h => by
    have go : ∀ (i : Nat) {xs : List V} {us : List Value}, Vals xs us → (xs[i]? = none ∧ us[i]? = none) ∨ ∃ x u, xs[i]? = some x ∧ us[i]? = some u ∧ RelV x u := by
      intro i
      induction i with
      | zero =>
        intro xs us h
        cases h with
        | nil => exact .inl ⟨rfl, rfl⟩
        | cons r rr => exact .inr ⟨_, _, rfl, rfl, r⟩
      | succ i ih =>
        intro xs us h
        cases h with
        | nil => exact .inl ⟨rfl, rfl⟩
        | cons r rr => exact ih rr
    rcases go i h with ⟨e1, e2⟩ | ⟨x, u, e1, e2, r⟩
    · rw [List.filterMap_cons_none e1, List.filterMap_cons_none e2]
      exact vals_ix l h
    · rw [List.filterMap_cons_some e1, List.filterMap_cons_some e2]
      exact .cons r (vals_ix l h)
theorem pick2_le {α : Type} (lo : Option Int) (xs : List α) : (pick2 lo xs).length ≤ xs.length := by
  have h := slicePick_size_le (xs.map fun _ => Value.none).toArray lo none (some 2)
  have e : (slicePick (xs.map fun _ => Value.none).toArray lo none (some 2)).size = (pick2 lo xs).length := by
    rw [pick2_its, List.size_toArray]
    unfold pick2
    rw [List.length_map]
    have go : ∀ l : List Nat, (l.filterMap ((xs.map fun _ => Value.none)[·]?)).length = (l.filterMap (xs[·]?)).length := by
      intro l
      induction l with
      | nil => rfl
      | cons i l ih =>
        rw [List.filterMap_cons, List.filterMap_cons, List.getElem?_map]
        cases xs[i]? with
        | none => exact ih
        | some x => exact congrArg (· + 1) ih
    exact go _
  rw [e, List.size_toArray, List.length_map] at h
  exact h
def tSt2 (K : PySem.W.Frag) (lo : Option Int) (te : TE) : TE := fun σ H Q => te σ H fun x H1 => ∃ a xs, x = .ref a ∧ SqL K H1 a xs ∧ ∀ p, H1 p = none → Q (.ref p) (upd H1 p (.lst (pick2 lo xs)))
theorem pe_st2 {X : Cx} {e : Expr} {te : TE} {k : Nat} {l : Option Expr} {lo : Option Int} {p1 p3 pos : Pos} (hlo : (l = none ∧ lo = none) ∨ ∃ j q, l = some (.Constant (.int 1) j q) ∧ lo = some 1) (he : PE X e te) : PE X (.Subscript e (.Slice l none (some (.Constant (.int 2) k p1)) p3) pos) (tSt2 X.K lo te) := by
  refine ⟨fun pins s σ H Q I h => ?_⟩
  refine Subscript_ (thn (he.run pins s σ H _ I h) fun v s1 ⟨x, H1, I1, r1, q1⟩ => ?_)
  obtain ⟨a, xs, ex, hx, q⟩ := q1
  subst ex
  cases r1
  have hst : PO X (some (.Constant (.int 2) k p1)) (tPart (tC (.int 2))) := po_some pe_int
  have hl : ∃ tl, PO X l tl ∧ ∀ σ H (Q : Option Int → Hp → Prop), Q lo H → tl σ H Q := by
    rcases hlo with ⟨rfl, rfl⟩ | ⟨j, q, rfl, rfl⟩
    · exact ⟨_, po_none, fun σ H Q h => h⟩
    · exact ⟨_, po_some (pe_int (i := 1)), fun σ H Q h => ⟨1, rfl, h⟩⟩
  obtain ⟨tl, hl, hq⟩ := hl
  refine wpAny_Slice (thn (hl.run pins s1 σ H1 (fun o H2 => o = lo ∧ H2 = H1) I1 (hq _ _ _ ⟨rfl, rfl⟩)) fun vl s2 ⟨l', H2, I2, pl, el, e2⟩ => ?_)
  subst el e2
  refine thn (po_none.run pins s2 σ H2 (fun o H3 => o = none ∧ H3 = H2) I2 ⟨rfl, rfl⟩) fun vu s3 ⟨u, H3, I3, pu, eu, e3⟩ => ?_
  subst eu e3
  refine thn (hst.run pins s3 σ H3 (fun o H4 => o = some 2 ∧ H4 = H3) I3 ⟨2, rfl, rfl, rfl⟩) fun vs s4 ⟨o, H4, I4, ps, eo, e4⟩ => ?_
  subst eo e4
  have I5 : Inv X pins σ H4 { s4 with heap := s4.heap.push { cls := .type "slice", data := .fields #[vl, vu, vs] } } := I4.kept (t' := s4.toks) fun b ob q => Heap.get?_push_of_some _ q
  obtain ⟨its, r, ht, hz⟩ := I5.list hx
  have hlen := r.length
  show wpAny (model X.prog X.w) X.A (subscriptTail e (.Slice l none (some (.Constant (.int 2) k p1)) p3) (.ref a) (.ref s4.heap.objs.size)) (EP X pins σ Q) X.xe { s4 with heap := s4.heap.push { cls := .type "slice", data := .fields #[vl, vu, vs] } }
  refine tail_any (ops := [.ref a, .ref s4.heap.objs.size]) ht.isList.typeIs (PySem.slot_list_getitem.lookup) ?_ (by with_unfolding_all rfl)
  refine wpAny_getItem_list_slice ht.isList (Heap.IsSliceOf.new _ vl vu vs) pl pu ps (by decide) ?_ (by rw [List.size_toArray]; omega)
  rw [pick2_its]
  have hv : Vals (pick2 l' xs) (pick2 l' its) := by
    unfold pick2
    rw [hlen]
    exact vals_ix _ r
  refine ⟨.ref _, _, I5.laid (t' := s4.toks) (o := .lst (pick2 l' xs)) (fun b ob q => Heap.get?_push_of_some _ q) (Nat.le_refl _) ?_, rfl, q _ (I5.hok.fresh (Nat.le_refl _))⟩
  exact ⟨Nat.le_trans (pick2_le _ _) hz, _, 0, hv, Heap.get?_push_size _ rfl⟩
theorem repL_ix {K : PySem.W.Frag} {R : Hp} {S : Store} {ι : Nat → Addr} : ∀ (l : List Nat) {ds : List D} {xs : List V}, RepL K R S ι ds xs → RepL K R S ι (l.filterMap (ds[·]?)) (l.filterMap (xs[·]?))
  | [], _, _, _ => rfl
  | i :: l, ds, xs, h => by
    have go : ∀ (i : Nat) {ds : List D} {xs : List V}, RepL K R S ι ds xs → (ds[i]? = none ∧ xs[i]? = none) ∨ ∃ d x, ds[i]? = some d ∧ xs[i]? = some x ∧ Rep K R S ι d x := by
      intro i
      induction i with
      | zero =>
        intro ds xs h
        cases ds with
        | nil =>
          have e : xs = [] := h
          subst e
          exact .inl ⟨rfl, rfl⟩
        | cons d ds =>
          unfold RepL at h
          obtain ⟨x, xs', rfl, r, rr⟩ := h
          exact .inr ⟨_, _, rfl, rfl, r⟩
      | succ i ih =>
        intro ds xs h
        cases ds with
        | nil =>
          have e : xs = [] := h
          subst e
          exact .inl ⟨rfl, rfl⟩
        | cons d ds =>
          unfold RepL at h
          obtain ⟨x, xs', rfl, r, rr⟩ := h
          exact ih rr
    rcases go i h with ⟨e1, e2⟩ | ⟨d, x, e1, e2, r⟩
    · rw [List.filterMap_cons_none e1, List.filterMap_cons_none e2]
      exact repL_ix l h
    · rw [List.filterMap_cons_some e1, List.filterMap_cons_some e2]
      exact repL_cons r (repL_ix l h)
theorem pick2_rep {K : PySem.W.Frag} {R : Hp} {S : Store} {ι : Nat → Addr} {ds : List D} {xs : List V} (lo : Option Int) (h : RepL K R S ι ds xs) : RepL K R S ι (pick2 lo ds) (pick2 lo xs) := by
  unfold pick2
  rw [h.length]
  exact repL_ix _ h
def nSt2 (lo : Option Int) (g : LE) : LA := fun δ S => (g δ S).bind fun d S1 => (match asL d S1 with
  | some xs => .ok (pick2 lo xs, S1)
  | none => .bad)
section
variable {X : Cx} {W : WX} {e : Expr} {ga : LE} {pos : Pos}
theorem dn_st2g {k : Nat} {l : Option Expr} {lo : Option Int} {p1 p3 : Pos} (hlo : (l = none ∧ lo = none) ∨ ∃ j q, l = some (.Constant (.int 1) j q) ∧ lo = some 1) (ha : DE X W e ga) : DN X W (.Subscript e (.Slice l none (some (.Constant (.int 2) k p1)) p3) pos) (nSt2 lo ga) :=
  PE.imp (pe_st2 hlo ha) fun σ H Q w => cN.bind (rel := Rep X.K) (f := fun d (_ : Lc) S1 => (match asL d S1 with
    | some xs => .ok (pick2 lo xs, S1)
    | none => .bad)) w fun d x δ S1 ι1 R1 Fr H1 ab lc r w1 => by
    cases h : asL d S1 with
    | none => rw [h] at w1; exact w1.elim
    | some ds =>
      rw [h] at w1
      obtain ⟨a, xs, rfl, q, rs⟩ := asL_ok ab r h
      exact ⟨a, xs, rfl, q, fun p hp => wpN.new w1 ab (pick2_rep lo rs) hp⟩
theorem dn_st2 {k : Nat} {p1 p3 : Pos} (ha : DE X W e ga) : DN X W (.Subscript e (.Slice none none (some (.Constant (.int 2) k p1)) p3) pos) (nSt2 none ga) := dn_st2g (.inl ⟨rfl, rfl⟩) ha
theorem dn_st21 {k j : Nat} {p1 p3 q : Pos} (ha : DE X W e ga) : DN X W (.Subscript e (.Slice (some (.Constant (.int 1) j q)) none (some (.Constant (.int 2) k p1)) p3) pos) (nSt2 (some 1) ga) := dn_st2g (.inr ⟨j, q, rfl, rfl⟩) ha
end
end DL

set_option Elab.async false
set_option linter.all false
set_option maxRecDepth 100000
set_option maxHeartbeats 4000000
/-! max(list), min(list) of ints (own work). -/
namespace DL
open PySem PySem.Spec L2
variable {Fr : Hp}
def bMaxL : Fn := fun ds S => match ds with
  | [d] => (match (asL d S).bind nts with
    | some (n :: ns) => .ok (.int (ns.foldl max n), S)
    | _ => .bad)
  | _ => .bad
def bMinL : Fn := fun ds S => match ds with
  | [d] => (match (asL d S).bind nts with
    | some (n :: ns) => .ok (.int (ns.foldl min n), S)
    | _ => .bad)
  | _ => .bad
theorem foldl_max_ge : ∀ (ns : List Int) (n : Int), n ≤ ns.foldl max n ∧ ∀ y ∈ ns, y ≤ ns.foldl max n
  | [], n => ⟨Int.le_refl _, fun _ h => nomatch h⟩
  | x :: xs, n => by
    obtain ⟨h1, h2⟩ := foldl_max_ge xs (max n x)
    rw [List.foldl_cons]
    refine ⟨by omega, fun y hy => ?_⟩
    rcases List.mem_cons.mp hy with rfl | hy
    · omega
    · exact h2 y hy
theorem foldl_max_mem : ∀ (ns : List Int) (n : Int), ns.foldl max n = n ∨ ns.foldl max n ∈ ns
  | [], n => .inl rfl
  | x :: xs, n => by
    rw [List.foldl_cons]
    rcases foldl_max_mem xs (max n x) with h | h
    · rw [h]
      rcases (show max n x = n ∨ max n x = x by omega) with e | e
      · exact .inl e
      · rw [e]; exact .inr (List.mem_cons_self ..)
    · exact .inr (List.mem_cons_of_mem _ h)
theorem foldl_min_le : ∀ (ns : List Int) (n : Int), ns.foldl min n ≤ n ∧ ∀ y ∈ ns, ns.foldl min n ≤ y
  | [], n => ⟨Int.le_refl _, fun _ h => nomatch h⟩
  | x :: xs, n => by
    obtain ⟨h1, h2⟩ := foldl_min_le xs (min n x)
    rw [List.foldl_cons]
    refine ⟨by omega, fun y hy => ?_⟩
    rcases List.mem_cons.mp hy with rfl | hy
    · omega
    · exact h2 y hy
theorem max_uniq {n : Int} {ns : List Int} {m : Int} (hm : m ∈ n :: ns) (hx : ∀ y ∈ n :: ns, y ≤ m) : ns.foldl max n = m := by
  obtain ⟨h1, h2⟩ := foldl_max_ge ns n
  have h3 : m ≤ ns.foldl max n := by
    rcases List.mem_cons.mp hm with rfl | z
    · exact h1
    · exact h2 m z
  have h4 : ns.foldl max n ≤ m := by
    rcases foldl_max_mem ns n with e | e
    · rw [e]; exact hx n (List.mem_cons_self ..)
    · exact hx _ (List.mem_cons_of_mem _ e)
  omega
theorem foldl_min_mem : ∀ (ns : List Int) (n : Int), ns.foldl min n = n ∨ ns.foldl min n ∈ ns
  | [], n => .inl rfl
  | x :: xs, n => by
    rw [List.foldl_cons]
    rcases foldl_min_mem xs (min n x) with h | h
    · rw [h]
      rcases (show min n x = n ∨ min n x = x by omega) with e | e
      · exact .inl e
      · rw [e]; exact .inr (List.mem_cons_self ..)
    · exact .inr (List.mem_cons_of_mem _ h)
theorem min_uniq {n : Int} {ns : List Int} {m : Int} (hm : m ∈ n :: ns) (hx : ∀ y ∈ n :: ns, m ≤ y) : ns.foldl min n = m := by
  obtain ⟨h1, h2⟩ := foldl_min_le ns n
  have h3 : ns.foldl min n ≤ m := by
    rcases List.mem_cons.mp hm with rfl | z
    · exact h1
    · exact h2 m z
  have h4 : m ≤ ns.foldl min n := by
    rcases foldl_min_mem ns n with e | e
    · rw [e]; exact hx n (List.mem_cons_self ..)
    · exact hx _ (List.mem_cons_of_mem _ e)
  omega
theorem bMaxL_sound {K : PySem.W.Frag} : OpA K (rMax K) bMaxL := fun Fr S ι R H ds xs Q E ab rs w => by
  match ds, rs, w with
  | [], _, w => exact w.elim
  | [d], rs, w =>
    obtain ⟨v, rfl, r⟩ := repL1 rs
    unfold bMaxL at w
    dsimp only at w
    cases h : asL d S with
    | none => rw [h] at w; exact w.elim
    | some ys =>
      rw [h] at w
      cases hb : nts ys with
      | none => simp only [Option.bind_some, hb] at w; exact w.elim
      | some bs =>
        simp only [Option.bind_some, hb] at w
        obtain ⟨a, vs, rfl, hq, rv⟩ := asL_ok ab r h
        cases bs with
        | nil => exact w.elim
        | cons n ns =>
          refine ⟨a, n :: ns, rfl, ?_, by simp, fun m hm hx => ?_⟩
          · rw [← nts_ok hb rv]
            exact hq
          · have e := max_uniq hm hx
            rw [← e]
            exact w.ok ab int_rep
  | d :: _ :: _, _, w => exact w.elim
theorem bMinL_sound {K : PySem.W.Frag} : OpA K (rMin K) bMinL := fun Fr S ι R H ds xs Q E ab rs w => by
  match ds, rs, w with
  | [], _, w => exact w.elim
  | [d], rs, w =>
    obtain ⟨v, rfl, r⟩ := repL1 rs
    unfold bMinL at w
    dsimp only at w
    cases h : asL d S with
    | none => rw [h] at w; exact w.elim
    | some ys =>
      rw [h] at w
      cases hb : nts ys with
      | none => simp only [Option.bind_some, hb] at w; exact w.elim
      | some bs =>
        simp only [Option.bind_some, hb] at w
        obtain ⟨a, vs, rfl, hq, rv⟩ := asL_ok ab r h
        cases bs with
        | nil => exact w.elim
        | cons n ns =>
          refine ⟨a, n :: ns, rfl, ?_, by simp, fun m hm hx => ?_⟩
          · rw [← nts_ok hb rv]
            exact hq
          · have e := min_uniq hm hx
            rw [← e]
            exact w.ok ab int_rep
  | d :: _ :: _, _, w => exact w.elim
section
variable {X : Cx} {W : WX} {k : Nat} {e b : Expr} {g : LA} {pos p : Pos}
theorem de_maxL (cc : Ctc X W k) (hm : X.mg "max" = none) (ha : DA X W [e] g) (hg : Gl X "max" := by rfl) (he : starEach [e] X.env = (false, eval e X.env) :: starEach [] X.env := by rfl) (hpl : (backTo pos (starEach [] X.env)).any (·.1) = false := by rfl) :
    DE X W (.Call (.Name "max" p) [e] [] pos) (xB bMaxL g) := de_blt bMaxL_sound (cr_max cc.calm) hm (by decide +kernel) ha hg (by decide) (by decide) he hpl
theorem de_minL (cc : Ctc X W k) (hm : X.mg "min" = none) (ha : DA X W [e] g) (hg : Gl X "min" := by rfl) (he : starEach [e] X.env = (false, eval e X.env) :: starEach [] X.env := by rfl) (hpl : (backTo pos (starEach [] X.env)).any (·.1) = false := by rfl) :
    DE X W (.Call (.Name "min" p) [e] [] pos) (xB bMinL g) := de_blt bMinL_sound (cr_min cc.calm) hm (by decide +kernel) ha hg (by decide) (by decide) he hpl
end
end DL

set_option Elab.async false
set_option linter.all false
set_option maxRecDepth 100000
set_option maxHeartbeats 4000000
/-! The plain calculus over mirrors: total correctness by weakest preconditions (own work). -/
namespace DL
open PySem PySem.Spec L2
abbrev XQ := Str → XF → Store → Prop
abbrev XS := Str → XF → Lc → Store → Prop
abbrev NX : XQ := fun _ _ _ => False
/-- an outcome's weakest precondition -/
def wp {α : Type} (o : Oc (α × Store)) (Q : α → Store → Prop) (E : XQ) : Prop := match o with
  | .ok p => Q p.1 p.2
  | .exc c fs S => E c fs S
  | .bad => False
def ws (o : Os) (Q : Fl → Lc → Store → Prop) (E : XS) : Prop := match o with
  | .ok f δ S => Q f δ S
  | .exc c fs δ S => E c fs δ S
  | .bad => False
section
variable {α β : Type} {Q : α → Store → Prop} {E : XQ} {o : Oc (α × Store)} {S S' : Store} {δ : Lc} {QD : D → Store → Prop} {QL : List D → Store → Prop} {QB : Bool → Store → Prop} {QI : Src → Store → Prop} {QO : Option Int → Store → Prop} {QG : Lc → Store → Prop}
theorem wp_ok (a : α) : wp (.ok (a, S)) Q E = Q a S := id rfl
theorem wp_exc (c : Str) (fs : XF) : wp (.exc c fs S) Q E = E c fs S := id rfl
theorem wp_bad : wp (.bad : Oc (α × Store)) Q E = False := id rfl
theorem wp_bind {Q : β → Store → Prop} (f : α → Store → Oc (β × Store)) : wp (o.bind f) Q E = wp o (fun a S1 => wp (f a S1) Q E) E := by cases o <;> rfl
theorem wp_ite (c : Prop) [Decidable c] (a b : Oc (α × Store)) : wp (if c then a else b) Q E = if c then wp a Q E else wp b Q E := by split <;> rfl
theorem wp_imp {Q' : α → Store → Prop} {E' : XQ} (h : wp o Q E) (hq : ∀ a S, Q a S → Q' a S) (he : ∀ c fs S, E c fs S → E' c fs S) : wp o Q' E' := by
  cases o with
  | ok p => exact hq _ _ h
  | exc c fs S => exact he _ _ _ h
  | bad => exact h
theorem wp_eq {a : α} (h : wp o (fun b S' => b = a ∧ S' = S) NX) : o = .ok (a, S) := by
  cases o with
  | ok p => obtain ⟨b, S'⟩ := p; obtain ⟨h1, h2⟩ := h; subst h1; subst h2; rfl
  | exc c fs S => exact h.elim
  | bad => exact h.elim
theorem wp_ex (h : wp o Q NX) : ∃ a S', o = .ok (a, S') ∧ Q a S' := by
  cases o with
  | ok p => exact ⟨p.1, p.2, rfl, h⟩
  | exc c fs S => exact h.elim
  | bad => exact h.elim
theorem ite_f (c p : Prop) [Decidable c] : (if c then p else False) = (c ∧ p) := by
  by_cases h : c <;> simp [h]
theorem wp_var0 (d : D) : wp (xVar 0 (some d :: δ) S) QD E = QD d S := id rfl
theorem wp_varN : wp (xVar 0 (none :: δ) S) QD E = False := id rfl
theorem wp_varS (i : Nat) (o : Option D) : wp (xVar (i + 1) (o :: δ) S) QD E = wp (xVar i δ S) QD E := id rfl
/-- slots set, for the calculus -/
def wset (i : Nat) (δ : Lc) (d : D) (P : Lc → Prop) : Prop := P (δ.set i (some d))
theorem wset0 (o : Option D) (d : D) (P : Lc → Prop) : wset 0 (o :: δ) d P = P (some d :: δ) := id rfl
theorem wsetS (i : Nat) (o : Option D) (d : D) (P : Lc → Prop) : wset (i + 1) (o :: δ) d P = wset i δ d fun δ' => P (o :: δ') := id rfl
def wini (m : Nat) (ds : List D) (P : Lc → Prop) : Prop := P (ds.map some ++ List.replicate (m - ds.length) none)
theorem wini0 (P : Lc → Prop) : wini 0 [] P = P [] := id rfl
theorem winiS (m : Nat) (P : Lc → Prop) : wini (m + 1) [] P = wini m [] fun δ => P (none :: δ) := id rfl
theorem winiC (m : Nat) (d : D) (ds : List D) (P : Lc → Prop) : wini (m + 1) (d :: ds) P = wini m ds fun δ => P (some d :: δ) := by
  unfold wini
  simp
theorem wp_c (d : D) : wp (xC d δ S) QD E = QD d S := id rfl
theorem wp_x1 (f : F1) (a : LE) : wp (x1 f a δ S) QD E = wp (a δ S) (fun d S1 => wp (f d S1) QD E) E := wp_bind _
theorem wp_x2 (f : F2) (a b : LE) : wp (x2 f a b δ S) QD E = wp (a δ S) (fun d S1 => wp (b δ S1) (fun e S2 => wp (f d e S2) QD E) E) E := by
  unfold x2
  rw [wp_bind]
  simp only [wp_bind]
theorem wp_tB (a : LE) : wp (tB a δ S) QB E = wp (a δ S) (fun d S1 => match d with | .bl b => QB b S1 | _ => False) E := by
  unfold tB
  rw [wp_bind]
  congr 1
  funext d S1
  cases d <;> rfl
theorem wp_tAnd (a b : LT) : wp (tAndD a b δ S) QB E = wp (a δ S) (fun c S1 => if c = true then wp (b δ S1) QB E else QB false S1) E := by
  unfold tAndD
  rw [wp_bind]
  simp only [wp_ite, wp_ok]
theorem wp_tOr (a b : LT) : wp (tOrD a b δ S) QB E = wp (a δ S) (fun c S1 => if c = true then QB true S1 else wp (b δ S1) QB E) E := by
  unfold tOrD
  rw [wp_bind]
  simp only [wp_ite, wp_ok]
theorem wp_tNot (a : LT) : wp (tNotD a δ S) QB E = wp (a δ S) (fun c S1 => QB (!c) S1) E := wp_bind _
theorem wp_xAnd (a b : LE) : wp (xAndD a b δ S) QD E = wp (a δ S) (fun d S1 => match d with
  | .bl true => wp (b δ S1) QD E
  | .bl false => QD (.bl false) S1
  | _ => False) E := by
  unfold xAndD
  rw [wp_bind]
  congr 1
  funext d S1
  cases d with
  | bl b => cases b <;> rfl
  | _ => rfl
theorem wp_xOr (a b : LE) : wp (xOrD a b δ S) QD E = wp (a δ S) (fun d S1 => match d with
  | .bl true => QD (.bl true) S1
  | .bl false => wp (b δ S1) QD E
  | _ => False) E := by
  unfold xOrD
  rw [wp_bind]
  congr 1
  funext d S1
  cases d with
  | bl b => cases b <;> rfl
  | _ => rfl
theorem wp_xNot (a : LE) : wp (xNotD a δ S) QD E = wp (a δ S) (fun d S1 => match d with
  | .bl b => QD (.bl (!b)) S1
  | _ => False) E := by
  unfold xNotD
  rw [wp_bind]
  congr 1
  funext d S1
  cases d <;> rfl
theorem wp_xIf (t : LT) (a b : LE) : wp (xIf t a b δ S) QD E = wp (t δ S) (fun c S1 => if c = true then wp (a δ S1) QD E else wp (b δ S1) QD E) E := by
  unfold xIf
  rw [wp_bind]
  simp only [wp_ite]
theorem wp_nil : wp (xNil δ S) QL E = QL [] S := id rfl
theorem wp_cons (a : LE) (r : LA) : wp (xCons a r δ S) QL E = wp (a δ S) (fun d S1 => wp (r δ S1) (fun ds S2 => QL (d :: ds) S2) E) E := by
  unfold xCons
  rw [wp_bind]
  simp only [wp_bind, wp_ok]
theorem wp_tup (g : LA) : wp (xTup g δ S) QD E = wp (g δ S) (fun ds S1 => ds.length ≤ sizeLine ∧ QD (.tup ds) S1) E := by
  unfold xTup
  rw [wp_bind]
  simp only [wp_ite, wp_ok, wp_bad, ite_f]
theorem wp_fz (g : LA) : wp (xFz g δ S) QD E = wp (g δ S) (fun ds S1 => QD (.lst ds) S1) E := wp_bind _
theorem wp_cell (g : LA) : wp (xCell g δ S) QD E = wp (g δ S) (fun ds S1 => QD (.ref S1.length) (S1 ++ [some (.lst ds)])) E := wp_bind _
theorem wp_disp (g : LA) : wp (lDisp g δ S) QL E = wp (g δ S) (fun ds S1 => ds.length ≤ sizeLine ∧ QL ds S1) E := by
  unfold lDisp
  rw [wp_bind]
  simp only [wp_ite, wp_ok, wp_bad, ite_f]
theorem wp_yes : wp (yes δ S) QB E = QB true S := id rfl
theorem wp_call (n : Nat) (F : Fn) (dd : List D) (args : LA) : wp (xCall n F dd args δ S) QD E = wp (args δ S) (fun ds S1 => (ds ++ dd).length = n ∧ wp (F (ds ++ dd) S1) QD E) E := by
  unfold xCall
  rw [wp_bind]
  simp only [wp_ite, wp_bad, ite_f]
theorem wp_meth (c : Str) (n : Nat) (F : Fn) (dd : List D) (o : LE) (args : LA) : wp (xMeth c n F dd o args δ S) QD E = wp (o δ S) (fun d S1 => isIns c d S1 = true ∧ wp (args δ S1) (fun ds S2 => (d :: (ds ++ dd)).length = n ∧ wp (F (d :: (ds ++ dd)) S2) QD E) E) E := by
  unfold xMeth
  rw [wp_bind]
  simp only [wp_ite, wp_bad, ite_f, wp_bind]
theorem wp_B (f : Fn) (args : LA) : wp (xB f args δ S) QD E = wp (args δ S) (fun ds S1 => wp (f ds S1) QD E) E := wp_bind _
theorem wp_BM (q : D → Store → Bool) (f : Fm) (o : LE) (args : LA) : wp (xBM q f o args δ S) QD E = wp (o δ S) (fun d S1 => q d S1 = true ∧ wp (args δ S1) (fun ds S2 => wp (f d ds S2) QD E) E) E := by
  unfold xBM
  rw [wp_bind]
  simp only [wp_ite, wp_bad, ite_f, wp_bind]
theorem wp_fld (i : Nat) (f : Str) (g : LE) : wp (xFld i f g δ S) QD E = wp (g δ S) (fun d S1 => wp (fldOf i f d S1) QD E) E := wp_x1 _ _
theorem wp_sl (o : LE) (l h : LO) : wp (xSl o l h δ S) QD E = wp (o δ S) (fun d S1 => wp (l δ S1) (fun i S2 => wp (h δ S2) (fun j S3 => wp (sliceD d i j S3) QD E) E) E) E := by
  unfold xSl
  rw [wp_bind]
  simp only [wp_bind]
theorem wp_oN : wp (oNone δ S) QO E = QO none S := id rfl
theorem wp_oS (g : LE) : wp (oSome g δ S) QO E = wp (g δ S) (fun d S1 => match d with | .int i => QO (some i) S1 | _ => False) E := by
  unfold oSome
  rw [wp_bind]
  congr 1
  funext d S1
  cases d <;> rfl
theorem wp_iter (g : LE) : wp (xIter g δ S) QI E = wp (g δ S) (fun d S1 => wp (srcOf d S1) QI E) E := wp_bind _
theorem wp_rng1 (g : LA) : wp (xRng1 g δ S) QI E = wp (g δ S) (fun ds S1 => wp (srcRng1 ds S1) QI E) E := wp_bind _
theorem wp_rng2 (g : LA) : wp (xRng2 g δ S) QI E = wp (g δ S) (fun ds S1 => wp (srcRng2 ds S1) QI E) E := wp_bind _
theorem wp_src1 (j : Int) : wp (srcRng1 [.int j] S) QI E = ((-(2 ^ 62) ≤ j ∧ j < 2 ^ 62) ∧ QI (rngSrc 0 j) S) := by
  unfold srcRng1
  simp only [wp_ite, wp_bad, wp_ok, ite_f]
theorem wp_src2 (i j : Int) : wp (srcRng2 [.int i, .int j] S) QI E = ((-(2 ^ 62) ≤ i ∧ i < 2 ^ 62 ∧ -(2 ^ 62) ≤ j ∧ j < 2 ^ 62) ∧ QI (rngSrc i j) S) := by
  unfold srcRng2
  simp only [wp_ite, wp_bad, wp_ok, ite_f]
theorem wp_chain (f f' : F2) (a b c : LE) : wp (xChain f f' a b c δ S) QD E = wp (a δ S) (fun d S1 => wp (b δ S1) (fun e S2 => wp (f d e S2) (fun k S3 => match k with
  | .bl true => wp (c δ S3) (fun h S4 => wp (f' e h S4) QD E) E
  | .bl false => QD (.bl false) S3
  | _ => False) E) E) E := by
  unfold xChain
  simp only [wp_bind]
  congr 1; funext d S1; congr 1; funext e S2; congr 1; funext k S3
  cases k with
  | bl b => cases b <;> simp only [wp_bind, wp_ok]
  | _ => rfl
/-! operators by shapes -/
theorem wp_add_i (i j : Int) : wp (dAdd (.int i) (.int j) S) QD E = QD (.int (i + j)) S := id rfl
theorem wp_add_s (x y : Str) : wp (dAdd (.str x) (.str y) S) QD E = (x.length + y.length ≤ sizeLine ∧ QD (.str (x ++ y)) S) := by
  unfold dAdd
  simp only [wp_ite, wp_bad, wp_ok, ite_f]
theorem wp_add_l (x y : List D) : wp (dAdd (.lst x) (.lst y) S) QD E = (x.length + y.length ≤ sizeLine ∧ QD (.lst (x ++ y)) S) := by
  show wp (if x.length + y.length ≤ sizeLine then .ok (.lst (x ++ y), S) else .bad) QD E = _
  simp only [wp_ite, wp_bad, wp_ok, ite_f]
theorem wp_sub_i (i j : Int) : wp (dSub (.int i) (.int j) S) QD E = QD (.int (i - j)) S := id rfl
theorem wp_ic (C : Int → Int → Prop) (g : Int → Int → D) (i j : Int) : wp (dIC C g (.int i) (.int j) S) QD E = (C i j ∧ QD (g i j) S) := by
  unfold dIC
  simp only [wp_ite, wp_bad, wp_ok, ite_f]
theorem wp_mul (i j : Int) : wp (dMul (.int i) (.int j) S) QD E = (MulOk i j ∧ QD (.int (i * j)) S) := wp_ic _ _ _ _
theorem wp_fdiv (i j : Int) : wp (dFdiv (.int i) (.int j) S) QD E = (CDivW i j ∧ QD (.int (i / j)) S) := wp_ic _ _ _ _
theorem wp_mod (i j : Int) : wp (dMod (.int i) (.int j) S) QD E = (0 < j ∧ QD (.int (i % j)) S) := wp_ic _ _ _ _
theorem wp_pow (i j : Int) : wp (dPow (.int i) (.int j) S) QD E = (CPow i j ∧ QD (.int (i ^ j.toNat)) S) := wp_ic _ _ _ _
theorem wp_neg (i : Int) : wp (dNeg (.int i) S) QD E = QD (.int (-i)) S := id rfl
theorem wp_lt (i j : Int) : wp (dLt (.int i) (.int j) S) QD E = QD (.bl (decide (i < j))) S := id rfl
theorem wp_le (i j : Int) : wp (dLe (.int i) (.int j) S) QD E = QD (.bl (decide (i ≤ j))) S := id rfl
theorem wp_gt (i j : Int) : wp (dGt (.int i) (.int j) S) QD E = QD (.bl (decide (j < i))) S := id rfl
theorem wp_ge (i j : Int) : wp (dGe (.int i) (.int j) S) QD E = QD (.bl (decide (j ≤ i))) S := id rfl
theorem wp_eq_i (i j : Int) : wp (dEq (.int i) (.int j) S) QD E = QD (.bl (decide (i = j))) S := id rfl
theorem wp_ne_i (i j : Int) : wp (dNe (.int i) (.int j) S) QD E = QD (.bl (!decide (i = j))) S := id rfl
theorem wp_eq_s (i j : Str) : wp (dEq (.str i) (.str j) S) QD E = QD (.bl (decide (i = j))) S := id rfl
theorem wp_ne_s (i j : Str) : wp (dNe (.str i) (.str j) S) QD E = QD (.bl (!decide (i = j))) S := id rfl
theorem wp_isN_n : wp (dIsN .non S) QD E = QD (.bl true) S := id rfl
theorem wp_isN_i (i : Int) : wp (dIsN (.int i) S) QD E = QD (.bl false) S := id rfl
theorem wp_isN_s (i : Str) : wp (dIsN (.str i) S) QD E = QD (.bl false) S := id rfl
theorem wp_notN_n : wp (dNotN .non S) QD E = QD (.bl false) S := id rfl
theorem wp_notN_i (i : Int) : wp (dNotN (.int i) S) QD E = QD (.bl true) S := id rfl
theorem wp_notN_s (i : Str) : wp (dNotN (.str i) S) QD E = QD (.bl true) S := id rfl
theorem wp_isi_s (T : Ty) (x : Str) : wp (dIsi T (.str x) S) QD E = QD (.bl (Ty.sub .str T)) S := id rfl
theorem wp_isi_i (T : Ty) (x : Int) : wp (dIsi T (.int x) S) QD E = QD (.bl (Ty.sub .int T)) S := id rfl
theorem wp_isi_b (T : Ty) (x : Bool) : wp (dIsi T (.bl x) S) QD E = QD (.bl (Ty.sub .bl T)) S := id rfl
theorem wp_isi_n (T : Ty) : wp (dIsi T .non S) QD E = QD (.bl (Ty.sub .non T)) S := id rfl
theorem wp_len_s (z : Str) : wp (bLen [.str z] S) QD E = (z.length ≤ sizeLine ∧ QD (.int z.length) S) := by
  unfold bLen
  simp only [wp_ite, wp_bad, wp_ok, ite_f]
theorem wp_int_i (i : Int) : wp (bInt [.int i] S) QD E = QD (.int i) S := id rfl
def b2i (b : Bool) : Int := if b then 1 else 0
theorem b2i_t {c : Prop} [Decidable c] (h : c) : b2i (decide c) = 1 := by rw [decide_eq_true h]; rfl
theorem b2i_f {c : Prop} [Decidable c] (h : ¬c) : b2i (decide c) = 0 := by rw [decide_eq_false h]; rfl
theorem wp_int_b (b : Bool) : wp (bInt [.bl b] S) QD E = QD (.int (b2i b)) S := id rfl
theorem wp_max (i j : Int) : wp (bMax [.int i, .int j] S) QD E = QD (.int (if j > i then j else i)) S := id rfl
theorem wp_min (i j : Int) : wp (bMin [.int i, .int j] S) QD E = QD (.int (if j < i then j else i)) S := id rfl
theorem wp_i1 (C : Int → Prop) (g : Int → D) (i : Int) : wp (bI1 C g [.int i] S) QD E = (C i ∧ QD (g i) S) := by
  unfold bI1
  simp only [wp_ite, wp_bad, wp_ok, ite_f]
theorem wp_abs (i : Int) : wp (bAbs [.int i] S) QD E = QD (.int (if i < 0 then -i else i)) S := by
  unfold bAbs
  rw [wp_i1]
  simp
theorem wp_str (i : Int) : wp (bStrI [.int i] S) QD E = (i.natAbs.log2 < 1920 ∧ QD (.str (toString i)) S) := wp_i1 _ _ _
theorem wp_zfill (a : Str) (i : Int) : wp (mZfill (.str a) [.int i] S) QD E = (PadOk i = true ∧ QD (.str (Txt.zfill a i)) S) := by
  unfold mZfill mSI
  simp only [wp_ite, wp_bad, wp_ok, ite_f]
theorem wp_rev_l (xs : List D) : wp (dRev (.lst xs) S) QD E = QD (.lst xs.reverse) S := id rfl
theorem wp_ix_l (xs : List D) (i : Int) : wp (dIx (.lst xs) (.int i) S) QD E = ∃ x, atI xs i = some x ∧ QD x S := by
  show wp (match atI xs i with | some x => .ok (x, S) | none => .bad) QD E = _
  cases h : atI xs i <;> simp [wp]
theorem wp_ix_t (xs : List D) (i : Int) : wp (dIx (.tup xs) (.int i) S) QD E = ∃ x, atI xs i = some x ∧ QD x S := by
  show wp (match atI xs i with | some x => .ok (x, S) | none => .bad) QD E = _
  cases h : atI xs i <;> simp [wp]
theorem wp_ix_f (xs : List D) (i : Int) : wp (dIx (.fln xs) (.int i) S) QD E = ∃ x, atI xs i = some x ∧ QD x S := by
  show wp (match atI xs i with | some x => .ok (x, S) | none => .bad) QD E = _
  cases h : atI xs i <;> simp [wp]
theorem wp_ix_s (z : Str) (i : Int) : wp (dIx (.str z) (.int i) S) QD E = (z.length ≤ sizeLine ∧ ∃ c, atI z.cps.toList i = some c ∧ QD (.str ⟨#[c]⟩) S) := by
  unfold dIx
  dsimp only
  rw [wp_ite, wp_bad, ite_f]
  cases h : atI z.cps.toList i <;> simp [wp]
theorem wp_len_f (xs : List D) : wp (bLen [.fln xs] S) QD E = QD (.int xs.length) S := id rfl
theorem wp_len_l (xs : List D) : wp (bLen [.lst xs] S) QD E = QD (.int xs.length) S := id rfl
theorem wp_len_t (xs : List D) : wp (bLen [.tup xs] S) QD E = QD (.int xs.length) S := id rfl
end
section
variable {Q : Fl → Lc → Store → Prop} {E : XS} {S : Store} {δ : Lc} {QD : D → Store → Prop} {EQ : XQ} {QG : Lc → Store → Prop} {QL : List D → Store → Prop}
theorem ws_ok (f : Fl) : ws (.ok f δ S) Q E = Q f δ S := id rfl
theorem ws_bad : ws .bad Q E = False := id rfl
theorem ws_bindE {α : Type} (o : Oc (α × Store)) (f : α → Store → Os) : ws (bindE δ o f) Q E = wp o (fun a S1 => ws (f a S1) Q E) (fun c fs S1 => E c fs δ S1) := by cases o <;> rfl
theorem ws_ite (c : Prop) [Decidable c] (a b : Os) : ws (if c then a else b) Q E = if c then ws a Q E else ws b Q E := by split <;> rfl
theorem ws_imp {o : Os} {Q' : Fl → Lc → Store → Prop} {E' : XS} (h : ws o Q E) (hq : ∀ f δ S, Q f δ S → Q' f δ S) (he : ∀ c fs δ S, E c fs δ S → E' c fs δ S) : ws o Q' E' := by
  cases o with
  | ok f δ S => exact hq _ _ _ h
  | exc c fs δ S => exact he _ _ _ _ h
  | bad => exact h
theorem ws_nil : ws (sNil δ S) Q E = Q .nx δ S := id rfl
theorem ws_seq (a b : LS) : ws (sSeq a b δ S) Q E = ws (a δ S) (fun f δ1 S1 => match f with
  | .nx => ws (b δ1 S1) Q E
  | f => Q f δ1 S1) E := by
  unfold sSeq
  cases a δ S with
  | ok f δ1 S1 => cases f <;> rfl
  | exc c fs δ1 S1 => rfl
  | bad => rfl
theorem seq_cut {a b : LS} (M : Lc → Store → Prop) (h : ws (a δ S) (fun f δ1 S1 => match f with
  | .nx => M δ1 S1
  | f => Q f δ1 S1) E) (h2 : ∀ δ1 S1, M δ1 S1 → ws (b δ1 S1) Q E) : ws (sSeq a b δ S) Q E := by
  rw [ws_seq]
  refine ws_imp h (fun f δ1 S1 q => ?_) fun _ _ _ _ q => q
  cases f with
  | nx => exact h2 _ _ q
  | _ => exact q
theorem seq_for {it : LI} {tg : LG} {bd b : LS} : ws (sSeq (sFor it tg bd) b δ S) Q E = wp (it δ S) (fun src S1 => ws (forGo src.ok tg bd src.items δ S1) (fun f δ1 S1 => match f with
  | .nx => ws (b δ1 S1) Q E
  | f => Q f δ1 S1) E) (fun c fs S1 => E c fs δ S1) := by
  rw [ws_seq]
  exact ws_bindE _ _
theorem sq_set (i : Nat) (g : LE) (b : LS) : ws (sSeq (sSet i g) b δ S) Q E = wp (g δ S) (fun d S1 => wset i δ d fun δ' => ws (b δ' S1) Q E) (fun c fs S1 => E c fs δ S1) := by
  rw [ws_seq]
  exact ws_bindE _ _
theorem sq_nil (a : LS) : ws (sSeq a sNil δ S) Q E = ws (a δ S) Q E := by
  rw [ws_seq]
  cases a δ S with
  | ok f δ1 S1 => cases f <;> rfl
  | exc c fs δ1 S1 => rfl
  | bad => rfl
theorem ws_expr (g : LE) : ws (sExpr g δ S) Q E = wp (g δ S) (fun _ S1 => Q .nx δ S1) (fun c fs S1 => E c fs δ S1) := ws_bindE _ _
theorem ws_set (i : Nat) (g : LE) : ws (sSet i g δ S) Q E = wp (g δ S) (fun d S1 => wset i δ d fun δ' => Q .nx δ' S1) (fun c fs S1 => E c fs δ S1) := ws_bindE _ _
theorem ws_ret (g : LE) : ws (sRet g δ S) Q E = wp (g δ S) (fun d S1 => Q (.ret d) δ S1) (fun c fs S1 => E c fs δ S1) := ws_bindE _ _
theorem ws_retN : ws (sRetN δ S) Q E = Q (.ret .non) δ S := id rfl
theorem ws_brk : ws (sBrk δ S) Q E = Q .brk δ S := id rfl
theorem ws_cont : ws (sCont δ S) Q E = Q .cont δ S := id rfl
theorem ws_if (t : LT) (a b : LS) : ws (sIf t a b δ S) Q E = wp (t δ S) (fun c S1 => if c = true then ws (a δ S1) Q E else ws (b δ S1) Q E) (fun c fs S1 => E c fs δ S1) := by
  unfold sIf
  rw [ws_bindE]
  simp only [ws_ite]
theorem ws_for (it : LI) (tg : LG) (b : LS) : ws (sFor it tg b δ S) Q E = wp (it δ S) (fun src S1 => ws (forGo src.ok tg b src.items δ S1) Q E) (fun c fs S1 => E c fs δ S1) := ws_bindE _ _
theorem ws_asg (g : LE) (tg : LG) : ws (sAsg g tg δ S) Q E = wp (g δ S) (fun d S1 => wp (tg d δ S1) (fun δ1 S2 => Q .nx δ1 S2) NX) (fun c fs S1 => E c fs δ S1) := by
  unfold sAsg
  rw [ws_bindE]
  congr 1; funext d S1
  cases tg d δ S1 <;> rfl
theorem ws_aug (i : Nat) (f : F2) (g : LE) : ws (sAug i f g δ S) Q E = wp (xVar i δ S) (fun d S0 => wp (g δ S0) (fun e S1 => wp (f d e S1) (fun h S2 => wset i δ h fun δ' => Q .nx δ' S2) (fun c fs S1 => E c fs δ S1)) (fun c fs S1 => E c fs δ S1)) (fun c fs S1 => E c fs δ S1) := by
  unfold sAug xVar
  cases h : δ[i]? with
  | none => rfl
  | some o =>
    cases o with
    | none => rfl
    | some d =>
      dsimp only
      rw [ws_bindE, wp_ok]
      simp only [ws_bindE, ws_ok]
      rfl
theorem ws_raise0 (c : Str) : ws (sRaise0 c δ S) Q E = E c none δ S := id rfl
theorem ws_raise1 (c f : Str) (g : LE) : ws (sRaise1 c f g δ S) Q E = wp (g δ S) (fun d S1 => E c (some ([f], [d])) δ S1) (fun c fs S1 => E c fs δ S1) := ws_bindE _ _
theorem wp_body (m : Nat) (g : LS) (ds : List D) : wp (bodyD m g ds S) QD EQ = wini m ds fun δ => ws (g δ S) (fun f _ S1 => match f with
  | .ret d => QD d S1
  | .nx => QD .non S1
  | _ => False) (fun c fs _ S1 => EQ c fs S1) := by
  unfold bodyD wini
  dsimp only
  cases g (ds.map some ++ List.replicate (m - ds.length) none) S with
  | ok f δ1 S1 => cases f <;> rfl
  | exc c fs δ1 S1 => rfl
  | bad => rfl
theorem wp_gNm (i : Nat) (d : D) : wp (gNm i d δ S) QG EQ = wset i δ d fun δ' => QG δ' S := id rfl
theorem wp_gTp (n : Nat) (gs : LGs) (ds : List D) (h : ds.length = n) : wp (gTp n gs (.tup ds) δ S) QG EQ = wp (gs ds δ S) QG EQ := by
  unfold gTp
  simp only [h, if_true]
theorem wp_gNl : wp (gNl [] δ S) QG EQ = QG δ S := id rfl
theorem wp_gCn (g : LG) (gs : LGs) (d : D) (ds : List D) : wp (gCn g gs (d :: ds) δ S) QG EQ = wp (g d δ S) (fun δ1 S1 => wp (gs ds δ1 S1) QG EQ) EQ := by
  unfold gCn
  exact wp_bind _
/-! ### loops -/
/-- for: an invariant by place -/
theorem ws_forGo {ok : Store → Prop} {tg : LG} {b : LS} (I : Nat → Lc → Store → Prop) : ∀ (items : List D) (k : Nat) (δ : Lc) (S : Store), I k δ S →
    (∀ j δ S, I j δ S → ok S) →
    (∀ j x δ S, items[j]? = some x → I (k + j) δ S → wp (tg x δ S) (fun δ1 S1 => ws (b δ1 S1) (fun f δ2 S2 => match f with
      | .nx => I (k + j + 1) δ2 S2
      | .cont => I (k + j + 1) δ2 S2
      | .brk => Q .nx δ2 S2
      | .ret d => Q (.ret d) δ2 S2) E) NX) →
    (∀ δ S, I (k + items.length) δ S → Q .nx δ S) → ws (forGo ok tg b items δ S) Q E
  | [], k, δ, S, h0, hok, hs, hd => by
    unfold forGo
    rw [if_pos (hok k δ S h0)]
    exact hd δ S h0
  | x :: items, k, δ, S, h0, hok, hs, hd => by
    unfold forGo
    rw [if_pos (hok k δ S h0)]
    have z := hs 0 x δ S rfl h0
    cases e : tg x δ S with
    | bad => rw [e] at z; exact z.elim
    | exc c fs S1 => rw [e] at z; exact z.elim
    | ok p =>
      rw [e] at z
      obtain ⟨δ1, S1⟩ := p
      have z : ws (b δ1 S1) _ E := z
      dsimp only
      have rc := fun δ2 S2 (h : I (k + 1) δ2 S2) => ws_forGo I items (k + 1) δ2 S2 h hok (fun j y δ S hj hI => by
        have w := hs (j + 1) y δ S hj (by rw [show k + (j + 1) = k + 1 + j by omega]; exact hI)
        rw [show k + (j + 1) = k + 1 + j by omega] at w
        exact w) (fun δ S h => hd δ S (by rw [List.length_cons, show k + (items.length + 1) = k + 1 + items.length by omega]; exact h))
      cases e2 : b δ1 S1 with
      | bad => rw [e2] at z; exact z.elim
      | exc c fs δ2 S2 => rw [e2] at z; exact z
      | ok f δ2 S2 =>
        rw [e2] at z
        cases f with
        | nx => exact rc δ2 S2 z
        | cont => exact rc δ2 S2 z
        | brk => exact z
        | ret d => exact z
/-- for over range: the counter -/
theorem ws_rng {tg : LG} {b : LS} (lo hi : Int) (I : Int → Lc → Store → Prop) (h0 : I lo δ S)
    (hs : ∀ j δ S, lo ≤ j → j < hi → I j δ S → wp (tg (.int j) δ S) (fun δ1 S1 => ws (b δ1 S1) (fun f δ2 S2 => match f with
      | .nx => I (j + 1) δ2 S2
      | .cont => I (j + 1) δ2 S2
      | .brk => Q .nx δ2 S2
      | .ret d => Q (.ret d) δ2 S2) E) NX)
    (hd : ∀ δ S, I (if lo ≤ hi then hi else lo) δ S → Q .nx δ S) : ws (forGo (rngSrc lo hi).ok tg b (rngSrc lo hi).items δ S) Q E := by
  refine ws_forGo (fun k δ S => I (lo + k) δ S) _ 0 δ S (by simpa using h0) (fun _ _ _ _ => trivial) (fun j x δ S hx hI => ?_) (fun δ S h => hd δ S ?_)
  · unfold rngSrc at hx
    rw [List.getElem?_map] at hx
    cases e : (List.range (hi - lo).toNat)[j]? with
    | none => rw [e] at hx; cases hx
    | some j' =>
      rw [e] at hx
      have hj : j < (hi - lo).toNat := by
        have := (List.getElem?_eq_some_iff.mp e).1
        simpa using this
      have e2 : j' = j := by
        rw [List.getElem?_range hj] at e
        exact (Option.some.inj e).symm
      subst e2
      have e3 : D.int (lo + (j' : Int)) = x := Option.some.inj hx
      subst e3
      have z := hs (lo + j') δ S (by omega) (by omega) (by simpa using hI)
      refine wp_imp z (fun δ1 S1 w => ws_imp w (fun f δ2 S2 q => ?_) fun _ _ _ _ q => q) fun _ _ _ q => q
      cases f <;> first
        | exact q
        | (show I _ _ _; rw [show lo + ((0 + j' + 1 : Nat) : Int) = lo + (j' : Int) + 1 by omega]; exact q)
  · have e : lo + ((0 + (rngSrc lo hi).items.length : Nat) : Int) = (if lo ≤ hi then hi else lo) := by
      show lo + ((0 + ((List.range (hi - lo).toNat).map fun (i : Nat) => D.int (lo + i)).length : Nat) : Int) = _
      rw [List.length_map, List.length_range]
      split <;> omega
    rw [← e]
    exact h
theorem whGo_t {c : LT} {b : LS} {m : Nat} {S1 : Store} (e : c δ S = .ok (true, S1)) : whGo c b (m + 1) δ S = (match b δ S1 with
    | .ok .nx δ2 S2 => whGo c b m δ2 S2
    | .ok .cont δ2 S2 => whGo c b m δ2 S2
    | .ok .brk δ2 S2 => .ok .nx δ2 S2
    | o => o) := by
  show DL.bindE δ (c δ S) _ = _
  rw [e]
  rfl
/-- while: an invariant with a measure -/
theorem ws_wh {c : LT} {b : LS} (I : Nat → Lc → Store → Prop) : ∀ (n : Nat) (δ : Lc) (S : Store), I n δ S →
    (∀ n δ S, I n δ S → wp (c δ S) (fun k S1 => if k = true then ws (b δ S1) (fun f δ2 S2 => match f with
      | .nx => ∃ m, m < n ∧ I m δ2 S2
      | .cont => ∃ m, m < n ∧ I m δ2 S2
      | .brk => Q .nx δ2 S2
      | .ret d => Q (.ret d) δ2 S2) E else Q .nx δ S1) (fun c fs S1 => E c fs δ S1)) → ws (sWh c b δ S) Q E := by
  intro n δ S h0 hs
  have key : ∀ n δ S, I n δ S → ∃ m, whGo c b m δ S ≠ .bad ∧ ws (whGo c b m δ S) Q E := by
    intro n
    induction n using Nat.strongRecOn with
    | ind n ih =>
      intro δ S h
      have z := hs n δ S h
      cases e : c δ S with
      | bad => rw [e] at z; exact z.elim
      | exc cc fs S1 =>
        rw [e] at z
        exact ⟨1, by unfold whGo; rw [e]; exact Os.noConfusion, by unfold whGo; rw [e]; exact z⟩
      | ok p =>
        obtain ⟨k, S1⟩ := p
        rw [e, wp_ok] at z
        cases k with
        | false => exact ⟨1, by unfold whGo; rw [e]; exact Os.noConfusion, by unfold whGo; rw [e]; exact z⟩
        | true =>
          rw [if_pos rfl] at z
          cases e2 : b δ S1 with
          | bad => rw [e2] at z; exact z.elim
          | exc cc fs δ2 S2 =>
            rw [e2] at z
            have r : whGo c b 1 δ S = .exc cc fs δ2 S2 := by rw [whGo_t e, e2]
            exact ⟨1, by rw [r]; exact Os.noConfusion, by rw [r]; exact z⟩
          | ok f δ2 S2 =>
            rw [e2] at z
            cases f with
            | nx =>
              obtain ⟨m, hm, hI⟩ := z
              obtain ⟨j, h1, h2⟩ := ih m hm δ2 S2 hI
              have r : whGo c b (j + 1) δ S = whGo c b j δ2 S2 := by rw [whGo_t e, e2]
              exact ⟨j + 1, by rw [r]; exact h1, by rw [r]; exact h2⟩
            | cont =>
              obtain ⟨m, hm, hI⟩ := z
              obtain ⟨j, h1, h2⟩ := ih m hm δ2 S2 hI
              have r : whGo c b (j + 1) δ S = whGo c b j δ2 S2 := by rw [whGo_t e, e2]
              exact ⟨j + 1, by rw [r]; exact h1, by rw [r]; exact h2⟩
            | brk =>
              have r : whGo c b 1 δ S = .ok .nx δ2 S2 := by rw [whGo_t e, e2]
              exact ⟨1, by rw [r]; exact Os.noConfusion, by rw [r]; exact z⟩
            | ret d =>
              have r : whGo c b 1 δ S = .ok (.ret d) δ2 S2 := by rw [whGo_t e, e2]
              exact ⟨1, by rw [r]; exact Os.noConfusion, by rw [r]; exact z⟩
  obtain ⟨m, h1, h2⟩ := key n δ S h0
  rw [sWh_of rfl h1]
  exact h2
end
end DL
namespace DL
open PySem PySem.Spec L2
/-! ### try -/
section
variable {Q : Fl → Lc → Store → Prop} {E : XS} {S : Store} {δ : Lc} {QD : D → Store → Prop} {EQ : XQ}
theorem ws_tryAs (sel : Str → Option Bool) (i : Nat) (b : LS) (h : Addr → Option Addr → Str → LS) : ws (sTryAs sel i b h δ S) Q E = ws (b δ S) Q (fun c fs δ1 S1 =>
    (sel c = some true ∧ ws (allO fun a d => unE i (h a (dOf fs d) c (δ1.set i (some (exnD a d c fs))) S1)) Q E) ∨ (sel c = some false ∧ E c fs δ1 S1)) := by
  unfold sTryAs
  cases b δ S with
  | ok f δ1 S1 => rfl
  | bad => rfl
  | exc c fs δ1 S1 =>
    dsimp only
    cases h : sel c with
    | none => simp [ws, h]
    | some k => cases k <;> simp [ws, h]
theorem ws_tryO (sel : Str → Option Bool) (b h : LS) : ws (sTryO sel b h δ S) Q E = ws (b δ S) Q (fun c fs δ1 S1 =>
    (sel c = some true ∧ ws (h δ1 S1) Q (fun _ _ _ _ => False)) ∨ (sel c = some false ∧ E c fs δ1 S1)) := by
  unfold sTryO
  cases b δ S with
  | ok f δ1 S1 => rfl
  | bad => rfl
  | exc c fs δ1 S1 =>
    dsimp only
    cases hs : sel c with
    | none => simp [ws, hs]
    | some k =>
      cases k with
      | false => simp [ws, hs]
      | true =>
        simp only [ws, hs]
        cases h δ1 S1 <;> simp
/-- a handler that answers alike for all objects -/
theorem hd_all {i : Nat} {h : Addr → Option Addr → Os} (f0 : Fl) (δ0 : Lc) (S0 : Store) (h1 : ∀ a d, ws (h a d) (fun f δ' S' => f = f0 ∧ δ'.set i none = δ0 ∧ S' = S0) (fun _ _ _ _ => False)) (q : Q f0 δ0 S0) : ws (allO fun a d => unE i (h a d)) Q E := by
  have e : ∀ a d, unE i (h a d) = .ok f0 δ0 S0 := fun a d => by
    have z := h1 a d
    cases e : h a d with
    | ok f δ' S' =>
      rw [e] at z
      obtain ⟨z1, z2, z3⟩ := z
      subst z1 z3
      show Os.ok f (δ'.set i none) S' = _
      rw [z2]
    | exc c fs δ' S' => rw [e] at z; exact z.elim
    | bad => rw [e] at z; exact z.elim
  rw [allO_eq e]
  exact q
theorem isExn0 (a : Addr) (d : Option Addr) (c : Str) (ns : List Str) (ds : List D) : isExn 0 a d c (some (.exn a d c ns ds) :: δ) = some (ns, ds) := by
  unfold isExn
  simp
theorem isExnS (i : Nat) (a : Addr) (d : Option Addr) (c : Str) (o : Option D) : isExn (i + 1) a d c (o :: δ) = isExn i a d c δ := by
  unfold isExn
  rw [List.getElem?_cons_succ]
theorem wp_isX {i : Nat} {a : Addr} {d : Option Addr} {c : Str} {sel : Str → Option Bool} {ns : List Str} {ds : List D} (b : Bool) (h : isExn i a d c δ = some (ns, ds)) (hs : sel c = some b) (q : QD (.bl b) S) : wp (xIsX i a d c sel δ S) QD EQ := by
  unfold xIsX
  rw [h]
  dsimp only
  rw [hs]
  exact q
theorem wp_xf {i : Nat} {a : Addr} {d : Option Addr} {c f : Str} {ok : Str → Bool} {ns : List Str} {ds : List D} (y : D) (h : isExn i a d c δ = some (ns, ds)) (hl : (ns.zip ds).lookup f = some y) (hok : ok c = true) (q : QD y S) : wp (xXf i a d c f ok δ S) QD EQ := by
  unfold xXf
  rw [h]
  dsimp only
  rw [hl]
  dsimp only
  rw [if_pos hok]
  exact q
end
/-! ### all, any, sum, int of figures -/
section
variable {E : XQ} {S : Store} {QD : D → Store → Prop}
theorem wp_all_l (bs : List Bool) : wp (bAll [.lst (bs.map D.bl)] S) QD E = QD (.bl (bs.all id)) S := by
  unfold bAll bBs asL
  dsimp only
  rw [Option.bind_some, bls_map]
  rfl
theorem wp_any_l (bs : List Bool) : wp (bAny [.lst (bs.map D.bl)] S) QD E = QD (.bl (bs.any id)) S := by
  unfold bAny bBs asL
  dsimp only
  rw [Option.bind_some, bls_map]
  rfl
theorem wp_sum_l (bs : List Int) : wp (bSum [.lst (bs.map D.int)] S) QD E = QD (.int bs.sum) S := by
  unfold bSum asL
  dsimp only
  rw [Option.bind_some, nts_map]
  rfl
theorem wp_hex (z : Str) : wp (bIntHex [.str z, .int 16] S) QD E = (hexOk z.cps.toList = true ∧ QD (.int ((Hx.hexNum z.cps.toList : Nat) : Int)) S) := by
  unfold bIntHex
  by_cases h : hexOk z.cps.toList = true <;> simp [h, wp]
end
end DL
namespace DL
open PySem PySem.Spec L2
/-! ### dicts -/
section
variable {E : XQ} {S : Store} {δ : Lc} {QD : D → Store → Prop}
theorem wp_dnew : wp (xDnew δ S) QD E = QD (.ref S.length) (S ++ [some (.dct [] [])]) := id rfl
theorem wp_ddisp (ks : List Key) (g : LA) : wp (xDdisp ks g δ S) QD E = wp (g δ S) (fun ds S1 => (ds.length = ks.length ∧ ks.length ≤ 15 ∧ ks.Nodup) ∧ QD (.ref S1.length) (S1 ++ [some (.dct ks ds)])) E := by
  unfold xDdisp
  rw [wp_bind]
  simp only [wp_ite, wp_ok, wp_bad, ite_f]
theorem wp_dg2 (o e f : LE) : wp (xDg2 o e f δ S) QD E = wp (o δ S) (fun d S1 => isDct d S1 = true ∧ wp (e δ S1) (fun y S2 => wp (f δ S2) (fun z S3 => ∃ ks ds k, asDct d S3 = some (ks, ds) ∧ keyD y = some k ∧ QD ((dval ks ds k).getD z) S3) E) E) E := by
  unfold xDg2
  rw [wp_bind]
  simp only [wp_ite, wp_bad, ite_f, wp_bind]
  congr 1; funext d S1; congr 1; congr 1; funext y S2; congr 1; funext z S3
  cases h1 : asDct d S3 with
  | none => simp [wp]
  | some q =>
    obtain ⟨ks, ds⟩ := q
    cases h2 : keyD y with
    | none => simp [wp]
    | some k => exact propext ⟨fun h => ⟨ks, ds, k, rfl, rfl, h⟩, fun ⟨_, _, _, e1, e2, h⟩ => by cases e1; cases e2; exact h⟩
end
end DL
namespace DL
open PySem PySem.Spec L2
/-! ### cells -/
section
variable {E : XQ} {S : Store} {δ : Lc} {QD : D → Store → Prop}
theorem wp_pureD (F : Fn) (ds : List D) : wp (pureD F ds S) QD E = wp (F ds S) (fun d S' => (S'.take S.length = S ∧ noRef d = true) ∧ QD d S) (fun c fs S' => (S'.take S.length = S ∧ noRefX fs = true) ∧ E c fs S) := by
  unfold pureD
  cases F ds S with
  | ok p =>
    obtain ⟨d, S'⟩ := p
    dsimp only
    rw [wp_ite, wp_bad, ite_f]
    rfl
  | exc c fs S' =>
    dsimp only
    rw [wp_ite, wp_bad, ite_f]
    rfl
  | bad => rfl
theorem wp_append (n : Nat) (x : D) : wp (mAppend (.ref n) [x] S) QD E = ∃ xs, S[n]? = some (some (.lst xs)) ∧ xs.length < sizeLine ∧ QD .non (S.set n (some (.lst (xs ++ [x])))) := by
  unfold mAppend
  dsimp only
  cases h : S[n]? with
  | none => simp [wp]
  | some o =>
    cases o with
    | none => simp [wp]
    | some c =>
      cases c with
      | lst xs =>
        dsimp only
        rw [wp_ite, wp_bad, ite_f]
        refine propext ⟨fun ⟨h1, h2⟩ => ⟨xs, rfl, h1, h2⟩, fun ⟨ys, e, h1, h2⟩ => ?_⟩
        cases e
        exact ⟨h1, h2⟩
      | _ => simp [wp]
end
end DL
namespace DL
open PySem PySem.Spec L2
/-! ### objects, cells: by what the store tells -/
section
variable {E : XQ} {S : Store} {δ : Lc} {QD : D → Store → Prop} {QL : List D → Store → Prop} {Q : Fl → Lc → Store → Prop} {ES : XS} {QI : Src → Store → Prop}
theorem wp_mat {α β : Type} {QA : α → Store → Prop} (o : Option β) (f : β → Oc (α × Store)) : wp (match o with | some x => f x | none => .bad) QA E = (match o with | some x => wp (f x) QA E | none => False) := by cases o <;> rfl
theorem fldAt0 (f g : Str) (ns : List Str) (d : D) (ds : List D) : fldAt 0 f (g :: ns) (d :: ds) = if g = f then (match d with | .bot => none | d => some d) else none := by
  unfold fldAt
  simp only [List.getElem?_cons_zero, Option.some.injEq]
  split
  · cases d <;> rfl
  · rfl
theorem fldAtS (i : Nat) (f g : Str) (ns : List Str) (d : D) (ds : List D) : fldAt (i + 1) f (g :: ns) (d :: ds) = fldAt i f ns ds := by
  unfold fldAt
  simp only [List.getElem?_cons_succ]
theorem wp_fldI (i : Nat) (f c : Str) (ns : List Str) (ds : List D) : wp (fldOf i f (.ins c ns ds) S) QD E = (match fldAt i f ns ds with | some x => QD x S | none => False) := by
  unfold fldOf insOf
  dsimp only
  cases fldAt i f ns ds <;> rfl
theorem wp_fldR (i : Nat) (f : Str) (n : Nat) : wp (fldOf i f (.ref n) S) QD E = (match S[n]? with | some (some (.ins _ ns ds)) => (match fldAt i f ns ds with | some x => QD x S | none => False) | _ => False) := by
  unfold fldOf insOf
  dsimp only
  cases S[n]? with
  | none => rfl
  | some o =>
    cases o with
    | none => rfl
    | some c =>
      cases c with
      | ins c ns ds => dsimp only; cases fldAt i f ns ds <;> rfl
      | _ => rfl
def stW (i : Nat) (f : Str) (d y : D) (S : Store) (P : Store → Prop) : Prop := match d with
  | .ref n => (match S[n]? with
    | some (some (.ins c ns ds)) => (ns[i]? = some f ∧ isBot y = false ∧ i < ds.length) ∧ P (S.set n (some (.ins c ns (ds.set i y))))
    | _ => False)
  | _ => False
theorem wp_stR (i : Nat) (f : Str) (n : Nat) (y : D) (P : Store → Prop) : stW i f (.ref n) y S P = (match S[n]? with
    | some (some (.ins c ns ds)) => (ns[i]? = some f ∧ isBot y = false ∧ i < ds.length) ∧ P (S.set n (some (.ins c ns (ds.set i y))))
    | _ => False) := id rfl
theorem ws_fldD (i : Nat) (f : Str) (go ge : LE) : ws (sFldD i f go ge δ S) Q ES = wp (ge δ S) (fun y S1 => wp (go δ S1) (fun d S2 => stW i f d y S2 fun S3 => Q .nx δ S3) (fun c fs S2 => ES c fs δ S2)) (fun c fs S1 => ES c fs δ S1) := by
  unfold sFldD
  rw [ws_bindE]
  congr 1; funext y S1
  rw [ws_bindE]
  congr 1; funext d S2
  unfold stFld stW
  cases d with
  | ref n =>
    dsimp only
    cases S2[n]? with
    | none => rfl
    | some o =>
      cases o with
      | none => rfl
      | some c =>
        cases c with
        | ins c ns ds =>
          dsimp only
          cases h : ds[i]? with
          | none =>
            have : ¬ i < ds.length := fun hl => by rw [List.getElem?_eq_getElem hl] at h; cases h
            simp [ws, this]
          | some e =>
            have : i < ds.length := (List.getElem?_eq_some_iff.mp h).1
            by_cases hc : ns[i]? = some f ∧ isBot y = false
            · simp [hc, ws, this]
            · have : ¬ (ns[i]? = some f ∧ isBot y = false ∧ i < ds.length) := fun z => hc ⟨z.1, z.2.1⟩
              simp only [hc, if_false, this, false_and]
              rfl
        | _ => rfl
  | _ => rfl
theorem isIns_R (c : Str) (n : Nat) : isIns c (.ref n) S = (match S[n]? with | some (some (.ins c' _ _)) => decide (c' = c) | _ => false) := by
  unfold isIns insOf
  dsimp only
  cases S[n]? with
  | none => rfl
  | some o =>
    cases o with
    | none => rfl
    | some c => cases c <;> rfl
theorem isIns_I (c c' : Str) (ns : List Str) (ds : List D) : isIns c (.ins c' ns ds) S = decide (c' = c) := id rfl
theorem wp_make (c : Str) (ns : List Str) (n : Nat) (F : Fn) (dd : List D) (args : LA) : wp (xMake c ns n F dd args δ S) QD E = wp (args δ S) (fun ds S1 => (D.ref S1.length :: (ds ++ dd)).length = n ∧
    wp (F (.ref S1.length :: (ds ++ dd)) (S1 ++ [some (.ins c ns (bots ns))])) (fun d S2 => d = .non ∧ QD (.ref S1.length) S2) E) E := by
  unfold xMake
  rw [wp_bind]
  congr 1; funext ds S1
  rw [wp_ite, wp_bad, ite_f, wp_bind]
  congr 2; funext d S2
  cases d <;> simp [wp]
theorem wp_frz (g : LE) : wp (xFrz g δ S) QD E = wp (g δ S) (fun d S1 => wp (frz d S1) QD E) E := wp_bind _
theorem wp_frzR (n : Nat) : wp (frz (.ref n) S) QD E = (match S[n]? with | some (some (.lst ds)) => QD (.lst ds) (S.set n none) | some (some (.ins c ns ds)) => QD (.ins c ns ds) (S.set n none) | _ => False) := by
  unfold frz
  dsimp only
  cases S[n]? with
  | none => rfl
  | some o =>
    cases o with
    | none => rfl
    | some c => cases c <;> rfl
theorem wp_makeF (g : LE) : wp (xMakeF g δ S) QD E = wp (g δ S) (fun d S1 => wp (frz d S1) (fun d S' => (S'.take S.length = S ∧ noRef d = true) ∧ QD d S) (fun c fs S' => (S'.take S.length = S ∧ noRefX fs = true) ∧ E c fs S)) (fun c fs S' => (S'.take S.length = S ∧ noRefX fs = true) ∧ E c fs S) := by
  unfold xMakeF
  rw [wp_pureD]
  show wp (xFrz g δ S) _ _ = _
  rw [wp_frz]
theorem wp_isiR (T : Ty) (n : Nat) : wp (dIsi T (.ref n) S) QD E = (match S[n]? with | some (some (.lst _)) => QD (.bl (Ty.sub .lst T)) S | some (some (.dct _ _)) => QD (.bl (Ty.sub .dct T)) S | some (some (.ins _ _ _)) => QD (.bl false) S | _ => False) := by
  unfold dIsi tyOf
  dsimp only
  cases S[n]? with
  | none => rfl
  | some o =>
    cases o with
    | none => rfl
    | some c => cases c <;> rfl
theorem wp_isi_l (T : Ty) (ds : List D) : wp (dIsi T (.lst ds) S) QD E = QD (.bl (Ty.sub .lst T)) S := id rfl
theorem wp_isi_t (T : Ty) (ds : List D) : wp (dIsi T (.tup ds) S) QD E = QD (.bl (Ty.sub .tup T)) S := id rfl
theorem wp_isi_o (T : Ty) (c : Str) (ns : List Str) (ds : List D) : wp (dIsi T (.ins c ns ds) S) QD E = QD (.bl false) S := id rfl
theorem wp_isO_o (C c : Str) (ns : List Str) (ds : List D) : wp (dIsiO C (.ins c ns ds) S) QD E = (c = C ∧ QD (.bl true) S) := by
  unfold dIsiO tyOf isiO
  dsimp only
  by_cases h : c = C <;> simp [h, wp]
theorem wp_isO_i (C : Str) (i : Int) : wp (dIsiO C (.int i) S) QD E = QD (.bl false) S := id rfl
theorem wp_isO_l (C : Str) (i : List D) : wp (dIsiO C (.lst i) S) QD E = QD (.bl false) S := id rfl
theorem wp_isO_t (C : Str) (i : List D) : wp (dIsiO C (.tup i) S) QD E = QD (.bl false) S := id rfl
theorem wp_isO_s (C : Str) (i : Str) : wp (dIsiO C (.str i) S) QD E = QD (.bl false) S := id rfl
theorem wp_isO_b (C : Str) (i : Bool) : wp (dIsiO C (.bl i) S) QD E = QD (.bl false) S := id rfl
theorem wp_isO_n (C : Str) : wp (dIsiO C .non S) QD E = QD (.bl false) S := id rfl
theorem wp_isiT (Ts : List Ty) (d : D) : wp (dIsiT Ts d S) QD E = (match tyOf d S with | some t => QD (.bl (Ts.any fun T => isiB T t)) S | none => False) := by
  unfold dIsiT
  cases tyOf d S <;> rfl
theorem wp_isN_b (i : Bool) : wp (dIsN (.bl i) S) QD E = QD (.bl false) S := id rfl
theorem wp_isN_l (i : List D) : wp (dIsN (.lst i) S) QD E = QD (.bl false) S := id rfl
theorem wp_isN_t (i : List D) : wp (dIsN (.tup i) S) QD E = QD (.bl false) S := id rfl
theorem wp_isN_r (i : Nat) : wp (dIsN (.ref i) S) QD E = QD (.bl false) S := id rfl
theorem wp_isN_o (c : Str) (ns : List Str) (ds : List D) : wp (dIsN (.ins c ns ds) S) QD E = QD (.bl false) S := id rfl
theorem wp_notN_b (i : Bool) : wp (dNotN (.bl i) S) QD E = QD (.bl true) S := id rfl
theorem wp_notN_l (i : List D) : wp (dNotN (.lst i) S) QD E = QD (.bl true) S := id rfl
theorem wp_notN_t (i : List D) : wp (dNotN (.tup i) S) QD E = QD (.bl true) S := id rfl
theorem wp_notN_r (i : Nat) : wp (dNotN (.ref i) S) QD E = QD (.bl true) S := id rfl
theorem wp_notN_o (c : Str) (ns : List Str) (ds : List D) : wp (dNotN (.ins c ns ds) S) QD E = QD (.bl true) S := id rfl
theorem wp_eq_b (i j : Bool) : wp (dEq (.bl i) (.bl j) S) QD E = QD (.bl (decide (i = j))) S := id rfl
theorem wp_ne_b (i j : Bool) : wp (dNe (.bl i) (.bl j) S) QD E = QD (.bl (!decide (i = j))) S := id rfl
theorem wp_ixR (n : Nat) (i : Int) : wp (dIx (.ref n) (.int i) S) QD E = (match S[n]? with | some (some (.lst xs)) => (match atI xs i with | some x => QD x S | none => False) | _ => False) := by
  unfold dIx asS asL
  dsimp only
  cases S[n]? with
  | none => rfl
  | some o =>
    cases o with
    | none => rfl
    | some c =>
      cases c with
      | lst xs => dsimp only; cases atI xs i <;> rfl
      | _ => rfl
theorem wp_lenR (n : Nat) : wp (bLen [.ref n] S) QD E = (match S[n]? with | some (some (.lst xs)) => QD (.int xs.length) S | _ => False) := by
  unfold bLen asS asL
  dsimp only
  cases S[n]? with
  | none => rfl
  | some o =>
    cases o with
    | none => rfl
    | some c => cases c <;> rfl
theorem wp_srcR (n : Nat) : wp (srcOf (.ref n) S) QI E = (match S[n]? with | some (some (.lst xs)) => QI ⟨xs, fun S' => S'[n]? = some (some (.lst xs))⟩ S | _ => False) := by
  unfold srcOf
  dsimp only
  cases S[n]? with
  | none => rfl
  | some o =>
    cases o with
    | none => rfl
    | some c => cases c <;> rfl
theorem wp_mlst (g : List D → List D → Option (D × List D)) (n : Nat) (ds : List D) : wp (mLst g (.ref n) ds S) QD E = (match S[n]? with | some (some (.lst xs)) => (match g xs ds with | some p => QD p.1 (S.set n (some (.lst p.2))) | none => False) | _ => False) := by
  unfold mLst
  dsimp only
  cases S[n]? with
  | none => rfl
  | some o =>
    cases o with
    | none => rfl
    | some c =>
      cases c with
      | lst xs => dsimp only; cases g xs ds <;> rfl
      | _ => rfl
theorem wp_appR (n : Nat) (x : D) : wp (mAppend (.ref n) [x] S) QD E = (match S[n]? with | some (some (.lst xs)) => xs.length < sizeLine ∧ QD .non (S.set n (some (.lst (xs ++ [x])))) | _ => False) := by
  unfold mAppend
  dsimp only
  cases S[n]? with
  | none => rfl
  | some o =>
    cases o with
    | none => rfl
    | some c =>
      cases c with
      | lst xs => dsimp only; rw [wp_ite, wp_bad, ite_f]; rfl
      | _ => rfl
theorem isLst_R (n : Nat) : isLst (.ref n) S = (match S[n]? with | some (some (.lst _)) => true | _ => false) := by
  unfold isLst asL
  dsimp only
  cases S[n]? with
  | none => rfl
  | some o =>
    cases o with
    | none => rfl
    | some c => cases c <;> rfl
theorem wp_lsetW (go gi ge : LE) : ws (sLset go gi ge δ S) Q ES = wp (ge δ S) (fun y S1 => wp (go δ S1) (fun d S2 => wp (gi δ S2) (fun k S3 => match stLst d y k S3 with | some S4 => Q .nx δ S4 | none => False) (fun c fs S3 => ES c fs δ S3)) (fun c fs S2 => ES c fs δ S2)) (fun c fs S1 => ES c fs δ S1) := by
  unfold sLset
  rw [ws_bindE]
  congr 1; funext y S1
  rw [ws_bindE]
  congr 1; funext d S2
  rw [ws_bindE]
  congr 1; funext k S3
  cases stLst d y k S3 <;> rfl
theorem stLst_R (n : Nat) (y : D) (i : Int) : stLst (.ref n) y (.int i) S = (match S[n]? with | some (some (.lst ds)) => (match ixN ds.length i with | some j => some (S.set n (some (.lst (ds.set j y)))) | none => none) | _ => none) := by
  unfold stLst
  dsimp only
  cases S[n]? with
  | none => rfl
  | some o =>
    cases o with
    | none => rfl
    | some c => cases c <;> rfl
theorem wp_BN (f : List D → Store → Oc (List D × Store)) (args : LA) : wp (xBN f args δ S) QL E = wp (args δ S) (fun ds S1 => wp (f ds S1) QL E) E := wp_bind _
theorem wp_nList_l (xs : List D) : wp (nList [.lst xs] S) QL E = QL xs S := id rfl
theorem wp_nList_t (xs : List D) : wp (nList [.tup xs] S) QL E = QL xs S := id rfl
theorem wp_nListR (n : Nat) : wp (nList [.ref n] S) QL E = (match S[n]? with | some (some (.lst xs)) => QL xs S | _ => False) := by
  unfold nList asS asL
  dsimp only
  cases S[n]? with
  | none => rfl
  | some o =>
    cases o with
    | none => rfl
    | some c => cases c <;> rfl
theorem wp_nSorted_i (ns : List Int) : wp (nSorted [.lst (ns.map D.int)] S) QL E = QL ((sortI ns).map D.int) S := by
  unfold nSorted asL
  dsimp only
  rw [nts_map]
  rfl
theorem nts_prs (p : Int × Int) (ps : List (Int × Int)) : nts ((p :: ps).map prD) = none := id rfl
theorem prs_map (ps : List (Int × Int)) : prs (ps.map prD) = some ps := by
  induction ps with
  | nil => rfl
  | cons p ps ih =>
    show prs (.tup [.int p.1, .int p.2] :: ps.map prD) = _
    unfold prs
    rw [ih]
    rfl
theorem nSorted_p (ps : List (Int × Int)) : nSorted [.lst (ps.map prD)] S = .ok ((sortP ps).map prD, S) := by
  cases ps with
  | nil => rfl
  | cons p ps =>
    unfold nSorted asL
    dsimp only
    rw [nts_prs]
    dsimp only
    rw [prs_map]
theorem wp_nSorted_p (ps : List (Int × Int)) : wp (nSorted [.lst (ps.map prD)] S) QL E = QL ((sortP ps).map prD) S := by rw [nSorted_p]; rfl
end
end DL
namespace DL
open PySem PySem.Spec L2
section
variable {E : XQ} {S : Store} {δ : Lc} {QD : D → Store → Prop} {QI : Src → Store → Prop} {QG : Lc → Store → Prop}
theorem wp_enum (a : LA) : wp (xEnum a δ S) QI E = wp (a δ S) (fun ds S1 => wp (srcEnum0 ds S1) QI E) E := wp_bind _
theorem wp_enum0 (d : D) : wp (srcEnum0 [d] S) QI E = wp (srcEnum 0 d S) QI E := id rfl
theorem wp_enumS (a b : LA) : wp (xEnumS a b δ S) QI E = wp (a δ S) (fun ds S1 => wp (b δ S1) (fun zs S2 => wp (srcEnumS ds zs S2) QI E) E) E := by
  unfold xEnumS
  rw [wp_bind]
  simp only [wp_bind]
theorem wp_enmS (d : D) (c : Int) : wp (srcEnumS [d] [.int c] S) QI E = ((-(2 ^ 63) ≤ c ∧ c < 2 ^ 63) ∧ wp (srcEnum c d S) QI E) := by
  unfold srcEnumS
  rw [wp_ite, wp_bad, ite_f]
theorem wp_srcE_s (c : Int) (z : Str) : wp (srcEnum c (.str z) S) QI E = QI ⟨enumL c (signs z), fun _ => True⟩ S := id rfl
theorem wp_srcE_t (c : Int) (ds : List D) : wp (srcEnum c (.tup ds) S) QI E = QI ⟨enumL c ds, fun _ => True⟩ S := id rfl
theorem wp_srcE_l (c : Int) (ds : List D) : wp (srcEnum c (.lst ds) S) QI E = QI ⟨enumL c ds, fun _ => True⟩ S := id rfl
theorem wp_srcER (c : Int) (n : Nat) : wp (srcEnum c (.ref n) S) QI E = (match S[n]? with | some (some (.lst ds)) => QI ⟨enumL c ds, stays (.ref n) S⟩ S | _ => False) := by
  unfold srcEnum seqD asL
  dsimp only
  cases S[n]? with
  | none => rfl
  | some o =>
    cases o with
    | none => rfl
    | some c => cases c <;> rfl
theorem wp_BK (f : Fk) (a k : LA) : wp (xBK f a k δ S) QD E = wp (a δ S) (fun ds S1 => wp (k δ S1) (fun zs S2 => wp (f ds zs S2) QD E) E) E := by
  unfold xBK
  rw [wp_bind]
  simp only [wp_bind]
theorem wp_optD (f : Int → List Int → Int) (ns : List Int) (z : D) : wp (bOptD f [.lst (ns.map D.int)] [z] S) QD E = (match ns with | [] => QD z S | n :: ns => QD (.int (f n ns)) S) := by
  unfold bOptD asL
  simp only [Option.bind_some, nts_map]
  cases ns <;> rfl
theorem wp_sumS (ns : List Int) : wp (bSumS [.lst (ns.map D.int)] [.int 0] S) QD E = QD (.int ns.sum) S := by
  unfold bSumS asL
  simp only [Option.bind_some, nts_map]
  rfl
theorem wp_gUl_l (n : Nat) (gs : LGs) (ds : List D) (h : ds.length = n) : wp (gUl n gs (.lst ds) δ S) QG E = wp (gs ds δ S) QG E := by
  unfold gUl asL
  simp only [h, if_true]
theorem wp_gUlR (n : Nat) (gs : LGs) (m : Nat) : wp (gUl n gs (.ref m) δ S) QG E = (match S[m]? with | some (some (.lst ds)) => ds.length = n ∧ wp (gs ds δ S) QG E | _ => False) := by
  unfold gUl asL
  dsimp only
  cases S[m]? with
  | none => rfl
  | some o =>
    cases o with
    | none => rfl
    | some c =>
      cases c with
      | lst ds => dsimp only; rw [wp_ite, wp_bad, ite_f]
      | _ => rfl
theorem wp_gU3 (g1 g2 g3 : LG) (a b c : D) : wp (gUl 3 (gCn g1 (gCn g2 (gCn g3 gNl))) (.lst [a, b, c]) δ S) QG E = wp (g1 a δ S) (fun δ1 S1 => wp (g2 b δ1 S1) (fun δ1 S1 => wp (g3 c δ1 S1) QG E) E) E := by
  rw [wp_gUl_l 3 _ [a, b, c] rfl, wp_gCn]
  congr 1; funext δ1 S1
  rw [wp_gCn]
  congr 1; funext δ1 S1
  rw [wp_gCn]
  rfl
theorem wp_gU2 (g1 g2 : LG) (a b : D) : wp (gUl 2 (gCn g1 (gCn g2 gNl)) (.lst [a, b]) δ S) QG E = wp (g1 a δ S) (fun δ1 S1 => wp (g2 b δ1 S1) QG E) E := by
  rw [wp_gUl_l 2 _ [a, b] rfl, wp_gCn]
  congr 1; funext δ1 S1
  rw [wp_gCn]
  rfl
theorem wp_lenO (c : Str) (F : Fn) (go : LE) : wp (xLenO c F go δ S) QD E = wp (go δ S) (fun d S1 => isIns c d S1 = true ∧ wp (F [d] S1) (fun v S2 => match v with | .int n => (0 ≤ n ∧ n < 2 ^ 63) ∧ QD (.int n) S2 | _ => False) E) E := by
  unfold xLenO
  rw [wp_bind]
  congr 1; funext d S1
  rw [wp_ite, wp_bad, ite_f, wp_bind]
  congr 2; funext v S2
  cases v with
  | int n => dsimp only; rw [wp_ite, wp_bad, ite_f]; rfl
  | _ => rfl
theorem wp_tuple_t (ds : List D) : wp (bTuple [.tup ds] S) QD E = QD (.tup ds) S := id rfl
theorem wp_tuple_l (ds : List D) : wp (bTuple [.lst ds] S) QD E = QD (.tup ds) S := id rfl
theorem wp_tupleR (n : Nat) : wp (bTuple [.ref n] S) QD E = (match S[n]? with | some (some (.lst ds)) => QD (.tup ds) S | _ => False) := by
  unfold bTuple asL
  dsimp only
  cases S[n]? with
  | none => rfl
  | some o =>
    cases o with
    | none => rfl
    | some c => cases c <;> rfl
theorem wp_intAdd (i j : Int) : wp (dIntAdd (.int i) (.int j) S) QD E = QD (.int (i + j)) S := id rfl
end
end DL
namespace DL
open PySem PySem.Spec L2
section
variable {E : XQ} {S : Store} {QL : List D → Store → Prop}
theorem wp_nSortedT_t (ps : List (Int × Int)) : wp (nSortedT [.tup (ps.map prD)] S) QL E = QL ((sortP ps).map prD) S := by
  unfold nSortedT
  dsimp only
  rw [prs_map]
  rfl
theorem wp_nSortedT_l (ps : List (Int × Int)) : wp (nSortedT [.lst (ps.map prD)] S) QL E = QL ((sortP ps).map prD) S := by
  show wp (nSorted [.lst (ps.map prD)] S) QL E = _
  rw [wp_nSorted_p]
end
end DL
namespace DL
open PySem PySem.Spec L2
/-! ### dicts in the store -/
section
variable {E : XQ} {S : Store} {δ : Lc} {QD : D → Store → Prop} {Q : Fl → Lc → Store → Prop} {ES : XS}
theorem wp_dgetS (n : Nat) (x : Str) : wp (dDget (.ref n) (.str x) S) QD E = (match S[n]? with | some (some (.dct ks ds)) => (match dval ks ds (.inr x) with | some y => QD y S | none => False) | some (some (.fct ks ds)) => (match dval ks ds (.inr x) with | some y => QD y S | none => False) | _ => False) := by
  unfold dDget asDk
  dsimp only
  cases S[n]? with
  | none => rfl
  | some o =>
    cases o with
    | none => rfl
    | some c =>
      cases c with
      | dct ks ds => simp only [keyD]; cases dval ks ds (.inr x) <;> rfl
      | fct ks ds => simp only [keyD]; cases dval ks ds (.inr x) <;> rfl
      | _ => rfl
theorem wp_dgetI (n : Nat) (x : Int) : wp (dDget (.ref n) (.int x) S) QD E = (match S[n]? with | some (some (.dct ks ds)) => (match dval ks ds (.inl x) with | some y => QD y S | none => False) | some (some (.fct ks ds)) => (match dval ks ds (.inl x) with | some y => QD y S | none => False) | _ => False) := by
  unfold dDget asDk
  dsimp only
  cases S[n]? with
  | none => rfl
  | some o =>
    cases o with
    | none => rfl
    | some c =>
      cases c with
      | dct ks ds => simp only [keyD]; cases dval ks ds (.inl x) <;> rfl
      | fct ks ds => simp only [keyD]; cases dval ks ds (.inl x) <;> rfl
      | _ => rfl
theorem ws_dset (go gi ge : LE) : ws (sDset go gi ge δ S) Q ES = wp (ge δ S) (fun y S1 => wp (go δ S1) (fun d S2 => wp (gi δ S2) (fun k S3 => match stKey d y k S3 with | some S4 => Q .nx δ S4 | none => False) (fun c fs S3 => ES c fs δ S3)) (fun c fs S2 => ES c fs δ S2)) (fun c fs S1 => ES c fs δ S1) := by
  unfold sDset
  rw [ws_bindE]
  congr 1; funext y S1
  rw [ws_bindE]
  congr 1; funext d S2
  rw [ws_bindE]
  congr 1; funext k S3
  cases stKey d y k S3 <;> rfl
theorem stKey_S (n : Nat) (y : D) (x : Str) : stKey (.ref n) y (.str x) S = (match S[n]? with | some (some (.dct ks ds)) => if ks.length < sizeLine then some (S.set n (some (.dct (dputK ks ds (.inr x) y).1 (dputK ks ds (.inr x) y).2))) else none | _ => none) := by
  unfold stKey
  dsimp only
  cases S[n]? with
  | none => rfl
  | some o =>
    cases o with
    | none => rfl
    | some c => cases c <;> rfl
theorem stKey_I (n : Nat) (y : D) (x : Int) : stKey (.ref n) y (.int x) S = (match S[n]? with | some (some (.dct ks ds)) => if ks.length < sizeLine then some (S.set n (some (.dct (dputK ks ds (.inl x) y).1 (dputK ks ds (.inl x) y).2))) else none | _ => none) := by
  unfold stKey
  dsimp only
  cases S[n]? with
  | none => rfl
  | some o =>
    cases o with
    | none => rfl
    | some c => cases c <;> rfl
theorem dval_c (k k' : Key) (ks : List Key) (d : D) (ds : List D) : dval (k' :: ks) (d :: ds) k = if k' = k then some d else dval ks ds k := by
  rw [dval]
theorem dputV_c (k k' : Key) (ks : List Key) (d : D) (ds : List D) (y : D) : dputV (k' :: ks) (d :: ds) k y = (if k' = k then y else d) :: dputV ks ds k y := by
  rw [dputV]
theorem dputV_n (k : Key) (ds : List D) (y : D) : dputV [] ds k y = ds := by
  rw [dputV]
  intros _ _ _ _ h
  cases h
theorem dputK_at (k : Key) (ks : List Key) (ds : List D) (y : D) (h : memK ks k = true) : dputK ks ds k y = (ks, dputV ks ds k y) := by
  unfold dputK
  rw [if_pos h]
theorem memK_c (k k' : Key) (ks : List Key) : memK (k' :: ks) k = (decide (k' = k) || memK ks k) := id rfl
end
end DL
namespace DL
open PySem PySem.Spec L2
section
variable {S : Store}
theorem isDct_R (n : Nat) : isDct (.ref n) S = (match S[n]? with | some (some (.dct _ _)) => true | _ => false) := by
  unfold isDct asDct
  dsimp only
  cases S[n]? with
  | none => rfl
  | some o =>
    cases o with
    | none => rfl
    | some c => cases c <;> rfl
theorem asDct_R (n : Nat) : asDct (.ref n) S = (match S[n]? with | some (some (.dct ks ds)) => some (ks, ds) | _ => none) := by
  unfold asDct
  rfl
theorem keyD_I (i : Int) : keyD (.int i) = some (.inl i) := id rfl
theorem keyD_S (i : Str) : keyD (.str i) = some (.inr i) := id rfl
end
end DL
namespace DL
open PySem PySem.Spec L2
section
variable {E : XQ} {S : Store} {δ : Lc} {QL : List D → Store → Prop}
theorem asL_l (xs : List D) : asL (.lst xs) S = some xs := id rfl
theorem asL_R (n : Nat) : asL (.ref n) S = (match S[n]? with | some (some (.lst xs)) => some xs | _ => none) := by
  unfold asL
  rfl
theorem wp_nSl (o : LE) (l h : LO) : wp (nSl o l h δ S) QL E = wp (o δ S) (fun d S1 => wp (l δ S1) (fun i S2 => wp (h δ S2) (fun j S3 => match asL d S3 with | some xs => QL (cutD xs i j) S3 | none => False) E) E) E := by
  unfold nSl
  rw [wp_bind]
  simp only [wp_bind]
  congr 1; funext d S1; congr 1; funext i S2; congr 1; funext j S3
  cases asL d S3 <;> rfl
theorem wp_nRev (o : LE) : wp (nRev o δ S) QL E = wp (o δ S) (fun d S1 => match asL d S1 with | some xs => QL xs.reverse S1 | none => False) E := by
  unfold nRev
  rw [wp_bind]
  congr 1; funext d S1
  cases asL d S1 <;> rfl
end
end DL
namespace DL
open PySem PySem.Spec L2
theorem wp_mulS {E : XQ} {S : Store} {QD : D → Store → Prop} (z : Str) (k : Int) : wp (dMulS (.str z) (.int k) S) QD E = (MulSz z k ∧ QD (.str (Txt.mul z k)) S) := by
  show wp (if MulSz z k then (.ok (.str (Txt.mul z k), S) : Oc (D × Store)) else .bad) QD E = _
  rw [wp_ite, wp_bad, ite_f]
  rfl
end DL
namespace DL
open PySem PySem.Spec L2
theorem wp_kw {E : XQ} {S : Store} {δ : Lc} {QL : List D → Store → Prop} (np nk : Nat) (sel : List Nat) (dd : List D) (a b : LA) : wp (xKw np nk sel dd a b δ S) QL E = wp (a δ S) (fun ds S1 => wp (b δ S1) (fun zs S2 => (ds.length = np ∧ zs.length = nk) ∧ QL (pick sel (ds ++ zs ++ dd)) S2) E) E := by
  unfold xKw
  rw [wp_bind]
  simp only [wp_bind, wp_ite, wp_ok, wp_bad, ite_f]
theorem pick_n {α : Type} (xs : List α) : pick [] xs = [] := id rfl
theorem pick_c {α : Type} (i : Nat) (is : List Nat) (xs : List α) : pick (i :: is) xs = match xs[i]? with
    | some a => a :: pick is xs
    | none => pick is xs := by
  rw [pick]
  first | done | rfl
end DL
namespace DL
open PySem PySem.Spec L2
section
variable {α : Type} {E : XQ} {EX : XS} {S : Store} {δ : Lc} {Q : Fl → Lc → Store → Prop} {QG : Lc → Store → Prop}
theorem ws_par2 (i j : Nat) (g : LA) : ws (sPar2 i j g δ S) Q EX = wp (g δ S) (fun ds S1 => match ds with
    | [a, b] => wset i δ a fun δ1 => wset j δ1 b fun δ2 => Q .nx δ2 S1
    | _ => False) (fun c fs S1 => EX c fs δ S1) := by
  unfold sPar2
  rw [ws_bindE]
  congr 1; funext ds S1
  match ds with
  | [_, _] => rfl
  | [] => rfl
  | [_] => rfl
  | _ :: _ :: _ :: _ => rfl
theorem ws_par3 (i j l : Nat) (g : LA) : ws (sPar3 i j l g δ S) Q EX = wp (g δ S) (fun ds S1 => match ds with
    | [a, b, c] => wset i δ a fun δ1 => wset j δ1 b fun δ2 => wset l δ2 c fun δ3 => Q .nx δ3 S1
    | _ => False) (fun c fs S1 => EX c fs δ S1) := by
  unfold sPar3
  rw [ws_bindE]
  congr 1; funext ds S1
  match ds with
  | [_, _, _] => rfl
  | [] => rfl
  | [_] => rfl
  | [_, _] => rfl
  | _ :: _ :: _ :: _ :: _ => rfl
theorem ws_sGo (o : Oc (Lc × Store)) : ws (sGo o) Q EX = wp o (fun δ1 S1 => Q .nx δ1 S1) (fun _ _ _ => False) := by
  cases o <;> rfl
theorem ws_asg2 (g : LE) (t1 t2 : LG) : ws (sAsg2 g t1 t2 δ S) Q EX = wp (g δ S) (fun d S1 => wp (t1 d δ S1) (fun δ1 S2 => wp (t2 d δ1 S2) (fun δ2 S3 => Q .nx δ2 S3) NX) NX) (fun c fs S1 => EX c fs δ S1) := by
  unfold sAsg2
  rw [ws_bindE]
  simp only [ws_sGo, wp_bind]
theorem ws_asg3 (g : LE) (t1 t2 t3 : LG) : ws (sAsg3 g t1 t2 t3 δ S) Q EX = wp (g δ S) (fun d S1 => wp (t1 d δ S1) (fun δ1 S2 => wp (t2 d δ1 S2) (fun δ2 S3 => wp (t3 d δ2 S3) (fun δ3 S4 => Q .nx δ3 S4) NX) NX) NX) (fun c fs S1 => EX c fs δ S1) := by
  unfold sAsg3
  rw [ws_bindE]
  simp only [ws_sGo, wp_bind]
theorem wp_gDs (go gi : LE) (y : D) : wp (gDs go gi y δ S) QG E = wp (go δ S) (fun d S2 => wp (gi δ S2) (fun k S3 => match stKey d y k S3 with | some S4 => QG δ S4 | none => False) E) E := by
  unfold gDs
  rw [wp_bind]
  congr 1; funext d S2
  rw [wp_bind]
  congr 1; funext k S3
  cases stKey d y k S3 <;> rfl
theorem wp_gLs (go gi : LE) (y : D) : wp (gLs go gi y δ S) QG E = wp (go δ S) (fun d S2 => wp (gi δ S2) (fun k S3 => match stLst d y k S3 with | some S4 => QG δ S4 | none => False) E) E := by
  unfold gLs
  rw [wp_bind]
  congr 1; funext d S2
  rw [wp_bind]
  congr 1; funext k S3
  cases stLst d y k S3 <;> rfl
theorem starSrc_t (ds : List D) : starSrc true (.tup ds) S = some ds := id rfl
theorem starSrc_l (d : D) : starSrc false d S = asL d S := id rfl
theorem wp_gSt (tup : Bool) (n i : Nat) (gs : LGs) (d : D) : wp (gSt tup n i gs d δ S) QG E = (match starSrc tup d S with
    | some ds => (i < n ∧ n ≤ ds.length + 1 ∧ ds.length ≤ 16384) ∧ wp (gs (starOf ds n i (.lst ((ds.drop i).take (ds.length + 1 - n)))) δ S) QG E
    | none => False) := by
  unfold gSt
  cases starSrc tup d S with
  | none => rfl
  | some ds => dsimp only; rw [wp_ite, wp_bad, ite_f]
end
end DL
namespace DL
open PySem PySem.Spec L2
section
variable {E : XQ} {S : Store} {δ : Lc} {QD : D → Store → Prop} {QL : List D → Store → Prop}
theorem wp_nSortDR (n : Nat) : wp (nSortedD [.ref n] S) QL E = (match S[n]? with | some (some (.dct ks _)) => (match kInts ks with | some ns => ns.length ≤ 16777216 ∧ QL ((sortI ns).map D.int) S | none => False) | _ => False) := by
  unfold nSortedD
  dsimp only
  rw [asDct_R]
  cases S[n]? with
  | none => rfl
  | some o =>
    cases o with
    | none => rfl
    | some c =>
      cases c with
      | dct ks ds =>
        simp only [Option.bind_some]
        cases kInts ks with
        | none => rfl
        | some ns => dsimp only; rw [wp_ite, wp_bad, ite_f]; rfl
      | _ => rfl
theorem wp_dictCR (n : Nat) : wp (bDictC [.ref n] S) QD E = (match S[n]? with | some (some (.dct ks es)) => QD (.ref S.length) (S ++ [some (.dct ks es)]) | _ => False) := by
  unfold bDictC
  dsimp only
  rw [asDct_R]
  cases S[n]? with
  | none => rfl
  | some o =>
    cases o with
    | none => rfl
    | some c => cases c <;> rfl
theorem wp_pop1 (o e : LE) : wp (xPop1 o e δ S) QD E = wp (o δ S) (fun d S1 => isDct d S1 = true ∧ wp (e δ S1) (fun y S2 => match popK d y none S2 with | some q => QD q.1 q.2 | none => False) E) E := by
  unfold xPop1
  rw [wp_bind]
  congr 1; funext d S1
  rw [wp_ite, wp_bad, ite_f, wp_bind]
  congr 2; funext y S2
  cases popK d y none S2 <;> rfl
theorem wp_pop2 (o e f : LE) : wp (xPop2 o e f δ S) QD E = wp (o δ S) (fun d S1 => isDct d S1 = true ∧ wp (e δ S1) (fun y S2 => wp (f δ S2) (fun z S3 => match popK d y (some z) S3 with | some q => QD q.1 q.2 | none => False) E) E) E := by
  unfold xPop2
  rw [wp_bind]
  congr 1; funext d S1
  rw [wp_ite, wp_bad, ite_f, wp_bind]
  congr 2; funext y S2
  rw [wp_bind]
  congr 1; funext z S3
  cases popK d y (some z) S3 <;> rfl
theorem popK_I (n : Nat) (i : Int) (z : Option D) : popK (.ref n) (.int i) z S = (match S[n]? with
    | some (some (.dct ks ds)) => (match dval ks ds (.inl i), z with
      | some v, _ => some (v, S.set n (some (.dct (ddrop ks ds (.inl i)).1 (ddrop ks ds (.inl i)).2)))
      | none, some z => some (z, S)
      | none, none => none)
    | _ => none) := by
  unfold popK
  dsimp only
  cases S[n]? with
  | none => rfl
  | some o =>
    cases o with
    | none => rfl
    | some c => cases c <;> rfl
end
end DL
namespace DL
open PySem PySem.Spec L2
section
variable {E : XQ} {S : Store} {δ : Lc} {QD : D → Store → Prop} {Q : Fl → Lc → Store → Prop} {ES : XS} {QG : Lc → Store → Prop}
theorem stW_ok (i : Nat) (f : Str) (d y : D) (P : Store → Prop) : (match stFld i f [] d y S with | .ok (_, S3) => P S3 | _ => False) = stW i f d y S P := by
  unfold stFld stW
  cases d with
  | ref n =>
    dsimp only
    cases S[n]? with
    | none => rfl
    | some o =>
      cases o with
      | none => rfl
      | some c =>
        cases c with
        | ins c ns ds =>
          dsimp only
          cases h : ds[i]? with
          | none =>
            have : ¬ i < ds.length := fun hl => by rw [List.getElem?_eq_getElem hl] at h; cases h
            simp [this]
          | some e =>
            have : i < ds.length := (List.getElem?_eq_some_iff.mp h).1
            by_cases hc : ns[i]? = some f ∧ isBot y = false
            · simp [hc, this]
            · have : ¬ (ns[i]? = some f ∧ isBot y = false ∧ i < ds.length) := fun z => hc ⟨z.1, z.2.1⟩
              simp only [hc, if_false, this, false_and]
        | _ => rfl
  | _ => rfl
theorem wp_gFd (i : Nat) (f : Str) (go : LE) (y : D) : wp (gFd i f go y δ S) QG E = wp (go δ S) (fun d S2 => stW i f d y S2 fun S3 => QG δ S3) E := by
  unfold gFd
  rw [wp_bind]
  congr 1; funext d S2
  rw [← stW_ok]
  cases stFld i f [] d y S2 <;> rfl
theorem ws_faug (i : Nat) (f : Str) (g : F2) (go ge : LE) : ws (sFaug i f g go ge δ S) Q ES = wp (go δ S) (fun d S1 => wp (fldOf i f d S1) (fun v S2 => wp (ge δ S2) (fun y S3 => wp (g v y S3) (fun z S4 => clsD d S4 = clsD d S1 ∧ stW i f d z S4 fun S5 => Q .nx δ S5) (fun c fs S' => ES c fs δ S')) (fun c fs S' => ES c fs δ S')) (fun c fs S' => ES c fs δ S')) (fun c fs S' => ES c fs δ S') := by
  unfold sFaug
  rw [ws_bindE]
  congr 1; funext d S1
  rw [ws_bindE]
  congr 1; funext v S2
  rw [ws_bindE]
  congr 1; funext y S3
  rw [ws_bindE]
  congr 1; funext z S4
  rw [← stW_ok]
  by_cases h : clsD d S4 = clsD d S1
  · rw [if_pos h]
    cases stFld i f [] d z S4 with
    | ok q => exact propext ⟨fun x => ⟨h, x⟩, fun x => x.2⟩
    | exc c fs S' => exact propext ⟨fun x => ⟨h, x⟩, fun x => x.2⟩
    | bad => exact propext ⟨fun x => ⟨h, x⟩, fun x => x.2⟩
  · rw [if_neg h]
    exact propext ⟨fun x => x.elim, fun x => h x.1⟩
theorem wp_dinI (neg : Bool) (i : Int) (n : Nat) : wp (dDin neg (.int i) (.ref n) S) QD E = (match S[n]? with | some (some (.dct ks ds)) => QD (.bl (if neg then !(dval ks ds (.inl i)).isSome else (dval ks ds (.inl i)).isSome)) S | _ => False) := by
  unfold dDin
  rw [asDct_R]
  cases S[n]? with
  | none => rfl
  | some o =>
    cases o with
    | none => rfl
    | some c => cases c <;> rfl
theorem wp_dinS (neg : Bool) (i : Str) (n : Nat) : wp (dDin neg (.str i) (.ref n) S) QD E = (match S[n]? with | some (some (.dct ks ds)) => QD (.bl (if neg then !(dval ks ds (.inr i)).isSome else (dval ks ds (.inr i)).isSome)) S | _ => False) := by
  unfold dDin
  rw [asDct_R]
  cases S[n]? with
  | none => rfl
  | some o =>
    cases o with
    | none => rfl
    | some c => cases c <;> rfl
end
end DL
namespace DL
open PySem PySem.Spec L2
theorem wp_nListDR {E : XQ} {S : Store} {QL : List D → Store → Prop} (n : Nat) : wp (nListD [.ref n] S) QL E = (match S[n]? with | some (some (.dct ks _)) => QL (ks.map kD) S | _ => False) := by
  unfold nListD
  dsimp only
  rw [asDct_R]
  cases S[n]? with
  | none => rfl
  | some o =>
    cases o with
    | none => rfl
    | some c => cases c <;> rfl
end DL
namespace DL
open PySem PySem.Spec L2
section
variable {E : XQ} {S : Store} {δ : Lc} {QD : D → Store → Prop}
theorem wp_sumV (go : LE) : wp (xSumV go δ S) QD E = wp (go δ S) (fun d S1 => match (asDct d S1).bind fun q => nts q.2 with | some ns => QD (.int ns.sum) S1 | none => False) E := by
  unfold xSumV
  rw [wp_bind]
  congr 1; funext d S1
  cases ((asDct d S1).bind fun q => nts q.2) <;> rfl
theorem wp_upper (z : Str) : wp (mUpper (.str z) [] S) QD E = (z.length ≤ 5592405 ∧ QD (.str (Txt.upper z)) S) := by
  show wp (if z.length ≤ 5592405 then .ok (.str (Txt.upper z), S) else .bad) QD E = _
  rw [wp_ite, wp_bad, ite_f]; rfl
theorem wp_index (a b : Str) : wp (mIndex (.str a) [.str b] S) QD E = (match Builtin.Str.occurrences a b 0 a.length 1 with | i :: _ => QD (.int (i : Nat)) S | [] => False) := by
  unfold mIndex
  dsimp only
  cases Builtin.Str.occurrences a b 0 a.length 1 <;> rfl
theorem wp_part (a b : Str) : wp (mPart (.str a) [.str b] S) QD E = (((b.length == 0) = false ∧ a.length ≤ sizeLine) ∧ QD (.tup [.str (Txt.partition a b).1, .str (Txt.partition a b).2.1, .str (Txt.partition a b).2.2]) S) := by
  show wp (if (b.length == 0) = false ∧ a.length ≤ sizeLine then .ok (.tup [.str (Txt.partition a b).1, .str (Txt.partition a b).2.1, .str (Txt.partition a b).2.2], S) else .bad) QD E = _
  rw [wp_ite, wp_bad, ite_f]; rfl
theorem wp_split (a b : Str) : wp (mSplit (.str a) [.str b] S) QD E = (((b.length == 0) = false ∧ a.length + 2 ≤ sizeLine) ∧ QD (.lst ((Txt.split a b).map D.str)) S) := by
  show wp (if (b.length == 0) = false ∧ a.length + 2 ≤ sizeLine then .ok (.lst ((Txt.split a b).map D.str), S) else .bad) QD E = _
  rw [wp_ite, wp_bad, ite_f]; rfl
theorem wp_find3 (a b : Str) (i : Int) : wp (mFind3 (.str a) [.str b, .int i] S) QD E = QD (.int (Txt.find3 a b i)) S := id rfl
end
end DL
namespace DL
open PySem PySem.Spec L2
section
variable {E : XQ} {S : Store} {δ : Lc} {QI : Src → Store → Prop}
theorem wp_zip (a : LA) : wp (xZip a δ S) QI E = wp (a δ S) (fun ds S1 => wp (srcZip ds S1) QI E) E := wp_bind _
theorem wp_srcZ_l (xs ys : List D) : wp (srcZip [.lst xs, .lst ys] S) QI E = QI ⟨zipD xs ys, fun S' => asL (.lst xs) S' = some xs ∧ asL (.lst ys) S' = some ys⟩ S := id rfl
theorem wp_srcZ_t (xs ys : List D) : wp (srcZip [.tup xs, .tup ys] S) QI E = QI ⟨zipD xs ys, fun _ => True⟩ S := id rfl
theorem zipD_c (x y : D) (xs ys : List D) : zipD (x :: xs) (y :: ys) = .tup [x, y] :: zipD xs ys := id rfl
theorem zipD_n (ys : List D) : zipD [] ys = [] := id rfl
end
end DL
namespace DL
open PySem PySem.Spec L2
theorem wp_nRng2 {E : XQ} {S : Store} {QL : List D → Store → Prop} (i j : Int) : wp (nRng2 [.int i, .int j] S) QL E = ((-(2 ^ 62) ≤ i ∧ i < 2 ^ 62 ∧ -(2 ^ 62) ≤ j ∧ j < 2 ^ 62 ∧ (j - i).toNat ≤ 2 ^ 24) ∧ QL (rgnD i j) S) := by
  unfold nRng2
  dsimp only
  by_cases h : -(2 ^ 62) ≤ i ∧ i < 2 ^ 62 ∧ -(2 ^ 62) ≤ j ∧ j < 2 ^ 62 ∧ (j - i).toNat ≤ 2 ^ 24
  · rw [if_pos h]
    exact propext ⟨fun q => ⟨h, q⟩, fun q => q.2⟩
  · rw [if_neg h]
    exact propext ⟨fun q => q.elim, fun q => (h q.1).elim⟩
end DL
namespace DL
open PySem PySem.Spec L2
theorem wp_inP {E : XQ} {S : Store} {QD : D → Store → Prop} (neg : Bool) (ds : List D) (n : Nat) : wp (dInP neg (.tup ds) (.ref n) S) QD E = (match inP (.tup ds) (.ref n) S with | some b => QD (.bl (if neg then !b else b)) S | none => False) := by
  unfold dInP
  cases inP (.tup ds) (.ref n) S <;> rfl
end DL
namespace DL
open PySem PySem.Spec L2
theorem wp_nSt2 {δ : Lc} {E : XQ} {S : Store} {QL : List D → Store → Prop} (lo : Option Int) (o : LE) : wp (nSt2 lo o δ S) QL E = wp (o δ S) (fun d S1 => match asL d S1 with | some xs => QL (pick2 lo xs) S1 | none => False) E := by
  unfold nSt2
  rw [wp_bind]
  congr 1; funext d S1
  cases asL d S1 <;> rfl
end DL
namespace DL
open PySem PySem.Spec L2
theorem wp_maxL {E : XQ} {S : Store} {QD : D → Store → Prop} (xs : List D) : wp (bMaxL [.lst xs] S) QD E = (match nts xs with | some (n :: ns) => QD (.int (ns.foldl max n)) S | _ => False) := by
  show wp (match (some xs : Option (List D)).bind nts with
    | some (n :: ns) => .ok (.int (ns.foldl max n), S)
    | _ => (.bad : Oc (D × Store))) QD E = _
  rw [Option.bind_some]
  cases nts xs with
  | none => rfl
  | some l => cases l <;> rfl
theorem wp_minL {E : XQ} {S : Store} {QD : D → Store → Prop} (xs : List D) : wp (bMinL [.lst xs] S) QD E = (match nts xs with | some (n :: ns) => QD (.int (ns.foldl min n)) S | _ => False) := by
  show wp (match (some xs : Option (List D)).bind nts with
    | some (n :: ns) => .ok (.int (ns.foldl min n), S)
    | _ => (.bad : Oc (D × Store))) QD E = _
  rw [Option.bind_some]
  cases nts xs with
  | none => rfl
  | some l => cases l <;> rfl
end DL

set_option Elab.async false
set_option linter.all false
set_option maxRecDepth 100000
set_option maxHeartbeats 4000000
/-! What the laws' own small functions do, of all laws alike (own work). -/
namespace DL
open PySem PySem.Spec L2
theorem mulR {i j : Int} (h1 : -(2 ^ 64) < j) (h2 : j < 2 ^ 64) : MulOk i j := .inl (.inr ⟨h1, h2⟩)
theorem mulL {i j : Int} (h1 : -(2 ^ 64) < i) (h2 : i < 2 ^ 64) : MulOk i j := .inl (.inl ⟨h1, h2⟩)
theorem mulW {i j : Int} (h : i.natAbs.log2 + j.natAbs.log2 < 1000000) : MulOk i j := .inr h
/-! more of the calculus: loops over written lists, comprehensions -/
section
variable {E : XS} {S : Store} {δ : Lc} {EQ : XQ} {QL : List D → Store → Prop}
theorem ws_forN {Q : Fl → Lc → Store → Prop} (tg : LG) (b : LS) : ws (forGo (fun _ => True) tg b [] δ S) Q E = Q .nx δ S := by
  unfold forGo
  rw [if_pos trivial]
  rfl
theorem ws_forC {Q : Fl → Lc → Store → Prop} (tg : LG) (b : LS) (d : D) (ds : List D) (h : wp (tg d δ S) (fun δ1 S1 => ws (b δ1 S1) (fun f δ2 S2 => match f with
      | .nx => ws (forGo (fun _ => True) tg b ds δ2 S2) Q E
      | .cont => ws (forGo (fun _ => True) tg b ds δ2 S2) Q E
      | .brk => Q .nx δ2 S2
      | .ret d => Q (.ret d) δ2 S2) E) NX) : ws (forGo (fun _ => True) tg b (d :: ds) δ S) Q E := by
  unfold forGo
  rw [if_pos trivial]
  cases e : tg d δ S with
  | bad => rw [e] at h; exact h.elim
  | exc c fs S1 => rw [e] at h; exact h.elim
  | ok p =>
    rw [e] at h
    obtain ⟨δ1, S1⟩ := p
    have h : ws (b δ1 S1) _ E := h
    dsimp only
    cases e2 : b δ1 S1 with
    | bad => rw [e2] at h; exact h.elim
    | exc c fs δ2 S2 => rw [e2] at h; exact h
    | ok f δ2 S2 => rw [e2] at h; cases f <;> exact h
theorem wp_lcGo {ok : Store → Prop} {tg : LG} {tt : LT} {el : LE} (I : Nat → List D → Store → Prop) (hok : ∀ j acc S, I j acc S → ok S) : ∀ (items : List D) (k : Nat) (acc : List D) (S : Store), I k acc S →
    (∀ j x acc S, items[j]? = some x → I (k + j) acc S → wp (tg x δ S) (fun δ1 S1 => wp (tt δ1 S1) (fun b S2 => if b = true then wp (el δ1 S2) (fun y S3 => acc.length < sizeLine ∧ I (k + j + 1) (acc ++ [y]) S3) EQ else I (k + j + 1) acc S2) EQ) NX) →
    (∀ acc S, I (k + items.length) acc S → QL acc S) → wp (lcGo ok tg tt el δ items acc S) QL EQ
  | [], k, acc, S, h0, hs, hd => by
    unfold lcGo
    rw [if_pos (hok k acc S h0)]
    exact hd acc S h0
  | x :: items, k, acc, S, h0, hs, hd => by
    unfold lcGo
    rw [if_pos (hok k acc S h0)]
    have z := hs 0 x acc S rfl h0
    cases e : tg x δ S with
    | bad => rw [e] at z; exact z.elim
    | exc c fs S1 => rw [e] at z; exact z.elim
    | ok p =>
      rw [e] at z
      obtain ⟨δ1, S1⟩ := p
      rw [wp_ok] at z
      dsimp only
      rw [wp_bind]
      have rc := fun acc S2 (h : I (k + 1) acc S2) => wp_lcGo I hok items (k + 1) acc S2 h (fun j y acc S hj hI => by
        have w := hs (j + 1) y acc S hj (by rw [show k + (j + 1) = k + 1 + j by omega]; exact hI)
        rw [show k + (j + 1) = k + 1 + j by omega] at w
        exact w) (fun acc S h => hd acc S (by rw [List.length_cons, show k + (items.length + 1) = k + 1 + items.length by omega]; exact h))
      refine wp_imp z (fun b S2 w => ?_) fun _ _ _ q => q
      cases b with
      | false => exact rc acc S2 w
      | true =>
        rw [if_pos rfl] at w ⊢
        rw [wp_bind]
        refine wp_imp w (fun y S3 w => ?_) fun _ _ _ q => q
        rw [if_pos w.1]
        exact rc _ S3 w.2
theorem wp_noEx {α : Type} {o : Oc (α × Store)} {Q : α → Store → Prop} (h : wp o Q NX) : wp (noEx o) Q EQ := by
  cases o with
  | ok p => exact h
  | exc c fs S => exact h.elim
  | bad => exact h.elim
theorem wp_lc (vs : List Nat) (it : LI) (tg : LG) (tt : LT) (el : LE) : wp (lLc vs it tg tt el δ S) QL EQ = wp (it δ S) (fun src S1 => wp (noEx (lcGo src.ok tg tt el (wipeD δ vs) src.items [] S1)) QL EQ) EQ := wp_bind _
theorem rng_at {lo hi : Int} {j : Nat} {x : D} (h : (rngSrc lo hi).items[j]? = some x) : x = .int (lo + j) ∧ lo + j < hi := by
  unfold rngSrc at h
  rw [List.getElem?_map] at h
  cases e : (List.range (hi - lo).toNat)[j]? with
  | none => rw [e] at h; cases h
  | some j' =>
    rw [e] at h
    have hj : j < (hi - lo).toNat := by
      have := (List.getElem?_eq_some_iff.mp e).1
      simpa using this
    have e2 : j' = j := by
      rw [List.getElem?_range hj] at e
      exact (Option.some.inj e).symm
    subst e2
    exact ⟨(Option.some.inj h).symm, by omega⟩
theorem rng_len (lo hi : Int) : (rngSrc lo hi).items.length = (hi - lo).toNat := by
  unfold rngSrc
  rw [List.length_map, List.length_range]
/-- a comprehension over range, each thing by its own, nothing stored -/
theorem wp_lcR {lo hi : Int} {tg : LG} {tt : LT} {el : LE} (P : Int → D → Prop) (hl : hi - lo ≤ 16777216) (hs : ∀ j : Int, lo ≤ j → j < hi → wp (tg (.int j) δ S) (fun δ1 S1 => S1 = S ∧ wp (tt δ1 S) (fun b S2 => b = true ∧ S2 = S ∧ wp (el δ1 S) (fun y S3 => S3 = S ∧ P j y) EQ) EQ) NX)
    (hd : ∀ ys : List D, ys.length = (hi - lo).toNat → (∀ (j : Nat) y, ys[j]? = some y → P (lo + j) y) → QL ys S) : wp (lcGo (rngSrc lo hi).ok tg tt el δ (rngSrc lo hi).items [] S) QL EQ := by
  refine wp_lcGo (fun k acc S' => S' = S ∧ acc.length = k ∧ k ≤ (hi - lo).toNat ∧ ∀ (j : Nat) y, acc[j]? = some y → P (lo + j) y) (fun _ _ _ _ => trivial) _ 0 [] S ⟨rfl, rfl, Nat.zero_le _, fun j y h => (nomatch h)⟩ ?_ ?_
  · rintro j x acc S' hj ⟨rfl, hl2, hk, hA⟩
    obtain ⟨rfl, hlt⟩ := rng_at hj
    refine wp_imp (hs (lo + j) (by omega) hlt) (fun δ1 S1 w => ?_) fun _ _ _ q => q
    obtain ⟨rfl, w⟩ := w
    refine wp_imp w (fun b S2 w => ?_) fun _ _ _ q => q
    obtain ⟨rfl, rfl, w⟩ := w
    rw [if_pos rfl]
    refine wp_imp w (fun y S3 w => ?_) fun _ _ _ q => q
    obtain ⟨rfl, hP⟩ := w
    refine ⟨?_, rfl, by rw [List.length_append, hl2]; rfl, by omega, fun i z hz => ?_⟩
    · rw [hl2]; unfold sizeLine; omega
    · by_cases hi : i < acc.length
      · rw [List.getElem?_append_left hi] at hz
        exact hA i z hz
      · rw [List.getElem?_append_right (by omega)] at hz
        cases hq : i - acc.length with
        | succ m => rw [hq] at hz; simp at hz
        | zero =>
          rw [hq] at hz
          have e : y = z := by simpa using hz
          subst e
          have e2 : i = j := by omega
          subst e2
          exact hP
  · rintro acc S' ⟨rfl, hl2, hk, hA⟩
    rw [rng_len] at hl2
    exact hd acc (by omega) hA
theorem wp_srcT {QI : Src → Store → Prop} (ds : List D) : wp (srcOf (.tup ds) S) QI EQ = QI ⟨ds, fun _ => True⟩ S := id rfl
theorem wp_srcL {QI : Src → Store → Prop} (ds : List D) : wp (srcOf (.lst ds) S) QI EQ = QI ⟨ds, fun _ => True⟩ S := id rfl
theorem wp_tg2 {QG : Lc → Store → Prop} (g1 g2 : LG) (a b : D) : wp (gTp 2 (gCn g1 (gCn g2 gNl)) (.tup [a, b]) δ S) QG EQ = wp (g1 a δ S) (fun δ1 S1 => wp (g2 b δ1 S1) QG EQ) EQ := by
  rw [wp_gTp 2 _ [a, b] rfl, wp_gCn]
  congr 1; funext δ1 S1
  rw [wp_gCn]
  rfl
end
/-! ### _law_mix -/
noncomputable def mixM : LS := sSeq (sIf (tB (x2 dGe (xVar 0) (x2 dPow (xC (.int 10)) (xC (.int 18))))) (sSeq (sSet 2 (x2 dMod (xVar 0) (x2 dMul (x2 dMul (x2 dMul (x2 dMul (x2 dMul (x2 dPow (xC (.int 10)) (xC (.int 63))) (x2 dPow (xC (.int 10)) (xC (.int 63)))) (x2 dPow (xC (.int 10)) (xC (.int 63)))) (x2 dPow (xC (.int 10)) (xC (.int 63)))) (x2 dPow (xC (.int 10)) (xC (.int 63)))) (x2 dPow (xC (.int 10)) (xC (.int 51)))))) (sSeq (sFor (xRng1 (xCons (x2 dMod (xVar 1) (xC (.int 60))) (xNil))) (gNm 3) (sSet 2 (x2 dFdiv (xVar 2) (xC (.int 1000000))))) (sIf (tB (x2 dGt (xVar 2) (xC (.int 0)))) (sRet (x2 dMod (xVar 2) (xC (.int 1000000)))) (sNil)))) (sNil)) (sSeq (sSet 2 (x2 dMod (x2 dMul (x2 dAdd (xVar 0) (xC (.int 3))) (xC (.int 1181783497276652981))) (xC (.int 2305843009213693951)))) (sSeq (sSet 2 (x2 dMod (x2 dAdd (xVar 2) (x2 dMul (x2 dAdd (xVar 1) (xC (.int 1))) (xC (.int 614889782588491411)))) (xC (.int 2305843009213693951)))) (sSeq (sSet 2 (x2 dMod (x2 dMul (xVar 2) (xVar 2)) (xC (.int 999999999999999989)))) (sSeq (sSet 2 (x2 dMod (x2 dMul (x2 dAdd (xVar 2) (xC (.int 1))) (x2 dAdd (x2 dFdiv (xVar 2) (xC (.int 1000003))) (xC (.int 7)))) (xC (.int 2305843009213693951)))) (sRet (x2 dMod (x2 dFdiv (xVar 2) (xC (.int 7919))) (xC (.int 999983))))))))
noncomputable def mixF : Fn := bodyD 4 mixM
def divN (n : Int) : Nat → Int
  | 0 => n
  | m + 1 => divN n m / 1000000
def mix1 (a : Int) : Int := (a + 3) * 1181783497276652981 % 2305843009213693951
def mix2 (a k : Int) : Int := (mix1 a + (k + 1) * 614889782588491411) % 2305843009213693951
def mix3 (a k : Int) : Int := mix2 a k * mix2 a k % 999999999999999989
def mix4 (a k : Int) : Int := (mix3 a k + 1) * (mix3 a k / 1000003 + 7) % 2305843009213693951
def mixT (a k : Int) : Int := mix4 a k / 7919 % 999983
def mixB : Int := 10 ^ Int.toNat 63 * 10 ^ Int.toNat 63 * 10 ^ Int.toNat 63 * 10 ^ Int.toNat 63 * 10 ^ Int.toNat 63 * 10 ^ Int.toNat 51
def mixI (a k : Int) : Int := if 10 ^ Int.toNat 18 ≤ a ∧ 0 < divN (a % mixB) (k % 60).toNat then divN (a % mixB) (k % 60).toNat % 1000000 else mixT a k
theorem mixI_lo (a k : Int) : 0 ≤ mixI a k := by
  unfold mixI mixT
  split <;> omega
theorem mixI_hi (a k : Int) : mixI a k < 1000000 := by
  unfold mixI mixT
  split <;> omega
theorem mix_wp (a k : Int) (S : Store) : wp (mixF [.int a, .int k] S) (fun d S' => d = .int (mixI a k) ∧ S' = S) NX := by
  unfold mixF mixM
  simp only [↓wp_body, ↓wini0, ↓winiS, ↓winiC]
  refine seq_cut (fun δ1 S1 => S1 = S ∧ mixI a k = mixT a k ∧ ∃ x y, δ1 = [some (.int a), some (.int k), x, y]) ?_ ?_
  · simp only [↓wp_ok, ↓wp_exc, ↓wp_bad, ↓wp_var0, ↓wp_varN, ↓wp_varS, ↓wset0, ↓wsetS, ↓wini0, ↓winiS, ↓winiC, ↓wp_c, ↓wp_x1, ↓wp_x2, ↓wp_tB, ↓wp_tAnd, ↓wp_tOr, ↓wp_tNot, ↓wp_xAnd, ↓wp_xOr, ↓wp_xNot, ↓wp_xIf, ↓wp_nil, ↓wp_cons, ↓wp_tup, ↓wp_fz, ↓wp_cell, ↓wp_disp, ↓wp_yes, ↓wp_call, ↓wp_meth, ↓wp_B, ↓wp_BM, ↓wp_fld, ↓wp_sl, ↓wp_oN, ↓wp_oS, ↓wp_iter, ↓wp_rng1, ↓wp_rng2, ↓wp_src1, ↓wp_src2, ↓wp_chain, ↓wp_add_i, ↓wp_add_s, ↓wp_add_l, ↓wp_sub_i, ↓wp_mul, ↓wp_fdiv, ↓wp_mod, ↓wp_pow, ↓wp_neg, ↓wp_lt, ↓wp_le, ↓wp_gt, ↓wp_ge, ↓wp_eq_i, ↓wp_ne_i, ↓wp_eq_s, ↓wp_ne_s, ↓wp_isN_n, ↓wp_isN_i, ↓wp_isN_s, ↓wp_notN_n, ↓wp_notN_i, ↓wp_notN_s, ↓wp_isi_s, ↓wp_isi_i, ↓wp_isi_b, ↓wp_isi_n, ↓wp_len_s, ↓wp_int_i, ↓wp_int_b, ↓wp_max, ↓wp_min, ↓wp_abs, ↓wp_str, ↓wp_zfill, ↓wp_rev_l, ↓wp_ix_l, ↓wp_ix_t, ↓wp_ix_f, ↓wp_ix_s, ↓wp_len_f, ↓wp_len_l, ↓wp_len_t, ↓ws_ok, ↓ws_bad, ↓ws_nil, ↓ws_seq, ↓sq_set, ↓ws_expr, ↓ws_set, ↓ws_ret, ↓ws_retN, ↓ws_brk, ↓ws_cont, ↓ws_if, ↓ws_asg, ↓ws_aug, ↓ws_raise0, ↓ws_raise1, ↓wp_body, ↓wp_gNm, ↓wp_gNl, ↓wp_gCn, ↓ws_tryAs, ↓ws_tryO, ↓wp_all_l, ↓wp_any_l, ↓wp_sum_l, ↓wp_hex, ↓wp_dnew, ↓wp_ddisp, ↓wp_dg2, ↓fldAt0, ↓fldAtS, ↓wp_fldI, ↓wp_fldR, ↓wp_stR, ↓ws_fldD, ↓isIns_R, ↓isIns_I, ↓wp_make, ↓wp_frz, ↓wp_frzR, ↓wp_makeF, ↓wp_isiR, ↓wp_isi_l, ↓wp_isi_t, ↓wp_isi_o, ↓wp_isO_o, ↓wp_isO_i, ↓wp_isO_l, ↓wp_isO_t, ↓wp_isO_s, ↓wp_isO_b, ↓wp_isO_n, ↓wp_isN_b, ↓wp_isN_l, ↓wp_isN_t, ↓wp_isN_r, ↓wp_isN_o, ↓wp_notN_b, ↓wp_notN_l, ↓wp_notN_t, ↓wp_notN_r, ↓wp_notN_o, ↓wp_eq_b, ↓wp_ne_b, ↓wp_ixR, ↓wp_lenR, ↓wp_srcR, ↓wp_mlst, ↓wp_appR, ↓isLst_R, ↓wp_lsetW, ↓stLst_R, ↓wp_BN, ↓wp_nList_l, ↓wp_nList_t, ↓wp_nListR, ↓wp_enum, ↓wp_enum0, ↓wp_enumS, ↓wp_enmS, ↓wp_srcE_s, ↓wp_srcE_t, ↓wp_srcE_l, ↓wp_srcER, ↓wp_BK, ↓wp_gUlR, ↓wp_gU3, ↓wp_gU2, ↓wp_lenO, ↓wp_tuple_t, ↓wp_tuple_l, ↓wp_tupleR, ↓wp_intAdd, List.length_cons, List.length_nil, List.cons_append, List.nil_append, List.append_nil, Nat.reduceAdd, Nat.reduceSub, Nat.zero_add, decide_eq_true_eq, Bool.not_eq_true', decide_eq_false_iff_not, Bool.true_eq, Bool.not_true, Bool.not_false, if_true, reduceIte, Bool.false_eq_true, true_and, and_true, Nat.succ_eq_add_one]
    refine ⟨⟨by decide, by decide, by decide⟩, ?_⟩
    split
    · rename_i ha
      refine ⟨⟨by decide, by decide, by decide⟩, ⟨by decide, by decide, by decide⟩, mulW (by decide +kernel), ⟨by decide, by decide, by decide⟩, mulW (by decide +kernel), ⟨by decide, by decide, by decide⟩, mulW (by decide +kernel), ⟨by decide, by decide, by decide⟩, mulW (by decide +kernel), ⟨by decide, by decide, by decide⟩, mulW (by decide +kernel), by decide +kernel, ?_⟩
      rw [ws_for]
      simp only [↓wp_ok, ↓wp_exc, ↓wp_bad, ↓wp_var0, ↓wp_varN, ↓wp_varS, ↓wset0, ↓wsetS, ↓wini0, ↓winiS, ↓winiC, ↓wp_c, ↓wp_x1, ↓wp_x2, ↓wp_tB, ↓wp_tAnd, ↓wp_tOr, ↓wp_tNot, ↓wp_xAnd, ↓wp_xOr, ↓wp_xNot, ↓wp_xIf, ↓wp_nil, ↓wp_cons, ↓wp_tup, ↓wp_fz, ↓wp_cell, ↓wp_disp, ↓wp_yes, ↓wp_call, ↓wp_meth, ↓wp_B, ↓wp_BM, ↓wp_fld, ↓wp_sl, ↓wp_oN, ↓wp_oS, ↓wp_iter, ↓wp_rng1, ↓wp_rng2, ↓wp_src1, ↓wp_src2, ↓wp_chain, ↓wp_add_i, ↓wp_add_s, ↓wp_add_l, ↓wp_sub_i, ↓wp_mul, ↓wp_fdiv, ↓wp_mod, ↓wp_pow, ↓wp_neg, ↓wp_lt, ↓wp_le, ↓wp_gt, ↓wp_ge, ↓wp_eq_i, ↓wp_ne_i, ↓wp_eq_s, ↓wp_ne_s, ↓wp_isN_n, ↓wp_isN_i, ↓wp_isN_s, ↓wp_notN_n, ↓wp_notN_i, ↓wp_notN_s, ↓wp_isi_s, ↓wp_isi_i, ↓wp_isi_b, ↓wp_isi_n, ↓wp_len_s, ↓wp_int_i, ↓wp_int_b, ↓wp_max, ↓wp_min, ↓wp_abs, ↓wp_str, ↓wp_zfill, ↓wp_rev_l, ↓wp_ix_l, ↓wp_ix_t, ↓wp_ix_f, ↓wp_ix_s, ↓wp_len_f, ↓wp_len_l, ↓wp_len_t, ↓ws_ok, ↓ws_bad, ↓ws_nil, ↓ws_seq, ↓sq_set, ↓ws_expr, ↓ws_set, ↓ws_ret, ↓ws_retN, ↓ws_brk, ↓ws_cont, ↓ws_if, ↓ws_asg, ↓ws_aug, ↓ws_raise0, ↓ws_raise1, ↓wp_body, ↓wp_gNm, ↓wp_gNl, ↓wp_gCn, ↓ws_tryAs, ↓ws_tryO, ↓wp_all_l, ↓wp_any_l, ↓wp_sum_l, ↓wp_hex, ↓wp_dnew, ↓wp_ddisp, ↓wp_dg2, ↓fldAt0, ↓fldAtS, ↓wp_fldI, ↓wp_fldR, ↓wp_stR, ↓ws_fldD, ↓isIns_R, ↓isIns_I, ↓wp_make, ↓wp_frz, ↓wp_frzR, ↓wp_makeF, ↓wp_isiR, ↓wp_isi_l, ↓wp_isi_t, ↓wp_isi_o, ↓wp_isO_o, ↓wp_isO_i, ↓wp_isO_l, ↓wp_isO_t, ↓wp_isO_s, ↓wp_isO_b, ↓wp_isO_n, ↓wp_isN_b, ↓wp_isN_l, ↓wp_isN_t, ↓wp_isN_r, ↓wp_isN_o, ↓wp_notN_b, ↓wp_notN_l, ↓wp_notN_t, ↓wp_notN_r, ↓wp_notN_o, ↓wp_eq_b, ↓wp_ne_b, ↓wp_ixR, ↓wp_lenR, ↓wp_srcR, ↓wp_mlst, ↓wp_appR, ↓isLst_R, ↓wp_lsetW, ↓stLst_R, ↓wp_BN, ↓wp_nList_l, ↓wp_nList_t, ↓wp_nListR, ↓wp_enum, ↓wp_enum0, ↓wp_enumS, ↓wp_enmS, ↓wp_srcE_s, ↓wp_srcE_t, ↓wp_srcE_l, ↓wp_srcER, ↓wp_BK, ↓wp_gUlR, ↓wp_gU3, ↓wp_gU2, ↓wp_lenO, ↓wp_tuple_t, ↓wp_tuple_l, ↓wp_tupleR, ↓wp_intAdd, List.length_cons, List.length_nil, List.cons_append, List.nil_append, List.append_nil, Nat.reduceAdd, Nat.reduceSub, Nat.zero_add, decide_eq_true_eq, Bool.not_eq_true', decide_eq_false_iff_not, Bool.true_eq, Bool.not_true, Bool.not_false, if_true, reduceIte, Bool.false_eq_true, true_and, and_true, Nat.succ_eq_add_one]
      refine ⟨by decide, by omega, ?_⟩
      refine ws_rng 0 (k % 60) (fun j δ' S' => S' = S ∧ ∃ x, δ' = [some (.int a), some (.int k), some (.int (divN (a % mixB) j.toNat)), x]) ⟨rfl, _, rfl⟩ ?_ ?_
      · rintro j δ' S' h0 _ ⟨rfl, x, rfl⟩
        simp only [↓wp_ok, ↓wp_exc, ↓wp_bad, ↓wp_var0, ↓wp_varN, ↓wp_varS, ↓wset0, ↓wsetS, ↓wini0, ↓winiS, ↓winiC, ↓wp_c, ↓wp_x1, ↓wp_x2, ↓wp_tB, ↓wp_tAnd, ↓wp_tOr, ↓wp_tNot, ↓wp_xAnd, ↓wp_xOr, ↓wp_xNot, ↓wp_xIf, ↓wp_nil, ↓wp_cons, ↓wp_tup, ↓wp_fz, ↓wp_cell, ↓wp_disp, ↓wp_yes, ↓wp_call, ↓wp_meth, ↓wp_B, ↓wp_BM, ↓wp_fld, ↓wp_sl, ↓wp_oN, ↓wp_oS, ↓wp_iter, ↓wp_rng1, ↓wp_rng2, ↓wp_src1, ↓wp_src2, ↓wp_chain, ↓wp_add_i, ↓wp_add_s, ↓wp_add_l, ↓wp_sub_i, ↓wp_mul, ↓wp_fdiv, ↓wp_mod, ↓wp_pow, ↓wp_neg, ↓wp_lt, ↓wp_le, ↓wp_gt, ↓wp_ge, ↓wp_eq_i, ↓wp_ne_i, ↓wp_eq_s, ↓wp_ne_s, ↓wp_isN_n, ↓wp_isN_i, ↓wp_isN_s, ↓wp_notN_n, ↓wp_notN_i, ↓wp_notN_s, ↓wp_isi_s, ↓wp_isi_i, ↓wp_isi_b, ↓wp_isi_n, ↓wp_len_s, ↓wp_int_i, ↓wp_int_b, ↓wp_max, ↓wp_min, ↓wp_abs, ↓wp_str, ↓wp_zfill, ↓wp_rev_l, ↓wp_ix_l, ↓wp_ix_t, ↓wp_ix_f, ↓wp_ix_s, ↓wp_len_f, ↓wp_len_l, ↓wp_len_t, ↓ws_ok, ↓ws_bad, ↓ws_nil, ↓ws_seq, ↓sq_set, ↓ws_expr, ↓ws_set, ↓ws_ret, ↓ws_retN, ↓ws_brk, ↓ws_cont, ↓ws_if, ↓ws_asg, ↓ws_aug, ↓ws_raise0, ↓ws_raise1, ↓wp_body, ↓wp_gNm, ↓wp_gNl, ↓wp_gCn, ↓ws_tryAs, ↓ws_tryO, ↓wp_all_l, ↓wp_any_l, ↓wp_sum_l, ↓wp_hex, ↓wp_dnew, ↓wp_ddisp, ↓wp_dg2, ↓fldAt0, ↓fldAtS, ↓wp_fldI, ↓wp_fldR, ↓wp_stR, ↓ws_fldD, ↓isIns_R, ↓isIns_I, ↓wp_make, ↓wp_frz, ↓wp_frzR, ↓wp_makeF, ↓wp_isiR, ↓wp_isi_l, ↓wp_isi_t, ↓wp_isi_o, ↓wp_isO_o, ↓wp_isO_i, ↓wp_isO_l, ↓wp_isO_t, ↓wp_isO_s, ↓wp_isO_b, ↓wp_isO_n, ↓wp_isN_b, ↓wp_isN_l, ↓wp_isN_t, ↓wp_isN_r, ↓wp_isN_o, ↓wp_notN_b, ↓wp_notN_l, ↓wp_notN_t, ↓wp_notN_r, ↓wp_notN_o, ↓wp_eq_b, ↓wp_ne_b, ↓wp_ixR, ↓wp_lenR, ↓wp_srcR, ↓wp_mlst, ↓wp_appR, ↓isLst_R, ↓wp_lsetW, ↓stLst_R, ↓wp_BN, ↓wp_nList_l, ↓wp_nList_t, ↓wp_nListR, ↓wp_enum, ↓wp_enum0, ↓wp_enumS, ↓wp_enmS, ↓wp_srcE_s, ↓wp_srcE_t, ↓wp_srcE_l, ↓wp_srcER, ↓wp_BK, ↓wp_gUlR, ↓wp_gU3, ↓wp_gU2, ↓wp_lenO, ↓wp_tuple_t, ↓wp_tuple_l, ↓wp_tupleR, ↓wp_intAdd, List.length_cons, List.length_nil, List.cons_append, List.nil_append, List.append_nil, Nat.reduceAdd, Nat.reduceSub, Nat.zero_add, decide_eq_true_eq, Bool.not_eq_true', decide_eq_false_iff_not, Bool.true_eq, Bool.not_true, Bool.not_false, if_true, reduceIte, Bool.false_eq_true, true_and, and_true, Nat.succ_eq_add_one]
        refine ⟨⟨by decide, by decide +kernel⟩, some (.int j), ?_⟩
        rw [show (j + 1).toNat = j.toNat + 1 by omega]
        rfl
      · rw [if_pos (by omega)]
        rintro δ' S' ⟨rfl, x, rfl⟩
        simp only [↓wp_ok, ↓wp_exc, ↓wp_bad, ↓wp_var0, ↓wp_varN, ↓wp_varS, ↓wset0, ↓wsetS, ↓wini0, ↓winiS, ↓winiC, ↓wp_c, ↓wp_x1, ↓wp_x2, ↓wp_tB, ↓wp_tAnd, ↓wp_tOr, ↓wp_tNot, ↓wp_xAnd, ↓wp_xOr, ↓wp_xNot, ↓wp_xIf, ↓wp_nil, ↓wp_cons, ↓wp_tup, ↓wp_fz, ↓wp_cell, ↓wp_disp, ↓wp_yes, ↓wp_call, ↓wp_meth, ↓wp_B, ↓wp_BM, ↓wp_fld, ↓wp_sl, ↓wp_oN, ↓wp_oS, ↓wp_iter, ↓wp_rng1, ↓wp_rng2, ↓wp_src1, ↓wp_src2, ↓wp_chain, ↓wp_add_i, ↓wp_add_s, ↓wp_add_l, ↓wp_sub_i, ↓wp_mul, ↓wp_fdiv, ↓wp_mod, ↓wp_pow, ↓wp_neg, ↓wp_lt, ↓wp_le, ↓wp_gt, ↓wp_ge, ↓wp_eq_i, ↓wp_ne_i, ↓wp_eq_s, ↓wp_ne_s, ↓wp_isN_n, ↓wp_isN_i, ↓wp_isN_s, ↓wp_notN_n, ↓wp_notN_i, ↓wp_notN_s, ↓wp_isi_s, ↓wp_isi_i, ↓wp_isi_b, ↓wp_isi_n, ↓wp_len_s, ↓wp_int_i, ↓wp_int_b, ↓wp_max, ↓wp_min, ↓wp_abs, ↓wp_str, ↓wp_zfill, ↓wp_rev_l, ↓wp_ix_l, ↓wp_ix_t, ↓wp_ix_f, ↓wp_ix_s, ↓wp_len_f, ↓wp_len_l, ↓wp_len_t, ↓ws_ok, ↓ws_bad, ↓ws_nil, ↓ws_seq, ↓sq_set, ↓ws_expr, ↓ws_set, ↓ws_ret, ↓ws_retN, ↓ws_brk, ↓ws_cont, ↓ws_if, ↓ws_asg, ↓ws_aug, ↓ws_raise0, ↓ws_raise1, ↓wp_body, ↓wp_gNm, ↓wp_gNl, ↓wp_gCn, ↓ws_tryAs, ↓ws_tryO, ↓wp_all_l, ↓wp_any_l, ↓wp_sum_l, ↓wp_hex, ↓wp_dnew, ↓wp_ddisp, ↓wp_dg2, ↓fldAt0, ↓fldAtS, ↓wp_fldI, ↓wp_fldR, ↓wp_stR, ↓ws_fldD, ↓isIns_R, ↓isIns_I, ↓wp_make, ↓wp_frz, ↓wp_frzR, ↓wp_makeF, ↓wp_isiR, ↓wp_isi_l, ↓wp_isi_t, ↓wp_isi_o, ↓wp_isO_o, ↓wp_isO_i, ↓wp_isO_l, ↓wp_isO_t, ↓wp_isO_s, ↓wp_isO_b, ↓wp_isO_n, ↓wp_isN_b, ↓wp_isN_l, ↓wp_isN_t, ↓wp_isN_r, ↓wp_isN_o, ↓wp_notN_b, ↓wp_notN_l, ↓wp_notN_t, ↓wp_notN_r, ↓wp_notN_o, ↓wp_eq_b, ↓wp_ne_b, ↓wp_ixR, ↓wp_lenR, ↓wp_srcR, ↓wp_mlst, ↓wp_appR, ↓isLst_R, ↓wp_lsetW, ↓stLst_R, ↓wp_BN, ↓wp_nList_l, ↓wp_nList_t, ↓wp_nListR, ↓wp_enum, ↓wp_enum0, ↓wp_enumS, ↓wp_enmS, ↓wp_srcE_s, ↓wp_srcE_t, ↓wp_srcE_l, ↓wp_srcER, ↓wp_BK, ↓wp_gUlR, ↓wp_gU3, ↓wp_gU2, ↓wp_lenO, ↓wp_tuple_t, ↓wp_tuple_l, ↓wp_tupleR, ↓wp_intAdd, List.length_cons, List.length_nil, List.cons_append, List.nil_append, List.append_nil, Nat.reduceAdd, Nat.reduceSub, Nat.zero_add, decide_eq_true_eq, Bool.not_eq_true', decide_eq_false_iff_not, Bool.true_eq, Bool.not_true, Bool.not_false, if_true, reduceIte, Bool.false_eq_true, true_and, and_true, Nat.succ_eq_add_one]
        split
        · rename_i hp
          refine ⟨by decide, ?_⟩
          unfold mixI
          rw [if_pos ⟨ha, hp⟩]
        · rename_i hp
          refine ⟨?_, _, _, rfl⟩
          unfold mixI
          rw [if_neg (fun h => hp h.2)]
    · rename_i ha
      refine ⟨?_, _, _, rfl⟩
      unfold mixI
      rw [if_neg (fun h => ha h.1)]
  · rintro δ1 S1 ⟨rfl, e, x, y, rfl⟩
    rw [e]
    simp only [↓wp_ok, ↓wp_exc, ↓wp_bad, ↓wp_var0, ↓wp_varN, ↓wp_varS, ↓wset0, ↓wsetS, ↓wini0, ↓winiS, ↓winiC, ↓wp_c, ↓wp_x1, ↓wp_x2, ↓wp_tB, ↓wp_tAnd, ↓wp_tOr, ↓wp_tNot, ↓wp_xAnd, ↓wp_xOr, ↓wp_xNot, ↓wp_xIf, ↓wp_nil, ↓wp_cons, ↓wp_tup, ↓wp_fz, ↓wp_cell, ↓wp_disp, ↓wp_yes, ↓wp_call, ↓wp_meth, ↓wp_B, ↓wp_BM, ↓wp_fld, ↓wp_sl, ↓wp_oN, ↓wp_oS, ↓wp_iter, ↓wp_rng1, ↓wp_rng2, ↓wp_src1, ↓wp_src2, ↓wp_chain, ↓wp_add_i, ↓wp_add_s, ↓wp_add_l, ↓wp_sub_i, ↓wp_mul, ↓wp_fdiv, ↓wp_mod, ↓wp_pow, ↓wp_neg, ↓wp_lt, ↓wp_le, ↓wp_gt, ↓wp_ge, ↓wp_eq_i, ↓wp_ne_i, ↓wp_eq_s, ↓wp_ne_s, ↓wp_isN_n, ↓wp_isN_i, ↓wp_isN_s, ↓wp_notN_n, ↓wp_notN_i, ↓wp_notN_s, ↓wp_isi_s, ↓wp_isi_i, ↓wp_isi_b, ↓wp_isi_n, ↓wp_len_s, ↓wp_int_i, ↓wp_int_b, ↓wp_max, ↓wp_min, ↓wp_abs, ↓wp_str, ↓wp_zfill, ↓wp_rev_l, ↓wp_ix_l, ↓wp_ix_t, ↓wp_ix_f, ↓wp_ix_s, ↓wp_len_f, ↓wp_len_l, ↓wp_len_t, ↓ws_ok, ↓ws_bad, ↓ws_nil, ↓ws_seq, ↓sq_set, ↓ws_expr, ↓ws_set, ↓ws_ret, ↓ws_retN, ↓ws_brk, ↓ws_cont, ↓ws_if, ↓ws_asg, ↓ws_aug, ↓ws_raise0, ↓ws_raise1, ↓wp_body, ↓wp_gNm, ↓wp_gNl, ↓wp_gCn, ↓ws_tryAs, ↓ws_tryO, ↓wp_all_l, ↓wp_any_l, ↓wp_sum_l, ↓wp_hex, ↓wp_dnew, ↓wp_ddisp, ↓wp_dg2, ↓fldAt0, ↓fldAtS, ↓wp_fldI, ↓wp_fldR, ↓wp_stR, ↓ws_fldD, ↓isIns_R, ↓isIns_I, ↓wp_make, ↓wp_frz, ↓wp_frzR, ↓wp_makeF, ↓wp_isiR, ↓wp_isi_l, ↓wp_isi_t, ↓wp_isi_o, ↓wp_isO_o, ↓wp_isO_i, ↓wp_isO_l, ↓wp_isO_t, ↓wp_isO_s, ↓wp_isO_b, ↓wp_isO_n, ↓wp_isN_b, ↓wp_isN_l, ↓wp_isN_t, ↓wp_isN_r, ↓wp_isN_o, ↓wp_notN_b, ↓wp_notN_l, ↓wp_notN_t, ↓wp_notN_r, ↓wp_notN_o, ↓wp_eq_b, ↓wp_ne_b, ↓wp_ixR, ↓wp_lenR, ↓wp_srcR, ↓wp_mlst, ↓wp_appR, ↓isLst_R, ↓wp_lsetW, ↓stLst_R, ↓wp_BN, ↓wp_nList_l, ↓wp_nList_t, ↓wp_nListR, ↓wp_enum, ↓wp_enum0, ↓wp_enumS, ↓wp_enmS, ↓wp_srcE_s, ↓wp_srcE_t, ↓wp_srcE_l, ↓wp_srcER, ↓wp_BK, ↓wp_gUlR, ↓wp_gU3, ↓wp_gU2, ↓wp_lenO, ↓wp_tuple_t, ↓wp_tuple_l, ↓wp_tupleR, ↓wp_intAdd, List.length_cons, List.length_nil, List.cons_append, List.nil_append, List.append_nil, Nat.reduceAdd, Nat.reduceSub, Nat.zero_add, decide_eq_true_eq, Bool.not_eq_true', decide_eq_false_iff_not, Bool.true_eq, Bool.not_true, Bool.not_false, if_true, reduceIte, Bool.false_eq_true, true_and, and_true, Nat.succ_eq_add_one]
    exact ⟨mulR (by decide) (by decide), by decide, mulR (by decide) (by decide), by decide, mulL (by omega) (by omega), by decide, ⟨by decide, by decide +kernel⟩, mulL (by omega) (by omega), by decide, ⟨by decide, by decide +kernel⟩, by decide, rfl⟩
theorem mix_eq (a k : Int) (S : Store) : mixF [.int a, .int k] S = .ok (.int (mixI a k), S) := wp_eq (mix_wp a k S)
theorem wp_mix {QD : D → Store → Prop} {E : XQ} (a k : Int) (S : Store) : wp (mixF [.int a, .int k] S) QD E = QD (.int (mixI a k)) S := by rw [mix_eq]; rfl
/-! ### _law_cell -/
noncomputable def cellM : LS := sSeq (sIf (tB (x2 dLt (xVar 1) (xB bLen (xCons (xVar 0) (xNil))))) (sRet (x2 dIx (xVar 0) (xVar 1))) (sNil)) (sRet (x2 dAdd (xC (.int 1001)) (x2 dMul (xC (.int 4)) (xVar 1))))
noncomputable def cellF : Fn := bodyD 2 cellM
def cellI (ns : List Int) (k : Int) : Int := if k < ns.length then ns.getD k.toNat 0 else 1001 + 4 * k
theorem cell_eq (ns : List Int) (k : Int) (h : 0 ≤ k) (S : Store) : cellF [.fln (ns.map D.int), .int k] S = .ok (.int (cellI ns k), S) := by
  refine wp_eq ?_
  unfold cellF cellM
  simp only [↓wp_ok, ↓wp_exc, ↓wp_bad, ↓wp_var0, ↓wp_varN, ↓wp_varS, ↓wset0, ↓wsetS, ↓wini0, ↓winiS, ↓winiC, ↓wp_c, ↓wp_x1, ↓wp_x2, ↓wp_tB, ↓wp_tAnd, ↓wp_tOr, ↓wp_tNot, ↓wp_xAnd, ↓wp_xOr, ↓wp_xNot, ↓wp_xIf, ↓wp_nil, ↓wp_cons, ↓wp_tup, ↓wp_fz, ↓wp_cell, ↓wp_disp, ↓wp_yes, ↓wp_call, ↓wp_meth, ↓wp_B, ↓wp_BM, ↓wp_fld, ↓wp_sl, ↓wp_oN, ↓wp_oS, ↓wp_iter, ↓wp_rng1, ↓wp_rng2, ↓wp_src1, ↓wp_src2, ↓wp_chain, ↓wp_add_i, ↓wp_add_s, ↓wp_add_l, ↓wp_sub_i, ↓wp_mul, ↓wp_fdiv, ↓wp_mod, ↓wp_pow, ↓wp_neg, ↓wp_lt, ↓wp_le, ↓wp_gt, ↓wp_ge, ↓wp_eq_i, ↓wp_ne_i, ↓wp_eq_s, ↓wp_ne_s, ↓wp_isN_n, ↓wp_isN_i, ↓wp_isN_s, ↓wp_notN_n, ↓wp_notN_i, ↓wp_notN_s, ↓wp_isi_s, ↓wp_isi_i, ↓wp_isi_b, ↓wp_isi_n, ↓wp_len_s, ↓wp_int_i, ↓wp_int_b, ↓wp_max, ↓wp_min, ↓wp_abs, ↓wp_str, ↓wp_zfill, ↓wp_rev_l, ↓wp_ix_l, ↓wp_ix_t, ↓wp_ix_f, ↓wp_ix_s, ↓wp_len_f, ↓wp_len_l, ↓wp_len_t, ↓ws_ok, ↓ws_bad, ↓ws_nil, ↓ws_seq, ↓sq_set, ↓ws_expr, ↓ws_set, ↓ws_ret, ↓ws_retN, ↓ws_brk, ↓ws_cont, ↓ws_if, ↓ws_asg, ↓ws_aug, ↓ws_raise0, ↓ws_raise1, ↓wp_body, ↓wp_gNm, ↓wp_gNl, ↓wp_gCn, ↓ws_tryAs, ↓ws_tryO, ↓wp_all_l, ↓wp_any_l, ↓wp_sum_l, ↓wp_hex, ↓wp_dnew, ↓wp_ddisp, ↓wp_dg2, ↓fldAt0, ↓fldAtS, ↓wp_fldI, ↓wp_fldR, ↓wp_stR, ↓ws_fldD, ↓isIns_R, ↓isIns_I, ↓wp_make, ↓wp_frz, ↓wp_frzR, ↓wp_makeF, ↓wp_isiR, ↓wp_isi_l, ↓wp_isi_t, ↓wp_isi_o, ↓wp_isO_o, ↓wp_isO_i, ↓wp_isO_l, ↓wp_isO_t, ↓wp_isO_s, ↓wp_isO_b, ↓wp_isO_n, ↓wp_isN_b, ↓wp_isN_l, ↓wp_isN_t, ↓wp_isN_r, ↓wp_isN_o, ↓wp_notN_b, ↓wp_notN_l, ↓wp_notN_t, ↓wp_notN_r, ↓wp_notN_o, ↓wp_eq_b, ↓wp_ne_b, ↓wp_ixR, ↓wp_lenR, ↓wp_srcR, ↓wp_mlst, ↓wp_appR, ↓isLst_R, ↓wp_lsetW, ↓stLst_R, ↓wp_BN, ↓wp_nList_l, ↓wp_nList_t, ↓wp_nListR, ↓wp_enum, ↓wp_enum0, ↓wp_enumS, ↓wp_enmS, ↓wp_srcE_s, ↓wp_srcE_t, ↓wp_srcE_l, ↓wp_srcER, ↓wp_BK, ↓wp_gUlR, ↓wp_gU3, ↓wp_gU2, ↓wp_lenO, ↓wp_tuple_t, ↓wp_tuple_l, ↓wp_tupleR, ↓wp_intAdd, List.length_cons, List.length_nil, List.cons_append, List.nil_append, List.append_nil, Nat.reduceAdd, Nat.reduceSub, Nat.zero_add, decide_eq_true_eq, Bool.not_eq_true', decide_eq_false_iff_not, Bool.true_eq, Bool.not_true, Bool.not_false, if_true, reduceIte, Bool.false_eq_true, true_and, and_true, Nat.succ_eq_add_one]
  rw [List.length_map]
  unfold cellI
  by_cases hk : k < ns.length
  · rw [if_pos hk, if_pos hk]
    have hlt : k.toNat < ns.length := by omega
    refine ⟨.int (ns.getD k.toNat 0), ?_, rfl⟩
    unfold atI ixN
    rw [List.length_map, if_pos h, if_pos hk]
    show (ns.map D.int)[k.toNat]? = _
    rw [List.getElem?_map, List.getElem?_eq_getElem hlt]
    simp [List.getD, List.getElem?_eq_getElem hlt]
  · rw [if_neg hk, if_neg hk]
    exact ⟨mulL (by decide) (by decide), rfl⟩
theorem wp_cellF {QD : D → Store → Prop} {E : XQ} (ns : List Int) (k : Int) (S : Store) (h : 0 ≤ k) (q : QD (.int (cellI ns k)) S) : wp (cellF [.fln (ns.map D.int), .int k] S) QD E := by rw [cell_eq ns k h]; exact q
end DL
namespace DL
open PySem PySem.Spec L2
section
variable {S : Store} {δ : Lc} {EQ : XQ} {QL : List D → Store → Prop} {QD : D → Store → Prop}
/-- a comprehension that stores nothing: what is kept, each thing's value -/
theorem wp_lcF {ok : Store → Prop} {tg : LG} {tt : LT} {el : LE} (p : D → Bool) (f : D → D) (items : List D) (hok : ok S) (hl : items.length ≤ 16777216)
    (hs : ∀ x, x ∈ items → wp (tg x δ S) (fun δ1 S1 => S1 = S ∧ wp (tt δ1 S) (fun b S2 => b = p x ∧ S2 = S ∧ (p x = true → wp (el δ1 S) (fun y S3 => S3 = S ∧ y = f x) EQ)) EQ) NX)
    (hd : QL ((items.filter p).map f) S) : wp (lcGo ok tg tt el δ items [] S) QL EQ := by
  refine wp_lcGo (fun k acc S' => S' = S ∧ acc = ((items.take k).filter p).map f) (fun j acc S' h => by rw [h.1]; exact hok) items 0 [] S ⟨rfl, rfl⟩ ?_ ?_
  · rintro j x acc S' hj ⟨rfl, rfl⟩
    have hm := List.mem_of_getElem? hj
    have hjl := (List.getElem?_eq_some_iff.mp hj).1
    have ht : items.take (0 + j + 1) = items.take (0 + j) ++ [x] := by
      rw [Nat.zero_add, List.take_add_one, hj]
      rfl
    refine wp_imp (hs x hm) (fun δ1 S1 w => ?_) fun _ _ _ q => q
    obtain ⟨rfl, w⟩ := w
    refine wp_imp w (fun b S2 w => ?_) fun _ _ _ q => q
    obtain ⟨rfl, rfl, w⟩ := w
    by_cases hp : p x = true
    · rw [if_pos hp]
      refine wp_imp (w hp) (fun y S3 w => ?_) fun _ _ _ q => q
      obtain ⟨rfl, rfl⟩ := w
      refine ⟨?_, rfl, ?_⟩
      · rw [List.length_map]
        have h1 := List.length_filter_le p (items.take (0 + j))
        have h2 : (items.take (0 + j)).length ≤ j := by rw [List.length_take]; omega
        unfold sizeLine
        omega
      · rw [ht, List.filter_append, List.map_append]
        simp [hp]
    · rw [if_neg hp]
      refine ⟨rfl, ?_⟩
      rw [ht, List.filter_append, List.map_append]
      simp [hp]
  · rintro acc S' ⟨rfl, rfl⟩
    rw [Nat.zero_add, List.take_length]
    exact hd
theorem wp_srcS {QI : Src → Store → Prop} (z : Str) : wp (srcOf (.str z) S) QI EQ = QI ⟨signs z, fun _ => True⟩ S := id rfl
/-- .. over a text's signs, each a truth -/
theorem wp_lcS {tg : LG} {el : LE} (z : Str) (g : Nat → Bool) (hl : z.length ≤ 16777216)
    (hs : ∀ c, c ∈ z.cps.toList → wp (tg (.str ⟨#[c]⟩) δ S) (fun δ1 S1 => S1 = S ∧ wp (el δ1 S) (fun y S3 => S3 = S ∧ y = .bl (g c)) EQ) NX)
    (hd : QL ((z.cps.toList.map g).map D.bl) S) : wp (lcGo (fun _ => True) tg yes el δ (signs z) [] S) QL EQ := by
  refine wp_lcF (fun _ => true) (fun d => match d with | .str x => .bl (g (x.cps.getD 0 0)) | d => d) (signs z) trivial ?_ (fun x hx => ?_) ?_
  · unfold signs
    rw [List.length_map]
    have : z.cps.toList.length = z.length := by rw [Array.length_toList]; rfl
    omega
  · unfold signs at hx
    obtain ⟨c, hc, rfl⟩ := List.mem_map.mp hx
    refine wp_imp (hs c hc) (fun δ1 S1 w => ?_) fun _ _ _ q => q
    exact ⟨w.1, rfl, rfl, fun _ => w.2⟩
  · unfold signs
    rw [List.filter_eq_self.mpr (fun _ _ => rfl), List.map_map]
    rw [List.map_map] at hd
    exact hd
theorem wp_in_s (neg : Bool) (c : Nat) (z : Str) : wp (dIn neg (.str ⟨#[c]⟩) (.str z) S) QD EQ = QD (.bl (if neg then !decide (c ∈ z.cps.toList) else decide (c ∈ z.cps.toList))) S := id rfl
theorem wp_slice_l (xs : List D) (lo hi : Option Int) : wp (sliceD (.lst xs) lo hi S) QD EQ = QD (.lst (cutD xs lo hi)) S := id rfl
theorem cut_mem {xs : List D} {lo hi : Option Int} {x : D} (h : x ∈ cutD xs lo hi) : x ∈ xs := List.mem_of_mem_drop (List.mem_of_mem_take h)
theorem wp_tg4 {QG : Lc → Store → Prop} (g1 g2 g3 g4 : LG) (a b c d : D) : wp (gTp 4 (gCn g1 (gCn g2 (gCn g3 (gCn g4 gNl)))) (.tup [a, b, c, d]) δ S) QG EQ = wp (g1 a δ S) (fun δ1 S1 => wp (g2 b δ1 S1) (fun δ1 S1 => wp (g3 c δ1 S1) (fun δ1 S1 => wp (g4 d δ1 S1) QG EQ) EQ) EQ) EQ := by
  rw [wp_gTp 4 _ [a, b, c, d] rfl, wp_gCn]
  congr 1; funext δ1 S1
  rw [wp_gCn]
  congr 1; funext δ1 S1
  rw [wp_gCn]
  congr 1; funext δ1 S1
  rw [wp_gCn]
  rfl
theorem wp_tg3 {QG : Lc → Store → Prop} (g1 g2 g3 : LG) (a b c : D) : wp (gTp 3 (gCn g1 (gCn g2 (gCn g3 gNl))) (.tup [a, b, c]) δ S) QG EQ = wp (g1 a δ S) (fun δ1 S1 => wp (g2 b δ1 S1) (fun δ1 S1 => wp (g3 c δ1 S1) QG EQ) EQ) EQ := by
  rw [wp_gTp 3 _ [a, b, c] rfl, wp_gCn]
  congr 1; funext δ1 S1
  rw [wp_gCn]
  congr 1; funext δ1 S1
  rw [wp_gCn]
  rfl
end
end DL
namespace DL
open PySem PySem.Spec L2
theorem push_at (S : Store) (x : Option Cell) : (S ++ [x])[S.length]? = some x := by simp
theorem push_set (S : Store) (x y : Option Cell) : (S ++ [x]).set S.length y = S ++ [y] := by simp
theorem push_take (S : Store) (x : Option Cell) : (S ++ [x]).take S.length = S := by simp
theorem push_at2 (S : Store) (n : Nat) (y x : Option Cell) : (S.set n y ++ [x])[S.length]? = some x := by simp
theorem push_set2 (S : Store) (n : Nat) (z x y : Option Cell) : (S.set n z ++ [x]).set S.length y = S.set n z ++ [y] := by
  have h := push_set (S.set n z) x y
  rw [List.length_set] at h
  exact h
theorem push_take2 (S : Store) (n : Nat) (z x : Option Cell) : (S.set n z ++ [x]).take S.length = S.set n z := by
  have h := push_take (S.set n z) x
  rw [List.length_set] at h
  exact h
theorem isLst_at {S : Store} {n : Nat} {xs : List D} (h : S[n]? = some (some (.lst xs))) : isLst (.ref n) S = true := by
  unfold isLst asL
  simp only [h]
  rfl
theorem src_at {S : Store} {n : Nat} {xs : List D} {QI : Src → Store → Prop} {E : XQ} (h : S[n]? = some (some (.lst xs))) (q : QI ⟨xs, fun S' => S'[n]? = some (some (.lst xs))⟩ S) : wp (srcOf (.ref n) S) QI E := by
  unfold srcOf
  simp only [h]
  exact q
theorem noRef_ints (gs : List Int) : noRef (.lst (gs.map D.int)) = true := by
  unfold noRef
  induction gs with
  | nil => rfl
  | cons g gs ih => unfold List.map noRefL; rw [ih]; rfl
end DL
namespace DL
open PySem PySem.Spec L2
/-! ### _law_same -/
noncomputable def sameM (Frec : Fn) : LS := sSeq (sIf (tB (x1 (dIsiT [.lst, .tup]) (xVar 1))) (sSeq (sIf (tOrD (tB (x2 dNe (x1 (dIsi .lst) (xVar 0)) (x1 (dIsi .lst) (xVar 1)))) (tB (x2 dNe (x1 (dIsi .tup) (xVar 0)) (x1 (dIsi .tup) (xVar 1))))) (sRet (xC (.bl false))) (sNil)) (sRet (xAndD (x2 dEq (xB bLen (xCons (xVar 0) (xNil))) (xB bLen (xCons (xVar 1) (xNil)))) (xB bAll (xCons (xFz (lLc [2] (xRng1 (xCons (xB bLen (xCons (xVar 1) (xNil))) (xNil))) (gNm 2) (yes) (xCall 2 Frec [] (xCons (x2 dIx (xVar 0) (xVar 2)) (xCons (x2 dIx (xVar 1) (xVar 2)) (xNil)))))) (xNil)))))) (sNil)) (sSeq (sIf (tOrD (tB (x1 (dIsi .bl) (xVar 0))) (tB (x1 (dIsi .bl) (xVar 1)))) (sRet (xAndD (x1 (dIsi .bl) (xVar 0)) (xAndD (x1 (dIsi .bl) (xVar 1)) (x2 dEq (xVar 0) (xVar 1))))) (sNil)) (sSeq (sIf (tB (x1 (dIsi .int) (xVar 1))) (sRet (xAndD (x1 (dIsi .int) (xVar 0)) (x2 dEq (xVar 0) (xVar 1)))) (sNil)) (sSeq (sIf (tB (x1 (dIsi .str) (xVar 1))) (sRet (xAndD (x1 (dIsi .str) (xVar 0)) (x2 dEq (xVar 0) (xVar 1)))) (sNil)) (sRet (xAndD (x1 dIsN (xVar 0)) (x1 dIsN (xVar 1)))))))
noncomputable def sameR : Nat → Fn
  | 0 => fun _ _ => .bad
  | n + 1 => bodyD 3 (sameM (sameR n))
noncomputable def sameF : Fn := sameR 8
/-- data: no names of cells in it, not too deep, not too long -/
def Plain : Nat → D → Prop
  | _, .int _ => True
  | _, .bl _ => True
  | _, .str _ => True
  | _, .non => True
  | n + 1, .lst ds => ds.length ≤ 16777216 ∧ ∀ d ∈ ds, Plain n d
  | n + 1, .tup ds => ds.length ≤ 16777216 ∧ ∀ d ∈ ds, Plain n d
  | _, _ => False
theorem same_str (n : Nat) (x : Str) (S : Store) : sameR (n + 1) [.str x, .str x] S = .ok (.bl true, S) := by
  refine wp_eq ?_
  unfold sameR sameM
  simp only [↓wp_ok, ↓wp_exc, ↓wp_bad, ↓wp_var0, ↓wp_varN, ↓wp_varS, ↓wset0, ↓wsetS, ↓wini0, ↓winiS, ↓winiC, ↓wp_c, ↓wp_x1, ↓wp_x2, ↓wp_tB, ↓wp_tAnd, ↓wp_tOr, ↓wp_tNot, ↓wp_xAnd, ↓wp_xOr, ↓wp_xNot, ↓wp_xIf, ↓wp_nil, ↓wp_cons, ↓wp_tup, ↓wp_fz, ↓wp_cell, ↓wp_disp, ↓wp_yes, ↓wp_call, ↓wp_meth, ↓wp_B, ↓wp_BM, ↓wp_fld, ↓wp_sl, ↓wp_oN, ↓wp_oS, ↓wp_iter, ↓wp_rng1, ↓wp_rng2, ↓wp_src1, ↓wp_src2, ↓wp_chain, ↓wp_add_i, ↓wp_add_s, ↓wp_add_l, ↓wp_sub_i, ↓wp_mul, ↓wp_fdiv, ↓wp_mod, ↓wp_pow, ↓wp_neg, ↓wp_lt, ↓wp_le, ↓wp_gt, ↓wp_ge, ↓wp_eq_i, ↓wp_ne_i, ↓wp_eq_s, ↓wp_ne_s, ↓wp_isN_n, ↓wp_isN_i, ↓wp_isN_s, ↓wp_notN_n, ↓wp_notN_i, ↓wp_notN_s, ↓wp_isi_s, ↓wp_isi_i, ↓wp_isi_b, ↓wp_isi_n, ↓wp_len_s, ↓wp_int_i, ↓wp_int_b, ↓wp_max, ↓wp_min, ↓wp_abs, ↓wp_str, ↓wp_zfill, ↓wp_rev_l, ↓wp_ix_l, ↓wp_ix_t, ↓wp_ix_f, ↓wp_ix_s, ↓wp_len_f, ↓wp_len_l, ↓wp_len_t, ↓ws_ok, ↓ws_bad, ↓ws_nil, ↓ws_seq, ↓sq_set, ↓ws_expr, ↓ws_set, ↓ws_ret, ↓ws_retN, ↓ws_brk, ↓ws_cont, ↓ws_if, ↓ws_asg, ↓ws_aug, ↓ws_raise0, ↓ws_raise1, ↓wp_body, ↓wp_gNm, ↓wp_gNl, ↓wp_gCn, ↓ws_tryAs, ↓ws_tryO, ↓wp_all_l, ↓wp_any_l, ↓wp_sum_l, ↓wp_hex, ↓wp_dnew, ↓wp_ddisp, ↓wp_dg2, ↓fldAt0, ↓fldAtS, ↓wp_fldI, ↓wp_fldR, ↓wp_stR, ↓ws_fldD, ↓isIns_R, ↓isIns_I, ↓wp_make, ↓wp_frz, ↓wp_frzR, ↓wp_makeF, ↓wp_isiR, ↓wp_isi_l, ↓wp_isi_t, ↓wp_isi_o, ↓wp_isO_o, ↓wp_isO_i, ↓wp_isO_l, ↓wp_isO_t, ↓wp_isO_s, ↓wp_isO_b, ↓wp_isO_n, ↓wp_isN_b, ↓wp_isN_l, ↓wp_isN_t, ↓wp_isN_r, ↓wp_isN_o, ↓wp_notN_b, ↓wp_notN_l, ↓wp_notN_t, ↓wp_notN_r, ↓wp_notN_o, ↓wp_eq_b, ↓wp_ne_b, ↓wp_ixR, ↓wp_lenR, ↓wp_srcR, ↓wp_mlst, ↓wp_appR, ↓isLst_R, ↓wp_lsetW, ↓stLst_R, ↓wp_BN, ↓wp_nList_l, ↓wp_nList_t, ↓wp_nListR, ↓wp_enum, ↓wp_enum0, ↓wp_enumS, ↓wp_enmS, ↓wp_srcE_s, ↓wp_srcE_t, ↓wp_srcE_l, ↓wp_srcER, ↓wp_BK, ↓wp_gUlR, ↓wp_gU3, ↓wp_gU2, ↓wp_lenO, ↓wp_tuple_t, ↓wp_tuple_l, ↓wp_tupleR, ↓wp_intAdd, List.length_cons, List.length_nil, List.cons_append, List.nil_append, List.append_nil, Nat.reduceAdd, Nat.reduceSub, Nat.zero_add, decide_eq_true_eq, Bool.not_eq_true', decide_eq_false_iff_not, Bool.true_eq, Bool.not_true, Bool.not_false, if_true, reduceIte, Bool.false_eq_true, true_and, and_true, Nat.succ_eq_add_one, wp_isiT, tyOf, List.any_cons, List.any_nil, isiB, Ty.sub, decide_false, Bool.or_false, Bool.or_self, reduceCtorEq, decide_true]
theorem same_int (n : Nat) (x : Int) (S : Store) : sameR (n + 1) [.int x, .int x] S = .ok (.bl true, S) := by
  refine wp_eq ?_
  unfold sameR sameM
  simp only [↓wp_ok, ↓wp_exc, ↓wp_bad, ↓wp_var0, ↓wp_varN, ↓wp_varS, ↓wset0, ↓wsetS, ↓wini0, ↓winiS, ↓winiC, ↓wp_c, ↓wp_x1, ↓wp_x2, ↓wp_tB, ↓wp_tAnd, ↓wp_tOr, ↓wp_tNot, ↓wp_xAnd, ↓wp_xOr, ↓wp_xNot, ↓wp_xIf, ↓wp_nil, ↓wp_cons, ↓wp_tup, ↓wp_fz, ↓wp_cell, ↓wp_disp, ↓wp_yes, ↓wp_call, ↓wp_meth, ↓wp_B, ↓wp_BM, ↓wp_fld, ↓wp_sl, ↓wp_oN, ↓wp_oS, ↓wp_iter, ↓wp_rng1, ↓wp_rng2, ↓wp_src1, ↓wp_src2, ↓wp_chain, ↓wp_add_i, ↓wp_add_s, ↓wp_add_l, ↓wp_sub_i, ↓wp_mul, ↓wp_fdiv, ↓wp_mod, ↓wp_pow, ↓wp_neg, ↓wp_lt, ↓wp_le, ↓wp_gt, ↓wp_ge, ↓wp_eq_i, ↓wp_ne_i, ↓wp_eq_s, ↓wp_ne_s, ↓wp_isN_n, ↓wp_isN_i, ↓wp_isN_s, ↓wp_notN_n, ↓wp_notN_i, ↓wp_notN_s, ↓wp_isi_s, ↓wp_isi_i, ↓wp_isi_b, ↓wp_isi_n, ↓wp_len_s, ↓wp_int_i, ↓wp_int_b, ↓wp_max, ↓wp_min, ↓wp_abs, ↓wp_str, ↓wp_zfill, ↓wp_rev_l, ↓wp_ix_l, ↓wp_ix_t, ↓wp_ix_f, ↓wp_ix_s, ↓wp_len_f, ↓wp_len_l, ↓wp_len_t, ↓ws_ok, ↓ws_bad, ↓ws_nil, ↓ws_seq, ↓sq_set, ↓ws_expr, ↓ws_set, ↓ws_ret, ↓ws_retN, ↓ws_brk, ↓ws_cont, ↓ws_if, ↓ws_asg, ↓ws_aug, ↓ws_raise0, ↓ws_raise1, ↓wp_body, ↓wp_gNm, ↓wp_gNl, ↓wp_gCn, ↓ws_tryAs, ↓ws_tryO, ↓wp_all_l, ↓wp_any_l, ↓wp_sum_l, ↓wp_hex, ↓wp_dnew, ↓wp_ddisp, ↓wp_dg2, ↓fldAt0, ↓fldAtS, ↓wp_fldI, ↓wp_fldR, ↓wp_stR, ↓ws_fldD, ↓isIns_R, ↓isIns_I, ↓wp_make, ↓wp_frz, ↓wp_frzR, ↓wp_makeF, ↓wp_isiR, ↓wp_isi_l, ↓wp_isi_t, ↓wp_isi_o, ↓wp_isO_o, ↓wp_isO_i, ↓wp_isO_l, ↓wp_isO_t, ↓wp_isO_s, ↓wp_isO_b, ↓wp_isO_n, ↓wp_isN_b, ↓wp_isN_l, ↓wp_isN_t, ↓wp_isN_r, ↓wp_isN_o, ↓wp_notN_b, ↓wp_notN_l, ↓wp_notN_t, ↓wp_notN_r, ↓wp_notN_o, ↓wp_eq_b, ↓wp_ne_b, ↓wp_ixR, ↓wp_lenR, ↓wp_srcR, ↓wp_mlst, ↓wp_appR, ↓isLst_R, ↓wp_lsetW, ↓stLst_R, ↓wp_BN, ↓wp_nList_l, ↓wp_nList_t, ↓wp_nListR, ↓wp_enum, ↓wp_enum0, ↓wp_enumS, ↓wp_enmS, ↓wp_srcE_s, ↓wp_srcE_t, ↓wp_srcE_l, ↓wp_srcER, ↓wp_BK, ↓wp_gUlR, ↓wp_gU3, ↓wp_gU2, ↓wp_lenO, ↓wp_tuple_t, ↓wp_tuple_l, ↓wp_tupleR, ↓wp_intAdd, List.length_cons, List.length_nil, List.cons_append, List.nil_append, List.append_nil, Nat.reduceAdd, Nat.reduceSub, Nat.zero_add, decide_eq_true_eq, Bool.not_eq_true', decide_eq_false_iff_not, Bool.true_eq, Bool.not_true, Bool.not_false, if_true, reduceIte, Bool.false_eq_true, true_and, and_true, Nat.succ_eq_add_one, wp_isiT, tyOf, List.any_cons, List.any_nil, isiB, Ty.sub, decide_false, Bool.or_false, Bool.or_self, reduceCtorEq, decide_true]
theorem same_bl (n : Nat) (x : Bool) (S : Store) : sameR (n + 1) [.bl x, .bl x] S = .ok (.bl true, S) := by
  refine wp_eq ?_
  unfold sameR sameM
  simp only [↓wp_ok, ↓wp_exc, ↓wp_bad, ↓wp_var0, ↓wp_varN, ↓wp_varS, ↓wset0, ↓wsetS, ↓wini0, ↓winiS, ↓winiC, ↓wp_c, ↓wp_x1, ↓wp_x2, ↓wp_tB, ↓wp_tAnd, ↓wp_tOr, ↓wp_tNot, ↓wp_xAnd, ↓wp_xOr, ↓wp_xNot, ↓wp_xIf, ↓wp_nil, ↓wp_cons, ↓wp_tup, ↓wp_fz, ↓wp_cell, ↓wp_disp, ↓wp_yes, ↓wp_call, ↓wp_meth, ↓wp_B, ↓wp_BM, ↓wp_fld, ↓wp_sl, ↓wp_oN, ↓wp_oS, ↓wp_iter, ↓wp_rng1, ↓wp_rng2, ↓wp_src1, ↓wp_src2, ↓wp_chain, ↓wp_add_i, ↓wp_add_s, ↓wp_add_l, ↓wp_sub_i, ↓wp_mul, ↓wp_fdiv, ↓wp_mod, ↓wp_pow, ↓wp_neg, ↓wp_lt, ↓wp_le, ↓wp_gt, ↓wp_ge, ↓wp_eq_i, ↓wp_ne_i, ↓wp_eq_s, ↓wp_ne_s, ↓wp_isN_n, ↓wp_isN_i, ↓wp_isN_s, ↓wp_notN_n, ↓wp_notN_i, ↓wp_notN_s, ↓wp_isi_s, ↓wp_isi_i, ↓wp_isi_b, ↓wp_isi_n, ↓wp_len_s, ↓wp_int_i, ↓wp_int_b, ↓wp_max, ↓wp_min, ↓wp_abs, ↓wp_str, ↓wp_zfill, ↓wp_rev_l, ↓wp_ix_l, ↓wp_ix_t, ↓wp_ix_f, ↓wp_ix_s, ↓wp_len_f, ↓wp_len_l, ↓wp_len_t, ↓ws_ok, ↓ws_bad, ↓ws_nil, ↓ws_seq, ↓sq_set, ↓ws_expr, ↓ws_set, ↓ws_ret, ↓ws_retN, ↓ws_brk, ↓ws_cont, ↓ws_if, ↓ws_asg, ↓ws_aug, ↓ws_raise0, ↓ws_raise1, ↓wp_body, ↓wp_gNm, ↓wp_gNl, ↓wp_gCn, ↓ws_tryAs, ↓ws_tryO, ↓wp_all_l, ↓wp_any_l, ↓wp_sum_l, ↓wp_hex, ↓wp_dnew, ↓wp_ddisp, ↓wp_dg2, ↓fldAt0, ↓fldAtS, ↓wp_fldI, ↓wp_fldR, ↓wp_stR, ↓ws_fldD, ↓isIns_R, ↓isIns_I, ↓wp_make, ↓wp_frz, ↓wp_frzR, ↓wp_makeF, ↓wp_isiR, ↓wp_isi_l, ↓wp_isi_t, ↓wp_isi_o, ↓wp_isO_o, ↓wp_isO_i, ↓wp_isO_l, ↓wp_isO_t, ↓wp_isO_s, ↓wp_isO_b, ↓wp_isO_n, ↓wp_isN_b, ↓wp_isN_l, ↓wp_isN_t, ↓wp_isN_r, ↓wp_isN_o, ↓wp_notN_b, ↓wp_notN_l, ↓wp_notN_t, ↓wp_notN_r, ↓wp_notN_o, ↓wp_eq_b, ↓wp_ne_b, ↓wp_ixR, ↓wp_lenR, ↓wp_srcR, ↓wp_mlst, ↓wp_appR, ↓isLst_R, ↓wp_lsetW, ↓stLst_R, ↓wp_BN, ↓wp_nList_l, ↓wp_nList_t, ↓wp_nListR, ↓wp_enum, ↓wp_enum0, ↓wp_enumS, ↓wp_enmS, ↓wp_srcE_s, ↓wp_srcE_t, ↓wp_srcE_l, ↓wp_srcER, ↓wp_BK, ↓wp_gUlR, ↓wp_gU3, ↓wp_gU2, ↓wp_lenO, ↓wp_tuple_t, ↓wp_tuple_l, ↓wp_tupleR, ↓wp_intAdd, List.length_cons, List.length_nil, List.cons_append, List.nil_append, List.append_nil, Nat.reduceAdd, Nat.reduceSub, Nat.zero_add, decide_eq_true_eq, Bool.not_eq_true', decide_eq_false_iff_not, Bool.true_eq, Bool.not_true, Bool.not_false, if_true, reduceIte, Bool.false_eq_true, true_and, and_true, Nat.succ_eq_add_one, wp_isiT, tyOf, List.any_cons, List.any_nil, isiB, Ty.sub, decide_false, Bool.or_false, Bool.or_self, reduceCtorEq, decide_true]
theorem same_non (n : Nat) (S : Store) : sameR (n + 1) [.non, .non] S = .ok (.bl true, S) := by
  refine wp_eq ?_
  unfold sameR sameM
  simp only [↓wp_ok, ↓wp_exc, ↓wp_bad, ↓wp_var0, ↓wp_varN, ↓wp_varS, ↓wset0, ↓wsetS, ↓wini0, ↓winiS, ↓winiC, ↓wp_c, ↓wp_x1, ↓wp_x2, ↓wp_tB, ↓wp_tAnd, ↓wp_tOr, ↓wp_tNot, ↓wp_xAnd, ↓wp_xOr, ↓wp_xNot, ↓wp_xIf, ↓wp_nil, ↓wp_cons, ↓wp_tup, ↓wp_fz, ↓wp_cell, ↓wp_disp, ↓wp_yes, ↓wp_call, ↓wp_meth, ↓wp_B, ↓wp_BM, ↓wp_fld, ↓wp_sl, ↓wp_oN, ↓wp_oS, ↓wp_iter, ↓wp_rng1, ↓wp_rng2, ↓wp_src1, ↓wp_src2, ↓wp_chain, ↓wp_add_i, ↓wp_add_s, ↓wp_add_l, ↓wp_sub_i, ↓wp_mul, ↓wp_fdiv, ↓wp_mod, ↓wp_pow, ↓wp_neg, ↓wp_lt, ↓wp_le, ↓wp_gt, ↓wp_ge, ↓wp_eq_i, ↓wp_ne_i, ↓wp_eq_s, ↓wp_ne_s, ↓wp_isN_n, ↓wp_isN_i, ↓wp_isN_s, ↓wp_notN_n, ↓wp_notN_i, ↓wp_notN_s, ↓wp_isi_s, ↓wp_isi_i, ↓wp_isi_b, ↓wp_isi_n, ↓wp_len_s, ↓wp_int_i, ↓wp_int_b, ↓wp_max, ↓wp_min, ↓wp_abs, ↓wp_str, ↓wp_zfill, ↓wp_rev_l, ↓wp_ix_l, ↓wp_ix_t, ↓wp_ix_f, ↓wp_ix_s, ↓wp_len_f, ↓wp_len_l, ↓wp_len_t, ↓ws_ok, ↓ws_bad, ↓ws_nil, ↓ws_seq, ↓sq_set, ↓ws_expr, ↓ws_set, ↓ws_ret, ↓ws_retN, ↓ws_brk, ↓ws_cont, ↓ws_if, ↓ws_asg, ↓ws_aug, ↓ws_raise0, ↓ws_raise1, ↓wp_body, ↓wp_gNm, ↓wp_gNl, ↓wp_gCn, ↓ws_tryAs, ↓ws_tryO, ↓wp_all_l, ↓wp_any_l, ↓wp_sum_l, ↓wp_hex, ↓wp_dnew, ↓wp_ddisp, ↓wp_dg2, ↓fldAt0, ↓fldAtS, ↓wp_fldI, ↓wp_fldR, ↓wp_stR, ↓ws_fldD, ↓isIns_R, ↓isIns_I, ↓wp_make, ↓wp_frz, ↓wp_frzR, ↓wp_makeF, ↓wp_isiR, ↓wp_isi_l, ↓wp_isi_t, ↓wp_isi_o, ↓wp_isO_o, ↓wp_isO_i, ↓wp_isO_l, ↓wp_isO_t, ↓wp_isO_s, ↓wp_isO_b, ↓wp_isO_n, ↓wp_isN_b, ↓wp_isN_l, ↓wp_isN_t, ↓wp_isN_r, ↓wp_isN_o, ↓wp_notN_b, ↓wp_notN_l, ↓wp_notN_t, ↓wp_notN_r, ↓wp_notN_o, ↓wp_eq_b, ↓wp_ne_b, ↓wp_ixR, ↓wp_lenR, ↓wp_srcR, ↓wp_mlst, ↓wp_appR, ↓isLst_R, ↓wp_lsetW, ↓stLst_R, ↓wp_BN, ↓wp_nList_l, ↓wp_nList_t, ↓wp_nListR, ↓wp_enum, ↓wp_enum0, ↓wp_enumS, ↓wp_enmS, ↓wp_srcE_s, ↓wp_srcE_t, ↓wp_srcE_l, ↓wp_srcER, ↓wp_BK, ↓wp_gUlR, ↓wp_gU3, ↓wp_gU2, ↓wp_lenO, ↓wp_tuple_t, ↓wp_tuple_l, ↓wp_tupleR, ↓wp_intAdd, List.length_cons, List.length_nil, List.cons_append, List.nil_append, List.append_nil, Nat.reduceAdd, Nat.reduceSub, Nat.zero_add, decide_eq_true_eq, Bool.not_eq_true', decide_eq_false_iff_not, Bool.true_eq, Bool.not_true, Bool.not_false, if_true, reduceIte, Bool.false_eq_true, true_and, and_true, Nat.succ_eq_add_one, wp_isiT, tyOf, List.any_cons, List.any_nil, isiB, Ty.sub, decide_false, Bool.or_false, Bool.or_self, reduceCtorEq, decide_true]
theorem all_true {ys : List D} (h : ∀ (j : Nat) y, ys[j]? = some y → y = .bl true) : ys = (List.replicate ys.length true).map D.bl := by
  refine List.ext_getElem? fun i => ?_
  by_cases hi : i < ys.length
  · rw [List.getElem?_eq_getElem hi, h i _ (List.getElem?_eq_getElem hi)]
    simp [hi]
  · rw [List.getElem?_eq_none (by omega), List.getElem?_eq_none (by simpa using hi)]
theorem atI_lt {α : Type} {xs : List α} {i : Int} {x : α} (h0 : 0 ≤ i) (h : xs[i.toNat]? = some x) : atI xs i = some x := by
  have hl := (List.getElem?_eq_some_iff.mp h).1
  unfold atI ixN
  rw [if_pos h0, if_pos (by omega)]
  exact h
/-- two things of the same look, each a list or each a tuple -/
def sqOf (d : D) (S : Store) : Option (Bool × List D) := match d with
  | .lst ds => some (true, ds)
  | .tup ds => some (false, ds)
  | .ref n => (match S[n]? with | some (some (.lst ds)) => some (true, ds) | _ => none)
  | _ => none
theorem sq_facts {d : D} {S : Store} {b : Bool} {ds : List D} (h : sqOf d S = some (b, ds)) : tyOf d S = some (.b (if b then .lst else .tup)) ∧ asS d S = some ds ∧ (∀ i QD E, wp (dIx d (.int i) S) QD E = (match atI ds i with | some x => QD x S | none => False)) ∧ ∀ QD E, wp (bLen [d] S) QD E = QD (.int ds.length) S := by
  cases d with
  | lst es => cases h; exact ⟨rfl, rfl, fun i QD E => by rw [wp_ix_l]; cases atI ds i <;> simp, fun _ _ => rfl⟩
  | tup es => cases h; exact ⟨rfl, rfl, fun i QD E => by rw [wp_ix_t]; cases atI ds i <;> simp, fun _ _ => rfl⟩
  | ref n =>
    unfold sqOf at h
    dsimp only at h
    cases e : S[n]? with
    | none => rw [e] at h; cases h
    | some o =>
      cases o with
      | none => rw [e] at h; cases h
      | some c =>
        cases c with
        | lst es =>
          rw [e] at h
          cases h
          exact ⟨by unfold tyOf; simp only [e]; rfl, by unfold asS asL; simp only [e], fun i QD E => by rw [wp_ixR]; simp only [e]; first | done | rfl, fun QD E => by rw [wp_lenR]; simp only [e]⟩
        | _ => rw [e] at h; cases h
  | _ => cases h
theorem same_sq (n : Nat) {d e : D} {S : Store} {b : Bool} {ds es : List D} (hd : sqOf d S = some (b, ds)) (he : sqOf e S = some (b, es)) (hl : ds.length = es.length) (hz : es.length ≤ 16777216)
    (h : ∀ (i : Nat) x y, ds[i]? = some x → es[i]? = some y → sameR n [x, y] S = .ok (.bl true, S)) : sameR (n + 1) [d, e] S = .ok (.bl true, S) := by
  obtain ⟨d1, d2, d3, d4⟩ := sq_facts hd
  obtain ⟨e1, e2, e3, e4⟩ := sq_facts he
  have isd : ∀ T QD E, wp (dIsi T d S) QD E = QD (.bl (isiB T (.b (if b then .lst else .tup)))) S := fun T QD E => by unfold dIsi; rw [d1]; rfl
  have ise : ∀ T QD E, wp (dIsi T e S) QD E = QD (.bl (isiB T (.b (if b then .lst else .tup)))) S := fun T QD E => by unfold dIsi; rw [e1]; rfl
  refine wp_eq ?_
  unfold sameR sameM
  simp only [↓wp_ok, ↓wp_exc, ↓wp_bad, ↓wp_var0, ↓wp_varN, ↓wp_varS, ↓wset0, ↓wsetS, ↓wini0, ↓winiS, ↓winiC, ↓wp_c, ↓wp_x1, ↓wp_x2, ↓wp_tB, ↓wp_tAnd, ↓wp_tOr, ↓wp_tNot, ↓wp_xAnd, ↓wp_xOr, ↓wp_xNot, ↓wp_xIf, ↓wp_nil, ↓wp_cons, ↓wp_tup, ↓wp_fz, ↓wp_cell, ↓wp_disp, ↓wp_yes, ↓wp_call, ↓wp_meth, ↓wp_B, ↓wp_BM, ↓wp_fld, ↓wp_sl, ↓wp_oN, ↓wp_oS, ↓wp_iter, ↓wp_rng1, ↓wp_rng2, ↓wp_src1, ↓wp_src2, ↓wp_chain, ↓wp_add_i, ↓wp_add_s, ↓wp_add_l, ↓wp_sub_i, ↓wp_mul, ↓wp_fdiv, ↓wp_mod, ↓wp_pow, ↓wp_neg, ↓wp_lt, ↓wp_le, ↓wp_gt, ↓wp_ge, ↓wp_eq_i, ↓wp_ne_i, ↓wp_eq_s, ↓wp_ne_s, ↓wp_isN_n, ↓wp_isN_i, ↓wp_isN_s, ↓wp_notN_n, ↓wp_notN_i, ↓wp_notN_s, ↓wp_isi_s, ↓wp_isi_i, ↓wp_isi_b, ↓wp_isi_n, ↓wp_len_s, ↓wp_int_i, ↓wp_int_b, ↓wp_max, ↓wp_min, ↓wp_abs, ↓wp_str, ↓wp_zfill, ↓wp_rev_l, ↓wp_ix_l, ↓wp_ix_t, ↓wp_ix_f, ↓wp_ix_s, ↓wp_len_f, ↓wp_len_l, ↓wp_len_t, ↓ws_ok, ↓ws_bad, ↓ws_nil, ↓ws_seq, ↓sq_set, ↓ws_expr, ↓ws_set, ↓ws_ret, ↓ws_retN, ↓ws_brk, ↓ws_cont, ↓ws_if, ↓ws_asg, ↓ws_aug, ↓ws_raise0, ↓ws_raise1, ↓wp_body, ↓wp_gNm, ↓wp_gNl, ↓wp_gCn, ↓ws_tryAs, ↓ws_tryO, ↓wp_all_l, ↓wp_any_l, ↓wp_sum_l, ↓wp_hex, ↓wp_dnew, ↓wp_ddisp, ↓wp_dg2, ↓fldAt0, ↓fldAtS, ↓wp_fldI, ↓wp_fldR, ↓wp_stR, ↓ws_fldD, ↓isIns_R, ↓isIns_I, ↓wp_make, ↓wp_frz, ↓wp_frzR, ↓wp_makeF, ↓wp_isiR, ↓wp_isi_l, ↓wp_isi_t, ↓wp_isi_o, ↓wp_isO_o, ↓wp_isO_i, ↓wp_isO_l, ↓wp_isO_t, ↓wp_isO_s, ↓wp_isO_b, ↓wp_isO_n, ↓wp_isN_b, ↓wp_isN_l, ↓wp_isN_t, ↓wp_isN_r, ↓wp_isN_o, ↓wp_notN_b, ↓wp_notN_l, ↓wp_notN_t, ↓wp_notN_r, ↓wp_notN_o, ↓wp_eq_b, ↓wp_ne_b, ↓wp_ixR, ↓wp_lenR, ↓wp_srcR, ↓wp_mlst, ↓wp_appR, ↓isLst_R, ↓wp_lsetW, ↓stLst_R, ↓wp_BN, ↓wp_nList_l, ↓wp_nList_t, ↓wp_nListR, ↓wp_enum, ↓wp_enum0, ↓wp_enumS, ↓wp_enmS, ↓wp_srcE_s, ↓wp_srcE_t, ↓wp_srcE_l, ↓wp_srcER, ↓wp_BK, ↓wp_gUlR, ↓wp_gU3, ↓wp_gU2, ↓wp_lenO, ↓wp_tuple_t, ↓wp_tuple_l, ↓wp_tupleR, ↓wp_intAdd, List.length_cons, List.length_nil, List.cons_append, List.nil_append, List.append_nil, Nat.reduceAdd, Nat.reduceSub, Nat.zero_add, decide_eq_true_eq, Bool.not_eq_true', decide_eq_false_iff_not, Bool.true_eq, Bool.not_true, Bool.not_false, if_true, reduceIte, Bool.false_eq_true, true_and, and_true, Nat.succ_eq_add_one, wp_isiT, e1, isd, ise]
  have c1 : ([Ty.lst, Ty.tup].any fun T => isiB T (.b (if b = true then Ty.lst else Ty.tup))) = true := by cases b <;> rfl
  simp only [c1, ↓wp_ok, ↓wp_exc, ↓wp_bad, ↓wp_var0, ↓wp_varN, ↓wp_varS, ↓wset0, ↓wsetS, ↓wini0, ↓winiS, ↓winiC, ↓wp_c, ↓wp_x1, ↓wp_x2, ↓wp_tB, ↓wp_tAnd, ↓wp_tOr, ↓wp_tNot, ↓wp_xAnd, ↓wp_xOr, ↓wp_xNot, ↓wp_xIf, ↓wp_nil, ↓wp_cons, ↓wp_tup, ↓wp_fz, ↓wp_cell, ↓wp_disp, ↓wp_yes, ↓wp_call, ↓wp_meth, ↓wp_B, ↓wp_BM, ↓wp_fld, ↓wp_sl, ↓wp_oN, ↓wp_oS, ↓wp_iter, ↓wp_rng1, ↓wp_rng2, ↓wp_src1, ↓wp_src2, ↓wp_chain, ↓wp_add_i, ↓wp_add_s, ↓wp_add_l, ↓wp_sub_i, ↓wp_mul, ↓wp_fdiv, ↓wp_mod, ↓wp_pow, ↓wp_neg, ↓wp_lt, ↓wp_le, ↓wp_gt, ↓wp_ge, ↓wp_eq_i, ↓wp_ne_i, ↓wp_eq_s, ↓wp_ne_s, ↓wp_isN_n, ↓wp_isN_i, ↓wp_isN_s, ↓wp_notN_n, ↓wp_notN_i, ↓wp_notN_s, ↓wp_isi_s, ↓wp_isi_i, ↓wp_isi_b, ↓wp_isi_n, ↓wp_len_s, ↓wp_int_i, ↓wp_int_b, ↓wp_max, ↓wp_min, ↓wp_abs, ↓wp_str, ↓wp_zfill, ↓wp_rev_l, ↓wp_ix_l, ↓wp_ix_t, ↓wp_ix_f, ↓wp_ix_s, ↓wp_len_f, ↓wp_len_l, ↓wp_len_t, ↓ws_ok, ↓ws_bad, ↓ws_nil, ↓ws_seq, ↓sq_set, ↓ws_expr, ↓ws_set, ↓ws_ret, ↓ws_retN, ↓ws_brk, ↓ws_cont, ↓ws_if, ↓ws_asg, ↓ws_aug, ↓ws_raise0, ↓ws_raise1, ↓wp_body, ↓wp_gNm, ↓wp_gNl, ↓wp_gCn, ↓ws_tryAs, ↓ws_tryO, ↓wp_all_l, ↓wp_any_l, ↓wp_sum_l, ↓wp_hex, ↓wp_dnew, ↓wp_ddisp, ↓wp_dg2, ↓fldAt0, ↓fldAtS, ↓wp_fldI, ↓wp_fldR, ↓wp_stR, ↓ws_fldD, ↓isIns_R, ↓isIns_I, ↓wp_make, ↓wp_frz, ↓wp_frzR, ↓wp_makeF, ↓wp_isiR, ↓wp_isi_l, ↓wp_isi_t, ↓wp_isi_o, ↓wp_isO_o, ↓wp_isO_i, ↓wp_isO_l, ↓wp_isO_t, ↓wp_isO_s, ↓wp_isO_b, ↓wp_isO_n, ↓wp_isN_b, ↓wp_isN_l, ↓wp_isN_t, ↓wp_isN_r, ↓wp_isN_o, ↓wp_notN_b, ↓wp_notN_l, ↓wp_notN_t, ↓wp_notN_r, ↓wp_notN_o, ↓wp_eq_b, ↓wp_ne_b, ↓wp_ixR, ↓wp_lenR, ↓wp_srcR, ↓wp_mlst, ↓wp_appR, ↓isLst_R, ↓wp_lsetW, ↓stLst_R, ↓wp_BN, ↓wp_nList_l, ↓wp_nList_t, ↓wp_nListR, ↓wp_enum, ↓wp_enum0, ↓wp_enumS, ↓wp_enmS, ↓wp_srcE_s, ↓wp_srcE_t, ↓wp_srcE_l, ↓wp_srcER, ↓wp_BK, ↓wp_gUlR, ↓wp_gU3, ↓wp_gU2, ↓wp_lenO, ↓wp_tuple_t, ↓wp_tuple_l, ↓wp_tupleR, ↓wp_intAdd, List.length_cons, List.length_nil, List.cons_append, List.nil_append, List.append_nil, Nat.reduceAdd, Nat.reduceSub, Nat.zero_add, decide_eq_true_eq, Bool.not_eq_true', decide_eq_false_iff_not, Bool.true_eq, Bool.not_true, Bool.not_false, if_true, reduceIte, Bool.false_eq_true, true_and, and_true, Nat.succ_eq_add_one, Bool.false_or, decide_true, d4, e4, hl, ↓wp_lc, wipeD, List.set_cons_succ, List.set_cons_zero]
  refine ⟨by omega, wp_noEx (wp_lcR (fun _ y => y = .bl true) (by omega) ?_ ?_)⟩
  · intro j h0 h1
    simp only [↓wp_ok, ↓wp_exc, ↓wp_bad, ↓wp_var0, ↓wp_varN, ↓wp_varS, ↓wset0, ↓wsetS, ↓wini0, ↓winiS, ↓winiC, ↓wp_c, ↓wp_x1, ↓wp_x2, ↓wp_tB, ↓wp_tAnd, ↓wp_tOr, ↓wp_tNot, ↓wp_xAnd, ↓wp_xOr, ↓wp_xNot, ↓wp_xIf, ↓wp_nil, ↓wp_cons, ↓wp_tup, ↓wp_fz, ↓wp_cell, ↓wp_disp, ↓wp_yes, ↓wp_call, ↓wp_meth, ↓wp_B, ↓wp_BM, ↓wp_fld, ↓wp_sl, ↓wp_oN, ↓wp_oS, ↓wp_iter, ↓wp_rng1, ↓wp_rng2, ↓wp_src1, ↓wp_src2, ↓wp_chain, ↓wp_add_i, ↓wp_add_s, ↓wp_add_l, ↓wp_sub_i, ↓wp_mul, ↓wp_fdiv, ↓wp_mod, ↓wp_pow, ↓wp_neg, ↓wp_lt, ↓wp_le, ↓wp_gt, ↓wp_ge, ↓wp_eq_i, ↓wp_ne_i, ↓wp_eq_s, ↓wp_ne_s, ↓wp_isN_n, ↓wp_isN_i, ↓wp_isN_s, ↓wp_notN_n, ↓wp_notN_i, ↓wp_notN_s, ↓wp_isi_s, ↓wp_isi_i, ↓wp_isi_b, ↓wp_isi_n, ↓wp_len_s, ↓wp_int_i, ↓wp_int_b, ↓wp_max, ↓wp_min, ↓wp_abs, ↓wp_str, ↓wp_zfill, ↓wp_rev_l, ↓wp_ix_l, ↓wp_ix_t, ↓wp_ix_f, ↓wp_ix_s, ↓wp_len_f, ↓wp_len_l, ↓wp_len_t, ↓ws_ok, ↓ws_bad, ↓ws_nil, ↓ws_seq, ↓sq_set, ↓ws_expr, ↓ws_set, ↓ws_ret, ↓ws_retN, ↓ws_brk, ↓ws_cont, ↓ws_if, ↓ws_asg, ↓ws_aug, ↓ws_raise0, ↓ws_raise1, ↓wp_body, ↓wp_gNm, ↓wp_gNl, ↓wp_gCn, ↓ws_tryAs, ↓ws_tryO, ↓wp_all_l, ↓wp_any_l, ↓wp_sum_l, ↓wp_hex, ↓wp_dnew, ↓wp_ddisp, ↓wp_dg2, ↓fldAt0, ↓fldAtS, ↓wp_fldI, ↓wp_fldR, ↓wp_stR, ↓ws_fldD, ↓isIns_R, ↓isIns_I, ↓wp_make, ↓wp_frz, ↓wp_frzR, ↓wp_makeF, ↓wp_isiR, ↓wp_isi_l, ↓wp_isi_t, ↓wp_isi_o, ↓wp_isO_o, ↓wp_isO_i, ↓wp_isO_l, ↓wp_isO_t, ↓wp_isO_s, ↓wp_isO_b, ↓wp_isO_n, ↓wp_isN_b, ↓wp_isN_l, ↓wp_isN_t, ↓wp_isN_r, ↓wp_isN_o, ↓wp_notN_b, ↓wp_notN_l, ↓wp_notN_t, ↓wp_notN_r, ↓wp_notN_o, ↓wp_eq_b, ↓wp_ne_b, ↓wp_ixR, ↓wp_lenR, ↓wp_srcR, ↓wp_mlst, ↓wp_appR, ↓isLst_R, ↓wp_lsetW, ↓stLst_R, ↓wp_BN, ↓wp_nList_l, ↓wp_nList_t, ↓wp_nListR, ↓wp_enum, ↓wp_enum0, ↓wp_enumS, ↓wp_enmS, ↓wp_srcE_s, ↓wp_srcE_t, ↓wp_srcE_l, ↓wp_srcER, ↓wp_BK, ↓wp_gUlR, ↓wp_gU3, ↓wp_gU2, ↓wp_lenO, ↓wp_tuple_t, ↓wp_tuple_l, ↓wp_tupleR, ↓wp_intAdd, List.length_cons, List.length_nil, List.cons_append, List.nil_append, List.append_nil, Nat.reduceAdd, Nat.reduceSub, Nat.zero_add, decide_eq_true_eq, Bool.not_eq_true', decide_eq_false_iff_not, Bool.true_eq, Bool.not_true, Bool.not_false, if_true, reduceIte, Bool.false_eq_true, true_and, and_true, Nat.succ_eq_add_one, d3, e3]
    have hj : j.toNat < ds.length := by omega
    have hj2 : j.toNat < es.length := by omega
    rw [atI_lt h0 (List.getElem?_eq_getElem hj)]
    simp only [↓wp_ok, ↓wp_exc, ↓wp_bad, ↓wp_var0, ↓wp_varN, ↓wp_varS, ↓wset0, ↓wsetS, ↓wini0, ↓winiS, ↓winiC, ↓wp_c, ↓wp_x1, ↓wp_x2, ↓wp_tB, ↓wp_tAnd, ↓wp_tOr, ↓wp_tNot, ↓wp_xAnd, ↓wp_xOr, ↓wp_xNot, ↓wp_xIf, ↓wp_nil, ↓wp_cons, ↓wp_tup, ↓wp_fz, ↓wp_cell, ↓wp_disp, ↓wp_yes, ↓wp_call, ↓wp_meth, ↓wp_B, ↓wp_BM, ↓wp_fld, ↓wp_sl, ↓wp_oN, ↓wp_oS, ↓wp_iter, ↓wp_rng1, ↓wp_rng2, ↓wp_src1, ↓wp_src2, ↓wp_chain, ↓wp_add_i, ↓wp_add_s, ↓wp_add_l, ↓wp_sub_i, ↓wp_mul, ↓wp_fdiv, ↓wp_mod, ↓wp_pow, ↓wp_neg, ↓wp_lt, ↓wp_le, ↓wp_gt, ↓wp_ge, ↓wp_eq_i, ↓wp_ne_i, ↓wp_eq_s, ↓wp_ne_s, ↓wp_isN_n, ↓wp_isN_i, ↓wp_isN_s, ↓wp_notN_n, ↓wp_notN_i, ↓wp_notN_s, ↓wp_isi_s, ↓wp_isi_i, ↓wp_isi_b, ↓wp_isi_n, ↓wp_len_s, ↓wp_int_i, ↓wp_int_b, ↓wp_max, ↓wp_min, ↓wp_abs, ↓wp_str, ↓wp_zfill, ↓wp_rev_l, ↓wp_ix_l, ↓wp_ix_t, ↓wp_ix_f, ↓wp_ix_s, ↓wp_len_f, ↓wp_len_l, ↓wp_len_t, ↓ws_ok, ↓ws_bad, ↓ws_nil, ↓ws_seq, ↓sq_set, ↓ws_expr, ↓ws_set, ↓ws_ret, ↓ws_retN, ↓ws_brk, ↓ws_cont, ↓ws_if, ↓ws_asg, ↓ws_aug, ↓ws_raise0, ↓ws_raise1, ↓wp_body, ↓wp_gNm, ↓wp_gNl, ↓wp_gCn, ↓ws_tryAs, ↓ws_tryO, ↓wp_all_l, ↓wp_any_l, ↓wp_sum_l, ↓wp_hex, ↓wp_dnew, ↓wp_ddisp, ↓wp_dg2, ↓fldAt0, ↓fldAtS, ↓wp_fldI, ↓wp_fldR, ↓wp_stR, ↓ws_fldD, ↓isIns_R, ↓isIns_I, ↓wp_make, ↓wp_frz, ↓wp_frzR, ↓wp_makeF, ↓wp_isiR, ↓wp_isi_l, ↓wp_isi_t, ↓wp_isi_o, ↓wp_isO_o, ↓wp_isO_i, ↓wp_isO_l, ↓wp_isO_t, ↓wp_isO_s, ↓wp_isO_b, ↓wp_isO_n, ↓wp_isN_b, ↓wp_isN_l, ↓wp_isN_t, ↓wp_isN_r, ↓wp_isN_o, ↓wp_notN_b, ↓wp_notN_l, ↓wp_notN_t, ↓wp_notN_r, ↓wp_notN_o, ↓wp_eq_b, ↓wp_ne_b, ↓wp_ixR, ↓wp_lenR, ↓wp_srcR, ↓wp_mlst, ↓wp_appR, ↓isLst_R, ↓wp_lsetW, ↓stLst_R, ↓wp_BN, ↓wp_nList_l, ↓wp_nList_t, ↓wp_nListR, ↓wp_enum, ↓wp_enum0, ↓wp_enumS, ↓wp_enmS, ↓wp_srcE_s, ↓wp_srcE_t, ↓wp_srcE_l, ↓wp_srcER, ↓wp_BK, ↓wp_gUlR, ↓wp_gU3, ↓wp_gU2, ↓wp_lenO, ↓wp_tuple_t, ↓wp_tuple_l, ↓wp_tupleR, ↓wp_intAdd, List.length_cons, List.length_nil, List.cons_append, List.nil_append, List.append_nil, Nat.reduceAdd, Nat.reduceSub, Nat.zero_add, decide_eq_true_eq, Bool.not_eq_true', decide_eq_false_iff_not, Bool.true_eq, Bool.not_true, Bool.not_false, if_true, reduceIte, Bool.false_eq_true, true_and, and_true, Nat.succ_eq_add_one, e3]
    rw [atI_lt h0 (List.getElem?_eq_getElem hj2)]
    simp only [↓wp_ok, ↓wp_exc, ↓wp_bad, ↓wp_var0, ↓wp_varN, ↓wp_varS, ↓wset0, ↓wsetS, ↓wini0, ↓winiS, ↓winiC, ↓wp_c, ↓wp_x1, ↓wp_x2, ↓wp_tB, ↓wp_tAnd, ↓wp_tOr, ↓wp_tNot, ↓wp_xAnd, ↓wp_xOr, ↓wp_xNot, ↓wp_xIf, ↓wp_nil, ↓wp_cons, ↓wp_tup, ↓wp_fz, ↓wp_cell, ↓wp_disp, ↓wp_yes, ↓wp_call, ↓wp_meth, ↓wp_B, ↓wp_BM, ↓wp_fld, ↓wp_sl, ↓wp_oN, ↓wp_oS, ↓wp_iter, ↓wp_rng1, ↓wp_rng2, ↓wp_src1, ↓wp_src2, ↓wp_chain, ↓wp_add_i, ↓wp_add_s, ↓wp_add_l, ↓wp_sub_i, ↓wp_mul, ↓wp_fdiv, ↓wp_mod, ↓wp_pow, ↓wp_neg, ↓wp_lt, ↓wp_le, ↓wp_gt, ↓wp_ge, ↓wp_eq_i, ↓wp_ne_i, ↓wp_eq_s, ↓wp_ne_s, ↓wp_isN_n, ↓wp_isN_i, ↓wp_isN_s, ↓wp_notN_n, ↓wp_notN_i, ↓wp_notN_s, ↓wp_isi_s, ↓wp_isi_i, ↓wp_isi_b, ↓wp_isi_n, ↓wp_len_s, ↓wp_int_i, ↓wp_int_b, ↓wp_max, ↓wp_min, ↓wp_abs, ↓wp_str, ↓wp_zfill, ↓wp_rev_l, ↓wp_ix_l, ↓wp_ix_t, ↓wp_ix_f, ↓wp_ix_s, ↓wp_len_f, ↓wp_len_l, ↓wp_len_t, ↓ws_ok, ↓ws_bad, ↓ws_nil, ↓ws_seq, ↓sq_set, ↓ws_expr, ↓ws_set, ↓ws_ret, ↓ws_retN, ↓ws_brk, ↓ws_cont, ↓ws_if, ↓ws_asg, ↓ws_aug, ↓ws_raise0, ↓ws_raise1, ↓wp_body, ↓wp_gNm, ↓wp_gNl, ↓wp_gCn, ↓ws_tryAs, ↓ws_tryO, ↓wp_all_l, ↓wp_any_l, ↓wp_sum_l, ↓wp_hex, ↓wp_dnew, ↓wp_ddisp, ↓wp_dg2, ↓fldAt0, ↓fldAtS, ↓wp_fldI, ↓wp_fldR, ↓wp_stR, ↓ws_fldD, ↓isIns_R, ↓isIns_I, ↓wp_make, ↓wp_frz, ↓wp_frzR, ↓wp_makeF, ↓wp_isiR, ↓wp_isi_l, ↓wp_isi_t, ↓wp_isi_o, ↓wp_isO_o, ↓wp_isO_i, ↓wp_isO_l, ↓wp_isO_t, ↓wp_isO_s, ↓wp_isO_b, ↓wp_isO_n, ↓wp_isN_b, ↓wp_isN_l, ↓wp_isN_t, ↓wp_isN_r, ↓wp_isN_o, ↓wp_notN_b, ↓wp_notN_l, ↓wp_notN_t, ↓wp_notN_r, ↓wp_notN_o, ↓wp_eq_b, ↓wp_ne_b, ↓wp_ixR, ↓wp_lenR, ↓wp_srcR, ↓wp_mlst, ↓wp_appR, ↓isLst_R, ↓wp_lsetW, ↓stLst_R, ↓wp_BN, ↓wp_nList_l, ↓wp_nList_t, ↓wp_nListR, ↓wp_enum, ↓wp_enum0, ↓wp_enumS, ↓wp_enmS, ↓wp_srcE_s, ↓wp_srcE_t, ↓wp_srcE_l, ↓wp_srcER, ↓wp_BK, ↓wp_gUlR, ↓wp_gU3, ↓wp_gU2, ↓wp_lenO, ↓wp_tuple_t, ↓wp_tuple_l, ↓wp_tupleR, ↓wp_intAdd, List.length_cons, List.length_nil, List.cons_append, List.nil_append, List.append_nil, Nat.reduceAdd, Nat.reduceSub, Nat.zero_add, decide_eq_true_eq, Bool.not_eq_true', decide_eq_false_iff_not, Bool.true_eq, Bool.not_true, Bool.not_false, if_true, reduceIte, Bool.false_eq_true, true_and, and_true, Nat.succ_eq_add_one, h j.toNat _ _ (List.getElem?_eq_getElem hj) (List.getElem?_eq_getElem hj2)]
  · intro ys hl2 hy
    rw [all_true hy]
    simp only [↓wp_ok, ↓wp_exc, ↓wp_bad, ↓wp_var0, ↓wp_varN, ↓wp_varS, ↓wset0, ↓wsetS, ↓wini0, ↓winiS, ↓winiC, ↓wp_c, ↓wp_x1, ↓wp_x2, ↓wp_tB, ↓wp_tAnd, ↓wp_tOr, ↓wp_tNot, ↓wp_xAnd, ↓wp_xOr, ↓wp_xNot, ↓wp_xIf, ↓wp_nil, ↓wp_cons, ↓wp_tup, ↓wp_fz, ↓wp_cell, ↓wp_disp, ↓wp_yes, ↓wp_call, ↓wp_meth, ↓wp_B, ↓wp_BM, ↓wp_fld, ↓wp_sl, ↓wp_oN, ↓wp_oS, ↓wp_iter, ↓wp_rng1, ↓wp_rng2, ↓wp_src1, ↓wp_src2, ↓wp_chain, ↓wp_add_i, ↓wp_add_s, ↓wp_add_l, ↓wp_sub_i, ↓wp_mul, ↓wp_fdiv, ↓wp_mod, ↓wp_pow, ↓wp_neg, ↓wp_lt, ↓wp_le, ↓wp_gt, ↓wp_ge, ↓wp_eq_i, ↓wp_ne_i, ↓wp_eq_s, ↓wp_ne_s, ↓wp_isN_n, ↓wp_isN_i, ↓wp_isN_s, ↓wp_notN_n, ↓wp_notN_i, ↓wp_notN_s, ↓wp_isi_s, ↓wp_isi_i, ↓wp_isi_b, ↓wp_isi_n, ↓wp_len_s, ↓wp_int_i, ↓wp_int_b, ↓wp_max, ↓wp_min, ↓wp_abs, ↓wp_str, ↓wp_zfill, ↓wp_rev_l, ↓wp_ix_l, ↓wp_ix_t, ↓wp_ix_f, ↓wp_ix_s, ↓wp_len_f, ↓wp_len_l, ↓wp_len_t, ↓ws_ok, ↓ws_bad, ↓ws_nil, ↓ws_seq, ↓sq_set, ↓ws_expr, ↓ws_set, ↓ws_ret, ↓ws_retN, ↓ws_brk, ↓ws_cont, ↓ws_if, ↓ws_asg, ↓ws_aug, ↓ws_raise0, ↓ws_raise1, ↓wp_body, ↓wp_gNm, ↓wp_gNl, ↓wp_gCn, ↓ws_tryAs, ↓ws_tryO, ↓wp_all_l, ↓wp_any_l, ↓wp_sum_l, ↓wp_hex, ↓wp_dnew, ↓wp_ddisp, ↓wp_dg2, ↓fldAt0, ↓fldAtS, ↓wp_fldI, ↓wp_fldR, ↓wp_stR, ↓ws_fldD, ↓isIns_R, ↓isIns_I, ↓wp_make, ↓wp_frz, ↓wp_frzR, ↓wp_makeF, ↓wp_isiR, ↓wp_isi_l, ↓wp_isi_t, ↓wp_isi_o, ↓wp_isO_o, ↓wp_isO_i, ↓wp_isO_l, ↓wp_isO_t, ↓wp_isO_s, ↓wp_isO_b, ↓wp_isO_n, ↓wp_isN_b, ↓wp_isN_l, ↓wp_isN_t, ↓wp_isN_r, ↓wp_isN_o, ↓wp_notN_b, ↓wp_notN_l, ↓wp_notN_t, ↓wp_notN_r, ↓wp_notN_o, ↓wp_eq_b, ↓wp_ne_b, ↓wp_ixR, ↓wp_lenR, ↓wp_srcR, ↓wp_mlst, ↓wp_appR, ↓isLst_R, ↓wp_lsetW, ↓stLst_R, ↓wp_BN, ↓wp_nList_l, ↓wp_nList_t, ↓wp_nListR, ↓wp_enum, ↓wp_enum0, ↓wp_enumS, ↓wp_enmS, ↓wp_srcE_s, ↓wp_srcE_t, ↓wp_srcE_l, ↓wp_srcER, ↓wp_BK, ↓wp_gUlR, ↓wp_gU3, ↓wp_gU2, ↓wp_lenO, ↓wp_tuple_t, ↓wp_tuple_l, ↓wp_tupleR, ↓wp_intAdd, List.length_cons, List.length_nil, List.cons_append, List.nil_append, List.append_nil, Nat.reduceAdd, Nat.reduceSub, Nat.zero_add, decide_eq_true_eq, Bool.not_eq_true', decide_eq_false_iff_not, Bool.true_eq, Bool.not_true, Bool.not_false, if_true, reduceIte, Bool.false_eq_true, true_and, and_true, Nat.succ_eq_add_one, ↓wp_all_l]
    simp
theorem plain_same : ∀ (n : Nat) (d : D) (S : Store), Plain n d → sameR (n + 1) [d, d] S = .ok (.bl true, S)
  | n, .int i, S, _ => same_int n i S
  | n, .bl i, S, _ => same_bl n i S
  | n, .str i, S, _ => same_str n i S
  | n, .non, S, _ => same_non n S
  | n + 1, .lst ds, S, h => same_sq (n + 1) (b := true) rfl rfl rfl h.1 fun i x y hx hy => by
    rw [hx] at hy; cases hy
    exact plain_same n x S (h.2 x (List.mem_of_getElem? hx))
  | n + 1, .tup ds, S, h => same_sq (n + 1) (b := false) rfl rfl rfl h.1 fun i x y hx hy => by
    rw [hx] at hy; cases hy
    exact plain_same n x S (h.2 x (List.mem_of_getElem? hx))
  | 0, .lst _, _, h => h.elim
  | 0, .tup _, _, h => h.elim
  | n, .ins _ _ _, _, h => by cases n <;> exact h.elim
  | n, .ref _, _, h => by cases n <;> exact h.elim
  | n, .val _, _, h => by cases n <;> exact h.elim
  | n, .bot, _, h => by cases n <;> exact h.elim
  | n, .fln _, _, h => by cases n <;> exact h.elim
  | n, .exn _ _ _ _ _, _, h => by cases n <;> exact h.elim
theorem Plain.mono : ∀ {n m : Nat} {d : D}, Plain n d → n ≤ m → Plain m d
  | n, m, .int _, _, _ => by cases m <;> trivial
  | n, m, .bl _, _, _ => by cases m <;> trivial
  | n, m, .str _, _, _ => by cases m <;> trivial
  | n, m, .non, _, _ => by cases m <;> trivial
  | n + 1, 0, .lst ds, _, l => absurd l (by omega)
  | n + 1, 0, .tup ds, _, l => absurd l (by omega)
  | n + 1, m + 1, .lst ds, h, l => ⟨h.1, fun d hd => Plain.mono (h.2 d hd) (Nat.le_of_succ_le_succ l)⟩
  | n + 1, m + 1, .tup ds, h, l => ⟨h.1, fun d hd => Plain.mono (h.2 d hd) (Nat.le_of_succ_le_succ l)⟩
  | 0, _, .lst _, h, _ => h.elim
  | 0, _, .tup _, h, _ => h.elim
  | n, _, .ins _ _ _, h, _ => by cases n <;> exact h.elim
  | n, _, .ref _, h, _ => by cases n <;> exact h.elim
  | n, _, .val _, h, _ => by cases n <;> exact h.elim
  | n, _, .bot, h, _ => by cases n <;> exact h.elim
  | n, _, .fln _, h, _ => by cases n <;> exact h.elim
  | n, _, .exn _ _ _ _ _, h, _ => by cases n <;> exact h.elim
/-- the same tree, twice -/
theorem same_eq {d : D} {S : Store} (h : Plain 7 d) : sameF [d, d] S = .ok (.bl true, S) := plain_same 7 d S h
theorem wp_same {d : D} {S : Store} {QD : D → Store → Prop} {E : XQ} (h : Plain 7 d) (q : QD (.bl true) S) : wp (sameF [d, d] S) QD E := by rw [same_eq h]; exact q
/-- a cell's list and its tree -/
theorem same_ref {n : Nat} {ds : List D} {S : Store} (e : S[n]? = some (some (.lst ds))) (h : Plain 7 (.lst ds)) : sameF [.ref n, .lst ds] S = .ok (.bl true, S) :=
  same_sq 7 (b := true) (by unfold sqOf; simp only [e]) rfl rfl h.1 fun i x y hx hy => by
    rw [hx] at hy; cases hy
    exact plain_same 6 x S (h.2 x (List.mem_of_getElem? hx))
end DL
namespace DL
open PySem PySem.Spec L2
theorem ixP {xs : List D} {i : Int} (P : D → Prop) (h : ∀ x ∈ xs, P x) (h0 : 0 ≤ i) (h1 : i < xs.length) : ∃ x, atI xs i = some x ∧ P x := by
  have hl : i.toNat < xs.length := by omega
  exact ⟨xs[i.toNat], atI_lt h0 (List.getElem?_eq_getElem hl), h _ (List.getElem_mem hl)⟩
theorem wp_eq2 {α : Type} {o : Oc (α × Store)} {a : α} {S : Store} (h : wp o (fun b S' => b = a ∧ S' = S) NX) : o = .ok (a, S) := wp_eq h
end DL
namespace DL
open PySem PySem.Spec L2
/-! ### side conditions, as rewriting -/
theorem sd_pow (i j : Int) (h0 : 0 ≤ j) (h1 : j ≤ 1000000) (h2 : -18446744073709551616 < i) (h3 : i < 18446744073709551616) : CPow i j = True := eq_true ⟨h0, h1, by omega⟩
theorem sd_div (i j : Int) (h0 : 0 < j) (h1 : j < 18446744073709551616) : CDivW i j = True := eq_true (wide_div (b := 64) h0 (by omega) (by decide) (by decide))
theorem sd_mulR (i j : Int) (h1 : -18446744073709551616 < j) (h2 : j < 18446744073709551616) : MulOk i j = True := eq_true (mulR (by omega) (by omega))
theorem sd_mulL (i j : Int) (h1 : -18446744073709551616 < i) (h2 : i < 18446744073709551616) : MulOk i j = True := eq_true (mulL (by omega) (by omega))
theorem sd_mixR (i a k : Int) : MulOk i (mixI a k) = True := eq_true (mulR (by have := mixI_lo a k; omega) (by have := mixI_hi a k; omega))
theorem sd_mixL (i a k : Int) : MulOk (mixI a k) i = True := eq_true (mulL (by have := mixI_lo a k; omega) (by have := mixI_hi a k; omega))
theorem sd_mmL (i a k m : Int) (h0 : 0 < m) (h : m < 18446744073709551616) : MulOk (mixI a k % m) i = True := eq_true (mulL (by have := Int.emod_nonneg (mixI a k) (show m ≠ 0 by omega); omega) (by have := Int.emod_lt_of_pos (mixI a k) h0; omega))
theorem sd_p3 : (10 : Int) ^ Int.toNat 3 = 1000 := by decide
theorem sd_p6 : (10 : Int) ^ Int.toNat 6 = 1000000 := by decide
theorem sd_p9 : (10 : Int) ^ Int.toNat 9 = 1000000000 := by decide
theorem sd_p10 : (10 : Int) ^ Int.toNat 10 = 10000000000 := by decide
theorem sd_p11 : (10 : Int) ^ Int.toNat 11 = 100000000000 := by decide
theorem sd_p12 : (10 : Int) ^ Int.toNat 12 = 1000000000000 := by decide
theorem sd_sz (n : Nat) : (n ≤ sizeLine) = (n ≤ 16777216) := by unfold sizeLine; rfl
theorem sd_szl (n : Nat) : (n < sizeLine) = (n < 16777216) := by unfold sizeLine; rfl
theorem sd_at0 {α : Type} (a : α) (xs : List α) : atI (a :: xs) 0 = some a := atI_lt (by decide) rfl
theorem sd_at1 {α : Type} (a b : α) (xs : List α) : atI (a :: b :: xs) 1 = some b := atI_lt (by decide) rfl
theorem sd_at2 {α : Type} (a b c : α) (xs : List α) : atI (a :: b :: c :: xs) 2 = some c := atI_lt (by decide) rfl
theorem sd_at3 {α : Type} (a b c d : α) (xs : List α) : atI (a :: b :: c :: d :: xs) 3 = some d := atI_lt (by decide) rfl
theorem sd_at4 {α : Type} (a b c d e : α) (xs : List α) : atI (a :: b :: c :: d :: e :: xs) 4 = some e := atI_lt (by decide) rfl
theorem sd_atL {α : Type} (a : α) (xs : List α) : atI (xs ++ [a]) (-1) = some a := by
  unfold atI ixN
  rw [if_neg (by decide), if_pos (by simp; omega)]
  simp only [List.length_append, List.length_cons, List.length_nil]
  show (xs ++ [a])[_]? = _
  rw [show ((-1 : Int) + ((xs.length + (0 + 1) : Nat) : Int)).toNat = xs.length by omega]
  simp
theorem sd_ex {α : Type} (a : α) (P : α → Prop) : (∃ x, some a = some x ∧ P x) = P a := propext ⟨fun ⟨_, e, h⟩ => by cases e; exact h, fun h => ⟨a, rfl, h⟩⟩
theorem sd_ix0 (n : Nat) : ixN (n + 1) 0 = some 0 := by
  unfold ixN
  rw [if_pos (by decide), if_pos (by omega)]
  rfl
theorem sd_ix1 (n : Nat) : ixN (n + 2) 1 = some 1 := by
  unfold ixN
  rw [if_pos (by decide), if_pos (by omega)]
  rfl
theorem sd_ix2 (n : Nat) : ixN (n + 3) 2 = some 2 := by
  unfold ixN
  rw [if_pos (by decide), if_pos (by omega)]
  rfl
theorem sd_ix3 (n : Nat) : ixN (n + 4) 3 = some 3 := by
  unfold ixN
  rw [if_pos (by decide), if_pos (by omega)]
  rfl
end DL
namespace DL
open PySem PySem.Spec L2
section
variable {S : Store} {δ : Lc} {EQ : XQ} {QL : List D → Store → Prop} {tg : LG} {tt : LT} {el : LE} {acc : List D}
/-! a comprehension over a written list, thing by thing -/
theorem lc_nil : wp (noEx (lcGo (fun _ => True) tg tt el δ [] acc S)) QL EQ = QL acc S := by
  unfold lcGo
  rw [if_pos trivial]
  rfl
theorem lc_cons (x : D) (items : List D) (h : wp (tg x δ S) (fun δ1 S1 => wp (tt δ1 S1) (fun b S2 => if b = true then wp (el δ1 S2) (fun y S3 => acc.length < sizeLine ∧ wp (noEx (lcGo (fun _ => True) tg tt el δ items (acc ++ [y]) S3)) QL EQ) NX else wp (noEx (lcGo (fun _ => True) tg tt el δ items acc S2)) QL EQ) NX) NX) :
    wp (noEx (lcGo (fun _ => True) tg tt el δ (x :: items) acc S)) QL EQ := by
  unfold lcGo
  rw [if_pos trivial]
  cases e : tg x δ S with
  | bad => rw [e] at h; exact h.elim
  | exc c fs S1 => rw [e] at h; exact h.elim
  | ok p =>
    obtain ⟨δ1, S1⟩ := p
    rw [e, wp_ok] at h
    dsimp only at h ⊢
    cases e2 : tt δ1 S1 with
    | bad => rw [e2] at h; exact h.elim
    | exc c fs S1 => rw [e2] at h; exact h.elim
    | ok p =>
      obtain ⟨b, S2⟩ := p
      rw [e2, wp_ok] at h
      dsimp only [Oc.bind]
      cases b with
      | false => exact h
      | true =>
        rw [if_pos rfl] at h ⊢
        cases e3 : el δ1 S2 with
        | bad => rw [e3] at h; exact h.elim
        | exc c fs S1 => rw [e3] at h; exact h.elim
        | ok p =>
          obtain ⟨y, S3⟩ := p
          rw [e3, wp_ok] at h
          obtain ⟨h1, h2⟩ := h
          dsimp only [Oc.bind]
          rw [if_pos h1]
          exact h2
end
theorem set_same {S : Store} {n : Nat} {x : Option Cell} (h : S[n]? = some x) : S.set n x = S := by
  refine List.ext_getElem? fun i => ?_
  by_cases e : n = i
  · subst e
    rw [List.getElem?_set_self (List.getElem?_eq_some_iff.mp h).1, h]
  · rw [List.getElem?_set_ne e]
theorem three {ys : List D} (h : ys.length = 3) : ∃ a b c, ys = [a, b, c] := by
  match ys, h with
  | [a, b, c], _ => exact ⟨a, b, c, rfl⟩
theorem rngL (n : Nat) (lo : Int) (Q : Nat → Prop) : True := trivial
end DL
namespace DL
theorem ty_non_non : Ty.sub .non .non = true := rfl
theorem ty_non_bl : Ty.sub .non .bl = false := rfl
theorem ty_non_int : Ty.sub .non .int = false := rfl
theorem ty_non_str : Ty.sub .non .str = false := rfl
theorem ty_non_lst : Ty.sub .non .lst = false := rfl
theorem ty_non_tup : Ty.sub .non .tup = false := rfl
theorem ty_non_dct : Ty.sub .non .dct = false := rfl
theorem ty_bl_non : Ty.sub .bl .non = false := rfl
theorem ty_bl_bl : Ty.sub .bl .bl = true := rfl
theorem ty_bl_int : Ty.sub .bl .int = true := rfl
theorem ty_bl_str : Ty.sub .bl .str = false := rfl
theorem ty_bl_lst : Ty.sub .bl .lst = false := rfl
theorem ty_bl_tup : Ty.sub .bl .tup = false := rfl
theorem ty_bl_dct : Ty.sub .bl .dct = false := rfl
theorem ty_int_non : Ty.sub .int .non = false := rfl
theorem ty_int_bl : Ty.sub .int .bl = false := rfl
theorem ty_int_int : Ty.sub .int .int = true := rfl
theorem ty_int_str : Ty.sub .int .str = false := rfl
theorem ty_int_lst : Ty.sub .int .lst = false := rfl
theorem ty_int_tup : Ty.sub .int .tup = false := rfl
theorem ty_int_dct : Ty.sub .int .dct = false := rfl
theorem ty_str_non : Ty.sub .str .non = false := rfl
theorem ty_str_bl : Ty.sub .str .bl = false := rfl
theorem ty_str_int : Ty.sub .str .int = false := rfl
theorem ty_str_str : Ty.sub .str .str = true := rfl
theorem ty_str_lst : Ty.sub .str .lst = false := rfl
theorem ty_str_tup : Ty.sub .str .tup = false := rfl
theorem ty_str_dct : Ty.sub .str .dct = false := rfl
theorem ty_lst_non : Ty.sub .lst .non = false := rfl
theorem ty_lst_bl : Ty.sub .lst .bl = false := rfl
theorem ty_lst_int : Ty.sub .lst .int = false := rfl
theorem ty_lst_str : Ty.sub .lst .str = false := rfl
theorem ty_lst_lst : Ty.sub .lst .lst = true := rfl
theorem ty_lst_tup : Ty.sub .lst .tup = false := rfl
theorem ty_lst_dct : Ty.sub .lst .dct = false := rfl
theorem ty_tup_non : Ty.sub .tup .non = false := rfl
theorem ty_tup_bl : Ty.sub .tup .bl = false := rfl
theorem ty_tup_int : Ty.sub .tup .int = false := rfl
theorem ty_tup_str : Ty.sub .tup .str = false := rfl
theorem ty_tup_lst : Ty.sub .tup .lst = false := rfl
theorem ty_tup_tup : Ty.sub .tup .tup = true := rfl
theorem ty_tup_dct : Ty.sub .tup .dct = false := rfl
theorem ty_dct_non : Ty.sub .dct .non = false := rfl
theorem ty_dct_bl : Ty.sub .dct .bl = false := rfl
theorem ty_dct_int : Ty.sub .dct .int = false := rfl
theorem ty_dct_str : Ty.sub .dct .str = false := rfl
theorem ty_dct_lst : Ty.sub .dct .lst = false := rfl
theorem ty_dct_tup : Ty.sub .dct .tup = false := rfl
theorem ty_dct_dct : Ty.sub .dct .dct = true := rfl
end DL

set_option Elab.async false
set_option linter.all false
set_option maxRecDepth 100000
set_option maxHeartbeats 4000000
/-! Data that == may meet: deep enough, and what == tells of it (own work). -/
namespace DL
open PySem PySem.Spec L2
def Dat : Nat → D → Prop
  | _, .non => True
  | _, .bl _ => True
  | _, .int _ => True
  | _, .str z => PyData.strOk z = true
  | n + 1, .lst ds => ∀ d ∈ ds, Dat n d
  | n + 1, .tup ds => ∀ d ∈ ds, Dat n d
  | _, _ => False
theorem dat_list (n : Nat) (ih : ∀ d, Dat n d → ∃ p, toPy d = some p ∧ p.canLay0 = true ∧ p.depth ≤ n + 1 ∧ p.eqv p = true) : ∀ ds : List D, (∀ d ∈ ds, Dat n d) → ∃ ps, toPyL ds = some ps ∧ PyData.canLayAll0 ps = true ∧ PyData.depthAll ps ≤ n + 1 ∧ PyData.eqvAll ps ps = true ∧ (ps = [] ↔ ds = [])
  | [], _ => ⟨[], by unfold toPyL; rfl, by unfold PyData.canLayAll0; rfl, by simp [PyData.depthAll], by unfold PyData.eqvAll; rfl, by simp⟩
  | d :: ds, h => by
    obtain ⟨p, h1, h2, h3, h4⟩ := ih d (h d (List.mem_cons_self ..))
    obtain ⟨ps, e1, e2, e3, e4, _⟩ := dat_list n ih ds fun x hx => h x (List.mem_cons_of_mem _ hx)
    refine ⟨p :: ps, ?_, ?_, ?_, ?_, by simp⟩
    · unfold toPyL
      rw [h1, e1]
    · unfold PyData.canLayAll0
      rw [h2, e2]
      rfl
    · simp only [PyData.depthAll]
      omega
    · unfold PyData.eqvAll
      rw [h4, e4]
      rfl
theorem dat_py : ∀ (n : Nat) (d : D), Dat n d → ∃ p, toPy d = some p ∧ p.canLay0 = true ∧ p.depth ≤ n + 1 ∧ p.eqv p = true := by
  intro n
  induction n with
  | zero =>
    intro d h
    cases d with
    | non => exact ⟨_, by unfold toPy; rfl, by simp only [PyData.canLay0], by simp [PyData.depth], by simp [PyData.eqv]⟩
    | bl b => exact ⟨_, by unfold toPy; rfl, by simp only [PyData.canLay0], by simp [PyData.depth], by simp [PyData.eqv]⟩
    | int i => exact ⟨_, by unfold toPy; rfl, by simp only [PyData.canLay0], by simp [PyData.depth], by simp [PyData.eqv]⟩
    | str z => exact ⟨_, by unfold toPy; rfl, by simp only [PyData.canLay0]; exact h, by simp [PyData.depth], by simp [PyData.eqv]⟩
    | _ => exact (show False from h).elim
  | succ n ih =>
    intro d h
    cases d with
    | non => exact ⟨_, by unfold toPy; rfl, by simp only [PyData.canLay0], by simp [PyData.depth], by simp [PyData.eqv]⟩
    | bl b => exact ⟨_, by unfold toPy; rfl, by simp only [PyData.canLay0], by simp [PyData.depth], by simp [PyData.eqv]⟩
    | int i => exact ⟨_, by unfold toPy; rfl, by simp only [PyData.canLay0], by simp [PyData.depth], by simp [PyData.eqv]⟩
    | str z => exact ⟨_, by unfold toPy; rfl, by simp only [PyData.canLay0]; exact h, by simp [PyData.depth], by simp [PyData.eqv]⟩
    | lst ds =>
      obtain ⟨ps, e1, e2, e3, e4, _⟩ := dat_list n ih ds (show ∀ d ∈ ds, Dat n d from h)
      exact ⟨_, by unfold toPy; rw [e1]; rfl, by simp only [PyData.canLay0]; exact e2, by simp only [PyData.depth]; omega, by simp only [PyData.eqv]; exact e4⟩
    | tup ds =>
      obtain ⟨ps, e1, e2, e3, e4, _⟩ := dat_list n ih ds (show ∀ d ∈ ds, Dat n d from h)
      exact ⟨_, by unfold toPy; rw [e1]; rfl, by simp only [PyData.canLay0]; exact e2, by simp only [PyData.depth]; omega, by simp only [PyData.eqv]; exact e4⟩
    | _ => exact (show False from h).elim
theorem dat_shaped {n : Nat} (hn : n ≤ 60) {d : D} (h : Dat n d) : ∃ p, toPy d = some p ∧ SeqAt.shaped p = true ∧ p.eqv p = true := by
  obtain ⟨p, e1, e2, e3, e4⟩ := dat_py n d h
  refine ⟨p, e1, ?_, e4⟩
  show (PyData.canLay0 p && decide (PyData.depth p ≤ 64)) = true
  rw [Bool.and_eq_true]
  exact ⟨e2, decide_eq_true (by omega)⟩
theorem eqD_nil {S : Store} (xs : List D) (h : Dat 8 (.lst xs)) : eqD (.lst xs) (.lst []) S = some xs.isEmpty := by
  obtain ⟨ps, e1, e2, e3, e4, e5⟩ := dat_list 7 (dat_py 7) xs h
  obtain ⟨p, h1, h2, _⟩ := dat_shaped (by decide) h
  have e0 : toPy (.lst []) = some (.list []) := by unfold toPy toPyL; rfl
  have ep : p = .list ps := by
    unfold toPy at h1
    rw [e1] at h1
    exact (Option.some.inj h1).symm
  have s0 : SeqAt.shaped (.list []) = true := by decide +kernel
  unfold eqD eqS deref
  dsimp only
  rw [h1, e0]
  dsimp only
  rw [if_pos ⟨h2, s0⟩, ep]
  cases xs with
  | nil =>
    rw [e5.mpr rfl]
    simp [PyData.eqv, PyData.eqvAll]
  | cons x xs =>
    cases ps with
    | nil => exact absurd (e5.mp rfl) (by simp)
    | cons q qs => simp [PyData.eqv, PyData.eqvAll]
theorem eqD_refl {S : Store} (d : D) (hd : (∃ ds, d = .lst ds) ∨ ∃ ds, d = .tup ds) (h : Dat 8 d) : eqD d d S = some true := by
  obtain ⟨p, h1, h2, h3⟩ := dat_shaped (by decide) h
  rcases hd with ⟨ds, rfl⟩ | ⟨ds, rfl⟩ <;>
  · unfold eqD eqS deref
    dsimp only
    rw [h1]
    dsimp only
    rw [if_pos ⟨h2, h2⟩, h3]
theorem eqD_R {S : Store} {n : Nat} {xs : List D} (h : S[n]? = some (some (.lst xs))) (e : List D) : eqD (.ref n) (.lst e) S = eqD (.lst xs) (.lst e) S := by
  unfold eqD eqS deref
  dsimp only
  rw [h]
section
variable {E : XQ} {S : Store} {QD : D → Store → Prop}
theorem wp_neNil (xs : List D) (h : Dat 8 (.lst xs)) : wp (dNe (.lst xs) (.lst []) S) QD E = QD (.bl (!xs.isEmpty)) S := by
  unfold dNe
  rw [eqD_nil xs h]
  rfl
theorem wp_eqNil (xs : List D) (h : Dat 8 (.lst xs)) : wp (dEq (.lst xs) (.lst []) S) QD E = QD (.bl xs.isEmpty) S := by
  unfold dEq
  rw [eqD_nil xs h]
  rfl
theorem wp_neNilR (n : Nat) (xs : List D) (h0 : S[n]? = some (some (.lst xs))) (h : Dat 8 (.lst xs)) : wp (dNe (.ref n) (.lst []) S) QD E = QD (.bl (!xs.isEmpty)) S := by
  unfold dNe
  rw [eqD_R h0, eqD_nil xs h]
  rfl
theorem wp_eqNilR (n : Nat) (xs : List D) (h0 : S[n]? = some (some (.lst xs))) (h : Dat 8 (.lst xs)) : wp (dEq (.ref n) (.lst []) S) QD E = QD (.bl xs.isEmpty) S := by
  unfold dEq
  rw [eqD_R h0, eqD_nil xs h]
  rfl
theorem wp_neR (n : Nat) (xs : List D) (h0 : S[n]? = some (some (.lst xs))) (h : Dat 8 (.lst xs)) : wp (dNe (.ref n) (.lst xs) S) QD E = QD (.bl false) S := by
  unfold dNe
  rw [eqD_R h0, eqD_refl _ (.inl ⟨_, rfl⟩) h]
  rfl
theorem wp_eqR (n : Nat) (xs : List D) (h0 : S[n]? = some (some (.lst xs))) (h : Dat 8 (.lst xs)) : wp (dEq (.ref n) (.lst xs) S) QD E = QD (.bl true) S := by
  unfold dEq
  rw [eqD_R h0, eqD_refl _ (.inl ⟨_, rfl⟩) h]
  rfl
theorem wp_neRL (xs : List D) (h : Dat 8 (.lst xs)) : wp (dNe (.lst xs) (.lst xs) S) QD E = QD (.bl false) S := by
  unfold dNe
  rw [eqD_refl _ (.inl ⟨_, rfl⟩) h]
  rfl
theorem wp_neRT (xs : List D) (h : Dat 8 (.tup xs)) : wp (dNe (.tup xs) (.tup xs) S) QD E = QD (.bl false) S := by
  unfold dNe
  rw [eqD_refl _ (.inr ⟨_, rfl⟩) h]
  rfl
theorem dat_ints (ns : List Int) : Dat 8 (.lst (ns.map D.int)) := fun d hd => by
  obtain ⟨i, _, rfl⟩ := List.mem_map.mp hd
  trivial
theorem dat_prs (rs : List (Int × Int)) : Dat 8 (.lst (rs.map prD)) := fun d hd => by
  obtain ⟨i, _, rfl⟩ := List.mem_map.mp hd
  exact fun x hx => by
    simp only [List.mem_cons, List.not_mem_nil, or_false] at hx
    rcases hx with rfl | rfl <;> trivial
end
end DL
namespace DL
open PySem PySem.Spec L2
theorem popAt_lt {xs : List D} {i : Int} {x : D} (h0 : 0 ≤ i) (h1 : i < xs.length) (hl : xs.length ≤ 16777216) (e : atI xs i = some x) : gPopAt xs [.int i] = some (x, xs.eraseIdx i.toNat) := by
  have hx : xs[i.toNat]? = some x := by
    have := List.getElem?_eq_getElem (show i.toNat < xs.length by omega)
    rw [atI_lt h0 this] at e
    rw [this, ← e]
  unfold gPopAt
  dsimp only
  rw [if_pos ⟨by omega, by omega⟩]
  have hs : seqIndex? i xs.length = some i.toNat := by
    unfold seqIndex?
    simp only [show ¬ i < 0 by omega, if_false]
    have : (decide (0 ≤ i) && decide (i < (xs.length : Int))) = true := by
      rw [Bool.and_eq_true]
      exact ⟨decide_eq_true h0, decide_eq_true h1⟩
    rw [this]
    rfl
  rw [hs]
  dsimp only
  rw [hx]
  rfl
theorem isE_map {α : Type} (f : α → D) (xs : List α) : (xs.map f).isEmpty = xs.isEmpty := by cases xs <;> rfl
end DL
namespace DL
theorem map_erase {α β : Type} (f : α → β) : ∀ (xs : List α) (k : Nat), (xs.map f).eraseIdx k = (xs.eraseIdx k).map f
  | [], k => by simp
  | x :: xs, 0 => by simp
  | x :: xs, k + 1 => by
    show f x :: (xs.map f).eraseIdx k = f x :: (xs.eraseIdx k).map f
    rw [map_erase f xs k]
end DL
namespace DL
open PySem PySem.Spec L2
section
variable {E : XQ} {S : Store} {QL : List D → Store → Prop}
theorem wp_nSortedT_R (n : Nat) (ps : List (Int × Int)) (h : S[n]? = some (some (.lst (ps.map prD)))) : wp (nSortedT [.ref n] S) QL E = QL ((sortP ps).map prD) S := by
  have e : nSortedT [.ref n] S = nSortedT [.lst (ps.map prD)] S := by
    show nSorted [.ref n] S = nSorted [.lst (ps.map prD)] S
    unfold nSorted asL
    dsimp only
    rw [h]
  rw [e, wp_nSortedT_l]
end
theorem ixN_last (n : Nat) : ixN (n + 1) (-1) = some n := by
  unfold ixN
  rw [if_neg (by decide), if_pos (by omega)]
  congr 1
  omega
theorem set_last {α : Type} (xs : List α) (x y : α) : (xs ++ [x]).set xs.length y = xs ++ [y] := by simp
end DL
namespace DL
theorem set_lastM {α β : Type} (f : α → β) (xs : List α) (x y : β) : (xs.map f ++ [x]).set xs.length y = xs.map f ++ [y] := by
  have := set_last (xs.map f) x y
  rwa [List.length_map] at this
end DL
namespace DL
theorem noRef_prs (rs : List (Int × Int)) : noRef (.lst (rs.map prD)) = true := by
  unfold noRef
  induction rs with
  | nil => rfl
  | cons p rs ih =>
    rw [List.map_cons, noRefL, ih]
    rfl
end DL

set_option Elab.async false
set_option linter.all false
set_option maxRecDepth 100000
set_option maxHeartbeats 4000000
/-! Rows of numbers, in plain Lean (own work). -/
namespace DL
open PySem PySem.Spec L2
abbrev Rw := List (Int × Int)
def Mem (x : Int) (rs : Rw) : Prop := ∃ p ∈ rs, p.1 ≤ x ∧ x ≤ p.2
/-- rising, parted, no row empty -/
structure Canon (rs : Rw) : Prop where
  row : ∀ p ∈ rs, p.1 ≤ p.2
  gap : rs.Pairwise fun a b => a.2 + 1 < b.1
theorem Mem.nil {x : Int} : ¬ Mem x [] := fun ⟨_, h, _⟩ => nomatch h
theorem Mem.cons {x : Int} {p : Int × Int} {rs : Rw} : Mem x (p :: rs) ↔ (p.1 ≤ x ∧ x ≤ p.2) ∨ Mem x rs := by
  constructor
  · rintro ⟨q, hq, h⟩
    rcases List.mem_cons.mp hq with e | hq
    · subst e; exact .inl h
    · exact .inr ⟨q, hq, h⟩
  · rintro (h | ⟨q, hq, h⟩)
    · exact ⟨p, List.mem_cons_self .., h⟩
    · exact ⟨q, List.mem_cons_of_mem _ hq, h⟩
theorem Mem.append {x : Int} {rs ss : Rw} : Mem x (rs ++ ss) ↔ Mem x rs ∨ Mem x ss := by
  constructor
  · rintro ⟨q, hq, h⟩
    rcases List.mem_append.mp hq with e | e
    · exact .inl ⟨q, e, h⟩
    · exact .inr ⟨q, e, h⟩
  · rintro (⟨q, hq, h⟩ | ⟨q, hq, h⟩)
    · exact ⟨q, List.mem_append_left _ hq, h⟩
    · exact ⟨q, List.mem_append_right _ hq, h⟩
theorem Mem.perm {x : Int} {rs ss : Rw} (h : rs.Perm ss) : Mem x rs ↔ Mem x ss :=
  ⟨fun ⟨p, hp, q⟩ => ⟨p, h.mem_iff.mp hp, q⟩, fun ⟨p, hp, q⟩ => ⟨p, h.mem_iff.mpr hp, q⟩⟩
theorem Canon.nil : Canon [] := ⟨fun _ h => (nomatch h), .nil⟩
theorem Canon.tail {p : Int × Int} {rs : Rw} (c : Canon (p :: rs)) : Canon rs := ⟨fun q hq => c.row q (List.mem_cons_of_mem _ hq), (List.pairwise_cons.mp c.gap).2⟩
theorem Canon.after {p : Int × Int} {rs : Rw} (c : Canon (p :: rs)) {x : Int} (h : Mem x rs) : p.2 + 1 < x := by
  obtain ⟨q, hq, h1, h2⟩ := h
  have := (List.pairwise_cons.mp c.gap).1 q hq
  omega
/-- rows that are so are told by their numbers -/
theorem Canon.uniq : ∀ {rs ss : Rw}, Canon rs → Canon ss → (∀ x, Mem x rs ↔ Mem x ss) → rs = ss
  | [], [], _, _, _ => rfl
  | [], s :: ss, _, c, h => absurd ((h s.1).mpr (Mem.cons.mpr (.inl ⟨Int.le_refl _, c.row s (List.mem_cons_self ..)⟩))) Mem.nil
  | r :: rs, [], c, _, h => absurd ((h r.1).mp (Mem.cons.mpr (.inl ⟨Int.le_refl _, c.row r (List.mem_cons_self ..)⟩))) Mem.nil
  | r :: rs, s :: ss, c, d, h => by
    have cr := c.row r (List.mem_cons_self ..)
    have dr := d.row s (List.mem_cons_self ..)
    have at1 : ∀ x, Mem x (r :: rs) → r.1 ≤ x := fun x hx => by
      rcases Mem.cons.mp hx with q | q
      · exact q.1
      · have := c.after q; omega
    have at2 : ∀ x, Mem x (s :: ss) → s.1 ≤ x := fun x hx => by
      rcases Mem.cons.mp hx with q | q
      · exact q.1
      · have := d.after q; omega
    have m1 : ∀ x, r.1 ≤ x → x ≤ r.2 → Mem x (s :: ss) := fun x h1 h2 => (h x).mp (Mem.cons.mpr (.inl ⟨h1, h2⟩))
    have m2 : ∀ x, s.1 ≤ x → x ≤ s.2 → Mem x (r :: rs) := fun x h1 h2 => (h x).mpr (Mem.cons.mpr (.inl ⟨h1, h2⟩))
    have e1 : r.1 = s.1 := Int.le_antisymm (at1 _ (m2 s.1 (Int.le_refl _) dr)) (at2 _ (m1 r.1 (Int.le_refl _) cr))
    have e2 : r.2 = s.2 := by
      rcases Int.lt_trichotomy r.2 s.2 with q | q | q
      · exfalso
        rcases Mem.cons.mp (m2 (r.2 + 1) (by omega) (by omega)) with z | z
        · omega
        · have := c.after z; omega
      · exact q
      · exfalso
        rcases Mem.cons.mp (m1 (s.2 + 1) (by omega) (by omega)) with z | z
        · omega
        · have := d.after z; omega
    have e : r = s := Prod.ext e1 e2
    subst e
    rw [Canon.uniq c.tail d.tail fun x => ?_]
    have hx := h x
    rw [Mem.cons, Mem.cons] at hx
    constructor
    · intro q
      have := c.after q
      rcases hx.mp (.inr q) with z | z
      · omega
      · exact z
    · intro q
      have := d.after q
      rcases hx.mpr (.inr q) with z | z
      · omega
      · exact z
/-! merging -/
def addRow (found : Rw) (p : Int × Int) : Rw := match found.getLast? with
  | none => [p]
  | some q => if p.1 ≤ q.2 + 1 then found.dropLast ++ [(q.1, if p.2 > q.2 then p.2 else q.2)] else found ++ [p]
def mergeP (rs : Rw) : Rw := (sortP rs).foldl addRow []
def Rows (rs : Rw) : Prop := ∀ p ∈ rs, p.1 ≤ p.2
theorem addRow_nil (p : Int × Int) : addRow [] p = [p] := rfl
theorem addRow_snoc (l : Rw) (q p : Int × Int) : addRow (l ++ [q]) p = if p.1 ≤ q.2 + 1 then l ++ [(q.1, if p.2 > q.2 then p.2 else q.2)] else l ++ [q] ++ [p] := by
  unfold addRow
  rw [List.getLast?_append, List.dropLast_concat]
  rfl
theorem Canon.snoc {l : Rw} {q : Int × Int} : Canon (l ++ [q]) ↔ Canon l ∧ q.1 ≤ q.2 ∧ ∀ p ∈ l, p.2 + 1 < q.1 := by
  constructor
  · intro c
    have z := List.pairwise_append.mp c.gap
    exact ⟨⟨fun p hp => c.row p (List.mem_append_left _ hp), z.1⟩, c.row q (by simp), fun p hp => z.2.2 p hp q (by simp)⟩
  · rintro ⟨c, h1, h2⟩
    refine ⟨fun p hp => ?_, List.pairwise_append.mpr ⟨c.gap, List.pairwise_singleton _ _, fun a ha b hb => ?_⟩⟩
    · rcases List.mem_append.mp hp with e | e
      · exact c.row p e
      · have e : p = q := by simpa using e
        subst e; exact h1
    · have e : b = q := by simpa using hb
      subst e; exact h2 a ha
theorem addRow_ok {l : Rw} {p : Int × Int} (c : Canon l) (hp : p.1 ≤ p.2) (hl : ∀ q ∈ l, q.1 ≤ p.1) : Canon (addRow l p) ∧ (∀ x, Mem x (addRow l p) ↔ Mem x l ∨ (p.1 ≤ x ∧ x ≤ p.2)) ∧ ∀ q ∈ addRow l p, q.1 ≤ p.1 := by
  rcases List.eq_nil_or_concat l with e | ⟨l, q, e⟩
  · subst e
    rw [addRow_nil]
    refine ⟨⟨fun q hq => ?_, List.pairwise_singleton _ _⟩, fun x => ?_, fun q hq => ?_⟩
    · have e : q = p := by simpa using hq
      subst e; exact hp
    · rw [Mem.cons]
      constructor
      · rintro (h | h)
        · exact .inr h
        · exact .inl h
      · rintro (h | h)
        · exact .inr h
        · exact .inl h
    · have e : q = p := by simpa using hq
      subst e; exact Int.le_refl _
  · rw [List.concat_eq_append] at e
    subst e
    rw [addRow_snoc]
    obtain ⟨c0, h1, h2⟩ := Canon.snoc.mp c
    have hq := hl q (by simp)
    by_cases hc : p.1 ≤ q.2 + 1
    · rw [if_pos hc]
      have hm : (if p.2 > q.2 then p.2 else q.2) ≥ q.2 ∧ (if p.2 > q.2 then p.2 else q.2) ≥ p.2 ∧ ((if p.2 > q.2 then p.2 else q.2) = p.2 ∨ (if p.2 > q.2 then p.2 else q.2) = q.2) := by split <;> omega
      generalize (if p.2 > q.2 then p.2 else q.2) = m at hm ⊢
      refine ⟨Canon.snoc.mpr ⟨c0, by dsimp only; omega, h2⟩, fun x => ?_, fun z hz => ?_⟩
      · rw [Mem.append, Mem.append, Mem.cons, Mem.cons]
        constructor
        · rintro (h | h | h)
          · exact .inl (.inl h)
          · by_cases hx : x ≤ q.2
            · exact .inl (.inr (.inl ⟨h.1, hx⟩))
            · have := h.2; dsimp only at this h
              exact .inr ⟨by omega, by omega⟩
          · exact absurd h Mem.nil
        · rintro ((h | h | h) | h)
          · exact .inl h
          · exact .inr (.inl ⟨h.1, by have := h.2; dsimp only; omega⟩)
          · exact absurd h Mem.nil
          · exact .inr (.inl ⟨by have := h.1; dsimp only; omega, by have := h.2; dsimp only; omega⟩)
      · rcases List.mem_append.mp hz with e | e
        · exact hl z (List.mem_append_left _ e)
        · have e : z = (q.1, m) := by simpa using e
          subst e; exact hq
    · rw [if_neg hc]
      refine ⟨Canon.snoc.mpr ⟨c, hp, fun z hz => ?_⟩, fun x => ?_, fun z hz => ?_⟩
      · rcases List.mem_append.mp hz with e | e
        · have := h2 z e; omega
        · have e : z = q := by simpa using e
          subst e; omega
      · rw [Mem.append, Mem.cons]
        constructor
        · rintro (h | h | h)
          · exact .inl h
          · exact .inr h
          · exact absurd h Mem.nil
        · rintro (h | h)
          · exact .inl h
          · exact .inr (.inl h)
      · rcases List.mem_append.mp hz with e | e
        · exact hl z e
        · have e : z = p := by simpa using e
          subst e; exact Int.le_refl _
theorem foldl_ok : ∀ (rs : Rw) (l : Rw), Canon l → Rows rs → rs.Pairwise (fun p q => lexLe p q = true) → (∀ q ∈ l, ∀ p ∈ rs, q.1 ≤ p.1) → Canon (rs.foldl addRow l) ∧ ∀ x, Mem x (rs.foldl addRow l) ↔ Mem x l ∨ Mem x rs
  | [], l, c, _, _, _ => ⟨c, fun x => ⟨.inl, fun h => h.elim id fun z => absurd z Mem.nil⟩⟩
  | p :: rs, l, c, hr, hs, hl => by
    obtain ⟨h1, h2⟩ := List.pairwise_cons.mp hs
    obtain ⟨a1, a2, a3⟩ := addRow_ok c (hr p (List.mem_cons_self ..)) fun q hq => hl q hq p (List.mem_cons_self ..)
    obtain ⟨b1, b2⟩ := foldl_ok rs (addRow l p) a1 (fun q hq => hr q (List.mem_cons_of_mem _ hq)) h2 fun q hq z hz => by
      have e1 := a3 q hq
      have e2 := lexLe_iff.mp (h1 z hz)
      omega
    refine ⟨b1, fun x => ?_⟩
    show Mem x (rs.foldl addRow (addRow l p)) ↔ _
    rw [b2, a2, Mem.cons, or_assoc]
theorem mergeP_ok {rs : Rw} (h : Rows rs) : Canon (mergeP rs) ∧ ∀ x, Mem x (mergeP rs) ↔ Mem x rs := by
  obtain ⟨a, b⟩ := foldl_ok (sortP rs) [] Canon.nil (fun p hp => h p ((sortP_perm rs).mem_iff.mp hp)) (sortP_sorted rs) fun _ h => nomatch h
  refine ⟨a, fun x => ?_⟩
  rw [mergeP, b, Mem.perm (sortP_perm rs)]
  exact ⟨fun h => h.elim (fun z => absurd z Mem.nil) id, .inr⟩
theorem mergeP_uniq {rs ss : Rw} (h : Rows rs) (c : Canon ss) (e : ∀ x, Mem x ss ↔ Mem x rs) : mergeP rs = ss :=
  Canon.uniq (mergeP_ok h).1 c fun x => ((mergeP_ok h).2 x).trans (e x).symm
theorem mergeP_canon {rs : Rw} (c : Canon rs) : mergeP rs = rs := mergeP_uniq c.row c fun _ => Iff.rfl
/-- all rows within 0 .. 10 ** 12 -/
def InN (rs : Rw) : Prop := ∀ p ∈ rs, 0 ≤ p.1 ∧ p.1 ≤ p.2 ∧ p.2 ≤ 1000000000000
theorem InN.rows {rs : Rw} (h : InN rs) : Rows rs := fun p hp => (h p hp).2.1
theorem merge_in {rs : Rw} (h : InN rs) : InN (mergeP rs) := fun p hp => by
  obtain ⟨c, m⟩ := mergeP_ok h.rows
  have hr := c.row p hp
  obtain ⟨q, hq, q1, q2⟩ := (m p.1).mp ⟨p, hp, Int.le_refl _, hr⟩
  obtain ⟨z, hz, z1, z2⟩ := (m p.2).mp ⟨p, hp, hr, Int.le_refl _⟩
  have := h q hq
  have := h z hz
  exact ⟨by omega, hr, by omega⟩
theorem addRow_len (l : Rw) (p : Int × Int) : (addRow l p).length ≤ l.length + 1 := by
  rcases List.eq_nil_or_concat l with e | ⟨l, q, e⟩
  · subst e; simp [addRow]
  · rw [List.concat_eq_append] at e
    subst e
    rw [addRow_snoc]
    split <;> simp
theorem foldl_len : ∀ (rs l : Rw), (rs.foldl addRow l).length ≤ l.length + rs.length
  | [], l => Nat.le_refl _
  | p :: rs, l => by
    have h1 := foldl_len rs (addRow l p)
    have h2 := addRow_len l p
    show (rs.foldl addRow (addRow l p)).length ≤ l.length + (rs.length + 1)
    omega
theorem mergeP_len (rs : Rw) : (mergeP rs).length ≤ rs.length := by
  have h := foldl_len (sortP rs) []
  have e := (sortP_perm rs).length_eq
  unfold mergeP
  simpa [e] using h
end DL

set_option Elab.async false
set_option linter.all false
set_option maxRecDepth 100000
set_option maxHeartbeats 4000000
/-! What is not in the rows, in plain Lean (own work). -/
namespace DL
/-- the program's turn: rows told, where it stands -/
def lackStep (last : Int) (s : Rw × Int) (q : Int × Int) : Rw × Int :=
  (if s.2 < q.1 ∧ s.2 ≤ last then s.1 ++ [(s.2, if q.1 - 1 > last then last else q.1 - 1)] else s.1, if q.2 + 1 > s.2 then q.2 + 1 else s.2)
def lackP (ms : Rw) (first last : Int) : Rw :=
  let s := ms.foldl (lackStep last) ([], first)
  if s.2 ≤ last then s.1 ++ [(s.2, last)] else s.1
/-- the law's turn: each span cut by a row -/
def cutStep (q : Int × Int) (acc : Rw) (r : Int × Int) : Rw :=
  let a := if r.1 < q.1 then acc ++ [(r.1, if q.1 - 1 < r.2 then q.1 - 1 else r.2)] else acc
  if r.2 > q.2 then a ++ [(if q.2 + 1 > r.1 then q.2 + 1 else r.1, r.2)] else a
def cutAll (spans : Rw) (q : Int × Int) : Rw := spans.foldl (cutStep q) []
theorem cut_low (q : Int × Int) (hq : q.1 ≤ q.2) : ∀ (l acc : Rw), (∀ r ∈ l, r.1 < q.1 ∧ r.2 < q.1) → l.foldl (cutStep q) acc = acc ++ l
  | [], acc, _ => by simp
  | r :: l, acc, h => by
    obtain ⟨h1, h2⟩ := h r (List.mem_cons_self ..)
    have e : cutStep q acc r = acc ++ [r] := by
      unfold cutStep
      dsimp only
      rw [if_pos h1, if_neg (by omega), if_neg (by omega)]
    rw [List.foldl_cons, e, cut_low q hq l _ fun x hx => h x (List.mem_cons_of_mem _ hx), List.append_assoc]
    rfl
theorem lack_eq (last : Int) : ∀ (ms rows : Rw) (at_ : Int), Canon ms → (∀ r ∈ rows, ∀ q ∈ ms, r.1 < q.1 ∧ r.2 < q.1) →
    ms.foldl cutAll (if at_ ≤ last then rows ++ [(at_, last)] else rows) = (let s := ms.foldl (lackStep last) (rows, at_); if s.2 ≤ last then s.1 ++ [(s.2, last)] else s.1)
  | [], rows, at_, _, _ => rfl
  | q :: ms, rows, at_, c, h => by
    have hq := c.row q (List.mem_cons_self ..)
    have hg := (List.pairwise_cons.mp c.gap).1
    have hr : ∀ r ∈ rows, r.1 < q.1 ∧ r.2 < q.1 := fun r hr => h r hr q (List.mem_cons_self ..)
    have key : cutAll (if at_ ≤ last then rows ++ [(at_, last)] else rows) q = (let s := lackStep last (rows, at_) q; if s.2 ≤ last then s.1 ++ [(s.2, last)] else s.1) := by
      unfold cutAll lackStep
      dsimp only
      by_cases h1 : at_ ≤ last
      · rw [if_pos h1, List.foldl_append, cut_low q hq rows [] hr, List.nil_append, List.foldl_cons, List.foldl_nil]
        unfold cutStep
        dsimp only
        by_cases h2 : at_ < q.1
        · rw [if_pos h2, if_pos (show at_ < q.1 ∧ at_ ≤ last from ⟨h2, h1⟩)]
          have e1 : (if q.1 - 1 < last then q.1 - 1 else last) = (if q.1 - 1 > last then last else q.1 - 1) := by split <;> split <;> omega
          rw [e1]
          by_cases h3 : last > q.2
          · rw [if_pos h3, if_pos (show (if q.2 + 1 > at_ then q.2 + 1 else at_) ≤ last by split <;> omega)]
          · rw [if_neg h3, if_neg (show ¬ (if q.2 + 1 > at_ then q.2 + 1 else at_) ≤ last by split <;> omega)]
        · rw [if_neg h2, if_neg (show ¬ (at_ < q.1 ∧ at_ ≤ last) from fun z => h2 z.1)]
          by_cases h3 : last > q.2
          · rw [if_pos h3, if_pos (show (if q.2 + 1 > at_ then q.2 + 1 else at_) ≤ last by split <;> omega)]
          · rw [if_neg h3, if_neg (show ¬ (if q.2 + 1 > at_ then q.2 + 1 else at_) ≤ last by split <;> omega)]
      · rw [if_neg h1, cut_low q hq rows [] hr, List.nil_append, if_neg (show ¬ (at_ < q.1 ∧ at_ ≤ last) from fun z => h1 z.2), if_neg (show ¬ (if q.2 + 1 > at_ then q.2 + 1 else at_) ≤ last by split <;> omega)]
    rw [List.foldl_cons, key, List.foldl_cons]
    refine lack_eq last ms _ _ c.tail fun r hr2 t ht => ?_
    have ht1 := hg t ht
    unfold lackStep at hr2
    dsimp only at hr2
    by_cases h2 : at_ < q.1 ∧ at_ ≤ last
    · rw [if_pos h2] at hr2
      rcases List.mem_append.mp hr2 with hr2 | hr2
      · exact h r hr2 t (List.mem_cons_of_mem _ ht)
      · rw [List.mem_singleton] at hr2
        subst hr2
        dsimp only
        refine ⟨by omega, by split <;> omega⟩
    · rw [if_neg h2] at hr2
      exact h r hr2 t (List.mem_cons_of_mem _ ht)
theorem lack_law {ms : Rw} (c : Canon ms) (first last : Int) : ms.foldl cutAll (if last < first then [] else [(first, last)]) = lackP ms first last := by
  have h := lack_eq last ms [] first c fun _ h => nomatch h
  rw [List.nil_append] at h
  unfold lackP
  rw [← h]
  by_cases h1 : first ≤ last
  · rw [if_pos h1, if_neg (by omega)]
  · rw [if_neg h1, if_pos (by omega)]
/-- the gap -/
def gapP (ms : Rw) (start : Int) : Int := match ms with
  | [] => start
  | q :: ms => if q.1 ≤ start ∧ start ≤ q.2 then q.2 + 1 else gapP ms start
theorem gap_ok : ∀ {ms : Rw}, Canon ms → ∀ start, start ≤ gapP ms start ∧ ¬ Mem (gapP ms start) ms ∧ (gapP ms start = start ∨ ∃ p ∈ ms, p.1 ≤ start ∧ p.2 = gapP ms start - 1)
  | [], _, start => ⟨Int.le_refl _, Mem.nil, .inl rfl⟩
  | q :: ms, c, start => by
    obtain ⟨h1, h2, h3⟩ := gap_ok c.tail start
    have hq := c.row q (List.mem_cons_self ..)
    have hg := (List.pairwise_cons.mp c.gap).1
    unfold gapP
    by_cases h : q.1 ≤ start ∧ start ≤ q.2
    · rw [if_pos h]
      refine ⟨by omega, ?_, .inr ⟨q, List.mem_cons_self .., h.1, by omega⟩⟩
      rw [Mem.cons]
      rintro (z | ⟨p, hp, z⟩)
      · omega
      · have := hg p hp
        omega
    · rw [if_neg h]
      refine ⟨h1, ?_, ?_⟩
      · rw [Mem.cons]
        rintro (z | z)
        · rcases h3 with e | ⟨p, hp, e1, e2⟩
          · rw [e] at z
            exact h z
          · have := hg p hp
            have := c.row p (List.mem_cons_of_mem _ hp)
            omega
        · exact h2 z
      · rcases h3 with e | ⟨p, hp, e1, e2⟩
        · exact .inl e
        · exact .inr ⟨p, List.mem_cons_of_mem _ hp, e1, e2⟩
/-- what is left without first .. last -/
def leftP (ms : Rw) (first last : Int) : Rw := (ms.filter fun q => decide (q.1 < first)).map (fun q => (q.1, if first - 1 < q.2 then first - 1 else q.2)) ++ (ms.filter fun q => decide (q.2 > last)).map fun q => (if last + 1 > q.1 then last + 1 else q.1, q.2)
theorem left_ok {ms : Rw} (c : Canon ms) {first last : Int} (h : first ≤ last) : Canon (leftP ms first last) := by
  unfold leftP
  constructor
  · intro p hp
    rcases List.mem_append.mp hp with hp | hp
    · obtain ⟨q, hq, rfl⟩ := List.mem_map.mp hp
      obtain ⟨h1, h2⟩ := List.mem_filter.mp hq
      have := c.row q h1
      have := of_decide_eq_true h2
      dsimp only
      split <;> omega
    · obtain ⟨q, hq, rfl⟩ := List.mem_map.mp hp
      obtain ⟨h1, h2⟩ := List.mem_filter.mp hq
      have := c.row q h1
      have := of_decide_eq_true h2
      dsimp only
      split <;> omega
  · refine List.pairwise_append.mpr ⟨?_, ?_, ?_⟩
    · refine List.pairwise_map.mpr ((c.gap.filter _).imp fun {a b} hab => ?_)
      dsimp only
      split <;> omega
    · refine List.pairwise_map.mpr ((c.gap.filter _).imp fun {a b} hab => ?_)
      dsimp only
      split <;> omega
    · intro a ha b hb
      obtain ⟨q, hq, rfl⟩ := List.mem_map.mp ha
      obtain ⟨t, ht, rfl⟩ := List.mem_map.mp hb
      dsimp only
      split <;> split <;> omega
end DL
namespace DL
theorem gapP_cons (q : Int × Int) (ms : Rw) (i : Int) : gapP (q :: ms) i = if q.1 ≤ i ∧ i ≤ q.2 then q.2 + 1 else gapP ms i := by rw [gapP]
theorem left_len (ms : Rw) (f l : Int) : (leftP ms f l).length ≤ 2 * ms.length := by
  unfold leftP
  have h1 := List.length_filter_le (fun q : Int × Int => decide (q.1 < f)) ms
  have h2 := List.length_filter_le (fun q : Int × Int => decide (q.2 > l)) ms
  rw [List.length_append, List.length_map, List.length_map]
  omega
theorem left_in {ms : Rw} {f l : Int} (hn : InN ms) (h0 : 0 ≤ f) (h1 : f ≤ l) (h2 : l ≤ 1000000000000) : InN (leftP ms f l) := fun p hp => by
  unfold leftP at hp
  rcases List.mem_append.mp hp with hp | hp
  · obtain ⟨q, hq, rfl⟩ := List.mem_map.mp hp
    obtain ⟨g1, g2⟩ := List.mem_filter.mp hq
    have := hn q g1
    have := of_decide_eq_true g2
    dsimp only
    split <;> omega
  · obtain ⟨q, hq, rfl⟩ := List.mem_map.mp hp
    obtain ⟨g1, g2⟩ := List.mem_filter.mp hq
    have := hn q g1
    have := of_decide_eq_true g2
    dsimp only
    split <;> omega
theorem sortP_canon : ∀ {ms : Rw}, Canon ms → sortP ms = ms
  | [], _ => rfl
  | q :: ms, c => by
    show insP q (sortP ms) = _
    rw [sortP_canon c.tail]
    cases ms with
    | nil => rfl
    | cons p ms =>
      have h := (List.pairwise_cons.mp c.gap).1 p (List.mem_cons_self ..)
      have hq := c.row q (List.mem_cons_self ..)
      unfold insP
      rw [if_pos (lexLe_iff.mpr (by omega))]
end DL
namespace DL
theorem Canon.take {ms : Rw} (c : Canon ms) (k : Nat) : Canon (ms.take k) := ⟨fun p hp => c.row p (List.mem_of_mem_take hp), c.gap.sublist (List.take_sublist k ms)⟩
theorem cutStep_len (q : Int × Int) (acc : Rw) (r : Int × Int) : (cutStep q acc r).length ≤ acc.length + 2 := by
  unfold cutStep
  dsimp only
  split <;> split <;> simp
theorem cutFold_len (q : Int × Int) : ∀ (l acc : Rw), (l.foldl (cutStep q) acc).length ≤ acc.length + 2 * l.length
  | [], acc => Nat.le_refl _
  | r :: l, acc => by
    have h1 := cutFold_len q l (cutStep q acc r)
    have h2 := cutStep_len q acc r
    rw [List.foldl_cons, List.length_cons]
    omega
theorem lackStep_len (last : Int) : ∀ (ms : Rw) (s : Rw × Int), (ms.foldl (lackStep last) s).1.length ≤ s.1.length + ms.length
  | [], s => Nat.le_refl _
  | q :: ms, s => by
    have h := lackStep_len last ms (lackStep last s q)
    have h2 : (lackStep last s q).1.length ≤ s.1.length + 1 := by
      unfold lackStep
      dsimp only
      split <;> simp
    rw [List.foldl_cons, List.length_cons]
    omega
theorem lackP_len (ms : Rw) (f l : Int) : (lackP ms f l).length ≤ ms.length + 1 := by
  have h := lackStep_len l ms ([], f)
  simp only [List.length_nil, Nat.zero_add] at h
  unfold lackP
  dsimp only
  split
  · rw [List.length_append]
    simp
    exact h
  · omega
end DL

set_option Elab.async false
set_option linter.all false
set_option maxRecDepth 100000
set_option maxHeartbeats 4000000
/-! Sums by places, in plain Lean (own work). -/
namespace DL
open PySem PySem.Spec L2
def sumW (k : Int) : List Nat → Int
  | [] => 0
  | c :: cs => k * (c : Nat) + sumW (k + 1) cs
theorem sumW_app (k : Int) : ∀ (a b : List Nat), sumW k (a ++ b) = sumW k a + sumW (k + (a.length : Nat)) b
  | [], b => by simp [sumW]
  | c :: a, b => by
    have h := sumW_app (k + 1) a b
    rw [List.cons_append, sumW, sumW, h, List.length_cons]
    have : k + 1 + ((a.length : Nat) : Int) = k + ((a.length + 1 : Nat) : Int) := by omega
    rw [this]
    omega
def totI (n : Int) (l : List Nat) : Int := (7919 * n + sumW 1 l) % 1000000007
theorem mod_ne {a b : Int} (h : a ≠ b) (h1 : a - b < 1000000007) (h2 : b - a < 1000000007) : a % 1000000007 ≠ b % 1000000007 := fun e => by
  omega
theorem tot_one {n : Int} {a b : List Nat} {c d : Nat} (h : c ≠ d) (hc : c ≤ 1000) (hd : d ≤ 1000) (hl : a.length ≤ 100000) : totI n (a ++ c :: b) ≠ totI n (a ++ d :: b) := by
  unfold totI
  rw [sumW_app, sumW_app, sumW, sumW]
  generalize sumW 1 a = s
  generalize sumW (1 + ((a.length : Nat) : Int) + 1) b = t
  have hp : (1 : Int) ≤ 1 + ((a.length : Nat) : Int) := by omega
  have hp2 : 1 + ((a.length : Nat) : Int) ≤ 100001 := by omega
  generalize 1 + ((a.length : Nat) : Int) = p at hp hp2
  have e1 : p * (c : Int) - p * (d : Int) = p * ((c : Int) - (d : Int)) := (Int.mul_sub _ _ _).symm
  have hne : (c : Int) - (d : Int) ≠ 0 := by omega
  have hne2 : p * ((c : Int) - (d : Int)) ≠ 0 := Int.mul_ne_zero (by omega) hne
  have up : p * ((c : Int) - (d : Int)) ≤ 100001 * 1000 := by
    have h1 : p * ((c : Int) - (d : Int)) ≤ p * 1000 := Int.mul_le_mul_of_nonneg_left (by omega) (by omega)
    have h2 : p * 1000 ≤ 100001 * 1000 := Int.mul_le_mul_of_nonneg_right hp2 (by decide)
    omega
  have dn : -(100001 * 1000) ≤ p * ((c : Int) - (d : Int)) := by
    have h1 : p * (-1000) ≤ p * ((c : Int) - (d : Int)) := Int.mul_le_mul_of_nonneg_left (by omega) (by omega)
    omega
  exact mod_ne (by omega) (by omega) (by omega)
theorem tot_swap {n : Int} {a b : List Nat} {c d : Nat} (h : c ≠ d) (hc : c ≤ 1000) (hd : d ≤ 1000) : totI n (a ++ c :: d :: b) ≠ totI n (a ++ d :: c :: b) := by
  unfold totI
  rw [sumW_app, sumW_app, sumW, sumW, sumW, sumW]
  generalize sumW 1 a = s
  generalize sumW (1 + ((a.length : Nat) : Int) + 1 + 1) b = t
  generalize 1 + ((a.length : Nat) : Int) = p
  have e1 : (p + 1) * (c : Int) = p * c + c := by rw [Int.add_mul, Int.one_mul]
  have e2 : (p + 1) * (d : Int) = p * d + d := by rw [Int.add_mul, Int.one_mul]
  rw [e1, e2]
  exact mod_ne (by omega) (by omega) (by omega)
theorem tot_num {n m : Int} {l : List Nat} (h : n ≠ m) (h1 : n - m < 1000000007) (h2 : m - n < 1000000007) : totI n l ≠ totI m l := fun e => by
  unfold totI at e
  omega
end DL
namespace DL
open PySem PySem.Spec L2
def wtsD (k : Int) : List Nat → List Int
  | [] => []
  | c :: cs => k * (c : Nat) :: wtsD (k + 1) cs
theorem wts_sum : ∀ (k : Int) (l : List Nat), (wtsD k l).sum = sumW k l
  | _, [] => rfl
  | k, c :: cs => by rw [wtsD, sumW, List.sum_cons, wts_sum]
def wtF (x : D) : D := match x with
  | .tup [.int k, .str y] => .int (k * (y.cps.getD 0 0 : Nat))
  | _ => .non
theorem wts_map : ∀ (k : Int) (l : List Nat), (enumL k (l.map fun c => D.str ⟨#[c]⟩)).map wtF = (wtsD k l).map D.int
  | _, [] => rfl
  | k, c :: cs => by
    show wtF _ :: (enumL (k + 1) (cs.map fun c => D.str ⟨#[c]⟩)).map wtF = _
    rw [wts_map]
    rfl
theorem mem_enum {k : Int} {ds : List D} {x : D} (h : x ∈ enumL k ds) : ∃ (i : Nat) (d : D), i < ds.length ∧ d ∈ ds ∧ x = .tup [.int (k + (i : Nat)), d] := by
  obtain ⟨i, hi⟩ := List.mem_iff_getElem?.mp h
  rw [enumL_at] at hi
  cases hd : ds[i]? with
  | none => rw [hd] at hi; cases hi
  | some d =>
    rw [hd] at hi
    cases hi
    exact ⟨i, d, (List.getElem?_eq_some_iff.mp hd).1, List.mem_of_getElem? hd, rfl⟩
theorem totI_take (l : List Nat) (k : Nat) (c : Nat) (h : l[k]? = some c) : sumW 1 (l.take (k + 1)) = sumW 1 (l.take k) + (1 + (k : Nat)) * (c : Nat) := by
  have hl := (List.getElem?_eq_some_iff.mp h).1
  rw [List.take_add_one, h]
  show sumW 1 (l.take k ++ [c]) = _
  rw [sumW_app, List.length_take, sumW, sumW, Int.add_zero, Nat.min_eq_left (by omega)]
end DL
namespace DL
open PySem PySem.Spec L2
/-- a text of at most n signs, each a small number -/
def TxO (n : Nat) (z : Str) : Prop := z.length ≤ n ∧ ∀ c ∈ z.cps.toList, c ≤ 1000
theorem ixPn {xs : List Nat} {i : Int} (P : Nat → Prop) (h : ∀ x ∈ xs, P x) (h0 : 0 ≤ i) (h1 : i < xs.length) : ∃ x, atI xs i = some x ∧ P x := by
  have hl : i.toNat < xs.length := by omega
  exact ⟨xs[i.toNat], atI_lt h0 (List.getElem?_eq_getElem hl), h _ (List.getElem_mem hl)⟩
theorem reps_toList (a : Array Nat) : ∀ (m : Nat) (b : Array Nat), ((List.replicate m a).foldl (· ++ ·) b).toList = b.toList ++ (List.replicate m a.toList).flatten
  | 0, b => by simp
  | m + 1, b => by
    rw [List.replicate_succ, List.foldl_cons, reps_toList a m (b ++ a), List.replicate_succ, List.flatten_cons, Array.toList_append, List.append_assoc]
theorem mul_tx {z : Str} {k : Int} {n m : Nat} (h : TxO n z) (hk : k ≤ m) (hm : 1 ≤ m) : TxO (n * m) (Txt.mul z k) := by
  have hnm : n ≤ n * m := Nat.le_mul_of_pos_right n hm
  unfold Txt.mul
  by_cases h1 : k < 1
  · rw [if_pos h1]
    exact ⟨Nat.zero_le _, fun c hc => by cases hc⟩
  · rw [if_neg h1]
    by_cases h2 : (k == 1 || z.length == 0) = true
    · rw [if_pos h2]
      exact ⟨Nat.le_trans h.1 hnm, h.2⟩
    · rw [if_neg h2]
      have e := reps_toList z.cps k.toNat #[]
      rw [show (#[] : Array Nat).toList = [] from rfl, List.nil_append] at e
      refine ⟨?_, fun c hc => ?_⟩
      · show ((List.replicate k.toNat z.cps).foldl (· ++ ·) #[]).toList.length ≤ _
        have hf : ∀ q : Nat, (List.replicate q z.cps.toList).flatten.length = q * z.cps.toList.length := fun q => by
          induction q with
          | zero => simp
          | succ q ih => rw [List.replicate_succ, List.flatten_cons, List.length_append, ih, Nat.succ_mul, Nat.add_comm]
        rw [e, hf]
        have h3 : z.cps.toList.length ≤ n := h.1
        have h4 : k.toNat ≤ m := by omega
        have := Nat.mul_le_mul h4 h3
        rw [Nat.mul_comm n m]
        exact this
      · have hc : c ∈ ((List.replicate k.toNat z.cps).foldl (· ++ ·) #[]).toList := hc
        rw [e] at hc
        obtain ⟨l, hl, hc⟩ := List.mem_flatten.mp hc
        rw [(List.mem_replicate.mp hl).2] at hc
        exact h.2 c hc
end DL
namespace DL
open PySem PySem.Spec L2
def one (c : Nat) : Str := ⟨#[c]⟩
theorem glue_one : ∀ (cs : List Nat) (b : Array Nat), ((cs.map one).foldl (fun acc p => acc ++ ("" : Str).cps ++ p.cps) b).toList = b.toList ++ cs
  | [], b => by simp
  | c :: cs, b => by
    rw [List.map_cons, List.foldl_cons, glue_one cs]
    have e : ("" : Str).cps = #[] := by decide +kernel
    rw [e]
    simp [one]
theorem join_one (cs : List Nat) : (Txt.join ("" : Str) (cs.map one)).cps.toList = cs := by
  cases cs with
  | nil => rfl
  | cons c cs =>
    show (((one c :: cs.map one).drop 1).foldl (fun acc p => acc ++ ("" : Str).cps ++ p.cps) (one c).cps).toList = _
    rw [List.drop_one, List.tail_cons, glue_one]
    rfl
theorem txs_one : ∀ cs : List Nat, txs (cs.map fun c => D.str (one c)) = some (cs.map one)
  | [] => rfl
  | c :: cs => by
    show (txs (cs.map fun c => D.str (one c))).map (one c :: ·) = _
    rw [txs_one cs]
    rfl
theorem one_lens (cs : List Nat) : ((cs.map one).map (·.length)).sum = cs.length := by
  induction cs with
  | nil => rfl
  | cons c cs ih =>
    rw [List.map_cons, List.map_cons, List.sum_cons, ih, List.length_cons]
    show 1 + cs.length = _
    omega
theorem all_ones {Q : Nat → Prop} : ∀ {ys : List D}, (∀ (j : Nat) y, ys[j]? = some y → ∃ c, y = D.str (one c) ∧ Q c) → ∃ cs : List Nat, ys = cs.map (fun c => D.str (one c)) ∧ ∀ c ∈ cs, Q c
  | [], _ => ⟨[], rfl, fun _ h => (nomatch h)⟩
  | y :: ys, h => by
    obtain ⟨p, rfl, hp⟩ := h 0 y rfl
    obtain ⟨rs, rfl, hr⟩ := all_ones fun j z hz => h (j + 1) z hz
    refine ⟨p :: rs, rfl, fun q hq => ?_⟩
    rcases List.mem_cons.mp hq with rfl | hq
    · exact hp
    · exact hr q hq
section
variable {E : XQ} {S : Store} {QD : D → Store → Prop}
theorem wp_join_one (cs : List Nat) (hl : cs.length ≤ 1000000) : wp (mJoin (.str "") [.lst (cs.map fun c => D.str (one c))] S) QD E = QD (.str (Txt.join "" (cs.map one))) S := by
  show wp (match (asS (.lst (cs.map fun c => D.str (one c))) S).bind txs with
    | some ys => if (ys.map (·.length)).sum + ys.length * ("" : Str).length ≤ 16777216 then (.ok (.str (Txt.join "" ys), S) : Oc (D × Store)) else .bad
    | none => .bad) QD E = _
  have e : (asS (.lst (cs.map fun c => D.str (one c))) S).bind txs = some (cs.map one) := by
    show txs _ = _
    exact txs_one cs
  have e0 : ("" : Str).length = 0 := by decide +kernel
  rw [e]
  dsimp only
  rw [if_pos (by rw [one_lens, e0]; omega)]
  rfl
end
end DL
namespace DL
open PySem PySem.Spec L2
theorem cutS_to (z : Str) (k : Nat) : (cutS z none (some (k : Int))).cps.toList = z.cps.toList.take k := by
  unfold cutS
  rw [HT.sIx_nat]
  show (z.cps.toList.drop 0).take (min k z.length - 0) = _
  rw [List.drop_zero, Nat.sub_zero]
  exact List.take_eq_take_min.symm
theorem cutS_from (z : Str) (k : Nat) : (cutS z (some (k : Int)) none).cps.toList = z.cps.toList.drop k := by
  unfold cutS
  rw [HT.sIx_nat]
  show (z.cps.toList.drop (min k z.length)).take (z.length - min k z.length) = _
  have hl : z.cps.toList.length = z.length := rfl
  by_cases h : k ≤ z.length
  · rw [Nat.min_eq_left h, List.take_of_length_le (by rw [List.length_drop, hl]; exact Nat.le_refl _)]
  · rw [Nat.min_eq_right (by omega), Nat.sub_self, List.take_zero, List.drop_eq_nil_of_le (by omega)]
theorem cutS_mid (z : Str) (a b : Nat) : (cutS z (some (a : Int)) (some (b : Int))).cps.toList = (z.cps.toList.drop a).take (b - a) := by
  unfold cutS
  rw [HT.sIx_nat, HT.sIx_nat]
  show (z.cps.toList.drop (min a z.length)).take (min b z.length - min a z.length) = _
  have hl : z.cps.toList.length = z.length := rfl
  by_cases h : a ≤ z.length
  · rw [Nat.min_eq_left h]
    by_cases h2 : b ≤ z.length
    · rw [Nat.min_eq_left h2]
    · rw [Nat.min_eq_right (by omega), List.take_of_length_le (by rw [List.length_drop, hl]; exact Nat.le_refl _), List.take_of_length_le (by rw [List.length_drop, hl]; omega)]
  · rw [Nat.min_eq_right (by omega : z.length ≤ a), List.drop_eq_nil_of_le (by omega), List.drop_eq_nil_of_le (by omega), List.take_nil, List.take_nil]
end DL
namespace DL
open PySem PySem.Spec L2
theorem str_ext {w z : Str} (h : w.cps.toList = z.cps.toList) : w = z := by
  obtain ⟨⟨a⟩⟩ := w
  obtain ⟨⟨b⟩⟩ := z
  cases h
  rfl
theorem app_list (a b : Str) : (a ++ b).cps.toList = a.cps.toList ++ b.cps.toList := by
  show (a.cps ++ b.cps).toList = _
  rw [Array.toList_append]
theorem split_at {l : List Nat} {i x : Nat} (h : l[i]? = some x) : l = l.take i ++ x :: l.drop (i + 1) := by
  obtain ⟨hl, he⟩ := List.getElem?_eq_some_iff.mp h
  rw [← he, ← List.drop_eq_getElem_cons hl, List.take_append_drop]
theorem other1 {z w : Str} {m i d x : Nat} (hz : TxO m z) (hm : m ≤ 100000) (hx : z.cps.toList[i]? = some x) (hd : d ≤ 1000) (hw : w.cps.toList = z.cps.toList.take i ++ d :: z.cps.toList.drop (i + 1)) (hne : w ≠ z) (n : Int) : totI n w.cps.toList ≠ totI n z.cps.toList := by
  have hs := split_at hx
  have hx1 : x ≤ 1000 := hz.2 x (List.mem_of_getElem? hx)
  have hl : (z.cps.toList.take i).length ≤ 100000 := by
    rw [List.length_take]
    have : z.cps.toList.length ≤ m := hz.1
    omega
  have hdx : d ≠ x := fun e => hne (str_ext (by rw [hw, e, ← hs]))
  generalize z.cps.toList.take i = a at hl hs hw
  generalize z.cps.toList.drop (i + 1) = b at hs hw
  rw [hw, hs]
  exact tot_one hdx hd hx1 hl
theorem other2 {z w : Str} {m i x : Nat} (hz : TxO m z) (hx : z.cps.toList[i]? = some x) (hw : w.cps.toList = z.cps.toList.take i ++ ((z.cps.toList.drop (i + 1)).take 1 ++ [x]) ++ z.cps.toList.drop (i + 2)) (hne : w ≠ z) (n : Int) : totI n w.cps.toList ≠ totI n z.cps.toList := by
  have hs := split_at hx
  have hx1 : x ≤ 1000 := hz.2 x (List.mem_of_getElem? hx)
  have ed : z.cps.toList.drop (i + 2) = (z.cps.toList.drop (i + 1)).drop 1 := by rw [List.drop_drop]
  rw [ed] at hw
  have hmem : ∀ c ∈ z.cps.toList.drop (i + 1), c ≤ 1000 := fun c hc => hz.2 c (List.mem_of_mem_drop hc)
  generalize z.cps.toList.drop (i + 1) = b at hs hw hmem
  generalize z.cps.toList.take i = a at hs hw
  cases b with
  | nil =>
    refine absurd (str_ext ?_) hne
    rw [hw, hs]
    simp
  | cons y b =>
    have hw : w.cps.toList = a ++ y :: x :: b := by
      rw [hw]
      simp
    have hy := hmem y (List.mem_cons_self ..)
    have hxy : y ≠ x := fun e => hne (str_ext (by rw [hw, hs, e]))
    rw [hw, hs]
    exact tot_swap hxy hy hx1
end DL
namespace DL
open PySem PySem.Spec L2
theorem wp_sliceS {E : XQ} {S : Store} {QD : D → Store → Prop} (z : Str) (lo hi : Option Int) : wp (sliceD (.str z) lo hi S) QD E = (z.length ≤ sizeLine ∧ QD (.str (cutS z lo hi)) S) := by
  show wp (if z.length ≤ sizeLine then (.ok (.str (cutS z lo hi), S) : Oc (D × Store)) else .bad) QD E = _
  rw [wp_ite, wp_bad, ite_f]
  rfl
end DL
namespace DL
open PySem PySem.Spec L2
theorem app_len (a b : Str) : (a ++ b).length = a.length + b.length := by
  have h := congrArg List.length (app_list a b)
  rw [List.length_append] at h
  exact h
theorem noRef_strs (ws : List Str) : noRef (.lst (ws.map D.str)) = true := by
  unfold noRef
  induction ws with
  | nil => rfl
  | cons w ws ih =>
    rw [List.map_cons, noRefL, ih]
    rfl
end DL
namespace DL
open PySem PySem.Spec L2
theorem atI_get {l : List Nat} {i x : Nat} (h : atI l (i : Int) = some x) (hl : i < l.length) : l[i]? = some x := by
  have e := List.getElem?_eq_getElem hl
  have e2 : l[((i : Int)).toNat]? = some (l[i]'hl) := e
  rw [atI_lt (by omega) e2] at h
  rw [e, h]
end DL

set_option Elab.async false
set_option linter.all false
set_option maxRecDepth 100000
set_option maxHeartbeats 4000000
/-! Texts: cuts and upper of small signs (own work). -/
namespace DL
open PySem PySem.Spec L2
theorem cutS_ex (z : Str) (lo hi : Option Int) : ∃ a n, (cutS z lo hi).cps.toList = (z.cps.toList.drop a).take n := ⟨_, _, by unfold cutS; rfl⟩
theorem cutS_mem {z : Str} {lo hi : Option Int} {c : Nat} (h : c ∈ (cutS z lo hi).cps.toList) : c ∈ z.cps.toList := by
  obtain ⟨a, n, e⟩ := cutS_ex z lo hi
  rw [e] at h
  exact List.mem_of_mem_drop (List.mem_of_mem_take h)
theorem cutS_len (z : Str) (lo hi : Option Int) : (cutS z lo hi).length ≤ z.length := by
  obtain ⟨a, n, e⟩ := cutS_ex z lo hi
  have h1 : (cutS z lo hi).length = (cutS z lo hi).cps.toList.length := rfl
  have h2 : z.length = z.cps.toList.length := rfl
  rw [h1, h2, e, List.length_take, List.length_drop]
  omega
/-- short, of signs below 128 -/
def Tz (m : Nat) (z : Str) : Prop := z.length ≤ m ∧ ∀ c ∈ z.cps.toList, c < 128
theorem Tz.cut {m : Nat} {z : Str} (h : Tz m z) (lo hi : Option Int) : Tz m (cutS z lo hi) := ⟨Nat.le_trans (cutS_len z lo hi) h.1, fun c hc => h.2 c (cutS_mem hc)⟩
theorem Tz.app {m n : Nat} {y z : Str} (h : Tz m y) (g : Tz n z) : Tz (m + n) (y ++ z) := ⟨by rw [app_len]; have := h.1; have := g.1; omega, fun c hc => by
  rw [app_list] at hc
  exact (List.mem_append.mp hc).elim (h.2 c) (g.2 c)⟩
theorem Tz.mono {m n : Nat} {z : Str} (h : Tz m z) (hn : m ≤ n) : Tz n z := ⟨Nat.le_trans h.1 hn, h.2⟩
theorem Tz.one {c : Nat} (h : c < 128) : Tz 1 ⟨#[c]⟩ := ⟨Nat.le_refl _, fun d hd => by
  have hd : d ∈ [c] := hd
  rw [List.mem_singleton] at hd
  omega⟩
def upC (c : Nat) : Nat := if 97 ≤ c ∧ c ≤ 122 then c - 32 else c
theorem upper_128 : ∀ l : List Nat, (∀ c ∈ l, c < 128) → (Txt.upper ⟨l.toArray⟩).cps.toList = l.map upC
  | [], _ => by decide +kernel
  | c :: l, h => by
    have e : (⟨(c :: l).toArray⟩ : Str) = ⟨#[c]⟩ ++ ⟨l.toArray⟩ := str_ext (by rw [app_list]; rfl)
    rw [e, PySem.W.KOpn.upper_app, app_list, upper_128 l (fun d hd => h d (List.mem_cons_of_mem _ hd)), PySem.W.KOpn.upper_one (h c (List.mem_cons_self ..))]
    rfl
theorem Tz.upper {m : Nat} {z : Str} (h : Tz m z) : Tz m (Txt.upper z) := by
  have e := upper_128 z.cps.toList h.2
  have ez : (⟨z.cps.toList.toArray⟩ : Str) = z := str_ext rfl
  rw [ez] at e
  refine ⟨?_, fun c hc => ?_⟩
  · have h1 : (Txt.upper z).length = (Txt.upper z).cps.toList.length := rfl
    rw [h1, e, List.length_map]
    exact h.1
  · rw [e] at hc
    obtain ⟨d, hd, rfl⟩ := List.mem_map.mp hc
    have := h.2 d hd
    unfold upC
    split <;> omega
theorem Tz.ok {m : Nat} {z : Str} (h : Tz m z) : PyData.strOk z = true := by
  unfold PyData.strOk
  rw [Array.all_eq_true]
  intro i hi
  have := h.2 z.cps[i] (by rw [Array.mem_toList_iff]; exact Array.getElem_mem hi)
  exact decide_eq_true (by omega)
end DL

set_option Elab.async false
set_option linter.all false
set_option maxRecDepth 100000
set_option maxHeartbeats 4000000
/-! x != y where the class has an own == and object's != -/
namespace NeO
open PySem PySem.Spec PyProof.Rows
section
variable {M : Model} {prog : Program} {w : World} {A : Around} {E : Value → Shared → Prop} {s : Shared} {h₀ : Heap} {L m : Addr} {K : PySem.W.Frag} {x C f : Addr} {ox : Obj} {od : Option Obj} {b tb : Value}
theorem ifBound_ne {args : List Value} {Q : Option Value → Shared → Prop} (X : K.In s.heap) (I : PySem.W.InstAt s.heap x ox C od) (hs : PySem.W.findIn K (.ref C) "__ne__" = some (some (.builtin "object.__ne__")))
    (h : wpAny M A (call (.builtin "object.__ne__") (.ref x :: args)) (fun v => Q (some v)) E s) : wpAny M A (callSpecialIfBound? (.ref x) "__ne__" args) Q E s := by
  simp only [callSpecialIfBound?, bindSpecialIfBound?]
  refine wpAny_holding (wpAny_bind (wpAny_bind (wpAny_bind (I.type.here ((PySem.W.looks_findIn X hs).here ?_)))))
  refine wpAny_bind (wpAny_askSetting (wpAny_ite ?_))
  have fin : wpAny M A (call (.builtin "object.__ne__") ([.ref x] ++ args) >>= fun v => pure (some v)) Q E s := wpAny_bind (wpAny_mono h (fun v s' h' => wpAny_pure h') fun _ _ h' => h')
  split
  · exact wpAny_bind (wpAny_of_eq (F.cmp_object.ne.bind _) (wpAny_pure (by exact fin)))
  · exact wpAny_tryCatch (wpAny_bind (wpAny_of_eq (F.cmp_object.ne.bind _) (wpAny_pure (by exact fin))))
theorem entry_ne {Q : Fin → Shared → Prop} (hu : A.units < cLine) (X : K.In s.heap) (I : PySem.W.InstAt s.heap x ox C od) (hs : PySem.W.findIn K (.ref C) "__eq__" = some (some (.ref f))) (hf : PySem.W.isFn K (.ref f) = true)
    (hcall : wpAny (model prog w) A (call (.ref f) [.ref x, b]) (fun v s' => ∃ r, v = .bool r ∧ Q (.done (.ret (.bool (!r)))) s') E s) : wpAny (model prog w) A (Builtin.«object.__ne__» ⟨[.ref x, b], []⟩) Q E s := by
  obtain ⟨h, g, d, t, os⟩ := s
  unfold Builtin.«object.__ne__»
  repeat (first
    | with_reducible refine wpAny_cRoomFor hu ?_
    | (refine wpAny_bind (m := callSpecialIfBound? (.ref x) (Str.ofString "__eq__") [b])
        (PySem.W.ifBound_K X I hs hf (wpAny_mono hcall (fun r s' hr => by
          obtain ⟨b, rfl, hq⟩ := hr
          repeat (first | exact hq | exact wpAny_pure hq | exact wpAny_truthy_bool hq | (refine wpAny_bind (m := truthy (.bool _)) (wpAny_truthy_bool ?_)) | wp_step)) fun _ _ e => e)))
    | wp_step)
end
end NeO
namespace NeO
open PySem PySem.Spec PyProof.Rows
section
variable {M : Model} {prog : Program} {w : World} {A : Around} {E : Value → Shared → Prop} {s : Shared} {K : PySem.W.Frag} {x C f : Addr} {ox : Obj} {od : Option Obj} {b tb : Value}
theorem call_ne {Q : Value → Shared → Prop} (hu : A.in1.units < cLine) (X : K.In s.heap) (I : PySem.W.InstAt s.heap x ox C od) (hm : PySem.W.mroIn K C (.type "object") = some true) (hs : PySem.W.findIn K (.ref C) "__eq__" = some (some (.ref f))) (hf : PySem.W.isFn K (.ref f) = true)
    (hcall : wpAny (model prog w) A.in1 (call (.ref f) [.ref x, b]) (fun v s' => ∃ r, v = .bool r ∧ Q (.bool (!r)) s') E s) : wpAny (model prog w) A (call (.builtin "object.__ne__") [.ref x, b]) Q E s :=
  wpAny_call (codeAny_call_builtin F.cmp_object.ne.plain F.cmpEntry_ne (PySem.W.check_slot F.cmpKind_ne F.cmpSplit_ne (I.type.andThen (PySem.W.looks_mroIn X hm)) (F.cmpArgs_ne _ _) (entry_ne hu X I hs hf hcall)))
theorem ne_K {Q : Value → Shared → Prop} (hu : A.units < cLine) (hu1 : A.in1.units < cLine) (X : K.In s.heap) (I : PySem.W.InstAt s.heap x ox C od) (hb : PySem.W.Looks (model prog w) s.heap (typeOf b) tb) (hn : PySem.W.notFirst K C tb = true) (hm : PySem.W.mroIn K C (.type "object") = some true)
    (hs : PySem.W.findIn K (.ref C) "__eq__" = some (some (.ref f))) (hf : PySem.W.isFn K (.ref f) = true) (hne : PySem.W.findIn K (.ref C) "__ne__" = some (some (.builtin "object.__ne__")))
    (h : wpAny (model prog w) A.in1 (call (.ref f) [.ref x, b]) (fun v s' => ∃ r, v = .bool r ∧ Q (.bool (!r)) s') E s) : wpAny (model prog w) A (richCompare .NotEq (.ref x) b) Q E s := by
  have one : wpAny (model prog w) A (tryCompare (.ref x) "__ne__" b) (fun r s' => ∃ v, r = some v ∧ Q v s') E s := by
    unfold tryCompare
    refine wpAny_bind (ifBound_ne X I hne (call_ne hu1 X I hm hs hf (wpAny_mono h (fun v s' hv => ?_) fun _ _ e => e)))
    obtain ⟨r, rfl, q⟩ := hv
    exact ⟨r, rfl, wpAny_pure ⟨_, rfl, q⟩⟩
  unfold richCompare
  simp only [oneThing_ref]
  refine wpAny_holding (wpAny_bind (wpAny_cRoomFor hu ?_))
  refine wpAny_bind (I.type.here (wpAny_bind (hb.here ?_)))
  split
  · rename_i q
    have e : PySem.W.subIn K tb (.ref C) = some false := by
      rcases Bool.or_eq_true_iff.mp hn with e | e
      · rw [beq_iff_eq.mp e] at q; simp at q
      · exact beq_iff_eq.mp e
    refine wpAny_bind ((PySem.W.looks_subIn X e).here ?_)
    simp only [Bool.false_eq_true, if_false]
    refine wpAny_bind (wpAny_mono one (fun r s' z => ?_) fun _ _ e => e)
    obtain ⟨v, rfl, hq⟩ := z
    exact wpAny_pure hq
  · refine wpAny_bind (wpAny_pure ?_)
    simp only [Bool.false_eq_true, if_false]
    refine wpAny_bind (wpAny_mono one (fun r s' z => ?_) fun _ _ e => e)
    obtain ⟨v, rfl, hq⟩ := z
    exact wpAny_pure hq
end
end NeO
namespace DL
open PySem PySem.Spec L2
variable {Fr : Hp}
/-! ### == and != by an own __eq__ -/
/-- x is of class C; y of that class too, or of a built-in type -/
def rEqO (K : PySem.W.Frag) (C : Addr) (neg : Bool) (sp : Sp) : R2 := fun x y H Q => ∃ a dx fs, x = .ref a ∧ H a = some (.ins C dx fs) ∧ PySem.W.mroIn K C (.type "object") = some true ∧
  ((∃ b dx fs, y = .ref b ∧ H b = some (.ins C dx fs)) ∨ ∃ T : Ty, TyX K H y (.type T.nm)) ∧ sp [x, y] H (fun v H3 => ∃ b, v = .bl b ∧ Q (.bl (if neg then !b else b)) H3) (fun _ _ _ => False)
theorem sub_ty {K : PySem.W.Frag} {C : Addr} (T : Ty) : PySem.W.subIn K (.type T.nm) (.ref C) = some false := by
  have e : ∃ l : List String, fastBuiltinMro T.nm = some (l.map Value.type) := by
    cases T
    · exact ⟨["NoneType", "object"], by decide +kernel⟩
    · exact ⟨["bool", "int", "object"], by decide +kernel⟩
    · exact ⟨["int", "object"], by decide +kernel⟩
    · exact ⟨["str", "object"], by decide +kernel⟩
    · exact ⟨["list", "object"], by decide +kernel⟩
    · exact ⟨["tuple", "object"], by decide +kernel⟩
    · exact ⟨["dict", "object"], by decide +kernel⟩
  obtain ⟨l, e⟩ := e
  show (fastBuiltinMro T.nm).map (·.contains (.ref C)) = some false
  rw [e]
  show some ((l.map Value.type).contains (.ref C)) = some false
  congr 1
  clear e
  induction l with
  | nil => rfl
  | cons x l ih =>
    rw [List.map_cons, List.contains_cons, ih]
    rfl
section
variable {X : Cx} {W : WX} {k : Nat} {f : Addr} {fd : FuncData} {ps : List Str} {sp : Sp} {C : Addr}
theorem pass_no (tk : Takes X W) (σ : L2.St) : PassesAt (L2.CX X.prog X.w) X σ (fun _ _ _ => False) := fun _ _ _ e s' I c => tk e s' (XE.of_call I (fun _ _ _ h => h.elim) c)
theorem eqo_looks {pins : List (Addr × Obj)} {σ : L2.St} {H : Hp} {s : Shared} {y : V} {u : Value} (I : Inv X pins σ H s) (ry : RelV y u) (t : (∃ b dx fs, y = .ref b ∧ H b = some (.ins C dx fs)) ∨ ∃ T : Ty, TyX X.K H y (.type T.nm)) :
    ∃ tb, PySem.W.Looks (model X.prog X.w) s.heap (typeOf u) tb ∧ PySem.W.notFirst X.K C tb = true := by
  rcases t with ⟨b, dx, fs, rfl, hb⟩ | ⟨T, hT⟩
  · cases ry
    obtain ⟨mB, J, _⟩ := ins_get I.hok hb
    obtain ⟨od, J, _⟩ := J.look
    exact ⟨_, J.type, by simp [PySem.W.notFirst]⟩
  · obtain ⟨P, k, hp, _⟩ := kit_of I ry hT
    exact ⟨_, k.ty _ _ I.kIn hp, by unfold PySem.W.notFirst; rw [sub_ty]; simp⟩
theorem op_eqO (c : Ctc X W (k + 1)) (hM : Meth X.K C "__eq__" f) (F : FnOk X.prog X.w X.K X.mg X.base (L2.CX X.prog X.w) k f fd ps sp) (hb : Binds X.K fd ps []) : OpR X (compareOp .Eq) (rEqO X.K C false sp) := by
  intro pins s σ H x y v u Q I rx ry hq
  obtain ⟨a, dx, fs, rfl, ha, hm, ht, hq⟩ := hq
  obtain ⟨tb, hl, hn⟩ := eqo_looks I ry ht
  cases rx
  obtain ⟨mA, J, _⟩ := ins_get I.hok ha
  obtain ⟨od, J, _⟩ := J.look
  obtain ⟨m, hF⟩ := I.fr
  have sb : Sub X k X.A := ⟨c.hr.mono (Nat.le_succ k), rfl⟩
  show wpAny (model X.prog X.w) X.A (richCompare .Eq _ u) (EP X pins σ Q) X.xe s
  refine PySem.W.cmp_K (op := .Eq) (tb := tb) sb.room.units0 hF I.ok.mod.kin J hl hn hM.at_ hM.fn (thn (run_sub F sb hb (E := fun _ _ _ _ => False) (pass_no c.tk σ) I (.cons (show RelV (.ref a) (.ref a) from rfl) (.cons ry .nil)) hq) fun v s2 ⟨x, H2, I2, rx, b, ex, q⟩ => ?_)
  subst ex
  cases rx
  exact ⟨.bl b, H2, I2, rfl, q⟩
theorem op_neO (c : Ctc X W (k + 1)) (hM : Meth X.K C "__eq__" f) (hne : PySem.W.findIn X.K (.ref C) "__ne__" = some (some (.builtin "object.__ne__"))) (F : FnOk X.prog X.w X.K X.mg X.base (L2.CX X.prog X.w) k f fd ps sp) (hb : Binds X.K fd ps []) : OpR X (compareOp .NotEq) (rEqO X.K C true sp) := by
  intro pins s σ H x y v u Q I rx ry hq
  obtain ⟨a, dx, fs, rfl, ha, hm, ht, hq⟩ := hq
  obtain ⟨tb, hl, hn⟩ := eqo_looks I ry ht
  cases rx
  obtain ⟨mA, J, _⟩ := ins_get I.hok ha
  obtain ⟨od, J, _⟩ := J.look
  have sb0 : Sub X (k + 1) X.A := ⟨c.hr, rfl⟩
  have sb : Sub X k X.A.in1 := Sub.in1 ⟨c.hr, rfl⟩
  show wpAny (model X.prog X.w) X.A (richCompare .NotEq _ u) (EP X pins σ Q) X.xe s
  refine NeO.ne_K (tb := tb) sb0.room.units0 sb.room.units0 I.kIn J hl hn hm hM.at_ hM.fn hne (thn (run_sub F sb hb (E := fun _ _ _ _ => False) (pass_no c.tk σ) I (.cons (show RelV (.ref a) (.ref a) from rfl) (.cons ry .nil)) hq) fun v s2 ⟨x, H2, I2, rx, b, ex, q⟩ => ?_)
  subst ex
  cases rx
  exact ⟨b, rfl, .bl (!b), H2, I2, rfl, q⟩
end
def okEq (c : Str) (e : D) (S : Store) : Bool := isIns c e S || (match tyOf e S with | some (.b _) => true | _ => false)
def dEqO (c : Str) (neg : Bool) (F : Fn) : F2 := fun d e S => if isIns c d S = true ∧ okEq c e S = true then (match F [d, e] S with
  | .ok (.bl b, S') => .ok (.bl (if neg then !b else b), S')
  | _ => .bad) else .bad
theorem eqO_op {K : PySem.W.Frag} (c : Str) (neg : Bool) (F : Fn) : Op2 K (rEqO K (He.ga K c) neg (SpD K 2 F)) (dEqO c neg F) := fun Fr S ι R H d e x y Q E ab rx ry w => by
  unfold dEqO at w
  by_cases h : isIns c d S = true ∧ okEq c e S = true
  · rw [if_pos h] at w
    obtain ⟨h1, h2⟩ := h
    unfold isIns at h1
    cases e1 : insOf d S with
    | none => rw [e1] at h1; cases h1
    | some q =>
      obtain ⟨c', ns, ds⟩ := q
      rw [e1] at h1
      have hc : c' = c := of_decide_eq_true h1
      subst hc
      obtain ⟨a, dx, fs, e2, e3, io, _⟩ := insOf_ok ab rx e1
      refine ⟨a, dx, fs, e2, e3, io.isi.hm, ?_, rfl, [d, e], S, ι, R, Fr, ab, repL_cons rx (repL_cons ry repL_nil), ?_⟩
      · unfold okEq at h2
        rcases Bool.or_eq_true_iff.mp h2 with h2 | h2
        · obtain ⟨b, dx, fs, e4, e5⟩ := isIns_ok ab ry h2
          exact .inl ⟨b, dx, fs, e4, e5⟩
        · cases e4 : tyOf e S with
          | none => rw [e4] at h2; cases h2
          | some t =>
            cases t with
            | own c => rw [e4] at h2; cases h2
            | b T => exact .inr ⟨T, tyOf_ok ab ry e4⟩
      · cases e4 : F [d, e] S with
        | bad => rw [e4] at w; exact w.elim
        | exc c fs S' => rw [e4] at w; exact w.elim
        | ok q =>
          obtain ⟨r, S'⟩ := q
          rw [e4] at w
          cases r with
          | bl b =>
            intro v ι2 R2 H2 st ab2 rv
            unfold Rep at rv
            subst rv
            exact ⟨b, rfl, w (.bl (if neg then !b else b)) ι2 R2 H2 st ab2 (by unfold Rep; rfl)⟩
          | _ => exact w.elim
  · rw [if_neg h] at w
    exact w.elim
section
variable {X : Cx} {W : WX} {k : Nat} {a : Addr} {fd : FuncData} {ps : List Str} {F : Fn} {e1 e2 : Expr} {g1 g2 : LE} {pos : Pos}
theorem de_eqO (cn : Str) (c : Ctc X W (k + 1)) (hM : Meth X.K (He.ga X.K cn) "__eq__" a) (hF : FnD X.prog X.w X.K X.mg X.base k a fd ps F) (hp : ps.length = 2) (hb : Bnd X.K fd ps []) (h1 : DE X W e1 g1) (h2 : DE X W e2 g2) (hm : behindInMarks .Eq e2 = false := by rfl) :
    DE X W (.Compare e1 [.Eq] [e2] pos) (x2 (dEqO cn false F) g1 g2) := by
  obtain ⟨ds0, hd0, hb⟩ := hb
  cases hd0
  have hF' : FnOk X.prog X.w X.K X.mg X.base (L2.CX X.prog X.w) k a fd ps (SpD X.K 2 F) := by rw [← hp]; exact hF
  exact de_cmp (eqO_op cn false F) (op_eqO c hM hF' hb) h1 h2 hm
theorem dt_eqO (cn : Str) (c : Ctc X W (k + 1)) (hM : Meth X.K (He.ga X.K cn) "__eq__" a) (hF : FnD X.prog X.w X.K X.mg X.base k a fd ps F) (hp : ps.length = 2) (hb : Bnd X.K fd ps []) (h1 : DE X W e1 g1) (h2 : DE X W e2 g2) (hm : behindInMarks .Eq e2 = false := by rfl) :
    DT X W (.Compare e1 [.Eq] [e2] pos) (tB (x2 (dEqO cn false F) g1 g2)) := by
  obtain ⟨ds0, hd0, hb⟩ := hb
  cases hd0
  have hF' : FnOk X.prog X.w X.K X.mg X.base (L2.CX X.prog X.w) k a fd ps (SpD X.K 2 F) := by rw [← hp]; exact hF
  exact dt_cmp (eqO_op cn false F) (op_eqO c hM hF' hb) h1 h2 hm
theorem de_neO (cn : Str) (c : Ctc X W (k + 1)) (hM : Meth X.K (He.ga X.K cn) "__eq__" a) (hne : PySem.W.findIn X.K (.ref (He.ga X.K cn)) "__ne__" = some (some (.builtin "object.__ne__"))) (hF : FnD X.prog X.w X.K X.mg X.base k a fd ps F) (hp : ps.length = 2) (hb : Bnd X.K fd ps []) (h1 : DE X W e1 g1) (h2 : DE X W e2 g2) (hm : behindInMarks .NotEq e2 = false := by rfl) :
    DE X W (.Compare e1 [.NotEq] [e2] pos) (x2 (dEqO cn true F) g1 g2) := by
  obtain ⟨ds0, hd0, hb⟩ := hb
  cases hd0
  have hF' : FnOk X.prog X.w X.K X.mg X.base (L2.CX X.prog X.w) k a fd ps (SpD X.K 2 F) := by rw [← hp]; exact hF
  exact de_cmp (eqO_op cn true F) (op_neO c hM hne hF' hb) h1 h2 hm
theorem dt_neO (cn : Str) (c : Ctc X W (k + 1)) (hM : Meth X.K (He.ga X.K cn) "__eq__" a) (hne : PySem.W.findIn X.K (.ref (He.ga X.K cn)) "__ne__" = some (some (.builtin "object.__ne__"))) (hF : FnD X.prog X.w X.K X.mg X.base k a fd ps F) (hp : ps.length = 2) (hb : Bnd X.K fd ps []) (h1 : DE X W e1 g1) (h2 : DE X W e2 g2) (hm : behindInMarks .NotEq e2 = false := by rfl) :
    DT X W (.Compare e1 [.NotEq] [e2] pos) (tB (x2 (dEqO cn true F) g1 g2)) := by
  obtain ⟨ds0, hd0, hb⟩ := hb
  cases hd0
  have hF' : FnOk X.prog X.w X.K X.mg X.base (L2.CX X.prog X.w) k a fd ps (SpD X.K 2 F) := by rw [← hp]; exact hF
  exact dt_cmp (eqO_op cn true F) (op_neO c hM hne hF' hb) h1 h2 hm
end
section
variable {E : XQ} {S : Store} {QD : D → Store → Prop}
theorem wp_eqO {c : Str} {neg : Bool} {F : Fn} {d e : D} {b : Bool} {S' : Store} (h1 : isIns c d S = true) (h2 : okEq c e S = true) (h3 : F [d, e] S = .ok (.bl b, S')) : wp (dEqO c neg F d e S) QD E = QD (.bl (if neg then !b else b)) S' := by
  unfold dEqO
  rw [if_pos ⟨h1, h2⟩, h3]
  rfl
end
end DL

set_option Elab.async false
set_option linter.all false
set_option maxRecDepth 100000
set_option maxHeartbeats 4000000
/-! A def that raises nothing, called within an except suite (own work; after the kit's def that may raise there). -/
namespace DL
open PySem PySem.Spec PyProof.Rows L2 L2H
variable {Fr : Hp}
def noE : XK := fun _ _ _ => False
/-- the context of such a def's body -/
abbrev cxW (P : Program) (w : World) (K : PySem.W.Frag) (mg : Str → Option Value) (base : Heap) (N : List Str) (qual : Str) (scope : Scope) (f : Addr) (cd : Value) (A : Around) (outer : List Env) (s : Shared) (H : Hp) : Cx :=
  { cxOf (L2.CX P w) P w K mg base N qual scope f cd A outer s H noE with calm := false }
structure FnW (P : Program) (w : World) (K : PySem.W.Frag) (mg : Str → Option Value) (base : Heap) (k : Nat) (f : Addr) (fd : FuncData) (ps : List Str) (sp : Sp) : Prop where
  len : ∀ vs H Q E, sp vs H Q E → vs.length = ps.length
  run : ∀ (A : Around) (outer : List Env) (s : Shared) (H : Hp) (args : Args) (us : List Value) (vs : List V) (Q : VK), RoomH k A → Env0 P w K mg base A outer s H → BindsTo s fd args (ps.zip us) → Vals vs us → sp vs H Q noE →
    codeAny (model P w) A (.call (.ref f) args) (CR (L2.CX P w) outer P w H s Q noE) s
theorem FnW.mono {P : Program} {w : World} {K : PySem.W.Frag} {mg : Str → Option Value} {base : Heap} {j k : Nat} {f : Addr} {fd : FuncData} {ps : List Str} {sp : Sp} (F : FnW P w K mg base j f fd ps sp) (h : j ≤ k) : FnW P w K mg base k f fd ps sp :=
  ⟨F.len, fun A outer s H args us vs Q hr => F.run A outer s H args us vs Q (hr.mono h)⟩
theorem inv_startW {P : Program} {w : World} {K : PySem.W.Frag} {mg : Str → Option Value} {base : Heap} {N ps : List Str} {qual : Str} {scope : Scope} {f : Addr} {cd : Value} {A : Around} {outer : List Env} {s s1 : Shared} {H : Hp} {us : List Value} {vs : List V}
    (S : FnScope N ps scope) (e0 : Env0 P w K mg base A outer s H) (hl : vs.length = ps.length) (r : Vals vs us)
    (x : InCallC s s.heap.objs.size (bindL (envOfC qual scope s.heap.objs.size f cd).kindOf (ps.zip us) fun _ => none) (cellsFrom (s.heap.objs.size + 1) scope.names []) (bindC (envOfC qual scope s.heap.objs.size f cd).kindOf (ps.zip us) fun _ => none) s1) :
    Inv (cxW P w K mg base N qual scope f cd A outer s H) [] (L2.start N vs) H s1 := by
  have hpl : ps.length ≤ N.length := by have := congrArg List.length S.pre; rw [List.length_take] at this; omega
  obtain ⟨h1, tk, rfl, hk⟩ := x.done
  have noA : ∀ b : Addr, b ∉ (cxW P w K mg base N qual scope f cd A outer s H).ex := fun b z => absurd (show b ∈ ([] : List Addr) from z) (by simp)
  refine ⟨⟨e0.mod, S.kind, rfl, rfl, Nat.le_refl _, fun y z c h1 h2 => ?_, fun y hy => ?_, fun y c _ h => ?_, (fun z => Bool.noConfusion (show false = true from z)), Around.frames_deeper e0.frames, .inr ⟨rfl, rfl⟩, fun b z => absurd z (noA b), e0.bs, e0.bsz, fun b _ _ => noA b, fun b z => absurd z (noA b), e0.funs, e0.frf⟩,
    rfl, e0.bare, Un.kept hk, ⟨_, x.toInCall.ns, fun i y v h1 h2 h3 => ?_⟩, fun y c h => ⟨_, x.cell y c h⟩, e0.hok.fresh (Nat.le_refl _), fun y c h => ?_, fun q hq => absurd (show q ∈ ([] : List (Addr × Obj)) from hq) (by simp), e0.hok.kept hk, ?_⟩
  · exact name_of_addr x.apart (PySem.mem_of_lookup h1) (PySem.mem_of_lookup h2)
  · have hy : scope.names.lookup y = some .cell ∨ scope.names.lookup y = some .free := hy
    rcases hy with hy | hy
    · exact cell_has hy
    · exact absurd rfl (S.nofree _ (PySem.mem_of_lookup hy))
  · exact Nat.le_of_lt (x.above y c (PySem.mem_of_lookup h))
  · have hi : i < vs.length := by
      unfold L2.start at h2
      by_cases hi : i < vs.length
      · exact hi
      · rw [List.getElem?_append_right (by simpa using hi)] at h2
        rw [List.getElem?_replicate] at h2
        split at h2 <;> cases h2
    have ha : vs[i]? = some v := by
      unfold L2.start at h2
      rw [List.getElem?_append_left (by simpa using hi), List.getElem?_map] at h2
      cases e : vs[i]? with
      | none => rw [e] at h2; cases h2
      | some a => rw [e] at h2; cases h2; rfl
    obtain ⟨u, hu, rv⟩ := r.get ha
    have hp : ps[i]? = some y := by
      rw [← S.pre, List.getElem?_take_of_lt (by omega)]; exact h1
    have ndP : ps.Nodup := by rw [← S.pre]; exact S.nd.sublist (List.take_sublist _ _)
    refine ⟨u, rv, ?_⟩
    rcases S.par y (List.mem_of_getElem? hp) with k | k
    · exact .inl ⟨k, bindL_get ndP hp hu k⟩
    · obtain ⟨c, e⟩ := cell_has (n := s.heap.objs.size + 1) k
      refine .inr ⟨.inl k, c, e, ?_⟩
      have q := x.cell y c e
      rw [bindC_get ndP hp hu (by show scope.names.lookup y ≠ _; rw [k]; decide)] at q
      exact q
  · exact e0.hok.fresh (Nat.le_of_lt (x.above y c (PySem.mem_of_lookup h)))
  · unfold L2.start
    show _ = N.length
    rw [List.length_append, List.length_map, List.length_replicate]
    omega
theorem fn_ofW {P : Program} {w : World} {K : PySem.W.Frag} {mg : Str → Option Value} {base : Heap} {k : Nat} {f : Addr} {name qual : Str} {params : Arguments} {body : List Stmt} {scope : Scope} {dV kV doc pm cdv ct oc : Value} {an od : Option Addr}
    {osl : Array (Option Value)} {N ps : List Str} {sp : Sp} (lk : K.lookup f = some ⟨oc, od, .func (PySem.W.fnOf name qual params body scope dV kV doc pm an cdv ct), osl⟩) (hcd : PySem.W.codeIn K cdv qual = true) (S : FnScope N ps scope)
    (len : ∀ vs H Q E, sp vs H Q E → vs.length = ps.length)
    (hbody : ∀ (A : Around) (outer : List Env) (s : Shared) (H : Hp) (vs : List V) (Q : VK), RoomH k (A.deeper (envOfC qual scope s.heap.objs.size f cdv)) → sp vs H Q noE →
      ∃ t, PSs (cxW P w K mg base N qual scope f cdv A outer s H) body t ∧ t { nx := fun _ H' => Q .non H', rt := Q } (L2.start N vs) H) :
    FnW P w K mg base (k + 1) f (PySem.W.fnOf name qual params body scope dV kV doc pm an cdv ct) ps sp := by
  refine ⟨len, fun A outer s H args us vs Q hr e0 hb r hsp => ?_⟩
  have hl := len _ _ _ _ hsp
  have KX : K.In s.heap := e0.mod.kin.keeps fun b o e => (e0.bs b o e).1
  have lim : s.heap.NoLimit := e0.mod.nolimit.keeps fun b o e => (e0.bs b o e).1
  have hkind : ∀ y ∈ ps.zip us, scope.names.lookup y.1 = some .local ∨ (scope.names.lookup y.1 = some .cell ∧ ((cellsFrom (s.heap.objs.size + 1) scope.names []).lookup y.1).isSome = true) := fun ⟨n, v⟩ hy => by
    rcases S.par n (List.of_mem_zip hy).1 with q | q
    · exact .inl q
    · exact .inr ⟨q, PySem.W.cellsFrom_some _ _ _ (.inl q)⟩
  refine codeAny_call_function hr.depth (KX _ _ lk) rfl S.co S.gen rfl (PySem.W.codeRec_of KX hcd) (hb _ _ _ _ ?_)
  refine wpAny_newFunctionEnv_cells S.kind hkind fun env he s1 x => ?_
  subst he
  refine ⟨lim.keeps x.toInCall.keep, codeAny_func ?_⟩
  obtain ⟨t, ht, hq⟩ := hbody A outer s H vs Q (hr.deeper _) hsp
  have I : Inv (cxW P w K mg base N qual scope f cdv A outer s H) [] (L2.start N vs) H s1 := inv_startW S e0 hl r x
  refine wpAny_mono (ht.run [] s1 (L2.start N vs) H _ I hq) (fun fl s' hs => ?_) fun e s' hs => hs
  have fin : ∀ {σ' : L2.St} {H' : Hp} {v : V} {u : Value}, Inv (cxW P w K mg base N qual scope f cdv A outer s H) [] σ' H' s' → RelV v u → Q v H' → CE outer P w H s Q u s' :=
    fun {σ' H' v u} J rv q => ⟨v, H', J.os, J.bare, J.base, J.hok, rv, q⟩
  cases fl with
  | ret u =>
    obtain ⟨v, σ', H', J, rv, q⟩ := hs
    exact fin J rv q
  | next =>
    obtain ⟨σ', H', J, q⟩ := hs
    exact fin (v := V.non) (u := Value.none) J rfl q
  | brk =>
    obtain ⟨_, _, _, q⟩ := hs
    exact False.elim q
  | cont =>
    obtain ⟨_, _, _, q⟩ := hs
    exact False.elim q
section
variable {X : Cx} {k : Nat} {f : Addr} {fd : FuncData} {ps : List Str} {sp : Sp} {x : Str} {q pos : Pos} {e : Expr} {es : List Expr} {t : TA}
theorem run_fnW {pins : List (Addr × Obj)} {σ : L2.St} {H : Hp} {s : Shared} {Q : VK} {us : List Value} {vs : List V} (F : FnW X.prog X.w X.K X.mg X.base k f fd ps sp) (hr : RoomH k X.A) (hb : Binds X.K fd ps []) (hx : PassesAt (L2.CX X.prog X.w) X σ noE)
    (I : Inv X pins σ H s) (r : Vals vs us) (h : sp vs H Q noE) : wpAny (model X.prog X.w) X.A (call (.ref f) us) (EP X pins σ Q) X.xe s := by
  have hl : us.length = ps.length := by rw [← r.length]; exact F.len _ _ _ _ h
  have b := hb s us I.kIn (by rw [List.append_nil]; exact hl)
  rw [List.append_nil] at b
  refine wpAny_call (codeAny_mono (F.run X.A X.stack s H ⟨us, []⟩ us vs Q hr I.env0 b r h) fun r s' hq => ?_)
  cases r with
  | error e => exact hx pins H s e s' I hq
  | ok fl =>
    cases fl with
    | ret u => exact I.after hq
    | next => exact False.elim hq
    | brk => exact False.elim hq
    | cont => exact False.elim hq
theorem pe_callW (F : FnW X.prog X.w X.K X.mg X.base k f fd ps sp) (hr : RoomH k X.A) (hg : Gl X x) (hm : X.mg x = some (.ref f)) (hk : PySem.W.keepIn X.K (.ref f) = true) (hb : Binds X.K fd ps []) (hx : ∀ σ, PassesAt (L2.CX X.prog X.w) X σ noE)
    (ha : PA X (e :: es) t) (hdb : (x == ("__debug__" : Str)) = false := by decide) (he : starEach (e :: es) X.env = (false, eval e X.env) :: starEach es X.env := by rfl) (hpl : (backTo pos (starEach es X.env)).any (·.1) = false := by rfl) :
    PE X (.Call (.Name x q) (e :: es) [] pos) (fun σ H Q => t σ H fun vs H1 => sp vs H1 Q noE) := by
  refine ⟨fun pins s σ H Q I h => ?_⟩
  refine wpAny_Call_Name_kw (ld_glob I hg hm ?_ hdb)
  refine PySem.W.callWith_K (h₀ := X.base) I.ok.mod.kin hk (thn (ha.run pos pins s σ H _ I h) fun us s1 ⟨vs, H1, I1, r, q⟩ => ⟨I1.kIn, ?_⟩) he hpl
  exact run_fnW F hr hb (hx σ) I1 r q
end
/-! ### by meaning -/
abbrev FnWD (P : Program) (w : World) (K : PySem.W.Frag) (mg : Str → Option Value) (base : Heap) (k : Nat) (f : Addr) (fd : FuncData) (ps : List Str) (F : Fn) : Prop := FnW P w K mg base k f fd ps (SpD K ps.length F)
theorem fn_okW {P : Program} {w : World} {K : PySem.W.Frag} {mg : Str → Option Value} {base : Heap} {x qual : Str} {params : Arguments} {body : List Stmt} {scope : Scope} {dvs : List V} {kws : List (Str × V)} {f : Addr} {fd : FuncData} {N ps : List Str} {k : Nat} {g : LS}
    (F : FunD K x qual params body scope dvs kws f fd) (S : FnScope N ps scope)
    (hbody : ∀ (cdv : Value) (A : Around) (outer : List Env) (s : Shared) (H : Hp),
      RoomH k (A.deeper (envOfC qual scope s.heap.objs.size f cdv)) → DSs (cxW P w K mg base N qual scope f cdv A outer s H) WF body g) :
    FnWD P w K mg base (k + 1) f fd ps (bodyD N.length g) := by
  obtain ⟨oc, od, dV, kV, doc, pm, an, cdv, ct, osl, rfl, lk, hcd, _, _⟩ := F.ex
  refine fn_ofW lk hcd S (fun vs H Q E h => h.1) fun A outer s H vs Q hr h => ⟨_, hbody cdv A outer s H hr, ?_⟩
  obtain ⟨_, ds, S', ι, R, Fr, ab, rs, w⟩ := h
  refine ⟨_, S', ι, R, Fr, ab, locs_start (N := N) rs, ?_⟩
  unfold bodyD at w
  cases e : g (ds.map some ++ List.replicate (N.length - ds.length) none) S' with
  | bad => rw [e] at w; exact w
  | exc c fs δ S2 => rw [e] at w; exact fun σ dx ι' R' H' st ab' lo xr => w dx ι' R' H' st ab' xr
  | ok fl δ S2 =>
    rw [e] at w
    cases fl with
    | nx => exact fun σ ι' R' H' st ab' lo => w .non ι' R' H' st ab' rep_non
    | brk => exact w.elim
    | cont => exact w.elim
    | ret d => exact fun v ι' R' H' st ab' r => w v ι' R' H' st ab' r
/-- statements of which nothing is promised -/
def sBad : LS := fun _ _ => .bad
theorem dss_bad {X : Cx} {W : WX} {sts : List Stmt} : DSs X W sts sBad := ⟨fun pins s σ H D I ⟨δ, S, ι, R, Fr, ab, lo, w⟩ => False.elim w⟩
theorem ds_bad {X : Cx} {W : WX} {st : Stmt} : DS X W st sBad := ⟨fun pins s σ H D I ⟨δ, S, ι, R, Fr, ab, lo, w⟩ => False.elim w⟩
section
variable {X : Cx} {W : WX} {k : Nat} {a b : Expr} {ga gb : LE} {pos : Pos}
theorem or_eqU (hu : X.A.units + 64 < cLine) : OpR X (compareOp .Eq) (rEqA X.K) := OpR.or op_eq (op_eqD hu)
theorem or_neU (hu : X.A.units + 64 < cLine) : OpR X (compareOp .NotEq) (rNeA X.K) := OpR.or op_ne (op_neD hu)
theorem hot_un {A : Around} (r : RoomH k A) : A.units + 64 < cLine := by have := r.un; omega
theorem de_eqU (hr : RoomH k X.A) (ha : DE X W a ga) (hb : DE X W b gb) : DE X W (.Compare a [.Eq] [b] pos) (x2 dEq ga gb) := de_cmp eq_sound (or_eqU (hot_un hr)) ha hb (nomark _)
theorem de_neU (hr : RoomH k X.A) (ha : DE X W a ga) (hb : DE X W b gb) : DE X W (.Compare a [.NotEq] [b] pos) (x2 dNe ga gb) := de_cmp ne_sound (or_neU (hot_un hr)) ha hb (nomark _)
theorem dt_eqU (hr : RoomH k X.A) (ha : DE X W a ga) (hb : DE X W b gb) : DT X W (.Compare a [.Eq] [b] pos) (tB (x2 dEq ga gb)) := dt_cmp eq_sound (or_eqU (hot_un hr)) ha hb (nomark _)
theorem dt_neU (hr : RoomH k X.A) (ha : DE X W a ga) (hb : DE X W b gb) : DT X W (.Compare a [.NotEq] [b] pos) (tB (x2 dNe ga gb)) := dt_cmp ne_sound (or_neU (hot_un hr)) ha hb (nomark _)
end
section
variable {X : Cx} {k n : Nat} {a : Addr} {fd : FuncData} {ps : List Str} {F : Fn} {x : Str} {p pos : Pos} {e : Expr} {es : List Expr} {g : LA}
theorem room_suite {Y : Cx} {b : Addr} {pn : List (Addr × Obj)} (r : Room k Y.A) : RoomH k (Y.suite b pn).A := ⟨r.dp, r.un⟩
theorem de_callW (hr : RoomH k X.A) (hF : FnWD X.prog X.w X.K X.mg X.base k a fd ps F) (hm : X.mg x = some (.ref a)) (hk : PySem.W.keepIn X.K (.ref a) = true) (hb : Binds X.K fd ps [])
    (ha : DA X WF (e :: es) g) (hg : Gl X x := by rfl) (hdb : (x == ("__debug__" : Str)) = false := by decide) (he : starEach (e :: es) X.env = (false, eval e X.env) :: starEach es X.env := by rfl) (hpl : (backTo pos (starEach es X.env)).any (·.1) = false := by rfl) :
    DE X WF (.Call (.Name x p) (e :: es) [] pos) (xCall ps.length F [] g) :=
  PE.imp (pe_callW hF hr hg hm hk hb (fun σ => pass_no takes0 σ) ha hdb he hpl) fun σ H Q w =>
    cO.bind (rel := RepL X.K) (rel2 := Rep X.K) (f := fun ds (_ : Lc) S1 => if (ds ++ ([] : List D)).length = ps.length then F (ds ++ ([] : List D)) S1 else .bad) w fun ds vs δ S1 ι1 R1 Fr H1 ab lo rs w1 => by
      have z := spD_of (dvs := []) ab rs konstL_nil w1
      rw [List.append_nil] at z
      exact z
end
end DL

set_option Elab.async false
set_option linter.all false
set_option maxRecDepth 100000
set_option maxHeartbeats 4000000
/-! == and != of two lists as long as each other, of data, or of cells that are the same ones (own work). -/
namespace DL
open PySem PySem.Spec L2
variable {Fr : Hp}
/-- what == tells of two things side by side: the very same cell, or data -/
def pairOk (S : Store) (d e : D) : Option Bool := match d, e with
  | .ref m, .ref n => (match S[m]? with
    | some (some _) => if m = n then some true else none
    | _ => none)
  | d, e => match toPy d, toPy e with
    | some p, some q => if SeqAt.shaped p = true ∧ SeqAt.shaped q = true then some (PyData.eqv p q) else none
    | _, _ => none
def pairsOk (S : Store) : List D → List D → Option (List Bool)
  | [], [] => some []
  | d :: ds, e :: es => match pairOk S d e, pairsOk S ds es with
    | some b, some bs => some (b :: bs)
    | _, _ => none
  | _, _ => none
/-- the same of the machine's values -/
inductive Prs (K : PySem.W.Frag) (H : Hp) : List V → List V → List Bool → Prop
  | nil : Prs K H [] [] []
  | same {a : Addr} {xs ys bs} (t : Prs K H xs ys bs) : Prs K H (.ref a :: xs) (.ref a :: ys) (true :: bs)
  | data {x y p q xs ys bs} (h1 : Dp K H x p) (h2 : Dp K H y q) (s1 : SeqAt.shaped p = true) (s2 : SeqAt.shaped q = true) (t : Prs K H xs ys bs) : Prs K H (x :: xs) (y :: ys) (PyData.eqv p q :: bs)
theorem Prs.len {K : PySem.W.Frag} {H : Hp} {xs ys : List V} {bs : List Bool} (h : Prs K H xs ys bs) : xs.length = bs.length ∧ ys.length = bs.length := by
  induction h with
  | nil => exact ⟨rfl, rfl⟩
  | same t ih => exact ⟨by rw [List.length_cons, List.length_cons, ih.1], by rw [List.length_cons, List.length_cons, ih.2]⟩
  | data h1 h2 s1 s2 t ih => exact ⟨by rw [List.length_cons, List.length_cons, ih.1], by rw [List.length_cons, List.length_cons, ih.2]⟩
theorem pairOk_ref {S : Store} {m : Nat} {e : D} {b : Bool} (h : pairOk S (.ref m) e = some b) : e = .ref m ∧ b = true ∧ ∃ c, S[m]? = some (some c) := by
  cases e with
  | ref n =>
    unfold pairOk at h
    dsimp only at h
    cases h1 : S[m]? with
    | none => rw [h1] at h; cases h
    | some o =>
      cases o with
      | none => rw [h1] at h; cases h
      | some c =>
        rw [h1] at h
        dsimp only at h
        by_cases hm : m = n
        · rw [if_pos hm] at h
          cases h
          exact ⟨by rw [hm], rfl, c, rfl⟩
        · rw [if_neg hm] at h
          cases h
  | _ => unfold pairOk toPy at h; cases h
theorem pairOk_data {S : Store} {d e : D} {b : Bool} (h : pairOk S d e = some b) (hd : ∀ m, d ≠ .ref m) : ∃ p q, toPy d = some p ∧ toPy e = some q ∧ SeqAt.shaped p = true ∧ SeqAt.shaped q = true ∧ PyData.eqv p q = b := by
  have h' : (match toPy d, toPy e with
    | some p, some q => if SeqAt.shaped p = true ∧ SeqAt.shaped q = true then some (PyData.eqv p q) else none
    | _, _ => none) = some b := by
    cases d with
    | ref m => exact absurd rfl (hd m)
    | _ => cases e <;> exact h
  cases h1 : toPy d with
  | none => rw [h1] at h'; cases h'
  | some p =>
    cases h2 : toPy e with
    | none => rw [h1, h2] at h'; cases h'
    | some q =>
      rw [h1, h2] at h'
      dsimp only at h'
      by_cases hs : SeqAt.shaped p = true ∧ SeqAt.shaped q = true
      · rw [if_pos hs] at h'
        cases h'
        exact ⟨p, q, rfl, rfl, hs.1, hs.2, rfl⟩
      · rw [if_neg hs] at h'
        cases h'
theorem pairs_ok {K : PySem.W.Frag} {R H : Hp} {S : Store} {ι : Nat → Addr} (ab : Ab K Fr S ι R H) : ∀ {ds es : List D} {xs ys : List V} {bs : List Bool}, pairsOk S ds es = some bs → RepL K R S ι ds xs → RepL K R S ι es ys → Prs K H xs ys bs
  | [], [], xs, ys, bs, h, r1, r2 => by
    unfold RepL at r1 r2
    unfold pairsOk at h
    cases h
    subst r1 r2
    exact .nil
  | [], e :: es, _, _, _, h, _, _ => by unfold pairsOk at h; cases h
  | d :: ds, [], _, _, _, h, _, _ => by unfold pairsOk at h; cases h
  | d :: ds, e :: es, xs, ys, bs, h, r1, r2 => by
    unfold pairsOk at h
    cases h1 : pairOk S d e with
    | none => rw [h1] at h; cases h
    | some b =>
      cases h2 : pairsOk S ds es with
      | none => rw [h1, h2] at h; cases h
      | some bs' =>
        rw [h1, h2] at h
        cases h
        unfold RepL at r1 r2
        obtain ⟨x, xs', rfl, rx, rxs⟩ := r1
        obtain ⟨y, ys', rfl, ry, rys⟩ := r2
        have t := pairs_ok ab h2 rxs rys
        by_cases hd : ∃ m, d = .ref m
        · obtain ⟨m, rfl⟩ := hd
          obtain ⟨rfl, rfl, c, hc⟩ := pairOk_ref h1
          unfold Rep at rx ry
          obtain ⟨a1, rfl, _, q1⟩ := rx
          obtain ⟨a2, rfl, _, q2⟩ := ry
          have e1 := q1 ⟨_, hc⟩
          have e2 := q2 ⟨_, hc⟩
          subst e1 e2
          exact .same t
        · obtain ⟨p, q, p1, p2, s1, s2, rfl⟩ := pairOk_data h1 fun m e => hd ⟨m, e⟩
          exact .data (toPy_ok ab p1 rx) (toPy_ok ab p2 ry) s1 s2 t
def rEqI (K : PySem.W.Frag) (neg : Bool) : R2 := fun x y H Q => ∃ a b xs ys bs, x = .ref a ∧ y = .ref b ∧ SqL K H a xs ∧ SqL K H b ys ∧ Prs K H xs ys bs ∧ Q (.bl (if neg then !bs.all id else bs.all id)) H
section
variable {X : Cx} {pins : List (Addr × Obj)} {σ : L2.St} {H : Hp} {s : Shared}
theorem prs_eqAt (I : Inv X pins σ H s) (A : Around) (hu : A.units + 64 < cLine) : ∀ {xs ys : List V} {bs : List Bool}, Prs X.K H xs ys bs → ∀ {us vs : List Value}, Vals xs us → Vals ys vs → ∀ j (h1 : j < us.length) (h2 : j < vs.length), SeqAt.EqAt A s us[j] vs[j] (bs.getD j true)
  | _, _, _, .nil, us, vs, r1, r2, j, h1, h2 => by
    cases r1
    exact absurd h1 (Nat.not_lt_zero j)
  | _, _, _, .same t, us, vs, r1, r2, j, h1, h2 => by
    cases r1 with
    | cons a1 b1 =>
      cases r2 with
      | cons a2 b2 =>
        cases j with
        | zero =>
          cases a1
          cases a2
          exact SeqAt.EqAt.same _
        | succ j => exact prs_eqAt I A hu t b1 b2 j (by simpa using h1) (by simpa using h2)
  | _, _, _, .data p1 p2 s1 s2 t, us, vs, r1, r2, j, h1, h2 => by
    cases r1 with
    | cons a1 b1 =>
      cases r2 with
      | cons a2 b2 =>
        cases j with
        | zero =>
          obtain ⟨as, q1⟩ := Dp.reads I _ _ _ p1 a1
          obtain ⟨bs, q2⟩ := Dp.reads I _ _ _ p2 a2
          exact SeqAt.eqAt_reads _ _ A s _ _ as bs q1 q2 (SeqAt.canLay_of_shaped s1) (SeqAt.canLay_of_shaped s2) (SeqAt.room_of_shaped s1 hu)
        | succ j => exact prs_eqAt I A hu t b1 b2 j (by simpa using h1) (by simpa using h2)
theorem all_getD : ∀ (bs : List Bool), (List.range bs.length).all (fun j => bs.getD j true) = bs.all id
  | [] => rfl
  | b :: bs => by
    rw [List.length_cons, List.range_succ_eq_map, List.all_cons, List.all_map, List.all_cons, ← all_getD bs]
    rfl
end
section
variable {X : Cx}
theorem op_eqI (hu : X.A.units + 200 < cLine) : OpR X (compareOp .Eq) (rEqI X.K false) := by
  intro pins s σ H x y v u Q I rx ry h
  obtain ⟨a, b, xs, ys, bs, rfl, rfl, ha, hb, hp, q⟩ := h
  cases rx
  cases ry
  obtain ⟨us, r1, ⟨o1, n1, ho1, hc1, _, hd1⟩, _⟩ := I.list ha
  obtain ⟨vs, r2, ⟨o2, n2, ho2, hc2, _, hd2⟩, _⟩ := I.list hb
  have e1 : us.length = bs.length := r1.length.symm.trans hp.len.1
  have e2 : vs.length = bs.length := r2.length.symm.trans hp.len.2
  refine SeqAt.eq_listAt (e := fun j => bs.getD j true) ⟨o1, ho1, hc1, n1, hd1⟩ ⟨o2, ho2, hc2, n2, hd2⟩ (by simp [e1, e2]) (by omega) (fun j h1 h2 => prs_eqAt I X.A.in1 (by show X.A.units + 1 + 64 < cLine; omega) hp r1 r2 j (by simpa using h1) (by simpa using h2)) ?_
  refine ⟨.bl (bs.all id), H, I, ?_, q⟩
  show Value.bool _ = Value.bool _
  rw [← all_getD bs]
  simp [e1]
theorem op_neI (hu : X.A.units + 200 < cLine) : OpR X (compareOp .NotEq) (rEqI X.K true) := by
  intro pins s σ H x y v u Q I rx ry h
  obtain ⟨a, b, xs, ys, bs, rfl, rfl, ha, hb, hp, q⟩ := h
  cases rx
  cases ry
  obtain ⟨us, r1, ⟨o1, n1, ho1, hc1, _, hd1⟩, _⟩ := I.list ha
  obtain ⟨vs, r2, ⟨o2, n2, ho2, hc2, _, hd2⟩, _⟩ := I.list hb
  have e1 : us.length = bs.length := r1.length.symm.trans hp.len.1
  have e2 : vs.length = bs.length := r2.length.symm.trans hp.len.2
  refine SeqAt.RcNeAt.lists (s := s) (e := fun j => bs.getD j true) ⟨o1, ho1, hc1, n1, hd1⟩ ⟨o2, ho2, hc2, n2, hd2⟩ (by simp [e1, e2]) (by omega) (fun j h1 h2 => prs_eqAt I X.A.in1 (by show X.A.units + 1 + 64 < cLine; omega) hp r1 r2 j (by simpa using h1) (by simpa using h2)) _ _ _ _ ?_
  refine ⟨.bl (!bs.all id), H, I, ?_, q⟩
  show Value.bool _ = Value.bool _
  rw [← all_getD bs]
  simp [e1]
end
def dEqI (neg : Bool) : F2 := fun d e S => match asL d S, asL e S with
  | some ds, some es => (match pairsOk S ds es with
    | some bs => .ok (.bl (if neg then !bs.all id else bs.all id), S)
    | none => .bad)
  | _, _ => .bad
theorem eqI_op {K : PySem.W.Frag} (neg : Bool) : Op2 K (rEqI K neg) (dEqI neg) := fun Fr S ι R H d e x y Q E ab rx ry w => by
  unfold dEqI at w
  cases h1 : asL d S with
  | none => rw [h1] at w; exact w.elim
  | some ds =>
    cases h2 : asL e S with
    | none => rw [h1, h2] at w; exact w.elim
    | some es =>
      rw [h1, h2] at w
      dsimp only at w
      cases h3 : pairsOk S ds es with
      | none => rw [h3] at w; exact w.elim
      | some bs =>
        rw [h3] at w
        obtain ⟨a, xs, rfl, hs1, r1⟩ := asL_ok ab rx h1
        obtain ⟨b, ys, rfl, hs2, r2⟩ := asL_ok ab ry h2
        exact ⟨a, b, xs, ys, bs, rfl, rfl, hs1, hs2, pairs_ok ab h3 r1 r2, w.ok ab (by unfold Rep; rfl)⟩
section
variable {X : Cx} {W : WX} {k : Nat} {a b : Expr} {ga gb : LE} {pos : Pos}
theorem de_eqI (c : Ctc X W k) (ha : DE X W a ga) (hb : DE X W b gb) : DE X W (.Compare a [.Eq] [b] pos) (x2 (dEqI false) ga gb) := de_cmp (eqI_op false) (op_eqI (by have := c.hr.un; omega)) ha hb (nomark _)
theorem dt_eqI (c : Ctc X W k) (ha : DE X W a ga) (hb : DE X W b gb) : DT X W (.Compare a [.Eq] [b] pos) (tB (x2 (dEqI false) ga gb)) := dt_cmp (eqI_op false) (op_eqI (by have := c.hr.un; omega)) ha hb (nomark _)
theorem de_neI (c : Ctc X W k) (ha : DE X W a ga) (hb : DE X W b gb) : DE X W (.Compare a [.NotEq] [b] pos) (x2 (dEqI true) ga gb) := de_cmp (eqI_op true) (op_neI (by have := c.hr.un; omega)) ha hb (nomark _)
theorem dt_neI (c : Ctc X W k) (ha : DE X W a ga) (hb : DE X W b gb) : DT X W (.Compare a [.NotEq] [b] pos) (tB (x2 (dEqI true) ga gb)) := dt_cmp (eqI_op true) (op_neI (by have := c.hr.un; omega)) ha hb (nomark _)
end
/-! what it tells of things that are alike -/
theorem pairs_same {S : Store} : ∀ {ds : List D}, (∀ d ∈ ds, Dat 8 d ∨ ∃ m c, d = .ref m ∧ S[m]? = some (some c)) → ∃ bs, pairsOk S ds ds = some bs ∧ bs.all id = true
  | [], _ => ⟨[], rfl, rfl⟩
  | d :: ds, h => by
    obtain ⟨bs, e, hb⟩ := pairs_same fun x hx => h x (List.mem_cons_of_mem _ hx)
    have h1 : pairOk S d d = some true := by
      rcases h d (List.mem_cons_self ..) with hd | ⟨m, c, rfl, hc⟩
      · obtain ⟨p, e1, e2, e3⟩ := dat_shaped (by omega) hd
        cases d with
        | ref m => exact (show False from hd).elim
        | _ =>
          unfold pairOk
          dsimp only
          rw [e1]
          dsimp only
          rw [if_pos ⟨e2, e2⟩, e3]
      · unfold pairOk
        dsimp only
        rw [hc]
        dsimp only
        rw [if_pos rfl]
    refine ⟨true :: bs, ?_, ?_⟩
    · unfold pairsOk
      rw [h1, e]
    · rw [List.all_cons, hb]
      rfl
theorem wp_eqI {S : Store} {QD : D → Store → Prop} {E : XQ} {neg : Bool} {d e : D} {ds : List D} (h1 : asL d S = some ds) (h2 : asL e S = some ds) (h : ∀ d ∈ ds, Dat 8 d ∨ ∃ m c, d = .ref m ∧ S[m]? = some (some c)) :
    wp (dEqI neg d e S) QD E = QD (.bl (!neg)) S := by
  obtain ⟨bs, e, hb⟩ := pairs_same h
  unfold dEqI
  rw [h1, h2]
  dsimp only
  rw [e]
  dsimp only
  rw [hb]
  cases neg <;> rfl
end DL

set_option Elab.async false
set_option linter.all false
set_option maxRecDepth 100000
set_option maxHeartbeats 4000000
/-! try with several except clauses, each with a name of its own or without one (own work). -/
namespace DL
open PySem PySem.Spec L2 PyProof.Rows
variable {Fr : Hp}
/-- a clause: its class, its name's slot, its suite -/
abbrev Cz := Value × Option Nat × (Addr → Value → Option Addr → TS)
/-- the ends where slot i is emptied -/
def gonE (i : Nat) (D : Ends) : Ends := { nx := fun τ J => D.nx (τ.set i none) J, rt := D.rt, bk := fun τ J => D.bk (τ.set i none) J, ct := fun τ J => D.ct (τ.set i none) J }
def czG (z : Cz) (a : Addr) (cls : Value) (d : Option Addr) : TS := fun D τ J => match z.2.1 with
  | none => z.2.2 a cls d D τ J
  | some i => z.2.2 a cls d (gonE i D) (τ.set i (some (.ref a))) J
def wN (K : PySem.W.Frag) (Wo : WX) (D : Ends) : List Cz → WX
  | [] => Wo
  | z :: zs => fun cls d τ J => ∃ b, PySem.W.exmOne K cls z.1 = some b ∧ (b = true → ∀ a, J a = none → czG z a cls d D τ J) ∧ (b = false → wN K Wo D zs cls d τ J)
def nmOk (X : Cx) : Option Str → Option Nat → Prop
  | none, none => True
  | some n, some i => X.N[i]? = some n ∧ X.env.kindOf n = some .local
  | _, _ => False
inductive CzOk (X : Cx) : List ExceptHandler → List Cz → Prop
  | nil : CzOk X [] []
  | cons {y : Str} {c : Value} {nm : Option Str} {oi : Option Nat} {ts : Addr → Value → Option Addr → TS} {st : Stmt} {sts : List Stmt} {p q : Pos} {hs : List ExceptHandler} {zs : List Cz} (h1 : Names X y c) (h2 : nmOk X nm oi)
      (h3 : ∀ (a : Addr) (ob : Obj) (cls : Value) (d : Option Addr) (pl : List (Addr × Obj)), Zc cls d ob → (∃ ws, ob.data = .fields ws) → PSs (X.suite a ((a, ob) :: pl)) (st :: sts) (ts a cls d)) (more : CzOk X hs zs) :
      CzOk X (.ExceptHandler (some (.Name y p)) nm (st :: sts) q :: hs) ((c, oi, ts) :: zs)
section
variable {X : Cx} {bd : List Stmt} {eh : ExceptHandler} {ehs : List ExceptHandler} {zs : List Cz} {tp : Pos} {tb : WX → TS} {Wo : WX}
theorem ps_tryN (k1 : X.stack = X.env :: X.outer) (k2 : X.env.frame = some X.env.locals) (k3 : X.N.Nodup) (tk : Takes X Wo)
    (kb : ∀ (W : WX) (pl : List (Addr × Obj)) (xe : Value → Shared → Prop), Takes (X.tr pl xe) W → PassesOwn (model X.prog X.w) X.A X.env xe → PSs (X.tr pl xe) bd (tb W))
    (kz : CzOk X (eh :: ehs) zs) : PS X (.Try bd (eh :: ehs) [] [] tp) (fun D τ J => tb (wN X.K Wo D zs) D τ J) := by
  refine ⟨fun pins s τ J D I w0 => ?_⟩
  have iok := I.ok
  have k4 : X.A.frames = some (X.env :: X.outer) := by rw [iok.frames, k1]
  refine wpAny_Try_except ?_
  have body := (kb (wN X.K Wo D zs) (X.pn ++ pins) (fun x t1 => wpAny (model X.prog X.w) X.A (noteFrame x X.env) (fun _ t2 => wpAny (model X.prog X.w) X.A (setFlight x none) (fun _ t3 => wpAny (model X.prog X.w) X.A (handleBy x X.env (eh :: ehs)) (SP X pins D) X.xe t3) X.xe t2) X.xe t1) (fun u t0 xx => by
    obtain ⟨a, B, sI, pz, τ1, J1, cls, d, rfl, I1, nb, up, sky, na, os, ag, w1⟩ := xx
    have I2 : Inv X pins τ1 J1 sI := I1.ofTry iok
    show wpAny (model X.prog X.w) X.A (noteFrame (.ref a) X.env) _ _ _
    refine Sky.land Zc.steady k4 k2 (show Sky B (X.env :: X.outer) a (Zc cls d) X.env.locals t0.heap by rw [← k1]; exact sky) fun g1 fl up1 => ?_
    have I3 : Inv X pins τ1 J1 { t0 with heap := g1 } := I2.landed nb fl.1 (up.trans up1) os ag
    obtain ⟨ob, ws, ho, hz, hw⟩ := fl.there
    have far : a ∉ frs (X.env :: X.outer) := fun hm => by
      obtain ⟨_, o2, e2, bad⟩ := fl.2.2.1.mem hm
      rw [ho] at e2
      cases e2
      exact bad _ hw
    have far1 : a ≠ X.env.locals := fun z => far (List.mem_filterMap.mpr ⟨X.env, List.mem_cons_self, by rw [k2, z]⟩)
    have far2 : a ∉ X.fs := fun hm => by
      obtain ⟨v, hv, hq⟩ := List.mem_filterMap.mp hm
      exact far (List.mem_filterMap.mpr ⟨v, List.mem_cons_of_mem _ hv, hq⟩)
    have I4 := I3.suite ho hw na far1 far2
    have run : ∀ {hl : List ExceptHandler} {zl : List Cz}, CzOk X hl zl → wN X.K Wo D zl cls d τ1 J1 → wpAny (model X.prog X.w) X.A (handleBy (.ref a) X.env hl) (SP X pins D) X.xe { t0 with heap := g1 } := by
      intro hl zl hh
      induction hh with
      | nil =>
        intro w2
        refine wpAny_handleBy_nil ?_
        obtain ⟨j1, j2, j3, oo, us, T, oT, tt, e1, e2, e3, e4, e5⟩ := id fl
        unfold PySem.passOn
        refine wpAny_bind (wpAny_field e1 e3 e4 ?_)
        rw [if_neg (fun z : (Value.ref T == Value.none) = true => by simp at z)]
        have out : wpAny (model X.prog X.w) X.A (setFlight (.ref a) X.env.frame) (fun _ t4 => wpAny (model X.prog X.w) X.A (throw (.ref a) : Sem Flow) (SP X pins D) X.xe t4) X.xe { t0 with heap := g1 } := by
          rw [k2]
          exact HandSPX.setFlight_upZ fl fun g2 hg up2 => wpAny_throw (tk _ _ ⟨a, B, sI, pins, τ1, J1, cls, d, rfl, I2, nb, (up.trans up1).trans up2, .inr (.inr (by rw [k1]; exact hg)), na, os, ag, w2⟩)
        first
          | exact wpAny_bind (wpAny_pure (wpAny_bind out))
          | exact wpAny_bind out
      | @cons y c nm oi ts st sts p q hl2 zl2 h1 h2 h3 more ih =>
        rintro ⟨b, hb, yes, no⟩
        refine wpAny_handleBy_cons (codeAny_handlers_test ?_) (by intro z; cases z)
        have see : PySem.W.Looks (model X.prog X.w) g1 (typeOf (.ref a)) cls := fun A Q E t kk hq => wpAny_typeOf_ref (kk _ _ ho) (by rw [hz.1]; exact hq)
        have fits := PySem.W.exm_one (M := model X.prog X.w) I3.kIn see hb
        have named : ∀ {Q E : Value → Shared → Prop}, Q c { t0 with heap := g1 } → wpAny (model X.prog X.w) (X.A.mark (some (.ref a))) (eval (.Name y p) X.env) Q E { t0 with heap := g1 } := fun {Q E} hq => by
          obtain ⟨n1, n2, n3 | ⟨n3, n4, n5⟩⟩ := h1
          · exact ld_glob (X := X.suite a ((a, ob) :: (X.pn ++ pins))) I4 n1 n3 hq n2
          · exact ld_blt (X := X.suite a ((a, ob) :: (X.pn ++ pins))) I4 n1 n3 n4 hq n5 n2
        refine named (fits.here ?_)
        cases b with
        | false => exact ih (no rfl)
        | true =>
          have w3 := yes rfl a na
          unfold czG at w3
          cases nm with
          | none =>
            cases oi with
            | some i => exact h2.elim
            | none =>
              refine codeAny_handlers_suite (HandSPX.lands_againZ fl fun g2 fl2 up2 => ?_)
              obtain ⟨ob2, ws2, ho2, hz2, hw2⟩ := fl2.there
              have I5a : Inv X pins τ1 J1 { t0 with heap := g2 } := I2.landed nb fl2.1 ((up.trans up1).trans up2) os ag
              have I5 := I5a.suite ho2 hw2 na far1 far2
              refine wpAny_mono ((h3 a ob2 cls d (X.pn ++ pins) hz2 ⟨_, hw2⟩).run [] _ _ J1 _ I5 w3) (fun f t6 sp => ?_) (fun _ _ z => False.elim z)
              cases f with
              | ret u =>
                obtain ⟨v6, τ6, J6, I6, r6, q6⟩ := sp
                exact ⟨_, _, _, I6.unsuite iok, r6, q6⟩
              | next => obtain ⟨τ6, J6, I6, q6⟩ := sp; exact ⟨_, _, I6.unsuite iok, q6⟩
              | brk => obtain ⟨τ6, J6, I6, q6⟩ := sp; exact ⟨_, _, I6.unsuite iok, q6⟩
              | cont => obtain ⟨τ6, J6, I6, q6⟩ := sp; exact ⟨_, _, I6.unsuite iok, q6⟩
          | some n =>
            cases oi with
            | none => exact h2.elim
            | some i =>
              obtain ⟨hi, hk⟩ := h2
              refine codeAny_handlers_suite_as (HandSPX.lands_againZ fl fun g2 fl2 up2 => ?_)
              obtain ⟨ob2, ws2, ho2, hz2, hw2⟩ := fl2.there
              have I5a : Inv X pins τ1 J1 { t0 with heap := g2 } := I2.landed nb fl2.1 ((up.trans up1).trans up2) os ag
              have I5 := I5a.suite ho2 hw2 na far1 far2
              refine store_ok (X := X.suite a ((a, ob2) :: (X.pn ++ pins))) (v := .ref a) I5 k3 hi (.inl hk) rfl (fun t5 I6 => ?_) (.inr hk)
              refine wpAny_mono ((h3 a ob2 cls d (X.pn ++ pins) hz2 ⟨_, hw2⟩).run [] t5 _ J1 _ I6 w3) (fun f t6 sp => ?_) (fun _ _ z => False.elim z)
              have gone : ∀ {τ6 : L2.St} {J6 : Hp} {Q : Shared → Prop}, Inv (X.suite a ((a, ob2) :: (X.pn ++ pins))) [] τ6 J6 t6 → (∀ t7, Inv X pins (τ6.set i none) J6 t7 → Q t7) →
                  wpAny (model X.prog X.w) X.A (do bindName X.env n .none; unbindBehindTheSuite X.env n q) (fun _ t7 => Q t7) X.xe t6 := fun {τ6 J6 Q} I7 hq => gone_ok (I7.unsuite iok) k3 hi hk hq
              cases f with
              | ret u =>
                obtain ⟨v6, τ6, J6, I7, r6, q6⟩ := sp
                exact gone I7 fun t7 I8 => ⟨_, _, _, I8, r6, q6⟩
              | next => obtain ⟨τ6, J6, I7, q6⟩ := sp; exact gone I7 fun t7 I8 => ⟨_, _, I8, q6⟩
              | brk => obtain ⟨τ6, J6, I7, q6⟩ := sp; exact gone I7 fun t7 I8 => ⟨_, _, I8, q6⟩
              | cont => obtain ⟨τ6, J6, I7, q6⟩ := sp; exact gone I7 fun t7 I8 => ⟨_, _, I8, q6⟩
    exact run kz w1) PassesOwn.looking).run [] s τ J D (I.toTry _) w0
  refine wpAny_mono body (fun f t1 sp => ?_) (fun _ _ he => he)
  cases f with
  | next => obtain ⟨τ1, J1, I1, hq⟩ := sp; exact wpAny_execs_nil ⟨τ1, J1, I1.ofTry iok, hq⟩
  | brk => obtain ⟨τ1, J1, I1, hq⟩ := sp; exact ⟨τ1, J1, I1.ofTry iok, hq⟩
  | cont => obtain ⟨τ1, J1, I1, hq⟩ := sp; exact ⟨τ1, J1, I1.ofTry iok, hq⟩
  | ret u =>
    obtain ⟨v, τ1, J1, I1, r, hq⟩ := sp
    exact ⟨v, τ1, J1, I1.ofTry iok, r, hq⟩
end
/-! ### in the D-layer -/
inductive DH where
  | as_ (sel : Str → Option Bool) (i : Nat) (h : Addr → Option Addr → Str → LS)
  | no (sel : Str → Option Bool) (g : LS)
noncomputable def hdN : List DH → Str → XF → Lc → Store → Os
  | [], c, fs, δ, S => .exc c fs δ S
  | .as_ sel i h :: r, c, fs, δ, S => (match sel c with
    | some true => allO fun a d => unE i (h a (dOf fs d) c (δ.set i (some (exnD a d c fs))) S)
    | some false => hdN r c fs δ S
    | none => .bad)
  | .no sel g :: r, c, fs, δ, S => (match sel c with
    | some true => (match g δ S with
      | .exc _ _ _ _ => .bad
      | o => o)
    | some false => hdN r c fs δ S
    | none => .bad)
noncomputable def sTryN (hs : List DH) (b : LS) : LS := fun δ S => match b δ S with
  | .exc c fs δ1 S1 => hdN hs c fs δ1 S1
  | o => o
inductive DzOk (X : Cx) : List ExceptHandler → List DH → List Cz → Prop
  | nil : DzOk X [] [] []
  | as_ {x n : Str} {cv : Value} {l : List (Str × Bool)} {i : Nat} {gh : Addr → Option Addr → Str → LS} {b₀ : Stmt} {suite : List Stmt} {np pos' : Pos} {hs : List ExceptHandler} {ds : List DH} {zs : List Cz} (i0 : Nat) (e0 : i0 = i) (hc : Names X x cv) (T : ExTab X.K l cv)
      (hsu : ∀ (a : Addr) (oe : Obj) (d : Option Addr) (c : Str) (pn : List (Addr × Obj)), Zc (.ref (He.ga X.K c)) d oe → (∃ vs, oe.data = .fields vs) → DSs (X.suite a ((a, oe) :: pn)) WF (b₀ :: suite) (gh a d c))
      (more : DzOk X hs ds zs) (hi : X.N[i]? = some n := by rfl) (hln : X.env.kindOf n = some .local := by rfl) :
      DzOk X (.ExceptHandler (some (.Name x np)) (some n) (b₀ :: suite) pos' :: hs) (.as_ (selK l) i gh :: ds) ((cv, some i, fun a cls d D σ H => ∃ c, cls = .ref (He.ga X.K c) ∧ cS X.K WF (gh a d c) D σ H) :: zs)
  | no {x : Str} {cv : Value} {l : List (Str × Bool)} {gh : LS} {b₀ : Stmt} {suite : List Stmt} {np pos' : Pos} {hs : List ExceptHandler} {ds : List DH} {zs : List Cz} (hc : Names X x cv) (T : ExTab X.K l cv)
      (hsu : ∀ (a : Addr) (oe : Obj) (d : Option Addr) (cls : Value) (pn : List (Addr × Obj)), Zc cls d oe → (∃ vs, oe.data = .fields vs) → DSs (X.suite a ((a, oe) :: pn)) WF (b₀ :: suite) gh)
      (more : DzOk X hs ds zs) :
      DzOk X (.ExceptHandler (some (.Name x np)) none (b₀ :: suite) pos' :: hs) (.no (selK l) gh :: ds) ((cv, none, fun _ _ _ => cS X.K WF gh) :: zs)
theorem DzOk.cz {X : Cx} {hs : List ExceptHandler} {ds : List DH} {zs : List Cz} (h : DzOk X hs ds zs) : CzOk X hs zs := by
  induction h with
  | nil => exact .nil
  | as_ i0 e0 hc T hsu more hi hln ih =>
    refine .cons hc ⟨hi, hln⟩ (fun a ob cls d pl hz hf => ⟨fun pins s σ H D I ⟨c, e, w⟩ => ?_⟩) ih
    subst e
    exact (hsu a ob d c pl hz hf).run pins s σ H D I w
  | no hc T hsu more ih => exact .cons hc trivial (fun a ob cls d pl hz hf => hsu a ob d cls pl hz hf) ih
theorem DzOk.sound {X : Cx} {W : WX} {hs : List ExceptHandler} {ds : List DH} {zs : List Cz} (h : DzOk X hs ds zs) {D : Ends} {c : Str} {fs : XF} {δ1 : Lc} {S0 S1 : Store} {ι : Nat → Addr} {R : Hp} {σ1 : L2.St} {dx : Option Addr} {ι1 : Nat → Addr} {R1 H1 : Hp} (st : Stp S0 ι R S1 ι1 R1) (ab1 : Ab X.K Fr S1 ι1 R1 H1) (lo1 : Locs X.K R1 S1 ι1 δ1 σ1) (xr : XRep X.K R1 S1 ι1 fs dx) :
    wpS X.K Fr S0 ι R (hdN ds c fs δ1 S1) D W → wN X.K W D zs (.ref (He.ga X.K c)) dx σ1 H1 := by
  induction h with
  | nil => exact fun w => w σ1 dx ι1 R1 H1 st ab1 lo1 xr
  | @as_ x n cv l i gh b₀ suite np pos' hs ds zs i0 e0 hc T hsu more hi hln ih =>
    intro w
    unfold hdN at w
    cases es : selK l c with
    | none => rw [es] at w; exact w.elim
    | some b =>
      rw [es] at w
      cases b with
      | false => exact ⟨false, T.at_ c false es, fun z => (nomatch z), fun _ => ih w⟩
      | true =>
        refine ⟨true, T.at_ c true es, fun _ a ha => ?_, fun z => (nomatch z)⟩
        dsimp only at w
        obtain ⟨r1, r2⟩ := exnD_rep (a := a) (c := c) xr
        have hne : allO (fun a d => unE i (gh a (dOf fs d) c (δ1.set i (some (exnD a d c fs))) S1)) ≠ .bad := fun z => by rw [z] at w; exact w.elim
        have ew := allO_at hne a dx
        rw [← ew, r2] at w
        show czG (cv, some i, _) a _ dx D σ1 H1
        unfold czG gonE
        refine ⟨c, rfl, δ1.set i (some (exnD a dx c fs)), S1, ι1, R1, Fr, ab1, lo1.set r1 i, ?_⟩
        have w := w.step st
        cases eo : gh a dx c (δ1.set i (some (exnD a dx c fs))) S1 with
        | bad => rw [eo] at w; exact w.elim
        | exc c2 fs2 δ2 S2 => rw [eo] at w; exact w.elim
        | ok f δ2 S2 =>
          rw [eo] at w
          cases f with
          | nx => exact fun σ2 ι2 R2 H2 st2 ab2 lo2 => w _ ι2 R2 H2 st2 ab2 (lo2.clear i none)
          | brk => exact fun σ2 ι2 R2 H2 st2 ab2 lo2 => w _ ι2 R2 H2 st2 ab2 (lo2.clear i none)
          | cont => exact fun σ2 ι2 R2 H2 st2 ab2 lo2 => w _ ι2 R2 H2 st2 ab2 (lo2.clear i none)
          | ret d => exact w
  | @no x cv l gh b₀ suite np pos' hs ds zs hc T hsu more ih =>
    intro w
    unfold hdN at w
    cases es : selK l c with
    | none => rw [es] at w; exact w.elim
    | some b =>
      rw [es] at w
      cases b with
      | false => exact ⟨false, T.at_ c false es, fun z => (nomatch z), fun _ => ih w⟩
      | true =>
        refine ⟨true, T.at_ c true es, fun _ a ha => ?_, fun z => (nomatch z)⟩
        dsimp only at w
        show czG (cv, none, _) a _ dx D σ1 H1
        unfold czG
        refine ⟨δ1, S1, ι1, R1, Fr, ab1, lo1, ?_⟩
        cases eo : gh δ1 S1 with
        | bad => rw [eo] at w; exact w.elim
        | exc c2 fs2 δ2 S2 => rw [eo] at w; exact w.elim
        | ok f δ2 S2 =>
          rw [eo] at w
          have w := w.step st
          cases f <;> exact w
section
variable {X : Cx} {W : WX} {k : Nat} {body : List Stmt} {pos : Pos} {gb : LS} {eh : ExceptHandler} {ehs : List ExceptHandler} {ds : List DH} {zs : List Cz}
theorem ds_tryN (cx : Ctx X W k) (hz : DzOk X (eh :: ehs) ds zs)
    (hb : ∀ (W' : WX) (pn : List (Addr × Obj)) (xe : Value → Shared → Prop), Ctx (X.tr pn xe) W' k → DSs (X.tr pn xe) W' body gb) :
    DS X W (.Try body (eh :: ehs) [] [] pos) (sTryN ds gb) := by
  refine PS.imp (ps_tryN (tb := fun W' => cS X.K W' gb) (Wo := W) cx.hs cx.hf cx.nd cx.tk (fun W' pn xe tk po => hb W' pn xe ⟨⟨cx.hr, tk, cx.calm, cx.nd⟩, po, cx.hs, cx.hf⟩) hz.cz) fun D σ H ⟨δ, S, ι, R, Fr, ab, lo, w⟩ => ⟨δ, S, ι, R, Fr, ab, lo, ?_⟩
  unfold sTryN at w
  cases e : gb δ S with
  | bad => rw [e] at w; exact w.elim
  | ok f δ1 S1 => rw [e] at w; cases f <;> exact w
  | exc c fs δ1 S1 =>
    rw [e] at w
    intro σ1 dx ι1 R1 H1 st ab1 lo1 xr
    exact hz.sound st ab1 lo1 xr w
end
/-! what it answers -/
theorem ws_tryN (hs : List DH) (b : LS) {δ : Lc} {S : Store} {Q : Fl → Lc → Store → Prop} {ES : Str → XF → Lc → Store → Prop} : ws (sTryN hs b δ S) Q ES = ws (b δ S) Q (fun c fs δ1 S1 => ws (hdN hs c fs δ1 S1) Q ES) := by
  unfold sTryN
  cases b δ S <;> rfl
theorem ws_hd_as {sel : Str → Option Bool} {i : Nat} {h : Addr → Option Addr → Str → LS} {r : List DH} {c : Str} {fs : XF} {δ : Lc} {S : Store} {Q : Fl → Lc → Store → Prop} {ES : Str → XF → Lc → Store → Prop} (e : sel c = some true)
    (w : ws (allO fun a d => unE i (h a (dOf fs d) c (δ.set i (some (exnD a d c fs))) S)) Q ES) : ws (hdN (.as_ sel i h :: r) c fs δ S) Q ES := by
  unfold hdN
  rw [e]
  exact w
theorem ws_hd_as0 {sel : Str → Option Bool} {i : Nat} {h : Addr → Option Addr → Str → LS} {r : List DH} {c : Str} {fs : XF} {δ : Lc} {S : Store} {Q : Fl → Lc → Store → Prop} {ES : Str → XF → Lc → Store → Prop} (e : sel c = some false)
    (w : ws (hdN r c fs δ S) Q ES) : ws (hdN (.as_ sel i h :: r) c fs δ S) Q ES := by
  unfold hdN
  rw [e]
  exact w
end DL

set_option Elab.async false
set_option linter.all false
set_option maxRecDepth 100000
set_option maxHeartbeats 4000000
/-! try with several except clauses, some of several classes each (own work). -/
namespace DL
open PySem PySem.Spec L2 PyProof.Rows
variable {Fr : Hp}
/-- what a clause asks for: a class, or some -/
inductive Tst where
  | one (c : Value)
  | any (cs : List Value)
def tstB (K : PySem.W.Frag) (cls : Value) : Tst → Option Bool
  | .one c => PySem.W.exmOne K cls c
  | .any cs => PySem.W.exmAny K cls cs
theorem fly_more {base h h' : Heap} {l : List Env} {e : Addr} {Z : Obj → Prop} (x : HandSPX.FlyingZ base l e Z h) (k : ∀ b o, h.get? b = some o → h'.get? b = some o) : HandSPX.FlyingZ base l e Z h' := by
  obtain ⟨k1, k2, k3, oe, vs, T, oT, ts, he, hz, hd, h1, hnT, hTe, hT, hdT, h3⟩ := x
  exact ⟨fun b o hb => k _ _ (k1 b o hb), k2, k3.of_keeps fun b o hb _ => ⟨o, k _ _ hb, rfl⟩, oe, vs, T, oT, ts, k _ _ he, hz, hd, h1, hnT, hTe, k _ _ hT, hdT, h3⟩
/-- the test of a clause -/
def TestOk (X : Cx) (t : Expr) (T : Tst) : Prop := ∀ (a : Addr) (pl pins : List (Addr × Obj)) (σ : L2.St) (H : Hp) (s : Shared) (cls : Value) (b : Bool) (Q : Bool → Shared → Prop) (E : Value → Shared → Prop),
  Inv (X.suite a pl) pins σ H s → PySem.W.Looks (model X.prog X.w) s.heap (typeOf (.ref a)) cls → tstB X.K cls T = some b → (∀ h', (∀ q o, s.heap.get? q = some o → h'.get? q = some o) → Q b { s with heap := h' }) →
  wpAny (model X.prog X.w) (X.A.mark (some (.ref a))) (eval t X.env) (fun c s₁ => wpAny (model X.prog X.w) (X.A.mark (some (.ref a))) (excMatches (.ref a) c) Q E s₁) E s
section
variable {X : Cx}
theorem name_ok {y : Str} {c : Value} {p : Pos} {a : Addr} {pl pins : List (Addr × Obj)} {σ : L2.St} {H : Hp} {s : Shared} {Q E : Value → Shared → Prop} (h : Names X y c) (I : Inv (X.suite a pl) pins σ H s) (hq : Q c s) :
    wpAny (model X.prog X.w) (X.A.mark (some (.ref a))) (eval (.Name y p) X.env) Q E s := by
  obtain ⟨n1, n2, n3 | ⟨n3, n4, n5⟩⟩ := h
  · exact ld_glob (X := X.suite a pl) I n1 n3 hq n2
  · exact ld_blt (X := X.suite a pl) I n1 n3 n4 hq n5 n2
theorem test_1 {y : Str} {c : Value} {p : Pos} (h : Names X y c) : TestOk X (.Name y p) (.one c) := fun a pl pins σ H s cls b Q E I see hb q =>
  name_ok h I ((PySem.W.exm_one (M := model X.prog X.w) I.kIn see hb).here (q s.heap fun _ _ z => z))
theorem test_2 {y1 y2 : Str} {c1 c2 : Value} {p1 p2 tp : Pos} {kk : Nat} (h1 : Names X y1 c1) (h2 : Names X y2 c2) : TestOk X (.Tuple [.Name y1 p1, .Name y2 p2] kk tp) (.any [c1, c2]) := fun a pl pins σ H s cls b Q E I see hb q => by
  refine wpAny_Tuple ?_
  refine wpAny_items_cons (name_ok h1 I ?_)
  refine wpAny_items_cons (name_ok h2 I ?_)
  refine wpAny_items_nil ⟨by size_fits, ?_⟩
  have kp : ∀ q o, s.heap.get? q = some o → (s.heap.push { cls := .type "tuple", data := .seq [c1, c2].toArray }).get? q = some o := fun _ _ z => Heap.get?_push_of_some _ z
  exact (PySem.W.exm_tup2 (I.kIn.keeps kp) (see.keeps kp) (Heap.get?_push_size s.heap rfl) hb).here (q _ kp)
theorem test_3 {y1 y2 y3 : Str} {c1 c2 c3 : Value} {p1 p2 p3 tp : Pos} {kk : Nat} (h1 : Names X y1 c1) (h2 : Names X y2 c2) (h3 : Names X y3 c3) : TestOk X (.Tuple [.Name y1 p1, .Name y2 p2, .Name y3 p3] kk tp) (.any [c1, c2, c3]) := fun a pl pins σ H s cls b Q E I see hb q => by
  refine wpAny_Tuple ?_
  refine wpAny_items_cons (name_ok h1 I ?_)
  refine wpAny_items_cons (name_ok h2 I ?_)
  refine wpAny_items_cons (name_ok h3 I ?_)
  refine wpAny_items_nil ⟨by size_fits, ?_⟩
  have kp : ∀ q o, s.heap.get? q = some o → (s.heap.push { cls := .type "tuple", data := .seq [c1, c2, c3].toArray }).get? q = some o := fun _ _ z => Heap.get?_push_of_some _ z
  exact (PySem.W.exm_tup3 (I.kIn.keeps kp) (see.keeps kp) (Heap.get?_push_size s.heap rfl) hb).here (q _ kp)
end
/-- a clause: its class, its name's slot, its suite -/
abbrev Cy := Tst × Option Nat × (Addr → Value → Option Addr → TS)
def cyG (z : Cy) (a : Addr) (cls : Value) (d : Option Addr) : TS := fun D τ J => match z.2.1 with
  | none => z.2.2 a cls d D τ J
  | some i => z.2.2 a cls d (gonE i D) (τ.set i (some (.ref a))) J
def wY (K : PySem.W.Frag) (Wo : WX) (D : Ends) : List Cy → WX
  | [] => Wo
  | z :: zs => fun cls d τ J => ∃ b, tstB K cls z.1 = some b ∧ (b = true → ∀ a, J a = none → cyG z a cls d D τ J) ∧ (b = false → wY K Wo D zs cls d τ J)
inductive CyOk (X : Cx) : List ExceptHandler → List Cy → Prop
  | nil : CyOk X [] []
  | cons {t : Expr} {T : Tst} {nm : Option Str} {oi : Option Nat} {ts : Addr → Value → Option Addr → TS} {st : Stmt} {sts : List Stmt} {q : Pos} {hs : List ExceptHandler} {zs : List Cy} (h1 : TestOk X t T) (h2 : nmOk X nm oi)
      (h3 : ∀ (a : Addr) (ob : Obj) (cls : Value) (d : Option Addr) (pl : List (Addr × Obj)), Zc cls d ob → (∃ ws, ob.data = .fields ws) → PSs (X.suite a ((a, ob) :: pl)) (st :: sts) (ts a cls d)) (more : CyOk X hs zs) :
      CyOk X (.ExceptHandler (some t) nm (st :: sts) q :: hs) ((T, oi, ts) :: zs)
section
variable {X : Cx} {bd : List Stmt} {eh : ExceptHandler} {ehs : List ExceptHandler} {zs : List Cy} {tp : Pos} {tb : WX → TS} {Wo : WX}
theorem ps_tryT (k1 : X.stack = X.env :: X.outer) (k2 : X.env.frame = some X.env.locals) (k3 : X.N.Nodup) (tk : Takes X Wo)
    (kb : ∀ (W : WX) (pl : List (Addr × Obj)) (xe : Value → Shared → Prop), Takes (X.tr pl xe) W → PassesOwn (model X.prog X.w) X.A X.env xe → PSs (X.tr pl xe) bd (tb W))
    (kz : CyOk X (eh :: ehs) zs) : PS X (.Try bd (eh :: ehs) [] [] tp) (fun D τ J => tb (wY X.K Wo D zs) D τ J) := by
  refine ⟨fun pins s τ J D I w0 => ?_⟩
  have iok := I.ok
  have k4 : X.A.frames = some (X.env :: X.outer) := by rw [iok.frames, k1]
  refine wpAny_Try_except ?_
  have body := (kb (wY X.K Wo D zs) (X.pn ++ pins) (fun x t1 => wpAny (model X.prog X.w) X.A (noteFrame x X.env) (fun _ t2 => wpAny (model X.prog X.w) X.A (setFlight x none) (fun _ t3 => wpAny (model X.prog X.w) X.A (handleBy x X.env (eh :: ehs)) (SP X pins D) X.xe t3) X.xe t2) X.xe t1) (fun u t0 xx => by
    obtain ⟨a, B, sI, pz, τ1, J1, cls, d, rfl, I1, nb, up, sky, na, os, ag, w1⟩ := xx
    have I2 : Inv X pins τ1 J1 sI := I1.ofTry iok
    show wpAny (model X.prog X.w) X.A (noteFrame (.ref a) X.env) _ _ _
    refine Sky.land Zc.steady k4 k2 (show Sky B (X.env :: X.outer) a (Zc cls d) X.env.locals t0.heap by rw [← k1]; exact sky) fun g1 fl up1 => ?_
    have run : ∀ {hl : List ExceptHandler} {zl : List Cy}, CyOk X hl zl → ∀ g1, HandSPX.FlyingZ B (X.env :: X.outer) a (Zc cls d) g1 → t0.heap.UpToSlots g1 → wY X.K Wo D zl cls d τ1 J1 → wpAny (model X.prog X.w) X.A (handleBy (.ref a) X.env hl) (SP X pins D) X.xe { t0 with heap := g1 } := by
      intro hl zl hh
      induction hh with
      | nil =>
        intro g1 fl up1 w2
        refine wpAny_handleBy_nil ?_
        obtain ⟨j1, j2, j3, oo, us, T, oT, tt, e1, e2, e3, e4, e5⟩ := id fl
        unfold PySem.passOn
        refine wpAny_bind (wpAny_field e1 e3 e4 ?_)
        rw [if_neg (fun z : (Value.ref T == Value.none) = true => by simp at z)]
        have out : wpAny (model X.prog X.w) X.A (setFlight (.ref a) X.env.frame) (fun _ t4 => wpAny (model X.prog X.w) X.A (throw (.ref a) : Sem Flow) (SP X pins D) X.xe t4) X.xe { t0 with heap := g1 } := by
          rw [k2]
          exact HandSPX.setFlight_upZ fl fun g2 hg up2 => wpAny_throw (tk _ _ ⟨a, B, sI, pins, τ1, J1, cls, d, rfl, I2, nb, (up.trans up1).trans up2, .inr (.inr (by rw [k1]; exact hg)), na, os, ag, w2⟩)
        first
          | exact wpAny_bind (wpAny_pure (wpAny_bind out))
          | exact wpAny_bind out
      | @cons t T nm oi ts st sts q hl2 zl2 h1 h2 h3 more ih =>
        rintro g1 fl up1 ⟨b, hb, yes, no⟩
        have I3 : Inv X pins τ1 J1 { t0 with heap := g1 } := I2.landed nb fl.1 (up.trans up1) os ag
        obtain ⟨ob, ws, ho, hz, hw⟩ := fl.there
        have far : a ∉ frs (X.env :: X.outer) := fun hm => by
          obtain ⟨_, o2, e2, bad⟩ := fl.2.2.1.mem hm
          rw [ho] at e2
          cases e2
          exact bad _ hw
        have far1 : a ≠ X.env.locals := fun z => far (List.mem_filterMap.mpr ⟨X.env, List.mem_cons_self, by rw [k2, z]⟩)
        have far2 : a ∉ X.fs := fun hm => by
          obtain ⟨v, hv, hq⟩ := List.mem_filterMap.mp hm
          exact far (List.mem_filterMap.mpr ⟨v, List.mem_cons_of_mem _ hv, hq⟩)
        have I4 := I3.suite ho hw na far1 far2
        refine wpAny_handleBy_cons (codeAny_handlers_test ?_) (by intro z; cases z)
        have see : PySem.W.Looks (model X.prog X.w) g1 (typeOf (.ref a)) cls := fun A Q E t kk hq => wpAny_typeOf_ref (kk _ _ ho) (by rw [hz.1]; exact hq)
        refine h1 a _ [] τ1 J1 { t0 with heap := g1 } cls b _ _ I4 see hb fun g1' kg => ?_
        have fl := fly_more fl kg
        have up1 : t0.heap.UpToSlots g1' := up1.trans fun b o hb hnf => ⟨o.slots, kg _ _ hb⟩
        clear I3 I4 see
        cases b with
        | false => exact ih g1' fl up1 (no rfl)
        | true =>
          have w3 := yes rfl a na
          unfold cyG at w3
          cases nm with
          | none =>
            cases oi with
            | some i => exact h2.elim
            | none =>
              refine codeAny_handlers_suite (HandSPX.lands_againZ fl fun g2 fl2 up2 => ?_)
              obtain ⟨ob2, ws2, ho2, hz2, hw2⟩ := fl2.there
              have I5a : Inv X pins τ1 J1 { t0 with heap := g2 } := I2.landed nb fl2.1 ((up.trans up1).trans up2) os ag
              have I5 := I5a.suite ho2 hw2 na far1 far2
              refine wpAny_mono ((h3 a ob2 cls d (X.pn ++ pins) hz2 ⟨_, hw2⟩).run [] _ _ J1 _ I5 w3) (fun f t6 sp => ?_) (fun _ _ z => False.elim z)
              cases f with
              | ret u =>
                obtain ⟨v6, τ6, J6, I6, r6, q6⟩ := sp
                exact ⟨_, _, _, I6.unsuite iok, r6, q6⟩
              | next => obtain ⟨τ6, J6, I6, q6⟩ := sp; exact ⟨_, _, I6.unsuite iok, q6⟩
              | brk => obtain ⟨τ6, J6, I6, q6⟩ := sp; exact ⟨_, _, I6.unsuite iok, q6⟩
              | cont => obtain ⟨τ6, J6, I6, q6⟩ := sp; exact ⟨_, _, I6.unsuite iok, q6⟩
          | some n =>
            cases oi with
            | none => exact h2.elim
            | some i =>
              obtain ⟨hi, hk⟩ := h2
              refine codeAny_handlers_suite_as (HandSPX.lands_againZ fl fun g2 fl2 up2 => ?_)
              obtain ⟨ob2, ws2, ho2, hz2, hw2⟩ := fl2.there
              have I5a : Inv X pins τ1 J1 { t0 with heap := g2 } := I2.landed nb fl2.1 ((up.trans up1).trans up2) os ag
              have I5 := I5a.suite ho2 hw2 na far1 far2
              refine store_ok (X := X.suite a ((a, ob2) :: (X.pn ++ pins))) (v := .ref a) I5 k3 hi (.inl hk) rfl (fun t5 I6 => ?_) (.inr hk)
              refine wpAny_mono ((h3 a ob2 cls d (X.pn ++ pins) hz2 ⟨_, hw2⟩).run [] t5 _ J1 _ I6 w3) (fun f t6 sp => ?_) (fun _ _ z => False.elim z)
              have gone : ∀ {τ6 : L2.St} {J6 : Hp} {Q : Shared → Prop}, Inv (X.suite a ((a, ob2) :: (X.pn ++ pins))) [] τ6 J6 t6 → (∀ t7, Inv X pins (τ6.set i none) J6 t7 → Q t7) →
                  wpAny (model X.prog X.w) X.A (do bindName X.env n .none; unbindBehindTheSuite X.env n q) (fun _ t7 => Q t7) X.xe t6 := fun {τ6 J6 Q} I7 hq => gone_ok (I7.unsuite iok) k3 hi hk hq
              cases f with
              | ret u =>
                obtain ⟨v6, τ6, J6, I7, r6, q6⟩ := sp
                exact gone I7 fun t7 I8 => ⟨_, _, _, I8, r6, q6⟩
              | next => obtain ⟨τ6, J6, I7, q6⟩ := sp; exact gone I7 fun t7 I8 => ⟨_, _, I8, q6⟩
              | brk => obtain ⟨τ6, J6, I7, q6⟩ := sp; exact gone I7 fun t7 I8 => ⟨_, _, I8, q6⟩
              | cont => obtain ⟨τ6, J6, I7, q6⟩ := sp; exact gone I7 fun t7 I8 => ⟨_, _, I8, q6⟩
    exact run kz g1 fl up1 w1) PassesOwn.looking).run [] s τ J D (I.toTry _) w0
  refine wpAny_mono body (fun f t1 sp => ?_) (fun _ _ he => he)
  cases f with
  | next => obtain ⟨τ1, J1, I1, hq⟩ := sp; exact wpAny_execs_nil ⟨τ1, J1, I1.ofTry iok, hq⟩
  | brk => obtain ⟨τ1, J1, I1, hq⟩ := sp; exact ⟨τ1, J1, I1.ofTry iok, hq⟩
  | cont => obtain ⟨τ1, J1, I1, hq⟩ := sp; exact ⟨τ1, J1, I1.ofTry iok, hq⟩
  | ret u =>
    obtain ⟨v, τ1, J1, I1, r, hq⟩ := sp
    exact ⟨v, τ1, J1, I1.ofTry iok, r, hq⟩
end
/-! ### in the D-layer -/
/-- tables of several classes -/
def selU : List (List (Str × Bool)) → Str → Option Bool
  | [], _ => some false
  | l :: ls, c => match selK l c, selU ls c with
    | some a, some b => some (a || b)
    | _, _ => none
/-- a test by its tables -/
inductive DTst (X : Cx) : Expr → (Str → Option Bool) → Tst → Prop
  | one {x : Str} {np : Pos} {cv : Value} {l : List (Str × Bool)} (hc : Names X x cv) (T : ExTab X.K l cv) : DTst X (.Name x np) (selK l) (.one cv)
  | two {x1 x2 : Str} {p1 p2 tp : Pos} {kk : Nat} {c1 c2 : Value} {l1 l2 : List (Str × Bool)} (h1 : Names X x1 c1) (T1 : ExTab X.K l1 c1) (h2 : Names X x2 c2) (T2 : ExTab X.K l2 c2) : DTst X (.Tuple [.Name x1 p1, .Name x2 p2] kk tp) (selU [l1, l2]) (.any [c1, c2])
  | three {x1 x2 x3 : Str} {p1 p2 p3 tp : Pos} {kk : Nat} {c1 c2 c3 : Value} {l1 l2 l3 : List (Str × Bool)} (h1 : Names X x1 c1) (T1 : ExTab X.K l1 c1) (h2 : Names X x2 c2) (T2 : ExTab X.K l2 c2) (h3 : Names X x3 c3) (T3 : ExTab X.K l3 c3) :
      DTst X (.Tuple [.Name x1 p1, .Name x2 p2, .Name x3 p3] kk tp) (selU [l1, l2, l3]) (.any [c1, c2, c3])
theorem DTst.test {X : Cx} {t : Expr} {sel : Str → Option Bool} {T : Tst} (h : DTst X t sel T) : TestOk X t T := by
  cases h with
  | one hc T => exact test_1 hc
  | two h1 T1 h2 T2 => exact test_2 h1 h2
  | three h1 T1 h2 T2 h3 T3 => exact test_3 h1 h2 h3
theorem exmAny_of {K : PySem.W.Frag} {cls c : Value} {r : List Value} {x y : Bool} (h : PySem.W.exmOne K cls c = some x) (h2 : PySem.W.exmAny K cls r = some y) : PySem.W.exmAny K cls (c :: r) = some (x || y) := by
  unfold PySem.W.exmAny
  rw [h, h2]
theorem selU_cons {l : List (Str × Bool)} {ls : List (List (Str × Bool))} {c : Str} {b : Bool} (h : selU (l :: ls) c = some b) : ∃ x y, selK l c = some x ∧ selU ls c = some y ∧ b = (x || y) := by
  unfold selU at h
  cases e1 : selK l c with
  | none => rw [e1] at h; cases h
  | some x =>
    cases e2 : selU ls c with
    | none => rw [e1, e2] at h; cases h
    | some y => rw [e1, e2] at h; exact ⟨x, y, rfl, rfl, (Option.some.inj h).symm⟩
theorem DTst.at_ {X : Cx} {t : Expr} {sel : Str → Option Bool} {T : Tst} (h : DTst X t sel T) (c : Str) (b : Bool) (e : sel c = some b) : tstB X.K (.ref (He.ga X.K c)) T = some b := by
  cases h with
  | one hc T => exact T.at_ c b e
  | two h1 T1 h2 T2 =>
    obtain ⟨x, y, e1, e2, rfl⟩ := selU_cons e
    obtain ⟨x2, y2, e3, e4, rfl⟩ := selU_cons e2
    cases e4
    exact exmAny_of (T1.at_ c x e1) (exmAny_of (T2.at_ c x2 e3) rfl)
  | three h1 T1 h2 T2 h3 T3 =>
    obtain ⟨x, y, e1, e2, rfl⟩ := selU_cons e
    obtain ⟨x2, y2, e3, e4, rfl⟩ := selU_cons e2
    obtain ⟨x3, y3, e5, e6, rfl⟩ := selU_cons e4
    cases e6
    exact exmAny_of (T1.at_ c x e1) (exmAny_of (T2.at_ c x2 e3) (exmAny_of (T3.at_ c x3 e5) rfl))
inductive DyOk (X : Cx) : List ExceptHandler → List DH → List Cy → Prop
  | nil : DyOk X [] [] []
  | as_ {n : Str} {t : Expr} {sel : Str → Option Bool} {T : Tst} {i : Nat} {gh : Addr → Option Addr → Str → LS} {b₀ : Stmt} {suite : List Stmt} {pos' : Pos} {hs : List ExceptHandler} {ds : List DH} {zs : List Cy} (i0 : Nat) (e0 : i0 = i) (T0 : DTst X t sel T)
      (hsu : ∀ (a : Addr) (oe : Obj) (d : Option Addr) (c : Str) (pn : List (Addr × Obj)), Zc (.ref (He.ga X.K c)) d oe → (∃ vs, oe.data = .fields vs) → DSs (X.suite a ((a, oe) :: pn)) WF (b₀ :: suite) (gh a d c))
      (more : DyOk X hs ds zs) (hi : X.N[i]? = some n := by rfl) (hln : X.env.kindOf n = some .local := by rfl) :
      DyOk X (.ExceptHandler (some t) (some n) (b₀ :: suite) pos' :: hs) (.as_ sel i gh :: ds) ((T, some i, fun a cls d D σ H => ∃ c, cls = .ref (He.ga X.K c) ∧ cS X.K WF (gh a d c) D σ H) :: zs)
  | no {t : Expr} {sel : Str → Option Bool} {T : Tst} {gh : LS} {b₀ : Stmt} {suite : List Stmt} {pos' : Pos} {hs : List ExceptHandler} {ds : List DH} {zs : List Cy} (T0 : DTst X t sel T)
      (hsu : ∀ (a : Addr) (oe : Obj) (d : Option Addr) (cls : Value) (pn : List (Addr × Obj)), Zc cls d oe → (∃ vs, oe.data = .fields vs) → DSs (X.suite a ((a, oe) :: pn)) WF (b₀ :: suite) gh)
      (more : DyOk X hs ds zs) :
      DyOk X (.ExceptHandler (some t) none (b₀ :: suite) pos' :: hs) (.no sel gh :: ds) ((T, none, fun _ _ _ => cS X.K WF gh) :: zs)
theorem DyOk.cz {X : Cx} {hs : List ExceptHandler} {ds : List DH} {zs : List Cy} (h : DyOk X hs ds zs) : CyOk X hs zs := by
  induction h with
  | nil => exact .nil
  | as_ i0 e0 T0 hsu more hi hln ih =>
    refine .cons T0.test ⟨hi, hln⟩ (fun a ob cls d pl hz hf => ⟨fun pins s σ H D I ⟨c, e, w⟩ => ?_⟩) ih
    subst e
    exact (hsu a ob d c pl hz hf).run pins s σ H D I w
  | no T0 hsu more ih => exact .cons T0.test trivial (fun a ob cls d pl hz hf => hsu a ob d cls pl hz hf) ih
theorem DyOk.sound {X : Cx} {W : WX} {hs : List ExceptHandler} {ds : List DH} {zs : List Cy} (h : DyOk X hs ds zs) {D : Ends} {c : Str} {fs : XF} {δ1 : Lc} {S0 S1 : Store} {ι : Nat → Addr} {R : Hp} {σ1 : L2.St} {dx : Option Addr} {ι1 : Nat → Addr} {R1 H1 : Hp} (st : Stp S0 ι R S1 ι1 R1) (ab1 : Ab X.K Fr S1 ι1 R1 H1) (lo1 : Locs X.K R1 S1 ι1 δ1 σ1) (xr : XRep X.K R1 S1 ι1 fs dx) :
    wpS X.K Fr S0 ι R (hdN ds c fs δ1 S1) D W → wY X.K W D zs (.ref (He.ga X.K c)) dx σ1 H1 := by
  induction h with
  | nil => exact fun w => w σ1 dx ι1 R1 H1 st ab1 lo1 xr
  | @as_ n t sel T i gh b₀ suite pos' hs ds zs i0 e0 T0 hsu more hi hln ih =>
    intro w
    unfold hdN at w
    cases es : sel c with
    | none => rw [es] at w; exact w.elim
    | some b =>
      rw [es] at w
      cases b with
      | false => exact ⟨false, T0.at_ c false es, fun z => (nomatch z), fun _ => ih w⟩
      | true =>
        refine ⟨true, T0.at_ c true es, fun _ a ha => ?_, fun z => (nomatch z)⟩
        dsimp only at w
        obtain ⟨r1, r2⟩ := exnD_rep (a := a) (c := c) xr
        have hne : allO (fun a d => unE i (gh a (dOf fs d) c (δ1.set i (some (exnD a d c fs))) S1)) ≠ .bad := fun z => by rw [z] at w; exact w.elim
        have ew := allO_at hne a dx
        rw [← ew, r2] at w
        show cyG (T, some i, _) a _ dx D σ1 H1
        unfold cyG gonE
        refine ⟨c, rfl, δ1.set i (some (exnD a dx c fs)), S1, ι1, R1, Fr, ab1, lo1.set r1 i, ?_⟩
        have w := w.step st
        cases eo : gh a dx c (δ1.set i (some (exnD a dx c fs))) S1 with
        | bad => rw [eo] at w; exact w.elim
        | exc c2 fs2 δ2 S2 => rw [eo] at w; exact w.elim
        | ok f δ2 S2 =>
          rw [eo] at w
          cases f with
          | nx => exact fun σ2 ι2 R2 H2 st2 ab2 lo2 => w _ ι2 R2 H2 st2 ab2 (lo2.clear i none)
          | brk => exact fun σ2 ι2 R2 H2 st2 ab2 lo2 => w _ ι2 R2 H2 st2 ab2 (lo2.clear i none)
          | cont => exact fun σ2 ι2 R2 H2 st2 ab2 lo2 => w _ ι2 R2 H2 st2 ab2 (lo2.clear i none)
          | ret d => exact w
  | @no t sel T gh b₀ suite pos' hs ds zs T0 hsu more ih =>
    intro w
    unfold hdN at w
    cases es : sel c with
    | none => rw [es] at w; exact w.elim
    | some b =>
      rw [es] at w
      cases b with
      | false => exact ⟨false, T0.at_ c false es, fun z => (nomatch z), fun _ => ih w⟩
      | true =>
        refine ⟨true, T0.at_ c true es, fun _ a ha => ?_, fun z => (nomatch z)⟩
        dsimp only at w
        show cyG (T, none, _) a _ dx D σ1 H1
        unfold cyG
        refine ⟨δ1, S1, ι1, R1, Fr, ab1, lo1, ?_⟩
        cases eo : gh δ1 S1 with
        | bad => rw [eo] at w; exact w.elim
        | exc c2 fs2 δ2 S2 => rw [eo] at w; exact w.elim
        | ok f δ2 S2 =>
          rw [eo] at w
          have w := w.step st
          cases f <;> exact w
section
variable {X : Cx} {W : WX} {k : Nat} {body : List Stmt} {pos : Pos} {gb : LS} {eh : ExceptHandler} {ehs : List ExceptHandler} {ds : List DH} {zs : List Cy}
theorem ds_tryT (cx : Ctx X W k) (hz : DyOk X (eh :: ehs) ds zs)
    (hb : ∀ (W' : WX) (pn : List (Addr × Obj)) (xe : Value → Shared → Prop), Ctx (X.tr pn xe) W' k → DSs (X.tr pn xe) W' body gb) :
    DS X W (.Try body (eh :: ehs) [] [] pos) (sTryN ds gb) := by
  refine PS.imp (ps_tryT (tb := fun W' => cS X.K W' gb) (Wo := W) cx.hs cx.hf cx.nd cx.tk (fun W' pn xe tk po => hb W' pn xe ⟨⟨cx.hr, tk, cx.calm, cx.nd⟩, po, cx.hs, cx.hf⟩) hz.cz) fun D σ H ⟨δ, S, ι, R, Fr, ab, lo, w⟩ => ⟨δ, S, ι, R, Fr, ab, lo, ?_⟩
  unfold sTryN at w
  cases e : gb δ S with
  | bad => rw [e] at w; exact w.elim
  | ok f δ1 S1 => rw [e] at w; cases f <;> exact w
  | exc c fs δ1 S1 =>
    rw [e] at w
    intro σ1 dx ι1 R1 H1 st ab1 lo1 xr
    exact hz.sound st ab1 lo1 xr w
end
end DL

set_option Elab.async false
set_option linter.all false
set_option maxRecDepth 100000
set_option maxHeartbeats 4000000
/-! an own error as a value that is not raised; isinstance of it (own work). -/
namespace DL
open PySem PySem.Spec L2 PyProof.Rows
variable {Fr : Hp}
def xExo (c : Str) (g : LE) : LE := fun δ S => (g δ S).bind fun (_ : D) S1 => .ok (.ref S1.length, S1 ++ [some (Cell.exo c)])
theorem de_exo {X : Cx} {W : WX} {x : Str} {e : Expr} {g : LE} {p pos : Pos} (cn : Str) (q : PySem.W.excIn X.K (He.ga X.K cn) He.veBase "ValueError.__new__" = true) (hm : X.mg x = some (.ref (He.ga X.K cn))) (hk : PySem.W.keepIn X.K (.ref (He.ga X.K cn)) = true)
    (he : DE X W e g) (hg : Gl X x := by rfl) (hs : starEach [e] X.env = (false, eval e X.env) :: starEach [] X.env := by rfl) (hdb : (x == ("__debug__" : Str)) = false := by decide) :
    DE X W (.Call (.Name x p) [e] [] pos) (xExo cn g) :=
  PE.imp (pe_exc1 PySem.F.excBase_ValueError q hm hk hg he hs hdb) fun σ H Q w => cO.bind (rel := Rep X.K) (rel2 := Rep X.K) (f := fun (_ : D) (_ : Lc) S1 => (.ok (D.ref S1.length, S1 ++ [some (Cell.exo cn)]) : Oc (D × Store))) (Q := Q) w fun d v δ S1 ι1 R1 Fr H1 ab lo r w1 => fun a ha => by
    have hF : Fr a = none := Same.free ab.fsub ha
    obtain ⟨ab7, st7⟩ := Ab.push (c := .exo cn) (ab.frame_new (o := ExO (.ref (He.ga X.K cn)) a) ha) hF (by show upd H1 a _ a = _; exact upd_same)
    refine w1 (.ref a) _ R1 _ st7 ab7 ?_
    unfold Rep
    exact ⟨a, rfl, by simp, fun _ => (if_pos rfl).symm⟩
/-- isinstance(x, c), x such an object -/
def rIsEV (K : PySem.W.Frag) (D : Addr) : List V → Hp → VK → Prop := fun xs H Q => ∃ (a : Addr) (c : V) (cv : Value) (b : Bool), xs = [.ref a, c] ∧ H a = some (ExO (.ref D) a) ∧ (∀ u, RelV c u → u = cv) ∧ PySem.W.kitOne K (.ref D) cv = some b ∧ Q (.bl b) H
theorem call_isEV {X : Cx} {D : Addr} (C : ExcC X.K D) : CallR X (.builtin "isinstance") (rIsEV X.K D) := by
  intro pins s σ H xs us Q I r h
  obtain ⟨a, c, cv, b, rfl, ha, hcv, e, q⟩ := h
  cases r with
  | cons rx rr =>
    cases rr with
    | cons rt rr =>
      cases rr
      cases rx
      have ec := hcv _ rt
      subst ec
      obtain ⟨⟨oe, vs, hget, hz, hv, _⟩, _, _⟩ := I.hok a _ ha
      have J : PySem.W.InstAt s.heap a oe D none := by
        obtain ⟨oc, od, oda, osl⟩ := oe
        obtain ⟨h1, h2⟩ := hz
        dsimp only at h1 h2 hv
        subst h1 h2 hv
        exact ⟨hget, rfl, rfl, trivial⟩
      exact PySem.W.kia_one (PySem.W.handS_kitx_exc C.hg C.hk C.hs C.hd C.ha C.hn C.ht C.hm) I.kIn J e (fun z => nomatch z) fun tk => ⟨.bl b, H, I.kept (t' := tk) fun _ _ z => z, rfl, q⟩
def exoOf (d : D) (S : Store) : Option Str := match d with
  | .ref n => (match S[n]? with
    | some (some (.exo c)) => some c
    | _ => none)
  | _ => none
theorem exoOf_ok {K : PySem.W.Frag} {R H : Hp} {S : Store} {ι : Nat → Addr} {d : D} {x : V} {c : Str} (ab : Ab K Fr S ι R H) (r : Rep K R S ι d x) (e : exoOf d S = some c) : ∃ a, x = .ref a ∧ H a = some (ExO (.ref (He.ga K c)) a) := by
  cases d with
  | ref n =>
    unfold exoOf at e
    dsimp only at e
    unfold Rep at r
    obtain ⟨a, rfl, hl, q⟩ := r
    cases h : S[n]? with
    | none => rw [h] at e; cases e
    | some o =>
      cases o with
      | none => rw [h] at e; cases e
      | some cl =>
        cases cl with
        | exo c' =>
          rw [h] at e
          cases e
          have z := ab.cell n _ h
          have ea := q ⟨_, h⟩
          subst ea
          exact ⟨_, rfl, z⟩
        | _ => rw [h] at e; cases e
  | _ => cases e
/-- isinstance where a table tells the own errors' answers -/
def dIsiE (l : List (Str × Bool)) (T : Ty) : F1 := fun d S => match exoOf d S with
  | some c => (match selK l c with
    | some b => .ok (.bl b, S)
    | none => .bad)
  | none => dIsi T d S
section
variable {X : Cx} {W : WX} {k : Nat} {a b c e : Expr} {ga gb gc : LE} {pos p p2 : Pos} {x y : Str}
def rIsETab (K : PySem.W.Frag) (l : List (Str × Bool)) : List V → Hp → VK → Prop := fun xs H Q => ∃ c b, selK l c = some b ∧ rIsEV K (He.ga K c) xs H Q
theorem call_isETab {l : List (Str × Bool)} {cv : Value} (t : IsTab X.K l cv) : CallR X (.builtin "isinstance") (rIsETab X.K l) := by
  intro pins s σ H xs us Q I r h
  obtain ⟨c, b, e, h⟩ := h
  exact call_isEV (t.at_ c b e).1 pins s σ H xs us Q I r h
theorem de_isiE (T : Ty) {l : List (Str × Bool)} (t : IsTab X.K l (.type T.nm)) (hm : X.mg "isinstance" = none) (hm2 : X.mg y = none) (hT : T ≠ .non) (hv : bootBuiltins y = some (.type T.nm)) (ha : DE X W a ga) (hg : Gl X "isinstance" := by rfl) (hg2 : Gl X y := by rfl) (hn : y ≠ "__name__" := by decide) (hdb : (y == ("__debug__" : Str)) = false := by decide)
    (he : starEach [a, .Name y p2] X.env = (false, eval a X.env) :: starEach [.Name y p2] X.env := by rfl) (he2 : starEach [.Name y p2] X.env = (false, eval (.Name y p2) X.env) :: starEach [] X.env := by rfl) (hpl : (backTo pos (starEach [.Name y p2] X.env)).any (·.1) = false := by rfl) :
    DE X W (.Call (.Name "isinstance" p) [a, .Name y p2] [] pos) (x1 (dIsiE l T) ga) :=
  PE.imp (pe_callB (CallR.or call_isi (call_isETab t)) hg hm (by decide +kernel) (pa_cons ha (pa_cons (pe_tyname hg2 hm2 hv hn hdb) pa_nil he2) he) (by decide) (by decide) he hpl) fun σ H Q w => cO.bind (rel := Rep X.K) (rel2 := Rep X.K) (f := fun d (_ : Lc) S1 => dIsiE l T d S1) w fun d v δ S1 ι1 R1 Fr H1 ab lo r w1 => by
    unfold dIsiE at w1
    cases e0 : exoOf d S1 with
    | some c =>
      rw [e0] at w1
      dsimp only at w1
      cases e1 : selK l c with
      | none => rw [e1] at w1; exact w1.elim
      | some b =>
        rw [e1] at w1
        obtain ⟨a, rfl, hH⟩ := exoOf_ok ab r e0
        exact .inr ⟨c, b, e1, a, .ty T.nm, .type T.nm, b, rfl, hH, fun u h => by cases h; rfl, (t.at_ c b e1).2, w1.ok ab rep_bl_intro⟩
    | none =>
      rw [e0] at w1
      dsimp only at w1
      unfold dIsi at w1
      cases e : tyOf d S1 with
      | none => rw [e] at w1; exact w1.elim
      | some t =>
        rw [e] at w1
        obtain ⟨u, h1, h2⟩ := kit_isiB hT (tyOf_ok ab r e)
        exact .inl ⟨v, .ty T.nm, u, _, _, rfl, .ty _, h1, h2, w1.ok ab rep_bl_intro⟩
end
section
variable {δ : Lc} {S : Store} {QD : D → Store → Prop} {E : XQ}
theorem wp_exo (c : Str) (g : LE) : wp (xExo c g δ S) QD E = wp (g δ S) (fun _ S1 => QD (.ref S1.length) (S1 ++ [some (.exo c)])) E := wp_bind _
theorem wp_isiE_no {l : List (Str × Bool)} {T : Ty} {d : D} (h : exoOf d S = none) : wp (dIsiE l T d S) QD E = wp (dIsi T d S) QD E := by
  unfold dIsiE
  rw [h]
theorem wp_isiE_i (l : List (Str × Bool)) (T : Ty) (x : Int) : wp (dIsiE l T (.int x) S) QD E = wp (dIsi T (.int x) S) QD E := id rfl
theorem wp_isiE_b (l : List (Str × Bool)) (T : Ty) (x : Bool) : wp (dIsiE l T (.bl x) S) QD E = wp (dIsi T (.bl x) S) QD E := id rfl
theorem wp_isiE_s (l : List (Str × Bool)) (T : Ty) (x : Str) : wp (dIsiE l T (.str x) S) QD E = wp (dIsi T (.str x) S) QD E := id rfl
theorem wp_isiE_n (l : List (Str × Bool)) (T : Ty) : wp (dIsiE l T .non S) QD E = wp (dIsi T .non S) QD E := id rfl
theorem wp_isiE_l (l : List (Str × Bool)) (T : Ty) (x : List D) : wp (dIsiE l T (.lst x) S) QD E = wp (dIsi T (.lst x) S) QD E := id rfl
theorem wp_isiE_t (l : List (Str × Bool)) (T : Ty) (x : List D) : wp (dIsiE l T (.tup x) S) QD E = wp (dIsi T (.tup x) S) QD E := id rfl
theorem wp_isiE_o (l : List (Str × Bool)) (T : Ty) (c : Str) (ns : List Str) (x : List D) : wp (dIsiE l T (.ins c ns x) S) QD E = wp (dIsi T (.ins c ns x) S) QD E := id rfl
theorem exoOf_R {n : Nat} {c : Str} (h : S[n]? = some (some (.exo c))) : exoOf (.ref n) S = some c := by
  unfold exoOf
  simp only [h]
theorem exoOf_d {n : Nat} {ks : List Key} {ds : List D} (h : S[n]? = some (some (.dct ks ds))) : exoOf (.ref n) S = none := by
  unfold exoOf
  simp only [h]
theorem wp_isiE_x {l : List (Str × Bool)} {T : Ty} {d : D} {c : Str} {b : Bool} (h : exoOf d S = some c) (hs : selK l c = some b) : wp (dIsiE l T d S) QD E = QD (.bl b) S := by
  unfold dIsiE
  rw [h]
  dsimp only
  rw [hs]
  exact id rfl
end
end DL

namespace G
open PySem PySem.Spec L2 DL
variable {Fr : Hp}
abbrev fl_Ranges : List Str := ["spans"]
abbrev N__law_mix : List Str := ["_law_cell_here", "_law_k", "_law_number", "_law_j"]
noncomputable def m__law_mix : LS := sSeq (sIf (tB (x2 dGe (xVar 0) (x2 dPow (xC (.int 10)) (xC (.int 18))))) (sSeq (sSet 2 (x2 dMod (xVar 0) (x2 dMul (x2 dMul (x2 dMul (x2 dMul (x2 dMul (x2 dPow (xC (.int 10)) (xC (.int 63))) (x2 dPow (xC (.int 10)) (xC (.int 63)))) (x2 dPow (xC (.int 10)) (xC (.int 63)))) (x2 dPow (xC (.int 10)) (xC (.int 63)))) (x2 dPow (xC (.int 10)) (xC (.int 63)))) (x2 dPow (xC (.int 10)) (xC (.int 51)))))) (sSeq (sFor (xRng1 (xCons (x2 dMod (xVar 1) (xC (.int 60))) (xNil))) (gNm 3) (sSet 2 (x2 dFdiv (xVar 2) (xC (.int 1000000))))) (sIf (tB (x2 dGt (xVar 2) (xC (.int 0)))) (sRet (x2 dMod (xVar 2) (xC (.int 1000000)))) (sNil)))) (sNil)) (sSeq (sSet 2 (x2 dMod (x2 dMul (x2 dAdd (xVar 0) (xC (.int 3))) (xC (.int 1181783497276652981))) (xC (.int 2305843009213693951)))) (sSeq (sSet 2 (x2 dMod (x2 dAdd (xVar 2) (x2 dMul (x2 dAdd (xVar 1) (xC (.int 1))) (xC (.int 614889782588491411)))) (xC (.int 2305843009213693951)))) (sSeq (sSet 2 (x2 dMod (x2 dMul (xVar 2) (xVar 2)) (xC (.int 999999999999999989)))) (sSeq (sSet 2 (x2 dMod (x2 dMul (x2 dAdd (xVar 2) (xC (.int 1))) (x2 dAdd (x2 dFdiv (xVar 2) (xC (.int 1000003))) (xC (.int 7)))) (xC (.int 2305843009213693951)))) (sRet (x2 dMod (x2 dFdiv (xVar 2) (xC (.int 7919))) (xC (.int 999983))))))))
noncomputable def F__law_mix : Fn := bodyD 4 m__law_mix
abbrev N__law_text : List Str := ["_law_cell_here", "_law_many", "_law_small", "_law_signs", "_law_j"]
noncomputable def m__law_text : LS := sSeq (sSet 3 (xC (.str " !\"#$&'()*+,-./0123456789:;<=>?@ABCDEFGHIJKLMNOPQRSTUVWXYZ[\\]^_`abcdefghijklmnopqrstuvwxyz{|}~"))) (sSeq (sIf (tB (xVar 2)) (sSet 3 (xC (.str "abcdefghijklmnopqrstuvwxyz"))) (sNil)) (sRet (xBM isStr mJoin (xC (.str "")) (xCons (xFz (lLc [4] (xRng1 (xCons (xVar 1) (xNil))) (gNm 4) (yes) (x2 dIx (xVar 3) (x2 dMod (xCall 2 F__law_mix [] (xCons (xVar 0) (xCons (x2 dAdd (xC (.int 10)) (xVar 4)) (xNil)))) (xB bLen (xCons (xVar 3) (xNil))))))) (xNil)))))
noncomputable def F__law_text : Fn := bodyD 5 m__law_text
abbrev N__law_spoilt : List Str := ["_law_cell_here", "_law_text_here", "_law_at", "_law_sign"]
noncomputable def m__law_spoilt : LS := sSeq (sSet 2 (x2 dMod (xCall 2 F__law_mix [] (xCons (xVar 0) (xCons (xC (.int 3)) (xNil)))) (x2 dAdd (xB bLen (xCons (xVar 1) (xNil))) (xC (.int 1))))) (sSeq (sSet 3 (x2 dIx (xC (.str "\n\t A7-z~{")) (x2 dMod (xCall 2 F__law_mix [] (xCons (xVar 0) (xCons (xC (.int 4)) (xNil)))) (xC (.int 9))))) (sRet (x2 dAdd (x2 dAdd (xSl (xVar 1) (oNone) (oSome (xVar 2))) (xVar 3)) (xSl (xVar 1) (oSome (xVar 2)) (oNone)))))
noncomputable def F__law_spoilt : Fn := bodyD 4 m__law_spoilt
abbrev N_is_whole : List Str := ["thing"]
noncomputable def m_is_whole : LS := sRet (xAndD (x1 (dIsiE [("LaneError", false), ("BadRange", false), ("BadShort", false)] .int) (xVar 0)) (xNotD (x1 (dIsiE [("LaneError", false), ("BadRange", false), ("BadShort", false)] .bl) (xVar 0))))
noncomputable def F_is_whole : Fn := bodyD 1 m_is_whole
abbrev N_is_number : List Str := ["thing"]
noncomputable def m_is_number : LS := sRet (xAndD (xCall 1 F_is_whole [] (xCons (xVar 0) (xNil))) (xChain dLe dLe (xC (.int 0)) (xVar 0) (xC (.int 1000000000000))))
noncomputable def F_is_number : Fn := bodyD 1 m_is_number
abbrev N_is_pair : List Str := ["row"]
noncomputable def m_is_pair : LS := sSeq (sIf (tOrD (tNotD (tB (x1 (dIsiE [("LaneError", false), ("BadRange", false), ("BadShort", false)] .tup) (xVar 0)))) (tOrD (tB (x2 dNe (xB bLen (xCons (xVar 0) (xNil))) (xC (.int 2)))) (tOrD (tNotD (tB (xCall 1 F_is_number [] (xCons (x2 dIx (xVar 0) (xC (.int 0))) (xNil))))) (tNotD (tB (xCall 1 F_is_number [] (xCons (x2 dIx (xVar 0) (xC (.int 1))) (xNil)))))))) (sRet (xC (.bl false))) (sNil)) (sRet (x2 dLe (x2 dIx (xVar 0) (xC (.int 0))) (x2 dIx (xVar 0) (xC (.int 1)))))
noncomputable def F_is_pair : Fn := bodyD 1 m_is_pair
abbrev N_merged : List Str := ["rows", "found", "first", "last"]
noncomputable def m_merged : LS := sSeq (sSet 1 (xCell (lDisp (xNil)))) (sSeq (sFor (xIter (xFz (xBN nSortedT (xCons (xVar 0) (xNil))))) (gTp 2 (gCn (gNm 2) (gCn (gNm 3) (gNl)))) (sIf (tAndD (tB (x2 dNe (xVar 1) (xFz (lDisp (xNil))))) (tB (x2 dLe (xVar 2) (x2 dAdd (x2 dIx (x2 dIx (xVar 1) (x1 dNeg (xC (.int 1)))) (xC (.int 1))) (xC (.int 1)))))) (sLset (xVar 1) (x1 dNeg (xC (.int 1))) (xTup (xCons (x2 dIx (x2 dIx (xVar 1) (x1 dNeg (xC (.int 1)))) (xC (.int 0))) (xCons (xB bMax (xCons (x2 dIx (x2 dIx (xVar 1) (x1 dNeg (xC (.int 1)))) (xC (.int 1))) (xCons (xVar 3) (xNil)))) (xNil))))) (sExpr (xBM isLst mAppend (xVar 1) (xCons (xTup (xCons (xVar 2) (xCons (xVar 3) (xNil)))) (xNil)))))) (sRet (xFrz (xVar 1))))
noncomputable def F_merged : Fn := pureD (bodyD 4 m_merged)
abbrev N_Ranges___init__ : List Str := ["self", "rows", "at", "row"]
noncomputable def m_Ranges___init__ : LS := sSeq (sFor (xEnum (xCons (xVar 1) (xNil))) (gTp 2 (gCn (gNm 2) (gCn (gNm 3) (gNl)))) (sIf (tNotD (tB (xCall 1 F_is_pair [] (xCons (xVar 3) (xNil))))) (sRaise1 "BadRange" "at" (xVar 2)) (sNil))) (sFldD 0 "spans" (xVar 0) (xCall 1 F_merged [] (xCons (xVar 1) (xNil))))
noncomputable def F_Ranges___init__ : Fn := bodyD 4 m_Ranges___init__
abbrev N__law_thing : List Str := ["_law_cell_here", "_law_way", "_law_draw", "_law_times"]
noncomputable def m__law_thing : LS := sSeq (sSet 1 (x2 dMod (xCall 2 F__law_mix [] (xCons (xVar 0) (xCons (xC (.int 0)) (xNil)))) (xC (.int 12)))) (sSeq (sSet 2 (xCall 2 F__law_mix [] (xCons (xVar 0) (xCons (xC (.int 1)) (xNil))))) (sSeq (sIf (tB (x2 dLt (xVar 1) (xC (.int 3)))) (sRet (x2 dIx (xFz (lDisp (xCons (x2 dSub (x2 dMod (xVar 2) (xC (.int 45))) (xC (.int 3))) (xCons (x2 dSub (x2 dAdd (x2 dPow (xC (.int 10)) (xC (.int 12))) (x2 dMod (xVar 2) (xC (.int 5)))) (xC (.int 2))) (xCons (x2 dMul (xVar 2) (xCall 2 F__law_mix [] (xCons (xVar 0) (xCons (xC (.int 2)) (xNil))))) (xNil)))))) (xVar 1))) (sNil)) (sSeq (sIf (tB (x2 dEq (xVar 1) (xC (.int 3)))) (sRet (x2 dIx (xFz (lDisp (xCons (x1 dNeg (xC (.int 1))) (xCons (x2 dSub (x1 dNeg (xVar 2)) (xC (.int 1))) (xCons (x2 dAdd (x2 dPow (xC (.int 10)) (xC (.int 13))) (xVar 2)) (xCons (x2 dAdd (x2 dPow (xC (.int 10)) (xC (.int 60))) (xVar 2)) (xCons (x1 dNeg (x2 dPow (xC (.int 10)) (xC (.int 40)))) (xNil)))))))) (x2 dMod (xVar 2) (xC (.int 5))))) (sNil)) (sSeq (sIf (tB (x2 dLt (xVar 1) (xC (.int 6)))) (sSeq (sSet 3 (x2 dIx (xFz (lDisp (xCons (xC (.int 1)) (xCons (xC (.int 1)) (xCons (xC (.int 1)) (xCons (x2 dAdd (xC (.int 1)) (x2 dMod (x2 dFdiv (xVar 2) (xC (.int 13))) (xC (.int 30)))) (xNil))))))) (x2 dMod (x2 dFdiv (xVar 2) (xC (.int 400))) (xC (.int 4))))) (sRet (x2 dMulS (xCall 3 F__law_text [] (xCons (xVar 0) (xCons (x2 dMod (xVar 2) (x2 dIx (xFz (lDisp (xCons (xC (.int 13)) (xCons (xC (.int 11)) (xNil))))) (x2 dSub (xVar 1) (xC (.int 4))))) (xCons (x2 dEq (xVar 1) (xC (.int 5))) (xNil))))) (xVar 3)))) (sNil)) (sSeq (sIf (tB (x2 dLt (xVar 1) (xC (.int 8)))) (sSeq (sSet 3 (x2 dIx (xFz (lDisp (xCons (xC (.int 1)) (xCons (xC (.int 1)) (xCons (xC (.int 1)) (xCons (x2 dAdd (xC (.int 1)) (x2 dMod (x2 dFdiv (xVar 2) (xC (.int 13))) (xC (.int 30)))) (xNil))))))) (x2 dMod (x2 dFdiv (xVar 2) (xC (.int 400))) (xC (.int 4))))) (sRet (xCall 2 F__law_spoilt [] (xCons (xVar 0) (xCons (x2 dMulS (xCall 3 F__law_text [] (xCons (xVar 0) (xCons (x2 dMod (xVar 2) (x2 dIx (xFz (lDisp (xCons (xC (.int 12)) (xCons (xC (.int 9)) (xNil))))) (x2 dSub (xVar 1) (xC (.int 6))))) (xCons (x2 dEq (xVar 1) (xC (.int 7))) (xNil))))) (xVar 3)) (xNil)))))) (sNil)) (sSeq (sIf (tB (x2 dEq (xVar 1) (xC (.int 8)))) (sRet (x2 dIx (xFz (lDisp (xCons (xC (.bl true)) (xCons (xC (.bl false)) (xCons (xC .non) (xCons (xExo "BadShort" (xC (.str "a"))) (xCons (xMakeF (xMake "Ranges" ["spans"] 2 F_Ranges___init__ [] (xCons (xFz (lDisp (xCons (xTup (xCons (xC (.int 0)) (xCons (xC (.int 3)) (xNil)))) (xNil)))) (xNil)))) (xNil)))))))) (x2 dMod (xVar 2) (xC (.int 5))))) (sNil)) (sSeq (sIf (tB (x2 dEq (xVar 1) (xC (.int 9)))) (sRet (x2 dIx (xFz (lDisp (xCons (xFz (lDisp (xNil))) (xCons (xFz (lDisp (xCons (xC (.int 3)) (xNil)))) (xCons (xTup (xNil)) (xCons (xTup (xCons (xC (.int 3)) (xNil))) (xCons (xDnew) (xCons (xDdisp [(.inl 3)] (xCons (xC (.int 3)) (xNil))) (xCons (xFz (lDisp (xCons (xC (.str "a")) (xNil)))) (xCons (xTup (xCons (xC (.str "a")) (xCons (xC (.str "b")) (xNil)))) (xCons (xDdisp [(.inr "a")] (xCons (xC (.int 1)) (xNil))) (xCons (xFz (lDisp (xCons (xFz (lDisp (xNil))) (xNil)))) (xNil))))))))))))) (x2 dMod (xVar 2) (xC (.int 10))))) (sNil)) (sSeq (sIf (tB (x2 dEq (xVar 1) (xC (.int 10)))) (sRet (xB bStrI (xCons (x2 dMod (xVar 2) (xC (.int 50))) (xNil)))) (sNil)) (sRet (x2 dIx (xFz (lDisp (xCons (xC (.str "a")) (xCons (xC (.str "abcdefgh")) (xCons (xC (.str "abcdefghi")) (xCons (xC (.str "")) (xCons (xC (.str " ")) (xCons (xC (.str "~")) (xCons (xC (.str "z")) (xNil)))))))))) (x2 dMod (xVar 2) (xC (.int 7)))))))))))))
noncomputable def F__law_thing : Fn := bodyD 4 m__law_thing
abbrev N__law_cell : List Str := ["_law_script", "_law_k"]
noncomputable def m__law_cell : LS := sSeq (sIf (tB (x2 dLt (xVar 1) (xB bLen (xCons (xVar 0) (xNil))))) (sRet (x2 dIx (xVar 0) (xVar 1))) (sNil)) (sRet (x2 dAdd (xC (.int 1001)) (x2 dMul (xC (.int 4)) (xVar 1))))
noncomputable def F__law_cell : Fn := bodyD 2 m__law_cell
abbrev N_is_lane : List Str := ["thing"]
noncomputable def m_is_lane : LS := sRet (xAndD (xCall 1 F_is_whole [] (xCons (xVar 0) (xNil))) (xChain dLe dLt (xC (.int 0)) (xVar 0) (xC (.int 40))))
noncomputable def F_is_lane : Fn := bodyD 1 m_is_lane
abbrev N_is_word : List Str := ["thing", "sign"]
noncomputable def m_is_word : LS := sRet (xAndD (x1 (dIsiE [("LaneError", false), ("BadRange", false), ("BadShort", false)] .str) (xVar 0)) (xAndD (xChain dLe dLe (xC (.int 1)) (xB bLen (xCons (xVar 0) (xNil))) (xC (.int 8))) (xB bAll (xCons (xFz (lLc [1] (xIter (xVar 0)) (gNm 1) (yes) (x2 (dIn false) (xVar 1) (xC (.str "abcdefghijklmnopqrstuvwxyz"))))) (xNil)))))
noncomputable def F_is_word : Fn := bodyD 2 m_is_word
abbrev N_is_letters : List Str := ["thing", "sign"]
noncomputable def m_is_letters : LS := sRet (xAndD (x1 (dIsiE [("LaneError", false), ("BadRange", false), ("BadShort", false)] .str) (xVar 0)) (xB bAll (xCons (xFz (lLc [1] (xIter (xVar 0)) (gNm 1) (yes) (xChain dLe dLe (xC (.str " ")) (xVar 1) (xC (.str "~"))))) (xNil))))
noncomputable def F_is_letters : Fn := bodyD 2 m_is_letters
abbrev N__law_told : List Str := ["_law_thing_here"]
noncomputable def m__law_told : LS := sRet (xFz (lDisp (xCons (xCall 1 F_is_number [] (xCons (xVar 0) (xNil))) (xCons (xCall 1 F_is_letters [] (xCons (xVar 0) (xNil))) (xCons (xCall 1 F_is_word [] (xCons (xVar 0) (xNil))) (xCons (xCall 1 F_is_lane [] (xCons (xVar 0) (xNil))) (xNil)))))))
noncomputable def F__law_told : Fn := bodyD 1 m__law_told
abbrev N__law_due : List Str := ["_law_thing_here", "_law_whole", "_law_text_here", "_law_letters", "_law_word", "_law_sign"]
noncomputable def m__law_due : LS := sSeq (sSet 1 (xAndD (x1 (dIsiE [("LaneError", false), ("BadRange", false), ("BadShort", false)] .int) (xVar 0)) (xNotD (x1 (dIsiE [("LaneError", false), ("BadRange", false), ("BadShort", false)] .bl) (xVar 0))))) (sSeq (sSet 2 (x1 (dIsiE [("LaneError", false), ("BadRange", false), ("BadShort", false)] .str) (xVar 0))) (sSeq (sSet 3 (xAndD (xVar 2) (x2 dEq (xFz (lLc [5] (xIter (xVar 0)) (gNm 5) (tOrD (tB (x2 dLt (xVar 5) (xC (.str " ")))) (tB (x2 dGt (xVar 5) (xC (.str "~"))))) (xVar 5))) (xFz (lDisp (xNil)))))) (sSeq (sSet 4 (xAndD (xVar 2) (xAndD (x2 dEq (xFz (lLc [5] (xIter (xVar 0)) (gNm 5) (tOrD (tB (x2 dLt (xVar 5) (xC (.str "a")))) (tB (x2 dGt (xVar 5) (xC (.str "z"))))) (xVar 5))) (xFz (lDisp (xNil)))) (xChain dLe dLe (xC (.int 1)) (xB bLen (xCons (xVar 0) (xNil))) (xC (.int 8)))))) (sRet (xFz (lDisp (xCons (xAndD (xVar 1) (xChain dLe dLe (xC (.int 0)) (xVar 0) (x2 dPow (xC (.int 10)) (xC (.int 12))))) (xCons (xVar 3) (xCons (xVar 4) (xCons (xAndD (xVar 1) (xChain dLe dLe (xC (.int 0)) (xVar 0) (xC (.int 39)))) (xNil)))))))))))
noncomputable def F__law_due : Fn := bodyD 6 m__law_due
abbrev N_law : List Str := ["_law_script", "_law_things", "_law_thing_here", "_law_found", "_law_k", "_law_one"]
noncomputable def m_law : LS := sSeq (sSet 1 (xFz (lLc [4] (xRng1 (xCons (xC (.int 24)) (xNil))) (gNm 4) (yes) (xCall 1 F__law_thing [] (xCons (xCall 2 F__law_cell [] (xCons (xVar 0) (xCons (xVar 4) (xNil)))) (xNil)))))) (sSeq (sFor (xIter (x2 dAdd (xVar 1) (x1 dRev (xVar 1)))) (gNm 2) (sSeq (sSet 3 (xCall 1 F__law_told [] (xCons (xVar 2) (xNil)))) (sIf (tOrD (tNotD (tB (xB bAll (xCons (xFz (lLc [5] (xIter (xVar 3)) (gNm 5) (yes) (x1 (dIsiE [("LaneError", false), ("BadRange", false), ("BadShort", false)] .bl) (xVar 5)))) (xNil))))) (tB (x2 dNe (xVar 3) (xCall 1 F__law_due [] (xCons (xVar 2) (xNil)))))) (sRet (xC (.bl false))) (sNil)))) (sRet (xAndD (x1 (dIsiE [("LaneError", false), ("BadRange", false), ("BadShort", false)] .int) (xC (.int 1000000000000))) (x2 dEq (xC (.int 1000000000000)) (x2 dPow (xC (.int 10)) (xC (.int 12)))))))
noncomputable def F_law : Fn := bodyD 6 m_law
abbrev N_Ranges___len__ : List Str := ["self"]
noncomputable def m_Ranges___len__ : LS := sRet (xB bLen (xCons (xFld 0 "spans" (xVar 0)) (xNil)))
noncomputable def F_Ranges___len__ : Fn := bodyD 1 m_Ranges___len__
end G

namespace G
open PySem PySem.Spec L2 DL
def top (i : Nat) : Stmt := PySem.Challenge.pw_manylanes_k11_kinds_known.main.body.getD i (.Pass ⟨0, 0, 0, 0⟩)
abbrev s_is_whole : Stmt := top 6
abbrev s_is_number : Stmt := top 7
abbrev s_is_letters : Stmt := top 8
abbrev s_is_word : Stmt := top 9
abbrev s_is_lane : Stmt := top 10
abbrev s_BadRange___init__ : Stmt := inClass (top 13) 0
abbrev s_is_pair : Stmt := top 16
abbrev s_merged : Stmt := top 17
abbrev s_Ranges___init__ : Stmt := inClass (top 18) 0
abbrev s_Ranges___len__ : Stmt := inClass (top 18) 1
abbrev s__law_cell : Stmt := top 20
abbrev s__law_mix : Stmt := top 21
abbrev s__law_text : Stmt := top 22
abbrev s__law_spoilt : Stmt := top 23
abbrev s__law_thing : Stmt := top 24
abbrev s__law_due : Stmt := top 25
abbrev s__law_told : Stmt := top 26
abbrev s_law : Stmt := top 27
structure Tx (K : PySem.W.Frag) (mg : Str → Option Value) : Prop where
  f_all : mg "all" = none
  f_bool : mg "bool" = none
  f_enumerate : mg "enumerate" = none
  f_int : mg "int" = none
  f_isinstance : mg "isinstance" = none
  f_len : mg "len" = none
  f_max : mg "max" = none
  f_range : mg "range" = none
  f_sorted : mg "sorted" = none
  f_str : mg "str" = none
  f_tuple : mg "tuple" = none
  k_MOST : Kon K mg "MOST" (.int 1000000000000)
  k_LANES : Kon K mg "LANES" (.int 40)
  k_WORD : Kon K mg "WORD" (.int 8)
  k_SMALL : Kon K mg "SMALL" (.str "abcdefghijklmnopqrstuvwxyz")
  g_is_whole : mg "is_whole" = some (.ref (He.ga K "is_whole"))
  g_is_number : mg "is_number" = some (.ref (He.ga K "is_number"))
  g_is_letters : mg "is_letters" = some (.ref (He.ga K "is_letters"))
  g_is_word : mg "is_word" = some (.ref (He.ga K "is_word"))
  g_is_lane : mg "is_lane" = some (.ref (He.ga K "is_lane"))
  g_is_pair : mg "is_pair" = some (.ref (He.ga K "is_pair"))
  g_merged : mg "merged" = some (.ref (He.ga K "merged"))
  g__law_cell : mg "_law_cell" = some (.ref (He.ga K "_law_cell"))
  g__law_mix : mg "_law_mix" = some (.ref (He.ga K "_law_mix"))
  g__law_text : mg "_law_text" = some (.ref (He.ga K "_law_text"))
  g__law_spoilt : mg "_law_spoilt" = some (.ref (He.ga K "_law_spoilt"))
  g__law_thing : mg "_law_thing" = some (.ref (He.ga K "_law_thing"))
  g__law_due : mg "_law_due" = some (.ref (He.ga K "_law_due"))
  g__law_told : mg "_law_told" = some (.ref (He.ga K "_law_told"))
  g_law : mg "law" = some (.ref (He.ga K "law"))
  g_LaneError : mg "LaneError" = some (.ref (He.ga K "LaneError"))
  xq_LaneError : PySem.W.excIn K (He.ga K "LaneError") He.veBase "ValueError.__new__" = true
  xk_LaneError : PySem.W.keepIn K (.ref (He.ga K "LaneError")) = true
  xs_LaneError : PySem.W.subIn K (.ref (He.ga K "LaneError")) (.type "BaseException") = some true
  xt_LaneError : PySem.W.typeIn K (.ref (He.ga K "LaneError")) = some (.type "type")
  g_BadRange : mg "BadRange" = some (.ref (He.ga K "BadRange"))
  xf_BadRange : ExcF K "BadRange" "at"
  g_BadShort : mg "BadShort" = some (.ref (He.ga K "BadShort"))
  xq_BadShort : PySem.W.excIn K (He.ga K "BadShort") He.veBase "ValueError.__new__" = true
  xk_BadShort : PySem.W.keepIn K (.ref (He.ga K "BadShort")) = true
  xs_BadShort : PySem.W.subIn K (.ref (He.ga K "BadShort")) (.type "BaseException") = some true
  xt_BadShort : PySem.W.typeIn K (.ref (He.ga K "BadShort")) = some (.type "type")
  g_Ranges : mg "Ranges" = some (.ref (He.ga K "Ranges"))
  mk_Ranges : MkC K "Ranges" fl_Ranges
  mkr_Ranges : Mk K (He.ga K "Ranges") (He.ma K (He.ga K "Ranges") "__init__")
  m_Ranges___len__ : Meth K (He.ga K "Ranges") "__len__" (He.ma K (He.ga K "Ranges") "__len__")
  ke_Ranges___init___0 : Konst K (.tup []) (.ref (He.dflAt ("Ranges", some "__init__") 0 K))
  is_bool : IsTab K [("LaneError", false), ("BadRange", false), ("BadShort", false)] (.type "bool")
  is_int : IsTab K [("LaneError", false), ("BadRange", false), ("BadShort", false)] (.type "int")
  is_str : IsTab K [("LaneError", false), ("BadRange", false), ("BadShort", false)] (.type "str")
  is_tuple : IsTab K [("LaneError", false), ("BadRange", false), ("BadShort", false)] (.type "tuple")
  d_is_whole : ∃ fd, FunD K "is_whole" "is_whole" (defArgs s_is_whole) (defBody s_is_whole) (defScope s_is_whole) [] [] (He.ga K "is_whole") fd
  d_is_number : ∃ fd, FunD K "is_number" "is_number" (defArgs s_is_number) (defBody s_is_number) (defScope s_is_number) [] [] (He.ga K "is_number") fd
  d_is_letters : ∃ fd, FunD K "is_letters" "is_letters" (defArgs s_is_letters) (defBody s_is_letters) (defScope s_is_letters) [] [] (He.ga K "is_letters") fd
  d_is_word : ∃ fd, FunD K "is_word" "is_word" (defArgs s_is_word) (defBody s_is_word) (defScope s_is_word) [] [] (He.ga K "is_word") fd
  d_is_lane : ∃ fd, FunD K "is_lane" "is_lane" (defArgs s_is_lane) (defBody s_is_lane) (defScope s_is_lane) [] [] (He.ga K "is_lane") fd
  d_BadRange___init__ : ∃ fd, FunD K "__init__" "BadRange.__init__" (defArgs s_BadRange___init__) (defBody s_BadRange___init__) (defScope s_BadRange___init__) [] [] (He.ma K (He.ga K "BadRange") "__init__") fd
  d_is_pair : ∃ fd, FunD K "is_pair" "is_pair" (defArgs s_is_pair) (defBody s_is_pair) (defScope s_is_pair) [] [] (He.ga K "is_pair") fd
  d_merged : ∃ fd, FunD K "merged" "merged" (defArgs s_merged) (defBody s_merged) (defScope s_merged) [] [] (He.ga K "merged") fd
  d_Ranges___init__ : ∃ fd, FunD K "__init__" "Ranges.__init__" (defArgs s_Ranges___init__) (defBody s_Ranges___init__) (defScope s_Ranges___init__) [.ref (He.dflAt ("Ranges", some "__init__") 0 K)] [] (He.ma K (He.ga K "Ranges") "__init__") fd
  d_Ranges___len__ : ∃ fd, FunD K "__len__" "Ranges.__len__" (defArgs s_Ranges___len__) (defBody s_Ranges___len__) (defScope s_Ranges___len__) [] [] (He.ma K (He.ga K "Ranges") "__len__") fd
  d__law_cell : ∃ fd, FunD K "_law_cell" "_law_cell" (defArgs s__law_cell) (defBody s__law_cell) (defScope s__law_cell) [] [] (He.ga K "_law_cell") fd
  d__law_mix : ∃ fd, FunD K "_law_mix" "_law_mix" (defArgs s__law_mix) (defBody s__law_mix) (defScope s__law_mix) [] [] (He.ga K "_law_mix") fd
  d__law_text : ∃ fd, FunD K "_law_text" "_law_text" (defArgs s__law_text) (defBody s__law_text) (defScope s__law_text) [] [] (He.ga K "_law_text") fd
  d__law_spoilt : ∃ fd, FunD K "_law_spoilt" "_law_spoilt" (defArgs s__law_spoilt) (defBody s__law_spoilt) (defScope s__law_spoilt) [] [] (He.ga K "_law_spoilt") fd
  d__law_thing : ∃ fd, FunD K "_law_thing" "_law_thing" (defArgs s__law_thing) (defBody s__law_thing) (defScope s__law_thing) [] [] (He.ga K "_law_thing") fd
  d__law_due : ∃ fd, FunD K "_law_due" "_law_due" (defArgs s__law_due) (defBody s__law_due) (defScope s__law_due) [] [] (He.ga K "_law_due") fd
  d__law_told : ∃ fd, FunD K "_law_told" "_law_told" (defArgs s__law_told) (defBody s__law_told) (defScope s__law_told) [] [] (He.ga K "_law_told") fd
  d_law : ∃ fd, FunD K "law" "law" (defArgs s_law) (defBody s_law) (defScope s_law) [] [] (He.ga K "law") fd
section
variable {P : Program} {w : World} {K : PySem.W.Frag} {mg : Str → Option Value} {base : Heap}
theorem sc_BadRange___init__ : FnScope ["self", "at"] ["self", "at"] (defScope s_BadRange___init__) := ⟨rfl, rfl, rfl, by decide +kernel, rfl, by decide +kernel, by decide +kernel⟩
theorem ok_BadRange___init__ (T : Tx K mg) : ∃ fd, FnOk P w K mg base (L2.CX P w) 1 (He.ma K (He.ga K "BadRange") "__init__") fd ["self", "at"] (SpX K "at") ∧ Binds K fd ["self", "at"] [] := by
  obtain ⟨fd, F⟩ := T.d_BadRange___init__
  exact ⟨fd, exc_init F sc_BadRange___init__ (.inl rfl) (.inl rfl) (by decide) (by decide) (by decide) (by decide), F.bindsN fun _ _ _ _ _ _ us hl => match us, hl with | [_, _], _ => rfl⟩
theorem sc__law_mix : FnScope N__law_mix ["_law_cell_here", "_law_k"] (defScope s__law_mix) := ⟨rfl, rfl, rfl, by decide +kernel, rfl, by decide +kernel, by decide +kernel⟩
theorem ok__law_mix (T : Tx K mg) : ∃ fd, FnD P w K mg base 1 (He.ga K "_law_mix") fd ["_law_cell_here", "_law_k"] F__law_mix ∧ PySem.W.keepIn K (.ref (He.ga K "_law_mix")) = true ∧ Bnd K fd ["_law_cell_here", "_law_k"] [] := by
  obtain ⟨fd, F⟩ := T.d__law_mix
  have q := fn_ok (P := P) (w := w) (mg := mg) (base := base) (k := 0) F sc__law_mix (g := m__law_mix)
  refine ⟨fd, (q fun cdv A outer s H E cx => ?_), F.kp, ⟨[], .nil, F.bindsN fun _ _ _ _ _ _ us hl => match us, hl with | [_, _], _ => rfl⟩⟩
  exact ds_cons (ds_if (dt_ge (de_var 0) (de_pow (de_int) (de_int))) (ds_cons (ds_set 2 cx.toCtc.nd (de_mod (de_var 0) (de_mul (de_mul (de_mul (de_mul (de_mul (de_pow (de_int) (de_int)) (de_pow (de_int) (de_int))) (de_pow (de_int) (de_int))) (de_pow (de_int) (de_int))) (de_pow (de_int) (de_int))) (de_pow (de_int) (de_int)))))
    (ds_cons (ds_for cx.po cx.toCtc.calm (di_rng1 T.f_range (da_cons (de_mod (de_var 1) (de_int)) (da_nil))) (dg_name 3 cx.toCtc.nd) (ds_one (ds_set 2 cx.toCtc.nd (de_fdiv (de_var 2) (de_int)))))
    (ds_one (ds_if (dt_gt (de_var 2) (de_int)) (ds_one (ds_ret (de_mod (de_var 2) (de_int)))) (ds_nil))))) (ds_nil))
    (ds_cons (ds_set 2 cx.toCtc.nd (de_mod (de_mul (de_add (de_var 0) (de_int)) (de_int)) (de_int)))
    (ds_cons (ds_set 2 cx.toCtc.nd (de_mod (de_add (de_var 2) (de_mul (de_add (de_var 1) (de_int)) (de_int))) (de_int)))
    (ds_cons (ds_set 2 cx.toCtc.nd (de_mod (de_mul (de_var 2) (de_var 2)) (de_int)))
    (ds_cons (ds_set 2 cx.toCtc.nd (de_mod (de_mul (de_add (de_var 2) (de_int)) (de_add (de_fdiv (de_var 2) (de_int)) (de_int))) (de_int)))
    (ds_one (ds_ret (de_mod (de_fdiv (de_var 2) (de_int)) (de_int))))))))
theorem sc__law_text : FnScope N__law_text ["_law_cell_here", "_law_many", "_law_small"] (defScope s__law_text) := ⟨rfl, rfl, rfl, by decide +kernel, rfl, by decide +kernel, by decide +kernel⟩
theorem ok__law_text (T : Tx K mg) : ∃ fd, FnD P w K mg base 2 (He.ga K "_law_text") fd ["_law_cell_here", "_law_many", "_law_small"] F__law_text ∧ PySem.W.keepIn K (.ref (He.ga K "_law_text")) = true ∧ Bnd K fd ["_law_cell_here", "_law_many", "_law_small"] [] := by
  obtain ⟨fd, F⟩ := T.d__law_text
  obtain ⟨fd__law_mix, G0__law_mix, kp__law_mix, ⟨ds__law_mix_2, hd__law_mix_2, hb__law_mix_2⟩⟩ := ok__law_mix (P := P) (w := w) (base := base) T
  have G__law_mix := G0__law_mix.mono (show 1 ≤ 1 by decide)
  have q := fn_ok (P := P) (w := w) (mg := mg) (base := base) (k := 1) F sc__law_text (g := m__law_text)
  refine ⟨fd, (q fun cdv A outer s H E cx => ?_), F.kp, ⟨[], .nil, F.bindsN fun _ _ _ _ _ _ us hl => match us, hl with | [_, _, _], _ => rfl⟩⟩
  exact ds_cons (ds_set 3 cx.toCtc.nd (de_str))
    (ds_cons (ds_if (dt_val (de_var 2)) (ds_one (ds_set 3 cx.toCtc.nd (de_str))) (ds_nil))
    (ds_one (ds_ret (de_join (de_str) (da_cons (de_fz (dn_lc cx.toCtc.calm cx.toCtc.nd [("_law_j", 4)] (di_rng1 T.f_range (da_cons (de_var 1) (da_nil))) (blkOk_by (N := N__law_text) (sc := defScope s__law_text) (by decide +kernel)) (tg_name) (fun _ _ _ _ _ => pg_name (i := 4) cx.toCtc.nd rfl (by first | exact Or.inl rfl | exact Or.inr rfl)) (fun s1 H1 C1 cl1 fp1 => dts_nil) (fun s1 H1 C1 cl1 fp1 => de_sub_ix (de_var 3) (de_mod (de_call (cx.toCtc.blk s1 H1 _ C1 cl1 fp1) G__law_mix T.g__law_mix kp__law_mix hb__law_mix_2 hd__law_mix_2 konstL_nil (da_cons (de_var 0) (da_cons (de_add (de_int) (de_var 4)) (da_nil)))) (de_len T.f_len (da_cons (de_var 3) (da_nil))))))) (da_nil))))))
theorem sc__law_spoilt : FnScope N__law_spoilt ["_law_cell_here", "_law_text_here"] (defScope s__law_spoilt) := ⟨rfl, rfl, rfl, by decide +kernel, rfl, by decide +kernel, by decide +kernel⟩
theorem ok__law_spoilt (T : Tx K mg) : ∃ fd, FnD P w K mg base 2 (He.ga K "_law_spoilt") fd ["_law_cell_here", "_law_text_here"] F__law_spoilt ∧ PySem.W.keepIn K (.ref (He.ga K "_law_spoilt")) = true ∧ Bnd K fd ["_law_cell_here", "_law_text_here"] [] := by
  obtain ⟨fd, F⟩ := T.d__law_spoilt
  obtain ⟨fd__law_mix, G0__law_mix, kp__law_mix, ⟨ds__law_mix_2, hd__law_mix_2, hb__law_mix_2⟩⟩ := ok__law_mix (P := P) (w := w) (base := base) T
  have G__law_mix := G0__law_mix.mono (show 1 ≤ 1 by decide)
  have q := fn_ok (P := P) (w := w) (mg := mg) (base := base) (k := 1) F sc__law_spoilt (g := m__law_spoilt)
  refine ⟨fd, (q fun cdv A outer s H E cx => ?_), F.kp, ⟨[], .nil, F.bindsN fun _ _ _ _ _ _ us hl => match us, hl with | [_, _], _ => rfl⟩⟩
  exact ds_cons (ds_set 2 cx.toCtc.nd (de_mod (de_call cx.toCtc G__law_mix T.g__law_mix kp__law_mix hb__law_mix_2 hd__law_mix_2 konstL_nil (da_cons (de_var 0) (da_cons (de_int) (da_nil)))) (de_add (de_len T.f_len (da_cons (de_var 1) (da_nil))) (de_int))))
    (ds_cons (ds_set 3 cx.toCtc.nd (de_sub_ix (de_str) (de_mod (de_call cx.toCtc G__law_mix T.g__law_mix kp__law_mix hb__law_mix_2 hd__law_mix_2 konstL_nil (da_cons (de_var 0) (da_cons (de_int) (da_nil)))) (de_int))))
    (ds_one (ds_ret (de_add (de_add (de_slice (de_var 1) (do_none) (do_some (de_var 2))) (de_var 3)) (de_slice (de_var 1) (do_some (de_var 2)) (do_none))))))
theorem sc_is_whole : FnScope N_is_whole ["thing"] (defScope s_is_whole) := ⟨rfl, rfl, rfl, by decide +kernel, rfl, by decide +kernel, by decide +kernel⟩
theorem ok_is_whole (T : Tx K mg) : ∃ fd, FnD P w K mg base 1 (He.ga K "is_whole") fd ["thing"] F_is_whole ∧ PySem.W.keepIn K (.ref (He.ga K "is_whole")) = true ∧ Bnd K fd ["thing"] [] := by
  obtain ⟨fd, F⟩ := T.d_is_whole
  have q := fn_ok (P := P) (w := w) (mg := mg) (base := base) (k := 0) F sc_is_whole (g := m_is_whole)
  refine ⟨fd, (q fun cdv A outer s H E cx => ?_), F.kp, ⟨[], .nil, F.bindsN fun _ _ _ _ _ _ us hl => match us, hl with | [_], _ => rfl⟩⟩
  exact ds_one (ds_ret (de_and (de_isiE .int T.is_int T.f_isinstance T.f_int (by decide) (by decide +kernel) (de_var 0)) (de_one (de_not (de_isiE .bl T.is_bool T.f_isinstance T.f_bool (by decide) (by decide +kernel) (de_var 0))))))
theorem sc_is_number : FnScope N_is_number ["thing"] (defScope s_is_number) := ⟨rfl, rfl, rfl, by decide +kernel, rfl, by decide +kernel, by decide +kernel⟩
theorem ok_is_number (T : Tx K mg) : ∃ fd, FnD P w K mg base 2 (He.ga K "is_number") fd ["thing"] F_is_number ∧ PySem.W.keepIn K (.ref (He.ga K "is_number")) = true ∧ Bnd K fd ["thing"] [] := by
  obtain ⟨fd, F⟩ := T.d_is_number
  obtain ⟨fd_is_whole, G0_is_whole, kp_is_whole, ⟨ds_is_whole_1, hd_is_whole_1, hb_is_whole_1⟩⟩ := ok_is_whole (P := P) (w := w) (base := base) T
  have G_is_whole := G0_is_whole.mono (show 1 ≤ 1 by decide)
  have q := fn_ok (P := P) (w := w) (mg := mg) (base := base) (k := 1) F sc_is_number (g := m_is_number)
  refine ⟨fd, (q fun cdv A outer s H E cx => ?_), F.kp, ⟨[], .nil, F.bindsN fun _ _ _ _ _ _ us hl => match us, hl with | [_], _ => rfl⟩⟩
  exact ds_one (ds_ret (de_and (de_call cx.toCtc G_is_whole T.g_is_whole kp_is_whole hb_is_whole_1 hd_is_whole_1 konstL_nil (da_cons (de_var 0) (da_nil))) (de_one (de_chain2 ord_sound ord_sound or_le or_le (de_int) (de_var 0) (de_kon T.k_MOST)))))
theorem sc_is_pair : FnScope N_is_pair ["row"] (defScope s_is_pair) := ⟨rfl, rfl, rfl, by decide +kernel, rfl, by decide +kernel, by decide +kernel⟩
theorem ok_is_pair (T : Tx K mg) : ∃ fd, FnD P w K mg base 3 (He.ga K "is_pair") fd ["row"] F_is_pair ∧ PySem.W.keepIn K (.ref (He.ga K "is_pair")) = true ∧ Bnd K fd ["row"] [] := by
  obtain ⟨fd, F⟩ := T.d_is_pair
  obtain ⟨fd_is_number, G0_is_number, kp_is_number, ⟨ds_is_number_1, hd_is_number_1, hb_is_number_1⟩⟩ := ok_is_number (P := P) (w := w) (base := base) T
  have G_is_number := G0_is_number.mono (show 2 ≤ 2 by decide)
  have q := fn_ok (P := P) (w := w) (mg := mg) (base := base) (k := 2) F sc_is_pair (g := m_is_pair)
  refine ⟨fd, (q fun cdv A outer s H E cx => ?_), F.kp, ⟨[], .nil, F.bindsN fun _ _ _ _ _ _ us hl => match us, hl with | [_], _ => rfl⟩⟩
  exact ds_cons (ds_if (dw_pt (dw_or (dt_not (dt_val (de_isiE .tup T.is_tuple T.f_isinstance T.f_tuple (by decide) (by decide +kernel) (de_var 0)))) (dw_or (dt_ne cx.toCtc (de_len T.f_len (da_cons (de_var 0) (da_nil))) (de_int)) (dw_or (dt_not (dt_val (de_call cx.toCtc G_is_number T.g_is_number kp_is_number hb_is_number_1 hd_is_number_1 konstL_nil (da_cons (de_sub_ix (de_var 0) (de_int)) (da_nil))))) (dw_or1 (dt_not (dt_val (de_call cx.toCtc G_is_number T.g_is_number kp_is_number hb_is_number_1 hd_is_number_1 konstL_nil (da_cons (de_sub_ix (de_var 0) (de_int)) (da_nil)))))))))) (ds_one (ds_ret (de_bl))) (ds_nil))
    (ds_one (ds_ret (de_le (de_sub_ix (de_var 0) (de_int)) (de_sub_ix (de_var 0) (de_int)))))
theorem sc_merged : FnScope N_merged ["rows"] (defScope s_merged) := ⟨rfl, rfl, rfl, by decide +kernel, rfl, by decide +kernel, by decide +kernel⟩
theorem ok_merged (T : Tx K mg) : ∃ fd, FnD P w K mg base 1 (He.ga K "merged") fd ["rows"] F_merged ∧ PySem.W.keepIn K (.ref (He.ga K "merged")) = true ∧ Bnd K fd ["rows"] [] := by
  obtain ⟨fd, F⟩ := T.d_merged
  have q := fn_ok (P := P) (w := w) (mg := mg) (base := base) (k := 0) F sc_merged (g := m_merged)
  refine ⟨fd, FnD.pure (q fun cdv A outer s H E cx => ?_), F.kp, ⟨[], .nil, F.bindsN fun _ _ _ _ _ _ us hl => match us, hl with | [_], _ => rfl⟩⟩
  exact ds_cons (ds_set 1 cx.toCtc.nd (de_cell (dn_lst (da_nil))))
    (ds_cons (ds_for cx.po cx.toCtc.calm (di_any (de_fz (dn_sortedT T.f_sorted (da_cons (de_var 0) (da_nil))))) (dg_tup cx.toCtc.calm (dgs_cons (dg_name 2 cx.toCtc.nd) (dgs_cons (dg_name 3 cx.toCtc.nd) (dgs_nil)))) (ds_one (ds_if (dw_pt (dw_and (dt_ne cx.toCtc (de_var 1) (de_fz (dn_lst (da_nil)))) (dw_and1 (dt_le (de_var 2) (de_add (de_sub_ix (de_sub_ix (de_var 1) (de_neg (de_int))) (de_int)) (de_int)))))) (ds_one (ds_lset (de_var 1) (de_neg (de_int)) (de_tup (da_cons (de_sub_ix (de_sub_ix (de_var 1) (de_neg (de_int))) (de_int)) (da_cons (de_max2 cx.toCtc T.f_max (da_cons (de_sub_ix (de_sub_ix (de_var 1) (de_neg (de_int))) (de_int)) (da_cons (de_var 3) (da_nil)))) (da_nil)))))) (ds_one (ds_expr (de_append (de_var 1) (da_cons (de_tup (da_cons (de_var 2) (da_cons (de_var 3) (da_nil)))) (da_nil))))))))
    (ds_one (ds_ret (de_frz (de_var 1)))))
theorem sc_Ranges___init__ : FnScope N_Ranges___init__ ["self", "rows"] (defScope s_Ranges___init__) := ⟨rfl, rfl, rfl, by decide +kernel, rfl, by decide +kernel, by decide +kernel⟩
theorem ok_Ranges___init__ (T : Tx K mg) : ∃ fd, FnD P w K mg base 4 (He.ma K (He.ga K "Ranges") "__init__") fd ["self", "rows"] F_Ranges___init__ ∧ PySem.W.keepIn K (.ref (He.ma K (He.ga K "Ranges") "__init__")) = true ∧ Bnd K fd ["self", "rows"] [] := by
  obtain ⟨fd, F⟩ := T.d_Ranges___init__
  obtain ⟨fdx_BadRange, gx_BadRange, BX_BadRange⟩ := ok_BadRange___init__ (P := P) (w := w) (base := base) T
  have GX_BadRange := gx_BadRange.mono (show 1 ≤ 2 by decide)
  obtain ⟨fd_is_pair, G0_is_pair, kp_is_pair, ⟨ds_is_pair_1, hd_is_pair_1, hb_is_pair_1⟩⟩ := ok_is_pair (P := P) (w := w) (base := base) T
  have G_is_pair := G0_is_pair.mono (show 3 ≤ 3 by decide)
  obtain ⟨fd_merged, G0_merged, kp_merged, ⟨ds_merged_1, hd_merged_1, hb_merged_1⟩⟩ := ok_merged (P := P) (w := w) (base := base) T
  have G_merged := G0_merged.mono (show 1 ≤ 3 by decide)
  have q := fn_ok (P := P) (w := w) (mg := mg) (base := base) (k := 3) F sc_Ranges___init__ (g := m_Ranges___init__)
  refine ⟨fd, (q fun cdv A outer s H E cx => ?_), F.kp, F.binds1 2 1 (by simp) (by rfl) fun _ _ _ _ _ _ _ us its h1 h2 => match us, its, h1, h2 with | [_, _], [_], _, _ => ⟨_, rfl, rfl⟩⟩
  exact ds_cons (ds_for cx.po cx.toCtc.calm (di_enum T.f_enumerate (da_cons (de_var 1) (da_nil))) (dg_tup cx.toCtc.calm (dgs_cons (dg_name 2 cx.toCtc.nd) (dgs_cons (dg_name 3 cx.toCtc.nd) (dgs_nil)))) (ds_one (ds_if (dt_not (dt_val (de_call cx.toCtc G_is_pair T.g_is_pair kp_is_pair hb_is_pair_1 hd_is_pair_1 konstL_nil (da_cons (de_var 3) (da_nil))))) (ds_one (ds_raise1 "BadRange" cx.toCtc T.xf_BadRange.T T.xf_BadRange.iC T.xf_BadRange.tI T.xf_BadRange.nf GX_BadRange BX_BadRange T.g_BadRange (de_var 2))) (ds_nil))))
    (ds_one (ds_fld 0 (de_var 0) (de_call cx.toCtc G_merged T.g_merged kp_merged hb_merged_1 hd_merged_1 konstL_nil (da_cons (de_var 1) (da_nil)))))
theorem sc__law_thing : FnScope N__law_thing ["_law_cell_here"] (defScope s__law_thing) := ⟨rfl, rfl, rfl, by decide +kernel, rfl, by decide +kernel, by decide +kernel⟩
theorem ok__law_thing (T : Tx K mg) : ∃ fd, FnD P w K mg base 6 (He.ga K "_law_thing") fd ["_law_cell_here"] F__law_thing ∧ PySem.W.keepIn K (.ref (He.ga K "_law_thing")) = true ∧ Bnd K fd ["_law_cell_here"] [] := by
  obtain ⟨fd, F⟩ := T.d__law_thing
  obtain ⟨fd_Ranges___init__, G0_Ranges___init__, kp_Ranges___init__, ⟨ds_Ranges___init___2, hd_Ranges___init___2, hb_Ranges___init___2⟩⟩ := ok_Ranges___init__ (P := P) (w := w) (base := base) T
  have GM_Ranges___init__ := G0_Ranges___init__.mono (show 4 ≤ 4 by decide)
  have G_Ranges___init__ := G0_Ranges___init__.mono (show 4 ≤ 5 by decide)
  obtain ⟨fd__law_mix, G0__law_mix, kp__law_mix, ⟨ds__law_mix_2, hd__law_mix_2, hb__law_mix_2⟩⟩ := ok__law_mix (P := P) (w := w) (base := base) T
  have G__law_mix := G0__law_mix.mono (show 1 ≤ 5 by decide)
  obtain ⟨fd__law_spoilt, G0__law_spoilt, kp__law_spoilt, ⟨ds__law_spoilt_2, hd__law_spoilt_2, hb__law_spoilt_2⟩⟩ := ok__law_spoilt (P := P) (w := w) (base := base) T
  have G__law_spoilt := G0__law_spoilt.mono (show 2 ≤ 5 by decide)
  obtain ⟨fd__law_text, G0__law_text, kp__law_text, ⟨ds__law_text_3, hd__law_text_3, hb__law_text_3⟩⟩ := ok__law_text (P := P) (w := w) (base := base) T
  have G__law_text := G0__law_text.mono (show 2 ≤ 5 by decide)
  have q := fn_ok (P := P) (w := w) (mg := mg) (base := base) (k := 5) F sc__law_thing (g := m__law_thing)
  refine ⟨fd, (q fun cdv A outer s H E cx => ?_), F.kp, ⟨[], .nil, F.bindsN fun _ _ _ _ _ _ us hl => match us, hl with | [_], _ => rfl⟩⟩
  exact ds_cons (ds_set 1 cx.toCtc.nd (de_mod (de_call cx.toCtc G__law_mix T.g__law_mix kp__law_mix hb__law_mix_2 hd__law_mix_2 konstL_nil (da_cons (de_var 0) (da_cons (de_int) (da_nil)))) (de_int)))
    (ds_cons (ds_set 2 cx.toCtc.nd (de_call cx.toCtc G__law_mix T.g__law_mix kp__law_mix hb__law_mix_2 hd__law_mix_2 konstL_nil (da_cons (de_var 0) (da_cons (de_int) (da_nil)))))
    (ds_cons (ds_if (dt_lt (de_var 1) (de_int)) (ds_one (ds_ret (de_sub_ix (de_fz (dn_lst (da_cons (de_sub (de_mod (de_var 2) (de_int)) (de_int)) (da_cons (de_sub (de_add (de_pow (de_int) (de_int)) (de_mod (de_var 2) (de_int))) (de_int)) (da_cons (de_mul (de_var 2) (de_call cx.toCtc G__law_mix T.g__law_mix kp__law_mix hb__law_mix_2 hd__law_mix_2 konstL_nil (da_cons (de_var 0) (da_cons (de_int) (da_nil))))) (da_nil)))))) (de_var 1)))) (ds_nil))
    (ds_cons (ds_if (dt_eq cx.toCtc (de_var 1) (de_int)) (ds_one (ds_ret (de_sub_ix (de_fz (dn_lst (da_cons (de_neg (de_int)) (da_cons (de_sub (de_neg (de_var 2)) (de_int)) (da_cons (de_add (de_pow (de_int) (de_int)) (de_var 2)) (da_cons (de_add (de_pow (de_int) (de_int)) (de_var 2)) (da_cons (de_neg (de_pow (de_int) (de_int))) (da_nil)))))))) (de_mod (de_var 2) (de_int))))) (ds_nil))
    (ds_cons (ds_if (dt_lt (de_var 1) (de_int)) (ds_cons (ds_set 3 cx.toCtc.nd (de_sub_ix (de_fz (dn_lst (da_cons (de_int) (da_cons (de_int) (da_cons (de_int) (da_cons (de_add (de_int) (de_mod (de_fdiv (de_var 2) (de_int)) (de_int))) (da_nil))))))) (de_mod (de_fdiv (de_var 2) (de_int)) (de_int))))
    (ds_one (ds_ret (de_mulS (de_call cx.toCtc G__law_text T.g__law_text kp__law_text hb__law_text_3 hd__law_text_3 konstL_nil (da_cons (de_var 0) (da_cons (de_mod (de_var 2) (de_sub_ix (de_fz (dn_lst (da_cons (de_int) (da_cons (de_int) (da_nil))))) (de_sub (de_var 1) (de_int)))) (da_cons (de_eq cx.toCtc (de_var 1) (de_int)) (da_nil))))) (de_var 3))))) (ds_nil))
    (ds_cons (ds_if (dt_lt (de_var 1) (de_int)) (ds_cons (ds_set 3 cx.toCtc.nd (de_sub_ix (de_fz (dn_lst (da_cons (de_int) (da_cons (de_int) (da_cons (de_int) (da_cons (de_add (de_int) (de_mod (de_fdiv (de_var 2) (de_int)) (de_int))) (da_nil))))))) (de_mod (de_fdiv (de_var 2) (de_int)) (de_int))))
    (ds_one (ds_ret (de_call cx.toCtc G__law_spoilt T.g__law_spoilt kp__law_spoilt hb__law_spoilt_2 hd__law_spoilt_2 konstL_nil (da_cons (de_var 0) (da_cons (de_mulS (de_call cx.toCtc G__law_text T.g__law_text kp__law_text hb__law_text_3 hd__law_text_3 konstL_nil (da_cons (de_var 0) (da_cons (de_mod (de_var 2) (de_sub_ix (de_fz (dn_lst (da_cons (de_int) (da_cons (de_int) (da_nil))))) (de_sub (de_var 1) (de_int)))) (da_cons (de_eq cx.toCtc (de_var 1) (de_int)) (da_nil))))) (de_var 3)) (da_nil))))))) (ds_nil))
    (ds_cons (ds_if (dt_eq cx.toCtc (de_var 1) (de_int)) (ds_one (ds_ret (de_sub_ix (de_fz (dn_lst (da_cons (de_bl) (da_cons (de_bl) (da_cons (de_non) (da_cons (de_exo "BadShort" T.xq_BadShort T.g_BadShort T.xk_BadShort (de_str)) (da_cons (de_makeF (de_make "Ranges" cx.toCtc T.mkr_Ranges T.mk_Ranges GM_Ranges___init__ T.g_Ranges hb_Ranges___init___2 hd_Ranges___init___2 konstL_nil (da_cons (de_fz (dn_lst (da_cons (de_tup (da_cons (de_int) (da_cons (de_int) (da_nil)))) (da_nil)))) (da_nil)))) (da_nil)))))))) (de_mod (de_var 2) (de_int))))) (ds_nil))
    (ds_cons (ds_if (dt_eq cx.toCtc (de_var 1) (de_int)) (ds_one (ds_ret (de_sub_ix (de_fz (dn_lst (da_cons (de_fz (dn_lst (da_nil))) (da_cons (de_fz (dn_lst (da_cons (de_int) (da_nil)))) (da_cons (de_tup (da_nil)) (da_cons (de_tup (da_cons (de_int) (da_nil))) (da_cons (de_dnew) (da_cons (de_ddisp (dps_cons (by first | exact pe_int | exact pe_str) (de_int) (dps_nil))) (da_cons (de_fz (dn_lst (da_cons (de_str) (da_nil)))) (da_cons (de_tup (da_cons (de_str) (da_cons (de_str) (da_nil)))) (da_cons (de_ddisp (dps_cons (by first | exact pe_int | exact pe_str) (de_int) (dps_nil))) (da_cons (de_fz (dn_lst (da_cons (de_fz (dn_lst (da_nil))) (da_nil)))) (da_nil))))))))))))) (de_mod (de_var 2) (de_int))))) (ds_nil))
    (ds_cons (ds_if (dt_eq cx.toCtc (de_var 1) (de_int)) (ds_one (ds_ret (de_str1 T.f_str (da_cons (de_mod (de_var 2) (de_int)) (da_nil))))) (ds_nil))
    (ds_one (ds_ret (de_sub_ix (de_fz (dn_lst (da_cons (de_str) (da_cons (de_str) (da_cons (de_str) (da_cons (de_str) (da_cons (de_str) (da_cons (de_str) (da_cons (de_str) (da_nil)))))))))) (de_mod (de_var 2) (de_int)))))))))))))
theorem sc__law_cell : FnScope N__law_cell ["_law_script", "_law_k"] (defScope s__law_cell) := ⟨rfl, rfl, rfl, by decide +kernel, rfl, by decide +kernel, by decide +kernel⟩
theorem ok__law_cell (T : Tx K mg) : ∃ fd, FnD P w K mg base 1 (He.ga K "_law_cell") fd ["_law_script", "_law_k"] F__law_cell ∧ PySem.W.keepIn K (.ref (He.ga K "_law_cell")) = true ∧ Bnd K fd ["_law_script", "_law_k"] [] := by
  obtain ⟨fd, F⟩ := T.d__law_cell
  have q := fn_ok (P := P) (w := w) (mg := mg) (base := base) (k := 0) F sc__law_cell (g := m__law_cell)
  refine ⟨fd, (q fun cdv A outer s H E cx => ?_), F.kp, ⟨[], .nil, F.bindsN fun _ _ _ _ _ _ us hl => match us, hl with | [_, _], _ => rfl⟩⟩
  exact ds_cons (ds_if (dt_lt (de_var 1) (de_len T.f_len (da_cons (de_var 0) (da_nil)))) (ds_one (ds_ret (de_sub_ix (de_var 0) (de_var 1)))) (ds_nil))
    (ds_one (ds_ret (de_add (de_int) (de_mul (de_int) (de_var 1)))))
theorem sc_is_lane : FnScope N_is_lane ["thing"] (defScope s_is_lane) := ⟨rfl, rfl, rfl, by decide +kernel, rfl, by decide +kernel, by decide +kernel⟩
theorem ok_is_lane (T : Tx K mg) : ∃ fd, FnD P w K mg base 2 (He.ga K "is_lane") fd ["thing"] F_is_lane ∧ PySem.W.keepIn K (.ref (He.ga K "is_lane")) = true ∧ Bnd K fd ["thing"] [] := by
  obtain ⟨fd, F⟩ := T.d_is_lane
  obtain ⟨fd_is_whole, G0_is_whole, kp_is_whole, ⟨ds_is_whole_1, hd_is_whole_1, hb_is_whole_1⟩⟩ := ok_is_whole (P := P) (w := w) (base := base) T
  have G_is_whole := G0_is_whole.mono (show 1 ≤ 1 by decide)
  have q := fn_ok (P := P) (w := w) (mg := mg) (base := base) (k := 1) F sc_is_lane (g := m_is_lane)
  refine ⟨fd, (q fun cdv A outer s H E cx => ?_), F.kp, ⟨[], .nil, F.bindsN fun _ _ _ _ _ _ us hl => match us, hl with | [_], _ => rfl⟩⟩
  exact ds_one (ds_ret (de_and (de_call cx.toCtc G_is_whole T.g_is_whole kp_is_whole hb_is_whole_1 hd_is_whole_1 konstL_nil (da_cons (de_var 0) (da_nil))) (de_one (de_chain2 ord_sound ord_sound or_le or_lt (de_int) (de_var 0) (de_kon T.k_LANES)))))
theorem sc_is_word : FnScope N_is_word ["thing"] (defScope s_is_word) := ⟨rfl, rfl, rfl, by decide +kernel, rfl, by decide +kernel, by decide +kernel⟩
theorem ok_is_word (T : Tx K mg) : ∃ fd, FnD P w K mg base 1 (He.ga K "is_word") fd ["thing"] F_is_word ∧ PySem.W.keepIn K (.ref (He.ga K "is_word")) = true ∧ Bnd K fd ["thing"] [] := by
  obtain ⟨fd, F⟩ := T.d_is_word
  have q := fn_ok (P := P) (w := w) (mg := mg) (base := base) (k := 0) F sc_is_word (g := m_is_word)
  refine ⟨fd, (q fun cdv A outer s H E cx => ?_), F.kp, ⟨[], .nil, F.bindsN fun _ _ _ _ _ _ us hl => match us, hl with | [_], _ => rfl⟩⟩
  exact ds_one (ds_ret (de_and (de_isiE .str T.is_str T.f_isinstance T.f_str (by decide) (by decide +kernel) (de_var 0)) (de_and (de_chain2 ord_sound ord_sound or_le or_le (de_int) (de_len T.f_len (da_cons (de_var 0) (da_nil))) (de_kon T.k_WORD)) (de_one (de_all cx.toCtc T.f_all (da_cons (de_fz (dn_lc cx.toCtc.calm cx.toCtc.nd [("sign", 1)] (di_any (de_var 0)) (blkOk_by (N := N_is_word) (sc := defScope s_is_word) (by decide +kernel)) (tg_name) (fun _ _ _ _ _ => pg_name (i := 1) cx.toCtc.nd rfl (by first | exact Or.inl rfl | exact Or.inr rfl)) (fun s1 H1 C1 cl1 fp1 => dts_nil) (fun s1 H1 C1 cl1 fp1 => de_in (de_var 1) (de_kon T.k_SMALL)))) (da_nil)))))))
theorem sc_is_letters : FnScope N_is_letters ["thing"] (defScope s_is_letters) := ⟨rfl, rfl, rfl, by decide +kernel, rfl, by decide +kernel, by decide +kernel⟩
theorem ok_is_letters (T : Tx K mg) : ∃ fd, FnD P w K mg base 1 (He.ga K "is_letters") fd ["thing"] F_is_letters ∧ PySem.W.keepIn K (.ref (He.ga K "is_letters")) = true ∧ Bnd K fd ["thing"] [] := by
  obtain ⟨fd, F⟩ := T.d_is_letters
  have q := fn_ok (P := P) (w := w) (mg := mg) (base := base) (k := 0) F sc_is_letters (g := m_is_letters)
  refine ⟨fd, (q fun cdv A outer s H E cx => ?_), F.kp, ⟨[], .nil, F.bindsN fun _ _ _ _ _ _ us hl => match us, hl with | [_], _ => rfl⟩⟩
  exact ds_one (ds_ret (de_and (de_isiE .str T.is_str T.f_isinstance T.f_str (by decide) (by decide +kernel) (de_var 0)) (de_one (de_all cx.toCtc T.f_all (da_cons (de_fz (dn_lc cx.toCtc.calm cx.toCtc.nd [("sign", 1)] (di_any (de_var 0)) (blkOk_by (N := N_is_letters) (sc := defScope s_is_letters) (by decide +kernel)) (tg_name) (fun _ _ _ _ _ => pg_name (i := 1) cx.toCtc.nd rfl (by first | exact Or.inl rfl | exact Or.inr rfl)) (fun s1 H1 C1 cl1 fp1 => dts_nil) (fun s1 H1 C1 cl1 fp1 => de_chain2 ord_sound ord_sound or_le or_le (de_str) (de_var 1) (de_str)))) (da_nil))))))
theorem sc__law_told : FnScope N__law_told ["_law_thing_here"] (defScope s__law_told) := ⟨rfl, rfl, rfl, by decide +kernel, rfl, by decide +kernel, by decide +kernel⟩
theorem ok__law_told (T : Tx K mg) : ∃ fd, FnD P w K mg base 3 (He.ga K "_law_told") fd ["_law_thing_here"] F__law_told ∧ PySem.W.keepIn K (.ref (He.ga K "_law_told")) = true ∧ Bnd K fd ["_law_thing_here"] [] := by
  obtain ⟨fd, F⟩ := T.d__law_told
  obtain ⟨fd_is_lane, G0_is_lane, kp_is_lane, ⟨ds_is_lane_1, hd_is_lane_1, hb_is_lane_1⟩⟩ := ok_is_lane (P := P) (w := w) (base := base) T
  have G_is_lane := G0_is_lane.mono (show 2 ≤ 2 by decide)
  obtain ⟨fd_is_letters, G0_is_letters, kp_is_letters, ⟨ds_is_letters_1, hd_is_letters_1, hb_is_letters_1⟩⟩ := ok_is_letters (P := P) (w := w) (base := base) T
  have G_is_letters := G0_is_letters.mono (show 1 ≤ 2 by decide)
  obtain ⟨fd_is_number, G0_is_number, kp_is_number, ⟨ds_is_number_1, hd_is_number_1, hb_is_number_1⟩⟩ := ok_is_number (P := P) (w := w) (base := base) T
  have G_is_number := G0_is_number.mono (show 2 ≤ 2 by decide)
  obtain ⟨fd_is_word, G0_is_word, kp_is_word, ⟨ds_is_word_1, hd_is_word_1, hb_is_word_1⟩⟩ := ok_is_word (P := P) (w := w) (base := base) T
  have G_is_word := G0_is_word.mono (show 1 ≤ 2 by decide)
  have q := fn_ok (P := P) (w := w) (mg := mg) (base := base) (k := 2) F sc__law_told (g := m__law_told)
  refine ⟨fd, (q fun cdv A outer s H E cx => ?_), F.kp, ⟨[], .nil, F.bindsN fun _ _ _ _ _ _ us hl => match us, hl with | [_], _ => rfl⟩⟩
  exact ds_one (ds_ret (de_fz (dn_lst (da_cons (de_call cx.toCtc G_is_number T.g_is_number kp_is_number hb_is_number_1 hd_is_number_1 konstL_nil (da_cons (de_var 0) (da_nil))) (da_cons (de_call cx.toCtc G_is_letters T.g_is_letters kp_is_letters hb_is_letters_1 hd_is_letters_1 konstL_nil (da_cons (de_var 0) (da_nil))) (da_cons (de_call cx.toCtc G_is_word T.g_is_word kp_is_word hb_is_word_1 hd_is_word_1 konstL_nil (da_cons (de_var 0) (da_nil))) (da_cons (de_call cx.toCtc G_is_lane T.g_is_lane kp_is_lane hb_is_lane_1 hd_is_lane_1 konstL_nil (da_cons (de_var 0) (da_nil))) (da_nil))))))))
theorem sc__law_due : FnScope N__law_due ["_law_thing_here"] (defScope s__law_due) := ⟨rfl, rfl, rfl, by decide +kernel, rfl, by decide +kernel, by decide +kernel⟩
theorem ok__law_due (T : Tx K mg) : ∃ fd, FnD P w K mg base 1 (He.ga K "_law_due") fd ["_law_thing_here"] F__law_due ∧ PySem.W.keepIn K (.ref (He.ga K "_law_due")) = true ∧ Bnd K fd ["_law_thing_here"] [] := by
  obtain ⟨fd, F⟩ := T.d__law_due
  have q := fn_ok (P := P) (w := w) (mg := mg) (base := base) (k := 0) F sc__law_due (g := m__law_due)
  refine ⟨fd, (q fun cdv A outer s H E cx => ?_), F.kp, ⟨[], .nil, F.bindsN fun _ _ _ _ _ _ us hl => match us, hl with | [_], _ => rfl⟩⟩
  exact ds_cons (ds_set 1 cx.toCtc.nd (de_and (de_isiE .int T.is_int T.f_isinstance T.f_int (by decide) (by decide +kernel) (de_var 0)) (de_one (de_not (de_isiE .bl T.is_bool T.f_isinstance T.f_bool (by decide) (by decide +kernel) (de_var 0))))))
    (ds_cons (ds_set 2 cx.toCtc.nd (de_isiE .str T.is_str T.f_isinstance T.f_str (by decide) (by decide +kernel) (de_var 0)))
    (ds_cons (ds_set 3 cx.toCtc.nd (de_and (de_var 2) (de_one (de_eq cx.toCtc (de_fz (dn_lc cx.toCtc.calm cx.toCtc.nd [("_law_sign", 5)] (di_any (de_var 0)) (blkOk_by (N := N__law_due) (sc := defScope s__law_due) (by decide +kernel)) (tg_name) (fun _ _ _ _ _ => pg_name (i := 5) cx.toCtc.nd rfl (by first | exact Or.inl rfl | exact Or.inr rfl)) (fun s1 H1 C1 cl1 fp1 => dts_one (dw_pt (dw_or (dt_lt (de_var 5) (de_str)) (dw_or1 (dt_gt (de_var 5) (de_str)))))) (fun s1 H1 C1 cl1 fp1 => de_var 5))) (de_fz (dn_lst (da_nil)))))))
    (ds_cons (ds_set 4 cx.toCtc.nd (de_and (de_var 2) (de_and (de_eq cx.toCtc (de_fz (dn_lc cx.toCtc.calm cx.toCtc.nd [("_law_sign", 5)] (di_any (de_var 0)) (blkOk_by (N := N__law_due) (sc := defScope s__law_due) (by decide +kernel)) (tg_name) (fun _ _ _ _ _ => pg_name (i := 5) cx.toCtc.nd rfl (by first | exact Or.inl rfl | exact Or.inr rfl)) (fun s2 H2 C2 cl2 fp2 => dts_one (dw_pt (dw_or (dt_lt (de_var 5) (de_str)) (dw_or1 (dt_gt (de_var 5) (de_str)))))) (fun s2 H2 C2 cl2 fp2 => de_var 5))) (de_fz (dn_lst (da_nil)))) (de_one (de_chain2 ord_sound ord_sound or_le or_le (de_int) (de_len T.f_len (da_cons (de_var 0) (da_nil))) (de_int))))))
    (ds_one (ds_ret (de_fz (dn_lst (da_cons (de_and (de_var 1) (de_one (de_chain2 ord_sound ord_sound or_le or_le (de_int) (de_var 0) (de_pow (de_int) (de_int))))) (da_cons (de_var 3) (da_cons (de_var 4) (da_cons (de_and (de_var 1) (de_one (de_chain2 ord_sound ord_sound or_le or_le (de_int) (de_var 0) (de_int)))) (da_nil))))))))))))
theorem sc_law : FnScope N_law ["_law_script"] (defScope s_law) := ⟨rfl, rfl, rfl, by decide +kernel, rfl, by decide +kernel, by decide +kernel⟩
theorem ok_law (T : Tx K mg) : ∃ fd, (∀ (s : Shared) (u : Value), BindsTo s fd ⟨[u], []⟩ [("_law_script", u)]) ∧ ∀ base : Heap, FnD P w K mg base 7 (He.ga K "law") fd ["_law_script"] F_law := by
  obtain ⟨fd, F⟩ := T.d_law
  refine ⟨fd, fun s u => FunD.bindsA (ps := ["_law_script"]) F (fun _ _ _ _ _ _ us hl => match us, hl with | [_], _ => rfl) s [u] rfl, fun base => ?_⟩
  obtain ⟨fd__law_cell, G0__law_cell, kp__law_cell, ⟨ds__law_cell_2, hd__law_cell_2, hb__law_cell_2⟩⟩ := ok__law_cell (P := P) (w := w) (base := base) T
  have G__law_cell := G0__law_cell.mono (show 1 ≤ 6 by decide)
  obtain ⟨fd__law_due, G0__law_due, kp__law_due, ⟨ds__law_due_1, hd__law_due_1, hb__law_due_1⟩⟩ := ok__law_due (P := P) (w := w) (base := base) T
  have G__law_due := G0__law_due.mono (show 1 ≤ 6 by decide)
  obtain ⟨fd__law_thing, G0__law_thing, kp__law_thing, ⟨ds__law_thing_1, hd__law_thing_1, hb__law_thing_1⟩⟩ := ok__law_thing (P := P) (w := w) (base := base) T
  have G__law_thing := G0__law_thing.mono (show 6 ≤ 6 by decide)
  obtain ⟨fd__law_told, G0__law_told, kp__law_told, ⟨ds__law_told_1, hd__law_told_1, hb__law_told_1⟩⟩ := ok__law_told (P := P) (w := w) (base := base) T
  have G__law_told := G0__law_told.mono (show 3 ≤ 6 by decide)
  have q := fn_ok (P := P) (w := w) (mg := mg) (base := base) (k := 6) F sc_law (g := m_law)
  refine (q fun cdv A outer s H E cx => ?_)
  exact ds_cons (ds_setLcR cx.toCtc.calm cx.toCtc.nd [("_law_k", 4)] rfl rfl (sw_true rfl rfl rfl (by decide +kernel)) (di_rng1 T.f_range (da_cons (de_int) (da_nil))) (blkOk_by (N := N_law) (sc := defScope s_law) (by decide +kernel)) (tg_name) (fun _ _ _ _ _ => pg_name (i := 4) cx.toCtc.nd rfl (by first | exact Or.inl rfl | exact Or.inr rfl)) (fun s1 H1 C1 cl1 fp1 => dts_nil) (fun s1 H1 C1 cl1 fp1 => de_call (cx.toCtc.blk s1 H1 _ C1 cl1 fp1) G__law_thing T.g__law_thing kp__law_thing hb__law_thing_1 hd__law_thing_1 konstL_nil (da_cons (de_call (cx.toCtc.blk s1 H1 _ C1 cl1 fp1) G__law_cell T.g__law_cell kp__law_cell hb__law_cell_2 hd__law_cell_2 konstL_nil (da_cons (de_var 0) (da_cons (de_var 4) (da_nil)))) (da_nil))) (fz_read))
    (ds_cons (ds_for cx.po cx.toCtc.calm (di_any (de_add (de_var 1) (de_rev (de_var 1)))) (dg_name 2 cx.toCtc.nd) (ds_cons (ds_set 3 cx.toCtc.nd (de_call cx.toCtc G__law_told T.g__law_told kp__law_told hb__law_told_1 hd__law_told_1 konstL_nil (da_cons (de_var 2) (da_nil))))
    (ds_one (ds_if (dw_pt (dw_or (dt_not (dt_val (de_all cx.toCtc T.f_all (da_cons (de_fz (dn_lc cx.toCtc.calm cx.toCtc.nd [("_law_one", 5)] (di_any (de_var 3)) (blkOk_by (N := N_law) (sc := defScope s_law) (by decide +kernel)) (tg_name) (fun _ _ _ _ _ => pg_name (i := 5) cx.toCtc.nd rfl (by first | exact Or.inl rfl | exact Or.inr rfl)) (fun s2 H2 C2 cl2 fp2 => dts_nil) (fun s2 H2 C2 cl2 fp2 => de_isiE .bl T.is_bool T.f_isinstance T.f_bool (by decide) (by decide +kernel) (de_var 5)))) (da_nil))))) (dw_or1 (dt_ne cx.toCtc (de_var 3) (de_call cx.toCtc G__law_due T.g__law_due kp__law_due hb__law_due_1 hd__law_due_1 konstL_nil (da_cons (de_var 2) (da_nil))))))) (ds_one (ds_ret (de_bl))) (ds_nil)))))
    (ds_one (ds_ret (de_and (de_isiE .int T.is_int T.f_isinstance T.f_int (by decide) (by decide +kernel) (de_kon T.k_MOST)) (de_one (de_eq cx.toCtc (de_kon T.k_MOST) (de_pow (de_int) (de_int))))))))
theorem sc_Ranges___len__ : FnScope N_Ranges___len__ ["self"] (defScope s_Ranges___len__) := ⟨rfl, rfl, rfl, by decide +kernel, rfl, by decide +kernel, by decide +kernel⟩
theorem ok_Ranges___len__ (T : Tx K mg) : ∃ fd, FnD P w K mg base 1 (He.ma K (He.ga K "Ranges") "__len__") fd ["self"] F_Ranges___len__ ∧ PySem.W.keepIn K (.ref (He.ma K (He.ga K "Ranges") "__len__")) = true := by
  obtain ⟨fd, F⟩ := T.d_Ranges___len__
  have q := fn_ok (P := P) (w := w) (mg := mg) (base := base) (k := 0) F sc_Ranges___len__ (g := m_Ranges___len__)
  refine ⟨fd, (q fun cdv A outer s H E cx => ?_), F.kp⟩
  exact ds_one (ds_ret (de_len T.f_len (da_cons (de_fld 0 (de_var 0)) (da_nil))))
end
def fn : List He.DefD := [⟨("is_whole", none), "is_whole", "is_whole", defArgs s_is_whole, defBody s_is_whole, defScope s_is_whole, [], []⟩,
  ⟨("is_number", none), "is_number", "is_number", defArgs s_is_number, defBody s_is_number, defScope s_is_number, [], []⟩,
  ⟨("is_letters", none), "is_letters", "is_letters", defArgs s_is_letters, defBody s_is_letters, defScope s_is_letters, [], []⟩,
  ⟨("is_word", none), "is_word", "is_word", defArgs s_is_word, defBody s_is_word, defScope s_is_word, [], []⟩,
  ⟨("is_lane", none), "is_lane", "is_lane", defArgs s_is_lane, defBody s_is_lane, defScope s_is_lane, [], []⟩,
  ⟨("BadRange", some "__init__"), "__init__", "BadRange.__init__", defArgs s_BadRange___init__, defBody s_BadRange___init__, defScope s_BadRange___init__, [], []⟩,
  ⟨("is_pair", none), "is_pair", "is_pair", defArgs s_is_pair, defBody s_is_pair, defScope s_is_pair, [], []⟩,
  ⟨("merged", none), "merged", "merged", defArgs s_merged, defBody s_merged, defScope s_merged, [], []⟩,
  ⟨("Ranges", some "__init__"), "__init__", "Ranges.__init__", defArgs s_Ranges___init__, defBody s_Ranges___init__, defScope s_Ranges___init__, [.adr (He.dflAt ("Ranges", some "__init__") 0)], []⟩,
  ⟨("Ranges", some "__len__"), "__len__", "Ranges.__len__", defArgs s_Ranges___len__, defBody s_Ranges___len__, defScope s_Ranges___len__, [], []⟩,
  ⟨("_law_cell", none), "_law_cell", "_law_cell", defArgs s__law_cell, defBody s__law_cell, defScope s__law_cell, [], []⟩,
  ⟨("_law_mix", none), "_law_mix", "_law_mix", defArgs s__law_mix, defBody s__law_mix, defScope s__law_mix, [], []⟩,
  ⟨("_law_text", none), "_law_text", "_law_text", defArgs s__law_text, defBody s__law_text, defScope s__law_text, [], []⟩,
  ⟨("_law_spoilt", none), "_law_spoilt", "_law_spoilt", defArgs s__law_spoilt, defBody s__law_spoilt, defScope s__law_spoilt, [], []⟩,
  ⟨("_law_thing", none), "_law_thing", "_law_thing", defArgs s__law_thing, defBody s__law_thing, defScope s__law_thing, [], []⟩,
  ⟨("_law_due", none), "_law_due", "_law_due", defArgs s__law_due, defBody s__law_due, defScope s__law_due, [], []⟩,
  ⟨("_law_told", none), "_law_told", "_law_told", defArgs s__law_told, defBody s__law_told, defScope s__law_told, [], []⟩,
  ⟨("law", none), "law", "law", defArgs s_law, defBody s_law, defScope s_law, [], []⟩]
def fa : List He.Fa := [.free "all", .free "bool", .free "enumerate", .free "int", .free "isinstance", .free "len", .free "max", .free "range", .free "sorted", .free "str", .free "tuple", .glo "is_whole", .glo "is_number", .glo "is_letters", .glo "is_word", .glo "is_lane", .glo "is_pair", .glo "merged", .glo "_law_cell", .glo "_law_mix", .glo "_law_text", .glo "_law_spoilt", .glo "_law_thing", .glo "_law_due", .glo "_law_told", .glo "law", .glo "LaneError", .exc "LaneError", .glo "BadRange", .glo "BadShort", .exc "BadShort", .glo "Ranges", .mkr "Ranges", .meth "Ranges" "__len__"]
def chs (K : PySem.W.Frag) : List Bool := [konB K "MOST" (.int 1000000000000), konB K "LANES" (.int 40), konB K "WORD" (.int 8), konB K "SMALL" (.str "abcdefghijklmnopqrstuvwxyz"), excB K "BadRange" "at", mkCB K "Ranges" fl_Ranges, kTree K 1 (.ref (He.dflAt ("Ranges", some "__init__") 0 K)) (.tup []), isTabB K [("LaneError", false), ("BadRange", false), ("BadShort", false)] (.type "bool"), isTabB K [("LaneError", false), ("BadRange", false), ("BadShort", false)] (.type "int"), isTabB K [("LaneError", false), ("BadRange", false), ("BadShort", false)] (.type "str"), isTabB K [("LaneError", false), ("BadRange", false), ("BadShort", false)] (.type "tuple")]
def chk (K : PySem.W.Frag) : Bool := (chs K).all id
abbrev R : PySem.W.OpenRow := PySem.W.OpenLaw.row PySem.Challenge.rw_manylanes_k11_kinds_known
abbrev hk : PySem.W.Hook := hookX 5 fa fn chk
def ob (s : PySem.W.SharedT) : AlX := obsXG 5 fa fn chk (HandSHeadRun.getT s)
theorem ob_eq (s : PySem.W.SharedT) : ob s = hk.obs s.abs := obsXG_eq (HandSHeadRun.getT_eq s)
def loose : List Str := (["_wall", "MOST", "LANES", "WORD", "SMALL", "is_whole", "is_number", "is_letters", "is_word", "is_lane", "LaneError", "BadRange", "BadShort", "is_pair", "merged", "Ranges", "_law_cell", "_law_mix", "_law_text", "_law_spoilt", "_law_thing", "_law_due", "_law_told"] : List Str)
set_option maxHeartbeats 0 in
theorem run (w : World) : HandSHeadRun.RunEq R (PySem.W.view R.prog [27]) hk ob 6000 loose w := by
  intro os
  kernel_rfl
theorem tx_of {K : PySem.W.Frag} {h : Heap} {mg : Str → Option Value} (X : K.In h) (G : h.Ns mainGlobals mg) (c : He.SaysD fa fn K) (hchk : chk K = true) : Tx K mg := by
  have hc : ∀ (i : Nat) {b : Bool}, (chs K)[i]? = some b → b = true := fun i b e => List.all_eq_true.mp hchk b (List.mem_of_getElem? e)
  exact ⟨He.free_ok X G (c.fact 0 (f := .free "all") rfl), He.free_ok X G (c.fact 1 (f := .free "bool") rfl), He.free_ok X G (c.fact 2 (f := .free "enumerate") rfl), He.free_ok X G (c.fact 3 (f := .free "int") rfl), He.free_ok X G (c.fact 4 (f := .free "isinstance") rfl), He.free_ok X G (c.fact 5 (f := .free "len") rfl), He.free_ok X G (c.fact 6 (f := .free "max") rfl), He.free_ok X G (c.fact 7 (f := .free "range") rfl), He.free_ok X G (c.fact 8 (f := .free "sorted") rfl), He.free_ok X G (c.fact 9 (f := .free "str") rfl), He.free_ok X G (c.fact 10 (f := .free "tuple") rfl), konB_ok X G (hc 0 rfl), konB_ok X G (hc 1 rfl), konB_ok X G (hc 2 rfl), konB_ok X G (hc 3 rfl), He.glo_ok X G (c.fact 11 (f := .glo "is_whole") rfl), He.glo_ok X G (c.fact 12 (f := .glo "is_number") rfl), He.glo_ok X G (c.fact 13 (f := .glo "is_letters") rfl), He.glo_ok X G (c.fact 14 (f := .glo "is_word") rfl), He.glo_ok X G (c.fact 15 (f := .glo "is_lane") rfl), He.glo_ok X G (c.fact 16 (f := .glo "is_pair") rfl), He.glo_ok X G (c.fact 17 (f := .glo "merged") rfl), He.glo_ok X G (c.fact 18 (f := .glo "_law_cell") rfl), He.glo_ok X G (c.fact 19 (f := .glo "_law_mix") rfl), He.glo_ok X G (c.fact 20 (f := .glo "_law_text") rfl), He.glo_ok X G (c.fact 21 (f := .glo "_law_spoilt") rfl), He.glo_ok X G (c.fact 22 (f := .glo "_law_thing") rfl), He.glo_ok X G (c.fact 23 (f := .glo "_law_due") rfl), He.glo_ok X G (c.fact 24 (f := .glo "_law_told") rfl), He.glo_ok X G (c.fact 25 (f := .glo "law") rfl), He.glo_ok X G (c.fact 26 (f := .glo "LaneError") rfl), (He.exc_ok (c.fact 27 (f := .exc "LaneError") rfl)).1, (He.exc_ok (c.fact 27 (f := .exc "LaneError") rfl)).2.1, (He.exc_ok (c.fact 27 (f := .exc "LaneError") rfl)).2.2.1, (He.exc_ok (c.fact 27 (f := .exc "LaneError") rfl)).2.2.2, He.glo_ok X G (c.fact 28 (f := .glo "BadRange") rfl), excB_ok (hc 4 rfl), He.glo_ok X G (c.fact 29 (f := .glo "BadShort") rfl), (He.exc_ok (c.fact 30 (f := .exc "BadShort") rfl)).1, (He.exc_ok (c.fact 30 (f := .exc "BadShort") rfl)).2.1, (He.exc_ok (c.fact 30 (f := .exc "BadShort") rfl)).2.2.1, (He.exc_ok (c.fact 30 (f := .exc "BadShort") rfl)).2.2.2, He.glo_ok X G (c.fact 31 (f := .glo "Ranges") rfl), mkCB_ok (hc 5 rfl), He.mkr_ok (c.fact 32 (f := .mkr "Ranges") rfl), He.meth_ok (c.fact 33 (f := .meth "Ranges" "__len__") rfl), keB_ok (hc 6 rfl), isTabB_ok (hc 7 rfl), isTabB_ok (hc 8 rfl), isTabB_ok (hc 9 rfl), isTabB_ok (hc 10 rfl), c.def_ 0 rfl, c.def_ 1 rfl, c.def_ 2 rfl, c.def_ 3 rfl, c.def_ 4 rfl, c.def_ 5 rfl, c.def_ 6 rfl, c.def_ 7 rfl, c.def_ 8 rfl, c.def_ 9 rfl, c.def_ 10 rfl, c.def_ 11 rfl, c.def_ 12 rfl, c.def_ 13 rfl, c.def_ 14 rfl, c.def_ 15 rfl, c.def_ 16 rfl, c.def_ 17 rfl⟩
end G

set_option Elab.async false
set_option linter.all false
set_option maxRecDepth 100000
set_option maxHeartbeats 4000000
namespace G
open PySem PySem.Spec DL
open L2 hiding prD
theorem F_mix : F__law_mix = mixF := rfl
theorem F_cell : F__law_cell = cellF := rfl
/-! ranges: what the small functions do -/
local macro_rules
  | `(tactic| simp! only [$ts,*] $[$l:location]?) => `(tactic| simp (config := { maxSteps := 2000000 }) only [↓wp_ok, ↓wp_exc, ↓wp_bad, ↓wp_var0, ↓wp_varN, ↓wp_varS, ↓wset0, ↓wsetS, ↓wini0, ↓winiS, ↓winiC, ↓wp_c, ↓wp_x1, ↓wp_x2, ↓wp_tB, ↓wp_tAnd, ↓wp_tOr, ↓wp_tNot, ↓wp_xAnd, ↓wp_xOr, ↓wp_xNot, ↓wp_xIf, ↓wp_nil, ↓wp_cons, ↓wp_tup, ↓wp_fz, ↓wp_cell, ↓wp_disp, ↓wp_yes, ↓wp_call, ↓wp_meth, ↓wp_B, ↓wp_BM, ↓wp_fld, ↓wp_sl, ↓wp_oN, ↓wp_oS, ↓wp_iter, ↓wp_rng1, ↓wp_rng2, ↓wp_src1, ↓wp_src2, ↓wp_chain, ↓wp_add_i, ↓wp_add_s, ↓wp_add_l, ↓wp_sub_i, ↓wp_mul, ↓wp_fdiv, ↓wp_mod, ↓wp_pow, ↓wp_neg, ↓wp_lt, ↓wp_le, ↓wp_gt, ↓wp_ge, ↓wp_eq_i, ↓wp_ne_i, ↓wp_eq_s, ↓wp_ne_s, ↓wp_isN_n, ↓wp_isN_i, ↓wp_isN_s, ↓wp_notN_n, ↓wp_notN_i, ↓wp_notN_s, ↓wp_isi_s, ↓wp_isi_i, ↓wp_isi_b, ↓wp_isi_n, ↓wp_len_s, ↓wp_int_i, ↓wp_int_b, ↓wp_max, ↓wp_min, ↓wp_abs, ↓wp_str, ↓wp_zfill, ↓wp_rev_l, ↓wp_ix_l, ↓wp_ix_t, ↓wp_ix_f, ↓wp_ix_s, ↓wp_len_f, ↓wp_len_l, ↓wp_len_t, ↓ws_ok, ↓ws_bad, ↓ws_nil, ↓ws_seq, ↓sq_set, ↓ws_expr, ↓ws_set, ↓ws_ret, ↓ws_retN, ↓ws_brk, ↓ws_cont, ↓ws_if, ↓ws_asg, ↓ws_aug, ↓ws_raise0, ↓ws_raise1, ↓wp_body, ↓wp_gNm, ↓wp_gNl, ↓wp_gCn, ↓ws_tryAs, ↓ws_tryO, ↓wp_all_l, ↓wp_any_l, ↓wp_sum_l, ↓wp_hex, ↓wp_dnew, ↓wp_ddisp, ↓wp_dg2, ↓fldAt0, ↓fldAtS, ↓wp_fldI, ↓wp_fldR, ↓wp_stR, ↓ws_fldD, ↓isIns_R, ↓isIns_I, ↓wp_make, ↓wp_frz, ↓wp_frzR, ↓wp_makeF, ↓wp_isiR, ↓wp_isi_l, ↓wp_isi_t, ↓wp_isi_o, ↓wp_isO_o, ↓wp_isO_i, ↓wp_isO_l, ↓wp_isO_t, ↓wp_isO_s, ↓wp_isO_b, ↓wp_isO_n, ↓wp_isN_b, ↓wp_isN_l, ↓wp_isN_t, ↓wp_isN_r, ↓wp_isN_o, ↓wp_notN_b, ↓wp_notN_l, ↓wp_notN_t, ↓wp_notN_r, ↓wp_notN_o, ↓wp_eq_b, ↓wp_ne_b, ↓wp_ixR, ↓wp_lenR, ↓wp_srcR, ↓wp_mlst, ↓wp_appR, ↓isLst_R, ↓wp_lsetW, ↓stLst_R, ↓wp_BN, ↓wp_nList_l, ↓wp_nList_t, ↓wp_nListR, ↓wp_enum, ↓wp_enum0, ↓wp_enumS, ↓wp_enmS, ↓wp_srcE_s, ↓wp_srcE_t, ↓wp_srcE_l, ↓wp_srcER, ↓wp_BK, ↓wp_gUlR, ↓wp_gU3, ↓wp_gU2, ↓wp_lenO, ↓wp_tuple_t, ↓wp_tuple_l, ↓wp_tupleR, ↓wp_intAdd, ↓wp_dgetS, ↓wp_dgetI, ↓ws_dset, ↓stKey_S, ↓stKey_I, ↓dval_c, ↓dputV_c, ↓dputV_n, ↓dputK_at, ↓memK_c, ↓isDct_R, ↓asDct_R, ↓keyD_I, ↓keyD_S, ↓asL_l, ↓asL_R, ↓wp_nSl, ↓wp_nRev, ↓wp_mulS, ↓wp_kw, ↓pick_n, ↓pick_c, ↓ws_par2, ↓ws_par3, ↓ws_asg2, ↓ws_asg3, ↓wp_gDs, ↓wp_gLs, ↓starSrc_t, ↓starSrc_l, ↓wp_gSt, ↓wp_nSortDR, ↓wp_dictCR, ↓wp_pop1, ↓wp_pop2, ↓popK_I, ↓wp_gFd, ↓ws_faug, ↓wp_dinI, ↓wp_dinS, ↓wp_nListDR, ↓wp_sumV, ↓wp_upper, ↓wp_index, ↓wp_part, ↓wp_split, ↓wp_find3, ↓wp_zip, ↓wp_srcZ_l, ↓wp_srcZ_t, ↓zipD_c, ↓zipD_n, ↓wp_nRng2, ↓wp_inP, ↓wp_nSt2, ↓wp_maxL, ↓wp_minL, ↓wp_exo, ↓wp_isiE_i, ↓wp_isiE_b, ↓wp_isiE_s, ↓wp_isiE_n, ↓wp_isiE_l, ↓wp_isiE_t, ↓wp_isiE_o, ↓wp_srcL, ↓wp_srcT, ↓wp_tg2, ↓wp_slice_l, List.length_cons, List.length_nil, List.cons_append, List.nil_append, List.append_nil, Nat.reduceAdd, Nat.reduceSub, Nat.zero_add, decide_eq_true_eq, Bool.not_eq_true', decide_eq_false_iff_not, Bool.true_eq, Bool.not_true, Bool.not_false, if_true, reduceIte, Bool.false_eq_true, true_and, and_true, Nat.succ_eq_add_one, sd_pow, sd_div, sd_mulR, sd_mulL, sd_mixR, sd_mixL, sd_mmL, sd_p3, sd_p6, sd_p9, sd_p10, sd_p11, sd_p12, sd_sz, sd_szl, Nat.reduceLeDiff, List.getElem?_cons_zero, List.getElem?_cons_succ, List.set_cons_zero, List.set_cons_succ, sd_at0, sd_at1, sd_at2, sd_at3, sd_at4, sd_atL, sd_ex, sd_ix0, sd_ix1, sd_ix2, sd_ix3, Int.reduceLT, Int.reduceEq, Int.reduceLE, Int.reduceNeg, Int.neg_lt_zero_iff, Int.reducePow, Int.reduceToNat, Nat.reduceLT, Int.reduceAdd, Int.reduceSub, Int.reduceMul, push_at, push_set, push_take, push_at2, push_set2, push_take2, List.getElem?_set_self, List.set_set, List.length_set, isBot, and_self, bots, List.map_cons, List.map_nil, wp_mix, F_mix, F_cell, ty_non_non, ty_non_bl, ty_non_int, ty_non_str, ty_non_lst, ty_non_tup, ty_non_dct, ty_bl_non, ty_bl_bl, ty_bl_int, ty_bl_str, ty_bl_lst, ty_bl_tup, ty_bl_dct, ty_int_non, ty_int_bl, ty_int_int, ty_int_str, ty_int_lst, ty_int_tup, ty_int_dct, ty_str_non, ty_str_bl, ty_str_int, ty_str_str, ty_str_lst, ty_str_tup, ty_str_dct, ty_lst_non, ty_lst_bl, ty_lst_int, ty_lst_str, ty_lst_lst, ty_lst_tup, ty_lst_dct, ty_tup_non, ty_tup_bl, ty_tup_int, ty_tup_str, ty_tup_lst, ty_tup_tup, ty_tup_dct, ty_dct_non, ty_dct_bl, ty_dct_int, ty_dct_str, ty_dct_lst, ty_dct_tup, ty_dct_dct, not_true_eq_false, not_false_eq_true, Int.lt_irrefl, Int.le_refl, decide_true, decide_false, List.any_cons, List.any_nil, Bool.or_false, Bool.false_or, Bool.and_true, Bool.true_and, Bool.and_false, Bool.false_and, false_and, and_false, Bool.or_true, Bool.true_or, reduceCtorEq, ite_self, Sum.inr.injEq, Sum.inl.injEq, Int.cast_ofNat_Int, $ts,*] $[$l]?)
local macro_rules
  | `(tactic| simp_arith only [$ts,*] $[$l:location]?) => `(tactic| simp (config := { maxSteps := 2000000 }) only [↓wp_ok, ↓wp_exc, ↓wp_bad, ↓wp_var0, ↓wp_varN, ↓wp_varS, ↓wset0, ↓wsetS, ↓wini0, ↓winiS, ↓winiC, ↓wp_c, ↓wp_x1, ↓wp_x2, ↓wp_tB, ↓wp_tAnd, ↓wp_tOr, ↓wp_tNot, ↓wp_xAnd, ↓wp_xOr, ↓wp_xNot, ↓wp_xIf, ↓wp_nil, ↓wp_cons, ↓wp_tup, ↓wp_fz, ↓wp_cell, ↓wp_disp, ↓wp_yes, ↓wp_call, ↓wp_meth, ↓wp_B, ↓wp_BM, ↓wp_fld, ↓wp_sl, ↓wp_oN, ↓wp_oS, ↓wp_iter, ↓wp_rng1, ↓wp_rng2, ↓wp_src1, ↓wp_src2, ↓wp_chain, ↓wp_add_i, ↓wp_add_s, ↓wp_add_l, ↓wp_sub_i, ↓wp_mul, ↓wp_fdiv, ↓wp_mod, ↓wp_pow, ↓wp_neg, ↓wp_lt, ↓wp_le, ↓wp_gt, ↓wp_ge, ↓wp_eq_i, ↓wp_ne_i, ↓wp_eq_s, ↓wp_ne_s, ↓wp_isN_n, ↓wp_isN_i, ↓wp_isN_s, ↓wp_notN_n, ↓wp_notN_i, ↓wp_notN_s, ↓wp_isi_s, ↓wp_isi_i, ↓wp_isi_b, ↓wp_isi_n, ↓wp_len_s, ↓wp_int_i, ↓wp_int_b, ↓wp_max, ↓wp_min, ↓wp_abs, ↓wp_str, ↓wp_zfill, ↓wp_rev_l, ↓wp_ix_l, ↓wp_ix_t, ↓wp_ix_f, ↓wp_ix_s, ↓wp_len_f, ↓wp_len_l, ↓wp_len_t, ↓sq_set, ↓wp_body, ↓wp_gNm, ↓wp_gNl, ↓wp_gCn, ↓wp_all_l, ↓wp_any_l, ↓wp_sum_l, ↓wp_hex, ↓wp_dnew, ↓wp_ddisp, ↓wp_dg2, ↓fldAt0, ↓fldAtS, ↓wp_fldI, ↓wp_fldR, ↓wp_stR, ↓isIns_R, ↓isIns_I, ↓wp_make, ↓wp_frz, ↓wp_frzR, ↓wp_makeF, ↓wp_isiR, ↓wp_isi_l, ↓wp_isi_t, ↓wp_isi_o, ↓wp_isO_o, ↓wp_isO_i, ↓wp_isO_l, ↓wp_isO_t, ↓wp_isO_s, ↓wp_isO_b, ↓wp_isO_n, ↓wp_isN_b, ↓wp_isN_l, ↓wp_isN_t, ↓wp_isN_r, ↓wp_isN_o, ↓wp_notN_b, ↓wp_notN_l, ↓wp_notN_t, ↓wp_notN_r, ↓wp_notN_o, ↓wp_eq_b, ↓wp_ne_b, ↓wp_ixR, ↓wp_lenR, ↓wp_srcR, ↓wp_mlst, ↓wp_appR, ↓isLst_R, ↓wp_lsetW, ↓stLst_R, ↓wp_BN, ↓wp_nList_l, ↓wp_nList_t, ↓wp_nListR, ↓wp_enum, ↓wp_enum0, ↓wp_enumS, ↓wp_enmS, ↓wp_srcE_s, ↓wp_srcE_t, ↓wp_srcE_l, ↓wp_srcER, ↓wp_BK, ↓wp_gUlR, ↓wp_gU3, ↓wp_gU2, ↓wp_lenO, ↓wp_tuple_t, ↓wp_tuple_l, ↓wp_tupleR, ↓wp_intAdd, ↓wp_dgetS, ↓wp_dgetI, ↓stKey_S, ↓stKey_I, ↓dval_c, ↓dputV_c, ↓dputV_n, ↓dputK_at, ↓memK_c, ↓isDct_R, ↓asDct_R, ↓keyD_I, ↓keyD_S, ↓asL_l, ↓asL_R, ↓wp_nSl, ↓wp_nRev, ↓wp_mulS, ↓wp_kw, ↓pick_n, ↓pick_c, ↓wp_gDs, ↓wp_gLs, ↓starSrc_t, ↓starSrc_l, ↓wp_gSt, ↓wp_nSortDR, ↓wp_dictCR, ↓wp_pop1, ↓wp_pop2, ↓popK_I, ↓wp_gFd, ↓wp_dinI, ↓wp_dinS, ↓wp_nListDR, ↓wp_sumV, ↓wp_upper, ↓wp_index, ↓wp_part, ↓wp_split, ↓wp_find3, ↓wp_zip, ↓wp_srcZ_l, ↓wp_srcZ_t, ↓zipD_c, ↓zipD_n, ↓wp_nRng2, ↓wp_inP, ↓wp_nSt2, ↓wp_maxL, ↓wp_minL, ↓wp_exo, ↓wp_isiE_i, ↓wp_isiE_b, ↓wp_isiE_s, ↓wp_isiE_n, ↓wp_isiE_l, ↓wp_isiE_t, ↓wp_isiE_o, ↓wp_srcL, ↓wp_srcT, ↓wp_tg2, ↓wp_slice_l, List.length_cons, List.length_nil, List.cons_append, List.nil_append, List.append_nil, Nat.reduceAdd, Nat.reduceSub, Nat.zero_add, decide_eq_true_eq, Bool.not_eq_true', decide_eq_false_iff_not, Bool.true_eq, Bool.not_true, Bool.not_false, if_true, reduceIte, Bool.false_eq_true, true_and, and_true, Nat.succ_eq_add_one, sd_pow, sd_div, sd_mulR, sd_mulL, sd_mixR, sd_mixL, sd_mmL, sd_p3, sd_p6, sd_p9, sd_p10, sd_p11, sd_p12, sd_sz, sd_szl, Nat.reduceLeDiff, List.getElem?_cons_zero, List.getElem?_cons_succ, List.set_cons_zero, List.set_cons_succ, sd_at0, sd_at1, sd_at2, sd_at3, sd_at4, sd_atL, sd_ex, sd_ix0, sd_ix1, sd_ix2, sd_ix3, Int.reduceLT, Int.reduceEq, Int.reduceLE, Int.reduceNeg, Int.neg_lt_zero_iff, Int.reducePow, Int.reduceToNat, Nat.reduceLT, Int.reduceAdd, Int.reduceSub, Int.reduceMul, push_at, push_set, push_take, push_at2, push_set2, push_take2, List.getElem?_set_self, List.set_set, List.length_set, isBot, and_self, bots, List.map_cons, List.map_nil, wp_mix, F_mix, F_cell, ty_non_non, ty_non_bl, ty_non_int, ty_non_str, ty_non_lst, ty_non_tup, ty_non_dct, ty_bl_non, ty_bl_bl, ty_bl_int, ty_bl_str, ty_bl_lst, ty_bl_tup, ty_bl_dct, ty_int_non, ty_int_bl, ty_int_int, ty_int_str, ty_int_lst, ty_int_tup, ty_int_dct, ty_str_non, ty_str_bl, ty_str_int, ty_str_str, ty_str_lst, ty_str_tup, ty_str_dct, ty_lst_non, ty_lst_bl, ty_lst_int, ty_lst_str, ty_lst_lst, ty_lst_tup, ty_lst_dct, ty_tup_non, ty_tup_bl, ty_tup_int, ty_tup_str, ty_tup_lst, ty_tup_tup, ty_tup_dct, ty_dct_non, ty_dct_bl, ty_dct_int, ty_dct_str, ty_dct_lst, ty_dct_tup, ty_dct_dct, not_true_eq_false, not_false_eq_true, Int.lt_irrefl, Int.le_refl, decide_true, decide_false, List.any_cons, List.any_nil, Bool.or_false, Bool.false_or, Bool.and_true, Bool.true_and, Bool.and_false, Bool.false_and, false_and, and_false, Bool.or_true, Bool.true_or, reduceCtorEq, ite_self, Sum.inr.injEq, Sum.inl.injEq, Int.cast_ofNat_Int, $ts,*] $[$l]?)
theorem whole_i (i : Int) (S : Store) : F_is_whole [.int i] S = .ok (.bl true, S) := by
  refine wp_eq2 ?_
  unfold F_is_whole m_is_whole
  simp! only []
theorem number_i (i : Int) (S : Store) : F_is_number [.int i] S = .ok (.bl (decide (0 ≤ i ∧ i ≤ 1000000000000)), S) := by
  refine wp_eq2 ?_
  unfold F_is_number m_is_number
  simp! only [whole_i]
  by_cases h : 0 ≤ i
  · by_cases h2 : i ≤ 1000000000000
    · simp [h, h2]
    · simp [h, h2]
  · simp [h]
theorem pair_eq (p : Int × Int) (S : Store) : F_is_pair [prD p] S = .ok (.bl (decide (0 ≤ p.1 ∧ p.1 ≤ p.2 ∧ p.2 ≤ 1000000000000)), S) := by
  refine wp_eq2 ?_
  unfold F_is_pair m_is_pair prD
  simp! only [number_i]
  by_cases h1 : 0 ≤ p.1 ∧ p.1 ≤ 1000000000000
  · by_cases h2 : 0 ≤ p.2 ∧ p.2 ≤ 1000000000000
    · rw [if_neg (fun z => z h1), if_neg (fun z => z h2)]
      congr 1
      exact decide_eq_decide.mpr ⟨fun h => ⟨h1.1, h, h2.2⟩, fun h => h.2.1⟩
    · rw [if_neg (fun z => z h1), if_pos h2, decide_eq_false (fun z => h2 ⟨by omega, z.2.2⟩)]
  · rw [if_pos h1, decide_eq_false (fun z => h1 ⟨z.1, by omega⟩)]
theorem merged_wp (d : D) (rs : Rw) (S : Store) (hd : d = .lst (rs.map prD) ∨ d = .tup (rs.map prD) ∨ ∃ n, d = .ref n ∧ S[n]? = some (some (.lst (rs.map prD)))) (hl : rs.length ≤ 1000000) : wp (F_merged [d] S) (fun v S' => v = .lst ((mergeP rs).map prD) ∧ S' = S) NX := by
  unfold F_merged m_merged
  rw [wp_pureD]
  simp_arith only []
  have key : ∀ S : Store, ws (forGo (fun _ => True) (gTp 2 (gCn (gNm 2) (gCn (gNm 3) gNl))) (sIf (tAndD (tB (x2 dNe (xVar 1) (xFz (lDisp (xNil))))) (tB (x2 dLe (xVar 2) (x2 dAdd (x2 dIx (x2 dIx (xVar 1) (x1 dNeg (xC (.int 1)))) (xC (.int 1))) (xC (.int 1)))))) (sLset (xVar 1) (x1 dNeg (xC (.int 1))) (xTup (xCons (x2 dIx (x2 dIx (xVar 1) (x1 dNeg (xC (.int 1)))) (xC (.int 0))) (xCons (xB bMax (xCons (x2 dIx (x2 dIx (xVar 1) (x1 dNeg (xC (.int 1)))) (xC (.int 1))) (xCons (xVar 3) (xNil)))) (xNil))))) (sExpr (xBM isLst mAppend (xVar 1) (xCons (xTup (xCons (xVar 2) (xCons (xVar 3) (xNil)))) (xNil)))))
      ((sortP rs).map prD) [some d, some (.ref S.length), none, none] (S ++ [some (.lst [])])) (fun f δ1 S1 => f = .nx ∧ S1 = S ++ [some (.lst ((mergeP rs).map prD))] ∧ ∃ x y, δ1 = [some d, some (.ref S.length), x, y]) (fun _ _ _ _ => False) := by
    intro S
    refine ws_forGo (fun k δ S1 => S1 = S ++ [some (.lst ((((sortP rs).take k).foldl addRow []).map prD))] ∧ ∃ x y, δ = [some d, some (.ref S.length), x, y]) _ 0 _ _ ⟨rfl, _, _, rfl⟩ (fun _ _ _ _ => trivial) ?_ ?_
    · rintro j x δ S1 hj ⟨rfl, a, b, rfl⟩
      rw [List.getElem?_map] at hj
      cases hp : (sortP rs)[j]? with
      | none => rw [hp] at hj; cases hj
      | some p =>
        rw [hp] at hj
        cases hj
        have ht : (sortP rs).take (0 + j + 1) = (sortP rs).take (0 + j) ++ [p] := by
          rw [Nat.zero_add, List.take_add_one, hp]; rfl
        have hlen : (((sortP rs).take (0 + j)).foldl addRow []).length ≤ 1000000 := by
          have h1 := foldl_len ((sortP rs).take (0 + j)) []
          have h2 := (sortP_perm rs).length_eq
          have h3 : ((sortP rs).take (0 + j)).length ≤ (sortP rs).length := by rw [List.length_take]; omega
          simp only [List.length_nil, Nat.zero_add] at h1 h3 ⊢
          omega
        rw [ht, List.foldl_append]
        generalize ((sortP rs).take (0 + j)).foldl addRow [] = l at hlen
        obtain ⟨p1, p2⟩ := p
        rcases List.eq_nil_or_concat l with rfl | ⟨m, ⟨q1, q2⟩, rfl⟩
        · simp! only [prD, ↓wp_tg2]
          rw [wp_neNilR _ [] (push_at _ _) (dat_prs [])]
          simp! only [List.isEmpty_nil, List.foldl_cons, List.foldl_nil, addRow_nil, prD]
          exact ⟨_, _, rfl⟩
        · rw [List.concat_eq_append] at hlen ⊢
          have hs : m.length + 1 < 16777216 := by rw [List.length_append] at hlen; simp at hlen; omega
          have he : (m ++ [(q1, q2)]).isEmpty = false := by simp
          simp! only [prD, ↓wp_tg2]
          rw [wp_neNilR _ _ (push_at _ _) (dat_prs _), isE_map, he]
          simp! only [List.map_append, prD, List.length_append, List.length_map, ixN_last, set_lastM, List.foldl_cons, List.foldl_nil, addRow_snoc, hs]
          by_cases hq : p1 ≤ q2 + 1
          · rw [if_pos hq, if_pos hq]
            exact ⟨by simp [prD], _, _, rfl⟩
          · rw [if_neg hq, if_neg hq]
            exact ⟨by simp [prD], _, _, rfl⟩
    · rintro δ S1 ⟨rfl, a, b, rfl⟩
      refine ⟨rfl, ?_, _, _, rfl⟩
      rw [List.length_map, Nat.zero_add, List.take_length]
      rfl
  rw [seq_for]
  rcases hd with rfl | rfl | ⟨n, rfl, hn⟩
  · simp! only []
    rw [wp_nSortedT_l]
    refine ws_imp (key S) ?_ (fun _ _ _ _ h => h.elim)
    rintro f δ1 S1 ⟨rfl, rfl, x, y, rfl⟩
    simp! only [noRef_prs]
  · simp! only []
    rw [wp_nSortedT_t]
    refine ws_imp (key S) ?_ (fun _ _ _ _ h => h.elim)
    rintro f δ1 S1 ⟨rfl, rfl, x, y, rfl⟩
    simp! only [noRef_prs]
  · simp! only []
    rw [wp_nSortedT_R n rs (by rw [List.getElem?_append_left (List.getElem?_eq_some_iff.mp hn).1]; exact hn)]
    refine ws_imp (key S) ?_ (fun _ _ _ _ h => h.elim)
    rintro f δ1 S1 ⟨rfl, rfl, x, y, rfl⟩
    simp! only [noRef_prs]
def Src3 (d : D) (rs : Rw) (S : Store) : Prop := d = .lst (rs.map prD) ∨ d = .tup (rs.map prD) ∨ ∃ n, d = .ref n ∧ S[n]? = some (some (.lst (rs.map prD)))
theorem merged_eq (d : D) (rs : Rw) (S : Store) (hd : Src3 d rs S) (hl : rs.length ≤ 1000000) : F_merged [d] S = .ok (.lst ((mergeP rs).map prD), S) := wp_eq2 (merged_wp d rs S hd hl)
abbrev rgO (rs : Rw) : Option Cell := some (.ins "Ranges" ["spans"] [.lst (rs.map prD)])
abbrev rgD (rs : Rw) : D := .ins "Ranges" ["spans"] [.lst (rs.map prD)]
theorem rini_eq (n : Nat) (d : D) (rs : Rw) (S : Store) (h : S[n]? = some (some (.ins "Ranges" ["spans"] [.bot]))) (hd : Src3 d rs S) (hr : InN rs) (hl : rs.length ≤ 1000000) : F_Ranges___init__ [.ref n, d] S = .ok (.non, S.set n (rgO (mergeP rs))) := by
  have hn := (List.getElem?_eq_some_iff.mp h).1
  refine wp_eq2 ?_
  unfold F_Ranges___init__ m_Ranges___init__
  simp_arith only []
  refine seq_cut (fun δ1 S1 => S1 = S ∧ ∃ a b, δ1 = [some (.ref n), some d, a, b]) ?_ ?_
  · rw [ws_for]
    have go : ∀ ok : Store → Prop, ok S → ws (forGo ok (gTp 2 (gCn (gNm 2) (gCn (gNm 3) gNl))) (sIf (tNotD (tB (xCall 1 F_is_pair [] (xCons (xVar 3) (xNil))))) (sRaise1 "BadRange" "at" (xVar 2)) (sNil)) (enumL 0 (rs.map prD)) [some (.ref n), some d, none, none] S)
        (fun f δ1 S1 => f = .nx ∧ S1 = S ∧ ∃ a b, δ1 = [some (.ref n), some d, a, b]) (fun _ _ _ _ => False) := by
      intro ok hok
      refine ws_forGo (fun _ δ S1 => S1 = S ∧ ∃ a b, δ = [some (.ref n), some d, a, b]) _ 0 _ _ ⟨rfl, _, _, rfl⟩ (fun _ _ _ h => by rw [h.1]; exact hok) ?_ ?_
      · rintro k x δ S1 hx ⟨rfl, a, b, rfl⟩
        rw [enumL_at, List.getElem?_map] at hx
        cases hp : rs[k]? with
        | none => rw [hp] at hx; cases hx
        | some p =>
          rw [hp] at hx
          cases hx
          have hq := hr p (List.mem_of_getElem? hp)
          simp! only [↓wp_tg2, pair_eq, hq]
          exact ⟨_, _, rfl⟩
      · rintro δ S1 ⟨rfl, a, b, rfl⟩
        exact ⟨rfl, rfl, _, _, rfl⟩
    rcases hd with rfl | rfl | ⟨m, rfl, hm⟩
    · simp! only []
      refine ws_imp (go _ trivial) ?_ (fun _ _ _ _ h => h.elim)
      rintro f δ1 S1 ⟨rfl, rfl, x, y, rfl⟩
      exact ⟨rfl, _, _, rfl⟩
    · simp! only []
      refine ws_imp (go _ trivial) ?_ (fun _ _ _ _ h => h.elim)
      rintro f δ1 S1 ⟨rfl, rfl, x, y, rfl⟩
      exact ⟨rfl, _, _, rfl⟩
    · simp! only [hm]
      refine ws_imp (go _ rfl) ?_ (fun _ _ _ _ h => h.elim)
      rintro f δ1 S1 ⟨rfl, rfl, x, y, rfl⟩
      exact ⟨rfl, _, _, rfl⟩
  · rintro δ1 S1 ⟨rfl, a, b, rfl⟩
    simp! only [merged_eq d rs S1 hd hl, h, hn]
theorem rmake_wp (g : LA) (δ : Lc) (S : Store) (rs : Rw) {QD : D → Store → Prop} {E : XQ} (hr : InN rs) (hl : rs.length ≤ 1000000) (h : wp (g δ S) (fun ds S1 => ∃ d, ds = [d] ∧ Src3 d rs S1 ∧ S1.take S.length = S ∧ QD (rgD (mergeP rs)) S) NX) : wp (xMakeF (xMake "Ranges" ["spans"] 2 F_Ranges___init__ [] g) δ S) QD E := by
  simp only [↓wp_makeF, ↓wp_make]
  refine wp_imp h ?_ (fun _ _ _ h => h.elim)
  rintro ds S1 ⟨d, rfl, h3, hS, hQ⟩
  have h3' : Src3 d rs (S1 ++ [some (.ins "Ranges" ["spans"] (bots ["spans"]))]) := by
    rcases h3 with e | e | ⟨n, e, hn⟩
    · exact .inl e
    · exact .inr (.inl e)
    · exact .inr (.inr ⟨n, e, by rw [List.getElem?_append_left (List.getElem?_eq_some_iff.mp hn).1]; exact hn⟩)
  have hle : S.length ≤ S1.length := by
    have := congrArg List.length hS
    rw [List.length_take] at this
    omega
  have hn : noRef (.ins "Ranges" ["spans"] [.lst ((mergeP rs).map prD)]) = true := by
    unfold noRef noRefL noRefL
    rw [noRef_prs]
    rfl
  have e := rini_eq S1.length d rs _ (push_at S1 (some (.ins "Ranges" ["spans"] [.bot]))) h3' hr hl
  simp! only [e, hn]
  rw [List.take_append_of_le_length hle]
  exact ⟨hS, hQ⟩
theorem rg_isIns (c : Str) (rs : Rw) (S : Store) : isIns c (rgD rs) S = decide ("Ranges" = c) := rfl
theorem rg_noRef (rs : Rw) : noRef (.ins "Ranges" ["spans"] [.lst (rs.map prD)]) = true := by
  unfold noRef noRefL noRefL
  rw [noRef_prs]
  rfl
/-! signs -/
def lcB (c : Nat) : Bool := decide (32 ≤ c) && decide (c ≤ 126)
def wcB (c : Nat) : Bool := decide (97 ≤ c) && decide (c ≤ 122)
def sg (d : D) : Nat := match d with
  | .str x => x.cps.getD 0 0
  | _ => 0
section
variable {S : Store} {QD : D → Store → Prop} {E : XQ} {s : Str} {d : Nat}
theorem lt1 (c d : Nat) : decide (([c] : List Nat) < [d]) = decide (c < d) := decide_eq_decide.mpr (by
  rw [List.cons_lt_cons_iff]
  exact ⟨fun h => h.elim id fun h => absurd h.2 (List.lt_irrefl _), .inl⟩)
theorem le_1 (hs : s.cps.toList = [d]) (c : Nat) : wp (dLe (.str s) (.str ⟨#[c]⟩) S) QD E = QD (.bl (decide (d ≤ c))) S := by
  show QD (.bl (!decide (([c] : List Nat) < s.cps.toList))) S = _
  rw [hs, lt1]
  by_cases h : c < d
  · rw [decide_eq_true h, decide_eq_false (by omega)]
    rfl
  · rw [decide_eq_false h, decide_eq_true (by omega)]
    rfl
theorem le_2 (hs : s.cps.toList = [d]) (c : Nat) : wp (dLe (.str ⟨#[c]⟩) (.str s) S) QD E = QD (.bl (decide (c ≤ d))) S := by
  show QD (.bl (!decide (s.cps.toList < ([c] : List Nat)))) S = _
  rw [hs, lt1]
  by_cases h : d < c
  · rw [decide_eq_true h, decide_eq_false (by omega)]
    rfl
  · rw [decide_eq_false h, decide_eq_true (by omega)]
    rfl
theorem lt_2 (hs : s.cps.toList = [d]) (c : Nat) : wp (dLt (.str ⟨#[c]⟩) (.str s) S) QD E = QD (.bl (decide (c < d))) S := by
  show QD (.bl (decide (([c] : List Nat) < s.cps.toList))) S = _
  rw [hs, lt1]
theorem gt_2 (hs : s.cps.toList = [d]) (c : Nat) : wp (dGt (.str ⟨#[c]⟩) (.str s) S) QD E = QD (.bl (decide (d < c))) S := by
  show QD (.bl (decide (s.cps.toList < ([c] : List Nat)))) S = _
  rw [hs, lt1]
end
theorem h32 : (" " : Str).cps.toList = [32] := by decide +kernel
theorem h126 : ("~" : Str).cps.toList = [126] := by decide +kernel
theorem h97 : ("a" : Str).cps.toList = [97] := by decide +kernel
theorem h122 : ("z" : Str).cps.toList = [122] := by decide +kernel
theorem sm_mem (c : Nat) : decide (c ∈ ("abcdefghijklmnopqrstuvwxyz" : Str).cps.toList) = wcB c := by
  have e : ("abcdefghijklmnopqrstuvwxyz" : Str).cps.toList = [97, 98, 99, 100, 101, 102, 103, 104, 105, 106, 107, 108, 109, 110, 111, 112, 113, 114, 115, 116, 117, 118, 119, 120, 121, 122] := by decide +kernel
  rw [e]
  unfold wcB
  rw [← Bool.decide_and]
  refine decide_eq_decide.mpr ?_
  simp only [List.mem_cons, List.not_mem_nil, or_false]
  omega
theorem sg_all (g : Nat → Bool) (z : Str) : ((signs z).filter fun d => !g (sg d)).isEmpty = z.cps.toList.all g := by
  unfold signs
  induction z.cps.toList with
  | nil => rfl
  | cons c l ih =>
    rw [List.map_cons, List.all_cons, ← ih]
    have e : sg (.str ⟨#[c]⟩) = c := rfl
    cases h : g c with
    | true => rw [List.filter_cons_of_neg (by rw [e, h]; exact Bool.false_ne_true), Bool.true_and]
    | false =>
      rw [List.filter_cons_of_pos (by rw [e, h]; rfl)]
      rfl
theorem sg_dat {z : Str} {n : Nat} (h : TxO n z) (p : D → Bool) : Dat 8 (.lst ((signs z).filter p)) := fun d hd => by
  have hd := (List.mem_filter.mp hd).1
  unfold signs at hd
  obtain ⟨c, hc, rfl⟩ := List.mem_map.mp hd
  have := h.2 c hc
  show PyData.strOk (⟨#[c]⟩ : Str) = true
  unfold PyData.strOk
  simp
  omega
local macro_rules
  | `(tactic| simp! only [$ts,*] $[$l:location]?) => `(tactic| simp (config := { maxSteps := 2000000 }) only [↓wp_ok, ↓wp_exc, ↓wp_bad, ↓wp_var0, ↓wp_varN, ↓wp_varS, ↓wset0, ↓wsetS, ↓wini0, ↓winiS, ↓winiC, ↓wp_c, ↓wp_x1, ↓wp_x2, ↓wp_tB, ↓wp_tAnd, ↓wp_tOr, ↓wp_tNot, ↓wp_xAnd, ↓wp_xOr, ↓wp_xNot, ↓wp_xIf, ↓wp_nil, ↓wp_cons, ↓wp_tup, ↓wp_fz, ↓wp_cell, ↓wp_disp, ↓wp_yes, ↓wp_call, ↓wp_meth, ↓wp_B, ↓wp_BM, ↓wp_fld, ↓wp_sl, ↓wp_oN, ↓wp_oS, ↓wp_iter, ↓wp_rng1, ↓wp_rng2, ↓wp_src1, ↓wp_src2, ↓wp_chain, ↓wp_add_i, ↓wp_add_s, ↓wp_add_l, ↓wp_sub_i, ↓wp_mul, ↓wp_fdiv, ↓wp_mod, ↓wp_pow, ↓wp_neg, ↓wp_lt, ↓wp_le, ↓wp_gt, ↓wp_ge, ↓wp_eq_i, ↓wp_ne_i, ↓wp_eq_s, ↓wp_ne_s, ↓wp_isN_n, ↓wp_isN_i, ↓wp_isN_s, ↓wp_notN_n, ↓wp_notN_i, ↓wp_notN_s, ↓wp_isi_s, ↓wp_isi_i, ↓wp_isi_b, ↓wp_isi_n, ↓wp_len_s, ↓wp_int_i, ↓wp_int_b, ↓wp_max, ↓wp_min, ↓wp_abs, ↓wp_str, ↓wp_zfill, ↓wp_rev_l, ↓wp_ix_l, ↓wp_ix_t, ↓wp_ix_f, ↓wp_ix_s, ↓wp_len_f, ↓wp_len_l, ↓wp_len_t, ↓ws_ok, ↓ws_bad, ↓ws_nil, ↓ws_seq, ↓sq_set, ↓ws_expr, ↓ws_set, ↓ws_ret, ↓ws_retN, ↓ws_brk, ↓ws_cont, ↓ws_if, ↓ws_asg, ↓ws_aug, ↓ws_raise0, ↓ws_raise1, ↓wp_body, ↓wp_gNm, ↓wp_gNl, ↓wp_gCn, ↓ws_tryAs, ↓ws_tryO, ↓wp_all_l, ↓wp_any_l, ↓wp_sum_l, ↓wp_hex, ↓wp_dnew, ↓wp_ddisp, ↓wp_dg2, ↓fldAt0, ↓fldAtS, ↓wp_fldI, ↓wp_fldR, ↓wp_stR, ↓ws_fldD, ↓isIns_R, ↓isIns_I, ↓wp_make, ↓wp_frz, ↓wp_frzR, ↓wp_makeF, ↓wp_isiR, ↓wp_isi_l, ↓wp_isi_t, ↓wp_isi_o, ↓wp_isO_o, ↓wp_isO_i, ↓wp_isO_l, ↓wp_isO_t, ↓wp_isO_s, ↓wp_isO_b, ↓wp_isO_n, ↓wp_isN_b, ↓wp_isN_l, ↓wp_isN_t, ↓wp_isN_r, ↓wp_isN_o, ↓wp_notN_b, ↓wp_notN_l, ↓wp_notN_t, ↓wp_notN_r, ↓wp_notN_o, ↓wp_eq_b, ↓wp_ne_b, ↓wp_ixR, ↓wp_lenR, ↓wp_srcR, ↓wp_mlst, ↓wp_appR, ↓isLst_R, ↓wp_lsetW, ↓stLst_R, ↓wp_BN, ↓wp_nList_l, ↓wp_nList_t, ↓wp_nListR, ↓wp_enum, ↓wp_enum0, ↓wp_enumS, ↓wp_enmS, ↓wp_srcE_s, ↓wp_srcE_t, ↓wp_srcE_l, ↓wp_srcER, ↓wp_BK, ↓wp_gUlR, ↓wp_gU3, ↓wp_gU2, ↓wp_lenO, ↓wp_tuple_t, ↓wp_tuple_l, ↓wp_tupleR, ↓wp_intAdd, ↓wp_dgetS, ↓wp_dgetI, ↓ws_dset, ↓stKey_S, ↓stKey_I, ↓dval_c, ↓dputV_c, ↓dputV_n, ↓dputK_at, ↓memK_c, ↓isDct_R, ↓asDct_R, ↓keyD_I, ↓keyD_S, ↓asL_l, ↓asL_R, ↓wp_nSl, ↓wp_nRev, ↓wp_mulS, ↓wp_kw, ↓pick_n, ↓pick_c, ↓ws_par2, ↓ws_par3, ↓ws_asg2, ↓ws_asg3, ↓wp_gDs, ↓wp_gLs, ↓starSrc_t, ↓starSrc_l, ↓wp_gSt, ↓wp_nSortDR, ↓wp_dictCR, ↓wp_pop1, ↓wp_pop2, ↓popK_I, ↓wp_gFd, ↓ws_faug, ↓wp_dinI, ↓wp_dinS, ↓wp_nListDR, ↓wp_sumV, ↓wp_upper, ↓wp_index, ↓wp_part, ↓wp_split, ↓wp_find3, ↓wp_zip, ↓wp_srcZ_l, ↓wp_srcZ_t, ↓zipD_c, ↓zipD_n, ↓wp_nRng2, ↓wp_inP, ↓wp_nSt2, ↓wp_maxL, ↓wp_minL, ↓wp_exo, ↓wp_isiE_i, ↓wp_isiE_b, ↓wp_isiE_s, ↓wp_isiE_n, ↓wp_isiE_l, ↓wp_isiE_t, ↓wp_isiE_o, ↓wp_srcL, ↓wp_srcT, ↓wp_tg2, ↓wp_slice_l, List.length_cons, List.length_nil, List.cons_append, List.nil_append, List.append_nil, Nat.reduceAdd, Nat.reduceSub, Nat.zero_add, decide_eq_true_eq, Bool.not_eq_true', decide_eq_false_iff_not, Bool.true_eq, Bool.not_true, Bool.not_false, if_true, reduceIte, Bool.false_eq_true, true_and, and_true, Nat.succ_eq_add_one, sd_pow, sd_div, sd_mulR, sd_mulL, sd_mixR, sd_mixL, sd_mmL, sd_p3, sd_p6, sd_p9, sd_p10, sd_p11, sd_p12, sd_sz, sd_szl, Nat.reduceLeDiff, List.getElem?_cons_zero, List.getElem?_cons_succ, List.set_cons_zero, List.set_cons_succ, sd_at0, sd_at1, sd_at2, sd_at3, sd_at4, sd_atL, sd_ex, sd_ix0, sd_ix1, sd_ix2, sd_ix3, Int.reduceLT, Int.reduceEq, Int.reduceLE, Int.reduceNeg, Int.neg_lt_zero_iff, Int.reducePow, Int.reduceToNat, Nat.reduceLT, Int.reduceAdd, Int.reduceSub, Int.reduceMul, push_at, push_set, push_take, push_at2, push_set2, push_take2, List.getElem?_set_self, List.set_set, List.length_set, isBot, and_self, bots, List.map_cons, List.map_nil, wp_mix, F_mix, F_cell, ty_non_non, ty_non_bl, ty_non_int, ty_non_str, ty_non_lst, ty_non_tup, ty_non_dct, ty_bl_non, ty_bl_bl, ty_bl_int, ty_bl_str, ty_bl_lst, ty_bl_tup, ty_bl_dct, ty_int_non, ty_int_bl, ty_int_int, ty_int_str, ty_int_lst, ty_int_tup, ty_int_dct, ty_str_non, ty_str_bl, ty_str_int, ty_str_str, ty_str_lst, ty_str_tup, ty_str_dct, ty_lst_non, ty_lst_bl, ty_lst_int, ty_lst_str, ty_lst_lst, ty_lst_tup, ty_lst_dct, ty_tup_non, ty_tup_bl, ty_tup_int, ty_tup_str, ty_tup_lst, ty_tup_tup, ty_tup_dct, ty_dct_non, ty_dct_bl, ty_dct_int, ty_dct_str, ty_dct_lst, ty_dct_tup, ty_dct_dct, not_true_eq_false, not_false_eq_true, Int.lt_irrefl, Int.le_refl, decide_true, decide_false, List.any_cons, List.any_nil, Bool.or_false, Bool.false_or, Bool.and_true, Bool.true_and, Bool.and_false, Bool.false_and, false_and, and_false, Bool.or_true, Bool.true_or, reduceCtorEq, ite_self, Sum.inr.injEq, Sum.inl.injEq, Int.cast_ofNat_Int, $ts,*] $[$l]?)
local macro_rules
  | `(tactic| simp_arith only [$ts,*] $[$l:location]?) => `(tactic| simp (config := { maxSteps := 2000000 }) only [↓wp_ok, ↓wp_exc, ↓wp_bad, ↓wp_var0, ↓wp_varN, ↓wp_varS, ↓wset0, ↓wsetS, ↓wini0, ↓winiS, ↓winiC, ↓wp_c, ↓wp_x1, ↓wp_x2, ↓wp_tB, ↓wp_tAnd, ↓wp_tOr, ↓wp_tNot, ↓wp_xAnd, ↓wp_xOr, ↓wp_xNot, ↓wp_xIf, ↓wp_nil, ↓wp_cons, ↓wp_tup, ↓wp_fz, ↓wp_cell, ↓wp_disp, ↓wp_yes, ↓wp_call, ↓wp_meth, ↓wp_B, ↓wp_BM, ↓wp_fld, ↓wp_sl, ↓wp_oN, ↓wp_oS, ↓wp_iter, ↓wp_rng1, ↓wp_rng2, ↓wp_src1, ↓wp_src2, ↓wp_chain, ↓wp_add_i, ↓wp_add_s, ↓wp_add_l, ↓wp_sub_i, ↓wp_mul, ↓wp_fdiv, ↓wp_mod, ↓wp_pow, ↓wp_neg, ↓wp_lt, ↓wp_le, ↓wp_gt, ↓wp_ge, ↓wp_eq_i, ↓wp_ne_i, ↓wp_eq_s, ↓wp_ne_s, ↓wp_isN_n, ↓wp_isN_i, ↓wp_isN_s, ↓wp_notN_n, ↓wp_notN_i, ↓wp_notN_s, ↓wp_isi_s, ↓wp_isi_i, ↓wp_isi_b, ↓wp_isi_n, ↓wp_len_s, ↓wp_int_i, ↓wp_int_b, ↓wp_max, ↓wp_min, ↓wp_abs, ↓wp_str, ↓wp_zfill, ↓wp_rev_l, ↓wp_ix_l, ↓wp_ix_t, ↓wp_ix_f, ↓wp_ix_s, ↓wp_len_f, ↓wp_len_l, ↓wp_len_t, ↓sq_set, ↓wp_body, ↓wp_gNm, ↓wp_gNl, ↓wp_gCn, ↓wp_all_l, ↓wp_any_l, ↓wp_sum_l, ↓wp_hex, ↓wp_dnew, ↓wp_ddisp, ↓wp_dg2, ↓fldAt0, ↓fldAtS, ↓wp_fldI, ↓wp_fldR, ↓wp_stR, ↓isIns_R, ↓isIns_I, ↓wp_make, ↓wp_frz, ↓wp_frzR, ↓wp_makeF, ↓wp_isiR, ↓wp_isi_l, ↓wp_isi_t, ↓wp_isi_o, ↓wp_isO_o, ↓wp_isO_i, ↓wp_isO_l, ↓wp_isO_t, ↓wp_isO_s, ↓wp_isO_b, ↓wp_isO_n, ↓wp_isN_b, ↓wp_isN_l, ↓wp_isN_t, ↓wp_isN_r, ↓wp_isN_o, ↓wp_notN_b, ↓wp_notN_l, ↓wp_notN_t, ↓wp_notN_r, ↓wp_notN_o, ↓wp_eq_b, ↓wp_ne_b, ↓wp_ixR, ↓wp_lenR, ↓wp_srcR, ↓wp_mlst, ↓wp_appR, ↓isLst_R, ↓wp_lsetW, ↓stLst_R, ↓wp_BN, ↓wp_nList_l, ↓wp_nList_t, ↓wp_nListR, ↓wp_enum, ↓wp_enum0, ↓wp_enumS, ↓wp_enmS, ↓wp_srcE_s, ↓wp_srcE_t, ↓wp_srcE_l, ↓wp_srcER, ↓wp_BK, ↓wp_gUlR, ↓wp_gU3, ↓wp_gU2, ↓wp_lenO, ↓wp_tuple_t, ↓wp_tuple_l, ↓wp_tupleR, ↓wp_intAdd, ↓wp_dgetS, ↓wp_dgetI, ↓stKey_S, ↓stKey_I, ↓dval_c, ↓dputV_c, ↓dputV_n, ↓dputK_at, ↓memK_c, ↓isDct_R, ↓asDct_R, ↓keyD_I, ↓keyD_S, ↓asL_l, ↓asL_R, ↓wp_nSl, ↓wp_nRev, ↓wp_mulS, ↓wp_kw, ↓pick_n, ↓pick_c, ↓wp_gDs, ↓wp_gLs, ↓starSrc_t, ↓starSrc_l, ↓wp_gSt, ↓wp_nSortDR, ↓wp_dictCR, ↓wp_pop1, ↓wp_pop2, ↓popK_I, ↓wp_gFd, ↓wp_dinI, ↓wp_dinS, ↓wp_nListDR, ↓wp_sumV, ↓wp_upper, ↓wp_index, ↓wp_part, ↓wp_split, ↓wp_find3, ↓wp_zip, ↓wp_srcZ_l, ↓wp_srcZ_t, ↓zipD_c, ↓zipD_n, ↓wp_nRng2, ↓wp_inP, ↓wp_nSt2, ↓wp_maxL, ↓wp_minL, ↓wp_exo, ↓wp_isiE_i, ↓wp_isiE_b, ↓wp_isiE_s, ↓wp_isiE_n, ↓wp_isiE_l, ↓wp_isiE_t, ↓wp_isiE_o, ↓wp_srcL, ↓wp_srcT, ↓wp_tg2, ↓wp_slice_l, List.length_cons, List.length_nil, List.cons_append, List.nil_append, List.append_nil, Nat.reduceAdd, Nat.reduceSub, Nat.zero_add, decide_eq_true_eq, Bool.not_eq_true', decide_eq_false_iff_not, Bool.true_eq, Bool.not_true, Bool.not_false, if_true, reduceIte, Bool.false_eq_true, true_and, and_true, Nat.succ_eq_add_one, sd_pow, sd_div, sd_mulR, sd_mulL, sd_mixR, sd_mixL, sd_mmL, sd_p3, sd_p6, sd_p9, sd_p10, sd_p11, sd_p12, sd_sz, sd_szl, Nat.reduceLeDiff, List.getElem?_cons_zero, List.getElem?_cons_succ, List.set_cons_zero, List.set_cons_succ, sd_at0, sd_at1, sd_at2, sd_at3, sd_at4, sd_atL, sd_ex, sd_ix0, sd_ix1, sd_ix2, sd_ix3, Int.reduceLT, Int.reduceEq, Int.reduceLE, Int.reduceNeg, Int.neg_lt_zero_iff, Int.reducePow, Int.reduceToNat, Nat.reduceLT, Int.reduceAdd, Int.reduceSub, Int.reduceMul, push_at, push_set, push_take, push_at2, push_set2, push_take2, List.getElem?_set_self, List.set_set, List.length_set, isBot, and_self, bots, List.map_cons, List.map_nil, wp_mix, F_mix, F_cell, ty_non_non, ty_non_bl, ty_non_int, ty_non_str, ty_non_lst, ty_non_tup, ty_non_dct, ty_bl_non, ty_bl_bl, ty_bl_int, ty_bl_str, ty_bl_lst, ty_bl_tup, ty_bl_dct, ty_int_non, ty_int_bl, ty_int_int, ty_int_str, ty_int_lst, ty_int_tup, ty_int_dct, ty_str_non, ty_str_bl, ty_str_int, ty_str_str, ty_str_lst, ty_str_tup, ty_str_dct, ty_lst_non, ty_lst_bl, ty_lst_int, ty_lst_str, ty_lst_lst, ty_lst_tup, ty_lst_dct, ty_tup_non, ty_tup_bl, ty_tup_int, ty_tup_str, ty_tup_lst, ty_tup_tup, ty_tup_dct, ty_dct_non, ty_dct_bl, ty_dct_int, ty_dct_str, ty_dct_lst, ty_dct_tup, ty_dct_dct, not_true_eq_false, not_false_eq_true, Int.lt_irrefl, Int.le_refl, decide_true, decide_false, List.any_cons, List.any_nil, Bool.or_false, Bool.false_or, Bool.and_true, Bool.true_and, Bool.and_false, Bool.false_and, false_and, and_false, Bool.or_true, Bool.true_or, reduceCtorEq, ite_self, Sum.inr.injEq, Sum.inl.injEq, Int.cast_ofNat_Int, $ts,*] $[$l]?)
theorem letters_s (z : Str) (S : Store) (hl : z.length ≤ 100000) : F_is_letters [.str z] S = .ok (.bl (z.cps.toList.all lcB), S) := by
  refine wp_eq2 ?_
  unfold F_is_letters m_is_letters
  simp! only [↓wp_lc, wipeD, ↓wp_srcS]
  refine wp_noEx (wp_lcS z lcB (by omega) (fun c hc => ?_) ?_)
  · simp_arith only [le_1 h32, le_2 h126]
    unfold lcB
    cases decide (32 ≤ c) <;> simp
  · simp_arith only [↓wp_all_l]
    first
      | (rw [List.all_map]; rfl)
      | exact congrArg D.bl (by rw [List.all_map]; rfl)
theorem word_s (z : Str) (S : Store) (hl : z.length ≤ 100000) : F_is_word [.str z] S = .ok (.bl (decide (1 ≤ (z.length : Int) ∧ (z.length : Int) ≤ 8) && z.cps.toList.all wcB), S) := by
  have hl2 : z.length ≤ sizeLine := by unfold sizeLine; omega
  refine wp_eq2 ?_
  unfold F_is_word m_is_word
  simp only [↓wp_body, ↓wini0, ↓winiS, ↓winiC]
  rw [ws_ret]
  by_cases h1 : 1 ≤ (z.length : Int) ∧ (z.length : Int) ≤ 8
  · rw [decide_eq_true h1, Bool.true_and]
    simp_arith only [hl2, h1.1, h1.2, ↓wp_lc, wipeD, ↓wp_srcS]
    refine wp_noEx (wp_lcS z wcB (by omega) (fun c hc => ?_) ?_)
    · simp_arith only [↓wp_in_s, sm_mem]
      first | done | exact ⟨rfl, rfl⟩
    · simp_arith only [↓wp_all_l]
      first
        | (rw [List.all_map]; rfl)
        | exact congrArg D.bl (by rw [List.all_map]; rfl)
  · rw [decide_eq_false h1, Bool.false_and]
    by_cases h2 : 1 ≤ (z.length : Int)
    · have h3 : ¬ (z.length : Int) ≤ 8 := fun z => h1 ⟨h2, z⟩
      simp_arith only [hl2, h2, h3]
    · simp_arith only [hl2, h2]
theorem due_s (z : Str) (n : Nat) (h : TxO n z) (hn : n ≤ 100000) (S : Store) : F__law_due [.str z] S = .ok (.lst [.bl false, .bl (z.cps.toList.all lcB), .bl (z.cps.toList.all wcB && decide (1 ≤ (z.length : Int) ∧ (z.length : Int) ≤ 8)), .bl false], S) := by
  have hl := h.1
  have hl2 : z.length ≤ sizeLine := by unfold sizeLine; omega
  have hsl : (signs z).length ≤ 16777216 := by
    unfold signs
    rw [List.length_map]
    show z.cps.toList.length ≤ _
    have : z.cps.toList.length = z.length := by rw [Array.length_toList]; rfl
    omega
  refine wp_eq2 ?_
  unfold F__law_due m__law_due
  simp only [↓wp_body, ↓wini0, ↓winiS, ↓winiC]
  refine seq_cut (fun δ S' => S' = S ∧ δ = [some (.str z), some (.bl false), none, none, none, none]) ?_ ?_
  · rw [ws_set]
    simp_arith only []
    first | done | exact ⟨rfl, rfl⟩
  rintro _ S ⟨rfl, rfl⟩
  refine seq_cut (fun δ S' => S' = S ∧ δ = [some (.str z), some (.bl false), some (.bl true), none, none, none]) ?_ ?_
  · rw [ws_set]
    simp_arith only []
    first | done | exact ⟨rfl, rfl⟩
  rintro _ S ⟨rfl, rfl⟩
  refine seq_cut (fun δ S' => S' = S ∧ δ = [some (.str z), some (.bl false), some (.bl true), some (.bl (z.cps.toList.all lcB)), none, none]) ?_ ?_
  · rw [ws_set]
    simp_arith only [↓wp_lc, wipeD, ↓wp_srcS]
    refine wp_noEx (wp_lcF (fun d => !lcB (sg d)) (fun d => d) (signs z) trivial hsl ?_ ?_)
    · intro d hd
      unfold signs at hd
      obtain ⟨c, hc, rfl⟩ := List.mem_map.mp hd
      have e : sg (.str ⟨#[c]⟩) = c := rfl
      rw [e]
      unfold lcB
      by_cases a1 : c < 32
      · have a2 : ¬ 32 ≤ c := by omega
        simp_arith only [lt_2 h32, gt_2 h126, a1, a2]
        simp
      · have a2 : 32 ≤ c := by omega
        by_cases a3 : 126 < c
        · have a4 : ¬ c ≤ 126 := by omega
          simp_arith only [lt_2 h32, gt_2 h126, a1, a2, a3, a4]
          simp
        · have a4 : c ≤ 126 := by omega
          simp_arith only [lt_2 h32, gt_2 h126, a1, a2, a3, a4]
          simp
    · rw [List.map_id']
      simp_arith only [wp_eqNil _ (sg_dat h _), sg_all]
      first | done | exact ⟨rfl, rfl⟩
  rintro _ S ⟨rfl, rfl⟩
  refine seq_cut (fun δ S' => S' = S ∧ δ = [some (.str z), some (.bl false), some (.bl true), some (.bl (z.cps.toList.all lcB)), some (.bl (z.cps.toList.all wcB && decide (1 ≤ (z.length : Int) ∧ (z.length : Int) ≤ 8))), none]) ?_ ?_
  · rw [ws_set]
    simp_arith only [↓wp_lc, wipeD, ↓wp_srcS]
    refine wp_noEx (wp_lcF (fun d => !wcB (sg d)) (fun d => d) (signs z) trivial hsl ?_ ?_)
    · intro d hd
      unfold signs at hd
      obtain ⟨c, hc, rfl⟩ := List.mem_map.mp hd
      have e : sg (.str ⟨#[c]⟩) = c := rfl
      rw [e]
      unfold wcB
      by_cases a1 : c < 97
      · have a2 : ¬ 97 ≤ c := by omega
        simp_arith only [lt_2 h97, gt_2 h122, a1, a2]
        simp
      · have a2 : 97 ≤ c := by omega
        by_cases a3 : 122 < c
        · have a4 : ¬ c ≤ 122 := by omega
          simp_arith only [lt_2 h97, gt_2 h122, a1, a2, a3, a4]
          simp
        · have a4 : c ≤ 122 := by omega
          simp_arith only [lt_2 h97, gt_2 h122, a1, a2, a3, a4]
          simp
    · rw [List.map_id']
      simp_arith only [wp_eqNil _ (sg_dat h _), sg_all]
      cases z.cps.toList.all wcB with
      | false => simp_arith only [Bool.false_and]; first | done | exact ⟨rfl, rfl⟩
      | true =>
        rw [Bool.true_and]
        by_cases h1 : 1 ≤ (z.length : Int)
        · by_cases h2 : (z.length : Int) ≤ 8
          · simp_arith only [hl2, h1, h2, and_self]
            first | done | omega | exact ⟨rfl, rfl⟩
          · simp_arith only [hl2, h1, h2, and_false, decide_false]
            first | done | omega | exact ⟨rfl, rfl⟩
        · simp_arith only [hl2, h1, false_and, decide_false]
          first | done | omega | exact ⟨rfl, rfl⟩
  rintro _ S ⟨rfl, rfl⟩
  rw [ws_ret]
  simp_arith only []
  first | done | exact ⟨rfl, rfl⟩
local macro_rules
  | `(tactic| simp! only [$ts,*] $[$l:location]?) => `(tactic| simp (config := { maxSteps := 2000000 }) only [↓wp_ok, ↓wp_exc, ↓wp_bad, ↓wp_var0, ↓wp_varN, ↓wp_varS, ↓wset0, ↓wsetS, ↓wini0, ↓winiS, ↓winiC, ↓wp_c, ↓wp_x1, ↓wp_x2, ↓wp_tB, ↓wp_tAnd, ↓wp_tOr, ↓wp_tNot, ↓wp_xAnd, ↓wp_xOr, ↓wp_xNot, ↓wp_xIf, ↓wp_nil, ↓wp_cons, ↓wp_tup, ↓wp_fz, ↓wp_cell, ↓wp_disp, ↓wp_yes, ↓wp_call, ↓wp_meth, ↓wp_B, ↓wp_BM, ↓wp_fld, ↓wp_sl, ↓wp_oN, ↓wp_oS, ↓wp_iter, ↓wp_rng1, ↓wp_rng2, ↓wp_src1, ↓wp_src2, ↓wp_chain, ↓wp_add_i, ↓wp_add_s, ↓wp_add_l, ↓wp_sub_i, ↓wp_mul, ↓wp_fdiv, ↓wp_mod, ↓wp_pow, ↓wp_neg, ↓wp_lt, ↓wp_le, ↓wp_gt, ↓wp_ge, ↓wp_eq_i, ↓wp_ne_i, ↓wp_eq_s, ↓wp_ne_s, ↓wp_isN_n, ↓wp_isN_i, ↓wp_isN_s, ↓wp_notN_n, ↓wp_notN_i, ↓wp_notN_s, ↓wp_isi_s, ↓wp_isi_i, ↓wp_isi_b, ↓wp_isi_n, ↓wp_len_s, ↓wp_int_i, ↓wp_int_b, ↓wp_max, ↓wp_min, ↓wp_abs, ↓wp_str, ↓wp_zfill, ↓wp_rev_l, ↓wp_ix_l, ↓wp_ix_t, ↓wp_ix_f, ↓wp_ix_s, ↓wp_len_f, ↓wp_len_l, ↓wp_len_t, ↓ws_ok, ↓ws_bad, ↓ws_nil, ↓ws_seq, ↓sq_set, ↓ws_expr, ↓ws_set, ↓ws_ret, ↓ws_retN, ↓ws_brk, ↓ws_cont, ↓ws_if, ↓ws_asg, ↓ws_aug, ↓ws_raise0, ↓ws_raise1, ↓wp_body, ↓wp_gNm, ↓wp_gNl, ↓wp_gCn, ↓ws_tryAs, ↓ws_tryO, ↓wp_all_l, ↓wp_any_l, ↓wp_sum_l, ↓wp_hex, ↓wp_dnew, ↓wp_ddisp, ↓wp_dg2, ↓fldAt0, ↓fldAtS, ↓wp_fldI, ↓wp_fldR, ↓wp_stR, ↓ws_fldD, ↓isIns_R, ↓isIns_I, ↓wp_make, ↓wp_frz, ↓wp_frzR, ↓wp_makeF, ↓wp_isiR, ↓wp_isi_l, ↓wp_isi_t, ↓wp_isi_o, ↓wp_isO_o, ↓wp_isO_i, ↓wp_isO_l, ↓wp_isO_t, ↓wp_isO_s, ↓wp_isO_b, ↓wp_isO_n, ↓wp_isN_b, ↓wp_isN_l, ↓wp_isN_t, ↓wp_isN_r, ↓wp_isN_o, ↓wp_notN_b, ↓wp_notN_l, ↓wp_notN_t, ↓wp_notN_r, ↓wp_notN_o, ↓wp_eq_b, ↓wp_ne_b, ↓wp_ixR, ↓wp_lenR, ↓wp_srcR, ↓wp_mlst, ↓wp_appR, ↓isLst_R, ↓wp_lsetW, ↓stLst_R, ↓wp_BN, ↓wp_nList_l, ↓wp_nList_t, ↓wp_nListR, ↓wp_enum, ↓wp_enum0, ↓wp_enumS, ↓wp_enmS, ↓wp_srcE_s, ↓wp_srcE_t, ↓wp_srcE_l, ↓wp_srcER, ↓wp_BK, ↓wp_gUlR, ↓wp_gU3, ↓wp_gU2, ↓wp_lenO, ↓wp_tuple_t, ↓wp_tuple_l, ↓wp_tupleR, ↓wp_intAdd, ↓wp_dgetS, ↓wp_dgetI, ↓ws_dset, ↓stKey_S, ↓stKey_I, ↓dval_c, ↓dputV_c, ↓dputV_n, ↓dputK_at, ↓memK_c, ↓isDct_R, ↓asDct_R, ↓keyD_I, ↓keyD_S, ↓asL_l, ↓asL_R, ↓wp_nSl, ↓wp_nRev, ↓wp_mulS, ↓wp_kw, ↓pick_n, ↓pick_c, ↓ws_par2, ↓ws_par3, ↓ws_asg2, ↓ws_asg3, ↓wp_gDs, ↓wp_gLs, ↓starSrc_t, ↓starSrc_l, ↓wp_gSt, ↓wp_nSortDR, ↓wp_dictCR, ↓wp_pop1, ↓wp_pop2, ↓popK_I, ↓wp_gFd, ↓ws_faug, ↓wp_dinI, ↓wp_dinS, ↓wp_nListDR, ↓wp_sumV, ↓wp_upper, ↓wp_index, ↓wp_part, ↓wp_split, ↓wp_find3, ↓wp_zip, ↓wp_srcZ_l, ↓wp_srcZ_t, ↓zipD_c, ↓zipD_n, ↓wp_nRng2, ↓wp_inP, ↓wp_nSt2, ↓wp_maxL, ↓wp_minL, ↓wp_exo, ↓wp_isiE_i, ↓wp_isiE_b, ↓wp_isiE_s, ↓wp_isiE_n, ↓wp_isiE_l, ↓wp_isiE_t, ↓wp_isiE_o, ↓wp_srcL, ↓wp_srcT, ↓wp_tg2, ↓wp_slice_l, List.length_cons, List.length_nil, List.cons_append, List.nil_append, List.append_nil, Nat.reduceAdd, Nat.reduceSub, Nat.zero_add, decide_eq_true_eq, Bool.not_eq_true', decide_eq_false_iff_not, Bool.true_eq, Bool.not_true, Bool.not_false, if_true, reduceIte, Bool.false_eq_true, true_and, and_true, Nat.succ_eq_add_one, sd_pow, sd_div, sd_mulR, sd_mulL, sd_mixR, sd_mixL, sd_mmL, sd_p3, sd_p6, sd_p9, sd_p10, sd_p11, sd_p12, sd_sz, sd_szl, Nat.reduceLeDiff, List.getElem?_cons_zero, List.getElem?_cons_succ, List.set_cons_zero, List.set_cons_succ, sd_at0, sd_at1, sd_at2, sd_at3, sd_at4, sd_atL, sd_ex, sd_ix0, sd_ix1, sd_ix2, sd_ix3, Int.reduceLT, Int.reduceEq, Int.reduceLE, Int.reduceNeg, Int.neg_lt_zero_iff, Int.reducePow, Int.reduceToNat, Nat.reduceLT, Int.reduceAdd, Int.reduceSub, Int.reduceMul, push_at, push_set, push_take, push_at2, push_set2, push_take2, List.getElem?_set_self, List.set_set, List.length_set, isBot, and_self, bots, List.map_cons, List.map_nil, wp_mix, F_mix, F_cell, ty_non_non, ty_non_bl, ty_non_int, ty_non_str, ty_non_lst, ty_non_tup, ty_non_dct, ty_bl_non, ty_bl_bl, ty_bl_int, ty_bl_str, ty_bl_lst, ty_bl_tup, ty_bl_dct, ty_int_non, ty_int_bl, ty_int_int, ty_int_str, ty_int_lst, ty_int_tup, ty_int_dct, ty_str_non, ty_str_bl, ty_str_int, ty_str_str, ty_str_lst, ty_str_tup, ty_str_dct, ty_lst_non, ty_lst_bl, ty_lst_int, ty_lst_str, ty_lst_lst, ty_lst_tup, ty_lst_dct, ty_tup_non, ty_tup_bl, ty_tup_int, ty_tup_str, ty_tup_lst, ty_tup_tup, ty_tup_dct, ty_dct_non, ty_dct_bl, ty_dct_int, ty_dct_str, ty_dct_lst, ty_dct_tup, ty_dct_dct, not_true_eq_false, not_false_eq_true, Int.lt_irrefl, Int.le_refl, decide_true, decide_false, List.any_cons, List.any_nil, Bool.or_false, Bool.false_or, Bool.and_true, Bool.true_and, Bool.and_false, Bool.false_and, false_and, and_false, Bool.or_true, Bool.true_or, reduceCtorEq, ite_self, Sum.inr.injEq, Sum.inl.injEq, Int.cast_ofNat_Int, $ts,*] $[$l]?)
theorem not_num {d : D} {S : Store} (h : F_is_whole [d] S = .ok (.bl false, S)) : F_is_number [d] S = .ok (.bl false, S) ∧ F_is_lane [d] S = .ok (.bl false, S) := by
  constructor
  · refine wp_eq2 ?_
    unfold F_is_number m_is_number
    simp! only [h]
  · refine wp_eq2 ?_
    unfold F_is_lane m_is_lane
    simp! only [h]
theorem whole_s (z : Str) (S : Store) : F_is_whole [.str z] S = .ok (.bl false, S) := by
  refine wp_eq2 ?_
  unfold F_is_whole m_is_whole
  simp! only []
theorem told_s (z : Str) (S : Store) (hl : z.length ≤ 100000) : F__law_told [.str z] S = .ok (.lst [.bl false, .bl (z.cps.toList.all lcB), .bl (z.cps.toList.all wcB && decide (1 ≤ (z.length : Int) ∧ (z.length : Int) ≤ 8)), .bl false], S) := by
  obtain ⟨e1, e4⟩ := not_num (whole_s z S)
  have e2 := letters_s z S hl
  have e3 := word_s z S hl
  rw [Bool.and_comm] at e3
  refine wp_eq2 ?_
  unfold F__law_told m__law_told
  simp! only [e1, e2, e3, e4]
  first | done | exact ⟨rfl, rfl⟩ | rfl
def nB (i : Int) : Bool := decide (0 ≤ i ∧ i ≤ 1000000000000)
def aB (i : Int) : Bool := decide (0 ≤ i ∧ i ≤ 39)
theorem told_i (i : Int) (S : Store) : F__law_told [.int i] S = .ok (.lst [.bl (nB i), .bl false, .bl false, .bl (aB i)], S) := by
  have ew : F_is_whole [.int i] S = .ok (.bl true, S) := by
    refine wp_eq2 ?_
    unfold F_is_whole m_is_whole
    simp! only []
  have e1 : F_is_number [.int i] S = .ok (.bl (nB i), S) := by
    refine wp_eq2 ?_
    unfold F_is_number m_is_number nB
    by_cases h : 0 ≤ i
    · by_cases h2 : i ≤ 1000000000000
      · simp! only [ew, h, h2, and_self]
      · simp! only [ew, h, h2, and_false]
    · simp! only [ew, h, false_and]
  have e4 : F_is_lane [.int i] S = .ok (.bl (aB i), S) := by
    refine wp_eq2 ?_
    unfold F_is_lane m_is_lane aB
    by_cases h : 0 ≤ i
    · by_cases h2 : i ≤ 39
      · have h3 : i < 40 := by omega
        simp! only [ew, h, h2, h3, and_self]
      · have h3 : ¬ i < 40 := by omega
        simp! only [ew, h, h2, h3, and_false]
    · simp! only [ew, h, false_and]
  have e2 : F_is_letters [.int i] S = .ok (.bl false, S) := by
    refine wp_eq2 ?_
    unfold F_is_letters m_is_letters
    simp! only []
  have e3 : F_is_word [.int i] S = .ok (.bl false, S) := by
    refine wp_eq2 ?_
    unfold F_is_word m_is_word
    simp! only []
  refine wp_eq2 ?_
  unfold F__law_told m__law_told
  simp! only [e1, e2, e3, e4]
  first | done | exact ⟨rfl, rfl⟩ | rfl
theorem due_i (i : Int) (S : Store) : F__law_due [.int i] S = .ok (.lst [.bl (nB i), .bl false, .bl false, .bl (aB i)], S) := by
  refine wp_eq2 ?_
  unfold F__law_due m__law_due nB aB
  by_cases h : 0 ≤ i
  · by_cases h2 : i ≤ 39
    · have h3 : i ≤ 1000000000000 := by omega
      simp! only [h, h2, h3, and_self]
      first | done | exact ⟨rfl, rfl⟩ | rfl
    · by_cases h3 : i ≤ 1000000000000
      · simp! only [h, h2, h3, and_self, and_false]
        first | done | exact ⟨rfl, rfl⟩ | rfl
      · simp! only [h, h2, h3, and_false]
        first | done | exact ⟨rfl, rfl⟩ | rfl
  · simp! only [h, false_and]
    first | done | exact ⟨rfl, rfl⟩ | rfl
/-- any other thing -/
def Oth (S : Store) (d : D) : Prop := (∃ b, d = .bl b) ∨ d = .non ∨ (∃ ds, d = .lst ds) ∨ (∃ ds, d = .tup ds) ∨ (∃ c ns ds, d = .ins c ns ds) ∨ (∃ n ks ds, d = .ref n ∧ S[n]? = some (some (.dct ks ds))) ∨ (∃ n, d = .ref n ∧ S[n]? = some (some (.exo "BadShort")))
abbrev ffff : List D := [.bl false, .bl false, .bl false, .bl false]
theorem oth_told {d : D} {S : Store} (h : Oth S d) : F__law_told [d] S = .ok (.lst ffff, S) ∧ F__law_due [d] S = .ok (.lst ffff, S) := by
  have fin : F_is_whole [d] S = .ok (.bl false, S) → F_is_letters [d] S = .ok (.bl false, S) → F_is_word [d] S = .ok (.bl false, S) → F__law_told [d] S = .ok (.lst ffff, S) := fun e0 e2 e3 => by
    obtain ⟨e1, e4⟩ := not_num e0
    refine wp_eq2 ?_
    unfold F__law_told m__law_told
    simp! only [e1, e2, e3, e4]
    first | done | exact ⟨rfl, rfl⟩ | rfl
  rcases h with ⟨b, rfl⟩ | rfl | ⟨ds, rfl⟩ | ⟨ds, rfl⟩ | ⟨c, ns, ds, rfl⟩ | ⟨n, ks, ds, rfl, hn⟩ | ⟨n, rfl, hn⟩
  · refine ⟨fin ?_ ?_ ?_, ?_⟩
    · refine wp_eq2 ?_
      unfold F_is_whole m_is_whole
      simp! only []
    · refine wp_eq2 ?_
      unfold F_is_letters m_is_letters
      simp! only []
    · refine wp_eq2 ?_
      unfold F_is_word m_is_word
      simp! only []
    · refine wp_eq2 ?_
      unfold F__law_due m__law_due
      simp! only []
      first | done | exact ⟨rfl, rfl⟩ | rfl
  · refine ⟨fin ?_ ?_ ?_, ?_⟩
    · refine wp_eq2 ?_
      unfold F_is_whole m_is_whole
      simp! only []
    · refine wp_eq2 ?_
      unfold F_is_letters m_is_letters
      simp! only []
    · refine wp_eq2 ?_
      unfold F_is_word m_is_word
      simp! only []
    · refine wp_eq2 ?_
      unfold F__law_due m__law_due
      simp! only []
      first | done | exact ⟨rfl, rfl⟩ | rfl
  · refine ⟨fin ?_ ?_ ?_, ?_⟩
    · refine wp_eq2 ?_
      unfold F_is_whole m_is_whole
      simp! only []
    · refine wp_eq2 ?_
      unfold F_is_letters m_is_letters
      simp! only []
    · refine wp_eq2 ?_
      unfold F_is_word m_is_word
      simp! only []
    · refine wp_eq2 ?_
      unfold F__law_due m__law_due
      simp! only []
      first | done | exact ⟨rfl, rfl⟩ | rfl
  · refine ⟨fin ?_ ?_ ?_, ?_⟩
    · refine wp_eq2 ?_
      unfold F_is_whole m_is_whole
      simp! only []
    · refine wp_eq2 ?_
      unfold F_is_letters m_is_letters
      simp! only []
    · refine wp_eq2 ?_
      unfold F_is_word m_is_word
      simp! only []
    · refine wp_eq2 ?_
      unfold F__law_due m__law_due
      simp! only []
      first | done | exact ⟨rfl, rfl⟩ | rfl
  · refine ⟨fin ?_ ?_ ?_, ?_⟩
    · refine wp_eq2 ?_
      unfold F_is_whole m_is_whole
      simp! only []
    · refine wp_eq2 ?_
      unfold F_is_letters m_is_letters
      simp! only []
    · refine wp_eq2 ?_
      unfold F_is_word m_is_word
      simp! only []
    · refine wp_eq2 ?_
      unfold F__law_due m__law_due
      simp! only []
      first | done | exact ⟨rfl, rfl⟩ | rfl
  · have hx := exoOf_d hn
    have i1 : ∀ {l : List (Str × Bool)} {T : Ty} {QD : D → Store → Prop} {E : XQ}, wp (dIsiE l T (.ref n) S) QD E = wp (dIsi T (.ref n) S) QD E := wp_isiE_no hx
    refine ⟨fin ?_ ?_ ?_, ?_⟩
    · refine wp_eq2 ?_
      unfold F_is_whole m_is_whole
      simp! only [i1, hn]
    · refine wp_eq2 ?_
      unfold F_is_letters m_is_letters
      simp! only [i1, hn]
    · refine wp_eq2 ?_
      unfold F_is_word m_is_word
      simp! only [i1, hn]
    · refine wp_eq2 ?_
      unfold F__law_due m__law_due
      simp! only [i1, hn]
      first | done | exact ⟨rfl, rfl⟩ | rfl
  · have hx := exoOf_R hn
    have i1 : ∀ {T : Ty} {QD : D → Store → Prop} {E : XQ}, wp (dIsiE [("LaneError", false), ("BadRange", false), ("BadShort", false)] T (.ref n) S) QD E = QD (.bl false) S := wp_isiE_x hx (by decide +kernel)
    refine ⟨fin ?_ ?_ ?_, ?_⟩
    · refine wp_eq2 ?_
      unfold F_is_whole m_is_whole
      simp! only [i1]
    · refine wp_eq2 ?_
      unfold F_is_letters m_is_letters
      simp! only [i1]
    · refine wp_eq2 ?_
      unfold F_is_word m_is_word
      simp! only [i1]
    · refine wp_eq2 ?_
      unfold F__law_due m__law_due
      simp! only [i1]
      first | done | exact ⟨rfl, rfl⟩ | rfl
abbrev sgA : Str := " !\"#$&'()*+,-./0123456789:;<=>?@ABCDEFGHIJKLMNOPQRSTUVWXYZ[\\]^_`abcdefghijklmnopqrstuvwxyz{|}~"
abbrev sgB : Str := "abcdefghijklmnopqrstuvwxyz"
def Alf (z : Str) : Prop := (∀ x ∈ z.cps.toList, x ≤ 1000) ∧ 0 < z.cps.toList.length ∧ z.cps.toList.length ≤ 100
theorem alfA : Alf sgA := ⟨by decide +kernel, by decide +kernel, by decide +kernel⟩
theorem alfB : Alf sgB := ⟨by decide +kernel, by decide +kernel, by decide +kernel⟩
theorem TxO.up {n m : Nat} {z : Str} (h : TxO n z) (q : n ≤ m) : TxO m z := ⟨Nat.le_trans h.1 q, h.2⟩
local macro_rules
  | `(tactic| simp! only [$ts,*] $[$l:location]?) => `(tactic| simp (config := { maxSteps := 2000000 }) only [↓wp_ok, ↓wp_exc, ↓wp_bad, ↓wp_var0, ↓wp_varN, ↓wp_varS, ↓wset0, ↓wsetS, ↓wini0, ↓winiS, ↓winiC, ↓wp_c, ↓wp_x1, ↓wp_x2, ↓wp_tB, ↓wp_tAnd, ↓wp_tOr, ↓wp_tNot, ↓wp_xAnd, ↓wp_xOr, ↓wp_xNot, ↓wp_xIf, ↓wp_nil, ↓wp_cons, ↓wp_tup, ↓wp_fz, ↓wp_cell, ↓wp_disp, ↓wp_yes, ↓wp_call, ↓wp_meth, ↓wp_B, ↓wp_BM, ↓wp_fld, ↓wp_sl, ↓wp_oN, ↓wp_oS, ↓wp_iter, ↓wp_rng1, ↓wp_rng2, ↓wp_src1, ↓wp_src2, ↓wp_chain, ↓wp_add_i, ↓wp_add_s, ↓wp_add_l, ↓wp_sub_i, ↓wp_mul, ↓wp_fdiv, ↓wp_mod, ↓wp_pow, ↓wp_neg, ↓wp_lt, ↓wp_le, ↓wp_gt, ↓wp_ge, ↓wp_eq_i, ↓wp_ne_i, ↓wp_eq_s, ↓wp_ne_s, ↓wp_isN_n, ↓wp_isN_i, ↓wp_isN_s, ↓wp_notN_n, ↓wp_notN_i, ↓wp_notN_s, ↓wp_isi_s, ↓wp_isi_i, ↓wp_isi_b, ↓wp_isi_n, ↓wp_len_s, ↓wp_int_i, ↓wp_int_b, ↓wp_max, ↓wp_min, ↓wp_abs, ↓wp_str, ↓wp_zfill, ↓wp_rev_l, ↓wp_ix_l, ↓wp_ix_t, ↓wp_ix_f, ↓wp_ix_s, ↓wp_len_f, ↓wp_len_l, ↓wp_len_t, ↓ws_ok, ↓ws_bad, ↓ws_nil, ↓ws_seq, ↓sq_set, ↓ws_expr, ↓ws_set, ↓ws_ret, ↓ws_retN, ↓ws_brk, ↓ws_cont, ↓ws_if, ↓ws_asg, ↓ws_aug, ↓ws_raise0, ↓ws_raise1, ↓wp_body, ↓wp_gNm, ↓wp_gNl, ↓wp_gCn, ↓ws_tryAs, ↓ws_tryO, ↓wp_all_l, ↓wp_any_l, ↓wp_sum_l, ↓wp_hex, ↓wp_dnew, ↓wp_ddisp, ↓wp_dg2, ↓fldAt0, ↓fldAtS, ↓wp_fldI, ↓wp_fldR, ↓wp_stR, ↓ws_fldD, ↓isIns_R, ↓isIns_I, ↓wp_make, ↓wp_frz, ↓wp_frzR, ↓wp_makeF, ↓wp_isiR, ↓wp_isi_l, ↓wp_isi_t, ↓wp_isi_o, ↓wp_isO_o, ↓wp_isO_i, ↓wp_isO_l, ↓wp_isO_t, ↓wp_isO_s, ↓wp_isO_b, ↓wp_isO_n, ↓wp_isN_b, ↓wp_isN_l, ↓wp_isN_t, ↓wp_isN_r, ↓wp_isN_o, ↓wp_notN_b, ↓wp_notN_l, ↓wp_notN_t, ↓wp_notN_r, ↓wp_notN_o, ↓wp_eq_b, ↓wp_ne_b, ↓wp_ixR, ↓wp_lenR, ↓wp_srcR, ↓wp_mlst, ↓wp_appR, ↓isLst_R, ↓wp_lsetW, ↓stLst_R, ↓wp_BN, ↓wp_nList_l, ↓wp_nList_t, ↓wp_nListR, ↓wp_enum, ↓wp_enum0, ↓wp_enumS, ↓wp_enmS, ↓wp_srcE_s, ↓wp_srcE_t, ↓wp_srcE_l, ↓wp_srcER, ↓wp_BK, ↓wp_gUlR, ↓wp_gU3, ↓wp_gU2, ↓wp_lenO, ↓wp_tuple_t, ↓wp_tuple_l, ↓wp_tupleR, ↓wp_intAdd, ↓wp_dgetS, ↓wp_dgetI, ↓ws_dset, ↓stKey_S, ↓stKey_I, ↓dval_c, ↓dputV_c, ↓dputV_n, ↓dputK_at, ↓memK_c, ↓isDct_R, ↓asDct_R, ↓keyD_I, ↓keyD_S, ↓asL_l, ↓asL_R, ↓wp_nSl, ↓wp_nRev, ↓wp_mulS, ↓wp_kw, ↓pick_n, ↓pick_c, ↓ws_par2, ↓ws_par3, ↓ws_asg2, ↓ws_asg3, ↓wp_gDs, ↓wp_gLs, ↓starSrc_t, ↓starSrc_l, ↓wp_gSt, ↓wp_nSortDR, ↓wp_dictCR, ↓wp_pop1, ↓wp_pop2, ↓popK_I, ↓wp_gFd, ↓ws_faug, ↓wp_dinI, ↓wp_dinS, ↓wp_nListDR, ↓wp_sumV, ↓wp_upper, ↓wp_index, ↓wp_part, ↓wp_split, ↓wp_find3, ↓wp_zip, ↓wp_srcZ_l, ↓wp_srcZ_t, ↓zipD_c, ↓zipD_n, ↓wp_nRng2, ↓wp_inP, ↓wp_nSt2, ↓wp_maxL, ↓wp_minL, ↓wp_exo, ↓wp_isiE_i, ↓wp_isiE_b, ↓wp_isiE_s, ↓wp_isiE_n, ↓wp_isiE_l, ↓wp_isiE_t, ↓wp_isiE_o, ↓wp_srcL, ↓wp_srcT, ↓wp_tg2, ↓wp_slice_l, List.length_cons, List.length_nil, List.cons_append, List.nil_append, List.append_nil, Nat.reduceAdd, Nat.reduceSub, Nat.zero_add, decide_eq_true_eq, Bool.not_eq_true', decide_eq_false_iff_not, Bool.true_eq, Bool.not_true, Bool.not_false, if_true, reduceIte, Bool.false_eq_true, true_and, and_true, Nat.succ_eq_add_one, sd_pow, sd_div, sd_mulR, sd_mulL, sd_mixR, sd_mixL, sd_mmL, sd_p3, sd_p6, sd_p9, sd_p10, sd_p11, sd_p12, sd_sz, sd_szl, Nat.reduceLeDiff, List.getElem?_cons_zero, List.getElem?_cons_succ, List.set_cons_zero, List.set_cons_succ, sd_at0, sd_at1, sd_at2, sd_at3, sd_at4, sd_atL, sd_ex, sd_ix0, sd_ix1, sd_ix2, sd_ix3, Int.reduceLT, Int.reduceEq, Int.reduceLE, Int.reduceNeg, Int.neg_lt_zero_iff, Int.reducePow, Int.reduceToNat, Nat.reduceLT, Int.reduceAdd, Int.reduceSub, Int.reduceMul, push_at, push_set, push_take, push_at2, push_set2, push_take2, List.getElem?_set_self, List.set_set, List.length_set, isBot, and_self, bots, List.map_cons, List.map_nil, wp_mix, F_mix, F_cell, ty_non_non, ty_non_bl, ty_non_int, ty_non_str, ty_non_lst, ty_non_tup, ty_non_dct, ty_bl_non, ty_bl_bl, ty_bl_int, ty_bl_str, ty_bl_lst, ty_bl_tup, ty_bl_dct, ty_int_non, ty_int_bl, ty_int_int, ty_int_str, ty_int_lst, ty_int_tup, ty_int_dct, ty_str_non, ty_str_bl, ty_str_int, ty_str_str, ty_str_lst, ty_str_tup, ty_str_dct, ty_lst_non, ty_lst_bl, ty_lst_int, ty_lst_str, ty_lst_lst, ty_lst_tup, ty_lst_dct, ty_tup_non, ty_tup_bl, ty_tup_int, ty_tup_str, ty_tup_lst, ty_tup_tup, ty_tup_dct, ty_dct_non, ty_dct_bl, ty_dct_int, ty_dct_str, ty_dct_lst, ty_dct_tup, ty_dct_dct, not_true_eq_false, not_false_eq_true, Int.lt_irrefl, Int.le_refl, decide_true, decide_false, List.any_cons, List.any_nil, Bool.or_false, Bool.false_or, Bool.and_true, Bool.true_and, Bool.and_false, Bool.false_and, false_and, and_false, Bool.or_true, Bool.true_or, reduceCtorEq, ite_self, Sum.inr.injEq, Sum.inl.injEq, Int.cast_ofNat_Int, $ts,*] $[$l]?)
local macro_rules
  | `(tactic| simp_arith only [$ts,*] $[$l:location]?) => `(tactic| simp (config := { maxSteps := 2000000 }) only [↓wp_ok, ↓wp_exc, ↓wp_bad, ↓wp_var0, ↓wp_varN, ↓wp_varS, ↓wset0, ↓wsetS, ↓wini0, ↓winiS, ↓winiC, ↓wp_c, ↓wp_x1, ↓wp_x2, ↓wp_tB, ↓wp_tAnd, ↓wp_tOr, ↓wp_tNot, ↓wp_xAnd, ↓wp_xOr, ↓wp_xNot, ↓wp_xIf, ↓wp_nil, ↓wp_cons, ↓wp_tup, ↓wp_fz, ↓wp_cell, ↓wp_disp, ↓wp_yes, ↓wp_call, ↓wp_meth, ↓wp_B, ↓wp_BM, ↓wp_fld, ↓wp_sl, ↓wp_oN, ↓wp_oS, ↓wp_iter, ↓wp_rng1, ↓wp_rng2, ↓wp_src1, ↓wp_src2, ↓wp_chain, ↓wp_add_i, ↓wp_add_s, ↓wp_add_l, ↓wp_sub_i, ↓wp_mul, ↓wp_fdiv, ↓wp_mod, ↓wp_pow, ↓wp_neg, ↓wp_lt, ↓wp_le, ↓wp_gt, ↓wp_ge, ↓wp_eq_i, ↓wp_ne_i, ↓wp_eq_s, ↓wp_ne_s, ↓wp_isN_n, ↓wp_isN_i, ↓wp_isN_s, ↓wp_notN_n, ↓wp_notN_i, ↓wp_notN_s, ↓wp_isi_s, ↓wp_isi_i, ↓wp_isi_b, ↓wp_isi_n, ↓wp_len_s, ↓wp_int_i, ↓wp_int_b, ↓wp_max, ↓wp_min, ↓wp_abs, ↓wp_str, ↓wp_zfill, ↓wp_rev_l, ↓wp_ix_l, ↓wp_ix_t, ↓wp_ix_f, ↓wp_ix_s, ↓wp_len_f, ↓wp_len_l, ↓wp_len_t, ↓sq_set, ↓wp_body, ↓wp_gNm, ↓wp_gNl, ↓wp_gCn, ↓wp_all_l, ↓wp_any_l, ↓wp_sum_l, ↓wp_hex, ↓wp_dnew, ↓wp_ddisp, ↓wp_dg2, ↓fldAt0, ↓fldAtS, ↓wp_fldI, ↓wp_fldR, ↓wp_stR, ↓isIns_R, ↓isIns_I, ↓wp_make, ↓wp_frz, ↓wp_frzR, ↓wp_makeF, ↓wp_isiR, ↓wp_isi_l, ↓wp_isi_t, ↓wp_isi_o, ↓wp_isO_o, ↓wp_isO_i, ↓wp_isO_l, ↓wp_isO_t, ↓wp_isO_s, ↓wp_isO_b, ↓wp_isO_n, ↓wp_isN_b, ↓wp_isN_l, ↓wp_isN_t, ↓wp_isN_r, ↓wp_isN_o, ↓wp_notN_b, ↓wp_notN_l, ↓wp_notN_t, ↓wp_notN_r, ↓wp_notN_o, ↓wp_eq_b, ↓wp_ne_b, ↓wp_ixR, ↓wp_lenR, ↓wp_srcR, ↓wp_mlst, ↓wp_appR, ↓isLst_R, ↓wp_lsetW, ↓stLst_R, ↓wp_BN, ↓wp_nList_l, ↓wp_nList_t, ↓wp_nListR, ↓wp_enum, ↓wp_enum0, ↓wp_enumS, ↓wp_enmS, ↓wp_srcE_s, ↓wp_srcE_t, ↓wp_srcE_l, ↓wp_srcER, ↓wp_BK, ↓wp_gUlR, ↓wp_gU3, ↓wp_gU2, ↓wp_lenO, ↓wp_tuple_t, ↓wp_tuple_l, ↓wp_tupleR, ↓wp_intAdd, ↓wp_dgetS, ↓wp_dgetI, ↓stKey_S, ↓stKey_I, ↓dval_c, ↓dputV_c, ↓dputV_n, ↓dputK_at, ↓memK_c, ↓isDct_R, ↓asDct_R, ↓keyD_I, ↓keyD_S, ↓asL_l, ↓asL_R, ↓wp_nSl, ↓wp_nRev, ↓wp_mulS, ↓wp_kw, ↓pick_n, ↓pick_c, ↓wp_gDs, ↓wp_gLs, ↓starSrc_t, ↓starSrc_l, ↓wp_gSt, ↓wp_nSortDR, ↓wp_dictCR, ↓wp_pop1, ↓wp_pop2, ↓popK_I, ↓wp_gFd, ↓wp_dinI, ↓wp_dinS, ↓wp_nListDR, ↓wp_sumV, ↓wp_upper, ↓wp_index, ↓wp_part, ↓wp_split, ↓wp_find3, ↓wp_zip, ↓wp_srcZ_l, ↓wp_srcZ_t, ↓zipD_c, ↓zipD_n, ↓wp_nRng2, ↓wp_inP, ↓wp_nSt2, ↓wp_maxL, ↓wp_minL, ↓wp_exo, ↓wp_isiE_i, ↓wp_isiE_b, ↓wp_isiE_s, ↓wp_isiE_n, ↓wp_isiE_l, ↓wp_isiE_t, ↓wp_isiE_o, ↓wp_srcL, ↓wp_srcT, ↓wp_tg2, ↓wp_slice_l, List.length_cons, List.length_nil, List.cons_append, List.nil_append, List.append_nil, Nat.reduceAdd, Nat.reduceSub, Nat.zero_add, decide_eq_true_eq, Bool.not_eq_true', decide_eq_false_iff_not, Bool.true_eq, Bool.not_true, Bool.not_false, if_true, reduceIte, Bool.false_eq_true, true_and, and_true, Nat.succ_eq_add_one, sd_pow, sd_div, sd_mulR, sd_mulL, sd_mixR, sd_mixL, sd_mmL, sd_p3, sd_p6, sd_p9, sd_p10, sd_p11, sd_p12, sd_sz, sd_szl, Nat.reduceLeDiff, List.getElem?_cons_zero, List.getElem?_cons_succ, List.set_cons_zero, List.set_cons_succ, sd_at0, sd_at1, sd_at2, sd_at3, sd_at4, sd_atL, sd_ex, sd_ix0, sd_ix1, sd_ix2, sd_ix3, Int.reduceLT, Int.reduceEq, Int.reduceLE, Int.reduceNeg, Int.neg_lt_zero_iff, Int.reducePow, Int.reduceToNat, Nat.reduceLT, Int.reduceAdd, Int.reduceSub, Int.reduceMul, push_at, push_set, push_take, push_at2, push_set2, push_take2, List.getElem?_set_self, List.set_set, List.length_set, isBot, and_self, bots, List.map_cons, List.map_nil, wp_mix, F_mix, F_cell, ty_non_non, ty_non_bl, ty_non_int, ty_non_str, ty_non_lst, ty_non_tup, ty_non_dct, ty_bl_non, ty_bl_bl, ty_bl_int, ty_bl_str, ty_bl_lst, ty_bl_tup, ty_bl_dct, ty_int_non, ty_int_bl, ty_int_int, ty_int_str, ty_int_lst, ty_int_tup, ty_int_dct, ty_str_non, ty_str_bl, ty_str_int, ty_str_str, ty_str_lst, ty_str_tup, ty_str_dct, ty_lst_non, ty_lst_bl, ty_lst_int, ty_lst_str, ty_lst_lst, ty_lst_tup, ty_lst_dct, ty_tup_non, ty_tup_bl, ty_tup_int, ty_tup_str, ty_tup_lst, ty_tup_tup, ty_tup_dct, ty_dct_non, ty_dct_bl, ty_dct_int, ty_dct_str, ty_dct_lst, ty_dct_tup, ty_dct_dct, not_true_eq_false, not_false_eq_true, Int.lt_irrefl, Int.le_refl, decide_true, decide_false, List.any_cons, List.any_nil, Bool.or_false, Bool.false_or, Bool.and_true, Bool.true_and, Bool.and_false, Bool.false_and, false_and, and_false, Bool.or_true, Bool.true_or, reduceCtorEq, ite_self, Sum.inr.injEq, Sum.inl.injEq, Int.cast_ofNat_Int, $ts,*] $[$l]?)
theorem text_wp (c many : Int) (small : Bool) (S : Store) (h0 : 0 ≤ many) (h1 : many ≤ 20) : wp (F__law_text [.int c, .int many, .bl small] S) (fun d S' => S' = S ∧ ∃ z, d = .str z ∧ TxO 20 z) NX := by
  unfold F__law_text m__law_text
  simp only [↓wp_body, ↓wini0, ↓winiS, ↓winiC]
  refine seq_cut (fun δ S' => S' = S ∧ δ = [some (.int c), some (.int many), some (.bl small), some (.str sgA), none]) ?_ ?_
  · rw [ws_set]
    simp_arith only []
    first | done | exact ⟨rfl, rfl⟩
  rintro _ S ⟨rfl, rfl⟩
  refine seq_cut (fun δ S' => S' = S ∧ ∃ A, Alf A ∧ δ = [some (.int c), some (.int many), some (.bl small), some (.str A), none]) ?_ ?_
  · rw [ws_if]
    cases small with
    | true =>
      simp_arith only [-sq_set]
      rw [ws_set]
      simp_arith only []
      exact ⟨sgB, alfB, rfl⟩
    | false =>
      simp_arith only []
      rw [ws_nil]
      exact ⟨rfl, sgA, alfA, rfl⟩
  rintro _ S ⟨rfl, A, hA, rfl⟩
  have hAl : A.length ≤ sizeLine := by
    have := hA.2.2
    show A.cps.toList.length ≤ 16777216
    omega
  have hAe : (A.length : Int) = (A.cps.toList.length : Nat) := rfl
  have hA0 : (0 : Int) < (A.length : Int) := by
    rw [hAe]
    have := hA.2.1
    omega
  rw [ws_ret]
  simp_arith only [↓wp_lc, wipeD]
  refine ⟨rfl, ⟨by omega, by omega⟩, wp_noEx (wp_lcR (fun _ d => ∃ c, d = D.str (one c) ∧ c ≤ 1000) ?_ ?_ ?_)⟩
  · omega
  · intro j j0 j1
    have m := mixI_lo c (10 + j)
    obtain ⟨x, ex, hx⟩ := ixPn (xs := A.cps.toList) (i := mixI c (10 + j) % (A.length : Int)) (fun x => x ≤ 1000) hA.1 (Int.emod_nonneg _ (by omega)) (by rw [← hAe]; exact Int.emod_lt_of_pos _ hA0)
    simp! only [mix_eq, hAl, hA0]
    exact ⟨x, ex, x, rfl, hx⟩
  intro ys hl hy
  obtain ⟨cs, rfl, hcs⟩ := all_ones fun j y h => hy j y h
  rw [List.length_map] at hl
  rw [wp_join_one cs (by omega)]
  have hj := join_one cs
  generalize Txt.join ("" : Str) (cs.map one) = w at hj
  exact ⟨rfl, w, rfl, by show w.cps.toList.length ≤ 20; rw [hj]; omega, by rw [hj]; exact hcs⟩
theorem spoilt_wp (c : Int) (z : Str) (n : Nat) (h : TxO n z) (hn : n ≤ 1000) (S : Store) : wp (F__law_spoilt [.int c, .str z] S) (fun d S' => S' = S ∧ ∃ w, d = .str w ∧ TxO 3000 w) NX := by
  have hl := h.1
  have hzl : z.length ≤ sizeLine := by unfold sizeLine; omega
  have m3 := mixI_lo c 3
  have m4 := mixI_lo c 4
  have hp : (0 : Int) < (z.length : Int) + 1 := by omega
  have q0 := Int.emod_nonneg (mixI c 3) (show (z.length : Int) + 1 ≠ 0 by omega)
  have q1 := Int.emod_lt_of_pos (mixI c 3) hp
  unfold F__law_spoilt m__law_spoilt
  simp only [↓wp_body, ↓wini0, ↓winiS, ↓winiC]
  refine seq_cut (fun δ S' => S' = S ∧ ∃ k : Nat, k ≤ z.length ∧ δ = [some (.int c), some (.str z), some (.int k), none]) ?_ ?_
  · rw [ws_set]
    simp_arith only [mix_eq, hzl, hp]
    exact ⟨(mixI c 3 % ((z.length : Int) + 1)).toNat, by omega, by rw [show (((mixI c 3 % ((z.length : Int) + 1)).toNat : Nat) : Int) = mixI c 3 % ((z.length : Int) + 1) by omega]⟩
  rintro _ S ⟨rfl, k, hk, rfl⟩
  refine seq_cut (fun δ S' => S' = S ∧ ∃ x, x ≤ 1000 ∧ δ = [some (.int c), some (.str z), some (.int k), some (.str ⟨#[x]⟩)]) ?_ ?_
  · rw [ws_set]
    obtain ⟨x, ex, hx⟩ := ixPn (xs := ("\n\t A7-z~{" : Str).cps.toList) (i := mixI c 4 % 9) (fun x => x ≤ 1000) (by decide +kernel) (by omega) (by
      have : ("\n\t A7-z~{" : Str).cps.toList.length = 9 := by decide +kernel
      omega)
    simp_arith only [mix_eq]
    exact ⟨by decide +kernel, x, ex, x, hx, rfl⟩
  rintro _ S ⟨rfl, x, hx, rfl⟩
  have a1 := cutS_to z k
  have a2 := cutS_from z k
  have l1 : (cutS z none (some (k : Int))).length ≤ n := by
    show (cutS z none (some (k : Int))).cps.toList.length ≤ n
    rw [a1, List.length_take]
    have : z.cps.toList.length ≤ n := hl
    omega
  have l2 : (cutS z (some (k : Int)) none).length ≤ n := by
    show (cutS z (some (k : Int)) none).cps.toList.length ≤ n
    rw [a2, List.length_drop]
    have : z.cps.toList.length ≤ n := hl
    omega
  have c1 : ∀ y ∈ (cutS z none (some (k : Int))).cps.toList, y ≤ 1000 := fun y hy => h.2 y (by rw [a1] at hy; exact List.mem_of_mem_take hy)
  have c2 : ∀ y ∈ (cutS z (some (k : Int)) none).cps.toList, y ≤ 1000 := fun y hy => h.2 y (by rw [a2] at hy; exact List.mem_of_mem_drop hy)
  rw [ws_ret]
  simp_arith only [wp_sliceS, hzl]
  generalize cutS z none (some (k : Int)) = w1 at *
  generalize cutS z (some (k : Int)) none = w2 at *
  have o1 : (⟨#[x]⟩ : Str).length = 1 := rfl
  have o2 := app_len w1 (⟨#[x]⟩ : Str)
  have b1 : w1.length + (⟨#[x]⟩ : Str).length ≤ sizeLine := by unfold sizeLine; omega
  have b2 : (w1 ++ (⟨#[x]⟩ : Str)).length + w2.length ≤ sizeLine := by unfold sizeLine; omega
  refine ⟨b1, b2, _, rfl, ?_, fun y hy => ?_⟩
  · rw [app_len, app_len, o1]
    omega
  · rw [app_list, app_list] at hy
    rcases List.mem_append.mp hy with hy | hy
    · rcases List.mem_append.mp hy with hy | hy
      · exact c1 y hy
      · have hy : y ∈ [x] := hy
        rw [List.mem_singleton] at hy
        omega
    · exact c2 y hy
theorem mk_eq (d : D) (rs : Rw) (S : Store) (hd : Src3 d rs S) (hr : InN rs) (hl : rs.length ≤ 1000000) : F_Ranges___init__ [.ref S.length, d] (S ++ [some (.ins "Ranges" ["spans"] [.bot])]) = .ok (.non, S ++ [rgO (mergeP rs)]) := by
  have hd' : Src3 d rs (S ++ [some (.ins "Ranges" ["spans"] [.bot])]) := by
    rcases hd with e | e | ⟨n, e, hn⟩
    · exact .inl e
    · exact .inr (.inl e)
    · exact .inr (.inr ⟨n, e, by rw [List.getElem?_append_left (List.getElem?_eq_some_iff.mp hn).1]; exact hn⟩)
  rw [rini_eq S.length d rs _ (push_at S _) hd' hr hl, push_set]
theorem merge_one {p : Int × Int} (h : p.1 ≤ p.2) : mergeP [p] = [p] := mergeP_canon ⟨fun q hq => by rw [List.mem_singleton] at hq; rw [hq]; exact h, List.pairwise_singleton ..⟩
def OkT (S : Store) (d : D) : Prop := (∃ i, d = .int i) ∨ (∃ z, d = .str z ∧ TxO 100000 z) ∨ Oth S d
theorem OkT.app {S J : Store} {d : D} (h : OkT S d) : OkT (S ++ J) d := by
  rcases h with h | h | h
  · exact .inl h
  · exact .inr (.inl h)
  · refine .inr (.inr ?_)
    rcases h with h | h | h | h | h | ⟨n, ks, ds, e, h⟩ | ⟨n, e, h⟩
    · exact .inl h
    · exact .inr (.inl h)
    · exact .inr (.inr (.inl h))
    · exact .inr (.inr (.inr (.inl h)))
    · exact .inr (.inr (.inr (.inr (.inl h))))
    · exact .inr (.inr (.inr (.inr (.inr (.inl ⟨n, ks, ds, e, by rw [List.getElem?_append_left (List.getElem?_eq_some_iff.mp h).1]; exact h⟩)))))
    · exact .inr (.inr (.inr (.inr (.inr (.inr ⟨n, e, by rw [List.getElem?_append_left (List.getElem?_eq_some_iff.mp h).1]; exact h⟩)))))
theorem times_ix (d : Int) (h0 : 0 ≤ d) : ∃ t, atI [D.int 1, .int 1, .int 1, .int (1 + d / 13 % 30)] (d / 400 % 4) = some (.int t) ∧ 1 ≤ t ∧ t ≤ 30 := by
  obtain ⟨x, e, t, rfl, ht⟩ := ixP (i := d / 400 % 4) (xs := [D.int 1, .int 1, .int 1, .int (1 + d / 13 % 30)]) (fun x => ∃ t, x = .int t ∧ 1 ≤ t ∧ t ≤ 30) (by
    simp only [List.forall_mem_cons]
    exact ⟨⟨_, rfl, by omega, by omega⟩, ⟨_, rfl, by omega, by omega⟩, ⟨_, rfl, by omega, by omega⟩, ⟨_, rfl, by omega, by omega⟩, fun _ h => nomatch h⟩) (by omega) (by show _ < (4 : Int); omega)
  exact ⟨t, e, ht⟩
theorem mul_ok {z : Str} {t : Int} (h : TxO 20 z) (t0 : 1 ≤ t) (t1 : t ≤ 30) : MulSz z t ∧ TxO 600 (Txt.mul z t) := by
  have hl := h.1
  have hm : z.length * t.toNat ≤ 20 * 30 := Nat.mul_le_mul hl (by omega)
  exact ⟨⟨by omega, by omega, by omega, by omega⟩, mul_tx h (show t ≤ ((30 : Nat) : Int) by omega) (by decide)⟩
theorem log_ok {n : Int} (h0 : 0 ≤ n) (h1 : n ≤ 10000000000000) : n.natAbs.log2 < 1920 := by
  by_cases hz : n.natAbs = 0
  · rw [hz]
    decide +kernel
  · exact (Nat.log2_lt hz).mpr (Nat.lt_of_lt_of_le (show n.natAbs < 2 ^ 64 by omega) (Nat.pow_le_pow_right (by decide) (by decide)))
theorem str_tx : ∀ k : Fin 50, (PySem.Str.ofString (toString ((k.val : Nat) : Int))).length ≤ 10 ∧ ∀ c ∈ (PySem.Str.ofString (toString ((k.val : Nat) : Int))).cps.toList, c ≤ 1000 := by decide +kernel
local macro_rules
  | `(tactic| simp_arith only [$ts,*] $[$l:location]?) => `(tactic| simp (config := { maxSteps := 2000000 }) only [↓wp_ok, ↓wp_exc, ↓wp_bad, ↓wp_var0, ↓wp_varN, ↓wp_varS, ↓wset0, ↓wsetS, ↓wini0, ↓winiS, ↓winiC, ↓wp_c, ↓wp_x1, ↓wp_x2, ↓wp_tB, ↓wp_tAnd, ↓wp_tOr, ↓wp_tNot, ↓wp_xAnd, ↓wp_xOr, ↓wp_xNot, ↓wp_xIf, ↓wp_nil, ↓wp_cons, ↓wp_tup, ↓wp_fz, ↓wp_cell, ↓wp_disp, ↓wp_yes, ↓wp_call, ↓wp_meth, ↓wp_B, ↓wp_BM, ↓wp_fld, ↓wp_sl, ↓wp_oN, ↓wp_oS, ↓wp_iter, ↓wp_rng1, ↓wp_rng2, ↓wp_src1, ↓wp_src2, ↓wp_chain, ↓wp_add_i, ↓wp_add_s, ↓wp_add_l, ↓wp_sub_i, ↓wp_mul, ↓wp_fdiv, ↓wp_mod, ↓wp_pow, ↓wp_neg, ↓wp_lt, ↓wp_le, ↓wp_gt, ↓wp_ge, ↓wp_eq_i, ↓wp_ne_i, ↓wp_eq_s, ↓wp_ne_s, ↓wp_isN_n, ↓wp_isN_i, ↓wp_isN_s, ↓wp_notN_n, ↓wp_notN_i, ↓wp_notN_s, ↓wp_isi_s, ↓wp_isi_i, ↓wp_isi_b, ↓wp_isi_n, ↓wp_len_s, ↓wp_int_i, ↓wp_int_b, ↓wp_max, ↓wp_min, ↓wp_abs, ↓wp_str, ↓wp_zfill, ↓wp_rev_l, ↓wp_ix_l, ↓wp_ix_t, ↓wp_ix_f, ↓wp_ix_s, ↓wp_len_f, ↓wp_len_l, ↓wp_len_t, ↓sq_set, ↓wp_body, ↓wp_gNm, ↓wp_gNl, ↓wp_gCn, ↓wp_all_l, ↓wp_any_l, ↓wp_sum_l, ↓wp_hex, ↓wp_dnew, ↓wp_ddisp, ↓wp_dg2, ↓fldAt0, ↓fldAtS, ↓wp_fldI, ↓wp_fldR, ↓wp_stR, ↓isIns_R, ↓isIns_I, ↓wp_make, ↓wp_frz, ↓wp_frzR, ↓wp_makeF, ↓wp_isiR, ↓wp_isi_l, ↓wp_isi_t, ↓wp_isi_o, ↓wp_isO_o, ↓wp_isO_i, ↓wp_isO_l, ↓wp_isO_t, ↓wp_isO_s, ↓wp_isO_b, ↓wp_isO_n, ↓wp_isN_b, ↓wp_isN_l, ↓wp_isN_t, ↓wp_isN_r, ↓wp_isN_o, ↓wp_notN_b, ↓wp_notN_l, ↓wp_notN_t, ↓wp_notN_r, ↓wp_notN_o, ↓wp_eq_b, ↓wp_ne_b, ↓wp_ixR, ↓wp_lenR, ↓wp_srcR, ↓wp_mlst, ↓wp_appR, ↓isLst_R, ↓wp_lsetW, ↓stLst_R, ↓wp_BN, ↓wp_nList_l, ↓wp_nList_t, ↓wp_nListR, ↓wp_enum, ↓wp_enum0, ↓wp_enumS, ↓wp_enmS, ↓wp_srcE_s, ↓wp_srcE_t, ↓wp_srcE_l, ↓wp_srcER, ↓wp_BK, ↓wp_gUlR, ↓wp_gU3, ↓wp_gU2, ↓wp_lenO, ↓wp_tuple_t, ↓wp_tuple_l, ↓wp_tupleR, ↓wp_intAdd, ↓wp_dgetS, ↓wp_dgetI, ↓stKey_S, ↓stKey_I, ↓dval_c, ↓dputV_c, ↓dputV_n, ↓dputK_at, ↓memK_c, ↓isDct_R, ↓asDct_R, ↓keyD_I, ↓keyD_S, ↓asL_l, ↓asL_R, ↓wp_nSl, ↓wp_nRev, ↓wp_mulS, ↓wp_kw, ↓pick_n, ↓pick_c, ↓wp_gDs, ↓wp_gLs, ↓starSrc_t, ↓starSrc_l, ↓wp_gSt, ↓wp_nSortDR, ↓wp_dictCR, ↓wp_pop1, ↓wp_pop2, ↓popK_I, ↓wp_gFd, ↓wp_dinI, ↓wp_dinS, ↓wp_nListDR, ↓wp_sumV, ↓wp_upper, ↓wp_index, ↓wp_part, ↓wp_split, ↓wp_find3, ↓wp_zip, ↓wp_srcZ_l, ↓wp_srcZ_t, ↓zipD_c, ↓zipD_n, ↓wp_nRng2, ↓wp_inP, ↓wp_nSt2, ↓wp_maxL, ↓wp_minL, ↓wp_exo, ↓wp_isiE_i, ↓wp_isiE_b, ↓wp_isiE_s, ↓wp_isiE_n, ↓wp_isiE_l, ↓wp_isiE_t, ↓wp_isiE_o, ↓wp_srcL, ↓wp_srcT, ↓wp_tg2, ↓wp_slice_l, List.length_cons, List.length_nil, List.cons_append, List.nil_append, List.append_nil, Nat.reduceAdd, Nat.reduceSub, Nat.zero_add, decide_eq_true_eq, Bool.not_eq_true', decide_eq_false_iff_not, Bool.true_eq, Bool.not_true, Bool.not_false, if_true, reduceIte, Bool.false_eq_true, true_and, and_true, Nat.succ_eq_add_one, sd_pow, sd_div, sd_mulR, sd_mulL, sd_mixR, sd_mixL, sd_mmL, sd_p3, sd_p6, sd_p9, sd_p10, sd_p11, sd_p12, sd_sz, sd_szl, Nat.reduceLeDiff, List.getElem?_cons_zero, List.getElem?_cons_succ, List.set_cons_zero, List.set_cons_succ, sd_at0, sd_at1, sd_at2, sd_at3, sd_at4, sd_atL, sd_ex, sd_ix0, sd_ix1, sd_ix2, sd_ix3, Int.reduceLT, Int.reduceEq, Int.reduceLE, Int.reduceNeg, Int.neg_lt_zero_iff, Int.reducePow, Int.reduceToNat, Nat.reduceLT, Int.reduceAdd, Int.reduceSub, Int.reduceMul, push_at, push_set, push_take, push_at2, push_set2, push_take2, List.getElem?_set_self, List.set_set, List.length_set, isBot, and_self, bots, List.map_cons, List.map_nil, wp_mix, F_mix, F_cell, ty_non_non, ty_non_bl, ty_non_int, ty_non_str, ty_non_lst, ty_non_tup, ty_non_dct, ty_bl_non, ty_bl_bl, ty_bl_int, ty_bl_str, ty_bl_lst, ty_bl_tup, ty_bl_dct, ty_int_non, ty_int_bl, ty_int_int, ty_int_str, ty_int_lst, ty_int_tup, ty_int_dct, ty_str_non, ty_str_bl, ty_str_int, ty_str_str, ty_str_lst, ty_str_tup, ty_str_dct, ty_lst_non, ty_lst_bl, ty_lst_int, ty_lst_str, ty_lst_lst, ty_lst_tup, ty_lst_dct, ty_tup_non, ty_tup_bl, ty_tup_int, ty_tup_str, ty_tup_lst, ty_tup_tup, ty_tup_dct, ty_dct_non, ty_dct_bl, ty_dct_int, ty_dct_str, ty_dct_lst, ty_dct_tup, ty_dct_dct, not_true_eq_false, not_false_eq_true, Int.lt_irrefl, Int.le_refl, decide_true, decide_false, List.any_cons, List.any_nil, Bool.or_false, Bool.false_or, Bool.and_true, Bool.true_and, Bool.and_false, Bool.false_and, false_and, and_false, Bool.or_true, Bool.true_or, reduceCtorEq, ite_self, Sum.inr.injEq, Sum.inl.injEq, Int.cast_ofNat_Int, $ts,*] $[$l]?)
theorem thing_wp (c : Int) (S : Store) : wp (F__law_thing [.int c] S) (fun d S' => OkT S' d ∧ ∃ J, S' = S ++ J) NX := by
  have nil_ : ∀ {d : D}, OkT S d → OkT S d ∧ ∃ J, S = S ++ J := fun h => ⟨h, [], (List.append_nil S).symm⟩
  have w0 := mixI_lo c 0
  have w1 : mixI c 0 % 12 < 12 := by omega
  have d0 := mixI_lo c 1
  have d1 := mixI_hi c 1
  unfold F__law_thing m__law_thing
  simp only [↓wp_body, ↓wini0, ↓winiS, ↓winiC]
  refine seq_cut (fun δ S' => S' = S ∧ δ = [some (.int c), some (.int (mixI c 0 % 12)), none, none]) ?_ ?_
  · rw [ws_set]
    simp_arith only [mix_eq]
    first | done | exact ⟨rfl, rfl⟩
  rintro _ S ⟨rfl, rfl⟩
  refine seq_cut (fun δ S' => S' = S ∧ δ = [some (.int c), some (.int (mixI c 0 % 12)), some (.int (mixI c 1)), none]) ?_ ?_
  · rw [ws_set]
    simp_arith only [mix_eq]
    first | done | exact ⟨rfl, rfl⟩
  rintro _ S ⟨rfl, rfl⟩
  have wlo : 0 ≤ mixI c 0 % 12 := by omega
  generalize mixI c 0 % 12 = w at *
  generalize mixI c 1 = d at *
  by_cases k1 : w < 3
  · refine seq_cut (fun _ _ => False) ?_ (fun _ _ z => False.elim z)
    rw [ws_if]
    simp_arith only [k1]
    rw [ws_ret]
    simp_arith only [mix_eq]
    obtain ⟨x, e, hx⟩ := ixP (i := w) (xs := [D.int (d % 45 - 3), .int (1000000000000 + d % 5 - 2), .int (d * mixI c 2)]) (fun x => ∃ i, x = .int i) (by
      simp only [List.forall_mem_cons]
      exact ⟨⟨_, rfl⟩, ⟨_, rfl⟩, ⟨_, rfl⟩, fun _ h => nomatch h⟩) wlo (by show w < 3; exact k1)
    exact ⟨x, e, nil_ (.inl hx)⟩
  refine seq_cut (fun δ S' => S' = S ∧ δ = [some (.int c), some (.int w), some (.int d), none]) ?_ ?_
  · rw [ws_if]
    simp_arith only [k1]
    rw [ws_nil]
    exact ⟨rfl, rfl⟩
  rintro _ S ⟨rfl, rfl⟩
  by_cases k2 : w = 3
  · refine seq_cut (fun _ _ => False) ?_ (fun _ _ z => False.elim z)
    rw [ws_if]
    simp_arith only [k2]
    rw [ws_ret]
    simp_arith only []
    obtain ⟨x, e, hx⟩ := ixP (i := d % 5) (xs := [D.int (-1), .int (-d - 1), .int (10000000000000 + d), .int (1000000000000000000000000000000000000000000000000000000000000 + d), .int (-10000000000000000000000000000000000000000)]) (fun x => ∃ i, x = .int i) (by
      simp only [List.forall_mem_cons]
      exact ⟨⟨_, rfl⟩, ⟨_, rfl⟩, ⟨_, rfl⟩, ⟨_, rfl⟩, ⟨_, rfl⟩, fun _ h => nomatch h⟩) (by omega) (by show _ < (5 : Int); omega)
    exact ⟨x, e, nil_ (.inl hx)⟩
  refine seq_cut (fun δ S' => S' = S ∧ δ = [some (.int c), some (.int w), some (.int d), none]) ?_ ?_
  · rw [ws_if]
    simp_arith only [k2]
    rw [ws_nil]
    exact ⟨rfl, rfl⟩
  rintro _ S ⟨rfl, rfl⟩
  obtain ⟨t, et, t0, t1⟩ := times_ix d d0
  by_cases k3 : w < 6
  · refine seq_cut (fun _ _ => False) ?_ (fun _ _ z => False.elim z)
    rw [ws_if]
    simp_arith only [k3, -sq_set]
    refine seq_cut (fun δ S' => S' = S ∧ δ = [some (.int c), some (.int w), some (.int d), some (.int t)]) ?_ ?_
    · rw [ws_set]
      simp_arith only [et]
      first | done | exact ⟨rfl, rfl⟩
    rintro _ S ⟨rfl, rfl⟩
    rw [ws_ret]
    obtain ⟨x, e, q, rfl, q0, q1⟩ := ixP (i := w - 4) (xs := [D.int 13, .int 11]) (fun x => ∃ q, x = .int q ∧ 1 ≤ q ∧ q ≤ 13) (by
      simp only [List.forall_mem_cons]
      exact ⟨⟨_, rfl, by omega, by omega⟩, ⟨_, rfl, by omega, by omega⟩, fun _ h => nomatch h⟩) (by omega) (by show _ < (2 : Int); omega)
    have q2 : 0 < q := by omega
    have q3 := Int.emod_nonneg d (show q ≠ 0 by omega)
    have q4 := Int.emod_lt_of_pos d q2
    simp_arith only [e, q2]
    refine wp_imp (text_wp c (d % q) (decide (w = 5)) S q3 (by omega)) ?_ (fun _ _ _ z => z.elim)
    rintro _ S' ⟨rfl, z, rfl, hz⟩
    obtain ⟨g1, g2⟩ := mul_ok hz t0 t1
    simp_arith only [g1]
    exact nil_ (.inr (.inl ⟨_, rfl, TxO.up g2 (by decide)⟩))
  refine seq_cut (fun δ S' => S' = S ∧ δ = [some (.int c), some (.int w), some (.int d), none]) ?_ ?_
  · rw [ws_if]
    simp_arith only [k3]
    rw [ws_nil]
    exact ⟨rfl, rfl⟩
  rintro _ S ⟨rfl, rfl⟩
  by_cases k4 : w < 8
  · refine seq_cut (fun _ _ => False) ?_ (fun _ _ z => False.elim z)
    rw [ws_if]
    simp_arith only [k4, -sq_set]
    refine seq_cut (fun δ S' => S' = S ∧ δ = [some (.int c), some (.int w), some (.int d), some (.int t)]) ?_ ?_
    · rw [ws_set]
      simp_arith only [et]
      first | done | exact ⟨rfl, rfl⟩
    rintro _ S ⟨rfl, rfl⟩
    rw [ws_ret]
    obtain ⟨x, e, q, rfl, q0, q1⟩ := ixP (i := w - 6) (xs := [D.int 12, .int 9]) (fun x => ∃ q, x = .int q ∧ 1 ≤ q ∧ q ≤ 13) (by
      simp only [List.forall_mem_cons]
      exact ⟨⟨_, rfl, by omega, by omega⟩, ⟨_, rfl, by omega, by omega⟩, fun _ h => nomatch h⟩) (by omega) (by show _ < (2 : Int); omega)
    have q2 : 0 < q := by omega
    have q3 := Int.emod_nonneg d (show q ≠ 0 by omega)
    have q4 := Int.emod_lt_of_pos d q2
    simp_arith only [e, q2]
    refine wp_imp (text_wp c (d % q) (decide (w = 7)) S q3 (by omega)) ?_ (fun _ _ _ z => z.elim)
    rintro _ S' ⟨rfl, z, rfl, hz⟩
    obtain ⟨g1, g2⟩ := mul_ok hz t0 t1
    simp_arith only [g1]
    refine wp_imp (spoilt_wp c _ 600 g2 (by decide) S') ?_ (fun _ _ _ z => z.elim)
    rintro _ S2 ⟨rfl, z, rfl, hz⟩
    exact nil_ (.inr (.inl ⟨_, rfl, TxO.up hz (by decide)⟩))
  refine seq_cut (fun δ S' => S' = S ∧ δ = [some (.int c), some (.int w), some (.int d), none]) ?_ ?_
  · rw [ws_if]
    simp_arith only [k4]
    rw [ws_nil]
    exact ⟨rfl, rfl⟩
  rintro _ S ⟨rfl, rfl⟩
  by_cases k5 : w = 8
  · refine seq_cut (fun _ _ => False) ?_ (fun _ _ z => False.elim z)
    have em := mk_eq (.lst [.tup [.int 0, .int 3]]) [(0, 3)] (S ++ [some (.exo "BadShort")]) (.inl rfl) (fun p hp => by rw [List.mem_singleton] at hp; subst hp; exact ⟨by decide, by decide, by decide⟩) (by decide)
    rw [merge_one (by decide)] at em
    rw [ws_if]
    simp_arith only [k5]
    rw [ws_ret]
    simp_arith only [em, rg_noRef]
    have hr : (S ++ [some (Cell.exo "BadShort")])[S.length]? = some (some (.exo "BadShort")) := push_at S _
    obtain ⟨x, e, hx⟩ := ixP (i := d % 5) (xs := [D.bl true, .bl false, .non, .ref S.length, .ins "Ranges" ["spans"] [.lst [prD (0, 3)]]]) (fun x => Oth (S ++ [some (Cell.exo "BadShort")]) x) (by
      simp only [List.forall_mem_cons]
      exact ⟨.inl ⟨_, rfl⟩, .inl ⟨_, rfl⟩, .inr (.inl rfl), .inr (.inr (.inr (.inr (.inr (.inr ⟨_, rfl, hr⟩))))), .inr (.inr (.inr (.inr (.inl ⟨_, _, _, rfl⟩)))), fun _ h => nomatch h⟩) (by omega) (by show _ < (5 : Int); omega)
    exact ⟨rfl, x, e, .inr (.inr hx), _, rfl⟩
  refine seq_cut (fun δ S' => S' = S ∧ δ = [some (.int c), some (.int w), some (.int d), none]) ?_ ?_
  · rw [ws_if]
    simp_arith only [k5]
    rw [ws_nil]
    exact ⟨rfl, rfl⟩
  rintro _ S ⟨rfl, rfl⟩
  by_cases k6 : w = 9
  · refine seq_cut (fun _ _ => False) ?_ (fun _ _ z => False.elim z)
    rw [ws_if]
    simp_arith only [k6]
    rw [ws_ret]
    simp_arith only []
    have e1 : (S ++ [some (Cell.dct [] [])]).length = S.length + 1 := by rw [List.length_append]; rfl
    have e2 : (S ++ [some (Cell.dct [] [])] ++ [some (Cell.dct [Sum.inl 3] [D.int 3])]).length = S.length + 2 := by rw [List.length_append, e1]; rfl
    have r2 := push_at (S ++ [some (Cell.dct [] [])] ++ [some (Cell.dct [Sum.inl 3] [D.int 3])]) (some (Cell.dct [Sum.inr "a"] [D.int 1]))
    have r1 : (S ++ [some (Cell.dct [] [])] ++ [some (Cell.dct [Sum.inl 3] [D.int 3])] ++ [some (Cell.dct [Sum.inr "a"] [D.int 1])])[(S ++ [some (Cell.dct [] [])]).length]? = some (some (Cell.dct [Sum.inl 3] [D.int 3])) := by
      rw [List.getElem?_append_left (by omega)]
      exact push_at _ _
    have r0 : (S ++ [some (Cell.dct [] [])] ++ [some (Cell.dct [Sum.inl 3] [D.int 3])] ++ [some (Cell.dct [Sum.inr "a"] [D.int 1])])[S.length]? = some (some (Cell.dct [] [])) := by
      rw [List.getElem?_append_left (by omega), List.getElem?_append_left (by omega)]
      exact push_at _ _
    obtain ⟨x, e, hx⟩ := ixP (i := d % 10) (xs := [D.lst [], .lst [.int 3], .tup [], .tup [.int 3], .ref S.length, .ref (S ++ [some (Cell.dct [] [])]).length, .lst [.str "a"], .tup [.str "a", .str "b"], .ref (S ++ [some (Cell.dct [] [])] ++ [some (Cell.dct [Sum.inl 3] [D.int 3])]).length, .lst [.lst []]]) (fun x => Oth (S ++ [some (Cell.dct [] [])] ++ [some (Cell.dct [Sum.inl 3] [D.int 3])] ++ [some (Cell.dct [Sum.inr "a"] [D.int 1])]) x) (by
      simp only [List.forall_mem_cons]
      exact ⟨.inr (.inr (.inl ⟨_, rfl⟩)), .inr (.inr (.inl ⟨_, rfl⟩)), .inr (.inr (.inr (.inl ⟨_, rfl⟩))), .inr (.inr (.inr (.inl ⟨_, rfl⟩))), .inr (.inr (.inr (.inr (.inr (.inl ⟨_, _, _, rfl, r0⟩))))), .inr (.inr (.inr (.inr (.inr (.inl ⟨_, _, _, rfl, r1⟩))))), .inr (.inr (.inl ⟨_, rfl⟩)), .inr (.inr (.inr (.inl ⟨_, rfl⟩))), .inr (.inr (.inr (.inr (.inr (.inl ⟨_, _, _, rfl, r2⟩))))), .inr (.inr (.inl ⟨_, rfl⟩)), fun _ h => nomatch h⟩) (by omega) (by show _ < (10 : Int); omega)
    exact ⟨by decide, by decide, x, e, .inr (.inr hx), _, by rw [List.append_assoc, List.append_assoc]⟩
  refine seq_cut (fun δ S' => S' = S ∧ δ = [some (.int c), some (.int w), some (.int d), none]) ?_ ?_
  · rw [ws_if]
    simp_arith only [k6]
    rw [ws_nil]
    exact ⟨rfl, rfl⟩
  rintro _ S ⟨rfl, rfl⟩
  by_cases k7 : w = 10
  · refine seq_cut (fun _ _ => False) ?_ (fun _ _ z => False.elim z)
    rw [ws_if]
    simp_arith only [k7]
    rw [ws_ret]
    simp_arith only []
    obtain ⟨g1, g2⟩ := str_tx ⟨(d % 50).toNat, by omega⟩
    rw [show (((⟨(d % 50).toNat, by omega⟩ : Fin 50).val : Nat) : Int) = d % 50 from by show (((d % 50).toNat : Nat) : Int) = d % 50; omega] at g1 g2
    exact ⟨log_ok (by omega) (by omega), nil_ (.inr (.inl ⟨_, rfl, Nat.le_trans g1 (by decide), g2⟩))⟩
  refine seq_cut (fun δ S' => S' = S ∧ δ = [some (.int c), some (.int w), some (.int d), none]) ?_ ?_
  · rw [ws_if]
    simp_arith only [k7]
    rw [ws_nil]
    exact ⟨rfl, rfl⟩
  rintro _ S ⟨rfl, rfl⟩
  rw [ws_ret]
  simp_arith only []
  obtain ⟨x, e, hx⟩ := ixP (i := d % 7) (xs := [D.str "a", .str "abcdefgh", .str "abcdefghi", .str "", .str " ", .str "~", .str "z"]) (fun x => ∃ z, x = .str z ∧ TxO 100000 z) (by
    simp only [List.forall_mem_cons]
    unfold TxO
    exact ⟨⟨_, rfl, by decide +kernel⟩, ⟨_, rfl, by decide +kernel⟩, ⟨_, rfl, by decide +kernel⟩, ⟨_, rfl, by decide +kernel⟩, ⟨_, rfl, by decide +kernel⟩, ⟨_, rfl, by decide +kernel⟩, ⟨_, rfl, by decide +kernel⟩, fun _ h => nomatch h⟩) (by omega) (by show _ < (7 : Int); omega)
  exact ⟨x, e, nil_ (.inr (.inl hx))⟩
theorem dat_b (v : List Bool) : Dat 8 (.lst (v.map D.bl)) := fun d hd => by
  obtain ⟨b, _, rfl⟩ := List.mem_map.mp hd
  trivial
theorem ok_both {d : D} {S : Store} (h : OkT S d) : ∃ a b c e : Bool, F__law_told [d] S = .ok (.lst [.bl a, .bl b, .bl c, .bl e], S) ∧ F__law_due [d] S = .ok (.lst [.bl a, .bl b, .bl c, .bl e], S) := by
  rcases h with ⟨i, rfl⟩ | ⟨z, rfl, hz⟩ | h
  · exact ⟨_, _, _, _, told_i i S, due_i i S⟩
  · exact ⟨_, _, _, _, told_s z S hz.1, due_s z _ hz (by decide) S⟩
  · exact ⟨_, _, _, _, (oth_told h).1, (oth_told h).2⟩
local macro_rules
  | `(tactic| simp! only [$ts,*] $[$l:location]?) => `(tactic| simp (config := { maxSteps := 2000000 }) only [↓wp_ok, ↓wp_exc, ↓wp_bad, ↓wp_var0, ↓wp_varN, ↓wp_varS, ↓wset0, ↓wsetS, ↓wini0, ↓winiS, ↓winiC, ↓wp_c, ↓wp_x1, ↓wp_x2, ↓wp_tB, ↓wp_tAnd, ↓wp_tOr, ↓wp_tNot, ↓wp_xAnd, ↓wp_xOr, ↓wp_xNot, ↓wp_xIf, ↓wp_nil, ↓wp_cons, ↓wp_tup, ↓wp_fz, ↓wp_cell, ↓wp_disp, ↓wp_yes, ↓wp_call, ↓wp_meth, ↓wp_B, ↓wp_BM, ↓wp_fld, ↓wp_sl, ↓wp_oN, ↓wp_oS, ↓wp_iter, ↓wp_rng1, ↓wp_rng2, ↓wp_src1, ↓wp_src2, ↓wp_chain, ↓wp_add_i, ↓wp_add_s, ↓wp_add_l, ↓wp_sub_i, ↓wp_mul, ↓wp_fdiv, ↓wp_mod, ↓wp_pow, ↓wp_neg, ↓wp_lt, ↓wp_le, ↓wp_gt, ↓wp_ge, ↓wp_eq_i, ↓wp_ne_i, ↓wp_eq_s, ↓wp_ne_s, ↓wp_isN_n, ↓wp_isN_i, ↓wp_isN_s, ↓wp_notN_n, ↓wp_notN_i, ↓wp_notN_s, ↓wp_isi_s, ↓wp_isi_i, ↓wp_isi_b, ↓wp_isi_n, ↓wp_len_s, ↓wp_int_i, ↓wp_int_b, ↓wp_max, ↓wp_min, ↓wp_abs, ↓wp_str, ↓wp_zfill, ↓wp_rev_l, ↓wp_ix_l, ↓wp_ix_t, ↓wp_ix_f, ↓wp_ix_s, ↓wp_len_f, ↓wp_len_l, ↓wp_len_t, ↓ws_ok, ↓ws_bad, ↓ws_nil, ↓ws_seq, ↓sq_set, ↓ws_expr, ↓ws_set, ↓ws_ret, ↓ws_retN, ↓ws_brk, ↓ws_cont, ↓ws_if, ↓ws_asg, ↓ws_aug, ↓ws_raise0, ↓ws_raise1, ↓wp_body, ↓wp_gNm, ↓wp_gNl, ↓wp_gCn, ↓ws_tryAs, ↓ws_tryO, ↓wp_all_l, ↓wp_any_l, ↓wp_sum_l, ↓wp_hex, ↓wp_dnew, ↓wp_ddisp, ↓wp_dg2, ↓fldAt0, ↓fldAtS, ↓wp_fldI, ↓wp_fldR, ↓wp_stR, ↓ws_fldD, ↓isIns_R, ↓isIns_I, ↓wp_make, ↓wp_frz, ↓wp_frzR, ↓wp_makeF, ↓wp_isiR, ↓wp_isi_l, ↓wp_isi_t, ↓wp_isi_o, ↓wp_isO_o, ↓wp_isO_i, ↓wp_isO_l, ↓wp_isO_t, ↓wp_isO_s, ↓wp_isO_b, ↓wp_isO_n, ↓wp_isN_b, ↓wp_isN_l, ↓wp_isN_t, ↓wp_isN_r, ↓wp_isN_o, ↓wp_notN_b, ↓wp_notN_l, ↓wp_notN_t, ↓wp_notN_r, ↓wp_notN_o, ↓wp_eq_b, ↓wp_ne_b, ↓wp_ixR, ↓wp_lenR, ↓wp_srcR, ↓wp_mlst, ↓wp_appR, ↓isLst_R, ↓wp_lsetW, ↓stLst_R, ↓wp_BN, ↓wp_nList_l, ↓wp_nList_t, ↓wp_nListR, ↓wp_enum, ↓wp_enum0, ↓wp_enumS, ↓wp_enmS, ↓wp_srcE_s, ↓wp_srcE_t, ↓wp_srcE_l, ↓wp_srcER, ↓wp_BK, ↓wp_gUlR, ↓wp_gU3, ↓wp_gU2, ↓wp_lenO, ↓wp_tuple_t, ↓wp_tuple_l, ↓wp_tupleR, ↓wp_intAdd, ↓wp_dgetS, ↓wp_dgetI, ↓ws_dset, ↓stKey_S, ↓stKey_I, ↓dval_c, ↓dputV_c, ↓dputV_n, ↓dputK_at, ↓memK_c, ↓isDct_R, ↓asDct_R, ↓keyD_I, ↓keyD_S, ↓asL_l, ↓asL_R, ↓wp_nSl, ↓wp_nRev, ↓wp_mulS, ↓wp_kw, ↓pick_n, ↓pick_c, ↓ws_par2, ↓ws_par3, ↓ws_asg2, ↓ws_asg3, ↓wp_gDs, ↓wp_gLs, ↓starSrc_t, ↓starSrc_l, ↓wp_gSt, ↓wp_nSortDR, ↓wp_dictCR, ↓wp_pop1, ↓wp_pop2, ↓popK_I, ↓wp_gFd, ↓ws_faug, ↓wp_dinI, ↓wp_dinS, ↓wp_nListDR, ↓wp_sumV, ↓wp_upper, ↓wp_index, ↓wp_part, ↓wp_split, ↓wp_find3, ↓wp_zip, ↓wp_srcZ_l, ↓wp_srcZ_t, ↓zipD_c, ↓zipD_n, ↓wp_nRng2, ↓wp_inP, ↓wp_nSt2, ↓wp_maxL, ↓wp_minL, ↓wp_exo, ↓wp_isiE_i, ↓wp_isiE_b, ↓wp_isiE_s, ↓wp_isiE_n, ↓wp_isiE_l, ↓wp_isiE_t, ↓wp_isiE_o, ↓wp_srcL, ↓wp_srcT, ↓wp_tg2, ↓wp_slice_l, List.length_cons, List.length_nil, List.cons_append, List.nil_append, List.append_nil, Nat.reduceAdd, Nat.reduceSub, Nat.zero_add, decide_eq_true_eq, Bool.not_eq_true', decide_eq_false_iff_not, Bool.true_eq, Bool.not_true, Bool.not_false, if_true, reduceIte, Bool.false_eq_true, true_and, and_true, Nat.succ_eq_add_one, sd_pow, sd_div, sd_mulR, sd_mulL, sd_mixR, sd_mixL, sd_mmL, sd_p3, sd_p6, sd_p9, sd_p10, sd_p11, sd_p12, sd_sz, sd_szl, Nat.reduceLeDiff, List.getElem?_cons_zero, List.getElem?_cons_succ, List.set_cons_zero, List.set_cons_succ, sd_at0, sd_at1, sd_at2, sd_at3, sd_at4, sd_atL, sd_ex, sd_ix0, sd_ix1, sd_ix2, sd_ix3, Int.reduceLT, Int.reduceEq, Int.reduceLE, Int.reduceNeg, Int.neg_lt_zero_iff, Int.reducePow, Int.reduceToNat, Nat.reduceLT, Int.reduceAdd, Int.reduceSub, Int.reduceMul, push_at, push_set, push_take, push_at2, push_set2, push_take2, List.getElem?_set_self, List.set_set, List.length_set, isBot, and_self, bots, List.map_cons, List.map_nil, wp_mix, F_mix, F_cell, ty_non_non, ty_non_bl, ty_non_int, ty_non_str, ty_non_lst, ty_non_tup, ty_non_dct, ty_bl_non, ty_bl_bl, ty_bl_int, ty_bl_str, ty_bl_lst, ty_bl_tup, ty_bl_dct, ty_int_non, ty_int_bl, ty_int_int, ty_int_str, ty_int_lst, ty_int_tup, ty_int_dct, ty_str_non, ty_str_bl, ty_str_int, ty_str_str, ty_str_lst, ty_str_tup, ty_str_dct, ty_lst_non, ty_lst_bl, ty_lst_int, ty_lst_str, ty_lst_lst, ty_lst_tup, ty_lst_dct, ty_tup_non, ty_tup_bl, ty_tup_int, ty_tup_str, ty_tup_lst, ty_tup_tup, ty_tup_dct, ty_dct_non, ty_dct_bl, ty_dct_int, ty_dct_str, ty_dct_lst, ty_dct_tup, ty_dct_dct, not_true_eq_false, not_false_eq_true, Int.lt_irrefl, Int.le_refl, decide_true, decide_false, List.any_cons, List.any_nil, Bool.or_false, Bool.false_or, Bool.and_true, Bool.true_and, Bool.and_false, Bool.false_and, false_and, and_false, Bool.or_true, Bool.true_or, reduceCtorEq, ite_self, Sum.inr.injEq, Sum.inl.injEq, Int.cast_ofNat_Int, $ts,*] $[$l]?)
local macro_rules
  | `(tactic| simp_arith only [$ts,*] $[$l:location]?) => `(tactic| simp (config := { maxSteps := 2000000 }) only [↓wp_ok, ↓wp_exc, ↓wp_bad, ↓wp_var0, ↓wp_varN, ↓wp_varS, ↓wset0, ↓wsetS, ↓wini0, ↓winiS, ↓winiC, ↓wp_c, ↓wp_x1, ↓wp_x2, ↓wp_tB, ↓wp_tAnd, ↓wp_tOr, ↓wp_tNot, ↓wp_xAnd, ↓wp_xOr, ↓wp_xNot, ↓wp_xIf, ↓wp_nil, ↓wp_cons, ↓wp_tup, ↓wp_fz, ↓wp_cell, ↓wp_disp, ↓wp_yes, ↓wp_call, ↓wp_meth, ↓wp_B, ↓wp_BM, ↓wp_fld, ↓wp_sl, ↓wp_oN, ↓wp_oS, ↓wp_iter, ↓wp_rng1, ↓wp_rng2, ↓wp_src1, ↓wp_src2, ↓wp_chain, ↓wp_add_i, ↓wp_add_s, ↓wp_add_l, ↓wp_sub_i, ↓wp_mul, ↓wp_fdiv, ↓wp_mod, ↓wp_pow, ↓wp_neg, ↓wp_lt, ↓wp_le, ↓wp_gt, ↓wp_ge, ↓wp_eq_i, ↓wp_ne_i, ↓wp_eq_s, ↓wp_ne_s, ↓wp_isN_n, ↓wp_isN_i, ↓wp_isN_s, ↓wp_notN_n, ↓wp_notN_i, ↓wp_notN_s, ↓wp_isi_s, ↓wp_isi_i, ↓wp_isi_b, ↓wp_isi_n, ↓wp_len_s, ↓wp_int_i, ↓wp_int_b, ↓wp_max, ↓wp_min, ↓wp_abs, ↓wp_str, ↓wp_zfill, ↓wp_rev_l, ↓wp_ix_l, ↓wp_ix_t, ↓wp_ix_f, ↓wp_ix_s, ↓wp_len_f, ↓wp_len_l, ↓wp_len_t, ↓sq_set, ↓wp_body, ↓wp_gNm, ↓wp_gNl, ↓wp_gCn, ↓wp_all_l, ↓wp_any_l, ↓wp_sum_l, ↓wp_hex, ↓wp_dnew, ↓wp_ddisp, ↓wp_dg2, ↓fldAt0, ↓fldAtS, ↓wp_fldI, ↓wp_fldR, ↓wp_stR, ↓isIns_R, ↓isIns_I, ↓wp_make, ↓wp_frz, ↓wp_frzR, ↓wp_makeF, ↓wp_isiR, ↓wp_isi_l, ↓wp_isi_t, ↓wp_isi_o, ↓wp_isO_o, ↓wp_isO_i, ↓wp_isO_l, ↓wp_isO_t, ↓wp_isO_s, ↓wp_isO_b, ↓wp_isO_n, ↓wp_isN_b, ↓wp_isN_l, ↓wp_isN_t, ↓wp_isN_r, ↓wp_isN_o, ↓wp_notN_b, ↓wp_notN_l, ↓wp_notN_t, ↓wp_notN_r, ↓wp_notN_o, ↓wp_eq_b, ↓wp_ne_b, ↓wp_ixR, ↓wp_lenR, ↓wp_srcR, ↓wp_mlst, ↓wp_appR, ↓isLst_R, ↓wp_lsetW, ↓stLst_R, ↓wp_BN, ↓wp_nList_l, ↓wp_nList_t, ↓wp_nListR, ↓wp_enum, ↓wp_enum0, ↓wp_enumS, ↓wp_enmS, ↓wp_srcE_s, ↓wp_srcE_t, ↓wp_srcE_l, ↓wp_srcER, ↓wp_BK, ↓wp_gUlR, ↓wp_gU3, ↓wp_gU2, ↓wp_lenO, ↓wp_tuple_t, ↓wp_tuple_l, ↓wp_tupleR, ↓wp_intAdd, ↓wp_dgetS, ↓wp_dgetI, ↓stKey_S, ↓stKey_I, ↓dval_c, ↓dputV_c, ↓dputV_n, ↓dputK_at, ↓memK_c, ↓isDct_R, ↓asDct_R, ↓keyD_I, ↓keyD_S, ↓asL_l, ↓asL_R, ↓wp_nSl, ↓wp_nRev, ↓wp_mulS, ↓wp_kw, ↓pick_n, ↓pick_c, ↓wp_gDs, ↓wp_gLs, ↓starSrc_t, ↓starSrc_l, ↓wp_gSt, ↓wp_nSortDR, ↓wp_dictCR, ↓wp_pop1, ↓wp_pop2, ↓popK_I, ↓wp_gFd, ↓wp_dinI, ↓wp_dinS, ↓wp_nListDR, ↓wp_sumV, ↓wp_upper, ↓wp_index, ↓wp_part, ↓wp_split, ↓wp_find3, ↓wp_zip, ↓wp_srcZ_l, ↓wp_srcZ_t, ↓zipD_c, ↓zipD_n, ↓wp_nRng2, ↓wp_inP, ↓wp_nSt2, ↓wp_maxL, ↓wp_minL, ↓wp_exo, ↓wp_isiE_i, ↓wp_isiE_b, ↓wp_isiE_s, ↓wp_isiE_n, ↓wp_isiE_l, ↓wp_isiE_t, ↓wp_isiE_o, ↓wp_srcL, ↓wp_srcT, ↓wp_tg2, ↓wp_slice_l, List.length_cons, List.length_nil, List.cons_append, List.nil_append, List.append_nil, Nat.reduceAdd, Nat.reduceSub, Nat.zero_add, decide_eq_true_eq, Bool.not_eq_true', decide_eq_false_iff_not, Bool.true_eq, Bool.not_true, Bool.not_false, if_true, reduceIte, Bool.false_eq_true, true_and, and_true, Nat.succ_eq_add_one, sd_pow, sd_div, sd_mulR, sd_mulL, sd_mixR, sd_mixL, sd_mmL, sd_p3, sd_p6, sd_p9, sd_p10, sd_p11, sd_p12, sd_sz, sd_szl, Nat.reduceLeDiff, List.getElem?_cons_zero, List.getElem?_cons_succ, List.set_cons_zero, List.set_cons_succ, sd_at0, sd_at1, sd_at2, sd_at3, sd_at4, sd_atL, sd_ex, sd_ix0, sd_ix1, sd_ix2, sd_ix3, Int.reduceLT, Int.reduceEq, Int.reduceLE, Int.reduceNeg, Int.neg_lt_zero_iff, Int.reducePow, Int.reduceToNat, Nat.reduceLT, Int.reduceAdd, Int.reduceSub, Int.reduceMul, push_at, push_set, push_take, push_at2, push_set2, push_take2, List.getElem?_set_self, List.set_set, List.length_set, isBot, and_self, bots, List.map_cons, List.map_nil, wp_mix, F_mix, F_cell, ty_non_non, ty_non_bl, ty_non_int, ty_non_str, ty_non_lst, ty_non_tup, ty_non_dct, ty_bl_non, ty_bl_bl, ty_bl_int, ty_bl_str, ty_bl_lst, ty_bl_tup, ty_bl_dct, ty_int_non, ty_int_bl, ty_int_int, ty_int_str, ty_int_lst, ty_int_tup, ty_int_dct, ty_str_non, ty_str_bl, ty_str_int, ty_str_str, ty_str_lst, ty_str_tup, ty_str_dct, ty_lst_non, ty_lst_bl, ty_lst_int, ty_lst_str, ty_lst_lst, ty_lst_tup, ty_lst_dct, ty_tup_non, ty_tup_bl, ty_tup_int, ty_tup_str, ty_tup_lst, ty_tup_tup, ty_tup_dct, ty_dct_non, ty_dct_bl, ty_dct_int, ty_dct_str, ty_dct_lst, ty_dct_tup, ty_dct_dct, not_true_eq_false, not_false_eq_true, Int.lt_irrefl, Int.le_refl, decide_true, decide_false, List.any_cons, List.any_nil, Bool.or_false, Bool.false_or, Bool.and_true, Bool.true_and, Bool.and_false, Bool.false_and, false_and, and_false, Bool.or_true, Bool.true_or, reduceCtorEq, ite_self, Sum.inr.injEq, Sum.inl.injEq, Int.cast_ofNat_Int, $ts,*] $[$l]?)
theorem law_wp (ns : List Int) : wp (F_law [.fln (ns.map D.int)] []) (fun d _ => d = .bl true) NX := by
  unfold F_law m_law
  simp only [↓wp_body, ↓wini0, ↓winiS, ↓winiC]
  refine seq_cut (fun δ S => ∃ ts : List D, ts.length ≤ 24 ∧ (∀ d ∈ ts, OkT S d) ∧ δ = [some (.fln (ns.map D.int)), some (.lst ts), none, none, none, none]) ?_ ?_
  · rw [ws_set]
    simp_arith only [↓wp_lc, wipeD]
    refine wp_noEx (wp_lcGo (fun k acc S' => acc.length ≤ k ∧ k ≤ 24 ∧ ∀ d ∈ acc, OkT S' d) (fun _ _ _ _ => trivial) _ 0 [] [] ⟨Nat.le_refl _, Nat.zero_le _, fun _ h => nomatch h⟩ ?_ ?_)
    · rintro j x acc S' hx ⟨hl, hk, hA⟩
      obtain ⟨rfl, hlt⟩ := rng_at hx
      simp_arith only []
      refine wp_cellF ns _ _ (by omega) ?_
      refine wp_imp (thing_wp _ S') ?_ (fun _ _ _ z => z.elim)
      rintro d S2 ⟨hd, J, rfl⟩
      have hj : j < 24 := by omega
      have hla : (acc ++ [d]).length = acc.length + 1 := by rw [List.length_append]; rfl
      refine ⟨by omega, by omega, by omega, fun x hx => ?_⟩
      rcases List.mem_append.mp hx with hx | hx
      · exact (hA x hx).app
      · rw [List.mem_singleton] at hx
        rw [hx]
        exact hd
    · rintro acc S' ⟨hl, hk, hA⟩
      exact ⟨acc, by omega, hA, rfl⟩
  rintro _ S ⟨ts, hl, hA, rfl⟩
  refine seq_cut (fun _ _ => True) ?_ ?_
  · have hl2 : ts.length + ts.reverse.length ≤ sizeLine := by rw [List.length_reverse]; unfold sizeLine; omega
    rw [ws_for]
    simp_arith only [hl2]
    refine ws_forGo (fun k δ S' => S' = S ∧ ∃ x2 x3 x4 x5, δ = [some (.fln (ns.map D.int)), some (.lst ts), x2, x3, x4, x5]) _ 0 _ _ ⟨rfl, _, _, _, _, rfl⟩ (fun _ _ _ _ => trivial) ?_ (fun _ _ _ => trivial)
    rintro k d δ S' hx ⟨rfl, x2, x3, x4, x5, rfl⟩
    have hd : OkT S' d := by
      have hm := List.mem_of_getElem? hx
      rcases List.mem_append.mp hm with hm | hm
      · exact hA d hm
      · exact hA d (List.mem_reverse.mp hm)
    obtain ⟨a, b, c, e, et, ed⟩ := ok_both hd
    have hdat : Dat 8 (.lst [.bl a, .bl b, .bl c, .bl e]) := dat_b [a, b, c, e]
    refine seq_cut (fun δ S2 => S2 = S' ∧ δ = [some (.fln (ns.map D.int)), some (.lst ts), some d, some (.lst [.bl a, .bl b, .bl c, .bl e]), x4, x5]) ?_ ?_
    · rw [ws_set]
      simp_arith only [et]
    rintro _ S2 ⟨rfl, rfl⟩
    rw [ws_if]
    simp_arith only [↓wp_lc, wipeD]
    refine wp_noEx (wp_lcF (fun _ => true) (fun _ => .bl true) [.bl a, .bl b, .bl c, .bl e] trivial (by show 4 ≤ 16777216; decide) ?_ ?_)
    · intro x hx
      have : ∃ q, x = .bl q := by
        simp only [List.mem_cons, List.not_mem_nil, or_false] at hx
        rcases hx with h | h | h | h <;> exact ⟨_, h⟩
      obtain ⟨q, rfl⟩ := this
      simp! only []
      exact fun _ => trivial
    · have e2 : ([D.bl a, .bl b, .bl c, .bl e].filter (fun _ => true)).map (fun _ => D.bl true) = [true, true, true, true].map D.bl := rfl
      rw [e2]
      simp_arith only [↓wp_all_l, ed, wp_neRL _ hdat]
      rw [if_neg (by decide), ws_nil]
      exact ⟨rfl, _, _, _, _, rfl⟩
  · intro δ S _
    rw [ws_ret]
    simp_arith only []
theorem law_true (ns : List Int) (_ : ns.length ≤ 63) : ∃ S', F_law [.fln (ns.map D.int)] [] = .ok (.bl true, S') := by
  obtain ⟨d, S', e, rfl⟩ := wp_ex (law_wp ns)
  exact ⟨S', e⟩
end G

open PySem PySem.W PySem.Calls PyProof.Rows
set_option maxHeartbeats 0
set_option maxRecDepth 100000 in
set_option maxHeartbeats 0 in
theorem PySem.Challenge.cw_manylanes_k11_kinds_known_holds : PySem.Challenge.rw_manylanes_k11_kinds_known.Holds := by
  w_on; o_law
  refine HandSHeadRun.head_any (r := OpenLaw.row PySem.Challenge.rw_manylanes_k11_kinds_known) (q := view (OpenLaw.row PySem.Challenge.rw_manylanes_k11_kinds_known).prog [27]) (H := G.hk) (ob := G.ob) (M := 6000) (loose := G.loose) (d := HandSHeadRun.topDef (OpenLaw.row PySem.Challenge.rw_manylanes_k11_kinds_known).prog 27) (kwd := []) G.ob_eq
    (by kernel_rfl) (fun s => by kernel_rfl) G.run (by kernel_rfl) (by kernel_rfl) (by kernel_rfl) (by rfl) (by first | assumption | decide +kernel) (by decide +kernel) ⟨rfl, rfl, rfl, rfl, rfl, by decide +kernel⟩ ?hw ?hc
  case hw => w_witness2
  case hc =>
    refine DL.walk_ofX (l := PySem.Challenge.rw_manylanes_k11_kinds_known) (n := 63) (k := 7) (x := "_law_script") rfl (by decide) (by kernel_rfl) ⟨rfl, by decide, by decide⟩ ?F
    intro w mg fa h Y NS hmg0
    obtain ⟨K, KX, c, hchk⟩ := Y
    have T := G.tx_of KX NS c hchk
    have hmg : mg ("law" : PySem.Str) = some (.ref fa) := by
      have e : (HandSHeadRun.topDef (OpenLaw.row PySem.Challenge.rw_manylanes_k11_kinds_known).prog 27).name = ("law" : PySem.Str) := by kernel_rfl
      rw [← e]
      exact hmg0
    have e := hmg.symm.trans T.g_law
    cases e
    obtain ⟨fd, hb, hF⟩ := G.ok_law (P := (PySem.Challenge.rw_manylanes_k11_kinds_known).prog) (w := w) T
    exact ⟨K, fd, DL.SpD K 1 G.F_law, KX, hb, fun H a ns hl _ hS => DL.law_sp G.law_true H a ns hl hS, fun base _ _ => hF base⟩
