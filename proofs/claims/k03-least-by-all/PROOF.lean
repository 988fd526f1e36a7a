import PyProof.Rows.All
import Wide.All
import OpenK.AllK
import Wide.FinOn
import HandS.ForMost
import HandS.Wide
import HandS.TupAny
import HandS.TupLe
import HandS.Deep
import HandS.IsInst
import HandS.Zip
import HandS.SortOrd
import HandS.SortRule
import HandS.Flow
import HandS.Style
import HandS.Small
import KE.SortData
import KE.DataCmp
import PySem.Challenge.RW_breakbars_k03_least_by_all
import HandS.Head0
import HandS.Head1
import HandS.Head2
import HandS.HeadEnd
import HandS.HeadHook1
set_option Elab.async false
set_option linter.all false
set_option maxRecDepth 100000
set_option maxHeartbeats 0
/-! An own layer: plain values DV, a store of mutable objects, runs over them, and that the machine does what the runs say. -/
namespace BB
open PySem PySem.Spec PyProof.Rows L2

/-- plain values: lst, dic, ins are frozen objects (never changed any more), loc n the n-th object of the store, scr the script -/
inductive DV where
  | non | bl (b : Bool) | int (i : Int) | str (x : Str)
  | tup (ds : List DV)
  | lst (ds : List DV)
  | dic (ks : List (List Key)) (ds : List DV)
  | ins (c : Nat) (ns : List Str) (ds : List DV)
  | scr (ns : List Int)
  | loc (n : Nat)
  | ty (n : String)
  | cls (c : Nat)
/-- objects of the store -/
inductive DO where
  | lst (ds : List DV)
  | dT (ks : List (List Key)) (ds : List DV)
  | dK (ks : List Key) (ds : List DV)
  | dKf (ks : List Key) (ds : List DV)
  | ins (c : Nat) (ns : List Str) (ds : List DV)
  /-- an object that is frozen by now -/
  | dead
abbrev Sto := List DO
abbrev Env := List (Option DV)

/-- what the machine's abstract heap is to us: H, the frozen objects F, where the store's objects stand -/
structure Sys where
  H : Hp
  F : Addr → Prop
  r : Nat → Addr
  N : Nat

/-- the script: locked, frozen, or written -/
def ScrAt (K : PySem.W.Frag) (S : Sys) (a : Addr) (xs : List V) : Prop :=
  (∃ o, S.H a = some (.frz o (.lst xs))) ∨ (S.F a ∧ S.H a = some (.lst xs)) ∨
    ∃ (o : Obj) (its : Array Value) (n : Nat), K.lookup a = some o ∧ o.cls = .type "list" ∧ o.dict = none ∧ o.data = .seq its n ∧ its.size ≤ sizeLine ∧ Vals xs its.toList
theorem ScrAt.sq {K : PySem.W.Frag} {S : Sys} {a : Addr} {xs : List V} (h : ScrAt K S a xs) : SqL K S.H a xs := by
  rcases h with ⟨o, h⟩ | ⟨_, h⟩ | h
  · exact .inl (.inr ⟨o, h⟩)
  · exact .inl (.inl h)
  · exact .inr h
section
variable (K : PySem.W.Frag) (cA : Nat → Addr)
mutual
def Rep (S : Sys) : DV → V → Prop
  | .non, v => v = .non
  | .bl b, v => v = .bl b
  | .int i, v => v = .int i
  | .str x, v => v = .str x
  | .tup ds, v => ∃ a vs, v = .ref a ∧ S.H a = some (.tup vs) ∧ RepL S ds vs
  | .lst ds, v => ∃ a vs, v = .ref a ∧ S.F a ∧ S.H a = some (.lst vs) ∧ RepL S ds vs
  | .dic ks ds, v => ∃ a kvs, v = .ref a ∧ S.F a ∧ S.H a = some (.dT kvs) ∧ kvs.map (·.1) = ks ∧ RepL S ds (kvs.map (·.2))
  | .ins c ns ds, v => ∃ a dx fvs, v = .ref a ∧ S.F a ∧ S.H a = some (.ins (cA c) dx fvs) ∧ fvs.map (·.1) = ns ∧ RepL S ds (fvs.map (·.2))
  | .scr ns, v => ∃ a, v = .ref a ∧ ScrAt K S a (ns.map V.int)
  | .loc n, v => n < S.N ∧ v = .ref (S.r n)
  | .ty n, v => v = .ty n
  | .cls c, v => v = .ref (cA c)
def RepL (S : Sys) : List DV → List V → Prop
  | [], vs => vs = []
  | d :: ds, vs => ∃ v r, vs = v :: r ∧ Rep S d v ∧ RepL S ds r
end
/-- an object of the store, as it stands -/
def ORep (S : Sys) : DO → Option HO → Prop
  | .lst ds, o => ∃ vs, o = some (.lst vs) ∧ RepL K cA S ds vs
  | .dT ks ds, o => ∃ kvs, o = some (.dT kvs) ∧ kvs.map (·.1) = ks ∧ RepL K cA S ds (kvs.map (·.2)) ∧ ks.Nodup
  | .dK ks ds, o => ∃ kvs, o = some (.dK kvs) ∧ kvs.map (·.1) = ks ∧ RepL K cA S ds (kvs.map (·.2)) ∧ ks.Nodup
  | .dKf ks ds, o => ∃ ob kvs, o = some (.frz ob (.dK kvs)) ∧ kvs.map (·.1) = ks ∧ RepL K cA S ds (kvs.map (·.2)) ∧ ks.Nodup
  | .ins c ns ds, o => ∃ dx fvs, o = some (.ins (cA c) dx fvs) ∧ fvs.map (·.1) = ns ∧ RepL K cA S ds (fvs.map (·.2))
  | .dead, o => (∃ vs, o = some (.lst vs)) ∨ (∃ kvs, o = some (.dT kvs)) ∨ ∃ c d f, o = some (.ins c d f)
structure StoOk (S : Sys) (sto : Sto) : Prop where
  len : sto.length = S.N
  nf : ∀ n, n < S.N → S.F (S.r n) → sto[n]? = some .dead
  inj : ∀ n m, n < S.N → m < S.N → S.r n = S.r m → n = m
  ob : ∀ n o, sto[n]? = some o → ORep K cA S o (S.H (S.r n))
  fs : ∀ a, S.F a → S.H a ≠ none
end
/-- later: the old objects of the store may have changed, nothing else of what was known -/
structure Grow (S S' : Sys) : Prop where
  n : S.N ≤ S'.N
  r : ∀ n, n < S.N → S'.r n = S.r n
  f : ∀ a, S.F a → S'.F a
  h : ∀ a o, S.H a = some o → (S.F a ∨ ∀ n, n < S.N → S.r n ≠ a) → S'.H a = some o
  new : ∀ n, S.N ≤ n → n < S'.N → S.H (S'.r n) = none
  st : ∀ n, n < S.N → S'.H (S.r n) ≠ none
  fn : ∀ a, S'.F a → S.F a ∨ S.H a = none ∨ ∃ n, n < S.N ∧ a = S.r n
  z : ∀ a o u, S.H a = some (.frz o u) → S'.H a = some (.frz o u)

section
variable {K : PySem.W.Frag} {cA : Nat → Addr} {S S' S1 S2 : Sys} {sto sto' : Sto}
theorem Grow.refl (ok : StoOk K cA S sto) : Grow S S := ⟨Nat.le_refl _, fun _ _ => rfl, fun _ h => h, fun _ _ h _ => h, fun n h1 h2 => absurd h2 (by omega), fun n hn => by
  have hl : n < sto.length := by rw [ok.len]; exact hn
  have := ok.ob n sto[n] (List.getElem?_eq_getElem hl)
  intro z
  rw [z] at this
  cases h : sto[n] <;> rw [h] at this <;> simp [ORep] at this, fun _ h => .inl h, fun _ _ _ h => h⟩
theorem Grow.trans (a : Grow S S1) (b : Grow S1 S2) : Grow S S2 where
  n := Nat.le_trans a.n b.n
  r := fun n hn => (b.r n (Nat.lt_of_lt_of_le hn a.n)).trans (a.r n hn)
  f := fun x h => b.f x (a.f x h)
  h := fun x o h hx => b.h x o (a.h x o h hx) <| hx.elim (fun hf => .inl (a.f x hf)) fun hx => .inr fun n hn => by
    by_cases h1 : n < S.N
    · rw [a.r n h1]; exact hx n h1
    · intro z
      have := a.new n (by omega) hn
      rw [z, h] at this; cases this
  new := fun n h1 h2 => by
    by_cases h3 : n < S1.N
    · rw [b.r n h3]; exact a.new n h1 h3
    · have q := b.new n (by omega) h2
      cases e : S.H (S2.r n) with
      | none => rfl
      | some o =>
        exfalso
        by_cases hx : ∀ m, m < S.N → S.r m ≠ S2.r n
        · rw [a.h _ _ e (.inr hx)] at q; cases q
        · simp only [Classical.not_forall, Classical.not_not] at hx
          obtain ⟨m, hm, z⟩ := hx
          exact a.st m hm (by rw [z]; exact q)
  st := fun n hn => by
    have := b.st n (Nat.lt_of_lt_of_le hn a.n)
    rw [a.r n hn] at this
    exact this
  fn := fun x h => by
    rcases b.fn x h with h1 | h1 | ⟨n, hn, h1⟩
    · exact a.fn x h1
    · refine .inr (.inl ?_)
      cases e : S.H x with
      | none => rfl
      | some o =>
        exfalso
        by_cases hx : ∀ m, m < S.N → S.r m ≠ x
        · rw [a.h _ _ e (.inr hx)] at h1; cases h1
        · simp only [Classical.not_forall, Classical.not_not] at hx
          obtain ⟨m, hm, z⟩ := hx
          exact a.st m hm (by rw [z]; exact h1)
    · by_cases hs : n < S.N
      · exact .inr (.inr ⟨n, hs, by rw [h1, a.r n hs]⟩)
      · exact .inr (.inl (by rw [h1]; exact a.new n (by omega) hn))
  z := fun x o u h => b.z x o u (a.z x o u h)

theorem StoOk.kind (ok : StoOk K cA S sto) {n : Nat} (hn : n < S.N) : (∃ xs, S.H (S.r n) = some (.lst xs)) ∨ (∃ xs, S.H (S.r n) = some (.dT xs)) ∨ (∃ xs, S.H (S.r n) = some (.dK xs)) ∨ (∃ o xs, S.H (S.r n) = some (.frz o (.dK xs))) ∨ ∃ c d f, S.H (S.r n) = some (.ins c d f) := by
  have hl : n < sto.length := by rw [ok.len]; exact hn
  have := ok.ob n sto[n] (List.getElem?_eq_getElem hl)
  cases h : sto[n] <;> rw [h] at this
  · obtain ⟨vs, e, _⟩ := this; exact .inl ⟨_, e⟩
  · obtain ⟨vs, e, _⟩ := this; exact .inr (.inl ⟨_, e⟩)
  · obtain ⟨vs, e, _⟩ := this; exact .inr (.inr (.inl ⟨_, e⟩))
  · obtain ⟨ob, vs, e, _⟩ := this; exact .inr (.inr (.inr (.inl ⟨_, _, e⟩)))
  · obtain ⟨dx, fv, e, _⟩ := this; exact .inr (.inr (.inr (.inr ⟨_, _, _, e⟩)))
  · rcases this with ⟨_, e⟩ | ⟨_, e⟩ | ⟨_, _, _, e⟩
    · exact .inl ⟨_, e⟩
    · exact .inr (.inl ⟨_, e⟩)
    · exact .inr (.inr (.inr (.inr ⟨_, _, _, e⟩)))
theorem StoOk.ntup (ok : StoOk K cA S sto) {a : Addr} {vs : List V} (h : S.H a = some (.tup vs)) : ∀ n, n < S.N → S.r n ≠ a := fun n hn z => by
  rw [← z] at h
  rcases ok.kind hn with ⟨_, e⟩ | ⟨_, e⟩ | ⟨_, e⟩ | ⟨_, _, e⟩ | ⟨_, _, _, e⟩ <;> rw [e] at h <;> cases h
theorem StoOk.alive (ok : StoOk K cA S sto) {n : Nat} {x : DO} (h : sto[n]? = some x) (hx : x ≠ .dead) : ¬ S.F (S.r n) := fun hf => by
  have := ok.nf n (by rw [← ok.len]; exact (List.getElem?_eq_some_iff.mp h).1) hf
  rw [h] at this
  exact hx (Option.some.inj this)

/-- what holds of the old heap holds of the later one: frozen, a tuple, locked -/
structure Keeps (S S' : Sys) : Prop where
  n : S.N ≤ S'.N
  r : ∀ n, n < S.N → S'.r n = S.r n
  f : ∀ a, S.F a → S'.F a
  h : ∀ a o, S.H a = some o → S.F a → S'.H a = some o
  t : ∀ a vs, S.H a = some (.tup vs) → S'.H a = some (.tup vs)
  z : ∀ a o xs, S.H a = some (.frz o (.lst xs)) → S'.H a = some (.frz o (.lst xs))
theorem Grow.keeps (g : Grow S S') (ok : StoOk K cA S sto) : Keeps S S' :=
  ⟨g.n, g.r, g.f, fun a o h hf => g.h a o h (.inl hf), fun a vs h => g.h a _ h (.inr (ok.ntup h)), fun a o xs h => g.z a o _ h⟩
mutual
theorem Rep.keep (k : Keeps S S') : ∀ (d : DV) (v : V), Rep K cA S d v → Rep K cA S' d v
  | .non, v, h => h
  | .bl b, v, h => h
  | .int i, v, h => h
  | .str x, v, h => h
  | .tup ds, v, ⟨a, vs, e, h1, h2⟩ => ⟨a, vs, e, k.t a vs h1, RepL.keep k ds vs h2⟩
  | .lst ds, v, ⟨a, vs, e, h0, h1, h2⟩ => ⟨a, vs, e, k.f a h0, k.h a _ h1 h0, RepL.keep k ds vs h2⟩
  | .dic ks ds, v, ⟨a, kvs, e, h0, h1, h3, h2⟩ => ⟨a, kvs, e, k.f a h0, k.h a _ h1 h0, h3, RepL.keep k ds _ h2⟩
  | .ins c ns ds, v, ⟨a, dx, fvs, e, h0, h1, h3, h2⟩ => ⟨a, dx, fvs, e, k.f a h0, k.h a _ h1 h0, h3, RepL.keep k ds _ h2⟩
  | .scr ns, v, ⟨a, e, h1⟩ => ⟨a, e, by
    rcases h1 with ⟨o, h1⟩ | ⟨h0, h1⟩ | h1
    · exact .inl ⟨o, k.z a o _ h1⟩
    · exact .inr (.inl ⟨k.f a h0, k.h a _ h1 h0⟩)
    · exact .inr (.inr h1)⟩
  | .loc n, v, ⟨h1, h2⟩ => ⟨Nat.lt_of_lt_of_le h1 k.n, by rw [k.r n h1]; exact h2⟩
  | .ty n, v, h => h
  | .cls c, v, h => h
theorem RepL.keep (k : Keeps S S') : ∀ (ds : List DV) (vs : List V), RepL K cA S ds vs → RepL K cA S' ds vs
  | [], vs, h => h
  | d :: ds, vs, ⟨v, r, e, h1, h2⟩ => ⟨v, r, e, Rep.keep k d v h1, RepL.keep k ds r h2⟩
end
theorem ORep.keep (k : Keeps S S') : ∀ (d : DO) (o : Option HO), ORep K cA S d o → ORep K cA S' d o
  | .lst ds, o, ⟨vs, e, h⟩ => ⟨vs, e, RepL.keep k ds vs h⟩
  | .dT ks ds, o, ⟨kvs, e, h1, h, nd⟩ => ⟨kvs, e, h1, RepL.keep k ds _ h, nd⟩
  | .dK ks ds, o, ⟨kvs, e, h1, h, nd⟩ => ⟨kvs, e, h1, RepL.keep k ds _ h, nd⟩
  | .dKf ks ds, o, ⟨ob, kvs, e, h1, h, nd⟩ => ⟨ob, kvs, e, h1, RepL.keep k ds _ h, nd⟩
  | .ins c ns ds, o, ⟨dx, fvs, e, h1, h⟩ => ⟨dx, fvs, e, h1, RepL.keep k ds _ h⟩
  | .dead, o, h => h
theorem Rep.grow {d : DV} {v : V} (h : Rep K cA S d v) (ok : StoOk K cA S sto) (g : Grow S S') : Rep K cA S' d v := Rep.keep (g.keeps ok) d v h
theorem RepL.grow {ds : List DV} {vs : List V} (h : RepL K cA S ds vs) (ok : StoOk K cA S sto) (g : Grow S S') : RepL K cA S' ds vs := RepL.keep (g.keeps ok) ds vs h
theorem RepL.length : ∀ {ds : List DV} {vs : List V}, RepL K cA S ds vs → ds.length = vs.length
  | [], _, h => by cases h; rfl
  | d :: ds, _, ⟨v, r, e, _, h⟩ => by subst e; simp [RepL.length h]
theorem RepL.app : ∀ {ds es : List DV} {vs us : List V}, RepL K cA S ds vs → RepL K cA S es us → RepL K cA S (ds ++ es) (vs ++ us)
  | [], _, _, _, h, q => by cases h; exact q
  | d :: ds, _, _, _, ⟨v, r, e, h1, h2⟩, q => by subst e; exact ⟨v, r ++ _, rfl, h1, RepL.app h2 q⟩
theorem RepL.one {d : DV} {v : V} (h : Rep K cA S d v) : RepL K cA S [d] [v] := ⟨v, [], rfl, h, rfl⟩
theorem RepL.get : ∀ {ds : List DV} {vs : List V} {i : Nat} {d : DV}, RepL K cA S ds vs → ds[i]? = some d → ∃ v, vs[i]? = some v ∧ Rep K cA S d v
  | [], _, _, _, _, e => by simp at e
  | d :: ds, _, 0, x, ⟨v, r, e, h, _⟩, q => by subst e; simp at q; subst q; exact ⟨v, rfl, h⟩
  | d :: ds, _, i + 1, x, ⟨v, r, e, _, h⟩, q => by
    subst e
    obtain ⟨v', h1, h2⟩ := RepL.get (i := i) (d := x) h (by simpa using q)
    exact ⟨v', by simpa using h1, h2⟩
theorem RepL.set {d : DV} {v : V} (hd : Rep K cA S d v) : ∀ {ds : List DV} {vs : List V} (i : Nat), RepL K cA S ds vs → RepL K cA S (ds.set i d) (vs.set i v)
  | [], _, _, h => by cases h; rfl
  | x :: ds, _, 0, ⟨v, r, e, h, q⟩ => by subst e; exact ⟨_, _, rfl, hd, q⟩
  | x :: ds, _, i + 1, ⟨v, r, e, h, q⟩ => by subst e; exact ⟨v, _, rfl, h, RepL.set hd i q⟩
theorem RepL.drop : ∀ {ds : List DV} {vs : List V} (i : Nat), RepL K cA S ds vs → RepL K cA S (ds.drop i) (vs.drop i)
  | _, _, 0, h => h
  | [], _, _ + 1, h => by cases h; rfl
  | x :: ds, _, i + 1, ⟨v, r, e, h, q⟩ => by subst e; exact RepL.drop i q
theorem RepL.take : ∀ {ds : List DV} {vs : List V} (i : Nat), RepL K cA S ds vs → RepL K cA S (ds.take i) (vs.take i)
  | _, _, 0, h => rfl
  | [], _, _ + 1, h => by cases h; rfl
  | x :: ds, _, i + 1, ⟨v, r, e, h, q⟩ => by subst e; exact ⟨v, _, rfl, h, RepL.take i q⟩
theorem RepL.split : ∀ {ds es : List DV} {vs : List V}, RepL K cA S (ds ++ es) vs → ∃ us ws, vs = us ++ ws ∧ RepL K cA S ds us ∧ RepL K cA S es ws
  | [], es, vs, h => ⟨[], vs, rfl, rfl, h⟩
  | d :: ds, es, _, ⟨v, r, e, h1, h2⟩ => by
    obtain ⟨us, ws, e2, q1, q2⟩ := RepL.split h2
    subst e; subst e2
    exact ⟨v :: us, ws, rfl, ⟨v, us, rfl, h1, q1⟩, q2⟩
theorem RepL.rev : ∀ {ds : List DV} {vs : List V}, RepL K cA S ds vs → RepL K cA S ds.reverse vs.reverse
  | [], _, h => by cases h; rfl
  | d :: ds, _, ⟨v, r, e, h1, h2⟩ => by
    subst e
    rw [List.reverse_cons, List.reverse_cons]
    exact RepL.app (RepL.rev h2) (RepL.one h1)
end

/-! ### runs -/
inductive Res (α : Type) where
  | ok (a : α) (sto : Sto)
  | exc (c : Nat) (sto : Sto)
  | stuck
def Res.bind {α β : Type} (r : Res α) (f : α → Sto → Res β) : Res β := match r with
  | .ok a s => f a s
  | .exc c s => .exc c s
  | .stuck => .stuck
@[simp] theorem Res.bind_ok {α β : Type} (a : α) (s : Sto) (f : α → Sto → Res β) : (Res.ok a s).bind f = f a s := rfl
@[simp] theorem Res.bind_exc {α β : Type} (c : Nat) (s : Sto) (f : α → Sto → Res β) : (Res.exc c s : Res α).bind f = .exc c s := rfl
@[simp] theorem Res.bind_stuck {α β : Type} (f : α → Sto → Res β) : (Res.stuck : Res α).bind f = .stuck := rfl
abbrev EM := Env → Sto → Res DV
abbrev TM := Env → Sto → Res Bool
abbrev AM := Env → Sto → Res (List DV)
/-- a statement's end -/
inductive Out where
  | nx (env : Env) (sto : Sto)
  | rt (d : DV) (sto : Sto)
  | bk (env : Env) (sto : Sto)
  | ct (env : Env) (sto : Sto)
  | exc (c : Nat) (env : Env) (sto : Sto)
  | stuck
abbrev SM := Env → Sto → Out

section
variable (K : PySem.W.Frag) (cA : Nat → Addr)
def EnvOk (S : Sys) (env : Env) (σ : L2.St) : Prop := env.length = σ.length ∧ ∀ (i : Nat) d, env[i]? = some (some d) → ∃ v, σ[i]? = some (some v) ∧ Rep K cA S d v
def Post {α : Type} (S : Sys) (r : Res α) (Q : α → Sto → Sys → Prop) (Z : Nat → Sto → Sys → Prop) : Prop := match r with
  | .ok a s => ∀ S', Grow S S' → StoOk K cA S' s → Q a s S'
  | .exc c s => ∀ S', Grow S S' → StoOk K cA S' s → Z c s S'
  | .stuck => False
def OPost (S : Sys) (o : Out) (D : Ends) (Z : Nat → L2.St → Hp → Prop) : Prop := match o with
  | .nx env s => ∀ S' σ', Grow S S' → StoOk K cA S' s → EnvOk K cA S' env σ' → D.nx σ' S'.H
  | .rt d s => ∀ S' v, Grow S S' → StoOk K cA S' s → Rep K cA S' d v → D.rt v S'.H
  | .bk env s => ∀ S' σ', Grow S S' → StoOk K cA S' s → EnvOk K cA S' env σ' → D.bk σ' S'.H
  | .ct env s => ∀ S' σ', Grow S S' → StoOk K cA S' s → EnvOk K cA S' env σ' → D.ct σ' S'.H
  | .exc c env s => ∀ S' σ', Grow S S' → StoOk K cA S' s → EnvOk K cA S' env σ' → Z c σ' S'.H
  | .stuck => False
end
section
variable {K : PySem.W.Frag} {cA : Nat → Addr} {S S' S1 S2 : Sys} {sto sto' : Sto} {env : Env} {σ : L2.St} {α β : Type}
theorem EnvOk.grow (h : EnvOk K cA S env σ) (ok : StoOk K cA S sto) (g : Grow S S') : EnvOk K cA S' env σ := ⟨h.1, fun i d e => by
  obtain ⟨v, e1, e2⟩ := h.2 i d e
  exact ⟨v, e1, e2.grow ok g⟩⟩
theorem EnvOk.set (h : EnvOk K cA S env σ) {i : Nat} {d : DV} {v : V} (hd : Rep K cA S d v) : EnvOk K cA S (env.set i (some d)) (σ.set i (some v)) := ⟨by simp [h.1], fun j e hj => by
  by_cases hji : i = j
  · subst hji
    by_cases hl : i < env.length
    · rw [List.getElem?_set_self hl] at hj
      cases hj
      exact ⟨v, List.getElem?_set_self (by rw [← h.1]; exact hl), hd⟩
    · rw [List.getElem?_eq_none (by simpa using hl)] at hj; cases hj
  · rw [List.getElem?_set_ne hji] at hj
    obtain ⟨w, e1, e2⟩ := h.2 j e hj
    exact ⟨w, by rw [List.getElem?_set_ne hji]; exact e1, e2⟩⟩
theorem EnvOk.forget (h : EnvOk K cA S env σ) {i : Nat} : EnvOk K cA S (env.set i none) σ := ⟨by simp [h.1], fun j e hj => by
  by_cases hji : i = j
  · subst hji
    by_cases hl : i < env.length
    · rw [List.getElem?_set_self hl] at hj; cases hj
    · rw [List.getElem?_eq_none (by simpa using hl)] at hj; cases hj
  · rw [List.getElem?_set_ne hji] at hj
    exact h.2 j e hj⟩
theorem EnvOk.setNone (h : EnvOk K cA S env σ) {i : Nat} : EnvOk K cA S (env.set i none) (σ.set i none) := ⟨by simp [h.1], fun j e hj => by
  by_cases hji : i = j
  · subst hji
    by_cases hl : i < env.length
    · rw [List.getElem?_set_self hl] at hj; cases hj
    · rw [List.getElem?_eq_none (by simpa using hl)] at hj; cases hj
  · rw [List.getElem?_set_ne hji] at hj
    obtain ⟨w, e1, e2⟩ := h.2 j e hj
    exact ⟨w, by rw [List.getElem?_set_ne hji]; exact e1, e2⟩⟩
theorem Post.grow {r : Res α} {Q : α → Sto → Sys → Prop} {Z : Nat → Sto → Sys → Prop} (h : Post K cA S r Q Z) (g : Grow S S1) : Post K cA S1 r Q Z := by
  cases r with
  | ok a s => exact fun S' g' ok => h S' (g.trans g') ok
  | exc c s => exact fun S' g' ok => h S' (g.trans g') ok
  | stuck => exact h
theorem Post.imp {r : Res α} {Q Q' : α → Sto → Sys → Prop} {Z Z' : Nat → Sto → Sys → Prop} (h : Post K cA S r Q Z) (hq : ∀ a s S', Grow S S' → StoOk K cA S' s → Q a s S' → Q' a s S') (hz : ∀ c s S', Grow S S' → StoOk K cA S' s → Z c s S' → Z' c s S') : Post K cA S r Q' Z' := by
  cases r with
  | ok a s => exact fun S' g' ok => hq _ _ _ g' ok (h S' g' ok)
  | exc c s => exact fun S' g' ok => hz _ _ _ g' ok (h S' g' ok)
  | stuck => exact h
theorem Post.bind {r : Res α} {f : α → Sto → Res β} {Q : β → Sto → Sys → Prop} {Z : Nat → Sto → Sys → Prop} (h : Post K cA S (r.bind f) Q Z) : Post K cA S r (fun a s S1 => Post K cA S1 (f a s) Q Z) Z := by
  cases r with
  | ok a s => exact fun S' g' ok => Post.grow h g'
  | exc c s => exact h
  | stuck => exact h
theorem OPost.grow {o : Out} {D : Ends} {Z : Nat → L2.St → Hp → Prop} (h : OPost K cA S o D Z) (g : Grow S S1) : OPost K cA S1 o D Z := by
  cases o with
  | nx e s => exact fun S' σ' g' ok eo => h S' σ' (g.trans g') ok eo
  | rt d s => exact fun S' σ' g' ok eo => h S' σ' (g.trans g') ok eo
  | bk e s => exact fun S' σ' g' ok eo => h S' σ' (g.trans g') ok eo
  | ct e s => exact fun S' σ' g' ok eo => h S' σ' (g.trans g') ok eo
  | exc c e s => exact fun S' σ' g' ok eo => h S' σ' (g.trans g') ok eo
  | stuck => exact h
end
/-- a run that goes on as a statement -/
def Res.out {α : Type} (r : Res α) (env : Env) (f : α → Sto → Out) : Out := match r with
  | .ok a s => f a s
  | .exc c s => .exc c env s
  | .stuck => .stuck
@[simp] theorem Res.out_ok {α : Type} (a : α) (s : Sto) (env : Env) (f : α → Sto → Out) : (Res.ok a s).out env f = f a s := rfl
@[simp] theorem Res.out_exc {α : Type} (c : Nat) (s : Sto) (env : Env) (f : α → Sto → Out) : (Res.exc c s : Res α).out env f = .exc c env s := rfl
@[simp] theorem Res.out_stuck {α : Type} (env : Env) (f : α → Sto → Out) : (Res.stuck : Res α).out env f = .stuck := rfl
theorem OPost.out {K : PySem.W.Frag} {cA : Nat → Addr} {S : Sys} {sto : Sto} {env : Env} {σ : L2.St} {α : Type} {r : Res α} {f : α → Sto → Out} {D : Ends} {Z : Nat → L2.St → Hp → Prop} (h : OPost K cA S (r.out env f) D Z) (ok : StoOk K cA S sto) (eo : EnvOk K cA S env σ) :
    Post K cA S r (fun a s S1 => OPost K cA S1 (f a s) D Z) (fun c _ S1 => Z c σ S1.H) := by
  cases r with
  | ok a s => exact fun S' g' _ => OPost.grow h g'
  | exc c s => exact fun S' g' o1 => h S' σ g' o1 (eo.grow ok g')
  | stuck => exact h

/-! ### the judgements -/
section
variable (X : Cx) (cA : Nat → Addr) (Z : Nat → L2.St → Hp → Prop)
def wE (e : Expr) : TE := fun σ H Q => ∀ pins s, Inv X pins σ H s → wpAny (model X.prog X.w) X.A (eval e X.env) (EP X pins σ Q) X.xe s
def wT (e : Expr) : TT := fun σ H Q => ∀ pins s, Inv X pins σ H s → wpAny (model X.prog X.w) X.A (isTrue e X.env (eval e X.env)) (TP X pins σ Q) X.xe s
def wA (es : List Expr) : TA := fun σ H Q => ∀ pos pins s, Inv X pins σ H s → wpAny (model X.prog X.w) X.A (spliced (backTo pos (starEach es X.env))) (AP X pins σ Q) X.xe s
def wS (st : Stmt) : TS := fun D σ H => ∀ pins s, Inv X pins σ H s → wpAny (model X.prog X.w) X.A (exec st X.env) (SP X pins D) X.xe s
def wSs (st : List Stmt) : TS := fun D σ H => ∀ pins s, Inv X pins σ H s → wpAny (model X.prog X.w) X.A (execs st X.env) (SP X pins D) X.xe s
/-- e runs as m says -/
def GE (e : Expr) (m : EM) : Prop := ∀ S σ env sto, StoOk X.K cA S sto → EnvOk X.K cA S env σ → ∀ Q : VK, Post X.K cA S (m env sto) (fun d _ S' => ∀ v, Rep X.K cA S' d v → Q v S'.H) (fun c _ S' => Z c σ S'.H) → wE X e σ S.H Q
def GT (e : Expr) (m : TM) : Prop := ∀ S σ env sto, StoOk X.K cA S sto → EnvOk X.K cA S env σ → ∀ Q : Bool → Hp → Prop, Post X.K cA S (m env sto) (fun d _ S' => Q d S'.H) (fun c _ S' => Z c σ S'.H) → wT X e σ S.H Q
def GA (es : List Expr) (m : AM) : Prop := ∀ S σ env sto, StoOk X.K cA S sto → EnvOk X.K cA S env σ → ∀ Q : List V → Hp → Prop, Post X.K cA S (m env sto) (fun ds _ S' => ∀ vs, RepL X.K cA S' ds vs → Q vs S'.H) (fun c _ S' => Z c σ S'.H) → wA X es σ S.H Q
def GS (st : Stmt) (m : SM) : Prop := ∀ S σ env sto, StoOk X.K cA S sto → EnvOk X.K cA S env σ → ∀ D : Ends, OPost X.K cA S (m env sto) D Z → wS X st D σ S.H
def GSs (st : List Stmt) (m : SM) : Prop := ∀ S σ env sto, StoOk X.K cA S sto → EnvOk X.K cA S env σ → ∀ D : Ends, OPost X.K cA S (m env sto) D Z → wSs X st D σ S.H
end
section
variable {X : Cx} {cA : Nat → Addr} {Z : Nat → L2.St → Hp → Prop}
theorem peW (e : Expr) : PE X e (wE X e) := ⟨fun pins s σ H Q I h => h pins s I⟩
theorem ptW (e : Expr) : PT X e (wT X e) := ⟨fun pins s σ H Q I h => h pins s I⟩
theorem paW (es : List Expr) : PA X es (wA X es) := ⟨fun pos pins s σ H Q I h => h pos pins s I⟩
theorem psW (st : Stmt) : PS X st (wS X st) := ⟨fun pins s σ H D I h => h pins s I⟩
theorem pssW (st : List Stmt) : PSs X st (wSs X st) := ⟨fun pins s σ H D I h => h pins s I⟩
theorem wE.of {e : Expr} {t : TE} (h : PE X e t) {σ : L2.St} {H : Hp} {Q : VK} (q : t σ H Q) : wE X e σ H Q := fun pins s I => h.run pins s σ H Q I q
theorem wT.of {e : Expr} {t : TT} (h : PT X e t) {σ : L2.St} {H : Hp} {Q : Bool → Hp → Prop} (q : t σ H Q) : wT X e σ H Q := fun pins s I => h.run pins s σ H Q I q
theorem wA.of {es : List Expr} {t : TA} (h : PA X es t) {σ : L2.St} {H : Hp} {Q : List V → Hp → Prop} (q : t σ H Q) : wA X es σ H Q := fun pos pins s I => h.run pos pins s σ H Q I q
theorem wS.of {st : Stmt} {t : TS} (h : PS X st t) {σ : L2.St} {H : Hp} {D : Ends} (q : t D σ H) : wS X st D σ H := fun pins s I => h.run pins s σ H D I q
theorem wSs.of {st : List Stmt} {t : TS} (h : PSs X st t) {σ : L2.St} {H : Hp} {D : Ends} (q : t D σ H) : wSs X st D σ H := fun pins s I => h.run pins s σ H D I q

variable {S : Sys} {σ : L2.St} {env : Env} {sto : Sto} {α β : Type}
/-- the first part of a run -/
theorem GE.then {e : Expr} {m : EM} (g : GE X cA Z e m) (ok : StoOk X.K cA S sto) (eo : EnvOk X.K cA S env σ) {f : DV → Sto → Res β} {Qf : β → Sto → Sys → Prop} {Q : VK}
    (h : Post X.K cA S ((m env sto).bind f) Qf (fun c _ S' => Z c σ S'.H))
    (hq : ∀ d s S' v, Grow S S' → StoOk X.K cA S' s → EnvOk X.K cA S' env σ → Rep X.K cA S' d v → Post X.K cA S' (f d s) Qf (fun c _ S' => Z c σ S'.H) → Q v S'.H) : wE X e σ S.H Q :=
  g S σ env sto ok eo Q ((Post.bind h).imp (fun d s S' gr o1 p v r => hq d s S' v gr o1 (eo.grow ok gr) r p) fun _ _ _ _ _ z => z)
theorem GE.thenE {e : Expr} {m : EM} (g : GE X cA Z e m) (ok : StoOk X.K cA S sto) (eo : EnvOk X.K cA S env σ) {f : DV → Sto → Res β} {Qf : β → Sto → Sys → Prop} {Q : VK}
    (h : Post X.K cA S ((m env sto).bind f) Qf (fun c _ S' => Z c σ S'.H))
    (hq : ∀ d s S' v, m env sto = .ok d s → Grow S S' → StoOk X.K cA S' s → EnvOk X.K cA S' env σ → Rep X.K cA S' d v → Post X.K cA S' (f d s) Qf (fun c _ S' => Z c σ S'.H) → Q v S'.H) : wE X e σ S.H Q := by
  refine g S σ env sto ok eo Q ?_
  have h2 := Post.bind h
  cases e : m env sto with
  | ok a s =>
    rw [e] at h2
    exact fun S' gr o1 v r => hq a s S' v e gr o1 (eo.grow ok gr) r (h2 S' gr o1)
  | exc c s => rw [e] at h2; exact h2
  | stuck => rw [e] at h2; exact h2
theorem GT.then {e : Expr} {m : TM} (g : GT X cA Z e m) (ok : StoOk X.K cA S sto) (eo : EnvOk X.K cA S env σ) {f : Bool → Sto → Res β} {Qf : β → Sto → Sys → Prop} {Q : Bool → Hp → Prop}
    (h : Post X.K cA S ((m env sto).bind f) Qf (fun c _ S' => Z c σ S'.H))
    (hq : ∀ b s S', Grow S S' → StoOk X.K cA S' s → EnvOk X.K cA S' env σ → Post X.K cA S' (f b s) Qf (fun c _ S' => Z c σ S'.H) → Q b S'.H) : wT X e σ S.H Q :=
  g S σ env sto ok eo Q ((Post.bind h).imp (fun d s S' gr o1 p => hq d s S' gr o1 (eo.grow ok gr) p) fun _ _ _ _ _ z => z)
theorem GA.then {es : List Expr} {m : AM} (g : GA X cA Z es m) (ok : StoOk X.K cA S sto) (eo : EnvOk X.K cA S env σ) {f : List DV → Sto → Res β} {Qf : β → Sto → Sys → Prop} {Q : List V → Hp → Prop}
    (h : Post X.K cA S ((m env sto).bind f) Qf (fun c _ S' => Z c σ S'.H))
    (hq : ∀ ds s S' vs, Grow S S' → StoOk X.K cA S' s → EnvOk X.K cA S' env σ → RepL X.K cA S' ds vs → Post X.K cA S' (f ds s) Qf (fun c _ S' => Z c σ S'.H) → Q vs S'.H) : wA X es σ S.H Q :=
  g S σ env sto ok eo Q ((Post.bind h).imp (fun d s S' gr o1 p v r => hq d s S' v gr o1 (eo.grow ok gr) r p) fun _ _ _ _ _ z => z)
theorem GE.out {e : Expr} {m : EM} (g : GE X cA Z e m) (ok : StoOk X.K cA S sto) (eo : EnvOk X.K cA S env σ) {f : DV → Sto → Out} {D : Ends} {Q : VK}
    (h : OPost X.K cA S ((m env sto).out env f) D Z)
    (hq : ∀ d s S' v, Grow S S' → StoOk X.K cA S' s → EnvOk X.K cA S' env σ → Rep X.K cA S' d v → OPost X.K cA S' (f d s) D Z → Q v S'.H) : wE X e σ S.H Q :=
  g S σ env sto ok eo Q ((OPost.out h ok eo).imp (fun d s S' gr o1 p v r => hq d s S' v gr o1 (eo.grow ok gr) r p) fun _ _ _ _ _ z => z)
theorem GT.out {e : Expr} {m : TM} (g : GT X cA Z e m) (ok : StoOk X.K cA S sto) (eo : EnvOk X.K cA S env σ) {f : Bool → Sto → Out} {D : Ends} {Q : Bool → Hp → Prop}
    (h : OPost X.K cA S ((m env sto).out env f) D Z)
    (hq : ∀ d s S', Grow S S' → StoOk X.K cA S' s → EnvOk X.K cA S' env σ → OPost X.K cA S' (f d s) D Z → Q d S'.H) : wT X e σ S.H Q :=
  g S σ env sto ok eo Q ((OPost.out h ok eo).imp (fun d s S' gr o1 p => hq d s S' gr o1 (eo.grow ok gr) p) fun _ _ _ _ _ z => z)
theorem GA.out {es : List Expr} {m : AM} (g : GA X cA Z es m) (ok : StoOk X.K cA S sto) (eo : EnvOk X.K cA S env σ) {f : List DV → Sto → Out} {D : Ends} {Q : List V → Hp → Prop}
    (h : OPost X.K cA S ((m env sto).out env f) D Z)
    (hq : ∀ d s S' v, Grow S S' → StoOk X.K cA S' s → EnvOk X.K cA S' env σ → RepL X.K cA S' d v → OPost X.K cA S' (f d s) D Z → Q v S'.H) : wA X es σ S.H Q :=
  g S σ env sto ok eo Q ((OPost.out h ok eo).imp (fun d s S' gr o1 p v r => hq d s S' v gr o1 (eo.grow ok gr) r p) fun _ _ _ _ _ z => z)
end
end BB
namespace BB
open PySem PySem.Spec PyProof.Rows L2

theorem Res.bind_assoc {α β γ : Type} (r : Res α) (f : α → Sto → Res β) (g : β → Sto → Res γ) : (r.bind f).bind g = r.bind fun a s => (f a s).bind g := by
  cases r <;> rfl
/-! ### new objects -/
def Sys.addT (S : Sys) (p : Addr) (o : HO) : Sys := { S with H := upd S.H p o }
def Sys.addV (S : Sys) (p : Addr) (o : HO) : Sys := { S with H := upd S.H p o, F := fun a => S.F a ∨ a = p }
def Sys.addL (S : Sys) (p : Addr) (o : HO) : Sys := { S with H := upd S.H p o, r := fun n => if n = S.N then p else S.r n, N := S.N + 1 }
def Sys.mut (S : Sys) (n : Nat) (o : HO) : Sys := { S with H := upd S.H (S.r n) o }
section
variable {K : PySem.W.Frag} {cA : Nat → Addr} {S S' S1 S2 : Sys} {sto sto' : Sto} {p : Addr} {o : HO}
theorem StoOk.live (ok : StoOk K cA S sto) {n : Nat} (hn : n < S.N) : S.H (S.r n) ≠ none := (Grow.refl ok).st n hn
theorem StoOk.nep (ok : StoOk K cA S sto) (np : S.H p = none) {n : Nat} (hn : n < S.N) : S.r n ≠ p := fun z => ok.live hn (z ▸ np)
theorem StoOk.lt (ok : StoOk K cA S sto) {n : Nat} {x : DO} (h : sto[n]? = some x) : n < S.N := by
  rw [← ok.len]; exact (List.getElem?_eq_some_iff.mp h).1
theorem upd_of {H : Hp} {a : Addr} {u : HO} (h : H a = some u) (np : H p = none) : upd H p o a = some u := by
  rw [upd_ne (ne_of_none h np)]; exact h
theorem Grow.addT (ok : StoOk K cA S sto) (np : S.H p = none) : Grow S (S.addT p o) where
  n := Nat.le_refl _
  r := fun _ _ => rfl
  f := fun _ h => h
  h := fun a u h _ => upd_of h np
  new := fun n h1 h2 => absurd h2 (by show ¬ n < S.N; omega)
  st := fun n hn => by
    show upd S.H p o (S.r n) ≠ none
    rw [upd_ne (ok.nep np hn)]; exact ok.live hn
  fn := fun _ h => .inl h
  z := fun a o u h => upd_of h np
theorem Grow.addV (ok : StoOk K cA S sto) (np : S.H p = none) : Grow S (S.addV p o) where
  n := Nat.le_refl _
  r := fun _ _ => rfl
  f := fun _ h => .inl h
  h := fun a u h _ => upd_of h np
  new := fun n h1 h2 => absurd h2 (by show ¬ n < S.N; omega)
  st := fun n hn => by
    show upd S.H p o (S.r n) ≠ none
    rw [upd_ne (ok.nep np hn)]; exact ok.live hn
  fn := fun a h => by
    rcases h with h | h
    · exact .inl h
    · exact .inr (.inl (h ▸ np))
  z := fun a o u h => upd_of h np
theorem Grow.addL (ok : StoOk K cA S sto) (np : S.H p = none) : Grow S (S.addL p o) where
  n := Nat.le_succ _
  r := fun n hn => by
    show (if n = S.N then p else S.r n) = S.r n
    rw [if_neg (by omega)]
  f := fun _ h => h
  h := fun a u h _ => upd_of h np
  new := fun n h1 h2 => by
    have h2 : n < S.N + 1 := h2
    have e : n = S.N := by omega
    show S.H (if n = S.N then p else S.r n) = none
    rw [if_pos e]; exact np
  st := fun n hn => by
    show upd S.H p o (S.r n) ≠ none
    rw [upd_ne (ok.nep np hn)]; exact ok.live hn
  fn := fun _ h => .inl h
  z := fun a o u h => upd_of h np
theorem StoOk.addT (ok : StoOk K cA S sto) (np : S.H p = none) : StoOk K cA (S.addT p o) sto where
  len := ok.len
  nf := ok.nf
  inj := ok.inj
  ob := fun n x h => by
    show ORep K cA (S.addT p o) x (upd S.H p o (S.r n))
    rw [upd_ne (ok.nep np (ok.lt h))]
    exact ORep.keep ((Grow.addT ok np).keeps ok) _ _ (ok.ob n x h)
  fs := fun a h => by
    show upd S.H p o a ≠ none
    unfold upd; split
    · simp
    · exact ok.fs a h
theorem StoOk.addV (ok : StoOk K cA S sto) (np : S.H p = none) : StoOk K cA (S.addV p o) sto where
  len := ok.len
  nf := fun n hn h => by
    rcases h with h | h
    · exact ok.nf n hn h
    · exact (ok.nep np hn h).elim
  inj := ok.inj
  ob := fun n x h => by
    show ORep K cA (S.addV p o) x (upd S.H p o (S.r n))
    rw [upd_ne (ok.nep np (ok.lt h))]
    exact ORep.keep ((Grow.addV ok np).keeps ok) _ _ (ok.ob n x h)
  fs := fun a h => by
    show upd S.H p o a ≠ none
    unfold upd; split
    · simp
    · rcases h with h | h
      · exact ok.fs a h
      · contradiction
theorem StoOk.addL {d : DO} (ok : StoOk K cA S sto) (np : S.H p = none) (hd : ORep K cA S d (some o)) : StoOk K cA (S.addL p o) (sto ++ [d]) where
  len := by show (sto ++ [d]).length = S.N + 1; simp [ok.len]
  nf := fun n hn h => by
    have hn : n < S.N + 1 := hn
    have h : S.F (if n = S.N then p else S.r n) := h
    split at h
    · exact (ok.fs p h np).elim
    · rw [List.getElem?_append_left (by rw [ok.len]; omega)]; exact ok.nf n (by omega) h
  inj := fun n m hn hm e => by
    have hn : n < S.N + 1 := hn
    have hm : m < S.N + 1 := hm
    have e : (if n = S.N then p else S.r n) = (if m = S.N then p else S.r m) := e
    split at e <;> split at e
    · omega
    · exact absurd e.symm (ok.nep np (by omega))
    · exact absurd e (ok.nep np (by omega))
    · exact ok.inj n m (by omega) (by omega) e
  ob := fun n x h => by
    show ORep K cA (S.addL p o) x (upd S.H p o (if n = S.N then p else S.r n))
    by_cases hn : n = S.N
    · rw [if_pos hn, upd_same]
      rw [hn, ← ok.len, List.getElem?_append_right (Nat.le_refl _)] at h
      simp at h
      subst h
      exact ORep.keep ((Grow.addL ok np).keeps ok) _ _ hd
    · have hl : n < sto.length := by
        have := (List.getElem?_eq_some_iff.mp h).1
        simp at this
        rw [ok.len] at this ⊢; omega
      rw [List.getElem?_append_left hl] at h
      rw [if_neg hn, upd_ne (ok.nep np (ok.lt h))]
      exact ORep.keep ((Grow.addL ok np).keeps ok) _ _ (ok.ob n x h)
  fs := fun a h => by
    show upd S.H p o a ≠ none
    unfold upd; split
    · simp
    · exact ok.fs a h
/-- the n-th object is changed -/
theorem Grow.mut (ok : StoOk K cA S sto) {n : Nat} (hn : n < S.N) (na : ¬ S.F (S.r n)) (nz : ∀ o u, S.H (S.r n) ≠ some (.frz o u)) : Grow S (S.mut n o) where
  n := Nat.le_refl _
  r := fun _ _ => rfl
  f := fun _ h => h
  h := fun a u h ha => by
    show upd S.H (S.r n) o a = _
    rw [upd_ne (fun z => ha.elim (fun hf => na (by rw [← z]; exact hf)) fun q => q n hn z.symm)]; exact h
  new := fun m h1 h2 => absurd h2 (by show ¬ m < S.N; omega)
  st := fun m hm => by
    show upd S.H (S.r n) o (S.r m) ≠ none
    unfold upd; split
    · simp
    · exact ok.live hm
  fn := fun _ h => .inl h
  z := fun a o u h => by
    show upd S.H (S.r n) _ a = _
    rw [upd_ne (fun e => nz o u (by rw [← e]; exact h))]; exact h
theorem StoOk.mut {d : DO} (ok : StoOk K cA S sto) {n : Nat} (hn : n < S.N) (na : ¬ S.F (S.r n)) (nz : ∀ o u, S.H (S.r n) ≠ some (.frz o u)) (hd : ORep K cA S d (some o)) : StoOk K cA (S.mut n o) (sto.set n d) where
  len := by simp [ok.len]; rfl
  nf := fun m hm hf => by
    have hf : S.F (S.r m) := hf
    rw [List.getElem?_set_ne (fun e : n = m => na (e ▸ hf))]
    exact ok.nf m hm hf
  inj := ok.inj
  ob := fun m x h => by
    show ORep K cA (S.mut n o) x (upd S.H (S.r n) o (S.r m))
    by_cases e : n = m
    · subst e
      rw [List.getElem?_set_self (by rw [ok.len]; exact hn)] at h
      cases h
      rw [upd_same]
      exact ORep.keep ((Grow.mut ok hn na nz).keeps ok) _ _ hd
    · rw [List.getElem?_set_ne e] at h
      rw [upd_ne (fun z => e (ok.inj n m hn (ok.lt h) z.symm))]
      exact ORep.keep ((Grow.mut ok hn na nz).keeps ok) _ _ (ok.ob m x h)
  fs := fun a h => by
    show upd S.H (S.r n) o a ≠ none
    unfold upd; split
    · simp
    · exact ok.fs a h
end

/-! ### reading lists -/
/-- the items of a list: frozen, or of the store -/
def lstOf (sto : Sto) : DV → Option (List DV)
  | .lst ds => some ds
  | .loc n => match sto[n]? with
    | some (.lst ds) => some ds
    | _ => none
  | _ => none
section
variable {K : PySem.W.Frag} {cA : Nat → Addr} {S S' S1 S2 : Sys} {sto sto' : Sto} {p : Addr} {o : HO}
theorem lstOf.rep {d : DV} {v : V} {ds : List DV} (ok : StoOk K cA S sto) (r : Rep K cA S d v) (h : lstOf sto d = some ds) : ∃ a vs, v = .ref a ∧ S.H a = some (.lst vs) ∧ RepL K cA S ds vs := by
  cases d <;> simp only [lstOf] at h <;> try (cases h; done)
  case lst xs =>
    cases h
    obtain ⟨a, vs, e, _, h1, h2⟩ := r
    exact ⟨a, vs, e, h1, h2⟩
  case loc n =>
    split at h
    · rename_i xs e
      cases h
      obtain ⟨hn, ev⟩ := r
      obtain ⟨vs, e1, e2⟩ := ok.ob n _ e
      exact ⟨S.r n, vs, ev, e1, e2⟩
    · cases h
theorem sqL {a : Addr} {vs : List V} {H : Hp} (h : H a = some (.lst vs)) : SqL K H a vs := .inl (.inl h)
theorem sqT {a : Addr} {vs : List V} {H : Hp} (h : H a = some (.tup vs)) : SqT K H a vs := .inl (.inl h)
end
/-- what a list, a frozen list, a tuple holds -/
def seqOf (sto : Sto) : DV → Option (List DV)
  | .tup ds => some ds
  | .scr ns => some (ns.map DV.int)
  | d => lstOf sto d
section
variable {K : PySem.W.Frag} {cA : Nat → Addr} {S S' S1 S2 : Sys} {sto sto' : Sto} {p : Addr} {o : HO}
theorem RepL.ints : ∀ (ns : List Int), RepL K cA S (ns.map DV.int) (ns.map V.int)
  | [] => rfl
  | n :: ns => ⟨_, _, rfl, rfl, RepL.ints ns⟩
theorem RepL.ints_iff : ∀ {ns : List Int} {vs : List V}, RepL K cA S (ns.map DV.int) vs → vs = ns.map V.int
  | [], vs, h => h
  | n :: ns, vs, ⟨v, r, e, h1, h2⟩ => by
    have h1 : v = .int n := h1
    subst e h1
    rw [RepL.ints_iff h2]; rfl
theorem seqOf.rep {d : DV} {v : V} {ds : List DV} (ok : StoOk K cA S sto) (r : Rep K cA S d v) (h : seqOf sto d = some ds) : ∃ a vs, v = .ref a ∧ (SqL K S.H a vs ∨ SqT K S.H a vs) ∧ RepL K cA S ds vs := by
  cases d
  case tup xs =>
    cases h
    obtain ⟨a, vs, e, h1, h2⟩ := r
    exact ⟨a, vs, e, .inr (sqT h1), h2⟩
  case scr ns =>
    cases h
    obtain ⟨a, e, h1⟩ := r
    exact ⟨a, _, e, .inl h1.sq, RepL.ints ns⟩
  all_goals
    obtain ⟨a, vs, e, h1, h2⟩ := lstOf.rep ok r h
    exact ⟨a, vs, e, .inl (sqL h1), h2⟩
end

/-! ### a value that is told -/
section
variable {X : Cx} {cA : Nat → Addr} {S : Sys} {σ : L2.St} {env : Env} {sto : Sto} {α β : Type} {Q : VK} {Zf : Nat → Sto → Sys → Prop}
abbrev VQ (K : PySem.W.Frag) (cA : Nat → Addr) (Q : VK) : DV → Sto → Sys → Prop := fun d _ S' => ∀ v, Rep K cA S' d v → Q v S'.H
theorem ret_same {d : DV} {v : V} (ok : StoOk X.K cA S sto) (h : Post X.K cA S (.ok d sto) (VQ X.K cA Q) Zf) (r : Rep X.K cA S d v) : Q v S.H := h S (Grow.refl ok) ok v r
theorem ret_tup {ds : List DV} {vs : List V} {p : Addr} (ok : StoOk X.K cA S sto) (h : Post X.K cA S (.ok (.tup ds) sto) (VQ X.K cA Q) Zf) (r : RepL X.K cA S ds vs) (np : S.H p = none) : Q (.ref p) (upd S.H p (.tup vs)) :=
  h (S.addT p (.tup vs)) (Grow.addT ok np) (ok.addT np) (.ref p) ⟨p, vs, rfl, upd_same, r.grow ok (Grow.addT ok np)⟩
theorem ret_lstV {ds : List DV} {vs : List V} {p : Addr} (ok : StoOk X.K cA S sto) (h : Post X.K cA S (.ok (.lst ds) sto) (VQ X.K cA Q) Zf) (r : RepL X.K cA S ds vs) (np : S.H p = none) : Q (.ref p) (upd S.H p (.lst vs)) :=
  h (S.addV p (.lst vs)) (Grow.addV ok np) (ok.addV np) (.ref p) ⟨p, vs, rfl, .inr rfl, upd_same, r.grow ok (Grow.addV ok np)⟩
theorem ret_new {d : DO} {o : HO} {p : Addr} (ok : StoOk X.K cA S sto) (h : Post X.K cA S (.ok (.loc sto.length) (sto ++ [d])) (VQ X.K cA Q) Zf) (r : ORep X.K cA S d (some o)) (np : S.H p = none) : Q (.ref p) (upd S.H p o) :=
  h (S.addL p o) (Grow.addL ok np) (ok.addL np r) (.ref p) ⟨by rw [ok.len]; exact Nat.lt_succ_self _, by
    show V.ref p = .ref (if sto.length = S.N then p else S.r sto.length)
    rw [if_pos ok.len]⟩
end
/-- how a new list is told: frozen (false) or as an object of the store (true) -/
def newL (b : Bool) (ds : List DV) (sto : Sto) : Res DV := if b then .ok (.loc sto.length) (sto ++ [.lst ds]) else .ok (.lst ds) sto
@[simp] theorem newL_f (ds : List DV) (sto : Sto) : newL false ds sto = .ok (.lst ds) sto := rfl
@[simp] theorem newL_t (ds : List DV) (sto : Sto) : newL true ds sto = .ok (.loc sto.length) (sto ++ [.lst ds]) := rfl
section
variable {X : Cx} {cA : Nat → Addr} {S : Sys} {σ : L2.St} {env : Env} {sto : Sto} {α β : Type} {Q : VK} {Zf : Nat → Sto → Sys → Prop}
theorem ret_lst {b : Bool} {ds : List DV} {vs : List V} {p : Addr} (ok : StoOk X.K cA S sto) (h : Post X.K cA S (newL b ds sto) (VQ X.K cA Q) Zf) (r : RepL X.K cA S ds vs) (np : S.H p = none) : Q (.ref p) (upd S.H p (.lst vs)) := by
  cases b with
  | false => exact ret_lstV ok h r np
  | true => exact ret_new ok h ⟨vs, rfl, r⟩ np
end

/-! ### names, constants -/
def eVar (i : Nat) : EM := fun env sto => match env[i]? with
  | some (some d) => .ok d sto
  | _ => .stuck
def eC (d : DV) : EM := fun _ sto => .ok d sto
section
variable {X : Cx} {cA : Nat → Addr} {Z : Nat → L2.St → Hp → Prop}
theorem g_of {e : Expr} {i : Nat} (h : PE X e (tVar i)) : GE X cA Z e (eVar i) := fun S σ env sto ok eo Q h' => by
  refine wE.of h ?_
  unfold eVar at h'
  split at h'
  · rename_i d e1
    obtain ⟨v, e2, r⟩ := eo.2 _ _ e1
    exact ⟨v, e2, ret_same ok h' r⟩
  · exact h'.elim
theorem g_var (i : Nat) {x : Str} {pos : Pos} (hN : X.N[i]? = some x := by rfl) (hv : Vis X.env.scope x := by first | exact Or.inl rfl | exact Or.inr (Or.inl rfl) | exact Or.inr (Or.inr rfl)) (hd : (x == ("__debug__" : Str)) = false := by decide)
    (hcd : (x == ("__classdict__" : Str)) = false := by decide) : GE X cA Z (.Name x pos) (eVar i) := g_of (pe_var hN hv hd hcd)
theorem g_c {e : Expr} {v : V} {d : DV} (h : PE X e (tC v)) (hr : ∀ S : Sys, Rep X.K cA S d v) : GE X cA Z e (eC d) := fun S σ env sto ok eo Q h' => wE.of h (ret_same (Q := Q) ok h' (hr S))
theorem g_int {i j pos} : GE X cA Z (.Constant (.int i) j pos) (eC (.int i)) := g_c pe_int fun _ => rfl
theorem g_bl {i j pos} : GE X cA Z (.Constant (.bool i) j pos) (eC (.bl i)) := g_c pe_bl fun _ => rfl
theorem g_non {j pos} : GE X cA Z (.Constant .none j pos) (eC .non) := g_c pe_non fun _ => rfl
theorem g_str {x j pos} : GE X cA Z (.Constant (.str x) j pos) (eC (.str x)) := g_c pe_str fun _ => rfl
theorem g_gint {x : Str} {i : Int} {pos : Pos} (hm : ∃ t, X.mg x = some (.int i t)) (hg : Gl X x := by rfl) (hd : (x == ("__debug__" : Str)) = false := by decide) : GE X cA Z (.Name x pos) (eC (.int i)) := by
  obtain ⟨t, hm⟩ := hm
  exact g_c (pe_glob (v := .int i) hg hm ⟨t, rfl⟩ hd) fun _ => rfl
end

/-! ### operators by values -/
def eOp (f : DV → DV → Sto → Res DV) (a b : EM) : EM := fun env sto => (a env sto).bind fun x s1 => (b env s1).bind fun y s2 => f x y s2
def OpS (X : Cx) (cA : Nat → Addr) (op : Value → Value → Sem Value) (f : DV → DV → Sto → Res DV) : Prop :=
  ∀ S sto x y vx vy (Q : VK), StoOk X.K cA S sto → Rep X.K cA S x vx → Rep X.K cA S y vy → Post X.K cA S (f x y sto) (VQ X.K cA Q) (fun _ _ _ => False) →
    ∀ (pins : List (Addr × Obj)) (s : Shared) (σ : L2.St) (v u : Value), Inv X pins σ S.H s → RelV vx v → RelV vy u → wpAny (model X.prog X.w) X.A (op v u) (EP X pins σ Q) X.xe s
def wOp (X : Cx) (op : Value → Value → Sem Value) : R2 := fun x y H Q => ∀ (pins : List (Addr × Obj)) (s : Shared) (σ : L2.St) (v u : Value), Inv X pins σ H s → RelV x v → RelV y u → wpAny (model X.prog X.w) X.A (op v u) (EP X pins σ Q) X.xe s
theorem opW (X : Cx) (op : Value → Value → Sem Value) : OpR X op (wOp X op) := fun pins s σ H x y v u Q I rx ry h => h pins s σ v u I rx ry
/-- no run of an operator raises -/
def Res.noexc {α : Type} : Res α → Prop
  | .exc _ _ => False
  | _ => True
theorem Post.noZ {K : PySem.W.Frag} {cA : Nat → Addr} {S : Sys} {α : Type} {r : Res α} {Q : α → Sto → Sys → Prop} {Z Z' : Nat → Sto → Sys → Prop} (h : Post K cA S r Q Z) (n : r.noexc) : Post K cA S r Q Z' := by
  cases r with
  | ok a s => exact h
  | exc c s => exact n.elim
  | stuck => exact h
section
variable {X : Cx} {cA : Nat → Addr} {Z : Nat → L2.St → Hp → Prop} {f : DV → DV → Sto → Res DV}
theorem OpS.use {op : Value → Value → Sem Value} (h : OpS X cA op f) (hn : ∀ x y s, (f x y s).noexc) {S : Sys} {sto : Sto} {x y : DV} {vx vy : V} {Q : VK} {Zf : Nat → Sto → Sys → Prop} (ok : StoOk X.K cA S sto) (rx : Rep X.K cA S x vx) (ry : Rep X.K cA S y vy) (p : Post X.K cA S (f x y sto) (VQ X.K cA Q) Zf) : wOp X op vx vy S.H Q :=
  fun pins s σ v u I r1 r2 => h S sto x y vx vy Q ok rx ry (p.noZ (hn x y sto)) pins s σ v u I r1 r2
theorem g_bin {a b : Expr} {op : Operator} {pos : Pos} {ma mb : EM} (ho : OpS X cA (binaryOp op) f) (hn : ∀ x y s, (f x y s).noexc) (ha : GE X cA Z a ma) (hb : GE X cA Z b mb) : GE X cA Z (.BinOp a op b pos) (eOp f ma mb) := fun S σ env sto ok eo Q h => by
  refine wE.of (pe_op (opW X _) (peW a) (peW b)) ?_
  refine ha.then ok eo h fun x s1 S1 vx g1 ok1 eo1 rx h1 => ?_
  refine hb.then ok1 eo1 h1 fun y s2 S2 vy g2 ok2 eo2 ry h2 => ?_
  exact ho.use hn ok2 (rx.grow ok1 g2) ry h2
theorem g_cmp {a b : Expr} {op : CmpOp} {pos : Pos} {ma mb : EM} (ho : OpS X cA (compareOp op) f) (hn : ∀ x y s, (f x y s).noexc) (ha : GE X cA Z a ma) (hb : GE X cA Z b mb) (hm : behindInMarks op b = false := by first | exact nomark _ | rfl) : GE X cA Z (.Compare a [op] [b] pos) (eOp f ma mb) := fun S σ env sto ok eo Q h => by
  refine wE.of (pe_cmpR (opW X _) (peW a) (peW b) hm) ?_
  refine ha.then ok eo h fun x s1 S1 vx g1 ok1 eo1 rx h1 => ?_
  refine hb.then ok1 eo1 h1 fun y s2 S2 vy g2 ok2 eo2 ry h2 => ?_
  exact ho.use hn ok2 (rx.grow ok1 g2) ry h2
/-- a test of a bool -/
def tBl (m : EM) : TM := fun env sto => (m env sto).bind fun d s => match d with
  | .bl b => .ok b s
  | _ => .stuck
theorem bl_test {S : Sys} {sto : Sto} {d : DV} {v : V} {Q : Bool → Sto → Sys → Prop} {Zf : Nat → Sto → Sys → Prop} (ok : StoOk X.K cA S sto) (r : Rep X.K cA S d v) (h : Post X.K cA S (match d with | .bl b => Res.ok b sto | _ => .stuck) Q Zf) : ∃ c, v = .bl c ∧ Q c sto S := by
  cases d <;> first | exact h.elim | skip
  exact ⟨_, r, h S (Grow.refl ok) ok⟩
theorem gt_cmp {a b : Expr} {op : CmpOp} {pos : Pos} {ma mb : EM} (ho : OpS X cA (compareOp op) f) (hn : ∀ x y s, (f x y s).noexc) (ha : GE X cA Z a ma) (hb : GE X cA Z b mb) (hm : behindInMarks op b = false := by first | exact nomark _ | rfl) : GT X cA Z (.Compare a [op] [b] pos) (tBl (eOp f ma mb)) := fun S σ env sto ok eo Q h => by
  refine wT.of (pt_cmpR (opW X _) (peW a) (peW b) hm) ?_
  unfold tBl eOp at h
  simp only [Res.bind_assoc] at h
  refine ha.then ok eo h fun x s1 S1 vx g1 ok1 eo1 rx h1 => ?_
  refine hb.then ok1 eo1 h1 fun y s2 S2 vy g2 ok2 eo2 ry h2 => ?_
  refine ho.use hn (Zf := fun c _ S' => Z c σ S'.H) ok2 (rx.grow ok1 g2) ry ((Post.bind h2).imp (fun d s3 S3 g3 ok3 p v r => ?_) fun _ _ _ _ _ z => z)
  obtain ⟨c, e, q⟩ := bl_test (X := X) ok3 r p
  exact ⟨c, e, q⟩
/-- a < b < c -/
def eChain (f g : DV → DV → Sto → Res DV) (a b c : EM) : EM := fun env sto => (a env sto).bind fun x s1 => (b env s1).bind fun y s2 => (f x y s2).bind fun z s3 => match z with
  | .bl true => (c env s3).bind fun w s4 => g y w s4
  | .bl false => .ok (.bl false) s3
  | _ => .stuck
variable {g : DV → DV → Sto → Res DV}
theorem chain_core {a b c : Expr} {op op' : CmpOp} {pos : Pos} {ma mb mc : EM} (ho : OpS X cA (compareOp op) f) (hn : ∀ x y s, (f x y s).noexc) (ho' : OpS X cA (compareOp op') g) (hn' : ∀ x y s, (g x y s).noexc) (ha : GE X cA Z a ma) (hb : GE X cA Z b mb) (hc : GE X cA Z c mc)
    {S : Sys} {σ : L2.St} {env : Env} {sto : Sto} (ok : StoOk X.K cA S sto) (eo : EnvOk X.K cA S env σ) {Q : VK} (h : Post X.K cA S (eChain f g ma mb mc env sto) (VQ X.K cA Q) (fun c _ S' => Z c σ S'.H)) :
    tChain (wOp X (compareOp op)) (wOp X (compareOp op')) (wE X a) (wE X b) (wE X c) σ S.H Q := by
  refine ha.then ok eo h fun x s1 S1 vx g1 ok1 eo1 rx h1 => ?_
  refine hb.then ok1 eo1 h1 fun y s2 S2 vy g2 ok2 eo2 ry h2 => ?_
  refine ho.use hn (Zf := fun c _ S' => Z c σ S'.H) ok2 (rx.grow ok1 g2) ry ((Post.bind h2).imp (fun d s3 S3 g3 ok3 p v r => ?_) fun _ _ _ _ _ z => z)
  cases d <;> first | exact p.elim | skip
  rename_i k
  have r : v = .bl k := r
  subst r
  refine ⟨k, rfl, ?_⟩
  cases k with
  | true =>
    refine iteT (hc.then ok3 (eo2.grow ok2 g3) p fun w s4 S4 vw g4 ok4 eo4 rw' h4 => ?_)
    exact ho'.use hn' ok4 ((ry.grow ok2 g3).grow ok3 g4) rw' h4
  | false => exact iteF (ret_same ok3 p rfl)
theorem g_chain {a b c : Expr} {op op' : CmpOp} {pos : Pos} {ma mb mc : EM} (ho : OpS X cA (compareOp op) f) (hn : ∀ x y s, (f x y s).noexc) (ho' : OpS X cA (compareOp op') g) (hn' : ∀ x y s, (g x y s).noexc) (ha : GE X cA Z a ma) (hb : GE X cA Z b mb) (hc : GE X cA Z c mc)
    (hm : lastMarks [op, op'] [b, c] = false := by with_unfolding_all rfl) : GE X cA Z (.Compare a [op, op'] [b, c] pos) (eChain f g ma mb mc) := fun S σ env sto ok eo Q h =>
  wE.of (pe_chain (opW X _) (opW X _) (peW a) (peW b) (peW c) hm) (chain_core (pos := pos) ho hn ho' hn' ha hb hc ok eo h)
theorem gt_chain {a b c : Expr} {op op' : CmpOp} {pos : Pos} {ma mb mc : EM} (ho : OpS X cA (compareOp op) f) (hn : ∀ x y s, (f x y s).noexc) (ho' : OpS X cA (compareOp op') g) (hn' : ∀ x y s, (g x y s).noexc) (ha : GE X cA Z a ma) (hb : GE X cA Z b mb) (hc : GE X cA Z c mc)
    (hm : lastMarks [op, op'] [b, c] = false := by with_unfolding_all rfl) : GT X cA Z (.Compare a [op, op'] [b, c] pos) (tBl (eChain f g ma mb mc)) := fun S σ env sto ok eo Q h => by
  refine wT.of (pt_chain (opW X _) (opW X _) (peW a) (peW b) (peW c) hm) ?_
  refine chain_core (Q := fun v H' => ∃ k, v = .bl k ∧ Q k H') (pos := pos) ho hn ho' hn' ha hb hc ok eo ((Post.bind h).imp (fun d s3 S3 g3 ok3 p v r => ?_) fun _ _ _ _ _ z => z)
  obtain ⟨c, e, q⟩ := bl_test (X := X) ok3 r p
  exact ⟨c, e, q⟩
end
end BB
namespace BB
open PySem PySem.Spec PyProof.Rows L2

/-! ### and, or, not, if as values and as tests -/
def eAnd (a b : EM) : EM := fun env sto => (a env sto).bind fun x s => match x with
  | .bl true => b env s
  | .bl false => .ok (.bl false) s
  | _ => .stuck
def eOr (a b : EM) : EM := fun env sto => (a env sto).bind fun x s => match x with
  | .bl true => .ok (.bl true) s
  | .bl false => b env s
  | _ => .stuck
def eNot (a : EM) : EM := fun env sto => (a env sto).bind fun x s => match x with
  | .bl c => .ok (.bl (!c)) s
  | _ => .stuck
def eIf (t : TM) (a b : EM) : EM := fun env sto => (t env sto).bind fun c s => if c = true then a env s else b env s
def tAnd (a b : TM) : TM := fun env sto => (a env sto).bind fun c s => if c = true then b env s else .ok false s
def tOr (a b : TM) : TM := fun env sto => (a env sto).bind fun c s => if c = true then .ok true s else b env s
def tNot (a : TM) : TM := fun env sto => (a env sto).bind fun c s => .ok (!c) s
section
variable {X : Cx} {cA : Nat → Addr} {Z : Nat → L2.St → Hp → Prop} {pos : Pos} {a b c : Expr} {ma mb mc : EM} {rest : List Expr} {ta tb tc : TM}
theorem g_one {op} (h : GE X cA Z a ma) : GE X cA Z (.BoolOp op [a] pos) ma := fun S σ env sto ok eo Q p => wE.of (pe_one (peW a)) (h S σ env sto ok eo Q p)
theorem g_and (ha : GE X cA Z a ma) (hb : GE X cA Z (.BoolOp .And (b :: rest) pos) mb) : GE X cA Z (.BoolOp .And (a :: b :: rest) pos) (eAnd ma mb) := fun S σ env sto ok eo Q p => by
  refine wE.of (pe_and (peW a) (peW _)) (ha.then ok eo p fun x s1 S1 vx g1 ok1 eo1 rx h1 => ?_)
  cases x <;> first | exact h1.elim | skip
  rename_i k
  refine ⟨k, rx, ?_⟩
  cases k with
  | true => exact iteT (hb S1 σ env s1 ok1 eo1 Q h1)
  | false => exact iteF (ret_same ok1 h1 rfl)
theorem g_or (ha : GE X cA Z a ma) (hb : GE X cA Z (.BoolOp .Or (b :: rest) pos) mb) : GE X cA Z (.BoolOp .Or (a :: b :: rest) pos) (eOr ma mb) := fun S σ env sto ok eo Q p => by
  refine wE.of (pe_or (peW a) (peW _)) (ha.then ok eo p fun x s1 S1 vx g1 ok1 eo1 rx h1 => ?_)
  cases x <;> first | exact h1.elim | skip
  rename_i k
  refine ⟨k, rx, ?_⟩
  cases k with
  | true => exact iteT (ret_same ok1 h1 rfl)
  | false => exact iteF (hb S1 σ env s1 ok1 eo1 Q h1)
theorem g_not (ha : GE X cA Z a ma) : GE X cA Z (.UnaryOp .Not a pos) (eNot ma) := fun S σ env sto ok eo Q p => by
  refine wE.of (pe_not (peW a)) (ha.then ok eo p fun x s1 S1 vx g1 ok1 eo1 rx h1 => ?_)
  cases x <;> first | exact h1.elim | skip
  exact ⟨_, rx, ret_same ok1 h1 rfl⟩
theorem g_if (hc : GT X cA Z c tc) (ha : GE X cA Z a ma) (hb : GE X cA Z b mb) : GE X cA Z (.IfExp c a b pos) (eIf tc ma mb) := fun S σ env sto ok eo Q p => by
  refine wE.of (pe_ifExp (ptW c) (peW a) (peW b)) (hc.then ok eo p fun k s1 S1 g1 ok1 eo1 h1 => ?_)
  cases k with
  | true => exact iteT (ha S1 σ env s1 ok1 eo1 Q h1)
  | false => exact iteF (hb S1 σ env s1 ok1 eo1 Q h1)
/-- a test that is an expression of a bool -/
theorem gt_val (ha : GE X cA Z a ma) (he : ∀ whole, isTrue a X.env whole = (do let v ← whole; standAt a.pos; holding [v] (truthy v)) := by intro _; rfl) : GT X cA Z a (tBl ma) := fun S σ env sto ok eo Q p => by
  refine wT.of (pt_val (peW a) he) (ha.then ok eo p fun x s1 S1 vx g1 ok1 eo1 rx h1 => ?_)
  obtain ⟨c, e, q⟩ := bl_test (X := X) ok1 rx h1
  exact ⟨c, e, q⟩
theorem gt_not (ha : GT X cA Z a ta) : GT X cA Z (.UnaryOp .Not a pos) (tNot ta) := fun S σ env sto ok eo Q p => by
  refine wT.of (pt_not (ptW a)) (ha.then ok eo p fun x s1 S1 g1 ok1 eo1 h1 => ?_)
  exact h1 S1 (Grow.refl ok1) ok1
def wW (X : Cx) (e : Expr) : TT := fun σ H Q => ∀ (whole : Sem Value) pins s, Inv X pins σ H s → wpAny (model X.prog X.w) X.A (isTrue e X.env whole) (TP X pins σ Q) X.xe s
theorem pwW (e : Expr) : PW X e (wW X e) := ⟨fun whole pins s σ H Q I h => h whole pins s I⟩
def GW (X : Cx) (cA : Nat → Addr) (Z : Nat → L2.St → Hp → Prop) (e : Expr) (m : TM) : Prop := ∀ S σ env sto, StoOk X.K cA S sto → EnvOk X.K cA S env σ → ∀ Q : Bool → Hp → Prop, Post X.K cA S (m env sto) (fun d _ S' => Q d S'.H) (fun c _ S' => Z c σ S'.H) → wW X e σ S.H Q
theorem GW.gt (h : GW X cA Z a ta) : GT X cA Z a ta := fun S σ env sto ok eo Q p => wT.of (pwW a).pt (h S σ env sto ok eo Q p)
theorem gw_and1 (ha : GT X cA Z a ta) : GW X cA Z (.BoolOp .And [a] pos) ta := fun S σ env sto ok eo Q p wh pins s I => (pw_and1 (ptW a)).run wh pins s σ S.H Q I (ha S σ env sto ok eo Q p)
theorem gw_or1 (ha : GT X cA Z a ta) : GW X cA Z (.BoolOp .Or [a] pos) ta := fun S σ env sto ok eo Q p wh pins s I => (pw_or1 (ptW a)).run wh pins s σ S.H Q I (ha S σ env sto ok eo Q p)
theorem gw_and (ha : GT X cA Z a ta) (hb : GW X cA Z (.BoolOp .And (b :: rest) pos) tb) : GW X cA Z (.BoolOp .And (a :: b :: rest) pos) (tAnd ta tb) := fun S σ env sto ok eo Q p wh pins s I => by
  refine (pw_and (ptW a) (pwW _)).run wh pins s σ S.H Q I (ha.then ok eo p fun x s1 S1 g1 ok1 eo1 h1 => ?_)
  cases x with
  | true => exact iteT (hb S1 σ env s1 ok1 eo1 Q h1)
  | false => exact iteF (h1 S1 (Grow.refl ok1) ok1)
theorem gw_or (ha : GT X cA Z a ta) (hb : GW X cA Z (.BoolOp .Or (b :: rest) pos) tb) : GW X cA Z (.BoolOp .Or (a :: b :: rest) pos) (tOr ta tb) := fun S σ env sto ok eo Q p wh pins s I => by
  refine (pw_or (ptW a) (pwW _)).run wh pins s σ S.H Q I (ha.then ok eo p fun x s1 S1 g1 ok1 eo1 h1 => ?_)
  cases x with
  | true => exact iteT (h1 S1 (Grow.refl ok1) ok1)
  | false => exact iteF (hb S1 σ env s1 ok1 eo1 Q h1)
end

/-! ### argument lists, displays -/
def aNil : AM := fun _ sto => .ok [] sto
def aCons (a : EM) (r : AM) : AM := fun env sto => (a env sto).bind fun x s1 => (r env s1).bind fun xs s2 => .ok (x :: xs) s2
def eTup (t : AM) : EM := fun env sto => (t env sto).bind fun ds s => if ds.length ≤ 1000000 then .ok (.tup ds) s else .stuck
def eLst (b : Bool) (t : AM) : EM := fun env sto => (t env sto).bind fun ds s => if ds.length ≤ 1000000 then newL b ds s else .stuck
theorem lim {n : Nat} (h : n ≤ 1000000) : n ≤ sizeLine := Nat.le_trans h (by decide)
theorem limlt {n : Nat} (h : n < 1000000) : n < sizeLine := Nat.lt_of_lt_of_le h (by decide)
section
variable {X : Cx} {cA : Nat → Addr} {Z : Nat → L2.St → Hp → Prop} {pos : Pos} {e : Expr} {es : List Expr} {me : EM} {t : AM}
theorem ga_nil : GA X cA Z [] aNil := fun S σ env sto ok eo Q p => wA.of pa_nil (p S (Grow.refl ok) ok [] rfl)
theorem ga_cons (ha : GE X cA Z e me) (hr : GA X cA Z es t) (hs : starEach (e :: es) X.env = (false, eval e X.env) :: starEach es X.env := by rfl) : GA X cA Z (e :: es) (aCons me t) := fun S σ env sto ok eo Q p => by
  refine wA.of (pa_cons (peW e) (paW es) hs) (ha.then ok eo p fun x s1 S1 vx g1 ok1 eo1 rx h1 => ?_)
  refine hr.then ok1 eo1 h1 fun xs s2 S2 vs g2 ok2 eo2 rs h2 => ?_
  exact h2 S2 (Grow.refl ok2) ok2 _ ⟨vx, vs, rfl, rx.grow ok1 g2, rs⟩
theorem g_tup {x1} (h : GA X cA Z es t) : GE X cA Z (.Tuple es x1 pos) (eTup t) := fun S σ env sto ok eo Q p => by
  refine wE.of (pe_tup (paW es)) (h.then ok eo p fun xs s1 S1 vs g1 ok1 eo1 rs h1 => ?_)
  split at h1
  · rename_i hl
    exact ⟨by rw [← rs.length]; exact lim hl, fun q hq => ret_tup ok1 h1 rs hq⟩
  · exact h1.elim
theorem g_lst (b : Bool) (h : GA X cA Z es t) : GE X cA Z (.List es pos) (eLst b t) := fun S σ env sto ok eo Q p => by
  refine wE.of (pe_lst (paW es)) (h.then ok eo p fun xs s1 S1 vs g1 ok1 eo1 rs h1 => ?_)
  split at h1
  · rename_i hl
    exact ⟨by rw [← rs.length]; exact lim hl, fun q hq => ret_lst ok1 h1 rs hq⟩
  · exact h1.elim
/-- {} : tuple keys, int keys -/
def eDicT : EM := fun _ sto => .ok (.loc sto.length) (sto ++ [.dT [] []])
def eDicK : EM := fun _ sto => .ok (.loc sto.length) (sto ++ [.dK [] []])
theorem g_dicT : GE X cA Z (.Dict [] [] pos) eDicT := fun S σ env sto ok eo Q p => wE.of pe_dnewT fun q hq => ret_new ok p ⟨[], rfl, rfl, rfl, List.nodup_nil⟩ hq
theorem g_dicK : GE X cA Z (.Dict [] [] pos) eDicK := fun S σ env sto ok eo Q p => wE.of pe_dnewK fun q hq => ret_new ok p ⟨[], rfl, rfl, rfl, List.nodup_nil⟩ hq
end

/-! ### keys and dicts -/
def keyOf : DV → Option Key
  | .int i => some (.inl i)
  | .str x => some (.inr x)
  | _ => none
def keysOf : List DV → Option (List Key)
  | [] => some []
  | d :: ds => match keyOf d, keysOf ds with
    | some k, some ks => some (k :: ks)
    | _, _ => none
def tkeyOf : DV → Option (List Key)
  | .tup ds => keysOf ds
  | _ => none
def lookK {κ : Type} [DecidableEq κ] : List κ → List DV → κ → Option DV
  | k :: ks, d :: ds, x => if k = x then some d else lookK ks ds x
  | _, _, _ => none
def putKs {κ : Type} [DecidableEq κ] (ks : List κ) (k : κ) : List κ := if k ∈ ks then ks else ks ++ [k]
def putDs {κ : Type} [DecidableEq κ] : List κ → List DV → κ → DV → List DV
  | k :: ks, d :: ds, x, v => if k = x then v :: ds else d :: putDs ks ds x v
  | _, ds, _, v => ds ++ [v]
section
variable {K : PySem.W.Frag} {cA : Nat → Addr} {S : Sys} {sto : Sto}
theorem keyOf.rep {d : DV} {v : V} {k : Key} (r : Rep K cA S d v) (h : keyOf d = some k) : v = kV k := by
  cases d <;> simp only [keyOf] at h <;> try (cases h; done)
  · cases h; exact r
  · cases h; exact r
theorem keysOf.rep : ∀ {ds : List DV} {vs : List V} {ks : List Key}, RepL K cA S ds vs → keysOf ds = some ks → vs = ks.map kV
  | [], _, _, r, h => by cases h; cases r; rfl
  | d :: ds, _, _, ⟨v, r, e, h1, h2⟩, h => by
    unfold keysOf at h
    split at h
    · rename_i k ks' e1 e2
      cases h
      subst e
      rw [keyOf.rep h1 e1, keysOf.rep h2 e2]; rfl
    · cases h
theorem tkeyOf.rep {d : DV} {v : V} {ks : List Key} (r : Rep K cA S d v) (h : tkeyOf d = some ks) : ∃ b, v = .ref b ∧ S.H b = some (.tup (ks.map kV)) := by
  cases d <;> simp only [tkeyOf] at h <;> try (cases h; done)
  obtain ⟨a, vs, e, h1, h2⟩ := r
  exact ⟨a, e, by rw [h1, keysOf.rep h2 h]⟩
theorem lookK.rep {κ : Type} [DecidableEq κ] {k : κ} {d : DV} : ∀ {kvs : List (κ × V)} {ks : List κ} {ds : List DV}, kvs.map (·.1) = ks → RepL K cA S ds (kvs.map (·.2)) → lookK ks ds k = some d → ∃ v, valV kvs k = some v ∧ Rep K cA S d v
  | [], _, _, e, r, h => by subst e; unfold lookK at h; simp at h
  | (k', v') :: kvs, _, [], e, r, h => by cases r
  | (k', v') :: kvs, _, x :: ds, e, ⟨v, r, e1, h1, h2⟩, h => by
    subst e
    simp only [List.map_cons, List.cons.injEq] at e1
    obtain ⟨rfl, rfl⟩ := e1
    simp only [List.map_cons, lookK] at h
    by_cases hk : k' = k
    · rw [if_pos hk] at h
      cases h
      refine ⟨v', ?_, h1⟩
      simp [valV, List.find?, hk]
    · rw [if_neg hk] at h
      obtain ⟨v, q1, q2⟩ := lookK.rep rfl h2 h
      refine ⟨v, ?_, q2⟩
      simp only [valV, List.find?, hk, decide_false] at q1 ⊢
      exact q1
theorem lookK.no {κ : Type} [DecidableEq κ] {k : κ} : ∀ {kvs : List (κ × V)} {ks : List κ} {ds : List DV}, kvs.map (·.1) = ks → RepL K cA S ds (kvs.map (·.2)) → lookK ks ds k = none → valV kvs k = none
  | [], _, _, e, r, h => by simp [valV]
  | (k', v') :: kvs, _, [], e, r, h => by cases r
  | (k', v') :: kvs, _, x :: ds, e, ⟨v, r, e1, h1, h2⟩, h => by
    subst e
    simp only [List.map_cons, List.cons.injEq] at e1
    obtain ⟨rfl, rfl⟩ := e1
    simp only [List.map_cons, lookK] at h
    by_cases hk : k' = k
    · rw [if_pos hk] at h; cases h
    · rw [if_neg hk] at h
      have q1 := lookK.no rfl h2 h
      simp only [valV, List.find?, hk, decide_false] at q1 ⊢
      exact q1
theorem putK_keys {κ : Type} [DecidableEq κ] (kvs : List (κ × V)) (k : κ) (v : V) : (putK kvs k v).map (·.1) = putKs (kvs.map (·.1)) k := by
  unfold putK putKs
  by_cases h : (kvs.any fun kv => decide (kv.1 = k)) = true
  · rw [if_pos h]
    have hm : k ∈ kvs.map (·.1) := by
      simp only [List.any_eq_true, decide_eq_true_eq] at h
      obtain ⟨x, hx, e⟩ := h
      exact List.mem_map.mpr ⟨x, hx, e⟩
    rw [if_pos hm, List.map_map]
    apply List.map_congr_left
    intro x _
    simp only [Function.comp]
    split <;> rfl
  · rw [if_neg h]
    have hm : ¬ k ∈ kvs.map (·.1) := fun z => by
      obtain ⟨x, hx, e⟩ := List.mem_map.mp z
      exact h (by simp only [List.any_eq_true, decide_eq_true_eq]; exact ⟨x, hx, e⟩)
    rw [if_neg hm]; simp
theorem putK_cons {κ : Type} [DecidableEq κ] (kvs : List (κ × V)) (k k' : κ) (v v' : V) (nd : k' = k → ¬ k ∈ kvs.map (·.1)) : putK ((k', v') :: kvs) k v = if k' = k then (k, v) :: kvs else (k', v') :: putK kvs k v := by
  unfold putK
  by_cases hk : k' = k
  · subst hk
    simp only [List.any_cons, decide_true, Bool.true_or, if_true, List.map_cons]
    congr 1
    have := nd rfl
    rw [List.map_congr_left (g := id)]
    · simp
    · intro x hx
      rw [if_neg]
      · rfl
      · intro e
        exact this (List.mem_map.mpr ⟨x, hx, e⟩)
  · simp only [List.any_cons, hk, decide_false, Bool.false_or, if_false, List.map_cons]
    split <;> rfl
theorem putDs.rep {κ : Type} [DecidableEq κ] {k : κ} {d : DV} {v : V} (hd : Rep K cA S d v) : ∀ {kvs : List (κ × V)} {ks : List κ} {ds : List DV}, ks.Nodup → kvs.map (·.1) = ks → RepL K cA S ds (kvs.map (·.2)) → RepL K cA S (putDs ks ds k d) ((putK kvs k v).map (·.2))
  | [], _, ds, _, e, r => by
    subst e
    cases ds with
    | nil => exact ⟨v, [], rfl, hd, rfl⟩
    | cons => obtain ⟨_, _, z, _⟩ := r; cases z
  | (k', v') :: kvs, _, [], _, e, r => by cases r
  | (k', v') :: kvs, _, x :: ds, nd, e, ⟨w, r, e1, h1, h2⟩ => by
    subst e
    simp only [List.map_cons, List.cons.injEq] at e1
    obtain ⟨rfl, rfl⟩ := e1
    simp only [List.map_cons] at nd
    obtain ⟨n1, n2⟩ := List.nodup_cons.mp nd
    rw [putK_cons kvs k k' v v' (fun e => e ▸ n1)]
    simp only [List.map_cons, putDs]
    by_cases hk : k' = k
    · rw [if_pos hk, if_pos hk]
      exact ⟨v, _, rfl, hd, h2⟩
    · rw [if_neg hk, if_neg hk]
      exact ⟨v', _, rfl, h1, putDs.rep hd n2 rfl h2⟩
theorem putKs.nodup {κ : Type} [DecidableEq κ] {ks : List κ} (h : ks.Nodup) (k : κ) : (putKs ks k).Nodup := by
  unfold putKs
  split
  · exact h
  · rename_i hk
    rw [List.nodup_append]
    exact ⟨h, by simp, fun a ha b hb e => hk (by simp at hb; rw [← hb, ← e]; exact ha)⟩
end
end BB
namespace BB
open PySem PySem.Spec PyProof.Rows L2

/-! ### arithmetic -/
def oAdd (b : Bool) (x y : DV) (sto : Sto) : Res DV := match x, y with
  | .int i, .int j => .ok (.int (i + j)) sto
  | .tup xs, .tup ys => if xs.length + ys.length ≤ 1000000 then .ok (.tup (xs ++ ys)) sto else .stuck
  | x, y => match lstOf sto x, lstOf sto y with
    | some xs, some ys => if xs.length + ys.length ≤ 1000000 then newL b (xs ++ ys) sto else .stuck
    | _, _ => .stuck
def oSub (x y : DV) (sto : Sto) : Res DV := match x, y with
  | .int i, .int j => .ok (.int (i - j)) sto
  | _, _ => .stuck
def oMul (b : Bool) (x y : DV) (sto : Sto) : Res DV := match x, y with
  | .int i, .int j => if i.natAbs < 2 ^ 250 ∧ j.natAbs < 2 ^ 250 then .ok (.int (i * j)) sto else .stuck
  | x, .int k => match lstOf sto x with
    | some xs => if 0 ≤ k ∧ k ≤ 1000 ∧ xs.length ≤ 1000 then newL b (List.replicate k.toNat xs).flatten sto else .stuck
    | none => .stuck
  | _, _ => .stuck
def oDiv (x y : DV) (sto : Sto) : Res DV := match x, y with
  | .int i, .int j => if 0 < j ∧ j < 2 ^ 250 then .ok (.int (i / j)) sto else .stuck
  | _, _ => .stuck
def oMod (x y : DV) (sto : Sto) : Res DV := match x, y with
  | .int i, .int j => if 0 < j then .ok (.int (i % j)) sto else .stuck
  | _, _ => .stuck
def oPow (x y : DV) (sto : Sto) : Res DV := match x, y with
  | .int i, .int j => if 0 ≤ j ∧ j ≤ 1000 ∧ i.natAbs < 1000 then .ok (.int (i ^ j.toNat)) sto else .stuck
  | _, _ => .stuck
def oLt (x y : DV) (sto : Sto) : Res DV := match x, y with
  | .int i, .int j => .ok (.bl (decide (i < j))) sto
  | _, _ => .stuck
def oLe (x y : DV) (sto : Sto) : Res DV := match x, y with
  | .int i, .int j => .ok (.bl (decide (i ≤ j))) sto
  | _, _ => .stuck
def oGt (x y : DV) (sto : Sto) : Res DV := match x, y with
  | .int i, .int j => .ok (.bl (decide (j < i))) sto
  | _, _ => .stuck
theorem log2_lt {n k : Nat} (h : n < 2 ^ k) (hk : 0 < k) : n.log2 < k := by
  by_cases h0 : n = 0
  · subst h0; simpa using hk
  · exact (Nat.log2_lt h0).mpr h
section
variable {X : Cx} {cA : Nat → Addr}
theorem op_ii {op : Value → Value → Sem Value} {r : Int → Int → V} {f : DV → DV → Sto → Res DV} {g : Int → Int → DV} {C : Int → Int → Prop} (ho : OpR X op (rI C r)) (hf : ∀ i j sto, C i j → f (.int i) (.int j) sto = .ok (g i j) sto) (hn : ∀ i j sto, ¬ C i j → f (.int i) (.int j) sto = .stuck) (hg : ∀ i j S, Rep X.K cA S (g i j) (r i j))
    (hs : ∀ x y sto, f x y sto = .stuck ∨ (∃ i j, x = .int i ∧ y = .int j)) : OpS X cA op f := fun S sto x y vx vy Q ok rx ry p pins s σ v u I r1 r2 => by
  rcases hs x y sto with e | ⟨i, j, rfl, rfl⟩
  · rw [e] at p; exact p.elim
  · have rx : vx = .int i := rx
    have ry : vy = .int j := ry
    subst rx ry
    by_cases hc : C i j
    · rw [hf i j sto hc] at p
      exact ho pins s σ S.H _ _ v u Q I r1 r2 ⟨i, j, rfl, rfl, hc, ret_same ok p (hg i j S)⟩
    · rw [hn i j sto hc] at p; exact p.elim
theorem op_ii0 {op : Value → Value → Sem Value} {r : Int → Int → V} {f : DV → DV → Sto → Res DV} {g : Int → Int → DV} (ho : OpR X op (rI0 r)) (hf : ∀ i j sto, f (.int i) (.int j) sto = .ok (g i j) sto) (hg : ∀ i j S, Rep X.K cA S (g i j) (r i j))
    (hs : ∀ x y sto, f x y sto = .stuck ∨ (∃ i j, x = .int i ∧ y = .int j)) : OpS X cA op f := fun S sto x y vx vy Q ok rx ry p pins s σ v u I r1 r2 => by
  rcases hs x y sto with e | ⟨i, j, rfl, rfl⟩
  · rw [e] at p; exact p.elim
  · have rx : vx = .int i := rx
    have ry : vy = .int j := ry
    subst rx ry
    rw [hf i j sto] at p
    exact ho pins s σ S.H _ _ v u Q I r1 r2 ⟨i, j, rfl, rfl, ret_same ok p (hg i j S)⟩
theorem ss {f : DV → DV → Sto → Res DV} (h : ∀ x y sto, (∀ i j, ¬ (x = .int i ∧ y = .int j)) → f x y sto = .stuck) : ∀ x y sto, f x y sto = .stuck ∨ (∃ i j, x = .int i ∧ y = .int j) := fun x y sto => by
  by_cases q : ∃ i j, x = .int i ∧ y = .int j
  · exact .inr q
  · exact .inl (h x y sto fun i j z => q ⟨i, j, z⟩)
theorem s_sub : OpS X cA (binaryOp .Sub) oSub := op_ii0 op_sub (fun _ _ _ => rfl) (fun _ _ _ => rfl) (ss fun x y sto h => by cases x <;> first | rfl | (cases y <;> first | rfl | exact absurd ⟨rfl, rfl⟩ (h _ _)))
theorem s_lt : OpS X cA (compareOp .Lt) oLt := op_ii0 op_lt (fun _ _ _ => rfl) (fun _ _ _ => rfl) (ss fun x y sto h => by cases x <;> first | rfl | (cases y <;> first | rfl | exact absurd ⟨rfl, rfl⟩ (h _ _)))
theorem s_le : OpS X cA (compareOp .LtE) oLe := op_ii0 op_le (fun _ _ _ => rfl) (fun _ _ _ => rfl) (ss fun x y sto h => by cases x <;> first | rfl | (cases y <;> first | rfl | exact absurd ⟨rfl, rfl⟩ (h _ _)))
theorem s_gt : OpS X cA (compareOp .Gt) oGt := op_ii0 op_gt (fun _ _ _ => rfl) (fun _ _ _ => rfl) (ss fun x y sto h => by cases x <;> first | rfl | (cases y <;> first | rfl | exact absurd ⟨rfl, rfl⟩ (h _ _)))
theorem s_mod : OpS X cA (binaryOp .Mod) oMod := op_ii op_mod (fun i j sto h => if_pos h) (fun i j sto h => if_neg h) (fun _ _ _ => rfl) (ss fun x y sto h => by cases x <;> first | rfl | (cases y <;> first | rfl | exact absurd ⟨rfl, rfl⟩ (h _ _)))
theorem s_div : OpS X cA (binaryOp .FloorDiv) oDiv := op_ii (C := fun i j => 0 < j ∧ j < 2 ^ 250) (r := fun i j => .int (i / j))
  (fun pins s σ H x y v u Q I r1 r2 ⟨i, j, e1, e2, hc, q⟩ => op_fdivW pins s σ H x y v u Q I r1 r2 ⟨i, j, e1, e2, ⟨hc.1, Nat.lt_of_lt_of_le (log2_lt (k := 250) (by have h1 := hc.1; have h2 := hc.2; omega) (by decide)) (by decide)⟩, q⟩)
  (fun i j sto h => if_pos h) (fun i j sto h => if_neg h) (fun _ _ _ => rfl) (ss fun x y sto h => by cases x <;> first | rfl | (cases y <;> first | rfl | exact absurd ⟨rfl, rfl⟩ (h _ _)))
theorem s_pow : OpS X cA (binaryOp .Pow) oPow := op_ii (C := fun i j => 0 ≤ j ∧ j ≤ 1000 ∧ i.natAbs < 1000) (r := fun i j => .int (i ^ j.toNat))
  (fun pins s σ H x y v u Q I r1 r2 ⟨i, j, e1, e2, hc, q⟩ => op_pow pins s σ H x y v u Q I r1 r2 ⟨i, j, e1, e2, ⟨hc.1, by omega, by omega⟩, q⟩)
  (fun i j sto h => if_pos h) (fun i j sto h => if_neg h) (fun _ _ _ => rfl) (ss fun x y sto h => by cases x <;> first | rfl | (cases y <;> first | rfl | exact absurd ⟨rfl, rfl⟩ (h _ _)))
theorem n_sub (x y : DV) (s : Sto) : (oSub x y s).noexc := by unfold oSub; split <;> trivial
theorem n_lt (x y : DV) (s : Sto) : (oLt x y s).noexc := by unfold oLt; split <;> trivial
theorem n_le (x y : DV) (s : Sto) : (oLe x y s).noexc := by unfold oLe; split <;> trivial
theorem n_gt (x y : DV) (s : Sto) : (oGt x y s).noexc := by unfold oGt; split <;> trivial
theorem n_mod (x y : DV) (s : Sto) : (oMod x y s).noexc := by unfold oMod; split <;> (try split) <;> trivial
theorem n_div (x y : DV) (s : Sto) : (oDiv x y s).noexc := by unfold oDiv; split <;> (try split) <;> trivial
theorem n_pow (x y : DV) (s : Sto) : (oPow x y s).noexc := by unfold oPow; split <;> (try split) <;> trivial
theorem n_newL (b : Bool) (ds : List DV) (s : Sto) : (newL b ds s).noexc := by cases b <;> trivial
theorem n_add (b : Bool) (x y : DV) (s : Sto) : (oAdd b x y s).noexc := by
  unfold oAdd
  split
  · trivial
  · split <;> trivial
  · split
    · split
      · exact n_newL _ _ _
      · trivial
    · trivial
theorem n_mul (b : Bool) (x y : DV) (s : Sto) : (oMul b x y s).noexc := by
  unfold oMul
  split
  · split <;> trivial
  · split
    · split
      · exact n_newL _ _ _
      · trivial
    · trivial
  · trivial
theorem s_add (b : Bool) : OpS X cA (binaryOp .Add) (oAdd b) := fun S sto x y vx vy Q ok rx ry p pins s σ v u I r1 r2 => by
  unfold oAdd at p
  split at p
  · rename_i i j
    have rx : vx = .int i := rx
    have ry : vy = .int j := ry
    subst rx ry
    exact op_add pins s σ S.H _ _ v u Q I r1 r2 ⟨i, j, rfl, rfl, ret_same ok p rfl⟩
  · rename_i xs ys
    split at p
    · rename_i hl
      have rx0 := rx; have ry0 := ry
      obtain ⟨a, vs, e1, h1, q1⟩ := rx
      obtain ⟨a', vs', e2, h2, q2⟩ := ry
      subst e1 e2
      refine op_catA pins s σ S.H _ _ v u Q I r1 r2 ⟨a, a', vs, vs', rfl, rfl, sqT h1, sqT h2, by rw [← q1.length, ← q2.length]; exact lim hl, fun e => ?_, fun _ e => ?_, fun _ _ t ht => ?_⟩
      · subst e
        have : xs = [] := List.eq_nil_of_length_eq_zero q1.length
        subst this
        exact ret_same ok p ry0
      · subst e
        have : ys = [] := List.eq_nil_of_length_eq_zero q2.length
        subst this
        rw [List.append_nil] at p
        exact ret_same ok p rx0
      · exact ret_tup ok p (q1.app q2) ht
    · exact p.elim
  · split at p
    · rename_i xs ys e1 e2
      split at p
      · rename_i hl
        obtain ⟨a, vs, e1, h1, q1⟩ := lstOf.rep ok rx e1
        obtain ⟨a', vs', e2, h2, q2⟩ := lstOf.rep ok ry e2
        subst e1 e2
        exact op_cat pins s σ S.H _ _ v u Q I r1 r2 ⟨a, a', vs, vs', rfl, rfl, h1, h2, by rw [← q1.length, ← q2.length]; exact lim hl, fun t ht => ret_lst ok p (q1.app q2) ht⟩
      · exact p.elim
    · exact p.elim
theorem RepL.rep {K : PySem.W.Frag} {S : Sys} {ds : List DV} {vs : List V} (h : RepL K cA S ds vs) : ∀ n : Nat, RepL K cA S (List.replicate n ds).flatten (List.replicate n vs).flatten
  | 0 => rfl
  | n + 1 => by
    rw [List.replicate_succ, List.replicate_succ, List.flatten_cons, List.flatten_cons]
    exact h.app (RepL.rep h n)
theorem s_mul (b : Bool) : OpS X cA (binaryOp .Mult) (oMul b) := fun S sto x y vx vy Q ok rx ry p pins s σ v u I r1 r2 => by
  unfold oMul at p
  split at p
  · rename_i i j
    have rx : vx = .int i := rx
    have ry : vy = .int j := ry
    subst rx ry
    split at p
    · rename_i hc
      exact op_mulW pins s σ S.H _ _ v u Q I r1 r2 ⟨i, j, rfl, rfl, by
        have h1 := log2_lt hc.1 (by decide)
        have h2 := log2_lt hc.2 (by decide)
        show i.natAbs.log2 + j.natAbs.log2 < 1000000
        omega, ret_same ok p rfl⟩
    · exact p.elim
  · rename_i k _
    split at p
    · rename_i xs e1
      split at p
      · rename_i hl
        obtain ⟨a, vs, e1, h1, q1⟩ := lstOf.rep ok rx e1
        have ry : vy = .int k := ry
        subst e1 ry
        refine op_rep pins s σ S.H _ _ v u Q I r1 r2 ⟨a, k, vs, rfl, rfl, h1, by omega, by omega, ?_, fun t ht => ?_⟩
        · rw [← q1.length]
          refine Nat.le_trans (Nat.mul_le_mul hl.2.2 (show k.toNat ≤ 1000 by omega)) (by decide)
        · exact ret_lst ok p (q1.rep _) ht
      · exact p.elim
    · exact p.elim
  · exact p.elim
end

/-! ### a datum as the library's data -/
mutual
def pyW (look : Nat → Option PyData) : DV → Option PyData
  | .non => some .none
  | .bl b => some (.bool b)
  | .int i => some (.int i)
  | .str x => some (.str x)
  | .tup ds => (pyWL look ds).map .tuple
  | .lst ds => (pyWL look ds).map .list
  | .scr ns => some (.list (ns.map .int))
  | .loc n => look n
  | _ => none
def pyWL (look : Nat → Option PyData) : List DV → Option (List PyData)
  | [] => some []
  | d :: ds => match pyW look d, pyWL look ds with
    | some x, some xs => some (x :: xs)
    | _, _ => none
end
def look0 : Nat → Option PyData := fun _ => none
def look1 (sto : Sto) (n : Nat) : Option PyData := match sto[n]? with
  | some (.lst ds) => (pyWL look0 ds).map .list
  | _ => none
def look2 (sto : Sto) (n : Nat) : Option PyData := match sto[n]? with
  | some (.lst ds) => (pyWL (look1 sto) ds).map .list
  | _ => none
def py (sto : Sto) (d : DV) : Option PyData := pyW (look2 sto) d
section
variable {K : PySem.W.Frag} {cA : Nat → Addr} {S : Sys} {sto : Sto}
theorem dpInts {H : Hp} : ∀ (ns : List Int), DpAll K H (ns.map V.int) (ns.map PyData.int)
  | [] => .nil
  | n :: ns => .cons (.int n) (dpInts ns)
mutual
theorem pyW.rep {look : Nat → Option PyData} (hl : ∀ n D, look n = some D → n < S.N → Dp K S.H (.ref (S.r n)) D) : ∀ (d : DV) (v : V) (D : PyData), Rep K cA S d v → pyW look d = some D → Dp K S.H v D
  | .non, v, D, r, h => by cases h; cases (show v = .non from r); exact .non
  | .bl b, v, D, r, h => by cases h; cases (show v = .bl b from r); exact .bl b
  | .int i, v, D, r, h => by cases h; cases (show v = .int i from r); exact .int i
  | .str x, v, D, r, h => by cases h; cases (show v = .str x from r); exact .str x
  | .tup ds, v, D, ⟨a, vs, e, h1, h2⟩, h => by
    simp only [pyW, Option.map_eq_some_iff] at h
    obtain ⟨xs, h3, rfl⟩ := h
    subst e
    exact .tup (sqT h1) (pyWL.rep hl ds vs xs h2 h3)
  | .lst ds, v, D, ⟨a, vs, e, _, h1, h2⟩, h => by
    simp only [pyW, Option.map_eq_some_iff] at h
    obtain ⟨xs, h3, rfl⟩ := h
    subst e
    exact .lst (sqL h1) (pyWL.rep hl ds vs xs h2 h3)
  | .scr ns, v, D, ⟨a, e, h1⟩, h => by
    cases h
    subst e
    exact .lst h1.sq (dpInts ns)
  | .loc n, v, D, ⟨h1, e⟩, h => by
    subst e
    exact hl n D h h1
  | .dic ks ds, v, D, _, h => by cases h
  | .ins c ns ds, v, D, _, h => by cases h
  | .ty n, v, D, _, h => by cases h
  | .cls c, v, D, _, h => by cases h
theorem pyWL.rep {look : Nat → Option PyData} (hl : ∀ n D, look n = some D → n < S.N → Dp K S.H (.ref (S.r n)) D) : ∀ (ds : List DV) (vs : List V) (D : List PyData), RepL K cA S ds vs → pyWL look ds = some D → DpAll K S.H vs D
  | [], vs, D, r, h => by cases h; cases (show vs = [] from r); exact .nil
  | d :: ds, vs, D, ⟨v, r, e, h1, h2⟩, h => by
    unfold pyWL at h
    split at h
    · rename_i x xs e1 e2
      cases h
      subst e
      exact .cons (pyW.rep hl d v x h1 e1) (pyWL.rep hl ds r xs h2 e2)
    · cases h
end
theorem look1.rep (ok : StoOk K cA S sto) : ∀ n D, look1 sto n = some D → n < S.N → Dp K S.H (.ref (S.r n)) D := fun n D h hn => by
  unfold look1 at h
  split at h
  · rename_i ds e
    simp only [Option.map_eq_some_iff] at h
    obtain ⟨xs, h3, rfl⟩ := h
    obtain ⟨vs, e1, e2⟩ := ok.ob n _ e
    exact .lst (sqL e1) (pyWL.rep (fun _ _ z _ => by cases z) ds vs xs e2 h3)
  · cases h
theorem look2.rep (ok : StoOk K cA S sto) : ∀ n D, look2 sto n = some D → n < S.N → Dp K S.H (.ref (S.r n)) D := fun n D h hn => by
  unfold look2 at h
  split at h
  · rename_i ds e
    simp only [Option.map_eq_some_iff] at h
    obtain ⟨xs, h3, rfl⟩ := h
    obtain ⟨vs, e1, e2⟩ := ok.ob n _ e
    exact .lst (sqL e1) (pyWL.rep (look1.rep ok) ds vs xs e2 h3)
  · cases h
theorem py.rep (ok : StoOk K cA S sto) {d : DV} {v : V} {D : PyData} (r : Rep K cA S d v) (h : py sto d = some D) : Dp K S.H v D := pyW.rep (look2.rep ok) d v D r h
end
def oEq (x y : DV) (sto : Sto) : Res DV := match py sto x, py sto y with
  | some a, some b => if SeqAt.shaped a = true ∧ SeqAt.shaped b = true then .ok (.bl (PyData.eqv a b)) sto else .stuck
  | _, _ => .stuck
def oNe (x y : DV) (sto : Sto) : Res DV := match py sto x, py sto y with
  | some a, some b => if SeqAt.shaped a = true ∧ SeqAt.shaped b = true then .ok (.bl (!PyData.eqv a b)) sto else .stuck
  | _, _ => .stuck
def oIn (x y : DV) (sto : Sto) : Res DV := match py sto x, py sto y with
  | some a, some (.list ds) => if SeqAt.shaped a = true ∧ SeqAt.shaped (.list ds) = true then .ok (.bl (ds.any fun z => PyData.eqv z a)) sto else .stuck
  | _, _ => .stuck
def oNotIn (x y : DV) (sto : Sto) : Res DV := match py sto x, py sto y with
  | some a, some (.list ds) => if SeqAt.shaped a = true ∧ SeqAt.shaped (.list ds) = true then .ok (.bl (!ds.any fun z => PyData.eqv z a)) sto else .stuck
  | _, _ => .stuck
section
variable {X : Cx} {cA : Nat → Addr}
theorem n_eq (x y : DV) (s : Sto) : (oEq x y s).noexc := by unfold oEq; split <;> (try split) <;> trivial
theorem n_ne (x y : DV) (s : Sto) : (oNe x y s).noexc := by unfold oNe; split <;> (try split) <;> trivial
theorem n_in (x y : DV) (s : Sto) : (oIn x y s).noexc := by unfold oIn; split <;> (try split) <;> trivial
theorem n_notIn (x y : DV) (s : Sto) : (oNotIn x y s).noexc := by unfold oNotIn; split <;> (try split) <;> trivial
theorem s_eq (hu : X.A.units + 64 < cLine) : OpS X cA (compareOp .Eq) oEq := fun S sto x y vx vy Q ok rx ry p pins s σ v u I r1 r2 => by
  unfold oEq at p
  split at p
  · rename_i a b e1 e2
    split at p
    · rename_i hs
      exact op_eqD hu pins s σ S.H _ _ v u Q I r1 r2 ⟨a, b, py.rep ok rx e1, py.rep ok ry e2, hs.1, hs.2, ret_same ok p rfl⟩
    · exact p.elim
  · exact p.elim
theorem s_ne (hu : X.A.units + 64 < cLine) : OpS X cA (compareOp .NotEq) oNe := fun S sto x y vx vy Q ok rx ry p pins s σ v u I r1 r2 => by
  unfold oNe at p
  split at p
  · rename_i a b e1 e2
    split at p
    · rename_i hs
      exact op_neD hu pins s σ S.H _ _ v u Q I r1 r2 ⟨a, b, py.rep ok rx e1, py.rep ok ry e2, hs.1, hs.2, ret_same ok p rfl⟩
    · exact p.elim
  · exact p.elim
theorem s_in (hu : X.A.units + 65 < cLine) : OpS X cA (compareOp .In) oIn := fun S sto x y vx vy Q ok rx ry p pins s σ v u I r1 r2 => by
  unfold oIn at p
  split at p
  · rename_i a b e1 e2
    split at p
    · rename_i hs
      exact op_inD hu pins s σ S.H _ _ v u Q I r1 r2 ⟨a, b, py.rep ok rx e1, py.rep ok ry e2, hs.1, hs.2, ret_same ok p rfl⟩
    · exact p.elim
  · exact p.elim
theorem s_notIn (hu : X.A.units + 65 < cLine) : OpS X cA (compareOp .NotIn) oNotIn := fun S sto x y vx vy Q ok rx ry p pins s σ v u I r1 r2 => by
  unfold oNotIn at p
  split at p
  · rename_i a b e1 e2
    split at p
    · rename_i hs
      exact op_notInD hu pins s σ S.H _ _ v u Q I r1 r2 ⟨a, b, py.rep ok rx e1, py.rep ok ry e2, hs.1, hs.2, ret_same ok p rfl⟩
    · exact p.elim
  · exact p.elim
end
end BB
namespace BB
open PySem PySem.Spec PyProof.Rows L2

/-! ### subscripts -/
def dicOf (sto : Sto) (x : DV) (y : DV) : Option (Option DV) := match x with
  | .dic ks ds => match tkeyOf y with
    | some k => some (lookK ks ds k)
    | none => none
  | .loc n => match sto[n]? with
    | some (.dT ks ds) => match tkeyOf y with
      | some k => some (lookK ks ds k)
      | none => none
    | some (.dK ks ds) => match keyOf y with
      | some k => some (lookK ks ds k)
      | none => none
    | some (.dKf ks ds) => match keyOf y with
      | some k => some (lookK ks ds k)
      | none => none
    | _ => none
  | _ => none
def ixD (x y : DV) (sto : Sto) : Res DV := match dicOf sto x y with
  | some (some d) => .ok d sto
  | some none => .stuck
  | none => match y, seqOf sto x with
    | .int i, some ds => match atI ds i with
      | some d => .ok d sto
      | none => .stuck
    | _, _ => .stuck
def eIx (a b : EM) : EM := fun env sto => (a env sto).bind fun x s1 => (b env s1).bind fun y s2 => ixD x y s2
section
variable {X : Cx} {cA : Nat → Addr} {Z : Nat → L2.St → Hp → Prop} {pos : Pos} {a b : Expr} {ma mb : EM} {S : Sys} {sto : Sto}
theorem dicOf.rep {x y d : DV} {vx vy : V} {o : Option DV} (ok : StoOk X.K cA S sto) (rx : Rep X.K cA S x vx) (ry : Rep X.K cA S y vy) (h : dicOf sto x y = some o) : ∃ a w, vx = .ref a ∧ DGet S.H a vy w ∧ (∀ d, o = some d → ∃ v, w = some v ∧ Rep X.K cA S d v) ∧ (o = none → w = none) := by
  unfold dicOf at h
  split at h
  · rename_i ks ds
    obtain ⟨a, kvs, e, _, h1, h2, h3⟩ := rx
    split at h
    · rename_i k hk
      cases h
      obtain ⟨b, e2, hb⟩ := tkeyOf.rep ry hk
      subst e e2
      exact ⟨a, _, rfl, DGet.t h1 hb, fun d hd => lookK.rep h2 h3 hd, fun hd => lookK.no h2 h3 hd⟩
    · cases h
  · rename_i n
    obtain ⟨hn, e⟩ := rx
    split at h
    · rename_i ks ds hs
      obtain ⟨kvs, h1, h2, h3, _⟩ := ok.ob n _ hs
      split at h
      · rename_i k hk
        cases h
        obtain ⟨b, e2, hb⟩ := tkeyOf.rep ry hk
        subst e e2
        exact ⟨_, _, rfl, DGet.t h1 hb, fun d hd => lookK.rep h2 h3 hd, fun hd => lookK.no h2 h3 hd⟩
      · cases h
    · rename_i ks ds hs
      obtain ⟨kvs, h1, h2, h3, _⟩ := ok.ob n _ hs
      split at h
      · rename_i k hk
        cases h
        have e2 := keyOf.rep ry hk
        subst e e2
        exact ⟨_, _, rfl, DGet.k h1, fun d hd => lookK.rep h2 h3 hd, fun hd => lookK.no h2 h3 hd⟩
      · cases h
    · rename_i ks ds hs
      obtain ⟨ob, kvs, h1, h2, h3, _⟩ := ok.ob n _ hs
      split at h
      · rename_i k hk
        cases h
        have e2 := keyOf.rep ry hk
        subst e e2
        exact ⟨_, _, rfl, .inl ⟨kvs, k, .inr ⟨ob, h1⟩, rfl, rfl⟩, fun d hd => lookK.rep h2 h3 hd, fun hd => lookK.no h2 h3 hd⟩
      · cases h
    · cases h
  · cases h
theorem atI.rep {ds : List DV} {vs : List V} {i : Int} {d : DV} (r : RepL X.K cA S ds vs) (h : atI ds i = some d) : ∃ v, atI vs i = some v ∧ Rep X.K cA S d v := by
  unfold atI at h ⊢
  rw [← r.length]
  cases e : ixN ds.length i with
  | none => rw [e] at h; cases h
  | some j =>
    rw [e] at h
    exact r.get h
theorem g_ix (hu : X.A.units + 1 < cLine) (ha : GE X cA Z a ma) (hb : GE X cA Z b mb) (hs : PlainIx b := by exact fun _ _ => rfl) : GE X cA Z (.Subscript a b pos) (eIx ma mb) := fun S σ env sto ok eo Q p => by
  by_cases hk : ∃ x s1 y s2 o, ma env sto = .ok x s1 ∧ mb env s1 = .ok y s2 ∧ dicOf s2 x y = some o
  · obtain ⟨x, s1, y, s2, o, e1, e2, e3⟩ := hk
    refine wE.of (pe_dget hu (peW a) (peW b) hs) (ha.thenE ok eo p fun x' s1' S1 vx q1 g1 ok1 eo1 rx h1 => ?_)
    rw [e1] at q1; cases q1
    refine hb.thenE ok1 eo1 h1 fun y' s2' S2 vy q2 g2 ok2 eo2 ry h2 => ?_
    rw [e2] at q2; cases q2
    obtain ⟨c, w, ec, hg, hd, hno⟩ := dicOf.rep (X := X) (d := x) ok2 (rx.grow ok1 g2) ry e3
    unfold ixD at h2
    rw [e3] at h2
    cases o with
    | none => exact h2.elim
    | some d =>
      obtain ⟨v, rfl, rv⟩ := hd d rfl
      exact ⟨c, v, ec, hg, ret_same ok2 h2 rv⟩
  · refine wE.of (pe_ix ix_seq (peW a) (peW b) hs) (ha.thenE ok eo p fun x s1 S1 vx q1 g1 ok1 eo1 rx h1 => ?_)
    refine hb.thenE ok1 eo1 h1 fun y s2 S2 vy q2 g2 ok2 eo2 ry h2 => ?_
    have e3 : dicOf s2 x y = none := by
      cases e : dicOf s2 x y with
      | none => rfl
      | some o => exact absurd ⟨x, s1, y, s2, o, q1, q2, e⟩ hk
    unfold ixD at h2
    rw [e3] at h2
    cases y <;> first | exact h2.elim | skip
    rename_i i
    cases e4 : seqOf s2 x with
    | none => rw [e4] at h2; exact h2.elim
    | some ds =>
      rw [e4] at h2
      simp only at h2
      cases e5 : atI ds i with
      | none => rw [e5] at h2; exact h2.elim
      | some d =>
        rw [e5] at h2
        have ry : vy = .int i := ry
        subst ry
        obtain ⟨c, vs, ec, hq, rs⟩ := seqOf.rep ok2 (rx.grow ok1 g2) e4
        obtain ⟨v, hv, rv⟩ := atI.rep (X := X) rs e5
        subst ec
        rcases hq with hq | hq
        · exact .inl ⟨c, vs, i, v, rfl, rfl, hq, hv, ret_same ok2 h2 rv⟩
        · exact .inr (.inl ⟨c, vs, i, v, rfl, rfl, hq, hv, ret_same ok2 h2 rv⟩)
end

/-! ### slices -/
def cutD (xs : List DV) (lo hi : Option Int) : List DV := (xs.drop (HT.sIx xs.length 0 lo)).take (HT.sIx xs.length xs.length hi - HT.sIx xs.length 0 lo)
abbrev PM := Env → Sto → Res (Option Int)
def pNone : PM := fun _ sto => .ok none sto
def pSome (a : EM) : PM := fun env sto => (a env sto).bind fun d s => match d with
  | .int i => .ok (some i) s
  | _ => .stuck
def slD (b : Bool) (x : DV) (lo hi : Option Int) (sto : Sto) : Res DV := match x with
  | .tup ds => .ok (.tup (cutD ds lo hi)) sto
  | .scr ns => newL b (cutD (ns.map DV.int) lo hi) sto
  | x => match lstOf sto x with
    | some ds => newL b (cutD ds lo hi) sto
    | none => .stuck
def eSl (b : Bool) (a : EM) (lo hi : PM) : EM := fun env sto => (a env sto).bind fun x s1 => (lo env s1).bind fun l s2 => (hi env s2).bind fun h s3 => slD b x l h s3
section
variable {X : Cx} {cA : Nat → Addr} {Z : Nat → L2.St → Hp → Prop} {pos p2 : Pos} {a : Expr} {ma : EM} {S : Sys} {sto : Sto} {lo hi : Option Expr} {ml mh : PM}
def wO (X : Cx) (e : Option Expr) : TO := fun σ H Q => ∀ pins s, Inv X pins σ H s → wpAny (model X.prog X.w) X.A (evalPart e X.env) (fun u s' => ∃ o H', Inv X pins σ H' s' ∧ IsPart u o ∧ Q o H') X.xe s
theorem poW (e : Option Expr) : PO X e (wO X e) := ⟨fun pins s σ H Q I h => h pins s I⟩
def GO (X : Cx) (cA : Nat → Addr) (Z : Nat → L2.St → Hp → Prop) (e : Option Expr) (m : PM) : Prop := ∀ S σ env sto, StoOk X.K cA S sto → EnvOk X.K cA S env σ → ∀ Q : Option Int → Hp → Prop, Post X.K cA S (m env sto) (fun d _ S' => Q d S'.H) (fun c _ S' => Z c σ S'.H) → wO X e σ S.H Q
theorem go_none : GO X cA Z none pNone := fun S σ env sto ok eo Q p pins s I => po_none.run pins s σ S.H Q I (p S (Grow.refl ok) ok)
theorem go_some (h : GE X cA Z a ma) : GO X cA Z (some a) (pSome ma) := fun S σ env sto ok eo Q p pins s I => (po_some (peW a)).run pins s σ S.H Q I (h.then ok eo p fun d s1 S1 v g1 ok1 eo1 r h1 => by
  cases d <;> first | exact h1.elim | skip
  exact ⟨_, r, h1 S1 (Grow.refl ok1) ok1⟩)
theorem GO.then {S : Sys} {σ : L2.St} {env : Env} {sto : Sto} {β : Type} {e : Option Expr} {m : PM} (g : GO X cA Z e m) (ok : StoOk X.K cA S sto) (eo : EnvOk X.K cA S env σ) {f : Option Int → Sto → Res β} {Qf : β → Sto → Sys → Prop} {Q : Option Int → Hp → Prop}
    (h : Post X.K cA S ((m env sto).bind f) Qf (fun c _ S' => Z c σ S'.H))
    (hq : ∀ b s S', Grow S S' → StoOk X.K cA S' s → EnvOk X.K cA S' env σ → Post X.K cA S' (f b s) Qf (fun c _ S' => Z c σ S'.H) → Q b S'.H) : wO X e σ S.H Q :=
  g S σ env sto ok eo Q ((Post.bind h).imp (fun d s S' gr o1 p => hq d s S' gr o1 (eo.grow ok gr) p) fun _ _ _ _ _ z => z)
theorem cutD.rep {ds : List DV} {vs : List V} (r : RepL X.K cA S ds vs) (lo hi : Option Int) : RepL X.K cA S (cutD ds lo hi) (cutV vs lo hi) := by
  unfold cutD cutV
  rw [← r.length]
  exact (r.drop _).take _
theorem cut_all {xs : List DV} {lo hi : Option Int} (h : HT.sIx xs.length 0 lo = 0 ∧ HT.sIx xs.length xs.length hi = xs.length) : cutD xs lo hi = xs := by
  unfold cutD
  rw [h.1, h.2, List.drop_zero, Nat.sub_zero, List.take_length]
theorem g_sl (b : Bool) (ha : GE X cA Z a ma) (hl : GO X cA Z lo ml) (hh : GO X cA Z hi mh) : GE X cA Z (.Subscript a (.Slice lo hi none p2) pos) (eSl b ma ml mh) := fun S σ env sto ok eo Q p => by
  refine wE.of (pe_slice (SlR.or sl_list sl_tupA) (peW a) (poW lo) (poW hi)) (ha.then ok eo p fun x s1 S1 vx g1 ok1 eo1 rx h1 => ?_)
  refine hl.then ok1 eo1 h1 fun l s2 S2 g2 ok2 eo2 h2 => ?_
  refine hh.then ok2 eo2 h2 fun u s3 S3 g3 ok3 eo3 h3 => ?_
  have rx3 := (rx.grow ok1 g2).grow ok2 g3
  unfold slD at h3
  split at h3
  · rename_i ds
    have r0 := rx3
    obtain ⟨c, vs, ec, hc, rs⟩ := rx3
    subst ec
    refine .inr ⟨c, vs, rfl, sqT hc, fun hw => ?_, fun _ q hq => ret_tup ok3 h3 (cutD.rep (X := X) rs l u) hq⟩
    rw [← rs.length] at hw
    rw [cut_all hw] at h3
    exact ret_same ok3 h3 r0
  · rename_i ns
    obtain ⟨c, ec, hc⟩ := rx3
    subst ec
    exact .inl ⟨c, _, rfl, hc.sq, fun q hq => ret_lst ok3 h3 (cutD.rep (X := X) (RepL.ints ns) l u) hq⟩
  · split at h3
    · rename_i ds e
      obtain ⟨c, vs, ec, hc, rs⟩ := lstOf.rep ok3 rx3 e
      subst ec
      exact .inl ⟨c, vs, rfl, sqL hc, fun q hq => ret_lst ok3 h3 (cutD.rep (X := X) rs l u) hq⟩
    · exact h3.elim
end

/-! ### calls of built-ins by values -/
def eCB (f : List DV → Sto → Res DV) (t : AM) : EM := fun env sto => (t env sto).bind fun ds s => f ds s
def CallS (X : Cx) (cA : Nat → Addr) (fn : Value) (f : List DV → Sto → Res DV) : Prop :=
  ∀ S sto ds vs (Q : VK), StoOk X.K cA S sto → RepL X.K cA S ds vs → Post X.K cA S (f ds sto) (VQ X.K cA Q) (fun _ _ _ => False) →
    ∀ (pins : List (Addr × Obj)) (s : Shared) (σ : L2.St) (us : List Value), Inv X pins σ S.H s → Vals vs us → wpAny (model X.prog X.w) X.A (call fn us) (EP X pins σ Q) X.xe s
def wCB (X : Cx) (fn : Value) : List V → Hp → VK → Prop := fun vs H Q => ∀ (pins : List (Addr × Obj)) (s : Shared) (σ : L2.St) (us : List Value), Inv X pins σ H s → Vals vs us → wpAny (model X.prog X.w) X.A (call fn us) (EP X pins σ Q) X.xe s
theorem cbW (X : Cx) (fn : Value) : CallR X fn (wCB X fn) := fun pins s σ H xs us Q I r h => h pins s σ us I r
section
variable {X : Cx} {cA : Nat → Addr} {Z : Nat → L2.St → Hp → Prop} {pos p : Pos} {x : Str} {e : Expr} {es : List Expr} {t : AM} {f : List DV → Sto → Res DV}
theorem CallS.use {fn : Value} (h : CallS X cA fn f) (hn : ∀ x s, (f x s).noexc) {S : Sys} {sto : Sto} {ds : List DV} {vs : List V} {Q : VK} {Zf : Nat → Sto → Sys → Prop} (ok : StoOk X.K cA S sto) (rx : RepL X.K cA S ds vs) (p : Post X.K cA S (f ds sto) (VQ X.K cA Q) Zf) : wCB X fn vs S.H Q :=
  fun pins s σ us I r1 => h S sto ds vs Q ok rx (p.noZ (hn ds sto)) pins s σ us I r1
theorem g_callB {id : String} (hc : CallS X cA (.builtin id) f) (hn : ∀ x s, (f x s).noexc) (hm : X.mg x = none) (ha : GA X cA Z (e :: es) t) (hg : Gl X x := by rfl) (hv : bootBuiltins x = some (.builtin id) := by decide +kernel) (hnm : x ≠ "__name__" := by decide) (hdb : (x == ("__debug__" : Str)) = false := by decide)
    (he : starEach (e :: es) X.env = (false, eval e X.env) :: starEach es X.env := by rfl) (hpl : (backTo pos (starEach es X.env)).any (·.1) = false := by rfl) : GE X cA Z (.Call (.Name x p) (e :: es) [] pos) (eCB f t) := fun S σ env sto ok eo Q p => by
  refine wE.of (pe_callB (cbW X _) hg hm hv (paW _) hnm hdb he hpl) (ha.then ok eo p fun ds s1 S1 vs g1 ok1 eo1 rs h1 => ?_)
  exact hc.use hn ok1 rs h1
theorem g_callTy {T : String} (hc : CallS X cA (.type T) f) (hn : ∀ x s, (f x s).noexc) (hm : X.mg x = none) (ha : GA X cA Z (e :: es) t) (hg : Gl X x := by rfl) (hv : bootBuiltins x = some (.type T) := by decide +kernel) (hnm : x ≠ "__name__" := by decide) (hdb : (x == ("__debug__" : Str)) = false := by decide)
    (he : starEach (e :: es) X.env = (false, eval e X.env) :: starEach es X.env := by rfl) (hpl : (backTo pos (starEach es X.env)).any (·.1) = false := by rfl) : GE X cA Z (.Call (.Name x p) (e :: es) [] pos) (eCB f t) := fun S σ env sto ok eo Q p => by
  refine wE.of (pe_callTy (cbW X _) hg hm hv (paW _) hnm hdb he hpl) (ha.then ok eo p fun ds s1 S1 vs g1 ok1 eo1 rs h1 => ?_)
  exact hc.use hn ok1 rs h1
end
def fLen (ds : List DV) (sto : Sto) : Res DV := match ds with
  | [d] => match seqOf sto d with
    | some xs => .ok (.int xs.length) sto
    | none => .stuck
  | _ => .stuck
def intsOf : List DV → Option (List Int)
  | [] => some []
  | .int i :: ds => (intsOf ds).map (i :: ·)
  | _ => none
def blsOf : List DV → Option (List Bool)
  | [] => some []
  | .bl i :: ds => (blsOf ds).map (i :: ·)
  | _ => none
def lsqOf (sto : Sto) : DV → Option (List DV)
  | .scr ns => some (ns.map DV.int)
  | d => lstOf sto d
def fSum (ds : List DV) (sto : Sto) : Res DV := match ds with
  | [d] => match (lsqOf sto d).bind intsOf with
    | some ns => .ok (.int ns.sum) sto
    | none => .stuck
  | _ => .stuck
def fAll (ds : List DV) (sto : Sto) : Res DV := match ds with
  | [d] => match (lsqOf sto d).bind blsOf with
    | some bs => .ok (.bl (bs.all id)) sto
    | none => .stuck
  | _ => .stuck
def fAny (ds : List DV) (sto : Sto) : Res DV := match ds with
  | [d] => match (lsqOf sto d).bind blsOf with
    | some bs => .ok (.bl (bs.any id)) sto
    | none => .stuck
  | _ => .stuck
def fAbs (ds : List DV) (sto : Sto) : Res DV := match ds with
  | [.int i] => .ok (.int (if i < 0 then -i else i)) sto
  | _ => .stuck
/-- the least, the greatest of a list -/
def leastI : List Int → Int
  | [] => 0
  | [x] => x
  | x :: y :: r => min x (leastI (y :: r))
def mostI : List Int → Int
  | [] => 0
  | [x] => x
  | x :: y :: r => max x (mostI (y :: r))
def fMin (ds : List DV) (sto : Sto) : Res DV := match ds with
  | [.int i, .int j] => .ok (.int (if j < i then j else i)) sto
  | [d] => match (lsqOf sto d).bind intsOf with
    | some (n :: ns) => .ok (.int (leastI (n :: ns))) sto
    | _ => .stuck
  | _ => .stuck
def fMax (ds : List DV) (sto : Sto) : Res DV := match ds with
  | [.int i, .int j] => .ok (.int (if j > i then j else i)) sto
  | [d] => match (lsqOf sto d).bind intsOf with
    | some (n :: ns) => .ok (.int (mostI (n :: ns))) sto
    | _ => .stuck
  | _ => .stuck
def fInt (ds : List DV) (sto : Sto) : Res DV := match ds with
  | [.int i] => .ok (.int i) sto
  | [.bl k] => .ok (.int (if k then 1 else 0)) sto
  | _ => .stuck
def fList (b : Bool) (ds : List DV) (sto : Sto) : Res DV := match ds with
  | [d] => match seqOf sto d with
    | some xs => newL b xs sto
    | none => .stuck
  | _ => .stuck
section
variable {X : Cx} {cA : Nat → Addr} {S : Sys} {sto : Sto}
theorem one_rep {d : DV} {vs : List V} (r : RepL X.K cA S [d] vs) : ∃ v, vs = [v] ∧ Rep X.K cA S d v := by
  obtain ⟨v, r', e, h1, h2⟩ := r
  cases (show r' = [] from h2)
  exact ⟨v, e, h1⟩
theorem intsOf.eq : ∀ {ds : List DV} {ns : List Int}, intsOf ds = some ns → ds = ns.map DV.int
  | [], ns, h => by cases h; rfl
  | d :: ds, ns, h => by
    cases d <;> simp only [intsOf] at h <;> try (cases h; done)
    simp only [Option.map_eq_some_iff] at h
    obtain ⟨r, h1, rfl⟩ := h
    rw [intsOf.eq h1]; rfl
theorem blsOf.eq : ∀ {ds : List DV} {ns : List Bool}, blsOf ds = some ns → ds = ns.map DV.bl
  | [], ns, h => by cases h; rfl
  | d :: ds, ns, h => by
    cases d <;> simp only [blsOf] at h <;> try (cases h; done)
    simp only [Option.map_eq_some_iff] at h
    obtain ⟨r, h1, rfl⟩ := h
    rw [blsOf.eq h1]; rfl
@[simp] theorem intsOf_map : ∀ ns : List Int, intsOf (ns.map DV.int) = some ns
  | [] => rfl
  | n :: ns => by simp [intsOf, intsOf_map ns]
@[simp] theorem blsOf_map : ∀ ns : List Bool, blsOf (ns.map DV.bl) = some ns
  | [] => rfl
  | n :: ns => by simp [blsOf, blsOf_map ns]
theorem RepL.bls_iff {K : PySem.W.Frag} : ∀ {ns : List Bool} {vs : List V}, RepL K cA S (ns.map DV.bl) vs → vs = ns.map V.bl
  | [], vs, h => h
  | n :: ns, vs, ⟨v, r, e, h1, h2⟩ => by
    have h1 : v = .bl n := h1
    subst e h1
    rw [RepL.bls_iff h2]; rfl
theorem lsqOf.rep {d : DV} {v : V} {ds : List DV} (ok : StoOk X.K cA S sto) (r : Rep X.K cA S d v) (h : lsqOf sto d = some ds) : ∃ a vs, v = .ref a ∧ SqL X.K S.H a vs ∧ RepL X.K cA S ds vs := by
  cases d
  case scr ns =>
    cases h
    obtain ⟨a, e, h1⟩ := r
    exact ⟨a, _, e, h1.sq, RepL.ints ns⟩
  all_goals
    obtain ⟨a, vs, e, h1, h2⟩ := lstOf.rep ok r h
    exact ⟨a, vs, e, sqL h1, h2⟩
theorem lsq_ints {d : DV} {v : V} {ns : List Int} (ok : StoOk X.K cA S sto) (r : Rep X.K cA S d v) (h : (lsqOf sto d).bind intsOf = some ns) : ∃ a, v = .ref a ∧ SqL X.K S.H a (ns.map V.int) := by
  cases e : lsqOf sto d with
  | none => rw [e] at h; cases h
  | some ds =>
    rw [e] at h
    obtain ⟨a, vs, e1, h1, h2⟩ := lsqOf.rep ok r e
    rw [intsOf.eq (show intsOf ds = some ns from h)] at h2
    exact ⟨a, e1, by rw [← RepL.ints_iff h2]; exact h1⟩
theorem lsq_bls {d : DV} {v : V} {ns : List Bool} (ok : StoOk X.K cA S sto) (r : Rep X.K cA S d v) (h : (lsqOf sto d).bind blsOf = some ns) : ∃ a, v = .ref a ∧ SqL X.K S.H a (ns.map V.bl) := by
  cases e : lsqOf sto d with
  | none => rw [e] at h; cases h
  | some ds =>
    rw [e] at h
    obtain ⟨a, vs, e1, h1, h2⟩ := lsqOf.rep ok r e
    rw [blsOf.eq (show blsOf ds = some ns from h)] at h2
    exact ⟨a, e1, by rw [← RepL.bls_iff h2]; exact h1⟩
theorem s_len : CallS X cA (.builtin "len") fLen := fun S sto ds vs Q ok r p pins s σ us I rv => by
  unfold fLen at p
  split at p
  · split at p
    · rename_i d _ xs e
      obtain ⟨v, rfl, r1⟩ := one_rep r
      obtain ⟨a, ws, rfl, h1, h2⟩ := seqOf.rep ok r1 e
      exact call_len_seq pins s σ S.H _ us Q I rv ⟨a, ws, rfl, h1, by rw [← h2.length]; exact ret_same ok p rfl⟩
    · exact p.elim
  · exact p.elim
theorem s_sum (hc : X.calm = true) : CallS X cA (.builtin "sum") fSum := fun S sto ds vs Q ok r p pins s σ us I rv => by
  unfold fSum at p
  split at p
  · split at p
    · rename_i d _ xs e
      obtain ⟨v, rfl, r1⟩ := one_rep r
      obtain ⟨a, rfl, h1⟩ := lsq_ints ok r1 e
      exact cr_sum hc pins s σ S.H _ us Q I rv ⟨a, xs, rfl, h1, ret_same ok p rfl⟩
    · exact p.elim
  · exact p.elim
theorem s_all (hc : X.calm = true) : CallS X cA (.builtin "all") fAll := fun S sto ds vs Q ok r p pins s σ us I rv => by
  unfold fAll at p
  split at p
  · split at p
    · rename_i d _ xs e
      obtain ⟨v, rfl, r1⟩ := one_rep r
      obtain ⟨a, rfl, h1⟩ := lsq_bls ok r1 e
      exact cr_all hc pins s σ S.H _ us Q I rv ⟨a, xs, rfl, h1, ret_same ok p rfl⟩
    · exact p.elim
  · exact p.elim
theorem s_any (hc : X.calm = true) : CallS X cA (.builtin "any") fAny := fun S sto ds vs Q ok r p pins s σ us I rv => by
  unfold fAny at p
  split at p
  · split at p
    · rename_i d _ xs e
      obtain ⟨v, rfl, r1⟩ := one_rep r
      obtain ⟨a, rfl, h1⟩ := lsq_bls ok r1 e
      exact cr_any hc pins s σ S.H _ us Q I rv ⟨a, xs, rfl, h1, ret_same ok p rfl⟩
    · exact p.elim
  · exact p.elim
theorem two_rep {d e : DV} {vs : List V} (r : RepL X.K cA S [d, e] vs) : ∃ v u, vs = [v, u] ∧ Rep X.K cA S d v ∧ Rep X.K cA S e u := by
  obtain ⟨v, r', e, h1, h2⟩ := r
  obtain ⟨u, rfl, h3⟩ := one_rep h2
  exact ⟨v, u, e, h1, h3⟩
theorem s_abs : CallS X cA (.builtin "abs") fAbs := fun S sto ds vs Q ok r p pins s σ us I rv => by
  unfold fAbs at p
  split at p
  · rename_i i
    obtain ⟨v, rfl, r1⟩ := one_rep r
    cases (show v = .int i from r1)
    exact call_abs pins s σ S.H _ us Q I rv ⟨i, rfl, ret_same ok p rfl⟩
  · exact p.elim
theorem s_int : CallS X cA (.type "int") fInt := fun S sto ds vs Q ok r p pins s σ us I rv => by
  unfold fInt at p
  split at p
  · rename_i i
    obtain ⟨v, rfl, r1⟩ := one_rep r
    cases (show v = .int i from r1)
    exact call_int1 pins s σ S.H _ us Q I rv (.inl ⟨i, rfl, ret_same ok p rfl⟩)
  · rename_i i
    obtain ⟨v, rfl, r1⟩ := one_rep r
    cases (show v = .bl i from r1)
    exact call_int1 pins s σ S.H _ us Q I rv (.inr ⟨i, rfl, ret_same ok p rfl⟩)
  · exact p.elim
theorem s_list (b : Bool) : CallS X cA (.type "list") (fList b) := fun S sto ds vs Q ok r p pins s σ us I rv => by
  unfold fList at p
  split at p
  · split at p
    · rename_i d _ xs e
      obtain ⟨v, rfl, r1⟩ := one_rep r
      obtain ⟨a, ws, rfl, h1, h2⟩ := seqOf.rep ok r1 e
      exact call_list_of pins s σ S.H _ us Q I rv ⟨a, ws, rfl, h1, fun l hl => ret_lst ok p h2 hl⟩
    · exact p.elim
  · exact p.elim
theorem leastI_mem : ∀ (n : Int) (ns : List Int), leastI (n :: ns) ∈ n :: ns ∧ ∀ y ∈ n :: ns, leastI (n :: ns) ≤ y
  | n, [] => by simp [leastI]
  | n, m :: ns => by
    obtain ⟨h1, h2⟩ := leastI_mem m ns
    show min n (leastI (m :: ns)) ∈ _ ∧ _
    constructor
    · rcases Int.le_total n (leastI (m :: ns)) with h | h
      · rw [Int.min_eq_left h]; exact List.mem_cons_self
      · rw [Int.min_eq_right h]; exact List.mem_cons_of_mem _ h1
    · intro y hy
      show min n (leastI (m :: ns)) ≤ y
      rcases List.mem_cons.mp hy with rfl | hy
      · exact Int.min_le_left _ _
      · exact Int.le_trans (Int.min_le_right _ _) (h2 y hy)
theorem mostI_mem : ∀ (n : Int) (ns : List Int), mostI (n :: ns) ∈ n :: ns ∧ ∀ y ∈ n :: ns, y ≤ mostI (n :: ns)
  | n, [] => by simp [mostI]
  | n, m :: ns => by
    obtain ⟨h1, h2⟩ := mostI_mem m ns
    show max n (mostI (m :: ns)) ∈ _ ∧ _
    constructor
    · rcases Int.le_total n (mostI (m :: ns)) with h | h
      · rw [Int.max_eq_right h]; exact List.mem_cons_of_mem _ h1
      · rw [Int.max_eq_left h]; exact List.mem_cons_self
    · intro y hy
      show y ≤ max n (mostI (m :: ns))
      rcases List.mem_cons.mp hy with rfl | hy
      · exact Int.le_max_left _ _
      · exact Int.le_trans (h2 y hy) (Int.le_max_right _ _)
theorem s_min (hc : X.calm = true) : CallS X cA (.builtin "min") fMin := fun S sto ds vs Q ok r p pins s σ us I rv => by
  unfold fMin at p
  split at p
  · rename_i i j
    obtain ⟨v, u, rfl, r1, r2⟩ := two_rep r
    cases (show v = .int i from r1)
    cases (show u = .int j from r2)
    exact call_min2 hc pins s σ S.H _ us Q I rv ⟨i, j, rfl, ret_same ok p rfl⟩
  · split at p
    · rename_i d _ n ns e
      obtain ⟨v, rfl, r1⟩ := one_rep r
      obtain ⟨a, rfl, h1⟩ := lsq_ints ok r1 e
      refine cr_min hc pins s σ S.H _ us Q I rv ⟨a, n :: ns, rfl, h1, by simp, fun m hm hl => ?_⟩
      obtain ⟨q1, q2⟩ := leastI_mem n ns
      have : m = leastI (n :: ns) := Int.le_antisymm (hl _ q1) (q2 m hm)
      subst this
      exact ret_same ok p rfl
    · exact p.elim
  · exact p.elim
theorem s_max (hc : X.calm = true) : CallS X cA (.builtin "max") fMax := fun S sto ds vs Q ok r p pins s σ us I rv => by
  unfold fMax at p
  split at p
  · rename_i i j
    obtain ⟨v, u, rfl, r1, r2⟩ := two_rep r
    cases (show v = .int i from r1)
    cases (show u = .int j from r2)
    exact call_max2 hc pins s σ S.H _ us Q I rv ⟨i, j, rfl, ret_same ok p rfl⟩
  · split at p
    · rename_i d _ n ns e
      obtain ⟨v, rfl, r1⟩ := one_rep r
      obtain ⟨a, rfl, h1⟩ := lsq_ints ok r1 e
      refine cr_max hc pins s σ S.H _ us Q I rv ⟨a, n :: ns, rfl, h1, by simp, fun m hm hl => ?_⟩
      obtain ⟨q1, q2⟩ := mostI_mem n ns
      have : m = mostI (n :: ns) := Int.le_antisymm (q2 m hm) (hl _ q1)
      subst this
      exact ret_same ok p rfl
    · exact p.elim
  · exact p.elim
theorem n_len (x : List DV) (s : Sto) : (fLen x s).noexc := by unfold fLen; split <;> (try split) <;> trivial
theorem n_sum (x : List DV) (s : Sto) : (fSum x s).noexc := by unfold fSum; split <;> (try split) <;> trivial
theorem n_all (x : List DV) (s : Sto) : (fAll x s).noexc := by unfold fAll; split <;> (try split) <;> trivial
theorem n_any (x : List DV) (s : Sto) : (fAny x s).noexc := by unfold fAny; split <;> (try split) <;> trivial
theorem n_abs (x : List DV) (s : Sto) : (fAbs x s).noexc := by unfold fAbs; split <;> (try split) <;> trivial
theorem n_int (x : List DV) (s : Sto) : (fInt x s).noexc := by unfold fInt; split <;> (try split) <;> trivial
theorem n_min (x : List DV) (s : Sto) : (fMin x s).noexc := by unfold fMin; split <;> (try split) <;> trivial
theorem n_max (x : List DV) (s : Sto) : (fMax x s).noexc := by unfold fMax; split <;> (try split) <;> trivial
theorem n_list (b : Bool) (x : List DV) (s : Sto) : (fList b x s).noexc := by
  unfold fList; split
  · split
    · exact n_newL _ _ _
    · trivial
  · trivial
end
end BB
namespace BB
open PySem PySem.Spec PyProof.Rows L2

/-! ### isinstance of built-in classes -/
def tyD (sto : Sto) : DV → Option String
  | .non => some "NoneType"
  | .bl _ => some "bool"
  | .int _ => some "int"
  | .str _ => some "str"
  | .tup _ => some "tuple"
  | .lst _ => some "list"
  | .dic _ _ => some "dict"
  | .loc n => match sto[n]? with
    | some (.lst _) => some "list"
    | some (.dT _ _) => some "dict"
    | some (.dK _ _) => some "dict"
    | _ => none
  | _ => none
def fIsi (ds : List DV) (sto : Sto) : Res DV := match ds with
  | [x, .ty T] => match tyD sto x with
    | some t => match kitB t T with
      | some b => .ok (.bl b) sto
      | none => .stuck
    | none => .stuck
  | _ => .stuck
section
variable {X : Cx} {cA : Nat → Addr} {S : Sys} {sto : Sto}
theorem tyD.rep {K : PySem.W.Frag} {d : DV} {v : V} {t : String} (ok : StoOk K cA S sto) (r : Rep K cA S d v) (h : tyD sto d = some t) : TyX K S.H v (.type t) := by
  cases d <;> simp only [tyD] at h <;> try (cases h; done)
  · cases h; cases (show v = .non from r); exact .base .non
  · cases h; rename_i b; cases (show v = .bl b from r); exact .base (.bl b)
  · cases h; rename_i b; cases (show v = .int b from r); exact .base (.int b)
  · cases h; rename_i b; cases (show v = .str b from r); exact .base (.str b)
  · cases h; obtain ⟨a, vs, rfl, h1, _⟩ := r; exact .base (.tup h1)
  · cases h; obtain ⟨a, vs, rfl, _, h1, _⟩ := r; exact .base (.lst h1)
  · cases h; obtain ⟨a, vs, rfl, _, h1, _⟩ := r; exact .base (.dT h1)
  · rename_i n
    obtain ⟨hn, rfl⟩ := r
    split at h
    · rename_i e; cases h; obtain ⟨vs, e1, _⟩ := ok.ob n _ e; exact .base (.lst e1)
    · rename_i e; cases h; obtain ⟨vs, e1, _⟩ := ok.ob n _ e; exact .base (.dT e1)
    · rename_i e; cases h; obtain ⟨vs, e1, _⟩ := ok.ob n _ e; exact .base (.dK e1)
    · cases h
theorem s_isi : CallS X cA (.builtin "isinstance") fIsi := fun S sto ds vs Q ok r p pins s σ us I rv => by
  unfold fIsi at p
  split at p
  · rename_i x T
    obtain ⟨v, u, rfl, r1, r2⟩ := two_rep r
    cases (show u = .ty T from r2)
    split at p
    · rename_i t e
      split at p
      · rename_i b e2
        exact call_isi pins s σ S.H _ us Q I rv ⟨v, .ty T, .type t, .type T, b, rfl, .ty T, tyD.rep ok r1 e, kit_ty e2, ret_same ok p rfl⟩
      · exact p.elim
    · exact p.elim
  · exact p.elim
theorem n_isi (x : List DV) (s : Sto) : (fIsi x s).noexc := by
  unfold fIsi
  split
  · split
    · split <;> trivial
    · trivial
  · trivial
variable {Z : Nat → L2.St → Hp → Prop}
theorem g_ty {x : Str} {T : String} {pos : Pos} (hm : X.mg x = none) (hg : Gl X x := by rfl) (hv : bootBuiltins x = some (.type T) := by decide +kernel) (hn : x ≠ "__name__" := by decide) (hd : (x == ("__debug__" : Str)) = false := by decide) : GE X cA Z (.Name x pos) (eC (.ty T)) :=
  g_c (pe_bltn (v := .ty T) hg hm hv rfl hn hd) fun _ => rfl
end
theorem kb_int_int : kitB "int" "int" = some true := by decide +kernel
theorem kb_int_bool : kitB "int" "bool" = some false := by decide +kernel
theorem kb_int_list : kitB "int" "list" = some false := by decide +kernel
theorem kb_int_tuple : kitB "int" "tuple" = some false := by decide +kernel
theorem kb_bool_int : kitB "bool" "int" = some true := by decide +kernel
theorem kb_bool_bool : kitB "bool" "bool" = some true := by decide +kernel
theorem kb_list_list : kitB "list" "list" = some true := by decide +kernel
theorem kb_tuple_tuple : kitB "tuple" "tuple" = some true := by decide +kernel
theorem kb_tuple_list : kitB "tuple" "list" = some false := by decide +kernel

/-! ### sorted -/
def encD (d : DV) : PyData := (pyW look0 d).getD .none
def isTup1 : PyData → Bool
  | .tuple (_ :: _) => true
  | _ => false
def noTup : PyData → Bool
  | .none => false
  | .tuple _ => false
  | _ => true
def sortB (es : List PyData) : Bool := (es.all fun a => es.all fun b => PySem.W.alike a b) && (es.all isTup1 || es.all noTup) && es.all fun a => decide (a.depth ≤ 64)
def fSorted (b : Bool) (ds : List DV) (sto : Sto) : Res DV := match ds with
  | [d] => match lsqOf sto d with
    | some xs => if (pyWL look0 xs).isSome = true ∧ sortB (xs.map encD) = true ∧ xs.length ≤ 1000000 then newL b (xs.mergeSort (PySem.W.dataLe false encD)) sto else .stuck
    | none => .stuck
  | _ => .stuck
section
variable {X : Cx} {cA : Nat → Addr} {S : Sys} {sto : Sto}
theorem pyWL_enc : ∀ {xs : List DV} {es : List PyData}, pyWL look0 xs = some es → es = xs.map encD
  | [], es, h => by cases h; rfl
  | x :: xs, es, h => by
    unfold pyWL at h
    split at h
    · rename_i a as e1 e2
      cases h
      rw [pyWL_enc e2]
      simp [encD, e1]
    · cases h
theorem each_of {K : PySem.W.Frag} {R : Value → DV → Prop} (hR : ∀ v d x, RelV x v → Rep K cA S d x → R v d) : ∀ {xs : List DV} {vs : List V} {us : List Value}, RepL K cA S xs vs → Vals vs us → PySem.W.EachIs R us xs
  | [], _, _, h, r => by cases (show _ = [] from h); cases r; exact .nil
  | x :: xs, _, _, ⟨v, w, e, h1, h2⟩, r => by
    subst e
    cases r with
    | cons r1 r2 => exact .cons (hR _ _ _ r1 h1) (each_of hR h2 r2)
theorem each_read {K : PySem.W.Frag} {h : Heap} : ∀ {xs : List DV} {us : List Value} {as : List Addr}, ReadsAll h us (xs.map encD) as → PySem.W.EachIs (fun v d => ∃ as, Reads h v (encD d) as) us xs
  | [], us, as, r => by cases r; exact .nil
  | x :: xs, us, as, r => by
    rw [List.map_cons] at r
    cases r with
    | cons r1 r2 => exact .cons ⟨_, r1⟩ (each_read (K := K) r2)
theorem each_back {K : PySem.W.Frag} : ∀ {xs : List DV} {us : List Value}, PySem.W.EachIs (fun v d => ∃ x, RelV x v ∧ Rep K cA S d x) us xs → ∃ vs, Vals vs us ∧ RepL K cA S xs vs
  | [], _, h => by cases h; exact ⟨[], .nil, rfl⟩
  | x :: xs, _, h => by
    cases h with
    | cons h1 h2 =>
      obtain ⟨v, r, q⟩ := h1
      obtain ⟨vs, rs, qs⟩ := each_back h2
      exact ⟨v :: vs, .cons r rs, v, vs, rfl, q, qs⟩
theorem s_sorted (b : Bool) (hu : X.A.units + 200 < cLine) : CallS X cA (.builtin "sorted") (fSorted b) := fun S sto ds vs Q ok r p pins s σ us I rv => by
  unfold fSorted at p
  split at p
  · split at p
    · rename_i d _ xs e
      split at p
      · rename_i hc
        obtain ⟨hpy, hb, hl⟩ := hc
        obtain ⟨es, hes⟩ := Option.isSome_iff_exists.mp hpy
        obtain ⟨v, rfl, r1⟩ := one_rep r
        obtain ⟨a, ws, rfl, h1, h2⟩ := lsqOf.rep ok r1 e
        obtain rfl := Vals.ref1 rv
        obtain ⟨its, rw', pl, hz⟩ := I.list h1
        have hdp := pyWL.rep (cA := cA) (look := look0) (fun _ _ z _ => by cases z) xs ws es h2 hes
        obtain ⟨as, hra⟩ := Dp.readsAll I es ws its hdp rw'
        rw [pyWL_enc hes] at hra
        unfold sortB at hb
        simp only [Bool.and_eq_true, Bool.or_eq_true] at hb
        obtain ⟨⟨b1, b2⟩, b3⟩ := hb
        refine PySem.W.sorted_data (enc := encD) (R := fun v d => ∃ x, RelV x v ∧ Rep X.K cA S d x) (bs := xs) pl.isList (each_of (fun v d x r1 r2 => ⟨x, r1, r2⟩) h2 rw') (each_read (K := X.K) hra) ?_ ?_ (lim hl) ?_ ?_
        · intro d hd d' hd'
          rw [List.all_eq_true] at b1
          have := b1 d hd
          rw [List.all_eq_true] at this
          exact this d' hd'
        · rcases b2 with b2 | b2
          · refine .inl fun d hd => ?_
            rw [List.all_eq_true] at b2
            have := b2 d hd
            cases d <;> simp only [isTup1] at this <;> try (cases this; done)
            rename_i ys
            cases ys with
            | nil => cases this
            | cons y ys => exact ⟨y, ys, rfl⟩
          · refine .inr fun d hd => ?_
            rw [List.all_eq_true] at b2
            have := b2 d hd
            refine ⟨fun z => ?_, fun xs z => ?_⟩ <;> subst z <;> cases this
        · intro d hd
          rw [List.all_eq_true] at b3
          have := b3 (encD d) (List.mem_map.mpr ⟨d, hd, rfl⟩)
          simp only [decide_eq_true_eq] at this
          omega
        · intro out hlen hE
          obtain ⟨vs', rs', qs'⟩ := each_back hE
          obtain ⟨n, hn⟩ := sortedAll_at s.heap its out.toArray
          have hd : s.heap.objs.size ≤ s.heap.objs.size + 1 := Nat.le_succ _
          refine ⟨.ref (s.heap.objs.size + 1), upd S.H (s.heap.objs.size + 1) (.lst vs'), I.laid (t' := s.toks) (fun b o e => sortedAll_old e) hd ⟨?_, out, n, rs', hn⟩, rfl, ?_⟩
          · rw [rs'.length, hlen]; exact lim hl
          · exact ret_lst ok p qs' (I.hok.fresh hd)
      · exact p.elim
    · exact p.elim
  · exact p.elim
theorem n_sorted (b : Bool) (x : List DV) (s : Sto) : (fSorted b x s).noexc := by
  unfold fSorted
  split
  · split
    · split
      · exact n_newL _ _ _
      · trivial
    · trivial
  · trivial
end

/-! ### methods of lists of the store -/
def eBM (f : Nat → List DV → List DV → Sto → Res DV) (o : EM) (t : AM) : EM := fun env sto => (o env sto).bind fun x s1 => match x with
  | .loc n => match s1[n]? with
    | some (.lst _) => (t env s1).bind fun as s2 => match s2[n]? with
      | some (.lst ds) => f n ds as s2
      | _ => .stuck
    | _ => .stuck
  | _ => .stuck
def mAppend (n : Nat) (ds as : List DV) (sto : Sto) : Res DV := match as with
  | [y] => if ds.length < 1000000 then .ok .non (sto.set n (.lst (ds ++ [y]))) else .stuck
  | _ => .stuck
def mExtend (n : Nat) (ds as : List DV) (sto : Sto) : Res DV := match as with
  | [y] => match lstOf sto y with
    | some ys => if ds.length + ys.length ≤ 1000000 then .ok .non (sto.set n (.lst (ds ++ ys))) else .stuck
    | none => .stuck
  | _ => .stuck
def MetS (X : Cx) (cA : Nat → Addr) (id : String) (f : Nat → List DV → List DV → Sto → Res DV) : Prop :=
  ∀ S sto n ds as ws vs (Q : VK), StoOk X.K cA S sto → n < S.N → sto[n]? = some (.lst ds) → S.H (S.r n) = some (.lst ws) → RepL X.K cA S ds ws → RepL X.K cA S as vs → Post X.K cA S (f n ds as sto) (VQ X.K cA Q) (fun _ _ _ => False) →
    ∀ (pins : List (Addr × Obj)) (s : Shared) (σ : L2.St) (us : List Value), Inv X pins σ S.H s → Vals vs us → wpAny (model X.prog X.w) X.A (call (.builtin id) (.ref (S.r n) :: us)) (EP X pins σ Q) X.xe s
def wMt (X : Cx) (id : String) : V → List V → Hp → VK → Prop := fun x vs H Q => ∀ (pins : List (Addr × Obj)) (s : Shared) (σ : L2.St) (v : Value) (us : List Value), Inv X pins σ H s → RelV x v → Vals vs us → wpAny (model X.prog X.w) X.A (call (.builtin id) (v :: us)) (EP X pins σ Q) X.xe s
theorem mtW (X : Cx) (id : String) : MtR X id (wMt X id) := fun pins s σ H x xs v us Q I r rs h => h pins s σ v us I r rs
section
variable {X : Cx} {cA : Nat → Addr} {Z : Nat → L2.St → Hp → Prop} {apos cpos : Pos} {o e : Expr} {es : List Expr} {mo : EM} {t : AM} {name : Str} {id : String} {f : Nat → List DV → List DV → Sto → Res DV}
theorem mut_ret {S : Sys} {sto : Sto} {n : Nat} {ho : HO} {d : DO} {r : DV} {v : V} {Q : VK} {Zf : Nat → Sto → Sys → Prop} (ok : StoOk X.K cA S sto) (hn : n < S.N) (na : ¬ S.F (S.r n)) (nz : ∀ o u, S.H (S.r n) ≠ some (.frz o u)) (hd : ORep X.K cA S d (some ho)) (h : Post X.K cA S (.ok r (sto.set n d)) (VQ X.K cA Q) Zf) (rr : Rep X.K cA S r v) : Q v (upd S.H (S.r n) ho) :=
  h (S.mut n ho) (Grow.mut ok hn na nz) (ok.mut hn na nz hd) v (rr.grow ok (Grow.mut ok hn na nz))
theorem g_bm (pa : PlainAttrs "list") (slot : Slot "list" name id) (hty : typeOf (.builtin id) = pure (.type "method_descriptor")) (hm : MetS X cA id f) (hn : ∀ n ds as s, (f n ds as s).noexc) (ho : GE X cA Z o mo) (ha : GA X cA Z (e :: es) t)
    (hbase : attributeBase o name X.env (eval o X.env) = eval o X.env := by rfl)
    (hfew : ((backTo cpos (starEach (e :: es) X.env)).all (fun x => !x.1) && (backToKw cpos (keywordEach [] X.env)).all (fun x => x.1.isSome)
      && decide ((e :: es).length + ([] : List Keyword).length + (if ([] : List Keyword).isEmpty then 0 else 1) < 30)) = true := by rfl) (hline : (apos.endLine == cpos.line) = true := by rfl)
    (hs : starEach (e :: es) X.env = (false, eval e X.env) :: starEach es X.env := by rfl) (hplain : (backTo cpos (starEach es X.env)).any (·.1) = false := by rfl) : GE X cA Z (.Call (.Attribute o name apos) (e :: es) [] cpos) (eBM f mo t) := fun S σ env sto ok eo Q p => by
  refine wE.of (pe_bm pa slot hty (mtW X id) (peW o) (paW (e :: es)) (hbase := hbase) (hfew := hfew) (hline := hline) (hs := hs) (hplain := hplain)) (ho.then ok eo p fun x s1 S1 vx g1 ok1 eo1 rx h1 => ?_)
  cases x <;> first | exact h1.elim | skip
  rename_i n
  simp only at h1
  obtain ⟨hn1, rfl⟩ := rx
  split at h1
  · rename_i ds0 e0
    obtain ⟨ws0, q0, _⟩ := ok1.ob n _ e0
    refine ⟨.inl ⟨rfl, ws0, sqL q0⟩, ha.then ok1 eo1 h1 fun as s2 S2 vs g2 ok2 eo2 ras h2 => ?_⟩
    split at h2
    · rename_i ds e2
      obtain ⟨ws, q2, rds⟩ := ok2.ob n _ e2
      intro pins s σ' v us I rv rus
      cases (show v = .ref (S1.r n) from rv)
      rw [← g2.r n hn1]
      exact hm S2 s2 n ds as ws vs Q ok2 (ok2.lt e2) e2 q2 rds ras (h2.noZ (hn _ _ _ _)) pins s σ' us I rus
    · exact h2.elim
  · exact h1.elim
theorem s_append : MetS X cA "list.append" mAppend := fun S sto n ds as ws vs Q ok hn e q rds ras p pins s σ us I rus => by
  unfold mAppend at p
  split at p
  · split at p
    · rename_i y hl
      obtain ⟨v, rfl, rv⟩ := one_rep ras
      exact mt_append pins s σ S.H (.ref (S.r n)) _ (.ref (S.r n)) us Q I rfl rus ⟨S.r n, ws, v, rfl, rfl, q, by rw [← rds.length]; exact limlt hl, mut_ret (d := .lst _) ok hn (ok.alive e (by simp)) (fun o u z => by rw [q] at z; cases z) ⟨_, rfl, rds.app (.one rv)⟩ p rfl⟩
    · exact p.elim
  · exact p.elim
theorem s_extend : MetS X cA "list.extend" mExtend := fun S sto n ds as ws vs Q ok hn e q rds ras p pins s σ us I rus => by
  unfold mExtend at p
  split at p
  · split at p
    · rename_i y _ ys e2
      split at p
      · rename_i hl
        obtain ⟨v, rfl, rv⟩ := one_rep ras
        obtain ⟨b, zs, rfl, hb, rz⟩ := lstOf.rep ok rv e2
        exact mt_extend pins s σ S.H (.ref (S.r n)) _ (.ref (S.r n)) us Q I rfl rus ⟨S.r n, b, ws, zs, rfl, rfl, q, hb, by rw [← rds.length, ← rz.length]; exact lim hl, mut_ret (d := .lst _) ok hn (ok.alive e (by simp)) (fun o u z => by rw [q] at z; cases z) ⟨_, rfl, rds.app rz⟩ p rfl⟩
      · exact p.elim
    · exact p.elim
  · exact p.elim
theorem n_append (n : Nat) (ds as : List DV) (s : Sto) : (mAppend n ds as s).noexc := by unfold mAppend; split <;> (try split) <;> trivial
theorem n_extend (n : Nat) (ds as : List DV) (s : Sto) : (mExtend n ds as s).noexc := by
  unfold mExtend
  split
  · split
    · split <;> trivial
    · trivial
  · trivial
theorem g_append (ho : GE X cA Z o mo) (ha : GA X cA Z [e] t) (hbase : attributeBase o "append" X.env (eval o X.env) = eval o X.env := by rfl)
    (hfew : ((backTo cpos (starEach [e] X.env)).all (fun x => !x.1) && (backToKw cpos (keywordEach [] X.env)).all (fun x => x.1.isSome)
      && decide ([e].length + ([] : List Keyword).length + (if ([] : List Keyword).isEmpty then 0 else 1) < 30)) = true := by rfl) (hline : (apos.endLine == cpos.line) = true := by rfl)
    (hs : starEach [e] X.env = [(false, eval e X.env)] := by rfl) : GE X cA Z (.Call (.Attribute o "append" apos) [e] [] cpos) (eBM mAppend mo t) :=
  g_bm PySem.F.plainAttrs_list PySem.F.slot_list_append PySem.F.type_list_append s_append n_append ho ha hbase hfew hline hs rfl
theorem g_extend (ho : GE X cA Z o mo) (ha : GA X cA Z [e] t) (hbase : attributeBase o "extend" X.env (eval o X.env) = eval o X.env := by rfl)
    (hfew : ((backTo cpos (starEach [e] X.env)).all (fun x => !x.1) && (backToKw cpos (keywordEach [] X.env)).all (fun x => x.1.isSome)
      && decide ([e].length + ([] : List Keyword).length + (if ([] : List Keyword).isEmpty then 0 else 1) < 30)) = true := by rfl) (hline : (apos.endLine == cpos.line) = true := by rfl)
    (hs : starEach [e] X.env = [(false, eval e X.env)] := by rfl) : GE X cA Z (.Call (.Attribute o "extend" apos) [e] [] cpos) (eBM mExtend mo t) :=
  g_bm PySem.F.plainAttrs_list PySem.F.slot_list_extend PySem.F.type_list_extend s_extend n_extend ho ha hbase hfew hline hs rfl
end
end BB
namespace BB
open PySem PySem.Spec PyProof.Rows L2

/-! ### targets: names, tuples of them -/
inductive Pat where
  | nm (i : Nat)
  | tp (ps : List Pat)
mutual
def gPat (K : PySem.W.Frag) : Pat → TG
  | .nm i => gName i
  | .tp ps => gTup K ps.length (gPats K ps)
def gPats (K : PySem.W.Frag) : List Pat → TGs
  | [] => gNil
  | p :: ps => gCons (gPat K p) (gPats K ps)
end
mutual
def bindP : Pat → DV → Env → Option Env
  | .nm i => fun d env => some (env.set i (some d))
  | .tp ps => fun d env => match d with
    | .tup ds => bindPs ps ds env
    | _ => none
def bindPs : List Pat → List DV → Env → Option Env
  | [] => fun ds env => match ds with
    | [] => some env
    | _ => none
  | p :: ps => fun ds env => match ds with
    | d :: ds => match bindP p d env with
      | some env1 => bindPs ps ds env1
      | none => none
    | [] => none
end
mutual
def Pat.slots : Pat → List Nat
  | .nm i => [i]
  | .tp ps => slotsL ps
def slotsL : List Pat → List Nat
  | [] => []
  | p :: ps => p.slots ++ slotsL ps
end
theorem wipe_set {σ : L2.St} {i : Nat} {x : Option V} : ∀ {vs : List Nat}, i ∈ vs → wipe (σ.set i x) vs = wipe σ vs
  | v :: vs, h => by
    unfold wipe
    by_cases hi : i ∈ vs
    · rw [wipe_set hi]
    · have e : i = v := by rcases List.mem_cons.mp h with h | h; exact h; exact absurd h hi
      subst e
      have : ∀ (σ : L2.St) (ws : List Nat), i ∉ ws → wipe (σ.set i x) ws = (wipe σ ws).set i x := by
        intro σ ws
        induction ws with
        | nil => intro _; rfl
        | cons w ws ih =>
          intro hw
          simp only [List.mem_cons, not_or] at hw
          unfold wipe
          rw [ih hw.2, List.set_comm _ _ hw.1]
      rw [this σ vs hi, List.set_set]
section
variable {K : PySem.W.Frag} {cA : Nat → Addr} {S : Sys}
mutual
theorem gPat.run {H : Hp} (hH : H = S.H) {Q : L2.St → Hp → Prop} : ∀ (p : Pat) (d : DV) (v : V) (env env' : Env) (σ : L2.St), bindP p d env = some env' → Rep K cA S d v → EnvOk K cA S env σ →
    (∀ σ', EnvOk K cA S env' σ' → (∀ vs, (∀ i ∈ p.slots, i ∈ vs) → wipe σ' vs = wipe σ vs) → Q σ' H) → gPat K p v σ H Q
  | .nm i, d, v, env, env', σ, hb, r, eo, h => by
    cases hb
    exact h _ (eo.set r) fun vs hv => wipe_set (hv i (by simp [Pat.slots]))
  | .tp ps, d, v, env, env', σ, hb, r, eo, h => by
    cases d <;> simp only [bindP] at hb <;> try (cases hb; done)
    rename_i ds
    obtain ⟨a, vs, e, h1, h2⟩ := r
    have hl := bindPs_len ps ds env env' hb
    refine ⟨a, vs, e, by rw [hH]; exact sqT h1, by rw [← h2.length, hl], ?_⟩
    exact gPats.run hH ps ds vs env env' σ hb h2 eo h
theorem gPats.run {H : Hp} (hH : H = S.H) {Q : L2.St → Hp → Prop} : ∀ (ps : List Pat) (ds : List DV) (vs : List V) (env env' : Env) (σ : L2.St), bindPs ps ds env = some env' → RepL K cA S ds vs → EnvOk K cA S env σ →
    (∀ σ', EnvOk K cA S env' σ' → (∀ vs, (∀ i ∈ slotsL ps, i ∈ vs) → wipe σ' vs = wipe σ vs) → Q σ' H) → gPats K ps vs σ H Q
  | [], [], vs, env, env', σ, hb, r, eo, h => by
    cases hb
    exact ⟨r, h σ eo fun _ _ => rfl⟩
  | p :: ps, d :: ds, _, env, env', σ, hb, ⟨v, r, e, h1, h2⟩, eo, h => by
    simp only [bindPs] at hb
    split at hb
    · rename_i env1 e1
      refine ⟨v, r, e, gPat.run hH p d v env env1 σ e1 h1 eo fun σ1 eo1 w1 => ?_⟩
      refine gPats.run hH ps ds r env1 env' σ1 hb h2 eo1 fun σ2 eo2 w2 => h σ2 eo2 fun vs hv => ?_
      rw [w2 vs fun i hi => hv i (by simp [slotsL, hi]), w1 vs fun i hi => hv i (by simp [slotsL, hi])]
    · cases hb
  | [], _ :: _, _, env, env', σ, hb, _, _, _ => by cases hb
  | _ :: _, [], _, env, env', σ, hb, _, _, _ => by cases hb
theorem bindPs_len : ∀ (ps : List Pat) (ds : List DV) (env env' : Env), bindPs ps ds env = some env' → ds.length = ps.length
  | [], [], _, _, _ => rfl
  | p :: ps, d :: ds, env, env', hb => by
    simp only [bindPs] at hb
    split at hb
    · rename_i env1 e1
      simp [bindPs_len ps ds env1 env' hb]
    · cases hb
  | [], _ :: _, env, env', hb => by cases hb
  | _ :: _, [], env, env', hb => by cases hb
end
end

/-! ### what is walked -/
inductive Src where
  | fix (xs : List DV)
  | live (n : Nat)
def Src.view : Src → Sto → Option (List DV)
  | .fix xs, _ => some xs
  | .live n, sto => match sto[n]? with
    | some (.lst ds) => some ds
    | _ => none
def Src.len (s : Src) (sto : Sto) : Nat := match s.view sto with
  | some xs => xs.length
  | none => 0
abbrev IM := Env → Sto → Res Src
def Walks (K : PySem.W.Frag) (cA : Nat → Addr) (J : It) (S : Sys) (src : Src) : Prop := ∀ S' sto', Grow S S' → StoOk K cA S' sto' → ∀ xs, src.view sto' = some xs →
  (∀ i, xs.length ≤ i → J.stop i S'.H) ∧ ∀ i d, xs[i]? = some d → J.go i S'.H ∧ ∀ v H', J.yld i S'.H v H' → ∃ S'', S''.H = H' ∧ Grow S' S'' ∧ StoOk K cA S'' sto' ∧ Rep K cA S'' d v
def wI (X : Cx) (tg iter : Expr) : TI := fun σ H R => ∀ (pins : List (Addr × Obj)) (s : Shared), Inv X pins σ H s → wpAny (model X.prog X.w) X.A (eval iter X.env) (fun v s1 => wpAny (model X.prog X.w) X.A (pyIter v) (PIE X pins σ tg R) X.xe s1) X.xe s
theorem piW {X : Cx} (tg iter : Expr) : PI X tg iter (wI X tg iter) := ⟨fun pins s σ H R I h => h pins s I⟩
theorem wI.of {X : Cx} {tg iter : Expr} {w : TI} (h : PI X tg iter w) {σ : L2.St} {H : Hp} {R : It → Hp → Prop} (q : w σ H R) : wI X tg iter σ H R := fun pins s I => h.run pins s σ H R I q
def GI (X : Cx) (cA : Nat → Addr) (Z : Nat → L2.St → Hp → Prop) (tg iter : Expr) (m : IM) : Prop := ∀ S σ env sto, StoOk X.K cA S sto → EnvOk X.K cA S env σ → ∀ R : It → Hp → Prop, Post X.K cA S (m env sto) (fun src _ S' => ∀ J, Walks X.K cA J S' src → R J S'.H) (fun c _ S' => Z c σ S'.H) → wI X tg iter σ S.H R
def isTup : DV → Bool
  | .tup _ => true
  | _ => false
def srcOf (sto : Sto) : DV → Option Src
  | .tup ds => some (.fix ds)
  | .lst ds => some (.fix ds)
  | .scr ns => some (.fix (ns.map DV.int))
  | .loc n => match sto[n]? with
    | some (.lst _) => some (.live n)
    | _ => none
  | _ => none
def iSeq (m : EM) : IM := fun env sto => (m env sto).bind fun d s => match srcOf s d with
  | some src => .ok src s
  | none => .stuck
section
variable {X : Cx} {cA : Nat → Addr} {Z : Nat → L2.St → Hp → Prop} {tg l : Expr} {m : EM} {S : Sys} {sto : Sto}
theorem walks_L {K : PySem.W.Frag} {src : Src} {a : Addr} (h : ∀ S' sto', Grow S S' → StoOk K cA S' sto' → ∀ xs, src.view sto' = some xs → ∃ vs, SqL K S'.H a vs ∧ RepL K cA S' xs vs) : Walks K cA (Itl K a) S src := fun S' sto' g ok' xs hv => by
  obtain ⟨vs, h1, h2⟩ := h S' sto' g ok' xs hv
  refine ⟨fun i hi => ⟨vs, h1, by rw [← h2.length]; exact hi⟩, fun i d hd => ?_⟩
  obtain ⟨v, e, r⟩ := h2.get hd
  refine ⟨⟨vs, v, h1, e⟩, fun v' H' hy => ?_⟩
  obtain ⟨eH, hy⟩ := hy
  have := hy vs h1
  rw [e] at this; cases this
  exact ⟨S', eH.symm, Grow.refl ok', ok', r⟩
theorem walks_T {K : PySem.W.Frag} {xs : List DV} {a : Addr} {vs : List V} (ok : StoOk K cA S sto) (h : S.H a = some (.tup vs)) (r : RepL K cA S xs vs) : Walks K cA (Itt K a) S (.fix xs) := fun S' sto' g ok' xs' hv => by
  cases hv
  have h1 : SqT K S'.H a vs := sqT ((g.keeps ok).t a vs h)
  have h2 := r.grow ok g
  refine ⟨fun i hi => ⟨vs, h1, by rw [← h2.length]; exact hi⟩, fun i d hd => ?_⟩
  obtain ⟨v, e, r⟩ := h2.get hd
  refine ⟨⟨vs, v, h1, e⟩, fun v' H' hy => ?_⟩
  obtain ⟨eH, hy⟩ := hy
  have := hy vs h1
  rw [e] at this; cases this
  exact ⟨S', eH.symm, Grow.refl ok', ok', r⟩
theorem srcOf.walks {K : PySem.W.Frag} {d : DV} {v : V} {src : Src} (ok : StoOk K cA S sto) (r : Rep K cA S d v) (h : srcOf sto d = some src) (ht : isTup d = false) : ∃ a, v = .ref a ∧ (∃ vs, SqL K S.H a vs) ∧ Walks K cA (Itl K a) S src := by
  cases d <;> simp only [srcOf, isTup] at h ht <;> try (cases h; done)
  · cases ht
  · rename_i ds
    cases h
    have r0 := r
    obtain ⟨a, vs, e, hf, h1, h2⟩ := r
    refine ⟨a, e, ⟨vs, sqL h1⟩, walks_L fun S' sto' g ok' xs hv => ?_⟩
    cases hv
    exact ⟨vs, sqL ((g.keeps ok).h a _ h1 hf), h2.grow ok g⟩
  · rename_i ns
    cases h
    obtain ⟨a, e, h1⟩ := r
    refine ⟨a, e, ⟨_, h1.sq⟩, walks_L fun S' sto' g ok' xs hv => ?_⟩
    cases hv
    have r' : Rep K cA S' (.scr ns) (.ref a) := Rep.grow (⟨a, rfl, h1⟩ : Rep K cA S (.scr ns) (.ref a)) ok g
    obtain ⟨a', e', h1'⟩ := r'
    cases e'
    exact ⟨_, h1'.sq, RepL.ints ns⟩
  · rename_i n
    obtain ⟨hn, e⟩ := r
    split at h
    · rename_i ds e1
      cases h
      obtain ⟨vs, q1, q2⟩ := ok.ob n _ e1
      refine ⟨S.r n, e, ⟨vs, sqL q1⟩, walks_L fun S' sto' g ok' xs hv => ?_⟩
      simp only [Src.view] at hv
      split at hv
      · rename_i ds' e2
        cases hv
        obtain ⟨vs', q1', q2'⟩ := ok'.ob n _ e2
        rw [g.r n hn] at q1'
        exact ⟨vs', sqL q1', q2'⟩
      · cases hv
    · cases h
theorem gi_seq (h : GE X cA Z l m) : GI X cA Z tg l (iSeq m) := fun S σ env sto ok eo R p => by
  by_cases ht : ∃ d s, m env sto = .ok d s ∧ isTup d = true
  · obtain ⟨d, s, e, ht⟩ := ht
    refine wI.of (pi_tup (peW l)) (h.thenE ok eo p fun d' s' S1 v q g1 ok1 eo1 r h1 => ?_)
    rw [e] at q; cases q
    cases d <;> simp only [isTup] at ht <;> try (cases ht; done)
    obtain ⟨a, vs, rfl, q1, q2⟩ := r
    exact ⟨a, rfl, ⟨vs, sqT q1⟩, h1 S1 (Grow.refl ok1) ok1 _ (walks_T ok1 q1 q2)⟩
  · refine wI.of (pi_list (peW l)) (h.thenE ok eo p fun d s S1 v q g1 ok1 eo1 r h1 => ?_)
    split at h1
    · rename_i src e
      have ht : isTup d = false := by
        cases hh : isTup d with
        | false => rfl
        | true => exact absurd ⟨d, s, q, hh⟩ ht
      obtain ⟨a, rfl, hq, w⟩ := srcOf.walks ok1 r e ht
      exact ⟨a, rfl, hq, h1 S1 (Grow.refl ok1) ok1 _ w⟩
    · exact h1.elim
/-- range -/
def rngD (lo : Int) (n : Nat) : List DV := (List.range n).map fun i => .int (lo + (i : Nat))
def iRange1 (t : AM) : IM := fun env sto => (t env sto).bind fun ds s => match ds with
  | [.int j] => if -1000000 ≤ j ∧ j ≤ 1000000 then .ok (.fix (rngD 0 j.toNat)) s else .stuck
  | _ => .stuck
def iRange2 (t : AM) : IM := fun env sto => (t env sto).bind fun ds s => match ds with
  | [.int i, .int j] => if -1000000 ≤ i ∧ i ≤ 1000000 ∧ -1000000 ≤ j ∧ j ≤ 1000000 then .ok (.fix (rngD i (j - i).toNat)) s else .stuck
  | _ => .stuck
theorem rngD_get {lo : Int} {n i : Nat} {d : DV} (h : (rngD lo n)[i]? = some d) : i < n ∧ d = .int (lo + i) := by
  unfold rngD at h
  rw [List.getElem?_map] at h
  by_cases hi : i < n
  · rw [List.getElem?_range hi] at h
    cases h
    exact ⟨hi, rfl⟩
  · rw [List.getElem?_eq_none (by simpa using hi)] at h; cases h
theorem walks_R {K : PySem.W.Frag} {lo : Int} {n : Nat} : Walks K cA (Itr lo n) S (.fix (rngD lo n)) := fun S' sto' g ok' xs hv => by
  cases hv
  refine ⟨fun i hi => by have h := hi; simp [rngD] at h; exact h, fun i d hd => ?_⟩
  obtain ⟨hi, rfl⟩ := rngD_get hd
  refine ⟨hi, fun v H' hy => ?_⟩
  obtain ⟨eH, rfl⟩ := hy
  exact ⟨S', eH.symm, Grow.refl ok', ok', rfl⟩
variable {a b : Expr} {t : AM} {p pos : Pos}
theorem gi_range1 (hm : X.mg "range" = none) (ha : GA X cA Z [a] t) (hg : Gl X "range" := by rfl) (hs : starEach [a] X.env = [(false, eval a X.env)] := by rfl) : GI X cA Z tg (.Call (.Name "range" p) [a] [] pos) (iRange1 t) := fun S σ env sto ok eo R p => by
  refine wI.of (pi_range1 hg hm (paW _) hs) (fun pos' pins s I => ?_)
  refine GA.then ha ok eo p (fun ds s1 S1 vs g1 ok1 eo1 rs h1 => ?_) pos' pins s I
  split at h1
  · rename_i j
    split at h1
    · rename_i hj
      obtain ⟨v, rfl, r⟩ := one_rep rs
      cases (show v = .int j from r)
      exact ⟨j, rfl, by omega, by omega, h1 S1 (Grow.refl ok1) ok1 _ walks_R⟩
    · exact h1.elim
  · exact h1.elim
theorem gi_range2 (hm : X.mg "range" = none) (ha : GA X cA Z [a, b] t) (hg : Gl X "range" := by rfl) (hs : starEach [a, b] X.env = [(false, eval a X.env), (false, eval b X.env)] := by rfl) (hs2 : starEach [b] X.env = [(false, eval b X.env)] := by rfl) : GI X cA Z tg (.Call (.Name "range" p) [a, b] [] pos) (iRange2 t) := fun S σ env sto ok eo R p => by
  refine wI.of (pi_range2 hg hm (paW _) hs hs2) (fun pos' pins s I => ?_)
  refine GA.then ha ok eo p (fun ds s1 S1 vs g1 ok1 eo1 rs h1 => ?_) pos' pins s I
  split at h1
  · rename_i i j
    split at h1
    · rename_i hj
      obtain ⟨v, u, rfl, r1, r2⟩ := two_rep rs
      cases (show v = .int i from r1)
      cases (show u = .int j from r2)
      exact ⟨i, j, rfl, ⟨by omega, by omega, by omega, by omega⟩, h1 S1 (Grow.refl ok1) ok1 _ walks_R⟩
    · exact h1.elim
  · exact h1.elim
/-- enumerate, zip of frozen lists -/
def enumD : Nat → List DV → List DV
  | _, [] => []
  | k, x :: xs => .tup [.int (k : Nat), x] :: enumD (k + 1) xs
def frzL : DV → Option (List DV)
  | .lst ds => some ds
  | .scr ns => some (ns.map DV.int)
  | _ => none
def iEnum (t : AM) : IM := fun env sto => (t env sto).bind fun ds s => match ds with
  | [d] => match frzL d with
    | some xs => .ok (.fix (enumD 0 xs)) s
    | none => .stuck
  | _ => .stuck
def iZip (t : AM) : IM := fun env sto => (t env sto).bind fun ds s => match ds with
  | [d, e] => match frzL d, frzL e with
    | some xs, some ys => .ok (.fix ((xs.zip ys).map fun q => .tup [q.1, q.2])) s
    | _, _ => .stuck
  | _ => .stuck
theorem enumD_get : ∀ {k : Nat} {xs : List DV} {i : Nat} {d : DV}, (enumD k xs)[i]? = some d → ∃ x, xs[i]? = some x ∧ d = .tup [.int ((k + i : Nat) : Int), x]
  | _, [], i, d, h => by simp [enumD] at h
  | k, x :: xs, 0, d, h => by simp [enumD] at h; exact ⟨x, rfl, h.symm⟩
  | k, x :: xs, i + 1, d, h => by
    obtain ⟨y, h1, h2⟩ := enumD_get (k := k + 1) (xs := xs) (i := i) (d := d) (by simpa [enumD] using h)
    exact ⟨y, by simpa using h1, by rw [h2, show k + 1 + i = k + (i + 1) by omega]⟩
theorem enumD_len : ∀ (k : Nat) (xs : List DV), (enumD k xs).length = xs.length
  | _, [] => rfl
  | k, x :: xs => by simp [enumD, enumD_len]
theorem frzL.rep {K : PySem.W.Frag} {d : DV} {v : V} {xs : List DV} (r : Rep K cA S d v) (h : frzL d = some xs) : ∃ a, v = .ref a ∧ ∀ S' sto sto', StoOk K cA S sto → Grow S S' → StoOk K cA S' sto' → ∃ vs, SqL K S'.H a vs ∧ RepL K cA S' xs vs := by
  cases d <;> simp only [frzL] at h <;> try (cases h; done)
  · cases h
    obtain ⟨a, vs, e, hf, h1, h2⟩ := r
    exact ⟨a, e, fun S' sto sto' ok g ok' => ⟨vs, sqL ((g.keeps ok).h a _ h1 hf), h2.grow ok g⟩⟩
  · rename_i ns
    cases h
    obtain ⟨a, e, h1⟩ := r
    refine ⟨a, e, fun S' sto sto' ok g ok' => ?_⟩
    have r' : Rep K cA S' (.scr ns) (.ref a) := Rep.grow (⟨a, rfl, h1⟩ : Rep K cA S (.scr ns) (.ref a)) ok g
    obtain ⟨a', e', h1'⟩ := r'
    cases e'
    exact ⟨_, h1'.sq, RepL.ints ns⟩
theorem gi_enum {elts : List Expr} {kk : Nat} {tpos : Pos} (hm : X.mg "enumerate" = none) (ha : GA X cA Z [a] t) (hg : Gl X "enumerate" := by rfl) (hs : starEach [a] X.env = [(false, eval a X.env)] := by rfl) : GI X cA Z (.Tuple elts kk tpos) (.Call (.Name "enumerate" p) [a] [] pos) (iEnum t) := fun S σ env sto ok eo R p => by
  refine wI.of (pi_enum hg hm (paW _) hs) (fun pos' pins s I => ?_)
  refine GA.then ha ok eo p (fun ds s1 S1 vs g1 ok1 eo1 rs h1 => ?_) pos' pins s I
  split at h1
  · rename_i d
    split at h1
    · rename_i xs e
      obtain ⟨v, rfl, r⟩ := one_rep rs
      obtain ⟨a, rfl, hw⟩ := frzL.rep r e
      obtain ⟨ws, q1, q2⟩ := hw S1 s1 s1 ok1 (Grow.refl ok1) ok1
      refine ⟨a, ws, rfl, q1, h1 S1 (Grow.refl ok1) ok1 _ fun S' sto' g ok' xs' hv => ?_⟩
      cases hv
      obtain ⟨ws, q1, q2⟩ := hw S' s1 sto' ok1 g ok'
      refine ⟨fun i hi => ⟨ws, q1, by rw [← q2.length]; rw [enumD_len] at hi; exact hi⟩, fun i d hd => ?_⟩
      obtain ⟨x, hx, rfl⟩ := enumD_get hd
      obtain ⟨v, ev, rv⟩ := q2.get hx
      refine ⟨⟨ws, v, q1, ev⟩, fun v' H' hy => ?_⟩
      obtain ⟨T, x', rfl, nT, rfl, hx'⟩ := hy
      have := hx' ws q1
      rw [ev] at this; cases this
      refine ⟨S'.addT T (.tup [.int (i : Nat), v]), rfl, Grow.addT ok' nT, ok'.addT nT, T, _, rfl, upd_same, ?_⟩
      exact ⟨_, _, rfl, by show V.int _ = V.int _; simp, RepL.one (rv.grow ok' (Grow.addT ok' nT))⟩
    · exact h1.elim
  · exact h1.elim
theorem gi_zip {elts : List Expr} {kk : Nat} {tpos : Pos} (hm : X.mg "zip" = none) (ha : GA X cA Z [a, b] t) (hg : Gl X "zip" := by rfl) (hs : starEach [a, b] X.env = (false, eval a X.env) :: starEach [b] X.env := by rfl) (hpl : (backTo pos (starEach [b] X.env)).any (·.1) = false := by rfl) :
    GI X cA Z (.Tuple elts kk tpos) (.Call (.Name "zip" p) [a, b] [] pos) (iZip t) := fun S σ env sto ok eo R p => by
  refine wI.of (pi_zip hg hm (paW _) hs hpl) (fun pos' pins s I => ?_)
  refine GA.then ha ok eo p (fun ds s1 S1 vs g1 ok1 eo1 rs h1 => ?_) pos' pins s I
  split at h1
  · rename_i d e
    split at h1
    · rename_i xs ys e1 e2
      obtain ⟨v, u, rfl, r1, r2⟩ := two_rep rs
      obtain ⟨a, rfl, hw1⟩ := frzL.rep r1 e1
      obtain ⟨b, rfl, hw2⟩ := frzL.rep r2 e2
      obtain ⟨ws, q1, q2⟩ := hw1 S1 s1 s1 ok1 (Grow.refl ok1) ok1
      obtain ⟨zs, q3, q4⟩ := hw2 S1 s1 s1 ok1 (Grow.refl ok1) ok1
      refine ⟨a, b, ws, zs, rfl, q1, q3, h1 S1 (Grow.refl ok1) ok1 _ fun S' sto' g ok' xs' hv => ?_⟩
      cases hv
      obtain ⟨ws, q1, q2⟩ := hw1 S' s1 sto' ok1 g ok'
      obtain ⟨zs, q3, q4⟩ := hw2 S' s1 sto' ok1 g ok'
      refine ⟨fun i hi => ⟨ws, zs, q1, q3, ?_⟩, fun i d hd => ?_⟩
      · rw [← q2.length, ← q4.length]
        simp at hi
        omega
      · rw [List.getElem?_map] at hd
        simp only [Option.map_eq_some_iff] at hd
        obtain ⟨⟨x, y⟩, hz, rfl⟩ := hd
        rw [List.getElem?_zip_eq_some] at hz
        obtain ⟨v, ev, rv⟩ := q2.get hz.1
        obtain ⟨u, eu, ru⟩ := q4.get hz.2
        refine ⟨⟨ws, zs, v, u, q1, q3, ev, eu⟩, fun v' H' hy => ?_⟩
        obtain ⟨T, x', y', rfl, nT, rfl, hx', hy'⟩ := hy
        have h1 := hx' ws q1
        rw [ev] at h1; cases h1
        have h2 := hy' zs q3
        rw [eu] at h2; cases h2
        refine ⟨S'.addT T (.tup [v, u]), rfl, Grow.addT ok' nT, ok'.addT nT, T, _, rfl, upd_same, ?_⟩
        exact ⟨_, _, rfl, rv.grow ok' (Grow.addT ok' nT), RepL.one (ru.grow ok' (Grow.addT ok' nT))⟩
    · exact h1.elim
  · exact h1.elim
end

/-! ### statements -/
def sNil : SM := fun env sto => .nx env sto
def sSeq (a b : SM) : SM := fun env sto => match a env sto with
  | .nx e s => b e s
  | o => o
def sExpr (m : EM) : SM := fun env sto => (m env sto).out env fun _ s => .nx env s
def sRet (m : EM) : SM := fun env sto => (m env sto).out env fun d s => .rt d s
def sRetN : SM := fun _ sto => .rt .non sto
def sIf (t : TM) (a b : SM) : SM := fun env sto => (t env sto).out env fun c s => if c = true then a env s else b env s
def sAsg (p : Pat) (m : EM) : SM := fun env sto => (m env sto).out env fun d s => match bindP p d env with
  | some env' => .nx env' s
  | none => .stuck
def sPar (i j : Nat) (t : AM) : SM := fun env sto => (t env sto).out env fun ds s => match ds with
  | [v, w] => .nx ((env.set i (some v)).set j (some w)) s
  | _ => .stuck
def sNever : SM := fun _ _ => .stuck
def sPass : SM := sNil
def sBreak : SM := fun env sto => .bk env sto
def sCont : SM := fun env sto => .ct env sto
section
variable {X : Cx} {cA : Nat → Addr} {Z : Nat → L2.St → Hp → Prop} {pos pos' : Pos} {e c : Expr} {m : EM} {st : Stmt} {rest as bs : List Stmt} {ms mr ma mb : SM} {tc : TM}
theorem gs_nil : GSs X cA Z [] sNil := fun S σ env sto ok eo D p => wSs.of pss_nil (p S σ (Grow.refl ok) ok eo)
theorem gs_cons (h1 : GS X cA Z st ms) (h2 : GSs X cA Z rest mr) : GSs X cA Z (st :: rest) (sSeq ms mr) := fun S σ env sto ok eo D p => by
  refine wSs.of (pss_cons (psW st) (pssW rest)) (h1 S σ env sto ok eo _ ?_)
  unfold sSeq at p
  cases e : ms env sto with
  | nx e1 s1 =>
    rw [e] at p
    exact fun S' σ' g' ok' eo' => h2 S' σ' e1 s1 ok' eo' D (OPost.grow p g')
  | rt d s => rw [e] at p; exact p
  | bk e1 s => rw [e] at p; exact p
  | ct e1 s => rw [e] at p; exact p
  | exc c e1 s => rw [e] at p; exact p
  | stuck => rw [e] at p; exact p
theorem gs_one (h1 : GS X cA Z st ms) : GSs X cA Z [st] ms := fun S σ env sto ok eo D p => wSs.of (pss_one (psW st)) (h1 S σ env sto ok eo D p)
theorem g_expr (h : GE X cA Z e m) (hs : swapsWith e none pos.line X.env = pure false := by rfl) : GS X cA Z (.Expr e pos) (sExpr m) := fun S σ env sto ok eo D p =>
  wS.of (ps_expr (peW e) hs) (h.out ok eo p fun d s S1 v g1 ok1 eo1 r h1 => h1 S1 σ (Grow.refl ok1) ok1 eo1)
theorem g_ret (h : GE X cA Z e m) : GS X cA Z (.Return (some e) pos) (sRet m) := fun S σ env sto ok eo D p =>
  wS.of (ps_ret (peW e)) (h.out ok eo p fun d s S1 v g1 ok1 eo1 r h1 => h1 S1 v (Grow.refl ok1) ok1 r)
theorem g_retN : GS X cA Z (.Return none pos) sRetN := fun S σ env sto ok eo D p => wS.of ps_retN (p S .non (Grow.refl ok) ok rfl)
theorem g_ifS (hc : GT X cA Z c tc) (ha : GSs X cA Z as ma) (hb : GSs X cA Z bs mb) : GS X cA Z (.If c as bs pos) (sIf tc ma mb) := fun S σ env sto ok eo D p => by
  refine wS.of (ps_if (ptW c) (pssW as) (pssW bs)) (hc.out ok eo p fun k s1 S1 g1 ok1 eo1 h1 => ?_)
  cases k with
  | true => exact iteT (ha S1 σ env s1 ok1 eo1 D h1)
  | false => exact iteF (hb S1 σ env s1 ok1 eo1 D h1)
theorem g_never : GS X cA Z st sNever := fun S σ env sto ok eo D p => p.elim
theorem g_pass : GS X cA Z (.Pass pos) sPass := fun S σ env sto ok eo D p => wS.of ps_pass (p S σ (Grow.refl ok) ok eo)
theorem g_break : GS X cA Z (.Break pos) sBreak := fun S σ env sto ok eo D p => wS.of ps_break (p S σ (Grow.refl ok) ok eo)
theorem g_cont : GS X cA Z (.Continue pos) sCont := fun S σ env sto ok eo D p => wS.of ps_continue (p S σ (Grow.refl ok) ok eo)
/-- name = e -/
theorem asg_core {P : Pat} {S : Sys} {σ : L2.St} {env : Env} {sto : Sto} {D : Ends} (h : GE X cA Z e m) (ok : StoOk X.K cA S sto) (eo : EnvOk X.K cA S env σ) (p : OPost X.K cA S (sAsg P m env sto) D Z) : tAsg (wE X e) (gPat X.K P) D σ S.H := by
  refine h.out ok eo p fun d s S1 v g1 ok1 eo1 r h1 => ?_
  split at h1
  · rename_i env' hb
    exact gPat.run rfl P d v env env' σ hb r eo1 fun σ' eo' _ => h1 S1 σ' (Grow.refl ok1) ok1 eo'
  · exact h1.elim
theorem g_set (i : Nat) {x : Str} (hN : X.N.Nodup) (h : GE X cA Z e m) (hi : X.N[i]? = some x := by rfl) (hx : Loc X.env.scope x := by first | exact Or.inl rfl | exact Or.inr rfl) (hs : swapsWith e (some (.Name x pos')) pos.line X.env = pure false := by rfl)
    (hf : X.fn x = true ∨ X.env.scope.names.lookup x = some .local := by first | exact .inl rfl | exact .inr rfl | assumption) : GS X cA Z (.Assign [.Name x pos'] e pos) (sAsg (.nm i) m) := fun S σ env sto ok eo D p =>
  wS.of (ps_set hN hi hx (peW e) hs hf) (asg_core h ok eo p)
theorem g_asg {tg : Expr} {P : Pat} (hg : PG X tg (gPat X.K P)) (h : GE X cA Z e m) (hs : swapsWithSole [tg] e pos.line X.env = pure false := by rfl) (hw : swappedStores [tg] e X.env = pure none := by rfl)
    (h1 : (assignEach [tg] X.env).map (·.2) = [assign tg X.env] := by rfl) : GS X cA Z (.Assign [tg] e pos) (sAsg P m) := fun S σ env sto ok eo D p =>
  wS.of (ps_asg (peW e) hg hs hw h1) (asg_core h ok eo p)
theorem g_par (i j : Nat) {x y : Str} {a b : Expr} {t : AM} {px py pt : Pos} {kt k2 pt2} (hc : X.calm = true) (hN : X.N.Nodup) (ha : GA X cA Z [a, b] t) (hi : X.N[i]? = some x := by rfl) (hj : X.N[j]? = some y := by rfl) (hij : i ≠ j := by decide)
    (hx : X.env.scope.names.lookup x = some .local := by rfl) (hy : X.env.scope.names.lookup y = some .local := by rfl)
    (hw : swappedStores [.Tuple [.Name x px, .Name y py] kt pt] (.Tuple [a, b] k2 pt2) X.env = pure (some [x, y]) := by rfl)
    (hs : swapsWithSole [.Tuple [.Name x px, .Name y py] kt pt] (.Tuple [a, b] k2 pt2) pos.line X.env = pure false := by rfl) :
    GS X cA Z (.Assign [.Tuple [.Name x px, .Name y py] kt pt] (.Tuple [a, b] k2 pt2) pos) (sPar i j t) := fun S σ env sto ok eo D p => by
  refine wS.of (ps_par hc hN hi hj hij hx hy (paW _) hw hs) (ha.out ok eo p fun ds s1 S1 vs g1 ok1 eo1 rs h1 => ?_)
  split at h1
  · obtain ⟨v, w, rfl, r1, r2⟩ := two_rep rs
    exact ⟨v, w, rfl, h1 S1 _ (Grow.refl ok1) ok1 ((eo1.set r1).set r2)⟩
  · exact h1.elim
/-- name += e -/
def sAug (i : Nat) (f : DV → DV → Sto → Res DV) (m : EM) : SM := fun env sto => match env[i]? with
  | some (some x) => ((m env sto).bind fun y s => f x y s).out env fun z s => .nx (env.set i (some z)) s
  | _ => .stuck
theorem g_aug {op : Operator} {r : Int → Int → Int} {f : DV → DV → Sto → Res DV} (i : Nat) {x : Str} (hN : X.N.Nodup) (h : GE X cA Z e m) (ho : PIp X op (ipI r)) (hf : ∀ a b sto, f a b sto = .stuck ∨ ∃ k l, a = .int k ∧ b = .int l ∧ f a b sto = .ok (.int (r k l)) sto) (hi : X.N[i]? = some x := by rfl) (hx : Loc X.env.scope x := by first | exact Or.inl rfl | exact Or.inr rfl)
    (hfn : X.fn x = true ∨ X.env.scope.names.lookup x = some .local := by first | exact .inl rfl | exact .inr rfl | assumption) : GS X cA Z (.AugAssign (.Name x pos') op e pos) (sAug i f m) := fun S σ env sto ok eo D p => by
  unfold sAug at p
  split at p
  · rename_i x0 e0
    obtain ⟨v0, ev0, r0⟩ := eo.2 _ _ e0
    refine wS.of (ps_aug hN hi hx (peW e) ho hfn) ⟨v0, ev0, ?_⟩
    have p2 := OPost.out p ok eo
    refine h.then ok eo p2 fun d s S1 v g1 ok1 eo1 r1 h1 => ?_
    rcases hf x0 d s with q | ⟨k, l, rfl, rfl, q⟩
    · rw [q] at h1; exact h1.elim
    · rw [q] at h1
      cases (show v0 = .int k from r0)
      cases (show v = .int l from r1)
      exact ⟨k, l, rfl, rfl, h1 S1 (Grow.refl ok1) ok1 S1 _ (Grow.refl ok1) ok1 (eo1.set rfl)⟩
  · exact p.elim
def oAddI (x y : DV) (sto : Sto) : Res DV := match x, y with
  | .int i, .int j => .ok (.int (i + j)) sto
  | _, _ => .stuck
theorem g_augAdd (i : Nat) {x : Str} (hN : X.N.Nodup) (h : GE X cA Z e m) (hi : X.N[i]? = some x := by rfl) (hx : Loc X.env.scope x := by first | exact Or.inl rfl | exact Or.inr rfl)
    (hfn : X.fn x = true ∨ X.env.scope.names.lookup x = some .local := by first | exact .inl rfl | exact .inr rfl | assumption) : GS X cA Z (.AugAssign (.Name x pos') .Add e pos) (sAug i oAddI m) :=
  g_aug (r := fun i j => i + j) i hN h ip_add (fun a b sto => by cases a <;> first | exact .inl rfl | (cases b <;> first | exact .inl rfl | exact .inr ⟨_, _, rfl, rfl, rfl⟩)) hi hx hfn
theorem g_augSub (i : Nat) {x : Str} (hN : X.N.Nodup) (h : GE X cA Z e m) (hi : X.N[i]? = some x := by rfl) (hx : Loc X.env.scope x := by first | exact Or.inl rfl | exact Or.inr rfl)
    (hfn : X.fn x = true ∨ X.env.scope.names.lookup x = some .local := by first | exact .inl rfl | exact .inr rfl | assumption) : GS X cA Z (.AugAssign (.Name x pos') .Sub e pos) (sAug i oSub m) :=
  g_aug (r := fun i j => i - j) i hN h ip_sub (fun a b sto => by cases a <;> first | exact .inl rfl | (cases b <;> first | exact .inl rfl | exact .inr ⟨_, _, rfl, rfl, rfl⟩)) hi hx hfn
end

/-! ### for -/
def wipeE (env : Env) : List Nat → Env
  | [] => env
  | v :: vs => (wipeE env vs).set v none
/-- ws: the names that no later turn reads, forgotten behind each turn -/
def loopM (src : Src) (p : Pat) (ws : List Nat) (body : SM) : Nat → Nat → Env → Sto → Out
  | 0, i, env, sto => match src.view sto with
    | some xs => match xs[i]? with
      | some _ => .stuck
      | none => .nx env sto
    | none => .stuck
  | f + 1, i, env, sto => match src.view sto with
    | some xs => match xs[i]? with
      | some d => match bindP p d env with
        | some env1 => match body env1 sto with
          | .nx e s => loopM src p ws body f (i + 1) (wipeE e ws) s
          | .ct e s => loopM src p ws body f (i + 1) (wipeE e ws) s
          | .bk e s => .nx e s
          | o => o
        | none => .stuck
      | none => .nx env sto
    | none => .stuck
def sFor (it : IM) (p : Pat) (ws : List Nat) (body : SM) : SM := fun env sto => (it env sto).out env fun src s => loopM src p ws body (src.len s) 0 (wipeE env ws) s
section
variable {K : PySem.W.Frag} {cA : Nat → Addr} {S : Sys}
theorem EnvOk.wipe0 {env : Env} {σ : L2.St} (h : EnvOk K cA S env σ) : ∀ vs : List Nat, EnvOk K cA S (wipeE env vs) σ
  | [] => h
  | v :: vs => (EnvOk.wipe0 h vs).forget
end
section
variable {X : Cx} {cA : Nat → Addr} {Z : Nat → L2.St → Hp → Prop} {pos : Pos} {tg iter : Expr} {body : List Stmt} {mi : IM} {P : Pat} {mb : SM}
theorem g_for (ws : List Nat) (hp : PassesOwn (model X.prog X.w) X.A X.env X.xe) (hc : X.calm = true) (hi : GI X cA Z tg iter mi) (hg : PG X tg (gPat X.K P)) (hb : GSs X cA Z body mb) (hs : ∀ x, foldedSetIterable iter X.env x = pure x := by intro _; rfl) :
    GS X cA Z (.For tg iter body [] pos) (sFor mi P ws mb) := fun S σ env sto ok eo D p => by
  refine wS.of (ps_for hp hc (piW tg iter) hg (pssW body) hs) ?_
  refine hi S σ env sto ok eo _ ((OPost.out p ok eo).imp (fun src s1 S1 g1 ok1 p1 J hJ => ?_) fun _ _ _ _ _ z => z)
  refine ⟨fun i m σ' H' => ∃ S' env' sto', S'.H = H' ∧ Grow S1 S' ∧ StoOk X.K cA S' sto' ∧ EnvOk X.K cA S' env' σ' ∧ OPost X.K cA S' (loopM src P ws mb m i env' sto') D Z,
    ⟨_, S1, wipeE env ws, s1, rfl, Grow.refl ok1, ok1, (eo.grow ok g1).wipe0 ws, p1⟩, ?_⟩
  rintro i m σ' H' ⟨S', env', sto', rfl, g', ok', eo', p'⟩
  cases hv : src.view sto' with
  | none =>
    cases m <;> (unfold loopM at p'; rw [hv] at p'; exact p'.elim)
  | some xs =>
    obtain ⟨w1, w2⟩ := hJ S' sto' g' ok' xs hv
    cases hx : xs[i]? with
    | none =>
      refine .inl ⟨w1 i (List.getElem?_eq_none_iff.mp hx), ?_⟩
      cases m <;> (unfold loopM at p'; rw [hv] at p'; simp only [hx] at p'; exact p' S' σ' (Grow.refl ok') ok' eo')
    | some d =>
      cases m with
      | zero => unfold loopM at p'; rw [hv] at p'; simp only [hx] at p'; exact p'.elim
      | succ f =>
        unfold loopM at p'
        rw [hv] at p'
        simp only [hx] at p'
        obtain ⟨w3, w4⟩ := w2 i d hx
        refine .inr ⟨w3, fun σ2 H2 => ∃ S2 env2 sto2, S2.H = H2 ∧ Grow S1 S2 ∧ StoOk X.K cA S2 sto2 ∧ EnvOk X.K cA S2 env2 σ2 ∧ OPost X.K cA S2 (loopM src P ws mb f (i + 1) env2 sto2) D Z, fun σ2 H2 h2 => ⟨f, Nat.lt_succ_self f, h2⟩, fun v H2 hy => ?_⟩
        obtain ⟨S2, rfl, g2, ok2, r2⟩ := w4 v H2 hy
        cases hbd : bindP P d env' with
        | none => rw [hbd] at p'; exact p'.elim
        | some env1 =>
          rw [hbd] at p'
          refine gPat.run rfl P d v env' env1 σ' hbd r2 (eo'.grow ok' g2) fun σ3 eo3 _ => ?_
          refine hb S2 σ3 env1 sto' ok2 eo3 _ ?_
          simp only at p'
          have p2 := OPost.grow p' g2
          have g12 := g'.trans g2
          cases hbo : mb env1 sto' with
          | nx e s => rw [hbo] at p2; exact fun S4 σ4 g4 ok4 eo4 => ⟨S4, wipeE e ws, s, rfl, g12.trans g4, ok4, eo4.wipe0 ws, OPost.grow p2 g4⟩
          | ct e s => rw [hbo] at p2; exact fun S4 σ4 g4 ok4 eo4 => ⟨S4, wipeE e ws, s, rfl, g12.trans g4, ok4, eo4.wipe0 ws, OPost.grow p2 g4⟩
          | bk e s => rw [hbo] at p2; exact fun S4 σ4 g4 ok4 eo4 => p2 S4 σ4 g4 ok4 eo4
          | rt d' s => rw [hbo] at p2; exact p2
          | exc c e s => rw [hbo] at p2; exact p2
          | stuck => rw [hbo] at p2; exact p2
end
end BB
namespace BB
open PySem PySem.Spec PyProof.Rows L2

/-! ### comprehensions -/
def compM (src : Src) (p : Pat) (test : TM) (elt : EM) (env : Env) : Nat → Nat → List DV → Sto → Res (List DV)
  | 0, i, acc, sto => match src.view sto with
    | some xs => match xs[i]? with
      | some _ => .stuck
      | none => .ok acc sto
    | none => .stuck
  | f + 1, i, acc, sto => match src.view sto with
    | some xs => match xs[i]? with
      | some d => match bindP p d env with
        | some env1 => match test env1 sto with
          | .ok true s1 => match elt env1 s1 with
            | .ok y s2 => if acc.length < 1000000 then compM src p test elt env f (i + 1) (acc ++ [y]) s2 else .stuck
            | _ => .stuck
          | .ok false s1 => compM src p test elt env f (i + 1) acc s1
          | _ => .stuck
        | none => .stuck
      | none => .ok acc sto
    | none => .stuck
def eComp (b : Bool) (own : List Nat) (it : IM) (p : Pat) (test : TM) (elt : EM) : EM := fun env sto => (it env sto).bind fun src s => (compM src p test elt (wipeE env own) (src.len s) 0 [] s).bind fun ds s2 => newL b ds s2
def tYes1 : TM := fun _ sto => .ok true sto
section
variable {K : PySem.W.Frag} {cA : Nat → Addr} {S : Sys}
theorem EnvOk.wipe {env : Env} {σ : L2.St} (h : EnvOk K cA S env σ) : ∀ vs : List Nat, EnvOk K cA S (wipeE env vs) (L2.wipe σ vs)
  | [] => h
  | v :: vs => (EnvOk.wipe h vs).setNone
end
section
variable {X : Cx} {cA : Nat → Addr} {Z : Nat → L2.St → Hp → Prop} {pos : Pos} {elt tg iter : Expr} {ifs : List Expr} {scope : Scope} {own : List (Str × Nat)} {mi : IM} {P : Pat} {mt : TM} {me : EM}
abbrev Z0 : Nat → L2.St → Hp → Prop := fun _ _ _ => False
/-- a test list -/
def GTs (X : Cx) (cA : Nat → Addr) (ifs : List Expr) (m : TM) : Prop := ∀ S σ env sto, StoOk X.K cA S sto → EnvOk X.K cA S env σ → ∀ Q : Bool → Hp → Prop, Post X.K cA S (m env sto) (fun d _ S' => Q d S'.H) (fun _ _ _ => False) → ∃ t, PTs X ifs t ∧ t σ S.H Q
/-- the block of a comprehension -/
abbrev Blk (X : Cx) (scope : Scope) (s : Shared) (H : Hp) (C : Addr) (cl : List (Str × Addr)) (fp : List Addr) : Cx := X.blk s H scope (compEnvC scope cl C X.env) fp
def wTs (X : Cx) (ifs : List Expr) : TT := fun σ H Q => ∃ t, PTs X ifs t ∧ t σ H Q
theorem ptsW (X : Cx) (ifs : List Expr) : PTs X ifs (wTs X ifs) := ⟨fun pins s σ H Q I h => by
  obtain ⟨t, ht, q⟩ := h
  exact ht.run pins s σ H Q I q⟩
theorem gts_nil : GTs X cA [] tYes1 := fun S σ env sto ok eo Q p => ⟨_, pts_nil, p S (Grow.refl ok) ok⟩
theorem gts_one {e : Expr} (h : GT X cA Z0 e mt) : GTs X cA [e] mt := fun S σ env sto ok eo Q p => ⟨_, pts_one (ptW e), h S σ env sto ok eo Q p⟩
def allE (X : Cx) (scope : Scope) (e : Expr) : TE := fun σ H Q => ∀ s H0 C cl fp, wE (Blk X scope s H0 C cl fp) e σ H Q
def allTs (X : Cx) (scope : Scope) (ifs : List Expr) : TT := fun σ H Q => ∀ s H0 C cl fp, wTs (Blk X scope s H0 C cl fp) ifs σ H Q
theorem comp_core {S : Sys} {σ : L2.St} {env : Env} {sto : Sto} {Q : VK} {b : Bool} (hi : GI X cA Z tg iter mi) (hP : ∀ i ∈ P.slots, i ∈ own.map (·.2))
    (ht : ∀ s H C cl fp, GTs (Blk X scope s H C cl fp) cA ifs mt) (he : ∀ s H C cl fp, GE (Blk X scope s H C cl fp) cA Z0 elt me)
    (ok : StoOk X.K cA S sto) (eo : EnvOk X.K cA S env σ) (p : Post X.K cA S (eComp b (own.map (·.2)) mi P mt me env sto) (VQ X.K cA Q) (fun c _ S' => Z c σ S'.H)) :
    tLc (wI X tg iter) (gPat X.K P) (allTs X scope ifs) (allE X scope elt) (own.map (·.2)) σ S.H Q := by
  refine hi S σ env sto ok eo _ ((Post.bind p).imp (fun src s1 S1 g1 ok1 p1 J hJ => ?_) fun _ _ _ _ _ z => z)
  intro D nD
  have eo1 : EnvOk X.K cA S1 env σ := eo.grow ok g1
  refine ⟨fun i m H' => ∃ S' sto' acc accV, S'.H = H' ∧ Grow S1 S' ∧ StoOk X.K cA S' sto' ∧ H' D = some (.lst accV) ∧ RepL X.K cA S' acc accV ∧ ¬ S'.F D ∧ (∀ n, n < S'.N → S'.r n ≠ D) ∧
      Post X.K cA S1 ((compM src P mt me (wipeE env (own.map (·.2))) m i acc sto').bind fun ds s2 => newL b ds s2) (VQ X.K cA Q) (fun c _ S' => Z c σ S'.H),
    ⟨_, S1.addT D (.lst []), s1, [], [], rfl, Grow.addT ok1 nD, ok1.addT nD, upd_same, rfl, fun hf => ok1.fs D hf nD, fun n hn => ok1.nep nD hn, p1⟩, ?_⟩
  rintro i m H' ⟨S', sto', acc, accV, rfl, g', ok', hD, racc, nF, nr, p'⟩
  -- the list is told
  have fin : Post X.K cA S1 (newL b acc sto') (VQ X.K cA Q) (fun c _ S' => Z c σ S'.H) → Q (.ref D) S'.H := fun pn => by
    cases b with
    | false =>
      have kpF : Keeps S' { S' with F := fun a => S'.F a ∨ a = D } := ⟨Nat.le_refl _, fun _ _ => rfl, fun a h => Or.inl h, fun _ _ h _ => h, fun _ _ h => h, fun _ _ _ h => h⟩
      refine pn { S' with F := fun a => S'.F a ∨ a = D } ⟨g'.n, g'.r, fun a h => .inl (g'.f a h), g'.h, g'.new, g'.st, fun a h => ?_, g'.z⟩ ⟨ok'.len, fun n hn h => ?_, ok'.inj, fun n o h => ?_, fun a h => ?_⟩ (.ref D) ⟨D, accV, rfl, .inr rfl, hD, ?_⟩
      · rcases h with h | h
        · exact g'.fn a h
        · exact .inr (.inl (h ▸ nD))
      · rcases h with h | h
        · exact ok'.nf n hn h
        · exact (nr n hn h).elim
      · exact ORep.keep kpF _ _ (ok'.ob n o h)
      · rcases h with h | h
        · exact ok'.fs a h
        · show S'.H a ≠ none
          rw [h, hD]; simp
      · exact RepL.keep kpF _ _ racc
    | true =>
      have kp : Keeps S' { S' with r := fun n => if n = S'.N then D else S'.r n, N := S'.N + 1 } := ⟨Nat.le_succ _, fun n hn => by show (if n = S'.N then D else S'.r n) = _; rw [if_neg (by omega)], fun _ h => h, fun _ _ h _ => h, fun _ _ h => h, fun _ _ _ h => h⟩
      refine pn { S' with r := fun n => if n = S'.N then D else S'.r n, N := S'.N + 1 } ⟨Nat.le_trans g'.n (Nat.le_succ _), fun n hn => ?_, g'.f, g'.h, fun n h1 h2 => ?_, g'.st, g'.fn, g'.z⟩ ⟨by simp [ok'.len], fun n hn h => ?_, fun n m hn hm e => ?_, fun n o h => ?_, ok'.fs⟩ (.ref D) ⟨by rw [ok'.len]; exact Nat.lt_succ_self _, ?_⟩
      · show (if n = S'.N then D else S'.r n) = _
        rw [if_neg (by have := g'.n; omega)]; exact g'.r n hn
      · show S1.H (if n = S'.N then D else S'.r n) = none
        have h2 : n < S'.N + 1 := h2
        split
        · exact nD
        · exact g'.new n h1 (by omega)
      · have h : S'.F (if n = S'.N then D else S'.r n) := h
        have hn : n < S'.N + 1 := hn
        split at h
        · exact (nF h).elim
        · rw [List.getElem?_append_left (by rw [ok'.len]; omega)]; exact ok'.nf n (by omega) h
      · have hn : n < S'.N + 1 := hn
        have hm : m < S'.N + 1 := hm
        have e : (if n = S'.N then D else S'.r n) = (if m = S'.N then D else S'.r m) := e
        split at e <;> split at e
        · omega
        · exact absurd e.symm (nr m (by omega))
        · exact absurd e (nr n (by omega))
        · exact ok'.inj n m (by omega) (by omega) e
      · show ORep X.K cA _ o (S'.H (if n = S'.N then D else S'.r n))
        by_cases hn : n = S'.N
        · rw [if_pos hn, hD]
          rw [hn, ← ok'.len, List.getElem?_append_right (Nat.le_refl _)] at h
          simp at h
          subst h
          exact ⟨accV, rfl, RepL.keep kp _ _ racc⟩
        · have hl : n < sto'.length := by
            have := (List.getElem?_eq_some_iff.mp h).1
            simp at this
            rw [ok'.len] at this ⊢; omega
          rw [List.getElem?_append_left hl] at h
          rw [if_neg hn]
          exact ORep.keep kp _ _ (ok'.ob n o h)
      · show V.ref D = .ref (if sto'.length = S'.N then D else S'.r sto'.length)
        rw [if_pos ok'.len]
  cases hv : src.view sto' with
  | none =>
    cases m <;> (unfold compM at p'; rw [hv] at p'; exact p'.elim)
  | some xs =>
    obtain ⟨w1, w2⟩ := hJ S' sto' g' ok' xs hv
    cases hx : xs[i]? with
    | none =>
      refine .inl ⟨w1 i (List.getElem?_eq_none_iff.mp hx), fin ?_⟩
      cases m <;> (unfold compM at p'; rw [hv] at p'; simp only [hx] at p'; exact p')
    | some d =>
      cases m with
      | zero => unfold compM at p'; rw [hv] at p'; simp only [hx] at p'; exact p'.elim
      | succ f =>
        unfold compM at p'
        rw [hv] at p'
        simp only [hx] at p'
        obtain ⟨w3, w4⟩ := w2 i d hx
        refine .inr ⟨w3, fun H2 => ∃ S2 sto2 acc2 accV2, S2.H = H2 ∧ Grow S1 S2 ∧ StoOk X.K cA S2 sto2 ∧ H2 D = some (.lst accV2) ∧ RepL X.K cA S2 acc2 accV2 ∧ ¬ S2.F D ∧ (∀ n, n < S2.N → S2.r n ≠ D) ∧
          Post X.K cA S1 ((compM src P mt me (wipeE env (own.map (·.2))) f (i + 1) acc2 sto2).bind fun ds s2 => newL b ds s2) (VQ X.K cA Q) (fun c _ S' => Z c σ S'.H), fun H2 h2 => ⟨f, Nat.lt_succ_self f, h2⟩, fun v H2 hy => ?_⟩
        obtain ⟨S2, rfl, g2, ok2, r2⟩ := w4 v H2 hy
        have keepD : ∀ {S3 : Sys}, Grow S' S3 → S3.H D = some (.lst accV) ∧ ¬ S3.F D ∧ (∀ n, n < S3.N → S3.r n ≠ D) := fun {S3} g3 => by
          refine ⟨g3.h D _ hD (.inr nr), fun hf => ?_, fun n hn z => ?_⟩
          · rcases g3.fn D hf with h | h | ⟨n, hn, h⟩
            · exact nF h
            · rw [hD] at h; cases h
            · exact nr n hn h.symm
          · by_cases h : n < S'.N
            · rw [g3.r n h] at z; exact nr n h z
            · have := g3.new n (by omega) hn
              rw [z, hD] at this; cases this
        cases hbd : bindP P d (wipeE env (own.map (·.2))) with
        | none => rw [hbd] at p'; exact p'.elim
        | some env1 =>
          rw [hbd] at p'
          simp only at p'
          have eoW : EnvOk X.K cA S2 (wipeE env (own.map (·.2))) (L2.wipe σ (own.map (·.2))) := EnvOk.wipe ((eo1.grow ok1 g').grow ok' g2) _
          refine gPat.run rfl P d v _ env1 _ hbd r2 eoW fun σ3 eo3 hw => ⟨?_, ?_⟩
          · rw [hw _ hP]
            have : ∀ vs : List Nat, L2.wipe (L2.wipe σ vs) vs = L2.wipe σ vs := by
              intro vs
              apply List.ext_getElem?
              intro j
              by_cases hj : j ∈ vs
              · have key : ∀ (τ : L2.St) (ws : List Nat), j ∈ ws → (L2.wipe τ ws)[j]? = if j < τ.length then some none else none := by
                  intro τ ws
                  induction ws with
                  | nil => intro h; cases h
                  | cons w ws ih =>
                    intro h
                    unfold L2.wipe
                    by_cases e : w = j
                    · subst e
                      by_cases hl : w < τ.length
                      · rw [List.getElem?_set_self (by rw [wipe_length]; exact hl), if_pos hl]
                      · rw [List.getElem?_eq_none (by rw [List.length_set, wipe_length]; omega), if_neg hl]
                    · rw [List.getElem?_set_ne e]
                      exact ih ((List.mem_cons.mp h).resolve_left fun z => e z.symm)
                rw [key _ _ hj, key _ _ hj, wipe_length]
              · have key : ∀ (τ : L2.St) (ws : List Nat), j ∉ ws → (L2.wipe τ ws)[j]? = τ[j]? := by
                  intro τ ws
                  induction ws with
                  | nil => intro _; rfl
                  | cons w ws ih =>
                    intro h
                    simp only [List.mem_cons, not_or] at h
                    unfold L2.wipe
                    rw [List.getElem?_set_ne (Ne.symm h.1)]
                    exact ih h.2
                rw [key _ _ hj, key _ _ hj]
            exact this _
          · intro s H0 C cl fp
            cases hte : mt env1 sto' with
            | stuck => rw [hte] at p'; exact p'.elim
            | exc c s' => rw [hte] at p'; exact p'.elim
            | ok k s3 =>
              rw [hte] at p'
              refine ht s H0 C cl fp S2 σ3 env1 sto' ok2 eo3 _ ?_
              rw [hte]
              intro S3 g3 ok3
              have g13 := (g'.trans g2).trans g3
              obtain ⟨kD, kF, kr⟩ := keepD (g2.trans g3)
              cases k with
              | false =>
                refine iteF ⟨S3, s3, acc, accV, rfl, g13, ok3, kD, (racc.grow ok' g2).grow ok2 g3, kF, kr, p'⟩
              | true =>
                refine iteT fun s H0 C cl fp => ?_
                simp only at p'
                cases hel : me env1 s3 with
                | stuck => rw [hel] at p'; exact p'.elim
                | exc c s' => rw [hel] at p'; exact p'.elim
                | ok y s4 =>
                  rw [hel] at p'
                  simp only at p'
                  refine he s H0 C cl fp S3 σ3 env1 s3 ok3 (eo3.grow ok2 g3) _ ?_
                  rw [hel]
                  intro S4 g4 ok4 vy ry
                  obtain ⟨kD4, kF4, kr4⟩ := keepD ((g2.trans g3).trans g4)
                  have racc4 := ((racc.grow ok' g2).grow ok2 g3).grow ok3 g4
                  by_cases hl : acc.length < 1000000
                  · rw [if_pos hl] at p'
                    refine ⟨accV, kD4, by rw [← racc.length]; exact limlt hl, ?_⟩
                    have g14 := g13.trans g4
                    have kp : Keeps S4 { S4 with H := upd S4.H D (.lst (accV ++ [vy])) } := by
                      refine ⟨Nat.le_refl _, fun _ _ => rfl, fun _ h => h, fun a o h hf => ?_, fun a ws h => ?_, fun a o u h => ?_⟩
                      · show upd S4.H D _ a = _
                        rw [upd_ne (fun z => kF4 (by rw [← z]; exact hf))]; exact h
                      · show upd S4.H D _ a = _
                        rw [upd_ne (fun z => by rw [z, kD4] at h; cases h)]; exact h
                      · show upd S4.H D _ a = _
                        rw [upd_ne (fun z => by rw [z, kD4] at h; cases h)]; exact h
                    refine ⟨{ S4 with H := upd S4.H D (.lst (accV ++ [vy])) }, s4, acc ++ [y], accV ++ [vy], rfl, ⟨g14.n, g14.r, g14.f, fun a o h hr => ?_, g14.new, fun n hn => ?_, g14.fn, fun a o u h => ?_⟩, ⟨ok4.len, ok4.nf, ok4.inj, fun n o h => ?_, fun a h => ?_⟩, upd_same, RepL.keep kp _ _ (racc4.app (.one ry)), kF4, kr4, p'⟩
                    · show upd S4.H D _ a = _
                      rw [upd_ne (ne_of_none h nD)]; exact g14.h a o h hr
                    · show upd S4.H D _ _ ≠ none
                      rw [upd_ne (ok1.nep nD hn)]; exact g14.st n hn
                    · show upd S4.H D _ a = _
                      rw [upd_ne (ne_of_none h nD)]; exact g14.z a o u h
                    · show ORep X.K cA _ o (upd S4.H D _ (S4.r n))
                      rw [upd_ne (kr4 n (ok4.lt h))]
                      exact ORep.keep kp _ _ (ok4.ob n o h)
                    · show upd S4.H D _ a ≠ none
                      unfold upd; split
                      · simp
                      · exact ok4.fs a h
                  · rw [if_neg hl] at p'; exact p'.elim
theorem g_comp (b : Bool) (own : List (Str × Nat)) (hc : X.calm = true) (hN : X.N.Nodup) (hi : GI X cA Z tg iter mi) (okB : BlkOk X.N X.env.scope scope own) (hP : ∀ i ∈ P.slots, i ∈ own.map (·.2))
    (hg : ∀ s H C cl fp, PG (Blk X scope s H C cl fp) tg (gPat X.K P)) (ht : ∀ s H C cl fp, GTs (Blk X scope s H C cl fp) cA ifs mt) (he : ∀ s H C cl fp, GE (Blk X scope s H C cl fp) cA Z0 elt me) (hs : ∀ x, foldedSetIterable iter X.env x = pure x := by intro _; rfl) :
    GE X cA Z (.ListComp elt [⟨tg, iter, ifs, 0⟩] scope pos) (eComp b (own.map (·.2)) mi P mt me) := fun S σ env sto ok eo Q p =>
  wE.of (pe_lc hc hN (piW tg iter) okB hg (fun s H C cl fp => ⟨fun pins s' σ H' Q I h => (ptsW _ _).run pins s' σ H' Q I (h s H C cl fp)⟩) (fun s H C cl fp => ⟨fun pins s' σ H' Q I h => h s H C cl fp pins s' I⟩) hs) (comp_core hi hP ht he ok eo p)
theorem g_setComp (b : Bool) (own : List (Str × Nat)) (i : Nat) {y : Str} {py spos : Pos} (hc : X.calm = true) (hN : X.N.Nodup) (hi : GI X cA Z tg iter mi) (okB : BlkOk X.N X.env.scope scope own) (hP : ∀ i ∈ P.slots, i ∈ own.map (·.2))
    (hg : ∀ s H C cl fp, PG (Blk X scope s H C cl fp) tg (gPat X.K P)) (ht : ∀ s H C cl fp, GTs (Blk X scope s H C cl fp) cA ifs mt) (he : ∀ s H C cl fp, GE (Blk X scope s H C cl fp) cA Z0 elt me)
    (hsw : swapsWith (.ListComp elt [⟨tg, iter, ifs, 0⟩] scope pos) (some (.Name y py)) spos.line X.env = pure true) (hy : X.N[i]? = some y := by rfl) (hyl : X.env.scope.names.lookup y = some .local := by rfl) (hs : ∀ x, foldedSetIterable iter X.env x = pure x := by intro _; rfl) :
    GS X cA Z (.Assign [.Name y py] (.ListComp elt [⟨tg, iter, ifs, 0⟩] scope pos) spos) (sAsg (.nm i) (eComp b (own.map (·.2)) mi P mt me)) := fun S σ env sto ok eo D p => by
  refine wS.of (ps_setLc (tt := allTs X scope ifs) (te := allE X scope elt) (g := gPat X.K P) hc hN hy hyl hsw (piW tg iter) okB hg (fun s H C cl fp => ⟨fun pins s' σ H' Q I h => (ptsW _ _).run pins s' σ H' Q I (h s H C cl fp)⟩) (fun s H C cl fp => ⟨fun pins s' σ H' Q I h => h s H C cl fp pins s' I⟩) hs) ?_
  refine comp_core (b := b) hi hP ht he ok eo ((OPost.out p ok eo).imp (fun d s S1 g1 ok1 h1 v r => ?_) fun _ _ _ _ _ z => z)
  exact h1 S1 _ (Grow.refl ok1) ok1 ((eo.grow ok g1).set r)
end
end BB
namespace BB
open PySem PySem.Spec PyProof.Rows L2

/-! ### d[k] = v, xs[i] = v -/
def putD (x y d : DV) (sto : Sto) : Res Unit := match x with
  | .loc n => match sto[n]? with
    | some (.dT ks ds) => match tkeyOf y with
      | some k => if ks.length < 1000000 then .ok () (sto.set n (.dT (putKs ks k) (putDs ks ds k d))) else .stuck
      | none => .stuck
    | some (.dK ks ds) => match keyOf y with
      | some k => if ks.length < 1000000 then .ok () (sto.set n (.dK (putKs ks k) (putDs ks ds k d))) else .stuck
      | none => .stuck
    | some (.lst ds) => match y with
      | .int i => match ixN ds.length i with
        | some j => .ok () (sto.set n (.lst (ds.set j d)))
        | none => .stuck
      | _ => .stuck
    | _ => .stuck
  | _ => .stuck
def wSet (X : Cx) : TSet := fun o i v H Q => ∀ (pins : List (Addr × Obj)) (s : Shared) (σ : L2.St) (ov iv u : Value), Inv X pins σ H s → RelV o ov → RelV i iv → RelV v u → wpAny (model X.prog X.w) X.A (setItem ov iv u) (fun _ s' => ∃ H', Inv X pins σ H' s' ∧ Q H') X.xe s
theorem psetW (X : Cx) : PSet X (wSet X) := fun pins s σ H o i v ov iv u Q I r1 r2 r3 h => h pins s σ ov iv u I r1 r2 r3
/-- targets o[i], .. one after another -/
def sPuts : List (EM × EM) → List DV → Env → Sto → Res Unit
  | [], [], _, sto => .ok () sto
  | (o, i) :: ts, d :: ds, env, sto => (o env sto).bind fun x s1 => (i env s1).bind fun y s2 => (putD x y d s2).bind fun _ s3 => sPuts ts ds env s3
  | _, _, _, _ => .stuck
def sPut (o i m : EM) : SM := fun env sto => (m env sto).out env fun d s => (sPuts [(o, i)] [d] env s).out env fun _ s' => .nx env s'
def sPutT (ts : List (EM × EM)) (m : EM) : SM := fun env sto => (m env sto).out env fun d s => match d with
  | .tup ds => if ds.length = ts.length then (sPuts ts ds env s).out env fun _ s' => .nx env s' else .stuck
  | _ => .stuck
section
variable {X : Cx} {cA : Nat → Addr} {Z : Nat → L2.St → Hp → Prop} {pos pos' tpos : Pos} {o i e : Expr} {mo mi m : EM}
theorem putD.use (hu : X.A.units + 1 < cLine) {S : Sys} {sto : Sto} {x y d : DV} {vx vy vd : V} {Q : Hp → Prop} {Zf : Nat → Sto → Sys → Prop} (ok : StoOk X.K cA S sto) (rx : Rep X.K cA S x vx) (ry : Rep X.K cA S y vy) (rd : Rep X.K cA S d vd)
    (p : Post X.K cA S (putD x y d sto) (fun _ _ S' => Q S'.H) Zf) : wSet X vx vy vd S.H Q := by
  intro pins s σ ov iv u I r1 r2 r3
  unfold putD at p
  split at p
  · rename_i n
    obtain ⟨hn, rfl⟩ := rx
    split at p
    · rename_i ks ds e
      split at p
      · rename_i k hk
        split at p
        · rename_i hl
          obtain ⟨b, rfl, hb⟩ := tkeyOf.rep ry hk
          obtain ⟨kvs, h1, h2, h3, nd⟩ := ok.ob n _ e
          have hlen : kvs.length < 1000000 := by rw [← h2, List.length_map] at hl; exact hl
          refine set_dict hu pins s σ S.H _ _ vd ov iv u Q I r1 r2 r3 ⟨S.r n, _, rfl, DPut.t h1 hb (limlt hlen), ?_⟩
          exact p (S.mut n _) (Grow.mut ok hn (ok.alive e (by simp)) (fun o u z => by rw [h1] at z; cases z)) (ok.mut hn (ok.alive e (by simp)) (fun o u z => by rw [h1] at z; cases z) ⟨_, rfl, by rw [putK_keys, h2], putDs.rep rd nd h2 h3, putKs.nodup nd k⟩)
        · exact p.elim
      · exact p.elim
    · rename_i ks ds e
      split at p
      · rename_i k hk
        split at p
        · rename_i hl
          have hb := keyOf.rep ry hk
          subst hb
          obtain ⟨kvs, h1, h2, h3, nd⟩ := ok.ob n _ e
          have hlen : kvs.length < 1000000 := by rw [← h2, List.length_map] at hl; exact hl
          refine set_dict hu pins s σ S.H _ _ vd ov iv u Q I r1 r2 r3 ⟨S.r n, _, rfl, DPut.k h1 (limlt hlen), ?_⟩
          exact p (S.mut n _) (Grow.mut ok hn (ok.alive e (by simp)) (fun o u z => by rw [h1] at z; cases z)) (ok.mut hn (ok.alive e (by simp)) (fun o u z => by rw [h1] at z; cases z) ⟨_, rfl, by rw [putK_keys, h2], putDs.rep rd nd h2 h3, putKs.nodup nd k⟩)
        · exact p.elim
      · exact p.elim
    · rename_i ds e
      split at p
      · rename_i j
        split at p
        · rename_i l hl
          cases (show vy = .int j from ry)
          obtain ⟨vs, h1, h2⟩ := ok.ob n _ e
          rw [h2.length] at hl
          refine set_list pins s σ S.H _ _ vd ov iv u Q I r1 r2 r3 ⟨S.r n, vs, j, l, rfl, rfl, h1, hl, ?_⟩
          exact p (S.mut n _) (Grow.mut ok hn (ok.alive e (by simp)) (fun o u z => by rw [h1] at z; cases z)) (ok.mut (d := .lst _) hn (ok.alive e (by simp)) (fun o u z => by rw [h1] at z; cases z) ⟨_, rfl, h2.set rd l⟩)
        · exact p.elim
      · exact p.elim
    · exact p.elim
  · exact p.elim
/-- several targets o[i] -/
inductive GPuts (X : Cx) (cA : Nat → Addr) (Z : Nat → L2.St → Hp → Prop) : List Expr → List (EM × EM) → Prop
  | nil : GPuts X cA Z [] []
  | cons {o i : Expr} {mo mi : EM} {pos : Pos} {es : List Expr} {ts : List (EM × EM)} : GE X cA Z o mo → GE X cA Z i mi → (∀ v, assign (.Subscript o i pos) X.env v = (do
      let ov ← holding [v] (eval o X.env)
      let iv ← holding [v, ov] (eval i X.env)
      standAt pos
      holding [v, ov, iv] (setItem ov iv v)
      release [v, ov, iv] [])) → ((assignEach (.Subscript o i pos :: es) X.env).map (·.2) = assign (.Subscript o i pos) X.env :: (assignEach es X.env).map (·.2)) → GPuts X cA Z es ts → GPuts X cA Z (.Subscript o i pos :: es) ((mo, mi) :: ts)
theorem gp_cons {es : List Expr} {ts : List (EM × EM)} (ho : GE X cA Z o mo) (hi : GE X cA Z i mi) (h : GPuts X cA Z es ts) (ha : ∀ v, assign (.Subscript o i pos) X.env v = (do
      let ov ← holding [v] (eval o X.env)
      let iv ← holding [v, ov] (eval i X.env)
      standAt pos
      holding [v, ov, iv] (setItem ov iv v)
      release [v, ov, iv] []) := by intro _; rfl) (hs : (assignEach (.Subscript o i pos :: es) X.env).map (·.2) = assign (.Subscript o i pos) X.env :: (assignEach es X.env).map (·.2) := by rfl) : GPuts X cA Z (.Subscript o i pos :: es) ((mo, mi) :: ts) := .cons ho hi ha hs h
theorem puts_core (hu : X.A.units + 1 < cLine) {es : List Expr} {ts : List (EM × EM)} (g : GPuts X cA Z es ts) : ∃ t : TGs, PGs X es t ∧ ∀ S σ env sto ds vs (Q : L2.St → Hp → Prop), StoOk X.K cA S sto → EnvOk X.K cA S env σ → RepL X.K cA S ds vs →
    Post X.K cA S (sPuts ts ds env sto) (fun _ _ S' => Q σ S'.H) (fun c _ S' => Z c σ S'.H) → t vs σ S.H Q := by
  induction g with
  | nil =>
    refine ⟨_, pgs_nil, fun S σ env sto ds vs Q ok eo r p => ?_⟩
    cases ds with
    | nil => exact ⟨r, p S (Grow.refl ok) ok⟩
    | cons d ds => exact p.elim
  | @cons o i mo mi pos es ts ho hi ha hs g ih =>
    obtain ⟨t, ht, hq⟩ := ih
    refine ⟨_, pgs_cons (pg_sub (peW o) (peW i) (psetW X) ha) ht hs, fun S σ env sto ds vs Q ok eo r p => ?_⟩
    cases ds with
    | nil => exact p.elim
    | cons d ds =>
      obtain ⟨v, w, rfl, r1, r2⟩ := r
      refine ⟨v, w, rfl, ho.then ok eo p fun x s1 S1 vx g1 ok1 eo1 rx h1 => ?_⟩
      refine hi.then ok1 eo1 h1 fun y s2 S2 vy g2 ok2 eo2 ry h2 => ?_
      refine putD.use (Zf := fun c _ S' => Z c σ S'.H) hu ok2 (rx.grow ok1 g2) ry ((r1.grow ok g1).grow ok1 g2) ((Post.bind h2).imp (fun _ s3 S3 g3 ok3 p3 => ?_) fun _ _ _ _ _ z => z)
      exact hq S3 σ env s3 ds w Q ok3 (eo2.grow ok2 g3) (((r2.grow ok g1).grow ok1 g2).grow ok2 g3) p3
theorem g_puts (hu : X.A.units + 1 < cLine) (hc : X.calm = true) {es : List Expr} {k : Nat} {ts : List (EM × EM)} (g : GPuts X cA Z es ts) (h : GE X cA Z e m) (hl : es.length = ts.length := by rfl) (hn : (assignEach es X.env).length = ts.length := by rfl) (hst : (assignEach es X.env).findIdx? (·.1) = none := by rfl)
    (hs : swapsWithSole [.Tuple es k tpos] e pos.line X.env = pure false := by rfl) (hw : swappedStores [.Tuple es k tpos] e X.env = pure none := by rfl)
    (h1 : (assignEach [.Tuple es k tpos] X.env).map (·.2) = [assign (.Tuple es k tpos) X.env] := by rfl) : GS X cA Z (.Assign [.Tuple es k tpos] e pos) (sPutT ts m) := fun S σ env sto ok eo D p => by
  obtain ⟨t, ht, hq⟩ := puts_core hu g
  refine wS.of (ps_asg (peW e) (pg_tup hc ht hn hst) hs hw h1) (h.out ok eo p fun d s S1 v g1 ok1 eo1 r h1 => ?_)
  cases d <;> first | exact h1.elim | skip
  rename_i ds
  obtain ⟨a, vs, rfl, q1, q2⟩ := r
  simp only at h1
  split at h1
  case isFalse => exact h1.elim
  rename_i hds
  have p2 := OPost.out h1 ok1 eo1
  have hlen : vs.length = ts.length := by rw [← q2.length]; exact hds
  refine ⟨a, vs, rfl, sqT q1, hlen, hq S1 σ env s ds vs _ ok1 eo1 q2 (p2.imp (fun _ s3 S3 g3 ok3 p3 => ?_) fun _ _ _ _ _ z => z)⟩
  exact p3 S3 σ (Grow.refl ok3) ok3 (eo1.grow ok1 g3)
theorem g_put (hu : X.A.units + 1 < cLine) (ho : GE X cA Z o mo) (hi : GE X cA Z i mi) (h : GE X cA Z e m) (ha : ∀ v, assign (.Subscript o i tpos) X.env v = (do
      let ov ← holding [v] (eval o X.env)
      let iv ← holding [v, ov] (eval i X.env)
      standAt tpos
      holding [v, ov, iv] (setItem ov iv v)
      release [v, ov, iv] []) := by intro _; rfl) (hs : swapsWithSole [.Subscript o i tpos] e pos.line X.env = pure false := by rfl) (hw : swappedStores [.Subscript o i tpos] e X.env = pure none := by rfl)
    (h1 : (assignEach [.Subscript o i tpos] X.env).map (·.2) = [assign (.Subscript o i tpos) X.env] := by rfl) : GS X cA Z (.Assign [.Subscript o i tpos] e pos) (sPut mo mi m) := fun S σ env sto ok eo D p => by
  refine wS.of (ps_asg (peW e) (pg_sub (peW o) (peW i) (psetW X) ha) hs hw h1) (h.out ok eo p fun d s S1 v g1 ok1 eo1 r h1 => ?_)
  have p2 := OPost.out h1 ok1 eo1
  refine ho.then ok1 eo1 p2 fun x s1 S2 vx g2 ok2 eo2 rx h2 => ?_
  refine hi.then ok2 eo2 h2 fun y s2 S3 vy g3 ok3 eo3 ry h3 => ?_
  refine putD.use (Zf := fun c _ S' => Z c σ S'.H) hu ok3 (rx.grow ok2 g3) ry ((r.grow ok1 g2).grow ok2 g3) ((Post.bind h3).imp (fun _ s3 S4 g4 ok4 p4 => ?_) fun _ _ _ _ _ z => z)
  exact p4 S4 (Grow.refl ok4) ok4 S4 σ (Grow.refl ok4) ok4 (eo3.grow ok3 g4)
end

/-! ### no objects of the store -/
mutual
def noLoc : DV → Bool
  | .loc _ => false
  | .tup ds => noLocL ds
  | .lst ds => noLocL ds
  | .dic _ ds => noLocL ds
  | .ins _ _ ds => noLocL ds
  | _ => true
def noLocL : List DV → Bool
  | [] => true
  | d :: ds => noLoc d && noLocL ds
end
theorem noLocL_map {α : Type} {f : α → DV} (h : ∀ x, noLoc (f x) = true) : ∀ xs : List α, noLocL (xs.map f) = true
  | [] => rfl
  | x :: xs => by simp [noLocL, h x, noLocL_map h xs]
theorem noLocL_all : ∀ {ds : List DV}, (∀ d ∈ ds, noLoc d = true) → noLocL ds = true
  | [], _ => rfl
  | d :: ds, h => by simp [noLocL, h d (by simp), noLocL_all (ds := ds) fun x hx => h x (by simp [hx])]
section
variable {K : PySem.W.Frag} {cA : Nat → Addr} {S S' : Sys}
/-- data that hold no object of the store -/
structure KeepsV (S S' : Sys) : Prop where
  f : ∀ a, S.F a → S'.F a
  h : ∀ a o, S.H a = some o → S.F a → S'.H a = some o
  t : ∀ a vs, S.H a = some (.tup vs) → S'.H a = some (.tup vs)
  z : ∀ a o u, S.H a = some (.frz o u) → S'.H a = some (.frz o u)
mutual
theorem Rep.keepV (k : KeepsV S S') : ∀ (d : DV) (v : V), noLoc d = true → Rep K cA S d v → Rep K cA S' d v
  | .non, v, _, h => h
  | .bl b, v, _, h => h
  | .int i, v, _, h => h
  | .str x, v, _, h => h
  | .ty x, v, _, h => h
  | .cls x, v, _, h => h
  | .tup ds, v, n, ⟨a, vs, e, h1, h2⟩ => ⟨a, vs, e, k.t a vs h1, RepL.keepV k ds vs n h2⟩
  | .lst ds, v, n, ⟨a, vs, e, h0, h1, h2⟩ => ⟨a, vs, e, k.f a h0, k.h a _ h1 h0, RepL.keepV k ds vs n h2⟩
  | .dic ks ds, v, n, ⟨a, kvs, e, h0, h1, h3, h2⟩ => ⟨a, kvs, e, k.f a h0, k.h a _ h1 h0, h3, RepL.keepV k ds _ n h2⟩
  | .ins c ns ds, v, n, ⟨a, dx, fvs, e, h0, h1, h3, h2⟩ => ⟨a, dx, fvs, e, k.f a h0, k.h a _ h1 h0, h3, RepL.keepV k ds _ n h2⟩
  | .scr ns, v, _, ⟨a, e, h1⟩ => ⟨a, e, by
    rcases h1 with ⟨o, h1⟩ | ⟨h0, h1⟩ | h1
    · exact .inl ⟨o, k.z a o _ h1⟩
    · exact .inr (.inl ⟨k.f a h0, k.h a _ h1 h0⟩)
    · exact .inr (.inr h1)⟩
  | .loc n, v, h, _ => by cases h
theorem RepL.keepV (k : KeepsV S S') : ∀ (ds : List DV) (vs : List V), noLocL ds = true → RepL K cA S ds vs → RepL K cA S' ds vs
  | [], vs, _, h => h
  | d :: ds, vs, n, ⟨v, r, e, h1, h2⟩ => by
    simp only [noLocL, Bool.and_eq_true] at n
    exact ⟨v, r, e, Rep.keepV k d v n.1 h1, RepL.keepV k ds r n.2 h2⟩
end
mutual
theorem Rep.noLoc : ∀ (d : DV) (v : V), S.N = 0 → Rep K cA S d v → noLoc d = true
  | .non, v, _, h => rfl
  | .bl b, v, _, h => rfl
  | .int i, v, _, h => rfl
  | .str x, v, _, h => rfl
  | .ty x, v, _, h => rfl
  | .cls x, v, _, h => rfl
  | .scr x, v, _, h => rfl
  | .tup ds, v, n, ⟨a, vs, e, h1, h2⟩ => RepL.noLoc ds vs n h2
  | .lst ds, v, n, ⟨a, vs, e, h0, h1, h2⟩ => RepL.noLoc ds vs n h2
  | .dic ks ds, v, n, ⟨a, kvs, e, h0, h1, h3, h2⟩ => RepL.noLoc ds _ n h2
  | .ins c ns ds, v, n, ⟨a, dx, fvs, e, h0, h1, h3, h2⟩ => RepL.noLoc ds _ n h2
  | .loc m, v, n, ⟨h1, _⟩ => by rw [n] at h1; exact absurd h1 (Nat.not_lt_zero _)
theorem RepL.noLoc : ∀ (ds : List DV) (vs : List V), S.N = 0 → RepL K cA S ds vs → noLocL ds = true
  | [], vs, _, h => rfl
  | d :: ds, vs, n, ⟨v, r, e, h1, h2⟩ => by simp [noLocL, Rep.noLoc d v n h1, RepL.noLoc ds r n h2]
end
end

/-! ### freezing -/
mutual
def frzW (look : Nat → Option DV) : DV → Option DV
  | .tup ds => (frzWL look ds).map .tup
  | .lst ds => (frzWL look ds).map .lst
  | .dic ks ds => (frzWL look ds).map (.dic ks)
  | .ins c ns ds => (frzWL look ds).map (.ins c ns)
  | .loc n => look n
  | d => some d
def frzWL (look : Nat → Option DV) : List DV → Option (List DV)
  | [] => some []
  | d :: ds => match frzW look d, frzWL look ds with
    | some x, some xs => some (x :: xs)
    | _, _ => none
end
def flook0 : Nat → Option DV := fun _ => none
def flookW (look : Nat → Option DV) (sto : Sto) (n : Nat) : Option DV := match sto[n]? with
  | some (.lst ds) => (frzWL look ds).map .lst
  | some (.dT ks ds) => (frzWL look ds).map (.dic ks)
  | some (.ins c ns ds) => (frzWL look ds).map (.ins c ns)
  | _ => none
def frz (sto : Sto) (d : DV) : Option DV := frzW (flookW (flookW (flookW flook0 sto) sto) sto) d
/-- all objects of the store frozen -/
def Sys.ice (S : Sys) : Sys := { S with F := fun a => S.F a ∨ ∃ n, n < S.N ∧ a = S.r n, N := 0 }
section
variable {K : PySem.W.Frag} {cA : Nat → Addr} {S S' : Sys} {sto : Sto}
mutual
theorem frzW.rep {look : Nat → Option DV} (hl : ∀ n D, look n = some D → n < S.N → Rep K cA S.ice D (.ref (S.r n))) : ∀ (d : DV) (v : V) (D : DV), Rep K cA S d v → frzW look d = some D → Rep K cA S.ice D v
  | .non, v, D, r, h => by cases h; exact r
  | .bl b, v, D, r, h => by cases h; exact r
  | .int i, v, D, r, h => by cases h; exact r
  | .str x, v, D, r, h => by cases h; exact r
  | .ty x, v, D, r, h => by cases h; exact r
  | .cls x, v, D, r, h => by cases h; exact r
  | .scr x, v, D, ⟨a, e, h1⟩, h => by
    cases h
    refine ⟨a, e, ?_⟩
    rcases h1 with ⟨o, h1⟩ | ⟨h0, h1⟩ | h1
    · exact .inl ⟨o, h1⟩
    · exact .inr (.inl ⟨.inl h0, h1⟩)
    · exact .inr (.inr h1)
  | .tup ds, v, D, ⟨a, vs, e, h1, h2⟩, h => by
    simp only [frzW, Option.map_eq_some_iff] at h
    obtain ⟨xs, h3, rfl⟩ := h
    exact ⟨a, vs, e, h1, frzWL.rep hl ds vs xs h2 h3⟩
  | .lst ds, v, D, ⟨a, vs, e, h0, h1, h2⟩, h => by
    simp only [frzW, Option.map_eq_some_iff] at h
    obtain ⟨xs, h3, rfl⟩ := h
    exact ⟨a, vs, e, .inl h0, h1, frzWL.rep hl ds vs xs h2 h3⟩
  | .dic ks ds, v, D, ⟨a, kvs, e, h0, h1, hk, h2⟩, h => by
    simp only [frzW, Option.map_eq_some_iff] at h
    obtain ⟨xs, h3, rfl⟩ := h
    exact ⟨a, kvs, e, .inl h0, h1, hk, frzWL.rep hl ds _ xs h2 h3⟩
  | .ins c ns ds, v, D, ⟨a, dx, fvs, e, h0, h1, hk, h2⟩, h => by
    simp only [frzW, Option.map_eq_some_iff] at h
    obtain ⟨xs, h3, rfl⟩ := h
    exact ⟨a, dx, fvs, e, .inl h0, h1, hk, frzWL.rep hl ds _ xs h2 h3⟩
  | .loc n, v, D, ⟨h1, e⟩, h => by
    subst e
    exact hl n D h h1
theorem frzWL.rep {look : Nat → Option DV} (hl : ∀ n D, look n = some D → n < S.N → Rep K cA S.ice D (.ref (S.r n))) : ∀ (ds : List DV) (vs : List V) (D : List DV), RepL K cA S ds vs → frzWL look ds = some D → RepL K cA S.ice D vs
  | [], vs, D, r, h => by cases h; exact r
  | d :: ds, vs, D, ⟨v, r, e, h1, h2⟩, h => by
    unfold frzWL at h
    split at h
    · rename_i x xs e1 e2
      cases h
      exact ⟨v, r, e, frzW.rep hl d v x h1 e1, frzWL.rep hl ds r xs h2 e2⟩
    · cases h
end
theorem flookW.rep {look : Nat → Option DV} (ok : StoOk K cA S sto) (hl : ∀ n D, look n = some D → n < S.N → Rep K cA S.ice D (.ref (S.r n))) : ∀ n D, flookW look sto n = some D → n < S.N → Rep K cA S.ice D (.ref (S.r n)) := fun n D h hn => by
  unfold flookW at h
  split at h
  · rename_i ds e
    simp only [Option.map_eq_some_iff] at h
    obtain ⟨xs, h3, rfl⟩ := h
    obtain ⟨vs, e1, e2⟩ := ok.ob n _ e
    exact ⟨S.r n, vs, rfl, .inr ⟨n, hn, rfl⟩, e1, frzWL.rep hl ds vs xs e2 h3⟩
  · rename_i ks ds e
    simp only [Option.map_eq_some_iff] at h
    obtain ⟨xs, h3, rfl⟩ := h
    obtain ⟨kvs, e1, ek, e2, _⟩ := ok.ob n _ e
    exact ⟨S.r n, kvs, rfl, .inr ⟨n, hn, rfl⟩, e1, ek, frzWL.rep hl ds _ xs e2 h3⟩
  · rename_i c ns ds e
    simp only [Option.map_eq_some_iff] at h
    obtain ⟨xs, h3, rfl⟩ := h
    obtain ⟨dx, fvs, e1, ek, e2⟩ := ok.ob n _ e
    exact ⟨S.r n, dx, fvs, rfl, .inr ⟨n, hn, rfl⟩, e1, ek, frzWL.rep hl ds _ xs e2 h3⟩
  · cases h
theorem frz.rep (ok : StoOk K cA S sto) {d D : DV} {v : V} (r : Rep K cA S d v) (h : frz sto d = some D) : Rep K cA S.ice D v :=
  frzW.rep (flookW.rep ok (flookW.rep ok (flookW.rep ok fun _ _ z _ => by cases z))) d v D r h
theorem StoOk.ice (ok : StoOk K cA S sto) : StoOk K cA S.ice [] where
  len := rfl
  nf := fun n hn => absurd hn (Nat.not_lt_zero _)
  inj := fun n m hn => absurd hn (Nat.not_lt_zero _)
  ob := fun n o h => by simp at h
  fs := fun a h => by
    rcases h with h | ⟨n, hn, rfl⟩
    · exact ok.fs a h
    · exact ok.live hn
theorem Grow.ice (g : Grow S S') (h0 : S.N = 0) : Grow S S'.ice where
  n := by rw [h0]; exact Nat.le_refl _
  r := fun n hn => absurd hn (by omega)
  f := fun a h => .inl (g.f a h)
  h := g.h
  new := fun n _ hn => absurd hn (Nat.not_lt_zero _)
  st := fun n hn => absurd hn (by omega)
  fn := fun a h => by
    rcases h with h | ⟨n, hn, rfl⟩
    · exact g.fn a h
    · exact .inr (.inl (g.new n (by omega) hn))
  z := g.z
end

/-! ### defs -/
inductive PR where
  | ok (d : DV)
  | exc (c : Nat)
  | stuck
/-- a def without effects: called with frozen data ds it gives (F ds) -/
def PSp (K : PySem.W.Frag) (cA : Nat → Addr) (F : List DV → PR) : Sp := fun vs H Q E => ∃ S ds, S.H = H ∧ S.N = 0 ∧ StoOk K cA S [] ∧ RepL K cA S ds vs ∧ (match F ds with
  | .ok D => ∀ S' v, Grow S S' → S'.N = 0 → StoOk K cA S' [] → Rep K cA S' D v → Q v S'.H
  | .exc c => ∀ S', Grow S S' → S'.N = 0 → StoOk K cA S' [] → E (.ref (cA c)) none S'.H
  | .stuck => False)
theorem PSp.len {K : PySem.W.Frag} {cA : Nat → Addr} {n : Nat} {F : List DV → PR} (hF : ∀ ds, F ds ≠ .stuck → ds.length = n) {vs : List V} {H : Hp} {Q : VK} {E : XK} (h : PSp K cA F vs H Q E) : vs.length = n := by
  obtain ⟨S, ds, _, _, _, r, q⟩ := h
  rw [← r.length]
  refine hF ds fun e => ?_
  rw [e] at q; exact q
def startE (N : List Str) (ds : List DV) : Env := ds.map some ++ List.replicate (N.length - ds.length) none
theorem startE_ok {K : PySem.W.Frag} {cA : Nat → Addr} {S : Sys} {N : List Str} {ds : List DV} {vs : List V} (r : RepL K cA S ds vs) : EnvOk K cA S (startE N ds) (L2.start N vs) := by
  refine ⟨by simp [startE, L2.start, r.length], fun i d h => ?_⟩
  unfold startE at h
  by_cases hi : i < ds.length
  · rw [List.getElem?_append_left (by simpa using hi), List.getElem?_map] at h
    simp only [Option.map_eq_some_iff, Option.some.injEq] at h
    obtain ⟨d', h1, h2⟩ := h
    subst h2
    obtain ⟨v, e, rv⟩ := r.get h1
    refine ⟨v, ?_, rv⟩
    unfold L2.start
    rw [List.getElem?_append_left (by rw [List.length_map, ← r.length]; exact hi), List.getElem?_map, e]; rfl
  · rw [List.getElem?_append_right (by simpa using hi)] at h
    rw [List.getElem?_replicate] at h
    split at h <;> cases h
/-- how a body's end is told: frozen -/
def endsP : Out → PR
  | .rt d sto => match frz sto d with
    | some D => .ok D
    | none => .stuck
  | .nx _ _ => .ok .non
  | .exc c _ _ => .exc c
  | _ => .stuck
section
variable {P : Program} {w : World} {K : PySem.W.Frag} {mg : Str → Option Value} {base : Heap} {cA : Nat → Addr}
/-- THE RULE for a def without effects that raises nothing -/
theorem pfun {x qual : Str} {st : Stmt} {f : Addr} {fd : FuncData} {N ps : List Str} {k : Nat} {m : SM} {G : List DV → PR} (F : Fun K x qual st f fd) (Sc : FnScope N ps (defScope st)) (hn : ∀ ds, G ds ≠ .stuck → ds.length = ps.length)
    (hbody : ∀ (cdv : Value) (A : Around) (outer : List PySem.Env) (s : Shared) (H : Hp) (E : XK), Room k (A.deeper (envOfC qual (defScope st) s.heap.objs.size f cdv)) →
      GSs (cxOf CX0 P w K mg base N qual (defScope st) f cdv A outer s H E).nox cA Z0 (defBody st) m)
    (hG : ∀ ds D, G ds = .ok D → endsP (m (startE N ds) []) = .ok D) (hX : ∀ ds c, G ds ≠ .exc c) : FnOk P w K mg base CX0 (k + 1) f fd ps (PSp K cA G) := by
  refine F.ok Sc (fun vs H Q E h => h.len hn) (fun cdv A outer s H vs Q E hr h => ?_)
  obtain ⟨S, ds, rfl, hN, ok, r, hq⟩ := h
  refine ⟨_, pssW _, hbody cdv A outer s S.H E hr S (L2.start N vs) (startE N ds) [] ok (startE_ok r) _ ?_⟩
  cases e : G ds with
  | stuck => rw [e] at hq; exact hq.elim
  | exc c => exact absurd e (hX ds c)
  | ok D =>
    rw [e] at hq
    have h := hG ds D e
    cases e2 : m (startE N ds) [] with
    | rt d sto =>
      rw [e2] at h
      simp only [endsP] at h
      split at h
      · rename_i D' e3
        cases h
        exact fun S' v g' ok' rv => hq S'.ice v (g'.ice hN) rfl ok'.ice (frz.rep ok' rv e3)
      · cases h
    | nx env sto =>
      rw [e2] at h
      cases h
      exact fun S' σ' g' ok' eo' => hq S'.ice .non (g'.ice hN) rfl ok'.ice rfl
    | exc c env sto => rw [e2] at h; cases h
    | bk env sto => rw [e2] at h; cases h
    | ct env sto => rw [e2] at h; cases h
    | stuck => rw [e2] at h; cases h
end
/-- a call of such a def -/
def eCall (G : List DV → PR) (t : AM) : EM := fun env sto => (t env sto).bind fun ds s => if noLocL ds = true then (match G ds with
  | .ok D => .ok D s
  | _ => .stuck) else .stuck
section
variable {X : Cx} {cA : Nat → Addr} {Z : Nat → L2.St → Hp → Prop} {pos p : Pos} {x : Str} {e : Expr} {es : List Expr} {t : AM} {G : List DV → PR} {k : Nat} {f : Addr} {fd : FuncData} {ps : List Str}
theorem g_call (F : FnOk X.prog X.w X.K X.mg X.base CX0 k f fd ps (PSp X.K cA G)) (hr : Room k X.A) (hm : X.mg x = some (.ref f)) (hk : PySem.W.keepIn X.K (.ref f) = true) (hb : Binds X.K fd ps []) (ha : GA X cA Z (e :: es) t) (hg : Gl X x := by rfl)
    (hdb : (x == ("__debug__" : Str)) = false := by decide) (he : starEach (e :: es) X.env = (false, eval e X.env) :: starEach es X.env := by rfl) (hpl : (backTo pos (starEach es X.env)).any (·.1) = false := by rfl) :
    GE X cA Z (.Call (.Name x p) (e :: es) [] pos) (eCall G t) := fun S σ env sto ok eo Q p => by
  refine wE.of (pe_call F hr hg hm hk hb .nil pass0 (paW _) hdb he hpl) (ha.then ok eo p fun ds s1 S1 vs g1 ok1 eo1 rs h1 => ?_)
  split at h1
  · rename_i hno
    cases eG : G ds with
    | stuck => rw [eG] at h1; exact h1.elim
    | exc c => rw [eG] at h1; exact h1.elim
    | ok D =>
      rw [eG] at h1
      have kv : KeepsV S1 { S1 with N := 0 } := ⟨fun _ h => h, fun _ _ h _ => h, fun _ _ h => h, fun _ _ _ h => h⟩
      rw [List.append_nil]
      refine ⟨{ S1 with N := 0 }, ds, rfl, rfl, ⟨rfl, fun n hn => absurd hn (Nat.not_lt_zero _), fun n m hn => absurd hn (Nat.not_lt_zero _), fun n o h => by simp at h, ok1.fs⟩, RepL.keepV kv ds vs hno rs, ?_⟩
      rw [eG]
      intro S' v g' hN' ok' rv
      have same : ∀ a o, S1.H a = some o → S'.H a = some o := fun a o h => g'.h a o h (.inr fun n hn => absurd hn (Nat.not_lt_zero _))
      have gr : Grow S1 { S' with r := S1.r, N := S1.N } := ⟨Nat.le_refl _, fun _ _ => rfl, g'.f, fun a o h _ => same a o h, fun n h1 h2 => absurd h2 (by show ¬ n < S1.N; omega), fun n hn => by
        cases e : S1.H (S1.r n) with
        | none => exact absurd e (ok1.live hn)
        | some o => show S'.H (S1.r n) ≠ none; rw [same _ _ e]; simp, fun a h => (g'.fn a h).imp id fun q => q.elim .inl fun ⟨n, hn, _⟩ => absurd hn (Nat.not_lt_zero _), g'.z⟩
      have okr : StoOk X.K cA { S' with r := S1.r, N := S1.N } s1 := ⟨ok1.len, fun n hn h => by
          rcases g'.fn _ h with h | h | ⟨n, hn, _⟩
          · exact ok1.nf n hn h
          · exact (ok1.live hn h).elim
          · exact absurd hn (Nat.not_lt_zero _), ok1.inj, fun n o h => by
          have q := ok1.ob n o h
          have : S'.H (S1.r n) = S1.H (S1.r n) := by
            cases e : S1.H (S1.r n) with
            | none => exact absurd e (ok1.live (ok1.lt h))
            | some u => exact same _ _ e
          show ORep X.K cA _ o (S'.H (S1.r n))
          rw [this]
          exact ORep.keep (gr.keeps ok1) _ _ q, ok'.fs⟩
      have kv2 : KeepsV S' { S' with r := S1.r, N := S1.N } := ⟨fun _ h => h, fun _ _ h _ => h, fun _ _ h => h, fun _ _ _ h => h⟩
      refine h1 _ gr okr v (Rep.keepV kv2 D v (Rep.noLoc D v hN' rv) rv)
  · exact h1.elim
end
end BB
namespace BB
open PySem PySem.Spec PyProof.Rows L2

theorem u1 {A : Around} {k : Nat} (hr : Room k A) : A.units + 1 < cLine := by have := hr.un; omega
theorem u64 {A : Around} {k : Nat} (hr : Room k A) : A.units + 64 < cLine := by have := hr.un; omega
theorem u65 {A : Around} {k : Nat} (hr : Room k A) : A.units + 65 < cLine := by have := hr.un; omega
theorem u200 {A : Around} {k : Nat} (hr : Room k A) : A.units + 200 < cLine := by have := hr.un; omega

/-! ### >= of data; - of an int; is -/
def notNone : PyData → Bool
  | .none => false
  | _ => true
def oGe (x y : DV) (sto : Sto) : Res DV := match x, y with
  | .int i, .int j => .ok (.bl (decide (j ≤ i))) sto
  | x, y => match py sto x, py sto y with
    | some a, some b => if PySem.W.alike a b = true ∧ notNone a = true ∧ a.depth ≤ 64 then .ok (.bl (!PySem.W.dataLt a b)) sto else .stuck
    | _, _ => .stuck
def uNeg (x : DV) (sto : Sto) : Res DV := match x with
  | .int i => .ok (.int (-i)) sto
  | _ => .stuck
def eUn (f : DV → Sto → Res DV) (a : EM) : EM := fun env sto => (a env sto).bind fun x s => f x s
section
variable {X : Cx} {cA : Nat → Addr} {Z : Nat → L2.St → Hp → Prop} {pos : Pos} {a b : Expr} {ma mb : EM}
theorem n_ge (x y : DV) (s : Sto) : (oGe x y s).noexc := by
  unfold oGe
  split
  · trivial
  · split
    · split <;> trivial
    · trivial
theorem s_ge (hu : X.A.units + 64 < cLine) : OpS X cA (compareOp .GtE) oGe := fun S sto x y vx vy Q ok rx ry p pins s σ v u I r1 r2 => by
  unfold oGe at p
  split at p
  · rename_i i j
    cases (show vx = .int i from rx)
    cases (show vy = .int j from ry)
    exact op_ge pins s σ S.H _ _ v u Q I r1 r2 ⟨i, j, rfl, rfl, ret_same ok p rfl⟩
  · split at p
    · rename_i A B e1 e2
      split at p
      · rename_i hc
        obtain ⟨as, ra⟩ := Dp.reads I A vx v (py.rep ok rx e1) r1
        obtain ⟨bs, rb⟩ := Dp.reads I B vy u (py.rep ok ry e2) r2
        refine PySem.W.rcGe_alike A B X.A s v u as bs ra rb hc.1 (fun z => ?_) ?_ X.prog X.w X.xe (EP X pins σ Q) ⟨.bl _, S.H, I, rfl, ret_same ok p rfl⟩
        · subst z; cases hc.2.1
        · have := Nat.min_le_left A.depth B.depth
          have := hc.2.2
          omega
      · exact p.elim
    · exact p.elim
theorem g_neg (ha : GE X cA Z a ma) : GE X cA Z (.UnaryOp .USub a pos) (eUn uNeg ma) := fun S σ env sto ok eo Q p => by
  refine wE.of (pe_un un_neg (peW a)) (ha.then ok eo p fun x s1 S1 vx g1 ok1 eo1 rx h1 => ?_)
  unfold uNeg at h1
  split at h1
  · exact ⟨_, rx, ret_same ok1 h1 rfl⟩
  · exact h1.elim
/-- is None, is True, is False -/
def isNonD : DV → Bool
  | .non => true
  | _ => false
def oIsN (x y : DV) (sto : Sto) : Res DV := match y with
  | .non => .ok (.bl (isNonD x)) sto
  | .bl b => match x with
    | .bl c => .ok (.bl (decide (c = b))) sto
    | _ => .stuck
  | _ => .stuck
def oIsNot (x y : DV) (sto : Sto) : Res DV := match y with
  | .non => .ok (.bl (!isNonD x)) sto
  | .bl b => match x with
    | .bl c => .ok (.bl (!decide (c = b))) sto
    | _ => .stuck
  | _ => .stuck
theorem n_isN (x y : DV) (s : Sto) : (oIsN x y s).noexc := by unfold oIsN; split <;> (try split) <;> trivial
theorem n_isNot (x y : DV) (s : Sto) : (oIsNot x y s).noexc := by unfold oIsNot; split <;> (try split) <;> trivial
theorem isNon_rep {K : PySem.W.Frag} {S : Sys} {d : DV} {v : V} (r : Rep K cA S d v) : decide (v = V.non) = isNonD d := by
  cases d
  case non => cases (show v = .non from r); rfl
  case bl b => cases (show v = .bl b from r); rfl
  case int b => cases (show v = .int b from r); rfl
  case str b => cases (show v = .str b from r); rfl
  case ty b => cases (show v = .ty b from r); rfl
  case cls b => cases (show v = .ref (cA b) from r); rfl
  case tup => obtain ⟨a, vs, rfl, _⟩ := r; rfl
  case lst => obtain ⟨a, vs, rfl, _⟩ := r; rfl
  case dic => obtain ⟨a, vs, rfl, _⟩ := r; rfl
  case ins => obtain ⟨a, dx, vs, rfl, _⟩ := r; rfl
  case scr => obtain ⟨a, rfl, _⟩ := r; rfl
  case loc => obtain ⟨_, rfl⟩ := r; rfl
theorem s_isN : OpS X cA (compareOp .Is) oIsN := fun S sto x y vx vy Q ok rx ry p pins s σ v u I r1 r2 => by
  unfold oIsN at p
  split at p
  · cases (show vy = .non from ry)
    exact op_isN pins s σ S.H _ _ v u Q I r1 r2 ⟨rfl, by rw [isNon_rep rx]; exact ret_same ok p rfl⟩
  · rename_i b
    split at p
    · rename_i c
      cases (show vx = .bl c from rx)
      cases (show vy = .bl b from ry)
      exact op_is_bl pins s σ S.H _ _ v u Q I r1 r2 ⟨c, b, rfl, rfl, ret_same ok p rfl⟩
    · exact p.elim
  · exact p.elim
theorem s_isNot : OpS X cA (compareOp .IsNot) oIsNot := fun S sto x y vx vy Q ok rx ry p pins s σ v u I r1 r2 => by
  unfold oIsNot at p
  split at p
  · cases (show vy = .non from ry)
    exact op_notN pins s σ S.H _ _ v u Q I r1 r2 ⟨rfl, by rw [isNon_rep rx]; exact ret_same ok p rfl⟩
  · rename_i b
    split at p
    · rename_i c
      cases (show vx = .bl c from rx)
      cases (show vy = .bl b from ry)
      exact op_isnot_bl pins s σ S.H _ _ v u Q I r1 r2 ⟨c, b, rfl, rfl, ret_same ok p rfl⟩
    · exact p.elim
  · exact p.elim
end

/-! ### defs by name -/
structure Callee (P : Program) (w : World) (K : PySem.W.Frag) (mg : Str → Option Value) (base : Heap) (cA : Nat → Addr) (x : Str) (k : Nat) (G : List DV → PR) : Prop where
  ex : ∃ f fd ps, FnOk P w K mg base CX0 k f fd ps (PSp K cA G) ∧ mg x = some (.ref f) ∧ PySem.W.keepIn K (.ref f) = true ∧ Binds K fd ps []
section
variable {X : Cx} {cA : Nat → Addr} {Z : Nat → L2.St → Hp → Prop} {pos p : Pos} {x : Str} {e : Expr} {es : List Expr} {t : AM} {G : List DV → PR} {k : Nat}
theorem g_callC (C : Callee X.prog X.w X.K X.mg X.base cA x k G) (hr : Room k X.A) (ha : GA X cA Z (e :: es) t) (hg : Gl X x := by rfl)
    (hdb : (x == ("__debug__" : Str)) = false := by decide) (he : starEach (e :: es) X.env = (false, eval e X.env) :: starEach es X.env := by rfl) (hpl : (backTo pos (starEach es X.env)).any (·.1) = false := by rfl) :
    GE X cA Z (.Call (.Name x p) (e :: es) [] pos) (eCall G t) := by
  obtain ⟨f, fd, ps, F, hm, hk, hb⟩ := C.ex
  exact g_call F hr hm hk hb ha hg hdb he hpl
end
/-- a def of the text, where it stands -/
structure DefAt (K : PySem.W.Frag) (mg : Str → Option Value) (x : Str) (st : Stmt) (ps : List Str) : Prop where
  ex : ∃ f fd, Fun K x x st f fd ∧ mg x = some (.ref f) ∧ Binds K fd ps []
/-- what a body that raises nothing tells -/
def runP (n : Nat) (N : List Str) (m : SM) (ds : List DV) : PR := if ds.length = n then (match endsP (m (startE N ds) []) with
  | .ok D => .ok D
  | _ => .stuck) else .stuck
section
variable {P : Program} {w : World} {K : PySem.W.Frag} {mg : Str → Option Value} {base : Heap} {cA : Nat → Addr}
theorem callee {x : Str} {st : Stmt} {N ps : List Str} {k : Nat} {m : SM} (D : DefAt K mg x st ps) (Sc : FnScope N ps (defScope st))
    (hbody : ∀ (f : Addr) (cdv : Value) (A : Around) (outer : List PySem.Env) (s : Shared) (H : Hp) (E : XK), Room k (A.deeper (envOfC x (defScope st) s.heap.objs.size f cdv)) →
      GSs (cxOf CX0 P w K mg base N x (defScope st) f cdv A outer s H E).nox cA Z0 (defBody st) m) : Callee P w K mg base cA x (k + 1) (runP ps.length N m) := by
  obtain ⟨f, fd, F, hm, hb⟩ := D.ex
  refine ⟨f, fd, ps, pfun F Sc (fun ds h => ?_) (hbody f) (fun ds D h => ?_) (fun ds c h => ?_), hm, F.kp, hb⟩
  · unfold runP at h
    by_cases hl : ds.length = ps.length
    · exact hl
    · rw [if_neg hl] at h; exact absurd rfl h
  · unfold runP at h
    split at h
    · split at h
      · rename_i D' e
        cases h
        exact e
      · cases h
    · cases h
  · unfold runP at h
    split at h
    · split at h <;> cases h
    · cases h
end

section
variable {P : Program} {w : World} {K : PySem.W.Frag} {mg : Str → Option Value} {base : Heap} {cA : Nat → Addr}
/-- a def that is never called -/
theorem callee0 {x : Str} {st : Stmt} {ps : List Str} {k : Nat} (D : DefAt K mg x st ps) : Callee P w K mg base cA x (k + 1) (fun _ => .stuck) := by
  obtain ⟨f, fd, F, hm, hb⟩ := D.ex
  refine ⟨f, fd, ps, ⟨fun vs H Q E h => ?_, fun A outer s H args us vs Q E _ _ _ _ h => ?_⟩, hm, F.kp, hb⟩
  · obtain ⟨_, _, _, _, _, _, q⟩ := h; exact q.elim
  · obtain ⟨_, _, _, _, _, _, q⟩ := h; exact q.elim
end
/-- d.get(k, x) -/
def eGet2 (o k x : EM) : EM := fun env sto => (o env sto).bind fun d s1 => match d with
  | .loc n => match s1[n]? with
    | some (.dK _ _) => (k env s1).bind fun y s2 => (x env s2).bind fun z s3 => match dicOf s3 d y with
      | some (some v) => .ok v s3
      | some none => .ok z s3
      | none => .stuck
    | _ => .stuck
  | _ => .stuck
section
variable {X : Cx} {cA : Nat → Addr} {Z : Nat → L2.St → Hp → Prop} {apos cpos : Pos} {o e f : Expr} {mo me mf : EM}
theorem g_get2 (hu : X.A.units + 1 < cLine) (ho : GE X cA Z o mo) (he : GE X cA Z e me) (hf : GE X cA Z f mf) (m : M2 X o "get" apos e f cpos := by exact ⟨rfl, rfl, rfl, rfl⟩) : GE X cA Z (.Call (.Attribute o "get" apos) [e, f] [] cpos) (eGet2 mo me mf) := fun S σ env sto ok eo Q p => by
  refine wE.of (pe_dget2 hu (peW o) (peW e) (peW f) m) (ho.then ok eo p fun d s1 S1 v g1 ok1 eo1 r h1 => ?_)
  cases d <;> first | exact h1.elim | skip
  rename_i n
  simp only at h1
  split at h1
  · rename_i ks ds e1
    have r0 := r
    obtain ⟨hn, rfl⟩ := r
    obtain ⟨kvs, q1, _⟩ := ok1.ob n _ e1
    refine ⟨_, rfl, .inl ⟨kvs, .inl q1⟩, he.then ok1 eo1 h1 fun y s2 S2 vy g2 ok2 eo2 ry h2 => ?_⟩
    refine hf.then ok2 eo2 h2 fun z s3 S3 vz g3 ok3 eo3 rz h3 => ?_
    have r3 : Rep X.K cA S3 (.loc n) (.ref (S1.r n)) := (Rep.grow r0 ok1 g2).grow ok2 g3
    have ry3 := ry.grow ok2 g3
    cases hd : dicOf s3 (.loc n) y with
    | none => rw [hd] at h3; exact h3.elim
    | some w =>
      rw [hd] at h3
      obtain ⟨c, u, ec, hg, hs, hno⟩ := dicOf.rep (X := X) (d := y) ok3 r3 ry3 hd
      cases ec
      refine ⟨u, hg, ?_⟩
      cases w with
      | none => rw [hno rfl]; exact ret_same ok3 h3 rz
      | some d =>
        obtain ⟨v, rfl, rv⟩ := hs d rfl
        exact ret_same ok3 h3 rv
  · exact h1.elim
end

/-! ### a, b, c = x, y, z -/
def sPar3 (i j l : Nat) (t : AM) : SM := fun env sto => (t env sto).out env fun ds s => match ds with
  | [u, v, w] => .nx (((env.set i (some u)).set j (some v)).set l (some w)) s
  | _ => .stuck
section
variable {X : Cx} {cA : Nat → Addr} {Z : Nat → L2.St → Hp → Prop} {pos : Pos}
theorem g_par3 (i j l : Nat) {x y z : Str} {a b c : Expr} {t : AM} {px py pz pt : Pos} {kt k2 pt2} (hc : X.calm = true) (hN : X.N.Nodup) (ha : GA X cA Z [a, b, c] t) (hi : X.N[i]? = some x := by rfl) (hj : X.N[j]? = some y := by rfl) (hl : X.N[l]? = some z := by rfl) (hij : i ≠ j := by decide) (hil : i ≠ l := by decide) (hjl : j ≠ l := by decide)
    (hx : X.env.scope.names.lookup x = some .local := by rfl) (hy : X.env.scope.names.lookup y = some .local := by rfl) (hz : X.env.scope.names.lookup z = some .local := by rfl)
    (hw : swappedStores [.Tuple [.Name x px, .Name y py, .Name z pz] kt pt] (.Tuple [a, b, c] k2 pt2) X.env = pure (some [x, y, z]) := by rfl)
    (hs : swapsWithSole [.Tuple [.Name x px, .Name y py, .Name z pz] kt pt] (.Tuple [a, b, c] k2 pt2) pos.line X.env = pure false := by rfl) :
    GS X cA Z (.Assign [.Tuple [.Name x px, .Name y py, .Name z pz] kt pt] (.Tuple [a, b, c] k2 pt2) pos) (sPar3 i j l t) := fun S σ env sto ok eo D p => by
  refine wS.of (ps_par3 hc hN hi hj hl hij hil hjl hx hy hz (paW _) hw hs) (ha.out ok eo p fun ds s1 S1 vs g1 ok1 eo1 rs h1 => ?_)
  split at h1
  · obtain ⟨u, r, rfl, r1, r2⟩ := rs
    obtain ⟨v, w, rfl, r3, r4⟩ := two_rep r2
    exact ⟨u, v, w, rfl, h1 S1 _ (Grow.refl ok1) ok1 (((eo1.set r1).set r3).set r4)⟩
  · exact h1.elim
/-! ### a comprehension over a dict's keys: the dict is locked meanwhile -/
def keyDV : Key → DV
  | .inl i => .int i
  | .inr x => .str x
def iKeysD (m : EM) : IM := fun env sto => (m env sto).bind fun d s => match d with
  | .loc n => match s[n]? with
    | some (.dKf ks _) => .ok (.fix (ks.map keyDV)) s
    | _ => .stuck
  | _ => .stuck
theorem gi_keys {tg l : Expr} {m : EM} (h : GE X cA Z l m) : GI X cA Z tg l (iKeysD m) := fun S σ env sto ok eo R p => by
  refine wI.of (pi_keys (peW l)) (h.then ok eo p fun d s S1 v g1 ok1 eo1 r h1 => ?_)
  cases d <;> first | exact h1.elim | skip
  rename_i n
  simp only at h1
  split at h1
  · rename_i ks ds e
    obtain ⟨hn, rfl⟩ := r
    obtain ⟨ob, kvs, q1, q2, q3, _⟩ := ok1.ob n _ e
    refine ⟨_, ob, rfl, .inl ⟨kvs, q1, h1 S1 (Grow.refl ok1) ok1 _ fun S' sto' g ok' xs hv => ?_⟩⟩
    cases hv
    have hz := g.z _ _ _ q1
    refine ⟨fun i hi => ⟨hz, by simpa [← q2] using hi⟩, fun i d hd => ?_⟩
    rw [List.getElem?_map] at hd
    simp only [Option.map_eq_some_iff] at hd
    obtain ⟨k, hk, rfl⟩ := hd
    rw [← q2, List.getElem?_map] at hk
    simp only [Option.map_eq_some_iff] at hk
    obtain ⟨⟨k', v'⟩, hk, rfl⟩ := hk
    refine ⟨⟨hz, (List.getElem?_eq_some_iff.mp hk).1⟩, fun v H' hy => ?_⟩
    obtain ⟨rfl, k2, v2, e2, rfl⟩ := hy
    rw [hk] at e2
    cases e2
    refine ⟨S', rfl, Grow.refl ok', ok', ?_⟩
    cases k' <;> rfl
  · exact h1.elim
/-- the dict of a name is locked while m runs -/
def eLock (i : Nat) (m : EM) : EM := fun env sto => match env[i]? with
  | some (some (.loc n)) => match sto[n]? with
    | some (.dK ks ds) => (m env (sto.set n (.dKf ks ds))).bind fun d s => match s[n]? with
      | some (.dKf ks' ds') => .ok d (s.set n (.dK ks' ds'))
      | _ => .stuck
    | _ => .stuck
  | _ => .stuck
theorem g_lock (i : Nat) {e : Expr} {m : EM} (h : GE X cA Z0 e m) (hZ : Z = Z0) : GE X cA Z e (eLock i m) := fun S σ env sto ok eo Q p => by
  subst hZ
  unfold eLock at p
  split at p
  · rename_i n e0
    split at p
    · rename_i ks ds e1
      obtain ⟨v, ev, hn, rfl⟩ := eo.2 _ _ e0
      obtain ⟨kvs, q1, q2, q3, q4⟩ := ok.ob n _ e1
      refine wE.of (pe_lock (peW e)) ⟨S.r n, .dK kvs, q1, trivial, fun od => ?_⟩
      have nz : ∀ o u, S.H (S.r n) ≠ some (.frz o u) := fun o u z => by rw [q1] at z; cases z
      have gl : Grow S (S.mut n (.frz od (.dK kvs))) := Grow.mut ok hn (ok.alive e1 (by simp)) nz
      have okl : StoOk X.K cA (S.mut n (.frz od (.dK kvs))) (sto.set n (.dKf ks ds)) := ok.mut hn (ok.alive e1 (by simp)) nz ⟨od, kvs, rfl, q2, q3, q4⟩
      refine h _ σ env _ okl (eo.grow ok gl) _ ?_
      cases em : m env (sto.set n (.dKf ks ds)) with
      | stuck => rw [em] at p; exact p.elim
      | exc c s => rw [em] at p; exact fun S' g' ok' => p S' (gl.trans g') ok'
      | ok d s =>
        rw [em] at p
        simp only [Res.bind_ok] at p
        intro S1 g1 ok1 w r
        have hz : S1.H (S.r n) = some (.frz od (.dK kvs)) := g1.z _ _ _ upd_same
        refine ⟨hz, ?_⟩
        split at p
        · rename_i ks' ds' e2
          have hrn : S1.r n = S.r n := g1.r n hn
          have hn1 : n < S1.N := ok1.lt e2
          obtain ⟨ob', kvs', w1, w2, w3, w4⟩ := ok1.ob n _ e2
          rw [hrn, hz] at w1
          cases w1
          have gg := gl.trans g1
          have kp : Keeps S1 (S1.mut n (.dK kvs)) := by
            refine ⟨Nat.le_refl _, fun _ _ => rfl, fun _ h => h, fun a o h hf => ?_, fun a vs h => ?_, fun a o u h => ?_⟩
            · show upd S1.H (S1.r n) _ a = _
              rw [upd_ne (fun e => ok1.alive e2 (by simp) (by rw [← e]; exact hf))]; exact h
            · show upd S1.H (S1.r n) _ a = _
              rw [upd_ne (fun e => ok1.ntup h n hn1 e.symm)]; exact h
            · show upd S1.H (S1.r n) _ a = _
              rw [upd_ne (fun e => by rw [e, hrn, hz] at h; cases h)]; exact h
          have gr : Grow S (S1.mut n (.dK kvs)) := by
            refine ⟨gg.n, gg.r, gg.f, fun a o h ha => ?_, gg.new, fun m hm => ?_, gg.fn, fun a o u h => ?_⟩
            · show upd S1.H (S1.r n) _ a = _
              rw [upd_ne (fun e => ha.elim (fun hf => ok.alive e1 (by simp) (by rw [← hrn, ← e]; exact hf)) fun q => q n hn (by rw [e, hrn]))]; exact gg.h a o h ha
            · show upd S1.H (S1.r n) _ (S.r m) ≠ none
              unfold upd; split
              · simp
              · exact gg.st m hm
            · show upd S1.H (S1.r n) _ a = _
              rw [upd_ne (fun e => by rw [e, hrn, q1] at h; cases h)]; exact gg.z a o u h
          have okf : StoOk X.K cA (S1.mut n (.dK kvs)) (s.set n (.dK ks' ds')) := by
            refine ⟨by simp [ok1.len]; rfl, fun m hm hf => by
              have hf : S1.F (S1.r m) := hf
              rw [List.getElem?_set_ne (fun e : n = m => ok1.alive e2 (by simp) (e ▸ hf))]
              exact ok1.nf m hm hf, ok1.inj, fun m x hx => ?_, fun a ha => ?_⟩
            · show ORep X.K cA _ x (upd S1.H (S1.r n) _ (S1.r m))
              by_cases e : n = m
              · subst e
                rw [List.getElem?_set_self (by rw [ok1.len]; exact hn1)] at hx
                cases hx
                rw [upd_same]
                exact ⟨kvs, rfl, w2, RepL.keep kp _ _ w3, w4⟩
              · rw [List.getElem?_set_ne e] at hx
                rw [upd_ne (fun z => e (ok1.inj n m hn1 (ok1.lt hx) z.symm))]
                exact ORep.keep kp _ _ (ok1.ob m x hx)
            · show upd S1.H (S1.r n) _ a ≠ none
              unfold upd; split
              · simp
              · exact ok1.fs a ha
          have q := p (S1.mut n (.dK kvs)) gr okf w (Rep.keep kp _ _ r)
          have e3 : (S1.mut n (.dK kvs)).H = upd S1.H (S.r n) (.dK kvs) := by show upd S1.H (S1.r n) _ = _; rw [hrn]
          rw [e3] at q
          exact q
        · exact p.elim
    · exact p.elim
  · exact p.elim
end

/-! ### the law itself -/
section
variable {P : Program} {w : World} {K : PySem.W.Frag} {mg : Str → Option Value} {base : Heap} {cA : Nat → Addr}
theorem fnok {x : Str} {st : Stmt} {N ps : List Str} {k : Nat} {m : SM} {f : Addr} {fd : FuncData} (F : Fun K x x st f fd) (Sc : FnScope N ps (defScope st))
    (hbody : ∀ (f : Addr) (cdv : Value) (A : Around) (outer : List PySem.Env) (s : Shared) (H : Hp) (E : XK), Room k (A.deeper (envOfC x (defScope st) s.heap.objs.size f cdv)) →
      GSs (cxOf CX0 P w K mg base N x (defScope st) f cdv A outer s H E).nox cA Z0 (defBody st) m) : FnOk P w K mg base CX0 (k + 1) f fd ps (PSp K cA (runP ps.length N m)) := by
  refine pfun F Sc (fun ds h => ?_) (hbody f) (fun ds D h => ?_) (fun ds c h => ?_)
  · unfold runP at h
    by_cases hl : ds.length = ps.length
    · exact hl
    · rw [if_neg hl] at h; exact absurd rfl h
  · unfold runP at h
    split at h
    · split at h
      · rename_i D' e
        cases h
        exact e
      · cases h
    · cases h
  · unfold runP at h
    split at h
    · split at h <;> cases h
    · cases h
/-- the promise at the script -/
theorem law_sp {G : List DV → PR} {H : Hp} {a : Addr} {ns : List Int} (h : G [.scr ns] = .ok (.bl true)) (hS : SqL K H a (ns.map V.int)) : PSp K cA G [.ref a] H (fun v _ => v = .bl true) fun _ _ _ => False := by
  refine ⟨⟨H, fun x => x = a ∧ ∃ xs, H a = some (.lst xs), fun _ => 0, 0⟩, [.scr ns], rfl, rfl, ⟨rfl, fun n hn => absurd hn (Nat.not_lt_zero _), fun n m hn => absurd hn (Nat.not_lt_zero _), fun n o h => by simp at h, fun x hx => ?_⟩, ⟨.ref a, [], rfl, ⟨a, rfl, ?_⟩, rfl⟩, ?_⟩
  · obtain ⟨rfl, xs, e⟩ := hx
    show H x ≠ none
    rw [e]; simp
  · rcases hS with (e | ⟨o, e⟩) | e
    · exact .inr (.inl ⟨⟨rfl, _, e⟩, e⟩)
    · exact .inl ⟨o, e⟩
    · exact .inr (.inr e)
  · rw [h]
    intro S' v _ _ _ r
    exact r
end
end BB
namespace BB
open PySem PySem.Spec PyProof.Rows L2
/-! ### a list, a dict of the store that is changed no more: frozen -/
def sFrz (i : Nat) : SM := fun env sto => match env[i]? with
  | some (some (.loc n)) => match sto[n]? with
    | some (.lst ds) => if noLocL ds = true then .nx (env.set i (some (.lst ds))) (sto.set n .dead) else .stuck
    | some (.dT ks ds) => if noLocL ds = true then .nx (env.set i (some (.dic ks ds))) (sto.set n .dead) else .stuck
    | _ => .stuck
  | _ => .stuck
def Sys.chill (S : Sys) (n : Nat) : Sys := { S with F := fun a => S.F a ∨ a = S.r n }
section
variable {K : PySem.W.Frag} {cA : Nat → Addr} {S : Sys} {sto : Sto} {n : Nat}
theorem Grow.chill (ok : StoOk K cA S sto) (hn : n < S.N) : Grow S (S.chill n) where
  n := Nat.le_refl _
  r := fun _ _ => rfl
  f := fun _ h => .inl h
  h := fun _ _ h _ => h
  new := fun m h1 h2 => absurd h2 (by show ¬ m < S.N; omega)
  st := fun m hm => ok.live hm
  fn := fun a h => h.imp id fun e => .inr ⟨n, hn, e⟩
  z := fun _ _ _ h => h
theorem StoOk.chill (ok : StoOk K cA S sto) (hn : n < S.N) (hd : ORep K cA S .dead (S.H (S.r n))) : StoOk K cA (S.chill n) (sto.set n .dead) where
  len := by simp [ok.len]; rfl
  nf := fun m hm hf => by
    have hl : n < sto.length := by rw [ok.len]; exact hn
    by_cases e : n = m
    · subst e; exact List.getElem?_set_self hl
    · rw [List.getElem?_set_ne e]
      rcases hf with hf | hf
      · exact ok.nf m hm hf
      · exact absurd (ok.inj m n hm hn hf) (fun z => e z.symm)
  inj := ok.inj
  ob := fun m x h => by
    show ORep K cA (S.chill n) x (S.H (S.r m))
    by_cases e : n = m
    · subst e
      rw [List.getElem?_set_self (by rw [ok.len]; exact hn)] at h
      cases h
      exact hd
    · rw [List.getElem?_set_ne e] at h
      exact ORep.keep ((Grow.chill ok hn).keeps ok) _ _ (ok.ob m x h)
  fs := fun a h => by
    rcases h with h | h
    · exact ok.fs a h
    · show S.H a ≠ none
      rw [h]; exact ok.live hn
theorem EnvOk.retell {env : Env} {σ : L2.St} {i : Nat} {d D : DV} (eo : EnvOk K cA S env σ) (h : env[i]? = some (some d)) (hd : ∀ v, Rep K cA S d v → Rep K cA S D v) : EnvOk K cA S (env.set i (some D)) σ := ⟨by simp [eo.1], fun j e hj => by
  by_cases hji : i = j
  · subst hji
    rw [List.getElem?_set_self (List.getElem?_eq_some_iff.mp h).1] at hj
    cases hj
    obtain ⟨v, e1, e2⟩ := eo.2 i d h
    exact ⟨v, e1, hd v e2⟩
  · rw [List.getElem?_set_ne hji] at hj
    exact eo.2 j e hj⟩
end
theorem sFrz_cases (i : Nat) (env : Env) (sto : Sto) : sFrz i env sto = .stuck ∨ (∃ n ds, env[i]? = some (some (.loc n)) ∧ sto[n]? = some (.lst ds) ∧ sFrz i env sto = .nx (env.set i (some (.lst ds))) (sto.set n .dead)) ∨ ∃ n ks ds, env[i]? = some (some (.loc n)) ∧ sto[n]? = some (.dT ks ds) ∧ sFrz i env sto = .nx (env.set i (some (.dic ks ds))) (sto.set n .dead) := by
  unfold sFrz
  split
  · rename_i n e0
    split
    · rename_i ds e1
      by_cases hl : noLocL ds = true
      · rw [if_pos hl]; exact .inr (.inl ⟨n, ds, e0, e1, rfl⟩)
      · rw [if_neg hl]; exact .inl rfl
    · rename_i ks ds e1
      by_cases hl : noLocL ds = true
      · rw [if_pos hl]; exact .inr (.inr ⟨n, ks, ds, e0, e1, rfl⟩)
      · rw [if_neg hl]; exact .inl rfl
    · exact .inl rfl
  · exact .inl rfl
theorem gs_frz {X : Cx} {cA : Nat → Addr} {Z : Nat → L2.St → Hp → Prop} {rest : List Stmt} {m : SM} (i : Nat) (h : GSs X cA Z rest m) : GSs X cA Z rest (sSeq (sFrz i) m) := fun S σ env sto ok eo D p => by
  unfold sSeq at p
  rcases sFrz_cases i env sto with e | ⟨n, ds, e0, e1, e⟩ | ⟨n, ks, ds, e0, e1, e⟩
  · rw [e] at p; exact p.elim
  · rw [e] at p
    have hn := ok.lt e1
    obtain ⟨vs, q1, q2⟩ := ok.ob n _ e1
    have g := Grow.chill ok hn
    refine h (S.chill n) σ _ _ (ok.chill hn (.inl ⟨vs, q1⟩)) ((eo.grow ok g).retell e0 fun v r => ?_) D (p.grow g)
    obtain ⟨_, rfl⟩ := r
    exact ⟨S.r n, vs, rfl, .inr rfl, q1, RepL.grow q2 ok g⟩
  · rw [e] at p
    have hn := ok.lt e1
    obtain ⟨kvs, q1, q2, q3, _⟩ := ok.ob n _ e1
    have g := Grow.chill ok hn
    refine h (S.chill n) σ _ _ (ok.chill hn (.inr (.inl ⟨kvs, q1⟩))) ((eo.grow ok g).retell e0 fun v r => ?_) D (p.grow g)
    obtain ⟨_, rfl⟩ := r
    exact ⟨S.r n, kvs, rfl, .inr rfl, q1, q2, RepL.grow q3 ok g⟩
end BB
/-! Runs of loops and comprehensions as functions on lists. -/
namespace BB
open PySem L2
@[simp] theorem startE_eq (N : List Str) (ds : List DV) : startE N ds = ds.map some ++ List.replicate (N.length - ds.length) none := rfl
@[simp] theorem wipeE_nil (env : Env) : wipeE env [] = env := rfl
@[simp] theorem wipeE_cons (env : Env) (v : Nat) (vs : List Nat) : wipeE env (v :: vs) = (wipeE env vs).set v none := rfl

/-! ### loops -/
def runL (p : Pat) (ws : List Nat) (body : SM) : List DV → Env → Sto → Out
  | [], env, sto => .nx env sto
  | d :: ds, env, sto => match bindP p d env with
    | some env1 => match body env1 sto with
      | .nx e s => runL p ws body ds (wipeE e ws) s
      | .ct e s => runL p ws body ds (wipeE e ws) s
      | .bk e s => .nx e s
      | o => o
    | none => .stuck
theorem loopM_fix (xs : List DV) (p : Pat) (ws : List Nat) (body : SM) : ∀ (f i : Nat) (env : Env) (sto : Sto), xs.length ≤ f + i → loopM (.fix xs) p ws body f i env sto = runL p ws body (xs.drop i) env sto
  | 0, i, env, sto, h => by
    have e : xs[i]? = none := List.getElem?_eq_none_iff.mpr (by omega)
    rw [List.drop_of_length_le (by omega)]
    simp [loopM, Src.view, e, runL]
  | f + 1, i, env, sto, h => by
    cases e : xs[i]? with
    | none =>
      rw [List.drop_of_length_le (List.getElem?_eq_none_iff.mp e)]
      simp [loopM, Src.view, e, runL]
    | some d =>
      have hl := (List.getElem?_eq_some_iff.mp e).1
      have hd : xs.drop i = d :: xs.drop (i + 1) := by
        rw [List.drop_eq_getElem_cons hl]
        rw [(List.getElem?_eq_some_iff.mp e).2]
      rw [hd]
      simp only [loopM, Src.view, e, runL]
      cases bindP p d env with
      | none => rfl
      | some env1 =>
        simp only
        cases body env1 sto <;> simp only [loopM_fix xs p ws body f (i + 1) _ _ (by omega)]
theorem sFor_fix {it : IM} {p : Pat} {ws : List Nat} {body : SM} {env : Env} {sto s : Sto} {xs : List DV} (h : it env sto = .ok (.fix xs) s) : sFor it p ws body env sto = runL p ws body xs (wipeE env ws) s := by
  unfold sFor
  rw [h]
  simp only [Res.out_ok]
  rw [loopM_fix xs p ws body _ _ _ _ (by simp [Src.len, Src.view])]
  rfl
/-- a loop whose state is a -/
theorem runL_fold {α β : Type} {p : Pat} {ws : List Nat} {body : SM} {enc : β → DV} {E : α → Env} {St : α → Sto} {step : α → β → α} (I : α → Prop) : ∀ (ys : List β) (a : α), I a →
    (∀ a, I a → ∀ y ∈ ys, I (step a y) ∧ ∃ e1, bindP p (enc y) (E a) = some e1 ∧ ∃ e2, body e1 (St a) = .nx e2 (St (step a y)) ∧ wipeE e2 ws = E (step a y)) →
    runL p ws body (ys.map enc) (E a) (St a) = .nx (E (ys.foldl step a)) (St (ys.foldl step a)) ∧ I (ys.foldl step a)
  | [], a, ha, _ => ⟨rfl, ha⟩
  | y :: ys, a, ha, h => by
    obtain ⟨h1, e1, h2, e2, h3, h4⟩ := h a ha y (by simp)
    simp only [List.map_cons, runL, h2, h3, h4, List.foldl_cons]
    exact runL_fold I ys (step a y) h1 fun a' ha' y' hy' => h a' ha' y' (by simp [hy'])
/-- a loop by an invariant over what is done -/
theorem runL_inv_aux {β : Type} {p : Pat} {ws : List Nat} {body : SM} {enc : β → DV} {xs : List β} (I : List β → Env → Sto → Prop)
    (hs : ∀ done y rest env sto, xs = done ++ y :: rest → I done env sto → ∃ e1, bindP p (enc y) env = some e1 ∧ ∃ e2 s2, body e1 sto = .nx e2 s2 ∧ I (done ++ [y]) (wipeE e2 ws) s2) :
    ∀ (ys done : List β) (env : Env) (sto : Sto), xs = done ++ ys → I done env sto → ∃ e s, runL p ws body (ys.map enc) env sto = .nx e s ∧ I xs e s
  | [], done, env, sto, hx, h => ⟨env, sto, rfl, by rw [hx]; simpa using h⟩
  | y :: ys, done, env, sto, hx, h => by
    obtain ⟨e1, h1, e2, s2, h2, h3⟩ := hs done y ys env sto hx h
    obtain ⟨e, s, h4, h5⟩ := runL_inv_aux I hs ys (done ++ [y]) (wipeE e2 ws) s2 (by simp [hx]) h3
    refine ⟨e, s, ?_, h5⟩
    simp only [List.map_cons, runL, h1, h2]
    exact h4
theorem runL_inv {β : Type} {p : Pat} {ws : List Nat} {body : SM} {enc : β → DV} {xs : List β} {env : Env} {sto : Sto} (I : List β → Env → Sto → Prop) (h0 : I [] env sto)
    (hs : ∀ done y rest env sto, xs = done ++ y :: rest → I done env sto → ∃ e1, bindP p (enc y) env = some e1 ∧ ∃ e2 s2, body e1 sto = .nx e2 s2 ∧ I (done ++ [y]) (wipeE e2 ws) s2) :
    ∃ e s, runL p ws body (xs.map enc) env sto = .nx e s ∧ I xs e s := runL_inv_aux I hs xs [] env sto (by simp) h0

/-! ### comprehensions -/
def compL (p : Pat) (test : TM) (elt : EM) (env : Env) : List DV → List DV → Sto → Res (List DV)
  | [], acc, sto => .ok acc sto
  | d :: ds, acc, sto => match bindP p d env with
    | some env1 => match test env1 sto with
      | .ok true s1 => match elt env1 s1 with
        | .ok y s2 => if acc.length < 1000000 then compL p test elt env ds (acc ++ [y]) s2 else .stuck
        | _ => .stuck
      | .ok false s1 => compL p test elt env ds acc s1
      | _ => .stuck
    | none => .stuck
theorem compM_fix (xs : List DV) (p : Pat) (test : TM) (elt : EM) (env : Env) : ∀ (f i : Nat) (acc : List DV) (sto : Sto), xs.length ≤ f + i → compM (.fix xs) p test elt env f i acc sto = compL p test elt env (xs.drop i) acc sto
  | 0, i, acc, sto, h => by
    have e : xs[i]? = none := List.getElem?_eq_none_iff.mpr (by omega)
    rw [List.drop_of_length_le (by omega)]
    simp [compM, Src.view, e, compL]
  | f + 1, i, acc, sto, h => by
    cases e : xs[i]? with
    | none =>
      rw [List.drop_of_length_le (List.getElem?_eq_none_iff.mp e)]
      simp [compM, Src.view, e, compL]
    | some d =>
      have hl := (List.getElem?_eq_some_iff.mp e).1
      have hd : xs.drop i = d :: xs.drop (i + 1) := by
        rw [List.drop_eq_getElem_cons hl]
        rw [(List.getElem?_eq_some_iff.mp e).2]
      rw [hd]
      simp only [compM, Src.view, e, compL]
      cases bindP p d env with
      | none => rfl
      | some env1 =>
        simp only
        cases test env1 sto with
        | stuck => rfl
        | exc c s => rfl
        | ok b s1 =>
          cases b with
          | false => simp only [compM_fix xs p test elt env f (i + 1) _ _ (by omega)]
          | true =>
            simp only
            cases elt env1 s1 with
            | stuck => rfl
            | exc c s => rfl
            | ok y s2 => simp only [compM_fix xs p test elt env f (i + 1) _ _ (by omega)]
theorem eComp_fix {b : Bool} {own : List Nat} {it : IM} {p : Pat} {test : TM} {elt : EM} {env : Env} {sto s : Sto} {xs : List DV} (h : it env sto = .ok (.fix xs) s) : eComp b own it p test elt env sto = (compL p test elt (wipeE env own) xs [] s).bind fun ds s2 => newL b ds s2 := by
  unfold eComp
  rw [h]
  simp only [Res.bind_ok]
  rw [compM_fix xs p test elt _ _ _ _ _ (by simp [Src.len, Src.view])]
  rfl
theorem compL_map {β : Type} {p : Pat} {test : TM} {elt : EM} {env : Env} {enc : β → DV} {b : β → Bool} {Y : β → DV} {sto : Sto} : ∀ (ys : List β) (acc : List DV), acc.length + ys.length ≤ 1000000 →
    (∀ y ∈ ys, ∃ e1, bindP p (enc y) env = some e1 ∧ test e1 sto = .ok (b y) sto ∧ (b y = true → elt e1 sto = .ok (Y y) sto)) →
    compL p test elt env (ys.map enc) acc sto = .ok (acc ++ (ys.filter b).map Y) sto
  | [], acc, _, _ => by simp [compL]
  | y :: ys, acc, hl, h => by
    obtain ⟨e1, h1, h2, h3⟩ := h y (by simp)
    simp only [List.length_cons] at hl
    simp only [List.map_cons, compL, h1, h2]
    cases hb : b y with
    | false =>
      simp only [hb, Bool.false_eq_true, not_false_eq_true, List.filter_cons_of_neg]
      exact compL_map ys acc (by omega) fun y' hy => h y' (by simp [hy])
    | true =>
      simp only [h3 hb, hb, List.filter_cons_of_pos, List.map_cons]
      rw [if_pos (by omega), compL_map ys (acc ++ [Y y]) (by simp; omega) fun y' hy => h y' (by simp [hy])]
      simp
/-- a comprehension without tests, over mapped items -/
theorem comp_map {β : Type} {bb : Bool} {own : List Nat} {it : IM} {p : Pat} {elt : EM} {env : Env} {enc : β → DV} {Y : β → DV} {sto s : Sto} {ys : List β} (hi : it env sto = .ok (.fix (ys.map enc)) s) (hl : ys.length ≤ 1000000)
    (h : ∀ y ∈ ys, ∃ e1, bindP p (enc y) (wipeE env own) = some e1 ∧ elt e1 s = .ok (Y y) s) : eComp bb own it p tYes1 elt env sto = newL bb (ys.map Y) s := by
  rw [eComp_fix hi, compL_map (b := fun _ => true) (Y := Y) ys [] (by simpa using hl) fun y hy => by
    obtain ⟨e1, h1, h2⟩ := h y hy
    exact ⟨e1, h1, rfl, fun _ => h2⟩]
  have e : ys.filter (fun _ => true) = ys := List.filter_eq_self.mpr (by simp)
  simp [e]
theorem comp_filter {β : Type} {bb : Bool} {own : List Nat} {it : IM} {p : Pat} {test : TM} {elt : EM} {env : Env} {enc : β → DV} {b : β → Bool} {Y : β → DV} {sto s : Sto} {ys : List β} (hi : it env sto = .ok (.fix (ys.map enc)) s) (hl : ys.length ≤ 1000000)
    (h : ∀ y ∈ ys, ∃ e1, bindP p (enc y) (wipeE env own) = some e1 ∧ test e1 s = .ok (b y) s ∧ (b y = true → elt e1 s = .ok (Y y) s)) : eComp bb own it p test elt env sto = newL bb ((ys.filter b).map Y) s := by
  rw [eComp_fix hi, compL_map (b := b) (Y := Y) ys [] (by simpa using hl) h]
  simp
@[simp] theorem noLocL_nil : noLocL [] = true := by rw [noLocL]
@[simp] theorem noLocL_cons (d : DV) (ds : List DV) : noLocL (d :: ds) = (noLoc d && noLocL ds) := by rw [noLocL]
@[simp] theorem noLoc_int (i : Int) : noLoc (.int i) = true := by simp [noLoc]
@[simp] theorem noLoc_bl (i : Bool) : noLoc (.bl i) = true := by simp [noLoc]
@[simp] theorem noLoc_scr (i : List Int) : noLoc (.scr i) = true := by simp [noLoc]
@[simp] theorem noLoc_tup (ds : List DV) : noLoc (.tup ds) = noLocL ds := by rw [noLoc]
@[simp] theorem noLoc_lst (ds : List DV) : noLoc (.lst ds) = noLocL ds := by rw [noLoc]
@[simp] theorem noLoc_dic (ks : List (List Key)) (ds : List DV) : noLoc (.dic ks ds) = noLocL ds := by rw [noLoc]
@[simp] theorem noLocL_ints (ns : List Int) : noLocL (ns.map DV.int) = true := noLocL_map (fun _ => by simp) ns
mutual
theorem frzW_id (look : Nat → Option DV) : ∀ d : DV, noLoc d = true → frzW look d = some d
  | .non, _ => by simp [frzW]
  | .bl b, _ => by simp [frzW]
  | .int i, _ => by simp [frzW]
  | .str x, _ => by simp [frzW]
  | .ty x, _ => by simp [frzW]
  | .cls x, _ => by simp [frzW]
  | .scr x, _ => by simp [frzW]
  | .tup ds, h => by simp [frzW, frzWL_id look ds (by simpa using h)]
  | .lst ds, h => by simp [frzW, frzWL_id look ds (by simpa using h)]
  | .dic ks ds, h => by simp [frzW, frzWL_id look ds (by simpa using h)]
  | .ins c ns ds, h => by simp [frzW, frzWL_id look ds (by simpa [noLoc] using h)]
  | .loc n, h => by simp [noLoc] at h
theorem frzWL_id (look : Nat → Option DV) : ∀ ds : List DV, noLocL ds = true → frzWL look ds = some ds
  | [], _ => by simp [frzWL]
  | d :: ds, h => by
    simp only [noLocL_cons, Bool.and_eq_true] at h
    simp [frzWL, frzW_id look d h.1, frzWL_id look ds h.2]
end
theorem frz_id {sto : Sto} {d : DV} (h : noLoc d = true) : frz sto d = some d := frzW_id _ d h
/-- a body's end -/
theorem runP_rt {n : Nat} {N : List Str} {m : SM} {ds : List DV} {d : DV} {sto : Sto} (hl : ds.length = n) (h : m (startE N ds) [] = .rt d sto) (hd : noLoc d = true) : runP n N m ds = .ok d := by
  unfold runP
  rw [if_pos hl, h]
  simp [endsP, frz_id hd]
theorem runP_frz {n : Nat} {N : List Str} {m : SM} {ds : List DV} {d D : DV} {sto : Sto} (hl : ds.length = n) (h : m (startE N ds) [] = .rt d sto) (hd : frz sto d = some D) : runP n N m ds = .ok D := by
  unfold runP
  rw [if_pos hl, h]
  simp [endsP, hd]
theorem runP_nx {n : Nat} {N : List Str} {m : SM} {ds : List DV} {e : Env} {sto : Sto} (hl : ds.length = n) (h : m (startE N ds) [] = .nx e sto) : runP n N m ds = .ok .non := by
  unfold runP
  rw [if_pos hl, h]
  simp [endsP]

theorem shaped_int (k : Int) : SeqAt.shaped (.int k) = true := by simp [SeqAt.shaped, PyData.canLay0, PyData.depth]
@[simp] theorem oEq_int (i j : Int) (sto : Sto) : oEq (.int i) (.int j) sto = .ok (.bl (decide (i = j))) sto := by
  simp only [oEq, py, pyW, shaped_int, and_self, if_true, PyData.eqv]
  congr
@[simp] theorem oNe_int (i j : Int) (sto : Sto) : oNe (.int i) (.int j) sto = .ok (.bl (!decide (i = j))) sto := by
  simp only [oNe, py, pyW, shaped_int, and_self, if_true, PyData.eqv]
  congr

section
variable {a b : SM} {p : Pat} {m ma mb : EM} {t : AM} {tt : TM} {env e : Env} {sto s s1 s2 : Sto} {d x y : DV} {ds : List DV} {f : DV → DV → Sto → Res DV} {g : List DV → Sto → Res DV}
theorem sSeq_nx (h : a env sto = .nx e s) : sSeq a b env sto = b e s := by simp [sSeq, h]
theorem sSeq_rt (h : a env sto = .rt d s) : sSeq a b env sto = .rt d s := by simp [sSeq, h]
theorem sAsg_ok (h : m env sto = .ok d s) (hb : bindP p d env = some e) : sAsg p m env sto = .nx e s := by simp [sAsg, h, hb]
theorem sExpr_ok (h : m env sto = .ok d s) : sExpr m env sto = .nx env s := by simp [sExpr, h]
theorem sRet_ok (h : m env sto = .ok d s) : sRet m env sto = .rt d s := by simp [sRet, h]
theorem sIf_ok {c : Bool} (h : tt env sto = .ok c s) : sIf tt a b env sto = if c = true then a env s else b env s := by simp [sIf, h]
theorem eOp_ok (ha : ma env sto = .ok x s1) (hb : mb env s1 = .ok y s2) : eOp f ma mb env sto = f x y s2 := by simp [eOp, ha, hb]
theorem eCB_ok (h : t env sto = .ok ds s) : eCB g t env sto = g ds s := by simp [eCB, h]
theorem aCons_ok (h : m env sto = .ok d s1) (ht : t env s1 = .ok ds s2) : aCons m t env sto = .ok (d :: ds) s2 := by simp [aCons, h, ht]
theorem a1_ok (h : m env sto = .ok d s1) : aCons m aNil env sto = .ok [d] s1 := by simp [aCons, aNil, h]
theorem eCall_ok {G : List DV → PR} {D : DV} (h : t env sto = .ok ds s) (hn : noLocL ds = true) (hG : G ds = .ok D) : eCall G t env sto = .ok D s := by simp [eCall, h, hn, hG]
theorem iSeq_lst (h : m env sto = .ok (.lst ds) s) : iSeq m env sto = .ok (.fix ds) s := by simp [iSeq, h, srcOf]
theorem iSeq_tup (h : m env sto = .ok (.tup ds) s) : iSeq m env sto = .ok (.fix ds) s := by simp [iSeq, h, srcOf]
theorem sAug_ok {i : Nat} {z : DV} (hx : env[i]? = some (some x)) (h : m env sto = .ok y s1) (hf : f x y s1 = .ok z s2) : sAug i f m env sto = .nx (env.set i (some z)) s2 := by simp [sAug, hx, h, hf]
end

/-- a loop that makes a list longer -/
theorem runL_ext {β : Type} {p : Pat} {ws : List Nat} {body : SM} {enc : β → DV} {E : Env} {St : List DV → Sto} {f : β → List DV} {n M : Nat} : ∀ (ys : List β) (acc : List DV), (∀ y ∈ ys, (f y).length ≤ n) → acc.length + ys.length * n ≤ M →
    (∀ acc y, y ∈ ys → acc.length + n ≤ M → ∃ e1, bindP p (enc y) E = some e1 ∧ ∃ e2, body e1 (St acc) = .nx e2 (St (acc ++ f y)) ∧ wipeE e2 ws = E) →
    runL p ws body (ys.map enc) E (St acc) = .nx E (St (acc ++ ys.flatMap f))
  | [], acc, _, _, _ => by simp [runL]
  | y :: ys, acc, hn, hM, h => by
    simp only [List.length_cons, Nat.add_mul, Nat.one_mul] at hM
    obtain ⟨e1, h1, e2, h2, h3⟩ := h acc y (by simp) (by omega)
    have hy := hn y (by simp)
    simp only [List.map_cons, runL, h1, h2, h3]
    rw [runL_ext ys (acc ++ f y) (fun z hz => hn z (by simp [hz])) (by simp; omega) fun a z hz => h a z (by simp [hz])]
    simp
theorem flatMap_len {α β : Type} {f : α → List β} {n : Nat} : ∀ {xs : List α}, (∀ x ∈ xs, (f x).length ≤ n) → (xs.flatMap f).length ≤ xs.length * n
  | [], _ => by simp
  | x :: xs, h => by
    simp only [List.flatMap_cons, List.length_append, List.length_cons, Nat.add_mul, Nat.one_mul]
    have := h x (by simp)
    have := flatMap_len (xs := xs) fun y hy => h y (by simp [hy])
    omega
theorem wipeE_idem {E : Env} : ∀ {ws : List Nat}, (∀ w ∈ ws, E[w]? = some none ∨ E[w]? = none) → wipeE E ws = E
  | [], _ => rfl
  | w :: ws, h => by
    simp only [wipeE_cons]
    rw [wipeE_idem fun v hv => h v (by simp [hv])]
    apply List.ext_getElem?
    intro i
    by_cases e : w = i
    · subst e
      rcases h w (by simp) with q | q
      · rw [q, List.getElem?_set_self (List.getElem?_eq_some_iff.mp q).1]
      · rw [q, List.getElem?_eq_none (by simpa using List.getElem?_eq_none_iff.mp q)]
    · rw [List.getElem?_set_ne e]
end BB
namespace BB
open PySem PySem.Spec PyProof.Rows L2
abbrev N_whole_of : List Str := ["bar"]
def m_whole_of : SM :=
  (sRet (eTup (aCons (eC (.int 0)) (aCons (eC (.int 0)) (aCons (eOp (oAdd false) (eCB fLen (aCons (eIx (eVar 0) (eC (.int 0))) aNil)) (eC (.int 1))) (aCons (eOp (oAdd false) (eCB fLen (aCons (eIx (eVar 0) (eC (.int 1))) aNil)) (eC (.int 1))) aNil))))))
def G_whole_of : List DV → PR := runP 1 N_whole_of m_whole_of
abbrev N_pieces_of : List Str := ["bar", "left", "top", "right", "bottom", "found", "one", "row", "other", "last"]
def m_pieces_of : SM :=
  (sSeq (sAsg (.tp [(.nm 1), (.nm 2), (.nm 3), (.nm 4)]) (eCall G_whole_of (aCons (eVar 0) aNil)))
    (sSeq (sAsg (.nm 5) (eLst true aNil))
    (sSeq (sFor (iRange1 (aCons (eVar 3) aNil)) (.nm 6) [6, 7, 8] (sFor (iRange1 (aCons (eVar 4) aNil)) (.nm 7) [7, 8] (sFor (iRange2 (aCons (eOp (oAdd false) (eVar 6) (eC (.int 1))) (aCons (eOp (oAdd false) (eVar 3) (eC (.int 1))) aNil))) (.nm 8) [8] (sExpr (eBM mExtend (eVar 5) (aCons (eComp false [9] (iRange2 (aCons (eOp (oAdd false) (eVar 7) (eC (.int 1))) (aCons (eOp (oAdd false) (eVar 4) (eC (.int 1))) aNil))) (.nm 9) tYes1 (eTup (aCons (eVar 6) (aCons (eVar 7) (aCons (eVar 8) (aCons (eVar 9) aNil)))))) aNil))))))
    (sRet (eVar 5)))))
def G_pieces_of : List DV → PR := runP 1 N_pieces_of m_pieces_of
abbrev N_nuts_in : List Str := ["bar", "piece", "nut"]
def m_nuts_in : SM :=
  (sRet (eCB fLen (aCons (eComp false [2] (iSeq (eIx (eVar 0) (eC (.int 2)))) (.nm 2) (tAnd (tBl (eChain oLe oLt (eIx (eVar 1) (eC (.int 0))) (eIx (eVar 2) (eC (.int 0))) (eIx (eVar 1) (eC (.int 2))))) (tBl (eChain oLe oLt (eIx (eVar 1) (eC (.int 1))) (eIx (eVar 2) (eC (.int 1))) (eIx (eVar 1) (eC (.int 3)))))) (eVar 2)) aNil)))
def G_nuts_in : List DV → PR := runP 2 N_nuts_in m_nuts_in
abbrev N_lines_in : List Str := ["piece", "found", "line"]
def m_lines_in : SM :=
  (sSeq (sAsg (.nm 1) (eComp false [2] (iRange2 (aCons (eOp (oAdd false) (eIx (eVar 0) (eC (.int 0))) (eC (.int 1))) (aCons (eIx (eVar 0) (eC (.int 2))) aNil))) (.nm 2) tYes1 (eTup (aCons (eC (.int 0)) (aCons (eVar 2) aNil)))))
    (sRet (eOp (oAdd false) (eVar 1) (eComp false [2] (iRange2 (aCons (eOp (oAdd false) (eIx (eVar 0) (eC (.int 1))) (eC (.int 1))) (aCons (eIx (eVar 0) (eC (.int 3))) aNil))) (.nm 2) tYes1 (eTup (aCons (eC (.int 1)) (aCons (eVar 2) aNil)))))))
def G_lines_in : List DV → PR := runP 1 N_lines_in m_lines_in
abbrev N_price_of : List Str := ["bar", "way", "line"]
def m_price_of : SM :=
  (sRet (eIx (eIx (eVar 0) (eVar 1)) (eOp oSub (eVar 2) (eC (.int 1)))))
def G_price_of : List DV → PR := runP 3 N_price_of m_price_of
abbrev N_parts_of : List Str := ["piece", "way", "line", "left", "top", "right", "bottom"]
def m_parts_of : SM :=
  (sSeq (sAsg (.tp [(.nm 3), (.nm 4), (.nm 5), (.nm 6)]) (eVar 0))
    (sSeq (sIf (tBl (eOp oEq (eVar 1) (eC (.int 0)))) (sRet (eTup (aCons (eTup (aCons (eVar 3) (aCons (eVar 4) (aCons (eVar 2) (aCons (eVar 6) aNil))))) (aCons (eTup (aCons (eVar 2) (aCons (eVar 4) (aCons (eVar 5) (aCons (eVar 6) aNil))))) aNil)))) sNil)
    (sRet (eTup (aCons (eTup (aCons (eVar 3) (aCons (eVar 4) (aCons (eVar 5) (aCons (eVar 2) aNil))))) (aCons (eTup (aCons (eVar 3) (aCons (eVar 2) (aCons (eVar 5) (aCons (eVar 6) aNil))))) aNil))))))
def G_parts_of : List DV → PR := runP 3 N_parts_of m_parts_of
abbrev N_size_of : List Str := ["piece"]
def m_size_of : SM :=
  (sRet (eOp (oMul false) (eOp oSub (eIx (eVar 0) (eC (.int 2))) (eIx (eVar 0) (eC (.int 0)))) (eOp oSub (eIx (eVar 0) (eC (.int 3))) (eIx (eVar 0) (eC (.int 1))))))
def G_size_of : List DV → PR := runP 1 N_size_of m_size_of
abbrev N_by_size : List Str := ["bar", "size", "piece"]
def m_by_size : SM :=
  (sRet (eComp false [1, 2] (iSeq (eCB (fSorted false) (aCons (eComp false [2] (iSeq (eCall G_pieces_of (aCons (eVar 0) aNil))) (.nm 2) tYes1 (eTup (aCons (eCall G_size_of (aCons (eVar 2) aNil)) (aCons (eVar 2) aNil)))) aNil))) (.tp [(.nm 1), (.nm 2)]) tYes1 (eVar 2)))
def G_by_size : List DV → PR := runP 1 N_by_size m_by_size
abbrev N_costs_of : List Str := ["bar", "most", "costs", "ways", "piece", "best", "many", "way", "line", "one", "other", "cost"]
def m_costs_of : SM :=
  (sSeq (sPar 2 3 (aCons eDicT (aCons eDicT aNil)))
    (sSeq (sFor (iSeq (eCall G_by_size (aCons (eVar 0) aNil))) (.nm 4) [4, 5, 6, 7, 8, 9, 10, 11] (sSeq (sPutT [((eVar 2), (eVar 4)), ((eVar 3), (eVar 4))] (eTup (aCons (eC (.int 0)) (aCons (eC (.int 1)) aNil))))
    (sIf (tBl (eOp oGt (eCall G_nuts_in (aCons (eVar 0) (aCons (eVar 4) aNil))) (eVar 1))) (sSeq (sAsg (.tp [(.nm 5), (.nm 6)]) (eTup (aCons (eUn uNeg (eC (.int 1))) (aCons (eC (.int 0)) aNil))))
    (sSeq (sFor (iSeq (eCall G_lines_in (aCons (eVar 4) aNil))) (.tp [(.nm 7), (.nm 8)]) [7, 8, 9, 10, 11] (sSeq (sAsg (.tp [(.nm 9), (.nm 10)]) (eCall G_parts_of (aCons (eVar 4) (aCons (eVar 7) (aCons (eVar 8) aNil)))))
    (sSeq (sAsg (.nm 11) (eOp (oAdd false) (eOp (oAdd false) (eCall G_price_of (aCons (eVar 0) (aCons (eVar 7) (aCons (eVar 8) aNil)))) (eIx (eVar 2) (eVar 9))) (eIx (eVar 2) (eVar 10))))
    (sSeq (sIf (tOr (tBl (eOp oLt (eVar 5) (eC (.int 0)))) (tBl (eOp oLt (eVar 11) (eVar 5)))) (sPar 5 6 (aCons (eVar 11) (aCons (eC (.int 0)) aNil))) sNil)
    (sIf (tBl (eOp oEq (eVar 11) (eVar 5))) (sAug 6 oAddI (eOp (oMul false) (eIx (eVar 3) (eVar 9)) (eIx (eVar 3) (eVar 10)))) sNil)))))
    (sPutT [((eVar 2), (eVar 4)), ((eVar 3), (eVar 4))] (eTup (aCons (eVar 5) (aCons (eVar 6) aNil)))))) sNil)))
    (sRet (eTup (aCons (eVar 2) (aCons (eVar 3) aNil))))))
def G_costs_of : List DV → PR := runP 2 N_costs_of m_costs_of
abbrev N_is_whole : List Str := ["thing"]
def m_is_whole : SM :=
  (sRet (eAnd (eCB fIsi (aCons (eVar 0) (aCons (eC (.ty "int")) aNil))) (eNot (eCB fIsi (aCons (eVar 0) (aCons (eC (.ty "bool")) aNil))))))
def G_is_whole : List DV → PR := runP 1 N_is_whole m_is_whole
abbrev N_is_between : List Str := ["thing", "least", "most"]
def m_is_between : SM :=
  (sRet (eAnd (eCall G_is_whole (aCons (eVar 0) aNil)) (eChain oLe oLe (eVar 1) (eVar 0) (eVar 2))))
def G_is_between : List DV → PR := runP 3 N_is_between m_is_between
abbrev N_are_prices : List Str := ["thing", "price"]
def m_are_prices : SM :=
  (sSeq (sIf (tOr (tNot (tBl (eCB fIsi (aCons (eVar 0) (aCons (eC (.ty "list")) aNil))))) (tBl (eOp oGt (eCB fLen (aCons (eVar 0) aNil)) (eC (.int 4))))) (sRet (eC (.bl false))) sNil)
    (sRet (eCB fAll (aCons (eComp false [1] (iSeq (eVar 0)) (.nm 1) tYes1 (eCall G_is_between (aCons (eVar 1) (aCons (eC (.int 1)) (aCons (eC (.int 9)) aNil))))) aNil))))
def G_are_prices : List DV → PR := runP 1 N_are_prices m_are_prices
abbrev N_is_cell : List Str := ["thing", "wide", "high"]
def m_is_cell : SM :=
  (sSeq (sIf (tOr (tNot (tBl (eCB fIsi (aCons (eVar 0) (aCons (eC (.ty "tuple")) aNil))))) (tBl (eOp oNe (eCB fLen (aCons (eVar 0) aNil)) (eC (.int 2))))) (sRet (eC (.bl false))) sNil)
    (sRet (eAnd (eCall G_is_between (aCons (eIx (eVar 0) (eC (.int 0))) (aCons (eC (.int 0)) (aCons (eVar 1) aNil)))) (eCall G_is_between (aCons (eIx (eVar 0) (eC (.int 1))) (aCons (eC (.int 0)) (aCons (eVar 2) aNil)))))))
def G_is_cell : List DV → PR := runP 3 N_is_cell m_is_cell
abbrev N_check_bar : List Str := ["bar", "one", "other", "nut"]
def m_check_bar : SM :=
  (sSeq (sIf (tOr (tNot (tBl (eCB fIsi (aCons (eVar 0) (aCons (eC (.ty "tuple")) aNil))))) (tOr (tBl (eOp oNe (eCB fLen (aCons (eVar 0) aNil)) (eC (.int 3)))) (tOr (tNot (tBl (eCall G_are_prices (aCons (eIx (eVar 0) (eC (.int 0))) aNil)))) (tNot (tBl (eCall G_are_prices (aCons (eIx (eVar 0) (eC (.int 1))) aNil))))))) sNever sNil)
    (sSeq (sIf (tOr (tNot (tBl (eCB fIsi (aCons (eIx (eVar 0) (eC (.int 2))) (aCons (eC (.ty "list")) aNil))))) (tNot (tBl (eCB fAll (aCons (eComp false [3] (iSeq (eIx (eVar 0) (eC (.int 2)))) (.nm 3) tYes1 (eCall G_is_cell (aCons (eVar 3) (aCons (eCB fLen (aCons (eIx (eVar 0) (eC (.int 0))) aNil)) (aCons (eCB fLen (aCons (eIx (eVar 0) (eC (.int 1))) aNil)) aNil))))) aNil))))) sNever sNil)
    (sIf (tBl (eCB fAny (aCons (eComp false [1, 2] (iZip (aCons (eIx (eVar 0) (eC (.int 2))) (aCons (eSl false (eIx (eVar 0) (eC (.int 2))) (pSome (eC (.int 1))) pNone) aNil))) (.tp [(.nm 1), (.nm 2)]) tYes1 (eOp oGe (eVar 1) (eVar 2))) aNil))) sNever sNil)))
def G_check_bar : List DV → PR := runP 1 N_check_bar m_check_bar
abbrev N_check_both : List Str := ["bar", "most"]
def m_check_both : SM :=
  (sSeq (sExpr (eCall G_check_bar (aCons (eVar 0) aNil)))
    (sIf (tNot (tBl (eCall G_is_between (aCons (eVar 1) (aCons (eC (.int 1)) (aCons (eC (.int 3)) aNil)))))) sNever sNil))
def G_check_both : List DV → PR := runP 2 N_check_both m_check_both
abbrev N_cost : List Str := ["bar", "most"]
def m_cost : SM :=
  (sSeq (sExpr (eCall G_check_both (aCons (eVar 0) (aCons (eVar 1) aNil))))
    (sRet (eIx (eIx (eCall G_costs_of (aCons (eVar 0) (aCons (eVar 1) aNil))) (eC (.int 0))) (eCall G_whole_of (aCons (eVar 0) aNil)))))
def G_cost : List DV → PR := runP 2 N_cost m_cost
abbrev N_apart : List Str := ["bar", "found", "price", "other"]
def m_apart : SM :=
  (sSeq (sExpr (eCall G_check_bar (aCons (eVar 0) aNil)))
    (sSeq (sAsg (.nm 1) (eOp (oAdd false) (eCB fSum (aCons (eIx (eVar 0) (eC (.int 0))) aNil)) (eCB fSum (aCons (eIx (eVar 0) (eC (.int 1))) aNil))))
    (sSeq (sFor (iSeq (eIx (eVar 0) (eC (.int 0)))) (.nm 2) [2] (sAug 1 oAddI (eCB fSum (aCons (eComp false [3] (iSeq (eIx (eVar 0) (eC (.int 1)))) (.nm 3) tYes1 (eCB fMin (aCons (eVar 2) (aCons (eVar 3) aNil)))) aNil))))
    (sRet (eVar 1)))))
def G_apart : List DV → PR := runP 1 N_apart m_apart
abbrev N_how_many : List Str := ["bar", "most"]
def m_how_many : SM :=
  (sSeq (sExpr (eCall G_check_both (aCons (eVar 0) (aCons (eVar 1) aNil))))
    (sRet (eIx (eIx (eCall G_costs_of (aCons (eVar 0) (aCons (eVar 1) aNil))) (eC (.int 1))) (eCall G_whole_of (aCons (eVar 0) aNil)))))
def G_how_many : List DV → PR := runP 2 N_how_many m_how_many
abbrev N__law_number : List Str := ["_law_cell", "_law_at", "_law_whole", "_law_small", "_law_mixed", "_law_more"]
def m__law_number : SM :=
  (sSeq (sIf (tBl (eOp oGe (eVar 0) (eOp oPow (eC (.int 10)) (eC (.int 18))))) (sRet (eVar 0)) sNil)
    (sSeq (sAsg (.nm 3) (eOp oMod (eVar 0) (eC (.int 2147483647))))
    (sSeq (sAsg (.nm 4) (eOp oMod (eOp (oAdd false) (eOp (oMul false) (eOp (oAdd false) (eVar 3) (eOp (oMul false) (eC (.int 977)) (eVar 1))) (eC (.int 48271))) (eOp oMod (eVar 2) (eC (.int 2147483647)))) (eC (.int 2147483647))))
    (sSeq (sAsg (.nm 5) (eOp (oMul false) (eOp (oMul false) (eVar 4) (eOp (oAdd false) (eOp (oAdd false) (eVar 4) (eOp (oMul false) (eC (.int 31)) (eVar 1))) (eC (.int 7)))) (eOp (oAdd false) (eOp (oAdd false) (eVar 4) (eVar 3)) (eC (.int 5)))))
    (sRet (eOp oDiv (eOp (oMul false) (eVar 5) (eOp (oAdd false) (eVar 5) (eC (.int 48271)))) (eC (.int 1009))))))))
def G__law_number : List DV → PR := runP 3 N__law_number m__law_number
abbrev N__law_bar : List Str := ["_law_script", "_law_by", "_law_most", "_law_cells", "_law_whole", "_law_prices", "_law_nuts_here", "_law_far", "_law_columns", "_law_rows", "_law_sort", "_law_kind", "_law_at", "_law_column", "_law_number_here", "_law_row", "_law_drawn"]
def m__law_bar : SM :=
  (sSeq (sAsg (.nm 3) (eIf (tBl (eOp oNe (eVar 0) (eLst false aNil))) (eSl false (eVar 0) pNone (pSome (eC (.int 63)))) (eLst false (aCons (eC (.int 5)) aNil))))
    (sSeq (sPar3 4 5 6 (aCons (eOp (oAdd false) (eCB fSum (aCons (eVar 3) aNil)) (eVar 1)) (aCons (eLst true aNil) (aCons (eLst true aNil) aNil))))
    (sSeq (sAsg (.nm 7) (eCall G__law_number (aCons (eVar 4) (aCons (eOp (oAdd false) (eVar 1) (eC (.int 1))) (aCons (eC (.int 3)) aNil)))))
    (sSeq (sPar 8 9 (aCons (eOp oMod (eOp oDiv (eVar 7) (eC (.int 9))) (eOp (oAdd false) (eVar 2) (eC (.int 1)))) (aCons (eOp oMod (eOp oDiv (eVar 7) (eC (.int 45))) (eOp (oAdd false) (eVar 2) (eC (.int 1)))) aNil)))
    (sSeq (sPar 10 11 (aCons (eOp oMod (eOp oDiv (eVar 7) (eC (.int 225))) (eC (.int 3))) (aCons (eOp oMod (eOp oDiv (eVar 7) (eC (.int 675))) (eC (.int 4))) aNil)))
    (sSeq (sFor (iRange1 (aCons (eOp (oAdd false) (eVar 8) (eVar 9)) aNil)) (.nm 12) [12, 14] (sSeq (sAsg (.nm 14) (eOp oDiv (eCall G__law_number (aCons (eOp (oAdd false) (eIx (eVar 3) (eOp oMod (eOp (oAdd false) (eVar 12) (eVar 1)) (eCB fLen (aCons (eVar 3) aNil)))) (eOp (oMul false) (eC (.int 5)) (eVar 12))) (aCons (eOp (oAdd false) (eVar 12) (eVar 1)) (aCons (eVar 4) aNil)))) (eC (.int 3))))
    (sExpr (eBM mAppend (eVar 5) (aCons (eIx (eTup (aCons (eOp (oAdd false) (eC (.int 1)) (eOp oMod (eVar 14) (eC (.int 9)))) (aCons (eOp (oAdd false) (eC (.int 1)) (eOp oMod (eOp oDiv (eVar 7) (eC (.int 2700))) (eC (.int 9)))) (aCons (eIx (eTup (aCons (eC (.int 1)) (aCons (eC (.int 9)) (aCons (eC (.int 2)) (aCons (eC (.int 2)) aNil))))) (eOp oMod (eVar 14) (eC (.int 4)))) aNil)))) (eVar 10)) aNil)))))
    (sSeq (sFor (iRange1 (aCons (eOp (oAdd false) (eVar 8) (eC (.int 1))) aNil)) (.nm 13) [13, 15, 16] (sFor (iRange1 (aCons (eOp (oAdd false) (eVar 9) (eC (.int 1))) aNil)) (.nm 15) [15, 16] (sSeq (sAsg (.nm 16) (eOp oDiv (eCall G__law_number (aCons (eOp (oAdd false) (eIx (eVar 3) (eOp oMod (eOp (oAdd false) (eVar 13) (eVar 1)) (eCB fLen (aCons (eVar 3) aNil)))) (eOp (oMul false) (eC (.int 104729)) (eVar 15))) (aCons (eOp (oAdd false) (eOp (oMul false) (eC (.int 5)) (eVar 13)) (eVar 15)) (aCons (eVar 4) aNil)))) (eC (.int 27))))
    (sIf (tBl (eIx (eTup (aCons (eOp oGt (eOp oMod (eVar 16) (eC (.int 3))) (eC (.int 0))) (aCons (eOp oEq (eOp oMod (eVar 16) (eC (.int 5))) (eC (.int 0))) (aCons (eC (.bl true)) (aCons (eOp oEq (eVar 15) (eOp oMod (eOp oDiv (eVar 7) (eC (.int 24300))) (eOp (oAdd false) (eVar 9) (eC (.int 1))))) aNil))))) (eVar 11))) (sExpr (eBM mAppend (eVar 6) (aCons (eTup (aCons (eVar 13) (aCons (eVar 15) aNil))) aNil))) sNil))))
    (sRet (eTup (aCons (eSl false (eVar 5) pNone (pSome (eVar 8))) (aCons (eSl false (eVar 5) (pSome (eVar 8)) pNone) (aCons (eVar 6) aNil))))))))))))
def G__law_bar : List DV → PR := runP 3 N__law_bar m__law_bar
abbrev N__law_nuts : List Str := ["_law_bar_here", "_law_piece", "_law_found", "_law_column", "_law_row"]
def m__law_nuts : SM :=
  (sSeq (sAsg (.nm 2) (eC (.int 0)))
    (sSeq (sFor (iSeq (eIx (eVar 0) (eC (.int 2)))) (.tp [(.nm 3), (.nm 4)]) [3, 4] (sAsg (.nm 2) (eOp (oAdd false) (eVar 2) (eCB fInt (aCons (eAnd (eChain oLe oLt (eIx (eVar 1) (eC (.int 0))) (eVar 3) (eIx (eVar 1) (eC (.int 2)))) (eChain oLe oLt (eIx (eVar 1) (eC (.int 1))) (eVar 4) (eIx (eVar 1) (eC (.int 3))))) aNil)))))
    (sRet (eVar 2))))
def G__law_nuts : List DV → PR := runP 2 N__law_nuts m__law_nuts
abbrev N__law_cuts : List Str := ["_law_bar_here", "_law_piece", "_law_left", "_law_top", "_law_right", "_law_bottom", "_law_found", "_law_line"]
def m__law_cuts : SM :=
  (sSeq (sAsg (.tp [(.nm 2), (.nm 3), (.nm 4), (.nm 5)]) (eVar 1))
    (sSeq (sAsg (.nm 6) (eLst true aNil))
    (sSeq (sFor (iRange2 (aCons (eOp (oAdd false) (eVar 2) (eC (.int 1))) (aCons (eVar 4) aNil))) (.nm 7) [7] (sExpr (eBM mAppend (eVar 6) (aCons (eTup (aCons (eC (.int 0)) (aCons (eVar 7) (aCons (eIx (eIx (eVar 0) (eC (.int 0))) (eOp oSub (eVar 7) (eC (.int 1)))) (aCons (eTup (aCons (eVar 2) (aCons (eVar 3) (aCons (eVar 7) (aCons (eVar 5) aNil))))) (aCons (eTup (aCons (eVar 7) (aCons (eVar 3) (aCons (eVar 4) (aCons (eVar 5) aNil))))) aNil)))))) aNil))))
    (sSeq (sFor (iRange2 (aCons (eOp (oAdd false) (eVar 3) (eC (.int 1))) (aCons (eVar 5) aNil))) (.nm 7) [7] (sExpr (eBM mAppend (eVar 6) (aCons (eTup (aCons (eC (.int 1)) (aCons (eVar 7) (aCons (eIx (eIx (eVar 0) (eC (.int 1))) (eOp oSub (eVar 7) (eC (.int 1)))) (aCons (eTup (aCons (eVar 2) (aCons (eVar 3) (aCons (eVar 4) (aCons (eVar 7) aNil))))) (aCons (eTup (aCons (eVar 2) (aCons (eVar 7) (aCons (eVar 4) (aCons (eVar 5) aNil))))) aNil)))))) aNil))))
    (sRet (eVar 6))))))
def G__law_cuts : List DV → PR := runP 2 N__law_cuts m__law_cuts
abbrev N__law_whole_piece : List Str := ["_law_bar_here"]
def m__law_whole_piece : SM :=
  (sRet (eTup (aCons (eC (.int 0)) (aCons (eC (.int 0)) (aCons (eOp (oAdd false) (eCB fLen (aCons (eIx (eVar 0) (eC (.int 0))) aNil)) (eC (.int 1))) (aCons (eOp (oAdd false) (eCB fLen (aCons (eIx (eVar 0) (eC (.int 1))) aNil)) (eC (.int 1))) aNil))))))
def G__law_whole_piece : List DV → PR := runP 1 N__law_whole_piece m__law_whole_piece
abbrev N__law_all : List Str := ["_law_bar_here", "_law_most", "_law_piece", "_law_found", "_law_way", "_law_line", "_law_price", "_law_one", "_law_other", "_law_first", "_law_many", "_law_second", "_law_few", "_law_paid"]
def m__law_all (G : List DV → PR) : SM :=
  (sSeq (sIf (tBl (eOp oLe (eCall G__law_nuts (aCons (eVar 0) (aCons (eVar 2) aNil))) (eVar 1))) (sRet (eLst false (aCons (eTup (aCons (eC (.int 0)) (aCons (eC (.int 1)) aNil))) aNil))) sNil)
    (sSeq (sAsg (.nm 3) eDicK)
    (sSeq (sFor (iSeq (eCall G__law_cuts (aCons (eVar 0) (aCons (eVar 2) aNil)))) (.tp [(.nm 4), (.nm 5), (.nm 6), (.nm 7), (.nm 8)]) [4, 5, 6, 7, 8, 9, 10, 11, 12, 13] (sFor (iSeq (eCall G (aCons (eVar 0) (aCons (eVar 1) (aCons (eVar 7) aNil))))) (.tp [(.nm 9), (.nm 10)]) [9, 10, 11, 12, 13] (sFor (iSeq (eCall G (aCons (eVar 0) (aCons (eVar 1) (aCons (eVar 8) aNil))))) (.tp [(.nm 11), (.nm 12)]) [11, 12, 13] (sSeq (sAsg (.nm 13) (eOp (oAdd false) (eOp (oAdd false) (eVar 6) (eVar 9)) (eVar 11)))
    (sPut (eVar 3) (eVar 13) (eOp (oAdd false) (eGet2 (eVar 3) (eVar 13) (eC (.int 0))) (eOp (oMul false) (eVar 10) (eVar 12))))))))
    (sRet (eCB (fSorted false) (aCons (eLock 3 (eComp false [13] (iKeysD (eVar 3)) (.nm 13) tYes1 (eTup (aCons (eVar 13) (aCons (eIx (eVar 3) (eVar 13)) aNil))))) aNil))))))
def G__law_all : Nat → List DV → PR
  | 0, _ => .stuck
  | k + 1, ds => runP 3 N__law_all (m__law_all (G__law_all k)) ds
abbrev N_law : List Str := ["_law_script", "_law_whole", "_law_by", "_law_bar_here", "_law_cells", "_law_column", "_law_most", "_law_full", "_law_every", "_law_row"]
def m_law : SM :=
  (sSeq (sAsg (.nm 1) (eCB fSum (aCons (eSl false (eVar 0) pNone (pSome (eC (.int 63)))) aNil)))
    (sSeq (sFor (iRange1 (aCons (eC (.int 3)) aNil)) (.nm 2) [2, 3, 4, 5, 6, 7, 8] (sSeq (sAsg (.nm 3) (eCall G__law_bar (aCons (eVar 0) (aCons (eVar 2) (aCons (eC (.int 2)) aNil)))))
    (sSeq (sAsg (.nm 4) (eLst true aNil))
    (sSeq (sFor (iRange1 (aCons (eOp (oAdd false) (eCB fLen (aCons (eIx (eVar 3) (eC (.int 0))) aNil)) (eC (.int 1))) aNil)) (.nm 5) [5] (sExpr (eBM mExtend (eVar 4) (aCons (eComp false [9] (iRange1 (aCons (eOp (oAdd false) (eCB fLen (aCons (eIx (eVar 3) (eC (.int 1))) aNil)) (eC (.int 1))) aNil)) (.nm 9) tYes1 (eTup (aCons (eVar 5) (aCons (eVar 9) aNil)))) aNil))))
    (sSeq (sFrz 4)
    (sSeq (sFor (iSeq (eTup (aCons (eC (.int 1)) (aCons (eOp (oAdd false) (eC (.int 1)) (eOp oMod (eOp oDiv (eVar 1) (eC (.int 3))) (eC (.int 3)))) aNil)))) (.nm 6) [6, 8] (sSeq (sAsg (.nm 8) (eCall (G__law_all 12) (aCons (eVar 3) (aCons (eVar 6) (aCons (eCall G__law_whole_piece (aCons (eVar 3) aNil)) aNil)))))
    (sIf (tBl (eOp oNe (eTup (aCons (eCall G_cost (aCons (eVar 3) (aCons (eVar 6) aNil))) (aCons (eCall G_how_many (aCons (eVar 3) (aCons (eVar 6) aNil))) aNil))) (eIx (eVar 8) (eC (.int 0))))) (sRet (eC (.bl false))) sNil)))
    (sSeq (sAsg (.nm 7) (eTup (aCons (eIx (eVar 3) (eC (.int 0))) (aCons (eIx (eVar 3) (eC (.int 1))) (aCons (eVar 4) aNil)))))
    (sIf (tOr (tBl (eOp oNe (eCall G_apart (aCons (eVar 3) aNil)) (eIx (eIx (eCall (G__law_all 12) (aCons (eVar 7) (aCons (eC (.int 1)) (aCons (eCall G__law_whole_piece (aCons (eVar 3) aNil)) aNil)))) (eC (.int 0))) (eC (.int 0))))) (tBl (eOp oNe (eCall G_apart (aCons (eVar 3) aNil)) (eCall G_cost (aCons (eVar 7) (aCons (eC (.int 1)) aNil)))))) (sRet (eC (.bl false))) sNil))))))))
    (sRet (eC (.bl true)))))
def G_law : List DV → PR := runP 1 N_law m_law
end BB
namespace BB
open PySem L2
structure Bar where
  p : List Int
  q : List Int
  nuts : List (Int × Int)
structure Pc where
  l : Int
  t : Int
  r : Int
  b : Int
  deriving DecidableEq
def encC (c : Int × Int) : DV := .tup [.int c.1, .int c.2]
def encBar (B : Bar) : DV := .tup [.lst (B.p.map .int), .lst (B.q.map .int), .lst (B.nuts.map encC)]
def encP (P : Pc) : DV := .tup [.int P.l, .int P.t, .int P.r, .int P.b]
@[simp] theorem noLoc_encC (c : Int × Int) : noLoc (encC c) = true := by simp [encC]
@[simp] theorem noLoc_encP (P : Pc) : noLoc (encP P) = true := by simp [encP]
@[simp] theorem noLocL_encC (ns : List (Int × Int)) : noLocL (ns.map encC) = true := noLocL_map (fun _ => by simp) ns
@[simp] theorem noLocL_encP (ns : List Pc) : noLocL (ns.map encP) = true := noLocL_map (fun _ => by simp) ns
@[simp] theorem noLoc_encBar (B : Bar) : noLoc (encBar B) = true := by simp [encBar]

def inP (P : Pc) (c : Int × Int) : Bool := decide (P.l ≤ c.1) && decide (c.1 < P.r) && (decide (P.t ≤ c.2) && decide (c.2 < P.b))
def cnt (B : Bar) (P : Pc) : Int := ((B.nuts.filter (inP P)).length : Nat)
def irange (lo hi : Int) : List Int := (List.range (hi - lo).toNat).map fun i => lo + (i : Nat)
def linesD (P : Pc) : List (Int × Int) := (irange (P.l + 1) P.r).map (fun x => (0, x)) ++ (irange (P.t + 1) P.b).map (fun x => (1, x))
def part1 (P : Pc) (w x : Int) : Pc := if w = 0 then ⟨P.l, P.t, x, P.b⟩ else ⟨P.l, P.t, P.r, x⟩
def part2 (P : Pc) (w x : Int) : Pc := if w = 0 then ⟨x, P.t, P.r, P.b⟩ else ⟨P.l, x, P.r, P.b⟩
def price (B : Bar) (w x : Int) : Int := if w = 0 then B.p.getD (x - 1).toNat 0 else B.q.getD (x - 1).toNat 0
def size (P : Pc) : Int := (P.r - P.l) * (P.b - P.t)
theorem rng_irange (lo hi : Int) : rngD lo (hi - lo).toNat = (irange lo hi).map DV.int := by simp [rngD, irange, Function.comp_def]
theorem mem_irange {lo hi x : Int} : x ∈ irange lo hi ↔ lo ≤ x ∧ x < hi := by
  unfold irange
  simp only [List.mem_map, List.mem_range]
  constructor
  · rintro ⟨i, h1, rfl⟩; omega
  · rintro ⟨h1, h2⟩; exact ⟨(x - lo).toNat, by omega, by omega⟩

local macro_rules | `(tactic| walk_at "ev") => `(tactic| simp [sRet, sSeq, sIf, sAsg, sPar, sExpr, sNever, sNil, sAug, tBl, tAnd, tOr, tNot, eTup, eLst, aCons, aNil, eC, eOp, eUn, uNeg, eCB, eCall, eIx, eSl, pSome, pNone, eVar, eAnd, eOr, eNot, eIf, eChain, fLen, fIsi, tyD, seqOf, lstOf, ixD, dicOf, atI, ixN, oAdd, oSub, oLt, oLe, oGt, oAddI, bindP, bindPs, kb_int_int, kb_int_bool, kb_list_list, kb_tuple_tuple, iSeq, srcOf, iRange1, iRange2])

theorem e_whole (B : Bar) : G_whole_of [encBar B] = .ok (encP ⟨0, 0, B.p.length + 1, B.q.length + 1⟩) := by
  refine runP_rt (sto := []) rfl ?_ (by simp)
  simp only [m_whole_of, encBar, encP]
  walk_at "ev"
theorem e_parts (P : Pc) (w x : Int) : G_parts_of [encP P, .int w, .int x] = .ok (.tup [encP (part1 P w x), encP (part2 P w x)]) := by
  refine runP_rt (sto := []) rfl ?_ (by simp)
  simp only [m_parts_of, encP, part1, part2]
  by_cases h : w = 0
  · subst h
    walk_at "ev"
  · walk_at "ev"
    simp [h]
theorem e_size (P : Pc) (h1 : (P.r - P.l).natAbs < 2 ^ 250) (h2 : (P.b - P.t).natAbs < 2 ^ 250) : G_size_of [encP P] = .ok (.int (size P)) := by
  refine runP_rt (sto := []) rfl ?_ (by simp)
  simp only [m_size_of, encP]
  walk_at "ev"
  simp [oMul, h1, h2, size]
theorem e_nuts (B : Bar) (P : Pc) (h : B.nuts.length ≤ 1000) : G_nuts_in [encBar B, encP P] = .ok (.int (cnt B P)) := by
  refine runP_rt (sto := []) rfl ?_ (by simp)
  simp only [m_nuts_in, encBar]
  unfold sRet eCB aCons
  rw [comp_filter (enc := encC) (b := inP P) (Y := encC) (ys := B.nuts) (s := [])]
  · walk_at "ev"
    simp [cnt]
  · walk_at "ev"
  · omega
  · intro y hy
    simp only [encC, encP]
    refine ⟨_, rfl, ?_, ?_⟩
    · walk_at "ev"
      by_cases h1 : P.l ≤ y.1 <;> by_cases h2 : y.1 < P.r <;> by_cases h3 : P.t ≤ y.2 <;> by_cases h4 : y.2 < P.b <;> simp [h1, h2, h3, h4, inP]
    · intro _
      walk_at "ev"
theorem iRange2_ok {t : AM} {env : Env} {sto s : Sto} {i j : Int} (h : t env sto = .ok [.int i, .int j] s) (hi : -1000000 ≤ i ∧ i ≤ 1000000) (hj : -1000000 ≤ j ∧ j ≤ 1000000) : iRange2 t env sto = .ok (.fix ((irange i j).map DV.int)) s := by
  simp only [iRange2, h, Res.bind_ok]
  rw [if_pos (by omega), rng_irange]
theorem iRange1_ok {t : AM} {env : Env} {sto s : Sto} {j : Int} (h : t env sto = .ok [.int j] s) (hj : -1000000 ≤ j ∧ j ≤ 1000000) : iRange1 t env sto = .ok (.fix ((irange 0 j).map DV.int)) s := by
  simp only [iRange1, h, Res.bind_ok]
  rw [if_pos (by omega)]
  have := rng_irange 0 j
  rw [Int.sub_zero] at this
  rw [this]
theorem irange_len (lo hi : Int) : (irange lo hi).length = (hi - lo).toNat := by simp [irange]
structure Small (P : Pc) : Prop where
  l : -1000 ≤ P.l ∧ P.l ≤ 1000
  t : -1000 ≤ P.t ∧ P.t ≤ 1000
  r : -1000 ≤ P.r ∧ P.r ≤ 1000
  b : -1000 ≤ P.b ∧ P.b ≤ 1000
theorem e_lines (P : Pc) (h : Small P) : G_lines_in [encP P] = .ok (.lst ((linesD P).map encC)) := by
  obtain ⟨h1, h2, h3, h4⟩ := h
  refine runP_rt (sto := []) rfl ?_ (by simp)
  simp only [m_lines_in, encP]
  rw [sSeq_nx (sAsg_ok (comp_map (enc := DV.int) (Y := fun x => encC (0, x)) (ys := irange (P.l + 1) P.r) (s := []) (iRange2_ok (i := P.l + 1) (j := P.r) (by walk_at "ev") (by omega) (by omega)) (by rw [irange_len]; omega) fun y hy => ⟨_, rfl, by walk_at "ev"; simp [encC]⟩) rfl)]
  rw [sRet_ok (d := .lst ((linesD P).map encC)) (s := [])]
  rw [eOp_ok (x := .lst ((irange (P.l + 1) P.r).map fun x => encC (0, x))) (s1 := []) (y := .lst ((irange (P.t + 1) P.b).map fun x => encC (1, x))) (s2 := [])]
  · simp only [oAdd, lstOf, List.length_map, irange_len]
    rw [if_pos (by omega)]
    simp [linesD, Function.comp_def]
  · walk_at "ev"
  · rw [comp_map (enc := DV.int) (Y := fun x => encC (1, x)) (ys := irange (P.t + 1) P.b) (s := []) (iRange2_ok (i := P.t + 1) (j := P.b) (by walk_at "ev") (by omega) (by omega)) (by rw [irange_len]; omega) fun y hy => ⟨_, rfl, by walk_at "ev"; simp [encC]⟩]
    rfl
/-- all pieces -/
def allP (B : Bar) : List Pc := (irange 0 (B.p.length + 1)).flatMap fun l => (irange 0 (B.q.length + 1)).flatMap fun t => (irange (l + 1) (B.p.length + 1 + 1)).flatMap fun r => (irange (t + 1) (B.q.length + 1 + 1)).map fun b => ⟨l, t, r, b⟩

abbrev envPO (B : Bar) (a b c d : Option DV) : Env := [some (encBar B), some (.int 0), some (.int 0), some (.int (B.p.length + 1)), some (.int (B.q.length + 1)), some (.loc 0), a, b, c, d]
theorem e_pieces (B : Bar) (hp : B.p.length ≤ 20) (hq : B.q.length ≤ 20) : G_pieces_of [encBar B] = .ok (.lst ((allP B).map encP)) := by
  refine runP_frz (d := .loc 0) (sto := [.lst ((allP B).map encP)]) rfl ?_ (by simp [frz, frzW, flookW, frzWL_id])
  simp only [m_pieces_of]
  rw [sSeq_nx (sAsg_ok (eCall_ok (a1_ok (d := encBar B) (s1 := []) (by walk_at "ev")) (by simp) (e_whole B)) rfl)]
  rw [sSeq_nx (e := (envPO B none none none none)) (s := [.lst []]) (by walk_at "ev")]
  have i4 : ∀ t : Int, 0 ≤ t → ((irange (t + 1) (B.q.length + 1 + 1)).length) ≤ 21 := fun t ht => by rw [irange_len]; omega
  have i3 : ∀ l : Int, 0 ≤ l → ((irange (l + 1) (B.p.length + 1 + 1)).length) ≤ 21 := fun t ht => by rw [irange_len]; omega
  have i1 : (irange 0 (B.p.length + 1)).length ≤ 21 := by rw [irange_len]; omega
  have i2 : (irange 0 (B.q.length + 1)).length ≤ 21 := by rw [irange_len]; omega
  have b3 : ∀ l t : Int, 0 ≤ l → 0 ≤ t → ((irange (l + 1) (B.p.length + 1 + 1)).flatMap fun r => (irange (t + 1) (B.q.length + 1 + 1)).map fun b => encP ⟨l, t, r, b⟩).length ≤ 441 := fun l t hl ht => by
    refine Nat.le_trans (flatMap_len (n := 21) fun r _ => by simpa using i4 t ht) ?_
    have := i3 l hl
    omega
  have b2 : ∀ l : Int, 0 ≤ l → ((irange 0 (B.q.length + 1)).flatMap fun t => (irange (l + 1) (B.p.length + 1 + 1)).flatMap fun r => (irange (t + 1) (B.q.length + 1 + 1)).map fun b => encP ⟨l, t, r, b⟩).length ≤ 9261 := fun l hl => by
    refine Nat.le_trans (flatMap_len (n := 441) fun t ht => b3 l t hl (mem_irange.mp ht).1) ?_
    omega
  rw [sSeq_nx (e := (envPO B none none none none)) (s := [.lst ((allP B).map encP)])]
  · exact sRet_ok rfl
  rw [sFor_fix (xs := (irange 0 (B.p.length + 1)).map DV.int) (s := [.lst []]) (iRange1_ok (by walk_at "ev") (by omega))]
  rw [show wipeE (envPO B none none none none) [6, 7, 8] = (envPO B none none none none) from rfl]
  rw [runL_ext (St := fun a => [.lst a]) (M := 1000000) (n := 9261) (f := fun l => (irange 0 (B.q.length + 1)).flatMap fun t => (irange (l + 1) (B.p.length + 1 + 1)).flatMap fun r => (irange (t + 1) (B.q.length + 1 + 1)).map fun b => encP ⟨l, t, r, b⟩) (irange 0 (B.p.length + 1)) []]
  · simp [allP, List.map_flatMap, Function.comp_def]
  · exact fun l hl => b2 l (mem_irange.mp hl).1
  · simp; omega
  intro acc l hl hacc
  have hl0 := mem_irange.mp hl
  refine ⟨(envPO B (some (.int l)) none none none), rfl, (envPO B (some (.int l)) none none none), ?_, rfl⟩
  rw [sFor_fix (xs := (irange 0 (B.q.length + 1)).map DV.int) (s := [.lst acc]) (iRange1_ok (by walk_at "ev") (by omega))]
  refine runL_ext (St := fun a => [.lst a]) (M := 1000000) (n := 441) (f := fun t => (irange (l + 1) (B.p.length + 1 + 1)).flatMap fun r => (irange (t + 1) (B.q.length + 1 + 1)).map fun b => encP ⟨l, t, r, b⟩) (irange 0 (B.q.length + 1)) acc ?_ ?_ ?_
  · exact fun t ht => b3 l t hl0.1 (mem_irange.mp ht).1
  · omega
  intro acc t ht hacc
  have ht0 := mem_irange.mp ht
  refine ⟨(envPO B (some (.int l)) (some (.int t)) none none), rfl, (envPO B (some (.int l)) (some (.int t)) none none), ?_, rfl⟩
  rw [sFor_fix (xs := (irange (l + 1) (B.p.length + 1 + 1)).map DV.int) (s := [.lst acc]) (iRange2_ok (by walk_at "ev") (by omega) (by omega))]
  refine runL_ext (St := fun a => [.lst a]) (M := 1000000) (n := 21) (f := fun r => (irange (t + 1) (B.q.length + 1 + 1)).map fun b => encP ⟨l, t, r, b⟩) (irange (l + 1) (B.p.length + 1 + 1)) acc ?_ ?_ ?_
  · exact fun r hr => by simpa using i4 t ht0.1
  · have := i3 l hl0.1
    omega
  intro acc r hr hacc
  have hr0 := mem_irange.mp hr
  have i5 := i4 t ht0.1
  refine ⟨(envPO B (some (.int l)) (some (.int t)) (some (.int r)) none), rfl, (envPO B (some (.int l)) (some (.int t)) (some (.int r)) none), sExpr_ok (d := .non) ?_, rfl⟩
  have hc := a1_ok (comp_map (bb := false) (own := [9]) (p := .nm 9) (elt := eTup (aCons (eVar 6) (aCons (eVar 7) (aCons (eVar 8) (aCons (eVar 9) aNil))))) (env := (envPO B (some (.int l)) (some (.int t)) (some (.int r)) none)) (enc := DV.int) (Y := fun b => encP ⟨l, t, r, b⟩) (ys := irange (t + 1) (B.q.length + 1 + 1)) (sto := [.lst acc]) (s := [.lst acc]) (iRange2_ok (t := aCons (eOp (oAdd false) (eVar 7) (eC (.int 1))) (aCons (eOp (oAdd false) (eVar 4) (eC (.int 1))) aNil)) (by walk_at "ev") (by omega) (by omega)) (by omega) fun y hy => ⟨_, rfl, by walk_at "ev"; simp [encP]⟩)
  unfold eBM
  rw [show eVar 5 ((envPO B (some (.int l)) (some (.int t)) (some (.int r)) none)) [.lst acc] = .ok (.loc 0) [.lst acc] from rfl]
  simp only [Res.bind_ok, List.getElem?_cons_zero]
  rw [hc]
  simp only [Res.bind_ok, List.getElem?_cons_zero, mExtend, lstOf, List.length_map]
  rw [if_pos (by omega)]
  rfl
end BB
namespace BB
open PySem L2
local macro_rules | `(tactic| walk_at "ev") => `(tactic| simp [sRet, sSeq, sIf, sAsg, sPar, sExpr, sNever, sNil, sAug, tBl, tAnd, tOr, tNot, eTup, eLst, aCons, aNil, eC, eOp, eUn, uNeg, eCB, eCall, eIx, eSl, pSome, pNone, eVar, eAnd, eOr, eNot, eIf, eChain, fLen, fIsi, tyD, seqOf, lstOf, ixD, dicOf, atI, ixN, oAdd, oSub, oLt, oLe, oGt, oAddI, bindP, bindPs, kb_int_int, kb_int_bool, kb_list_list, kb_tuple_tuple, iSeq, srcOf, iRange1, iRange2])
def itemD (P : Pc) : DV := .tup [.int (size P), encP P]
def leP (P Q : Pc) : Bool := PySem.W.dataLe false encD (itemD P) (itemD Q)
def byS (B : Bar) : List Pc := (allP B).mergeSort leP
@[simp] theorem noLoc_itemD (P : Pc) : noLoc (itemD P) = true := by simp [itemD]
theorem enc_itemD (P : Pc) : encD (itemD P) = .tuple [.int (size P), .tuple [.int P.l, .int P.t, .int P.r, .int P.b]] := by
  simp [encD, itemD, encP, pyW, pyWL]
theorem leP_size {P Q : Pc} (h : leP P Q = true) : size P ≤ size Q := by
  unfold leP PySem.W.dataLe PySem.W.sortLe at h
  simp only [cond_false, enc_itemD, PySem.W.keyToks, PySem.W.keyToksAll] at h
  rw [Bool.not_eq_true'] at h
  have h : PyProof.Rows.lexLt PyProof.Rows.itemOrd _ _ = false := h
  rw [PyProof.Rows.lex_self] at h
  by_cases e : size P = size Q
  · omega
  · simp only [List.singleton_append, List.cons_append, List.nil_append] at h
    rw [PyProof.Rows.lex_diff (fun z => e (Sum.inl.inj z).symm)] at h
    have h : decide (size Q < size P) = false := h
    simp at h
    exact h
theorem pyWL_map {α : Type} {f : α → DV} (h : ∀ x, (pyW look0 (f x)).isSome = true) : ∀ xs : List α, (pyWL look0 (xs.map f)).isSome = true
  | [] => by simp [pyWL]
  | x :: xs => by
    obtain ⟨a, ha⟩ := Option.isSome_iff_exists.mp (h x)
    obtain ⟨b, hb⟩ := Option.isSome_iff_exists.mp (pyWL_map h xs)
    simp [pyWL, ha, hb]
theorem sortB_map {α : Type} {f : α → DV} (h1 : ∀ x y, PySem.W.alike (encD (f x)) (encD (f y)) = true) (h2 : ∀ x, isTup1 (encD (f x)) = true) (h3 : ∀ x, (encD (f x)).depth ≤ 64) (xs : List α) : sortB ((xs.map f).map encD) = true := by
  unfold sortB
  simp only [Bool.and_eq_true, Bool.or_eq_true, List.all_eq_true, List.mem_map, decide_eq_true_eq]
  refine ⟨⟨?_, .inl ?_⟩, ?_⟩
  · rintro _ ⟨_, ⟨x, _, rfl⟩, rfl⟩ _ ⟨_, ⟨y, _, rfl⟩, rfl⟩; exact h1 x y
  · rintro _ ⟨_, ⟨x, _, rfl⟩, rfl⟩; exact h2 x
  · rintro _ ⟨_, ⟨x, _, rfl⟩, rfl⟩; exact h3 x
theorem fSorted_map {α : Type} {f : α → DV} {b : Bool} {xs : List α} {sto : Sto} (h0 : ∀ x, (pyW look0 (f x)).isSome = true) (h1 : ∀ x y, PySem.W.alike (encD (f x)) (encD (f y)) = true) (h2 : ∀ x, isTup1 (encD (f x)) = true) (h3 : ∀ x, (encD (f x)).depth ≤ 64) (hl : xs.length ≤ 1000000) :
    fSorted b [.lst (xs.map f)] sto = newL b ((xs.mergeSort fun x y => PySem.W.dataLe false encD (f x) (f y)).map f) sto := by
  simp only [fSorted, lsqOf, lstOf]
  rw [if_pos ⟨pyWL_map h0 xs, sortB_map h1 h2 h3 xs, by simpa using hl⟩]
  rw [PySem.W.sort_maps (r := fun x y => PySem.W.dataLe false encD (f x) (f y)) (s := PySem.W.dataLe false encD) f (fun a _ b _ => rfl)]
theorem allP_len (B : Bar) (hp : B.p.length ≤ 20) (hq : B.q.length ≤ 20) : (allP B).length ≤ 194481 := by
  unfold allP
  refine Nat.le_trans (flatMap_len (n := 9261) fun l hl => Nat.le_trans (flatMap_len (n := 441) fun t ht => Nat.le_trans (flatMap_len (n := 21) fun r hr => ?_) ?_) ?_) ?_
  · have := mem_irange.mp ht
    simp [irange_len]; omega
  · have := mem_irange.mp hl
    rw [irange_len]; omega
  · rw [irange_len]; omega
  · rw [irange_len]; omega
theorem mem_allP {B : Bar} {P : Pc} : P ∈ allP B ↔ 0 ≤ P.l ∧ P.l < P.r ∧ P.r ≤ B.p.length + 1 ∧ 0 ≤ P.t ∧ P.t < P.b ∧ P.b ≤ B.q.length + 1 := by
  unfold allP
  simp only [List.mem_flatMap, List.mem_map, mem_irange]
  constructor
  · rintro ⟨l, hl, t, ht, r, hr, b, hb, rfl⟩
    simp only
    omega
  · intro h
    exact ⟨P.l, by omega, P.t, by omega, P.r, by omega, P.b, by omega, rfl⟩
theorem small_of {B : Bar} {P : Pc} (hp : B.p.length ≤ 20) (hq : B.q.length ≤ 20) (h : P ∈ allP B) : Small P := by
  have := mem_allP.mp h
  exact ⟨by omega, by omega, by omega, by omega⟩
theorem e_bysize (B : Bar) (hp : B.p.length ≤ 20) (hq : B.q.length ≤ 20) : G_by_size [encBar B] = .ok (.lst ((byS B).map encP)) := by
  refine runP_rt (sto := []) rfl ?_ (by simp)
  simp only [m_by_size]
  have hl := allP_len B hp hq
  refine sRet_ok ?_
  have h1 : eComp false [2] (iSeq (eCall G_pieces_of (aCons (eVar 0) aNil))) (.nm 2) tYes1 (eTup (aCons (eCall G_size_of (aCons (eVar 2) aNil)) (aCons (eVar 2) aNil))) (startE N_by_size [encBar B]) [] = .ok (.lst ((allP B).map itemD)) [] := by
    rw [comp_map (enc := encP) (Y := itemD) (ys := allP B) (s := []) (iSeq_lst (eCall_ok (a1_ok (d := encBar B) (s1 := []) (by walk_at "ev")) (by simp) (e_pieces B hp hq))) (by omega) fun P hP => ?_]
    · rfl
    · have hs := small_of hp hq hP
      refine ⟨[some (encBar B), none, some (encP P)], rfl, ?_⟩
      have := eCall_ok (G := G_size_of) (env := [some (encBar B), none, some (encP P)]) (sto := []) (a1_ok (m := eVar 2) (d := encP P) (s1 := []) rfl) (by simp) (e_size P (by have := hs.l; have := hs.r; omega) (by have := hs.t; have := hs.b; omega))
      rw [eTup, aCons, this]
      simp [aCons, aNil, eVar, itemD]
  rw [comp_map (enc := itemD) (Y := encP) (ys := byS B) (s := []) (iSeq_lst (s := []) ?_) (by unfold byS; rw [List.length_mergeSort]; omega) fun P hP => ⟨[some (encBar B), some (.int (size P)), some (encP P)], rfl, rfl⟩]
  · rfl
  · rw [eCB_ok (a1_ok h1)]
    rw [fSorted_map (f := itemD) (by intro x; simp [itemD, encP, pyW, pyWL]) (by intro x y; simp [enc_itemD, PySem.W.alike, PySem.W.alikeAll]) (by intro x; simp [enc_itemD, isTup1]) (by intro x; simp [enc_itemD, PyData.depth, PyData.depthAll]) (by omega)]
    rfl
theorem byS_perm (B : Bar) : (byS B).Perm (allP B) := List.mergeSort_perm _ _
theorem byS_sorted (B : Bar) : (byS B).Pairwise (fun P Q => size P ≤ size Q) := by
  have := PySem.W.sort_pairwise (le := leP) ⟨fun a b c => (PySem.W.sortLe_total (PyProof.Rows.listOrd PyProof.Rows.itemOrd) false fun d => PySem.W.keyToks (encD (itemD d))).trans a b c, fun a b => (PySem.W.sortLe_total (PyProof.Rows.listOrd PyProof.Rows.itemOrd) false fun d => PySem.W.keyToks (encD (itemD d))).total a b⟩ (allP B)
  exact this.imp leP_size
end BB
namespace BB
open PySem L2
local macro_rules | `(tactic| walk_at "ev") => `(tactic| simp [sRet, sSeq, sIf, sAsg, sPar, sExpr, sNever, sNil, sAug, tBl, tAnd, tOr, tNot, eTup, eLst, aCons, aNil, eC, eOp, eUn, uNeg, eCB, eCall, eIx, eSl, pSome, pNone, eVar, eAnd, eOr, eNot, eIf, eChain, fLen, fIsi, tyD, seqOf, lstOf, ixD, dicOf, atI, ixN, oAdd, oSub, oLt, oLe, oGt, oAddI, bindP, bindPs, kb_int_int, kb_int_bool, kb_list_list, kb_tuple_tuple, iSeq, srcOf, iRange1, iRange2])
/-! ### keyed stores -/
def tk (P : Pc) : List Key := [.inl P.l, .inl P.t, .inl P.r, .inl P.b]
@[simp] theorem tkeyOf_encP (P : Pc) : tkeyOf (encP P) = some (tk P) := by simp [tkeyOf, encP, keysOf, keyOf, tk]
theorem tk_inj {P Q : Pc} (h : tk P = tk Q) : P = Q := by
  obtain ⟨a, b, c, d⟩ := P
  obtain ⟨a', b', c', d'⟩ := Q
  simp [tk] at h
  simp [h]
theorem putDs_len {κ : Type} [DecidableEq κ] (k : κ) (v : DV) : ∀ (ks : List κ) (ds : List DV), ks.length = ds.length → (putDs ks ds k v).length = (putKs ks k).length
  | [], [], _ => by simp [putDs, putKs]
  | [], _ :: _, h => by simp at h
  | _ :: _, [], h => by simp at h
  | k' :: ks, d :: ds, h => by
    have ih := putDs_len k v ks ds (by simpa using h)
    unfold putDs
    by_cases e : k' = k
    · subst e; simp [putKs]; simpa using h.symm
    · have e' : ¬ k = k' := fun z => e z.symm
      simp only [e, if_false, List.length_cons, ih, putKs, List.mem_cons, e', false_or]
      by_cases m : k ∈ ks <;> simp [m]
theorem putKs_len {κ : Type} [DecidableEq κ] (k : κ) (ks : List κ) : (putKs ks k).length ≤ ks.length + 1 := by
  unfold putKs; split <;> simp
theorem look_put {κ : Type} [DecidableEq κ] (k : κ) (v : DV) (x : κ) : ∀ (ks : List κ) (ds : List DV), ks.length = ds.length → lookK (putKs ks k) (putDs ks ds k v) x = if x = k then some v else lookK ks ds x
  | [], [], _ => by
    by_cases e : k = x
    · simp [putKs, putDs, lookK, e]
    · have : ¬ x = k := fun z => e z.symm
      simp [putKs, putDs, lookK, e, this]
  | [], _ :: _, h => by simp at h
  | _ :: _, [], h => by simp at h
  | k' :: ks, d :: ds, h => by
    have ih := look_put k v x ks ds (by simpa using h)
    by_cases e : k' = k
    · subst e
      simp only [putKs, List.mem_cons, true_or, if_true, putDs, lookK]
      by_cases e2 : k' = x
      · simp [e2]
      · have : ¬ x = k' := fun z => e2 z.symm
        simp [e2, this]
    · have e' : ¬ k = k' := fun z => e z.symm
      have hk : putKs (k' :: ks) k = k' :: putKs ks k := by
        simp only [putKs, List.mem_cons, e', false_or]
        by_cases m : k ∈ ks <;> simp [m]
      rw [hk]
      simp only [putDs, e, if_false, lookK, ih]
      by_cases e2 : k' = x
      · subst e2; simp [e]
      · simp [e2]
theorem put_noLoc {κ : Type} [DecidableEq κ] {k : κ} {v : DV} (hv : noLoc v = true) : ∀ (ks : List κ) (ds : List DV), noLocL ds = true → noLocL (putDs ks ds k v) = true
  | [], ds, h => by
    have : ∀ es : List DV, noLocL es = true → noLocL (es ++ [v]) = true := by
      intro es
      induction es with
      | nil => intro _; simp [hv]
      | cons a r ih => intro q; simp at q; simp [q.1, ih q.2]
    unfold putDs
    exact this ds h
  | _ :: _, [], h => by simp [putDs, hv]
  | k' :: ks, d :: ds, h => by
    simp at h
    unfold putDs
    split
    · simp [hv, h.2]
    · simp [h.1, put_noLoc hv ks ds h.2]
theorem lookK_len {κ : Type} [DecidableEq κ] (x : κ) : True := trivial
/-! ### the price -/
theorem getD_some {xs : List Int} {i : Int} (h1 : 0 ≤ i) (h2 : i < xs.length) : (xs.map DV.int)[i.toNat]? = some (.int (xs.getD i.toNat 0)) := by
  have h : i.toNat < xs.length := by omega
  simp [h, List.getD]
theorem atI_ok {ds : List DV} {i : Int} {d : DV} (h1 : 0 ≤ i) (h : ds[i.toNat]? = some d) : atI ds i = some d := by
  have hl := (List.getElem?_eq_some_iff.mp h).1
  simp only [atI, ixN]
  rw [if_pos h1, if_pos (by omega)]
  simp [h]
theorem ix_lst {ds : List DV} {i : Int} {d : DV} {sto : Sto} (h1 : 0 ≤ i) (h : ds[i.toNat]? = some d) : ixD (.lst ds) (.int i) sto = .ok d sto := by
  simp [ixD, dicOf, seqOf, lstOf, atI_ok h1 h]
theorem ix_tup {ds : List DV} {i : Int} {d : DV} {sto : Sto} (h1 : 0 ≤ i) (h : ds[i.toNat]? = some d) : ixD (.tup ds) (.int i) sto = .ok d sto := by
  simp [ixD, dicOf, seqOf, lstOf, atI_ok h1 h]
theorem eIx_ok {a b : EM} {env : Env} {sto s1 s2 : Sto} {x y : DV} (h1 : a env sto = .ok x s1) (h2 : b env s1 = .ok y s2) : eIx a b env sto = ixD x y s2 := by simp [eIx, h1, h2]
theorem e_price (B : Bar) (w x : Int) (hw : w = 0 ∨ w = 1) (h : 1 ≤ x ∧ x ≤ if w = 0 then B.p.length else B.q.length) : G_price_of [encBar B, .int w, .int x] = .ok (.int (price B w x)) := by
  refine runP_rt (sto := []) rfl ?_ (by simp)
  simp only [m_price_of, encBar]
  refine sRet_ok ?_
  rcases hw with rfl | rfl
  · simp at h
    rw [eIx_ok (x := .lst (B.p.map .int)) (y := .int (x - 1)) (s1 := []) (s2 := []) (by walk_at "ev") (by walk_at "ev"), ix_lst (by omega) (getD_some (by omega) (by omega))]
    simp [price]
  · simp at h
    rw [eIx_ok (x := .lst (B.q.map .int)) (y := .int (x - 1)) (s1 := []) (s2 := []) (by walk_at "ev") (by walk_at "ev"), ix_lst (by omega) (getD_some (by omega) (by omega))]
    simp [price]
end BB
namespace BB
open PySem L2
local macro_rules | `(tactic| walk_at "ev") => `(tactic| simp [sRet, sSeq, sIf, sAsg, sPar, sExpr, sNever, sNil, sAug, tBl, tAnd, tOr, tNot, eTup, eLst, aCons, aNil, eC, eOp, eUn, uNeg, eCB, eCall, eIx, eSl, pSome, pNone, eVar, eAnd, eOr, eNot, eIf, eChain, fLen, fIsi, tyD, seqOf, lstOf, ixD, dicOf, atI, ixN, oAdd, oSub, oLt, oLe, oGt, oAddI, bindP, bindPs, kb_int_int, kb_int_bool, kb_list_list, kb_tuple_tuple, iSeq, srcOf, iRange1, iRange2])
/-! ### the least cost and how many ways, as the program finds them -/
def addW (a : Int × Int) (c w : Int) : Int × Int :=
  let a1 : Int × Int := if a.1 < 0 ∨ c < a.1 then (c, 0) else a
  if c = a1.1 then (a1.1, a1.2 + w) else a1
def stepC (f : Pc → Int × Int) (B : Bar) (P : Pc) (a : Int × Int) (y : Int × Int) : Int × Int :=
  addW a (price B y.1 y.2 + (f (part1 P y.1 y.2)).1 + (f (part2 P y.1 y.2)).1) ((f (part1 P y.1 y.2)).2 * (f (part2 P y.1 y.2)).2)
def cwF (B : Bar) (m : Int) : Nat → Pc → Int × Int
  | 0, P => if cnt B P > m then (-1, 0) else (0, 1)
  | n + 1, P => if cnt B P > m then (linesD P).foldl (stepC (cwF B m n) B P) (-1, 0) else (0, 1)
def semi (P : Pc) : Nat := (P.r - P.l).toNat + (P.b - P.t).toNat
def cw (B : Bar) (m : Int) (P : Pc) : Int × Int := cwF B m (semi P) P
theorem mem_lines {P : Pc} {y : Int × Int} : y ∈ linesD P ↔ (y.1 = 0 ∧ P.l < y.2 ∧ y.2 < P.r) ∨ (y.1 = 1 ∧ P.t < y.2 ∧ y.2 < P.b) := by
  obtain ⟨w, x⟩ := y
  simp only [linesD, List.mem_append, List.mem_map, mem_irange]
  constructor
  · rintro (⟨z, hz, e⟩ | ⟨z, hz, e⟩) <;> (simp at e; obtain ⟨e1, e2⟩ := e; subst e1; subst e2)
    · left; simp; omega
    · right; simp; omega
  · rintro (⟨h, h1, h2⟩ | ⟨h, h1, h2⟩)
    · left; exact ⟨x, ⟨by omega, h2⟩, by rw [show w = _ from h]⟩
    · right; exact ⟨x, ⟨by omega, h2⟩, by rw [show w = _ from h]⟩
theorem semi_part {P : Pc} {y : Int × Int} (h : y ∈ linesD P) : semi (part1 P y.1 y.2) < semi P ∧ semi (part2 P y.1 y.2) < semi P := by
  rcases mem_lines.mp h with ⟨h0, h1, h2⟩ | ⟨h0, h1, h2⟩
  · simp only [part1, part2, h0, if_true, semi]; omega
  · simp only [part1, part2, h0, semi]; simp; omega
theorem foldl_mem {α β : Type} {f g : α → β → α} : ∀ {xs : List β} {a : α}, (∀ x ∈ xs, ∀ a, f a x = g a x) → xs.foldl f a = xs.foldl g a
  | [], _, _ => rfl
  | x :: xs, a, h => by
    simp only [List.foldl_cons]
    rw [h x (by simp), foldl_mem fun y hy => h y (by simp [hy])]
theorem stepC_congr {f g : Pc → Int × Int} {B : Bar} {P : Pc} {y : Int × Int} (h1 : f (part1 P y.1 y.2) = g (part1 P y.1 y.2)) (h2 : f (part2 P y.1 y.2) = g (part2 P y.1 y.2)) (a : Int × Int) : stepC f B P a y = stepC g B P a y := by
  simp only [stepC, h1, h2]
theorem lines_zero {P : Pc} (h : semi P = 0) : linesD P = [] := by
  apply List.eq_nil_iff_forall_not_mem.mpr
  intro y hy
  have := semi_part hy
  omega
theorem cwF_stable (B : Bar) (m : Int) : ∀ (n k : Nat) (P : Pc), semi P ≤ n → semi P ≤ k → cwF B m n P = cwF B m k P
  | 0, 0, P, _, _ => rfl
  | 0, k + 1, P, h, _ => by simp [cwF, lines_zero (Nat.le_zero.mp h)]
  | n + 1, 0, P, _, h => by simp [cwF, lines_zero (Nat.le_zero.mp h)]
  | n + 1, k + 1, P, h1, h2 => by
    simp only [cwF]
    congr 1
    refine foldl_mem fun y hy a => ?_
    have := semi_part hy
    exact stepC_congr (cwF_stable B m n k _ (by omega) (by omega)) (cwF_stable B m n k _ (by omega) (by omega)) a
theorem cw_eq (B : Bar) (m : Int) (P : Pc) : cw B m P = if cnt B P > m then (linesD P).foldl (stepC (cw B m) B P) (-1, 0) else (0, 1) := by
  rw [cw, cwF_stable B m (semi P) (semi P + 1) P (Nat.le_refl _) (by omega)]
  simp only [cwF]
  congr 1
  refine foldl_mem fun y hy a => ?_
  have := semi_part hy
  exact stepC_congr (f := cwF B m (semi P)) (g := cw B m) (cwF_stable B m (semi P) (semi (part1 P y.1 y.2)) (part1 P y.1 y.2) (by omega) (by omega)) (cwF_stable B m (semi P) (semi (part2 P y.1 y.2)) (part2 P y.1 y.2) (by omega) (by omega)) a
/-- induction over cuts -/
theorem pc_ind {M : Pc → Prop} (h : ∀ P, (∀ y ∈ linesD P, M (part1 P y.1 y.2) ∧ M (part2 P y.1 y.2)) → M P) (P : Pc) : M P := by
  suffices H : ∀ n, ∀ P, semi P ≤ n → M P from H _ P (Nat.le_refl _)
  intro n
  induction n with
  | zero => intro P hP; exact h P fun y hy => by rw [lines_zero (Nat.le_zero.mp hP)] at hy; cases hy
  | succ n ih => intro P hP; exact h P fun y hy => by have := semi_part hy; exact ⟨ih _ (by omega), ih _ (by omega)⟩
/-! ### a bound for the ways -/
theorem addW_bound {a : Int × Int} {c w M S : Int} (h0 : 0 ≤ a.2) (h1 : a.2 ≤ S) (hw : 0 ≤ w) (hM : w ≤ M) : 0 ≤ (addW a c w).2 ∧ (addW a c w).2 ≤ S + M := by
  by_cases h : a.1 < 0 ∨ c < a.1
  · simp only [addW, if_pos h, if_true]; omega
  · simp only [addW, if_neg h]
    split
    · dsimp only; omega
    · omega
theorem fold_bound {g : β → Int} {w : β → Int} {M : Int} (hM : 0 ≤ M) : ∀ (ys : List β) (a : Int × Int) (S : Int), 0 ≤ a.2 → a.2 ≤ S → (∀ y ∈ ys, 0 ≤ w y ∧ w y ≤ M) →
    0 ≤ (ys.foldl (fun a y => addW a (g y) (w y)) a).2 ∧ (ys.foldl (fun a y => addW a (g y) (w y)) a).2 ≤ S + ys.length * M
  | [], a, S, h0, h1, _ => by simp; omega
  | y :: ys, a, S, h0, h1, h => by
    have hy := h y (by simp)
    have hb := addW_bound (c := g y) h0 h1 hy.1 hy.2
    have := fold_bound (g := g) hM ys (addW a (g y) (w y)) (S + M) hb.1 hb.2 fun z hz => h z (by simp [hz])
    simp only [List.foldl_cons, List.length_cons]
    refine ⟨this.1, Int.le_trans this.2 ?_⟩
    have e : ((ys.length + 1 : Nat) : Int) * M = ys.length * M + M := by rw [Int.natCast_add, Int.add_mul]; simp
    omega
def area (P : Pc) : Nat := (P.r - P.l).toNat * (P.b - P.t).toNat
theorem lines_len (P : Pc) : (linesD P).length = (P.r - (P.l + 1)).toNat + (P.b - (P.t + 1)).toNat := by simp [linesD, irange_len]
theorem area_part {P : Pc} {y : Int × Int} (hl : P.l < P.r) (ht : P.t < P.b) (h : y ∈ linesD P) : area (part1 P y.1 y.2) + area (part2 P y.1 y.2) = area P ∧ 0 < area (part1 P y.1 y.2) ∧ 0 < area (part2 P y.1 y.2) := by
  rcases mem_lines.mp h with ⟨h0, h1, h2⟩ | ⟨h0, h1, h2⟩
  · simp only [part1, part2, h0, if_true, area]
    rw [← Nat.add_mul]
    refine ⟨?_, Nat.mul_pos (by omega) (by omega), Nat.mul_pos (by omega) (by omega)⟩
    congr 1
    omega
  · simp only [part1, part2, h0, area]
    simp only [Int.reduceEq, if_false]
    rw [← Nat.mul_add]
    refine ⟨?_, Nat.mul_pos (by omega) (by omega), Nat.mul_pos (by omega) (by omega)⟩
    congr 1
    omega
structure Fits (P : Pc) (n : Int) : Prop where
  l : P.l < P.r
  t : P.t < P.b
  w : P.r - P.l ≤ n
  h : P.b - P.t ≤ n
theorem Fits.part {P : Pc} {n : Int} (f : Fits P n) {y : Int × Int} (h : y ∈ linesD P) : Fits (part1 P y.1 y.2) n ∧ Fits (part2 P y.1 y.2) n := by
  obtain ⟨f1, f2, f3, f4⟩ := f
  rcases mem_lines.mp h with ⟨h0, h1, h2⟩ | ⟨h0, h1, h2⟩
  · simp only [part1, part2, h0, if_true]
    exact ⟨⟨h1, f2, by simp; omega, f4⟩, ⟨h2, f2, by simp; omega, f4⟩⟩
  · simp only [part1, part2, h0, Int.reduceEq, if_false]
    exact ⟨⟨f1, h1, f3, by simp; omega⟩, ⟨f1, h2, f3, by simp; omega⟩⟩
theorem ways_bound (B : Bar) (m : Int) (P : Pc) : Fits P 5 → 0 ≤ (cw B m P).2 ∧ (cw B m P).2 ≤ 8 ^ (area P - 1) := by
  refine pc_ind (M := fun P => Fits P 5 → 0 ≤ (cw B m P).2 ∧ (cw B m P).2 ≤ 8 ^ (area P - 1)) (fun P ih f => ?_) P
  have hpos : (1 : Int) ≤ 8 ^ (area P - 1) := by
    have : 0 < (8 : Int) ^ (area P - 1) := Int.pow_pos (by omega)
    omega
  rw [cw_eq]
  split
  · by_cases hn : linesD P = []
    · rw [hn]; simp; omega
    · obtain ⟨y0, hy0⟩ := List.exists_mem_of_ne_nil _ hn
      have ha0 := area_part f.l f.t hy0
      have e8 : (8 : Int) ^ (area P - 1) = 8 * 8 ^ (area P - 2) := by
        rw [show area P - 1 = (area P - 2) + 1 by omega, Int.pow_succ, Int.mul_comm]
      have hp2 : 0 < (8 : Int) ^ (area P - 2) := Int.pow_pos (by omega)
      have := fold_bound (g := fun y => price B y.1 y.2 + (cw B m (part1 P y.1 y.2)).1 + (cw B m (part2 P y.1 y.2)).1) (w := fun y => (cw B m (part1 P y.1 y.2)).2 * (cw B m (part2 P y.1 y.2)).2) (M := 8 ^ (area P - 2)) (by omega) (linesD P) (-1, 0) 0 (by simp) (by simp) fun y hy => by
        have i := ih y hy
        have ff := f.part hy
        have i1 := i.1 ff.1
        have i2 := i.2 ff.2
        have ha := area_part f.l f.t hy
        refine ⟨Int.mul_nonneg i1.1 i2.1, ?_⟩
        have e : (8 : Int) ^ (area P - 2) = 8 ^ (area (part1 P y.1 y.2) - 1) * 8 ^ (area (part2 P y.1 y.2) - 1) := by
          rw [← Int.pow_add]
          congr 1
          omega
        rw [e]
        exact Int.mul_le_mul i1.2 i2.2 i2.1 (by have : 0 < (8 : Int) ^ (area (part1 P y.1 y.2) - 1) := Int.pow_pos (by omega); omega)
      refine ⟨this.1, Int.le_trans this.2 ?_⟩
      rw [e8, Int.zero_add]
      refine Int.mul_le_mul_of_nonneg_right ?_ (by omega)
      rw [lines_len]
      have := f.w; have := f.h; have := f.l; have := f.t
      omega
  · simp; omega
theorem area_le {P : Pc} (f : Fits P 5) : area P ≤ 25 := by
  have : area P ≤ 5 * 5 := Nat.mul_le_mul (by have := f.w; omega) (by have := f.h; omega)
  omega
theorem ways_small (B : Bar) (m : Int) (P : Pc) (f : Fits P 5) : (cw B m P).2.natAbs < 2 ^ 250 := by
  have h := ways_bound B m P f
  have ha := area_le f
  have : (8 : Int) ^ (area P - 1) ≤ 8 ^ 24 := by
    have := Nat.pow_le_pow_right (n := 8) (by omega) (show area P - 1 ≤ 24 by omega)
    exact_mod_cast this
  have h2 : (8 : Int) ^ 24 < 2 ^ 250 := by decide
  omega
end BB
namespace BB
open PySem L2
local macro_rules | `(tactic| walk_at "ev") => `(tactic| simp [sRet, sSeq, sIf, sAsg, sPar, sExpr, sNever, sNil, sAug, tBl, tAnd, tOr, tNot, eTup, eLst, aCons, aNil, eC, eOp, eUn, uNeg, eCB, eCall, eIx, eSl, pSome, pNone, eVar, eAnd, eOr, eNot, eIf, eChain, fLen, fIsi, tyD, seqOf, lstOf, ixD, dicOf, atI, ixN, oAdd, oSub, oLt, oLe, oGt, oAddI, bindP, bindPs, kb_int_int, kb_int_bool, kb_list_list, kb_tuple_tuple, iSeq, srcOf, iRange1, iRange2])
abbrev envC (B : Bar) (m : Int) (a b c d e f g h : Option DV) : Env := [some (encBar B), some (.int m), some (.loc 0), some (.loc 1), a, b, c, d, e, f, g, h]
theorem putT2 {B : Bar} {m : Int} {P : Pc} {b c d e f g h : Option DV} {t : EM} {ks : List (List Key)} {cs ws : List DV} {x w : DV} (hl : ks.length < 1000000)
    (ht : t (envC B m (some (encP P)) b c d e f g h) [.dT ks cs, .dT ks ws] = .ok (.tup [x, w]) [.dT ks cs, .dT ks ws]) :
    sPutT [((eVar 2), (eVar 4)), ((eVar 3), (eVar 4))] t (envC B m (some (encP P)) b c d e f g h) [.dT ks cs, .dT ks ws] =
      .nx (envC B m (some (encP P)) b c d e f g h) [.dT (putKs ks (tk P)) (putDs ks cs (tk P) x), .dT (putKs ks (tk P)) (putDs ks ws (tk P) w)] := by
  simp [sPutT, ht, sPuts, eVar, putD, hl]
/-- a loop whose environment and store are told by what is done -/
theorem runL_eq_aux {β : Type} {p : Pat} {ws : List Nat} {body : SM} {enc : β → DV} {xs : List β} {E : List β → Env} {St : List β → Sto}
    (hs : ∀ done y rest, xs = done ++ y :: rest → ∃ e1, bindP p (enc y) (E done) = some e1 ∧ ∃ e2, body e1 (St done) = .nx e2 (St (done ++ [y])) ∧ wipeE e2 ws = E (done ++ [y])) :
    ∀ (ys done : List β), xs = done ++ ys → runL p ws body (ys.map enc) (E done) (St done) = .nx (E xs) (St xs)
  | [], done, hx => by rw [hx]; simp [runL]
  | y :: ys, done, hx => by
    obtain ⟨e1, h1, e2, h2, h3⟩ := hs done y ys hx
    simp only [List.map_cons, runL, h1, h2, h3]
    exact runL_eq_aux hs ys (done ++ [y]) (by simp [hx])
theorem runL_eq {β : Type} {p : Pat} {ws : List Nat} {body : SM} {enc : β → DV} {xs : List β} (E : List β → Env) (St : List β → Sto)
    (hs : ∀ done y rest, xs = done ++ y :: rest → ∃ e1, bindP p (enc y) (E done) = some e1 ∧ ∃ e2, body e1 (St done) = .nx e2 (St (done ++ [y])) ∧ wipeE e2 ws = E (done ++ [y])) :
    runL p ws body (xs.map enc) (E []) (St []) = .nx (E xs) (St xs) := runL_eq_aux hs xs [] rfl
theorem irange_lt (lo hi : Int) : (irange lo hi).Pairwise (· < ·) := by
  unfold irange
  rw [List.pairwise_map]
  exact List.pairwise_lt_range.imp fun h => by omega
theorem allP_nodup (B : Bar) : (allP B).Nodup := by
  unfold allP List.Nodup
  simp only [List.pairwise_flatMap, List.pairwise_map, List.mem_flatMap, List.mem_map]
  refine ⟨fun l _ => ⟨fun t _ => ⟨fun r _ => (irange_lt _ _).imp fun h z => ?_, (irange_lt _ _).imp fun h => ?_⟩, (irange_lt _ _).imp fun h => ?_⟩, (irange_lt _ _).imp fun h => ?_⟩
  · cases z; omega
  · rintro x ⟨b, _, rfl⟩ y ⟨b', _, rfl⟩ z; cases z; omega
  · rintro x ⟨r, _, b, _, rfl⟩ y ⟨r', _, b', _, rfl⟩ z; cases z; omega
  · rintro x ⟨t, _, r, _, b, _, rfl⟩ y ⟨t', _, r', _, b', _, rfl⟩ z; cases z; omega
theorem byS_nodup (B : Bar) : (byS B).Nodup := (byS_perm B).symm.nodup (allP_nodup B)
theorem look_map {v : Pc → DV} {P : Pc} : ∀ {xs : List Pc}, P ∈ xs → lookK (xs.map tk) (xs.map v) (tk P) = some (v P)
  | [], h => by cases h
  | x :: xs, h => by
    simp only [List.map_cons, lookK]
    by_cases e : tk x = tk P
    · rw [if_pos e, tk_inj e]
    · rw [if_neg e]
      rcases List.mem_cons.mp h with rfl | h
      · exact absurd rfl e
      · exact look_map h
theorem putKs_new {P : Pc} {xs : List Pc} (h : P ∉ xs) : putKs (xs.map tk) (tk P) = xs.map tk ++ [tk P] := by
  unfold putKs
  rw [if_neg]
  simp only [List.mem_map, not_exists, not_and]
  exact fun Q hQ e => h (tk_inj e ▸ hQ)
theorem putDs_new {v : Pc → DV} {P : Pc} {d : DV} : ∀ {xs : List Pc}, P ∉ xs → putDs (xs.map tk) (xs.map v) (tk P) d = xs.map v ++ [d]
  | [], h => by simp [putDs]
  | x :: xs, h => by
    simp only [List.mem_cons, not_or] at h
    simp only [List.map_cons, putDs]
    rw [if_neg fun e => h.1 (tk_inj e).symm, putDs_new h.2]
    rfl
theorem putKs_old {P : Pc} {xs : List Pc} : putKs (xs.map tk ++ [tk P]) (tk P) = xs.map tk ++ [tk P] := by simp [putKs]
theorem putDs_old {v : Pc → DV} {P : Pc} {d e : DV} : ∀ {xs : List Pc}, P ∉ xs → putDs (xs.map tk ++ [tk P]) (xs.map v ++ [e]) (tk P) d = xs.map v ++ [d]
  | [], h => by simp [putDs]
  | x :: xs, h => by
    simp only [List.mem_cons, not_or] at h
    simp only [List.map_cons, List.cons_append, putDs]
    rw [if_neg fun e => h.1 (tk_inj e).symm, putDs_old h.2]
theorem part_ne {P : Pc} {y : Int × Int} (h : y ∈ linesD P) : part1 P y.1 y.2 ≠ P ∧ part2 P y.1 y.2 ≠ P := by
  have := semi_part h
  refine ⟨fun e => ?_, fun e => ?_⟩
  · rw [e] at this; omega
  · rw [e] at this; omega
theorem part_mem {B : Bar} {P : Pc} (hP : P ∈ allP B) {y : Int × Int} (hy : y ∈ linesD P) : part1 P y.1 y.2 ∈ allP B ∧ part2 P y.1 y.2 ∈ allP B := by
  have := mem_allP.mp hP
  simp only [mem_allP]
  rcases mem_lines.mp hy with ⟨h0, h1, h2⟩ | ⟨h0, h1, h2⟩
  · simp only [part1, part2, h0, if_true]; omega
  · simp only [part1, part2, h0, Int.reduceEq, if_false]; omega
theorem size_area {P : Pc} (hl : P.l < P.r) (ht : P.t < P.b) : size P = (area P : Int) := by
  simp only [size, area, Int.natCast_mul]
  rw [Int.toNat_of_nonneg (by omega), Int.toNat_of_nonneg (by omega)]
theorem size_part {B : Bar} {P : Pc} (hP : P ∈ allP B) {y : Int × Int} (hy : y ∈ linesD P) : size (part1 P y.1 y.2) < size P ∧ size (part2 P y.1 y.2) < size P := by
  have h := mem_allP.mp hP
  have hp := part_mem hP hy
  have h1 := mem_allP.mp hp.1
  have h2 := mem_allP.mp hp.2
  have ha := area_part (by omega) (by omega) hy
  rw [size_area (P := P) (by omega) (by omega), size_area (P := part1 P y.1 y.2) (by omega) (by omega), size_area (P := part2 P y.1 y.2) (by omega) (by omega)]
  omega
theorem earlier {B : Bar} {done rest : List Pc} {P Q : Pc} (hb : byS B = done ++ P :: rest) (hQ : Q ∈ allP B) (hs : size Q < size P) : Q ∈ done := by
  have h1 := (byS_perm B).mem_iff.mpr hQ
  have h2 := byS_sorted B
  rw [hb] at h1 h2
  simp only [List.mem_append, List.mem_cons] at h1
  rcases h1 with h1 | rfl | h1
  · exact h1
  · omega
  · have := (List.pairwise_cons.mp (List.pairwise_append.mp h2).2.1).1 Q h1
    omega
theorem fits_of {B : Bar} {P : Pc} (hp : B.p.length ≤ 4) (hq : B.q.length ≤ 4) (h : P ∈ allP B) : Fits P 5 := by
  have := mem_allP.mp h
  exact ⟨by omega, by omega, by omega, by omega⟩
theorem line_ok {B : Bar} {P : Pc} (hP : P ∈ allP B) {y : Int × Int} (hy : y ∈ linesD P) : (y.1 = 0 ∨ y.1 = 1) ∧ 1 ≤ y.2 ∧ y.2 ≤ if y.1 = 0 then B.p.length else B.q.length := by
  have := mem_allP.mp hP
  rcases mem_lines.mp hy with ⟨h0, h1, h2⟩ | ⟨h0, h1, h2⟩
  · simp [h0]; omega
  · simp [h0]; omega
theorem ix_loc {n : Nat} {ks : List (List Key)} {ds : List DV} {P : Pc} {d : DV} {sto : Sto} (h : sto[n]? = some (.dT ks ds)) (hk : lookK ks ds (tk P) = some d) : ixD (.loc n) (encP P) sto = .ok d sto := by
  simp [ixD, dicOf, h, hk]
theorem look_app {κ : Type} [DecidableEq κ] {k x : κ} {d e : DV} : ∀ {ks : List κ} {ds : List DV}, lookK ks ds x = some d → lookK (ks ++ [k]) (ds ++ [e]) x = some d
  | [], _, h => by unfold lookK at h; simp at h
  | _ :: _, [], h => by unfold lookK at h; simp at h
  | k' :: ks, d' :: ds, h => by
    simp only [lookK, List.cons_append] at h ⊢
    split
    · rename_i q; rw [if_pos q] at h; exact h
    · rename_i q; rw [if_neg q] at h; exact look_app h
theorem sNil_ok {env : Env} {sto : Sto} : sNil env sto = .nx env sto := rfl
theorem tOr_ok {a b : TM} {env : Env} {sto s1 : Sto} {c : Bool} (h : a env sto = .ok c s1) : tOr a b env sto = if c = true then .ok true s1 else b env s1 := by simp [tOr, h]
def vC (B : Bar) (m : Int) (P : Pc) : DV := .int (cw B m P).1
def vW (B : Bar) (m : Int) (P : Pc) : DV := .int (cw B m P).2
abbrev stC (B : Bar) (m : Int) (done : List Pc) : Sto := [.dT (done.map tk) (done.map (vC B m)), .dT (done.map tk) (done.map (vW B m))]
theorem e_costs (B : Bar) (m : Int) (hp : B.p.length ≤ 4) (hq : B.q.length ≤ 4) (hn : B.nuts.length ≤ 1000) : G_costs_of [encBar B, .int m] = .ok (.tup [.dic ((byS B).map tk) ((byS B).map (vC B m)), .dic ((byS B).map tk) ((byS B).map (vW B m))]) := by
  have hbl : (byS B).length ≤ 194481 := by unfold byS; rw [List.length_mergeSort]; exact allP_len B (by omega) (by omega)
  refine runP_frz (d := .tup [.loc 0, .loc 1]) (sto := stC B m (byS B)) rfl ?_ ?_
  rotate_left
  · have n1 : ∀ xs : List Pc, noLocL (xs.map (vC B m)) = true := fun xs => noLocL_map (fun _ => by simp [vC]) xs
    have n2 : ∀ xs : List Pc, noLocL (xs.map (vW B m)) = true := fun xs => noLocL_map (fun _ => by simp [vW]) xs
    simp [frz, frzW, frzWL, flookW, frzWL_id _ _ (n1 _), frzWL_id _ _ (n2 _)]
  simp only [m_costs_of]
  rw [sSeq_nx (e := envC B m none none none none none none none none) (s := stC B m []) (by walk_at "ev"; simp [eDicT])]
  rw [sSeq_nx (e := envC B m none none none none none none none none) (s := stC B m (byS B))]
  · simp [sRet, eTup, aCons, aNil, eVar]
  rw [sFor_fix (iSeq_lst (eCall_ok (a1_ok (d := encBar B) (s1 := stC B m []) rfl) (by simp) (e_bysize B (by omega) (by omega))))]
  refine runL_eq (E := fun _ => envC B m none none none none none none none none) (St := stC B m) ?_
  intro done P rest hb
  have hP : P ∈ allP B := (byS_perm B).mem_iff.mp (by rw [hb]; simp)
  have hnd : P ∉ done := by
    have h := byS_nodup B
    rw [hb] at h
    intro z
    exact (List.pairwise_append.mp h).2.2 P z P (by simp) rfl
  have hdl : done.length < 194481 := by
    have h2 : (byS B).length = done.length + (rest.length + 1) := by rw [hb]; simp
    omega
  refine ⟨envC B m (some (encP P)) none none none none none none none, rfl, ?_⟩
  rw [sSeq_nx (putT2 (x := .int 0) (w := .int 1) (by simp; omega) (by simp [eTup, aCons, aNil, eC]))]
  rw [putKs_new hnd, putDs_new hnd, putDs_new hnd]
  have hcw := cw_eq B m P
  have hcnt : (tBl (eOp oGt (eCall G_nuts_in (aCons (eVar 0) (aCons (eVar 4) aNil))) (eVar 1))) (envC B m (some (encP P)) none none none none none none none) = fun s => .ok (decide (m < cnt B P)) s := by
    funext s
    have h1 := eCall_ok (G := G_nuts_in) (env := envC B m (some (encP P)) none none none none none none none) (sto := s) (t := aCons (eVar 0) (aCons (eVar 4) aNil)) (ds := [encBar B, encP P]) (s := s) (by simp [aCons, aNil, eVar]) (by simp) (e_nuts B P hn)
    simp [tBl, eOp, h1, eVar, oGt]
  rw [sIf_ok (congrFun hcnt _)]
  by_cases hc : m < cnt B P
  rotate_left
  · rw [if_neg (by simpa using hc)]
    rw [if_neg hc] at hcw
    refine ⟨envC B m (some (encP P)) none none none none none none none, ?_, rfl⟩
    simp [sNil, vC, vW, hcw]
  rw [if_pos (by simpa using hc)]
  rw [if_pos hc] at hcw
  generalize hst : [DO.dT (done.map tk ++ [tk P]) (done.map (vC B m) ++ [DV.int 0]), DO.dT (done.map tk ++ [tk P]) (done.map (vW B m) ++ [DV.int 1])] = st
  have hlook : ∀ Q, Q ∈ done → ixD (.loc 0) (encP Q) st = .ok (vC B m Q) st ∧ ixD (.loc 1) (encP Q) st = .ok (vW B m Q) st := by
    intro Q hQ
    subst hst
    exact ⟨ix_loc rfl (look_app (look_map hQ)), ix_loc rfl (look_app (look_map hQ))⟩
  rw [sSeq_nx (e := envC B m (some (encP P)) (some (.int (-1))) (some (.int 0)) none none none none none) (s := st) (by walk_at "ev")]
  rw [sSeq_nx (e := envC B m (some (encP P)) (some (.int (cw B m P).1)) (some (.int (cw B m P).2)) none none none none none) (s := st)]
  · subst hst
    rw [putT2 (x := vC B m P) (w := vW B m P) (by simp; omega) (by simp [eTup, aCons, aNil, eVar, vC, vW])]
    refine ⟨envC B m (some (encP P)) (some (.int (cw B m P).1)) (some (.int (cw B m P).2)) none none none none none, ?_, rfl⟩
    rw [putKs_old, putDs_old hnd, putDs_old hnd]
    simp
  rw [sFor_fix (iSeq_lst (eCall_ok (a1_ok (d := encP P) (s1 := st) rfl) (by simp) (e_lines P (small_of (by omega) (by omega) hP))))]
  rw [hcw]
  refine (runL_fold (E := fun a => envC B m (some (encP P)) (some (.int a.1)) (some (.int a.2)) none none none none none) (St := fun _ => st) (I := fun _ => True) (linesD P) ((-1, 0) : Int × Int) trivial ?_).1
  intro a _ y hy
  refine ⟨trivial, envC B m (some (encP P)) (some (.int a.1)) (some (.int a.2)) (some (.int y.1)) (some (.int y.2)) none none none, rfl, ?_⟩
  have hpm := part_mem hP hy
  have hsz := size_part hP hy
  have d1 := hlook _ (earlier hb hpm.1 hsz.1)
  have d2 := hlook _ (earlier hb hpm.2 hsz.2)
  have w1 := ways_small B m _ (fits_of hp hq hpm.1)
  have w2 := ways_small B m _ (fits_of hp hq hpm.2)
  have hl := line_ok hP hy
  rw [sSeq_nx (e := envC B m (some (encP P)) (some (.int a.1)) (some (.int a.2)) (some (.int y.1)) (some (.int y.2)) (some (encP (part1 P y.1 y.2))) (some (encP (part2 P y.1 y.2))) none) (s := st) (sAsg_ok (eCall_ok (ds := [encP P, .int y.1, .int y.2]) (by simp [aCons, aNil, eVar]) (by simp) (e_parts P y.1 y.2)) rfl)]
  generalize hcost : price B y.1 y.2 + (cw B m (part1 P y.1 y.2)).1 + (cw B m (part2 P y.1 y.2)).1 = c
  rw [sSeq_nx (e := envC B m (some (encP P)) (some (.int a.1)) (some (.int a.2)) (some (.int y.1)) (some (.int y.2)) (some (encP (part1 P y.1 y.2))) (some (encP (part2 P y.1 y.2))) (some (.int c))) (s := st) (sAsg_ok (d := .int c) (by
    have hpr := eCall_ok (G := G_price_of) (env := envC B m (some (encP P)) (some (.int a.1)) (some (.int a.2)) (some (.int y.1)) (some (.int y.2)) (some (encP (part1 P y.1 y.2))) (some (encP (part2 P y.1 y.2))) none) (sto := st) (t := aCons (eVar 0) (aCons (eVar 7) (aCons (eVar 8) aNil))) (ds := [encBar B, .int y.1, .int y.2]) (s := st) (by simp [aCons, aNil, eVar]) (by simp) (e_price B y.1 y.2 hl.1 hl.2)
    simp [eOp, hpr, eIx, eVar, d1, d2, oAdd, vC, hcost]) rfl)]
  have hmul : (eOp (oMul false) (eIx (eVar 3) (eVar 9)) (eIx (eVar 3) (eVar 10))) = fun (e : Env) s => eOp (oMul false) (eIx (eVar 3) (eVar 9)) (eIx (eVar 3) (eVar 10)) e s := rfl
  by_cases hr : a.1 < 0 ∨ c < a.1
  · rw [sSeq_nx (e := envC B m (some (encP P)) (some (.int c)) (some (.int 0)) (some (.int y.1)) (some (.int y.2)) (some (encP (part1 P y.1 y.2))) (some (encP (part2 P y.1 y.2))) (some (.int c))) (s := st) (by
      rcases hr with h | h
      · walk_at "ev"; simp [h]
      · walk_at "ev"; by_cases h0 : a.1 < 0 <;> simp [h, h0])]
    refine ⟨envC B m (some (encP P)) (some (.int c)) (some (.int ((cw B m (part1 P y.1 y.2)).2 * (cw B m (part2 P y.1 y.2)).2))) (some (.int y.1)) (some (.int y.2)) (some (encP (part1 P y.1 y.2))) (some (encP (part2 P y.1 y.2))) (some (.int c)), ?_, ?_⟩
    · simp [sIf, tBl, eOp, eVar, sAug, eIx, d1, d2, vW, oMul, w1, w2, oAddI]
    · simp [stepC, hcost, addW, hr]
  · rw [sSeq_nx (e := envC B m (some (encP P)) (some (.int a.1)) (some (.int a.2)) (some (.int y.1)) (some (.int y.2)) (some (encP (part1 P y.1 y.2))) (some (encP (part2 P y.1 y.2))) (some (.int c))) (s := st) (by
      have h1 : ¬ a.1 < 0 := fun z => hr (.inl z)
      have h2 : ¬ c < a.1 := fun z => hr (.inr z)
      walk_at "ev"; simp [h1, h2])]
    by_cases he : c = a.1
    · refine ⟨envC B m (some (encP P)) (some (.int a.1)) (some (.int (a.2 + (cw B m (part1 P y.1 y.2)).2 * (cw B m (part2 P y.1 y.2)).2))) (some (.int y.1)) (some (.int y.2)) (some (encP (part1 P y.1 y.2))) (some (encP (part2 P y.1 y.2))) (some (.int c)), ?_, ?_⟩
      · simp [sIf, tBl, eOp, eVar, sAug, eIx, d1, d2, vW, oMul, w1, w2, oAddI, he]
      · simp only [stepC, hcost, addW, if_neg hr, if_pos he]
        rfl
    · refine ⟨envC B m (some (encP P)) (some (.int a.1)) (some (.int a.2)) (some (.int y.1)) (some (.int y.2)) (some (encP (part1 P y.1 y.2))) (some (encP (part2 P y.1 y.2))) (some (.int c)), ?_, ?_⟩
      · simp [sIf, tBl, eOp, eVar, sNil, he]
      · simp [stepC, hcost, addW, hr, he]
end BB
namespace BB
open PySem L2
local macro_rules | `(tactic| walk_at "ev") => `(tactic| simp [sRet, sSeq, sIf, sAsg, sPar, sExpr, sNever, sNil, sAug, tBl, tAnd, tOr, tNot, eTup, eLst, aCons, aNil, eC, eOp, eUn, uNeg, eCB, eCall, eIx, eSl, pSome, pNone, eVar, eAnd, eOr, eNot, eIf, eChain, fLen, fIsi, tyD, seqOf, lstOf, ixD, dicOf, atI, ixN, oAdd, oSub, oLt, oLe, oGt, oAddI, bindP, bindPs, kb_int_int, kb_int_bool, kb_list_list, kb_tuple_tuple, iSeq, srcOf, iRange1, iRange2])
def ltC (a b : Int × Int) : Prop := a.1 < b.1 ∨ (a.1 = b.1 ∧ a.2 < b.2)
structure OkBar (B : Bar) : Prop where
  pl : B.p.length ≤ 4
  ql : B.q.length ≤ 4
  pv : ∀ x ∈ B.p, 1 ≤ x ∧ x ≤ 9
  qv : ∀ x ∈ B.q, 1 ≤ x ∧ x ≤ 9
  nl : B.nuts.length ≤ 1000
  nv : ∀ c ∈ B.nuts, 0 ≤ c.1 ∧ c.1 ≤ B.p.length ∧ 0 ≤ c.2 ∧ c.2 ≤ B.q.length
  up : B.nuts.Pairwise ltC
theorem e_iswhole (i : Int) : G_is_whole [.int i] = .ok (.bl true) := by
  refine runP_rt (sto := []) rfl ?_ (by simp)
  simp only [m_is_whole]
  walk_at "ev"
theorem e_between (i a b : Int) : G_is_between [.int i, .int a, .int b] = .ok (.bl (decide (a ≤ i) && decide (i ≤ b))) := by
  refine runP_rt (sto := []) rfl ?_ (by simp)
  simp only [m_is_between]
  refine sRet_ok ?_
  rw [eAnd, eCall_ok (a1_ok (d := .int i) (s1 := []) rfl) (by simp) (e_iswhole i)]
  walk_at "ev"
  by_cases h1 : a ≤ i <;> by_cases h2 : i ≤ b <;> simp [h1, h2]
theorem e_prices (xs : List Int) (hl : xs.length ≤ 4) (hv : ∀ x ∈ xs, 1 ≤ x ∧ x ≤ 9) : G_are_prices [.lst (xs.map .int)] = .ok (.bl true) := by
  refine runP_rt (sto := []) rfl ?_ (by simp)
  simp only [m_are_prices]
  rw [sSeq_nx (e := startE N_are_prices [.lst (xs.map .int)]) (s := []) (by
    have h4 : ¬ (4 : Int) < xs.length := by omega
    walk_at "ev"; omega)]
  refine sRet_ok ?_
  rw [eCB_ok (a1_ok (comp_map (enc := DV.int) (Y := fun _ => .bl true) (ys := xs) (s := []) (iSeq_lst rfl) (by omega) fun y hy => ⟨[some (.lst (xs.map .int)), some (.int y)], rfl, by
    rw [eCall_ok (ds := [.int y, .int 1, .int 9]) (by simp [aCons, aNil, eVar, eC]; rfl) (by simp) (e_between y 1 9)]
    have := hv y hy
    simp [this.1, this.2]⟩))]
  have h := blsOf_map (xs.map fun _ => true)
  rw [List.map_map] at h
  have e : (xs.map fun _ => DV.bl true) = xs.map (DV.bl ∘ fun _ => true) := rfl
  simp only [fAll, lsqOf, lstOf, e, Option.bind_some, h]
  simp
theorem e_cell (c : Int × Int) (w h : Int) (hv : 0 ≤ c.1 ∧ c.1 ≤ w ∧ 0 ≤ c.2 ∧ c.2 ≤ h) : G_is_cell [encC c, .int w, .int h] = .ok (.bl true) := by
  refine runP_rt (sto := []) rfl ?_ (by simp)
  simp only [m_is_cell]
  have h1 := e_between c.1 0 w
  have h2 := e_between c.2 0 h
  simp only [hv, decide_true, Bool.and_self] at h1 h2
  simp only [encC]
  walk_at "ev"
  simp [h1, h2]
theorem zip_tail {α : Type} {R : α → α → Prop} : ∀ {xs : List α}, xs.Pairwise R → ∀ q ∈ xs.zip (xs.drop 1), R q.1 q.2
  | [], _, q, hq => by simp at hq
  | [x], _, q, hq => by simp at hq
  | x :: y :: xs, h, q, hq => by
    have h0 := List.pairwise_cons.mp h
    simp only [List.drop_succ_cons, List.drop_zero, List.zip_cons_cons, List.mem_cons] at hq
    rcases hq with rfl | hq
    · exact h0.1 y (by simp)
    · exact zip_tail h0.2 q (by simpa using hq)
theorem iZip_ok {t : AM} {env : Env} {sto s : Sto} {xs ys : List DV} (h : t env sto = .ok [.lst xs, .lst ys] s) : iZip t env sto = .ok (.fix ((xs.zip ys).map fun q => .tup [q.1, q.2])) s := by
  simp [iZip, h, frzL]
theorem cut_drop1 (xs : List DV) : cutD xs (some 1) none = xs.drop 1 := by
  unfold cutD HT.sIx
  cases xs <;> simp
theorem zip_enc (xs ys : List (Int × Int)) : ((xs.map encC).zip (ys.map encC)).map (fun q => DV.tup [q.1, q.2]) = (xs.zip ys).map fun q => DV.tup [encC q.1, encC q.2] := by
  rw [List.zip_map]
  simp [Function.comp_def]
theorem ge_cell {a b : Int × Int} {sto : Sto} (h : ltC a b) : oGe (encC a) (encC b) sto = .ok (.bl false) sto := by
  simp only [encC, oGe, py, pyW, pyWL, Option.map]
  rw [if_pos (by simp [PySem.W.alike, PySem.W.alikeAll, notNone, PyData.depth, PyData.depthAll]), PySem.W.dataLt_ii]
  have : (a.1 < b.1 ∨ (a.1 = b.1 ∧ a.2 < b.2)) := h
  simp [this]
theorem any_false {β : Type} (xs : List β) {sto : Sto} : fAny [.lst (xs.map fun _ => .bl false)] sto = .ok (.bl false) sto := by
  have h := blsOf_map (xs.map fun _ => false)
  rw [List.map_map] at h
  have e : (xs.map fun _ => DV.bl false) = xs.map (DV.bl ∘ fun _ => false) := rfl
  simp only [fAny, lsqOf, lstOf, e, Option.bind_some, h]
  simp
theorem all_true {β : Type} (xs : List β) {sto : Sto} : fAll [.lst (xs.map fun _ => .bl true)] sto = .ok (.bl true) sto := by
  have h := blsOf_map (xs.map fun _ => true)
  rw [List.map_map] at h
  have e : (xs.map fun _ => DV.bl true) = xs.map (DV.bl ∘ fun _ => true) := rfl
  simp only [fAll, lsqOf, lstOf, e, Option.bind_some, h]
  simp
theorem e_check (B : Bar) (o : OkBar B) : G_check_bar [encBar B] = .ok .non := by
  refine runP_nx (e := [some (encBar B), none, none, none]) (sto := []) rfl ?_
  simp only [m_check_bar]
  have h1 := e_prices B.p o.pl o.pv
  have h2 := e_prices B.q o.ql o.qv
  rw [sSeq_nx (e := [some (encBar B), none, none, none]) (s := []) (by
    simp only [encBar]
    walk_at "ev"; simp [h1, h2])]
  have hl : ∀ y, eCall G_is_cell (aCons (eVar 3) (aCons (eCB fLen (aCons (eIx (eVar 0) (eC (.int 0))) aNil)) (aCons (eCB fLen (aCons (eIx (eVar 0) (eC (.int 1))) aNil)) aNil))) [some (encBar B), none, none, some (encC y)] [] = eCall G_is_cell (fun _ s => .ok [encC y, .int B.p.length, .int B.q.length] s) [some (encBar B), none, none, some (encC y)] [] := by
    intro y
    simp only [encBar]
    walk_at "ev"
  rw [sSeq_nx (e := [some (encBar B), none, none, none]) (s := []) (by
    rw [sIf_ok (c := false) (s := [])]
    · simp [sNil]
    rw [tOr_ok (c := false) (s1 := []) (by simp only [encBar]; walk_at "ev")]
    simp only [Bool.false_eq_true, if_false, tNot, tBl]
    rw [eCB_ok (a1_ok (comp_map (enc := encC) (Y := fun _ => .bl true) (ys := B.nuts) (s := []) (iSeq_lst (by simp only [encBar]; walk_at "ev")) (by have := o.nl; omega) fun y hy => ⟨[some (encBar B), none, none, some (encC y)], rfl, by
      rw [hl, eCall_ok rfl (by simp) (e_cell y B.p.length B.q.length (o.nv y hy))]⟩))]
    rw [all_true]
    simp)]
  rw [sIf_ok (c := false) (s := [])]
  · simp [sNil]
  simp only [tBl]
  rw [eCB_ok (a1_ok (comp_map (enc := fun q : (Int × Int) × (Int × Int) => .tup [encC q.1, encC q.2]) (Y := fun _ => .bl false) (ys := B.nuts.zip (B.nuts.drop 1)) (s := []) (by
    simp only [encBar]
    rw [iZip_ok (xs := B.nuts.map encC) (ys := (B.nuts.drop 1).map encC) (s := []) (by
      walk_at "ev"
      simp [slD, newL, lstOf, cut_drop1])]
    rw [zip_enc]) (by have := o.nl; simp; omega) fun y hy => ⟨[some (encBar B), some (encC y.1), some (encC y.2), none], rfl, by
      simp [eOp, eVar, ge_cell (zip_tail o.up y hy)]⟩))]
  rw [any_false]
  simp
theorem e_both (B : Bar) (m : Int) (o : OkBar B) (hm : 1 ≤ m ∧ m ≤ 3) : G_check_both [encBar B, .int m] = .ok .non := by
  refine runP_nx (e := [some (encBar B), some (.int m)]) (sto := []) rfl ?_
  simp only [m_check_both]
  rw [sSeq_nx (sExpr_ok (eCall_ok (a1_ok (d := encBar B) (s1 := []) rfl) (by simp) (e_check B o)))]
  have := e_between m 1 3
  simp only [hm, decide_true, Bool.and_self] at this
  walk_at "ev"
  simp [this]
def wholeP (B : Bar) : Pc := ⟨0, 0, B.p.length + 1, B.q.length + 1⟩
theorem whole_mem (B : Bar) : wholeP B ∈ allP B := mem_allP.mpr (by simp [wholeP])
theorem ix_dic {ks : List (List Key)} {ds : List DV} {P : Pc} {d : DV} {sto : Sto} (hk : lookK ks ds (tk P) = some d) : ixD (.dic ks ds) (encP P) sto = .ok d sto := by
  simp [ixD, dicOf, hk]
theorem e_cost (B : Bar) (m : Int) (o : OkBar B) (hm : 1 ≤ m ∧ m ≤ 3) : G_cost [encBar B, .int m] = .ok (.int (cw B m (wholeP B)).1) := by
  refine runP_rt (sto := []) rfl ?_ (by simp)
  simp only [m_cost]
  rw [sSeq_nx (sExpr_ok (eCall_ok (ds := [encBar B, .int m]) (s := []) rfl (by simp) (e_both B m o hm)))]
  refine sRet_ok ?_
  rw [eIx_ok (x := .dic ((byS B).map tk) ((byS B).map (vC B m))) (y := encP (wholeP B)) (s1 := []) (s2 := [])]
  · exact ix_dic (look_map ((byS_perm B).mem_iff.mpr (whole_mem B)))
  · rw [eIx_ok (eCall_ok (ds := [encBar B, .int m]) (s := []) rfl (by simp) (e_costs B m o.pl o.ql o.nl)) rfl]
    exact ix_tup (by omega) rfl
  · exact eCall_ok (a1_ok (d := encBar B) (s1 := []) rfl) (by simp) (e_whole B)
theorem e_many (B : Bar) (m : Int) (o : OkBar B) (hm : 1 ≤ m ∧ m ≤ 3) : G_how_many [encBar B, .int m] = .ok (.int (cw B m (wholeP B)).2) := by
  refine runP_rt (sto := []) rfl ?_ (by simp)
  simp only [m_how_many]
  rw [sSeq_nx (sExpr_ok (eCall_ok (ds := [encBar B, .int m]) (s := []) rfl (by simp) (e_both B m o hm)))]
  refine sRet_ok ?_
  rw [eIx_ok (x := .dic ((byS B).map tk) ((byS B).map (vW B m))) (y := encP (wholeP B)) (s1 := []) (s2 := [])]
  · exact ix_dic (look_map ((byS_perm B).mem_iff.mpr (whole_mem B)))
  · rw [eIx_ok (eCall_ok (ds := [encBar B, .int m]) (s := []) rfl (by simp) (e_costs B m o.pl o.ql o.nl)) rfl]
    exact ix_tup (by omega) rfl
  · exact eCall_ok (a1_ok (d := encBar B) (s1 := []) rfl) (by simp) (e_whole B)
/-- the rule's sum -/
def ruleS (p q : List Int) : Int := p.sum + q.sum + (p.map fun x => (q.map fun y => if y < x then y else x).sum).sum
theorem sum_ok (xs : List Int) {sto : Sto} : fSum [.lst (xs.map .int)] sto = .ok (.int xs.sum) sto := by
  simp [fSum, lsqOf, lstOf, intsOf_map]
theorem foldl_sum {β : Type} {f : β → Int} : ∀ (xs : List β) (a : Int), xs.foldl (fun a x => a + f x) a = a + (xs.map f).sum
  | [], a => by simp
  | x :: xs, a => by simp only [List.foldl_cons, List.map_cons, List.sum_cons]; rw [foldl_sum xs]; omega
theorem e_apart (B : Bar) (o : OkBar B) : G_apart [encBar B] = .ok (.int (ruleS B.p B.q)) := by
  refine runP_rt (sto := []) rfl ?_ (by simp)
  simp only [m_apart]
  rw [sSeq_nx (sExpr_ok (eCall_ok (a1_ok (d := encBar B) (s1 := []) rfl) (by simp) (e_check B o)))]
  rw [sSeq_nx (e := [some (encBar B), some (.int (B.p.sum + B.q.sum)), none, none]) (s := []) (sAsg_ok (d := .int (B.p.sum + B.q.sum)) (by
    rw [eOp_ok (x := .int B.p.sum) (y := .int B.q.sum) (s1 := []) (s2 := [])]
    · rfl
    · rw [eCB_ok (a1_ok (d := .lst (B.p.map .int)) (s1 := []) (by simp only [encBar]; walk_at "ev")), sum_ok]
    · rw [eCB_ok (a1_ok (d := .lst (B.q.map .int)) (s1 := []) (by simp only [encBar]; walk_at "ev")), sum_ok]) rfl)]
  rw [sSeq_nx (e := [some (encBar B), some (.int (ruleS B.p B.q)), none, none]) (s := [])]
  · rfl
  rw [sFor_fix (xs := B.p.map .int) (s := []) (iSeq_lst (by simp only [encBar]; walk_at "ev"))]
  have h := (runL_fold (p := .nm 2) (ws := [2]) (body := sAug 1 oAddI (eCB fSum (aCons (eComp false [3] (iSeq (eIx (eVar 0) (eC (.int 1)))) (.nm 3) tYes1 (eCB fMin (aCons (eVar 2) (aCons (eVar 3) aNil)))) aNil))) (enc := DV.int) (E := fun a => [some (encBar B), some (.int a), none, none]) (St := fun _ => []) (step := fun a x => a + (B.q.map fun y => if y < x then y else x).sum) (I := fun _ => True) B.p (B.p.sum + B.q.sum) trivial ?_).1
  · rw [foldl_sum] at h
    exact h
  intro a _ x hx
  refine ⟨trivial, [some (encBar B), some (.int a), some (.int x), none], rfl, [some (encBar B), some (.int (a + (B.q.map fun y => if y < x then y else x).sum)), some (.int x), none], ?_, rfl⟩
  refine (sAug_ok (x := .int a) (y := .int (B.q.map fun y => if y < x then y else x).sum) (s1 := []) rfl ?_ rfl).trans rfl
  rw [eCB_ok (a1_ok (comp_map (enc := DV.int) (Y := fun y => .int (if y < x then y else x)) (ys := B.q) (s := []) (iSeq_lst (by simp only [encBar]; walk_at "ev")) (by have := o.ql; omega) fun y hy => ⟨[some (encBar B), some (.int a), some (.int x), some (.int y)], rfl, rfl⟩))]
  have := sum_ok (B.q.map fun y => if y < x then y else x) (sto := [])
  rw [List.map_map] at this
  exact this
end BB
namespace BB
open PySem L2
local macro_rules | `(tactic| walk_at "ev") => `(tactic| simp [sRet, sSeq, sIf, sAsg, sPar, sExpr, sNever, sNil, sAug, tBl, tAnd, tOr, tNot, eTup, eLst, aCons, aNil, eC, eOp, eUn, uNeg, eCB, eCall, eIx, eSl, pSome, pNone, eVar, eAnd, eOr, eNot, eIf, eChain, fLen, fIsi, tyD, seqOf, lstOf, ixD, dicOf, atI, ixN, oAdd, oSub, oLt, oLe, oGt, oAddI, bindP, bindPs, kb_int_int, kb_int_bool, kb_list_list, kb_tuple_tuple, iSeq, srcOf, iRange1, iRange2])
def lawMore (c a w : Int) : Int :=
  let s := c % 2147483647
  let m := ((s + 977 * a) * 48271 + w % 2147483647) % 2147483647
  m * (m + 31 * a + 7) * (m + s + 5)
def lawNum (c a w : Int) : Int := if c ≥ 10 ^ 18 then c else lawMore c a w * (lawMore c a w + 48271) / 1009
theorem natAbs_mul_lt {a b : Int} {m n : Nat} (h1 : a.natAbs < 2 ^ m) (h2 : b.natAbs < 2 ^ n) : (a * b).natAbs < 2 ^ (m + n) := by
  rw [Int.natAbs_mul, Nat.pow_add]
  exact Nat.mul_lt_mul_of_lt_of_le h1 (Nat.le_of_lt h2) (Nat.pos_of_ne_zero (by have := Nat.pow_pos (n := n) (show 0 < 2 by omega); omega))
theorem e_number (c a w : Int) (ha : 0 ≤ a ∧ a ≤ 1000) : G__law_number [.int c, .int a, .int w] = .ok (.int (lawNum c a w)) := by
  refine runP_rt (sto := []) rfl ?_ (by simp)
  simp only [m__law_number]
  by_cases h : c ≥ 10 ^ 18
  · rw [sSeq_rt (d := .int c) (s := [])]
    · rw [lawNum, if_pos h]
    · rw [sIf_ok (c := true) (s := [])]
      · rfl
      · simp only [tBl, eOp, eVar, eC, oPow, oGe]; simp; exact h
  · rw [sSeq_nx (e := startE N__law_number [.int c, .int a, .int w]) (s := [])]
    rotate_left
    · rw [sIf_ok (c := false) (s := [])]
      · rfl
      · simp only [tBl, eOp, eVar, eC, oPow, oGe]; simp; simpa using h
    rw [lawNum, if_neg h]
    have hs : 0 ≤ c % 2147483647 ∧ c % 2147483647 < 2147483647 := by omega
    rw [sSeq_nx (e := [some (.int c), some (.int a), some (.int w), some (.int (c % 2147483647)), none, none]) (s := []) (by simp [sAsg, eOp, eVar, eC, oMod, bindP])]
    have hm : ∃ s, s = c % 2147483647 := ⟨_, rfl⟩
    obtain ⟨s, es⟩ := hm
    have hm : ∃ m, m = ((s + 977 * a) * 48271 + w % 2147483647) % 2147483647 := ⟨_, rfl⟩
    obtain ⟨m, em⟩ := hm
    have hm1 : 0 ≤ m ∧ m < 2147483647 := by omega
    have b1 : m.natAbs < 2 ^ 31 := by omega
    have b2 : (m + 31 * a + 7).natAbs < 2 ^ 32 := by omega
    have b3 : (m + s + 5).natAbs < 2 ^ 33 := by omega
    have b4 := natAbs_mul_lt b1 b2
    have b5 := natAbs_mul_lt b4 b3
    have ev : lawMore c a w = m * (m + 31 * a + 7) * (m + s + 5) := by subst em; subst es; rfl
    have hm : ∃ v, v = lawMore c a w := ⟨_, rfl⟩
    obtain ⟨v, evv⟩ := hm
    rw [← es, ← evv]
    have g1 : (977 : Int).natAbs < 2 ^ 250 ∧ a.natAbs < 2 ^ 250 := by omega
    have g2 : (s + 977 * a).natAbs < 2 ^ 250 ∧ (48271 : Int).natAbs < 2 ^ 250 := by omega
    have g3 : m.natAbs < 2 ^ 250 ∧ (m + 31 * a + 7).natAbs < 2 ^ 250 := by omega
    have g4 : (31 : Int).natAbs < 2 ^ 250 ∧ a.natAbs < 2 ^ 250 := by omega
    have g5 : (m * (m + 31 * a + 7)).natAbs < 2 ^ 250 ∧ (m + s + 5).natAbs < 2 ^ 250 := ⟨Nat.lt_of_lt_of_le b4 (by decide), by omega⟩
    have g6 : v.natAbs < 2 ^ 250 ∧ (v + 48271).natAbs < 2 ^ 250 := by rw [evv, ev]; omega
    rw [sSeq_nx (e := [some (.int c), some (.int a), some (.int w), some (.int s), some (.int m), none]) (s := []) (by simp only [sAsg, eOp, eVar, eC, oMod, oMul, oAdd, List.getElem?_cons_zero, List.getElem?_cons_succ, Res.bind_ok, if_pos g1, if_pos g2]; simp [bindP, em])]
    rw [sSeq_nx (e := [some (.int c), some (.int a), some (.int w), some (.int s), some (.int m), some (.int v)]) (s := []) (by simp only [sAsg, eOp, eVar, eC, oMod, oMul, oAdd, List.getElem?_cons_zero, List.getElem?_cons_succ, Res.bind_ok, if_pos g3, if_pos g4, if_pos g5]; simp [bindP, evv, ev])]
    refine sRet_ok ?_
    simp only [eOp, eVar, eC, oMul, oAdd, oDiv, List.getElem?_cons_zero, List.getElem?_cons_succ, Res.bind_ok, if_pos g6]
    rw [if_pos (by decide)]
end BB
namespace BB
open PySem L2
local macro_rules | `(tactic| walk_at "ev") => `(tactic| simp [sRet, sSeq, sIf, sAsg, sPar, sExpr, sNever, sNil, sAug, tBl, tAnd, tOr, tNot, eTup, eLst, aCons, aNil, eC, eOp, eUn, uNeg, eCB, eCall, eIx, eSl, pSome, pNone, eVar, eAnd, eOr, eNot, eIf, eChain, fLen, fIsi, tyD, seqOf, lstOf, ixD, dicOf, atI, ixN, oAdd, oSub, oLt, oLe, oGt, oAddI, bindP, bindPs, kb_int_int, kb_int_bool, kb_list_list, kb_tuple_tuple, iSeq, srcOf, iRange1, iRange2])
def lawCells (ns : List Int) : List Int := if ns = [] then [5] else ns.take 63
def lawWhole (ns : List Int) (by_ : Int) : Int := (lawCells ns).sum + by_
def lawFar (ns : List Int) (by_ : Int) : Int := lawNum (lawWhole ns by_) (by_ + 1) 3
def lawCell (ns : List Int) (i : Int) : Int := (lawCells ns).getD (i % (lawCells ns).length).toNat 0
def lawPrice (ns : List Int) (by_ a : Int) : Int :=
  let n := lawNum (lawCell ns (a + by_) + 5 * a) (a + by_) (lawWhole ns by_) / 3
  let sort := lawFar ns by_ / 225 % 3
  if sort = 0 then 1 + n % 9 else if sort = 1 then 1 + lawFar ns by_ / 2700 % 9 else if n % 4 = 0 then 1 else if n % 4 = 1 then 9 else 2
def lawHit (ns : List Int) (by_ rows c r : Int) : Bool :=
  let d := lawNum (lawCell ns (c + by_) + 104729 * r) (5 * c + r) (lawWhole ns by_) / 27
  let kind := lawFar ns by_ / 675 % 4
  if kind = 0 then decide (d % 3 > 0) else if kind = 1 then decide (d % 5 = 0) else if kind = 2 then true else decide (r = lawFar ns by_ / 24300 % (rows + 1))
def lawCols (ns : List Int) (by_ most : Int) : Int := lawFar ns by_ / 9 % (most + 1)
def lawRows (ns : List Int) (by_ most : Int) : Int := lawFar ns by_ / 45 % (most + 1)
def lawPrices (ns : List Int) (by_ most : Int) : List Int := (irange 0 (lawCols ns by_ most + lawRows ns by_ most)).map (lawPrice ns by_)
def lawNuts (ns : List Int) (by_ most : Int) : List (Int × Int) := (irange 0 (lawCols ns by_ most + 1)).flatMap fun c => ((irange 0 (lawRows ns by_ most + 1)).filter (lawHit ns by_ (lawRows ns by_ most) c)).map fun r => (c, r)
def lawBar (ns : List Int) (by_ most : Int) : Bar := ⟨(lawPrices ns by_ most).take (lawCols ns by_ most).toNat, (lawPrices ns by_ most).drop (lawCols ns by_ most).toNat, lawNuts ns by_ most⟩
theorem cells_pos (ns : List Int) : 0 < (lawCells ns).length ∧ (lawCells ns).length ≤ 63 := by
  unfold lawCells
  split
  · simp
  · rename_i h
    cases ns with
    | nil => exact absurd rfl h
    | cons a r => simp; omega
section
variable {ns : List Int} {by_ most : Int} (hm : 0 ≤ most ∧ most ≤ 4)
include hm
theorem lawCols_b : 0 ≤ lawCols ns by_ most ∧ lawCols ns by_ most ≤ most := ⟨Int.emod_nonneg _ (by omega), by have := Int.emod_lt_of_pos (lawFar ns by_ / 9) (show 0 < most + 1 by omega); unfold lawCols; omega⟩
theorem lawRows_b : 0 ≤ lawRows ns by_ most ∧ lawRows ns by_ most ≤ most := ⟨Int.emod_nonneg _ (by omega), by have := Int.emod_lt_of_pos (lawFar ns by_ / 45) (show 0 < most + 1 by omega); unfold lawRows; omega⟩
theorem lawPrices_len : ((lawPrices ns by_ most).length : Int) = lawCols ns by_ most + lawRows ns by_ most := by
  have := lawCols_b (ns := ns) (by_ := by_) hm
  have := lawRows_b (ns := ns) (by_ := by_) hm
  simp [lawPrices, irange_len]; omega
theorem lawP_len : ((lawBar ns by_ most).p.length : Int) = lawCols ns by_ most := by
  have := lawCols_b (ns := ns) (by_ := by_) hm
  have := lawRows_b (ns := ns) (by_ := by_) hm
  have := lawPrices_len (ns := ns) (by_ := by_) hm
  simp [lawBar]; omega
theorem lawQ_len : ((lawBar ns by_ most).q.length : Int) = lawRows ns by_ most := by
  have := lawCols_b (ns := ns) (by_ := by_) hm
  have := lawRows_b (ns := ns) (by_ := by_) hm
  have := lawPrices_len (ns := ns) (by_ := by_) hm
  simp [lawBar]; omega
theorem lawPrice_b (a : Int) : 1 ≤ lawPrice ns by_ a ∧ lawPrice ns by_ a ≤ 9 := by
  unfold lawPrice
  dsimp only
  repeat' split
  all_goals omega
theorem lawBar_ok : OkBar (lawBar ns by_ most) := by
  have h1 := lawCols_b (ns := ns) (by_ := by_) hm
  have h2 := lawRows_b (ns := ns) (by_ := by_) hm
  have h3 := lawP_len (ns := ns) (by_ := by_) hm
  have h4 := lawQ_len (ns := ns) (by_ := by_) hm
  refine ⟨by omega, by omega, ?_, ?_, ?_, ?_, ?_⟩
  · intro x hx
    have := List.mem_of_mem_take hx
    obtain ⟨a, _, rfl⟩ := List.mem_map.mp this
    exact lawPrice_b hm a
  · intro x hx
    have := List.mem_of_mem_drop hx
    obtain ⟨a, _, rfl⟩ := List.mem_map.mp this
    exact lawPrice_b hm a
  · show (lawNuts ns by_ most).length ≤ 1000
    unfold lawNuts
    refine Nat.le_trans (flatMap_len (n := 5) fun c _ => ?_) ?_
    · rw [List.length_map]
      refine Nat.le_trans (List.length_filter_le _ _) ?_
      rw [irange_len]; omega
    · rw [irange_len]; omega
  · intro c hc
    have hc : c ∈ lawNuts ns by_ most := hc
    unfold lawNuts at hc
    simp only [List.mem_flatMap, List.mem_map, List.mem_filter, mem_irange] at hc
    obtain ⟨a, ha, r, hr, rfl⟩ := hc
    refine ⟨ha.1, ?_, hr.1.1, ?_⟩
    · dsimp only; omega
    · dsimp only; omega
  · show (lawNuts ns by_ most).Pairwise ltC
    unfold lawNuts
    simp only [List.pairwise_flatMap, List.pairwise_map, List.mem_map, List.mem_filter]
    refine ⟨fun c _ => ?_, (irange_lt _ _).imp fun {a b} h => ?_⟩
    · exact List.Pairwise.filter _ ((irange_lt _ _).imp fun h => .inr ⟨rfl, h⟩)
    · rintro x ⟨r, _, rfl⟩ y ⟨r', _, rfl⟩
      exact .inl h
end
abbrev envB (ns : List Int) (by_ most : Int) (a b c d e : Option DV) : Env := [some (.scr ns), some (.int by_), some (.int most), some (.lst ((lawCells ns).map .int)), some (.int (lawWhole ns by_)), some (.loc 0), some (.loc 1), some (.int (lawFar ns by_)), some (.int (lawCols ns by_ most)), some (.int (lawRows ns by_ most)), some (.int (lawFar ns by_ / 225 % 3)), some (.int (lawFar ns by_ / 675 % 4)), a, b, c, d, e]
theorem cutD_63 (ns : List Int) : cutD (ns.map DV.int) none (some 63) = (ns.take 63).map .int := by
  unfold cutD HT.sIx
  simp only [Nat.sub_zero, List.drop_zero, List.length_map]
  rw [if_neg (by omega), List.map_take]
  have : (63 : Int).toNat = 63 := rfl
  rw [this, Nat.min_def]
  split
  · rfl
  · rw [List.take_of_length_le (by simp), List.take_of_length_le (by simp; omega)]
theorem e_lawcells (ns : List Int) (e : Env) (h0 : e[0]? = some (some (.scr ns))) : eIf (tBl (eOp oNe (eVar 0) (eLst false aNil))) (eSl false (eVar 0) pNone (pSome (eC (.int 63)))) (eLst false (aCons (eC (.int 5)) aNil)) e [] = .ok (.lst ((lawCells ns).map .int)) [] := by
  have hne : oNe (.scr ns) (.lst []) [] = .ok (.bl (decide (ns ≠ []))) [] := by
    have h1 := PySem.W.shaped_ints ns
    have h2 := PySem.W.shaped_ints []
    simp only [List.map_nil] at h2
    simp only [oNe, py, pyW, pyWL, Option.map_some, h1, h2, and_self, if_true]
    cases ns <;> simp [PyData.eqv, PyData.eqvAll]
  have ht : tBl (eOp oNe (eVar 0) (eLst false aNil)) e [] = .ok (decide (ns ≠ [])) [] := by
    simp [tBl, eOp, eVar, h0, eLst, aNil, newL, hne]
  rw [eIf, ht]
  simp only [Res.bind_ok]
  by_cases h : ns = []
  · subst h
    simp [eLst, aCons, aNil, eC, newL, lawCells]
  · rw [if_pos (by simpa using h)]
    simp only [eSl, eVar, h0, Res.bind_ok, pNone, pSome, eC, slD, newL, cutD_63, lawCells, if_neg h]
    simp
theorem e_lawcell {ns : List Int} {e : Env} {sto : Sto} {m : EM} {i : Int} (h3 : e[3]? = some (some (.lst ((lawCells ns).map .int)))) (hm : m e sto = .ok (.int i) sto) : eIx (eVar 3) (eOp oMod m (eCB fLen (aCons (eVar 3) aNil))) e sto = .ok (.int (lawCell ns i)) sto := by
  have hc := cells_pos ns
  have hp : (0 : Int) < (lawCells ns).length := by omega
  have h1 : eOp oMod m (eCB fLen (aCons (eVar 3) aNil)) e sto = .ok (.int (i % (lawCells ns).length)) sto := by
    simp only [eOp, hm, Res.bind_ok, eCB, aCons, aNil, eVar, h3, fLen, seqOf, lstOf, List.length_map, oMod, if_pos hp]
  rw [eIx_ok (x := .lst ((lawCells ns).map .int)) (s1 := sto) (by simp [eVar, h3]) h1]
  have g1 := Int.emod_nonneg i (b := ((lawCells ns).length : Int)) (by omega)
  have g2 := Int.emod_lt_of_pos i hp
  exact ix_lst g1 (getD_some g1 g2)
theorem push_ok {n : Nat} {a : EM} {env : Env} {sto : Sto} {k : Nat} {ds : List DV} {d : DV} (hk : env[n]? = some (some (.loc k))) (hs : sto[k]? = some (.lst ds)) (ha : a env sto = .ok d sto) (hl : ds.length < 1000000) : sExpr (eBM mAppend (eVar n) (aCons a aNil)) env sto = .nx env (sto.set k (.lst (ds ++ [d]))) := by
  have hv : eVar n env sto = .ok (.loc k) sto := by simp [eVar, hk]
  unfold sExpr eBM
  simp only [hv, Res.bind_ok, hs, aCons, aNil, ha, mAppend]
  simp [hl]
theorem e_lawbar (ns : List Int) (by_ most : Int) (hb : 0 ≤ by_ ∧ by_ ≤ 100) (hm : 0 ≤ most ∧ most ≤ 4) : G__law_bar [.scr ns, .int by_, .int most] = .ok (encBar (lawBar ns by_ most)) := by
  have h1 := lawCols_b (ns := ns) (by_ := by_) hm
  have h2 := lawRows_b (ns := ns) (by_ := by_) hm
  have hpl := lawPrices_len (ns := ns) (by_ := by_) hm
  refine runP_frz (d := .tup [.lst ((lawBar ns by_ most).p.map .int), .lst ((lawBar ns by_ most).q.map .int), .loc 1]) (sto := [.lst ((lawPrices ns by_ most).map .int), .lst ((lawNuts ns by_ most).map encC)]) rfl ?_ ?_
  rotate_left
  · simp [frz, frzW, frzWL, flookW, frzWL_id, encBar]
    rfl
  simp only [m__law_bar]
  rw [sSeq_nx (e := [some (.scr ns), some (.int by_), some (.int most), some (.lst ((lawCells ns).map .int)), none, none, none, none, none, none, none, none, none, none, none, none, none]) (s := []) (sAsg_ok (e_lawcells ns _ rfl) rfl)]
  rw [sSeq_nx (e := [some (.scr ns), some (.int by_), some (.int most), some (.lst ((lawCells ns).map .int)), some (.int (lawWhole ns by_)), some (.loc 0), some (.loc 1), none, none, none, none, none, none, none, none, none, none]) (s := [.lst [], .lst []]) (by
    simp [sPar3, aCons, aNil, eOp, eCB, eVar, sum_ok, oAdd, eLst, newL, lawWhole])]
  rw [sSeq_nx (e := [some (.scr ns), some (.int by_), some (.int most), some (.lst ((lawCells ns).map .int)), some (.int (lawWhole ns by_)), some (.loc 0), some (.loc 1), some (.int (lawFar ns by_)), none, none, none, none, none, none, none, none, none]) (s := [.lst [], .lst []]) (sAsg_ok (eCall_ok (ds := [.int (lawWhole ns by_), .int (by_ + 1), .int 3]) (by simp [aCons, aNil, eOp, eVar, eC, oAdd]) (by simp) (e_number _ _ _ (by omega))) rfl)]
  have hd9 : (0 : Int) < most + 1 := by omega
  rw [sSeq_nx (e := [some (.scr ns), some (.int by_), some (.int most), some (.lst ((lawCells ns).map .int)), some (.int (lawWhole ns by_)), some (.loc 0), some (.loc 1), some (.int (lawFar ns by_)), some (.int (lawCols ns by_ most)), some (.int (lawRows ns by_ most)), none, none, none, none, none, none, none]) (s := [.lst [], .lst []]) (by
    simp [sPar, aCons, aNil, eOp, eVar, eC, oAdd, oDiv, oMod, hd9, lawCols, lawRows])]
  rw [sSeq_nx (e := envB ns by_ most none none none none none) (s := [.lst [], .lst []]) (by
    simp [sPar, aCons, aNil, eOp, eVar, eC, oAdd, oDiv, oMod])]
  rw [sSeq_nx (e := envB ns by_ most none none none none none) (s := [.lst ((lawPrices ns by_ most).map .int), .lst []])]
  rotate_left
  · rw [sFor_fix (xs := (irange 0 (lawCols ns by_ most + lawRows ns by_ most)).map DV.int) (s := [.lst [], .lst []]) (iRange1_ok (by simp [aCons, aNil, eOp, eVar, oAdd]) (by omega))]
    rw [show wipeE (envB ns by_ most none none none none none) [12, 14] = envB ns by_ most none none none none none from rfl]
    rw [runL_ext (St := fun a => [.lst a, .lst []]) (M := 1000) (n := 1) (f := fun a => [.int (lawPrice ns by_ a)]) (irange 0 (lawCols ns by_ most + lawRows ns by_ most)) []]
    · simp [lawPrices, ← List.map_eq_flatMap, Function.comp_def]
    · simp
    · simp [irange_len]; omega
    intro acc a ha hacc
    have ha := mem_irange.mp ha
    have hnum : ∃ n, n = lawNum (lawCell ns (a + by_) + 5 * a) (a + by_) (lawWhole ns by_) / 3 := ⟨_, rfl⟩
    obtain ⟨n, hn⟩ := hnum
    refine ⟨envB ns by_ most (some (.int a)) none none none none, rfl, envB ns by_ most (some (.int a)) none (some (.int n)) none none, ?_, rfl⟩
    rw [sSeq_nx (e := envB ns by_ most (some (.int a)) none (some (.int n)) none none) (s := [.lst acc, .lst []]) (sAsg_ok (d := .int n) (by
      rw [eOp_ok (s1 := [.lst acc, .lst []]) (eCall_ok (ds := [.int (lawCell ns (a + by_) + 5 * a), .int (a + by_), .int (lawWhole ns by_)]) (s := [.lst acc, .lst []]) (by
        rw [aCons, eOp_ok (s1 := [.lst acc, .lst []]) (e_lawcell (ns := ns) (i := a + by_) rfl (by simp [eOp, eVar, oAdd])) (y := .int (5 * a)) (s2 := [.lst acc, .lst []]) (by
          have : (5 : Int).natAbs < 2 ^ 250 ∧ a.natAbs < 2 ^ 250 := by omega
          simp only [eOp, eC, eVar, Res.bind_ok, List.getElem?_cons_zero, List.getElem?_cons_succ, oMul, if_pos this])]
        simp [oAdd, aCons, aNil, eOp, eVar]) (by simp) (e_number _ _ _ (by omega))) (y := .int 3) (s2 := [.lst acc, .lst []]) rfl]
      simp [oDiv, hn]) rfl)]
    rw [push_ok (k := 0) (ds := acc) (d := .int (lawPrice ns by_ a)) rfl rfl ?_ (by omega)]
    · rfl
    have hsort : lawFar ns by_ / 225 % 3 = 0 ∨ lawFar ns by_ / 225 % 3 = 1 ∨ lawFar ns by_ / 225 % 3 = 2 := by omega
    have hn4 : n % 4 = 0 ∨ n % 4 = 1 ∨ n % 4 = 2 ∨ n % 4 = 3 := by omega
    simp only [lawPrice, ← hn]
    rcases hsort with h | h | h <;> rcases hn4 with h' | h' | h' | h' <;> (simp only [h, h']; walk_at "ev"; simp [oMod, oDiv, h', h])
  rw [sSeq_nx (e := envB ns by_ most none none none none none) (s := [.lst ((lawPrices ns by_ most).map .int), .lst ((lawNuts ns by_ most).map encC)])]
  · refine sRet_ok ?_
    have e1 : cutD ((lawPrices ns by_ most).map DV.int) none (some (lawCols ns by_ most)) = (lawBar ns by_ most).p.map .int := by
      unfold cutD HT.sIx
      simp only [Nat.sub_zero, List.drop_zero, List.length_map]
      rw [if_neg (by omega), Nat.min_eq_left (by omega), ← List.map_take]
      rfl
    have e2 : cutD ((lawPrices ns by_ most).map DV.int) (some (lawCols ns by_ most)) none = (lawBar ns by_ most).q.map .int := by
      unfold cutD HT.sIx
      simp only [List.length_map]
      rw [if_neg (by omega), Nat.min_eq_left (by omega), List.take_of_length_le (by simp), ← List.map_drop]
      rfl
    simp [eTup, aCons, aNil, eSl, eVar, pNone, pSome, slD, lstOf, newL, e1, e2]
  rw [sFor_fix (xs := (irange 0 (lawCols ns by_ most + 1)).map DV.int) (s := [.lst ((lawPrices ns by_ most).map .int), .lst []]) (iRange1_ok (by simp [aCons, aNil, eOp, eVar, eC, oAdd]) (by omega))]
  rw [show wipeE (envB ns by_ most none none none none none) [13, 15, 16] = envB ns by_ most none none none none none from rfl]
  have hone : ∀ c r : Int, (if lawHit ns by_ (lawRows ns by_ most) c r = true then [encC (c, r)] else []).length ≤ 1 := by
    intro c r; split <;> simp
  rw [runL_ext (St := fun a => [.lst ((lawPrices ns by_ most).map .int), .lst a]) (M := 1000) (n := 5) (f := fun c => (irange 0 (lawRows ns by_ most + 1)).flatMap fun r => if lawHit ns by_ (lawRows ns by_ most) c r = true then [encC (c, r)] else []) (irange 0 (lawCols ns by_ most + 1)) []]
  · have hf : ∀ c, ((irange 0 (lawRows ns by_ most + 1)).flatMap fun r => if lawHit ns by_ (lawRows ns by_ most) c r = true then [encC (c, r)] else []) = (((irange 0 (lawRows ns by_ most + 1)).filter (lawHit ns by_ (lawRows ns by_ most) c)).map fun r => (c, r)).map encC := by
      intro c
      induction irange 0 (lawRows ns by_ most + 1) with
      | nil => rfl
      | cons r rs ih =>
        simp only [List.flatMap_cons, ih]
        by_cases hh : lawHit ns by_ (lawRows ns by_ most) c r = true
        · simp [hh]
        · simp [hh]
    simp only [hf, lawNuts, List.map_flatMap, List.nil_append]
  · intro c _
    refine Nat.le_trans (flatMap_len (n := 1) fun r _ => hone c r) ?_
    rw [irange_len]; omega
  · simp [irange_len]; omega
  intro acc c hc hacc
  have hc := mem_irange.mp hc
  refine ⟨envB ns by_ most none (some (.int c)) none none none, rfl, envB ns by_ most none (some (.int c)) none none none, ?_, rfl⟩
  rw [sFor_fix (xs := (irange 0 (lawRows ns by_ most + 1)).map DV.int) (s := [.lst ((lawPrices ns by_ most).map .int), .lst acc]) (iRange1_ok (by simp [aCons, aNil, eOp, eVar, eC, oAdd]) (by omega))]
  rw [show wipeE (envB ns by_ most none (some (.int c)) none none none) [15, 16] = envB ns by_ most none (some (.int c)) none none none from rfl]
  refine runL_ext (St := fun a => [.lst ((lawPrices ns by_ most).map .int), .lst a]) (M := 2000) (n := 1) (f := fun r => if lawHit ns by_ (lawRows ns by_ most) c r = true then [encC (c, r)] else []) (irange 0 (lawRows ns by_ most + 1)) acc (fun r _ => hone c r) ?_ ?_
  · simp [irange_len]; omega
  intro acc r hr hacc
  have hr := mem_irange.mp hr
  have hnum : ∃ n, n = lawNum (lawCell ns (c + by_) + 104729 * r) (5 * c + r) (lawWhole ns by_) / 27 := ⟨_, rfl⟩
  obtain ⟨n, hn⟩ := hnum
  refine ⟨envB ns by_ most none (some (.int c)) none (some (.int r)) none, rfl, envB ns by_ most none (some (.int c)) none (some (.int r)) (some (.int n)), ?_, rfl⟩
  rw [sSeq_nx (e := envB ns by_ most none (some (.int c)) none (some (.int r)) (some (.int n))) (s := [.lst ((lawPrices ns by_ most).map .int), .lst acc]) (sAsg_ok (d := .int n) (by
    rw [eOp_ok (s1 := [.lst ((lawPrices ns by_ most).map .int), .lst acc]) (eCall_ok (ds := [.int (lawCell ns (c + by_) + 104729 * r), .int (5 * c + r), .int (lawWhole ns by_)]) (s := [.lst ((lawPrices ns by_ most).map .int), .lst acc]) (by
      rw [aCons, eOp_ok (s1 := [.lst ((lawPrices ns by_ most).map .int), .lst acc]) (e_lawcell (ns := ns) (i := c + by_) rfl (by simp [eOp, eVar, oAdd])) (y := .int (104729 * r)) (s2 := [.lst ((lawPrices ns by_ most).map .int), .lst acc]) (by
        have : (104729 : Int).natAbs < 2 ^ 250 ∧ r.natAbs < 2 ^ 250 := by omega
        simp only [eOp, eC, eVar, Res.bind_ok, List.getElem?_cons_zero, List.getElem?_cons_succ, oMul, if_pos this])]
      have : (5 : Int).natAbs < 2 ^ 250 ∧ c.natAbs < 2 ^ 250 := by omega
      simp only [eOp, eC, eVar, Res.bind_ok, List.getElem?_cons_zero, List.getElem?_cons_succ, oMul, if_pos this, oAdd, aCons, aNil]) (by simp) (e_number _ _ _ (by omega))) (y := .int 27) (s2 := [.lst ((lawPrices ns by_ most).map .int), .lst acc]) rfl]
    simp [oDiv, hn]) rfl)]
  have hhit : ∀ sto, tBl (eIx (eTup (aCons (eOp oGt (eOp oMod (eVar 16) (eC (.int 3))) (eC (.int 0))) (aCons (eOp oEq (eOp oMod (eVar 16) (eC (.int 5))) (eC (.int 0))) (aCons (eC (.bl true)) (aCons (eOp oEq (eVar 15) (eOp oMod (eOp oDiv (eVar 7) (eC (.int 24300))) (eOp (oAdd false) (eVar 9) (eC (.int 1))))) aNil))))) (eVar 11)) (envB ns by_ most none (some (.int c)) none (some (.int r)) (some (.int n))) sto = .ok (lawHit ns by_ (lawRows ns by_ most) c r) sto := by
    intro sto
    have hkind : lawFar ns by_ / 675 % 4 = 0 ∨ lawFar ns by_ / 675 % 4 = 1 ∨ lawFar ns by_ / 675 % 4 = 2 ∨ lawFar ns by_ / 675 % 4 = 3 := by omega
    have hrow : (0 : Int) < lawRows ns by_ most + 1 := by omega
    simp only [lawHit, ← hn]
    rcases hkind with h | h | h | h <;> (simp only [h]; walk_at "ev"; simp [oMod, oDiv, hrow, h])
  rw [sIf_ok (hhit _)]
  by_cases hh : lawHit ns by_ (lawRows ns by_ most) c r = true
  · rw [if_pos hh, if_pos hh]
    exact push_ok (k := 1) (ds := acc) (d := encC (c, r)) rfl rfl (by simp [eTup, aCons, aNil, eVar, encC]) (by omega)
  · rw [if_neg hh, if_neg hh]
    simp [sNil]
end BB
namespace BB
open PySem L2
local macro_rules | `(tactic| walk_at "ev") => `(tactic| simp [sRet, sSeq, sIf, sAsg, sPar, sExpr, sNever, sNil, sAug, tBl, tAnd, tOr, tNot, eTup, eLst, aCons, aNil, eC, eOp, eUn, uNeg, eCB, eCall, eIx, eSl, pSome, pNone, eVar, eAnd, eOr, eNot, eIf, eChain, fLen, fIsi, tyD, seqOf, lstOf, ixD, dicOf, atI, ixN, oAdd, oSub, oLt, oLe, oGt, oAddI, bindP, bindPs, kb_int_int, kb_int_bool, kb_list_list, kb_tuple_tuple, iSeq, srcOf, iRange1, iRange2])
theorem e_lawwhole (B : Bar) : G__law_whole_piece [encBar B] = .ok (encP (wholeP B)) := by
  refine runP_rt (sto := []) rfl ?_ (by simp)
  simp only [m__law_whole_piece, encBar, encP, wholeP]
  walk_at "ev"
theorem cnt_fold (P : Pc) : ∀ (ns : List (Int × Int)) (a : Int), ns.foldl (fun a c => a + if inP P c = true then 1 else 0) a = a + ((ns.filter (inP P)).length : Nat)
  | [], a => by simp
  | c :: ns, a => by
    simp only [List.foldl_cons]
    rw [cnt_fold P ns]
    by_cases h : inP P c = true
    · simp [h]; omega
    · simp [h]
theorem e_lawnuts (B : Bar) (P : Pc) : G__law_nuts [encBar B, encP P] = .ok (.int (cnt B P)) := by
  refine runP_rt (sto := []) rfl ?_ (by simp)
  simp only [m__law_nuts]
  rw [sSeq_nx (e := [some (encBar B), some (encP P), some (.int 0), none, none]) (s := []) (by rfl)]
  rw [sSeq_nx (e := [some (encBar B), some (encP P), some (.int (cnt B P)), none, none]) (s := [])]
  · rfl
  rw [sFor_fix (xs := B.nuts.map encC) (s := []) (iSeq_lst (by simp only [encBar]; walk_at "ev"))]
  have hc : cnt B P = B.nuts.foldl (fun a c => a + if inP P c = true then 1 else 0) 0 := by rw [cnt_fold]; simp [cnt]
  rw [hc]
  refine (runL_fold (enc := encC) (E := fun a => [some (encBar B), some (encP P), some (.int a), none, none]) (St := fun _ => []) (step := fun a c => a + if inP P c = true then 1 else 0) (I := fun _ => True) B.nuts 0 trivial ?_).1
  intro a _ c _
  refine ⟨trivial, [some (encBar B), some (encP P), some (.int a), some (.int c.1), some (.int c.2)], rfl, [some (encBar B), some (encP P), some (.int (a + if inP P c = true then 1 else 0)), some (.int c.1), some (.int c.2)], ?_, rfl⟩
  simp only [encP]
  walk_at "ev"
  by_cases h1 : P.l ≤ c.1 <;> by_cases h2 : c.1 < P.r <;> by_cases h3 : P.t ≤ c.2 <;> by_cases h4 : c.2 < P.b <;> simp [h1, h2, h3, h4, inP, fInt]
def cutD' (B : Bar) (P : Pc) (y : Int × Int) : DV := .tup [.int y.1, .int y.2, .int (price B y.1 y.2), encP (part1 P y.1 y.2), encP (part2 P y.1 y.2)]
@[simp] theorem noLoc_cut (B : Bar) (P : Pc) (y : Int × Int) : noLoc (cutD' B P y) = true := by simp [cutD']
abbrev envK (B : Bar) (P : Pc) (a : Option DV) : Env := [some (encBar B), some (encP P), some (.int P.l), some (.int P.t), some (.int P.r), some (.int P.b), some (.loc 0), a]
theorem e_lawcuts (B : Bar) (P : Pc) (hP : P ∈ allP B) (hp : B.p.length ≤ 20) (hq : B.q.length ≤ 20) : G__law_cuts [encBar B, encP P] = .ok (.lst ((linesD P).map (cutD' B P))) := by
  have hm := mem_allP.mp hP
  refine runP_frz (d := .loc 0) (sto := [.lst ((linesD P).map (cutD' B P))]) rfl ?_ (by
    have : noLocL ((linesD P).map (cutD' B P)) = true := noLocL_map (fun _ => by simp) _
    simp [frz, frzW, flookW, frzWL_id _ _ this])
  simp only [m__law_cuts]
  rw [sSeq_nx (e := [some (encBar B), some (encP P), some (.int P.l), some (.int P.t), some (.int P.r), some (.int P.b), none, none]) (s := []) (by rfl)]
  rw [sSeq_nx (e := envK B P none) (s := [.lst []]) (by rfl)]
  rw [sSeq_nx (e := envK B P none) (s := [.lst ((irange (P.l + 1) P.r).map fun x => cutD' B P (0, x))])]
  rotate_left
  · rw [sFor_fix (xs := (irange (P.l + 1) P.r).map DV.int) (s := [.lst []]) (iRange2_ok (by walk_at "ev") (by omega) (by omega))]
    rw [show wipeE (envK B P none) [7] = envK B P none from rfl]
    rw [runL_ext (St := fun a => [.lst a]) (M := 1000) (n := 1) (f := fun x => [cutD' B P (0, x)]) (irange (P.l + 1) P.r) []]
    · simp [← List.map_eq_flatMap]
    · simp
    · simp [irange_len]; omega
    intro acc x hx hacc
    have hx := mem_irange.mp hx
    refine ⟨envK B P (some (.int x)), rfl, envK B P (some (.int x)), ?_, rfl⟩
    refine (push_ok (k := 0) (ds := acc) (d := cutD' B P (0, x)) rfl rfl ?_ (by omega)).trans rfl
    have hpr : eIx (eIx (eVar 0) (eC (.int 0))) (eOp oSub (eVar 7) (eC (.int 1))) (envK B P (some (.int x))) [.lst acc] = .ok (.int (price B 0 x)) [.lst acc] := by
      rw [eIx_ok (x := .lst (B.p.map .int)) (y := .int (x - 1)) (s1 := [.lst acc]) (s2 := [.lst acc]) (by simp only [envK, encBar]; walk_at "ev") (by walk_at "ev"), ix_lst (by omega) (getD_some (by omega) (by omega))]
      simp [price]
    simp [eTup, aCons, aNil, hpr, eVar, eC, cutD', encP, part1, part2]
  rw [sSeq_nx (e := envK B P none) (s := [.lst ((linesD P).map (cutD' B P))])]
  · rfl
  rw [sFor_fix (xs := (irange (P.t + 1) P.b).map DV.int) (s := [.lst ((irange (P.l + 1) P.r).map fun x => cutD' B P (0, x))]) (iRange2_ok (by walk_at "ev") (by omega) (by omega))]
  rw [show wipeE (envK B P none) [7] = envK B P none from rfl]
  rw [runL_ext (St := fun a => [.lst a]) (M := 1000) (n := 1) (f := fun x => [cutD' B P (1, x)]) (irange (P.t + 1) P.b) ((irange (P.l + 1) P.r).map fun x => cutD' B P (0, x))]
  · simp [← List.map_eq_flatMap, linesD, Function.comp_def]
  · simp
  · simp [irange_len]; omega
  intro acc x hx hacc
  have hx := mem_irange.mp hx
  refine ⟨envK B P (some (.int x)), rfl, envK B P (some (.int x)), ?_, rfl⟩
  refine (push_ok (k := 0) (ds := acc) (d := cutD' B P (1, x)) rfl rfl ?_ (by omega)).trans rfl
  have hpr : eIx (eIx (eVar 0) (eC (.int 1))) (eOp oSub (eVar 7) (eC (.int 1))) (envK B P (some (.int x))) [.lst acc] = .ok (.int (price B 1 x)) [.lst acc] := by
    rw [eIx_ok (x := .lst (B.q.map .int)) (y := .int (x - 1)) (s1 := [.lst acc]) (s2 := [.lst acc]) (by simp only [envK, encBar]; walk_at "ev") (by walk_at "ev"), ix_lst (by omega) (getD_some (by omega) (by omega))]
    simp [price]
  simp [eTup, aCons, aNil, hpr, eVar, eC, cutD', encP, part1, part2]
end BB
/-! Histograms of costs. -/
namespace BB
abbrev Hs := List (Int × Int)
def bump : Hs → Int → Int → Hs
  | [], c, w => [(c, w)]
  | x :: h, c, w => if x.1 = c then (x.1, x.2 + w) :: h else x :: bump h c w
def vl : Hs → Int → Option Int
  | [], _ => none
  | x :: h, c => if x.1 = c then some x.2 else vl h c
def kys (h : Hs) : List Int := h.map (·.1)
def tot (h : Hs) : Int := (h.map (·.2)).sum
theorem kys_bump (c w : Int) : ∀ h : Hs, kys (bump h c w) = if c ∈ kys h then kys h else kys h ++ [c]
  | [] => by simp [kys, bump]
  | x :: h => by
    have ih := kys_bump c w h
    by_cases e : x.1 = c
    · subst e; simp [bump, kys]
    · have e' : ¬ c = x.1 := fun z => e z.symm
      simp only [bump, e, if_false]
      simp only [kys, List.map_cons, List.mem_cons, e', false_or] at ih ⊢
      rw [ih]
      by_cases m : c ∈ List.map (fun x => x.1) h <;> simp only [m, if_true, if_false, List.cons_append]
theorem nodup_bump {c w : Int} {h : Hs} (nd : (kys h).Nodup) : (kys (bump h c w)).Nodup := by
  rw [kys_bump]
  split
  · exact nd
  · rename_i e
    rw [List.nodup_append]
    refine ⟨nd, by simp, ?_⟩
    intro a ha b hb z
    simp at hb
    subst z; subst hb
    exact e ha
theorem tot_bump (c w : Int) : ∀ h : Hs, tot (bump h c w) = tot h + w
  | [] => by simp [tot, bump]
  | x :: h => by
    have ih := tot_bump c w h
    by_cases e : x.1 = c
    · simp [bump, e, tot]; omega
    · simp only [bump, e, if_false]
      simp only [tot, List.map_cons, List.sum_cons] at ih ⊢
      omega
theorem vl_none {c : Int} : ∀ {h : Hs}, c ∉ kys h → vl h c = none
  | [], _ => rfl
  | x :: h, e => by
    simp only [kys, List.map_cons, List.mem_cons, not_or] at e
    simp only [vl]
    rw [if_neg fun z => e.1 z.symm]
    exact vl_none e.2
theorem vl_mem {x : Int × Int} : ∀ {h : Hs}, (kys h).Nodup → x ∈ h → vl h x.1 = some x.2
  | [], _, m => by cases m
  | y :: h, nd, m => by
    simp only [kys, List.map_cons, List.nodup_cons] at nd
    simp only [vl]
    rcases List.mem_cons.mp m with rfl | m
    · simp
    · rw [if_neg (fun z : y.1 = x.1 => nd.1 (z ▸ List.mem_map_of_mem m))]
      exact vl_mem nd.2 m
theorem mem_bump {c w : Int} {x : Int × Int} : ∀ {h : Hs}, (kys h).Nodup → (x ∈ bump h c w ↔ (x ∈ h ∧ x.1 ≠ c) ∨ x = (c, (vl h c).getD 0 + w))
  | [], _ => by simp [bump, vl]
  | y :: h, nd => by
    have nd' := nd
    simp only [kys, List.map_cons, List.nodup_cons] at nd
    have ih := mem_bump (c := c) (w := w) (x := x) nd.2
    by_cases e : y.1 = c
    · subst e
      simp only [bump, vl, if_true, List.mem_cons, Option.getD_some]
      constructor
      · rintro (h1 | h1)
        · exact .inr h1
        · exact .inl ⟨.inr h1, fun z => nd.1 (z ▸ List.mem_map_of_mem h1)⟩
      · rintro (⟨rfl | h1, h2⟩ | h1)
        · exact absurd rfl h2
        · exact .inr h1
        · exact .inl h1
    · simp only [bump, vl, e, if_false, List.mem_cons, ih]
      constructor
      · rintro (rfl | h1 | h1)
        · exact .inl ⟨.inl rfl, e⟩
        · exact .inl ⟨.inr h1.1, h1.2⟩
        · exact .inr h1
      · rintro (⟨rfl | h1, h2⟩ | h1)
        · exact .inl rfl
        · exact .inr (.inl ⟨h1, h2⟩)
        · exact .inr (.inr h1)
def Lst (h : Hs) (a : Int × Int) : Prop := (h = [] ∧ a = (-1, 0)) ∨ (a ∈ h ∧ ∀ x ∈ h, a.1 ≤ x.1)
structure HOk (N : Int) (h : Hs) (a : Int × Int) : Prop where
  nd : (kys h).Nodup
  kb : ∀ x ∈ h, 0 ≤ x.1 ∧ x.1 ≤ N
  vb : ∀ x ∈ h, 0 ≤ x.2
  ls : Lst h a
theorem HOk.bump {N : Int} {h : Hs} {a : Int × Int} (o : HOk N h a) {c w : Int} (hc : 0 ≤ c ∧ c ≤ N) (hw : 0 ≤ w) : HOk N (bump h c w) (addW a c w) where
  nd := nodup_bump o.nd
  kb := fun x hx => by
    rcases (mem_bump o.nd).mp hx with h1 | rfl
    · exact o.kb x h1.1
    · exact hc
  vb := fun x hx => by
    rcases (mem_bump o.nd).mp hx with h1 | rfl
    · exact o.vb x h1.1
    · have : 0 ≤ (vl h c).getD 0 := by
        by_cases e : c ∈ kys h
        · obtain ⟨y, hy, rfl⟩ := List.mem_map.mp e
          rw [vl_mem o.nd hy]
          exact o.vb y hy
        · simp [vl_none e]
      dsimp only; omega
  ls := by
    right
    rcases o.ls with ⟨rfl, rfl⟩ | ⟨h1, h2⟩
    · simp [BB.bump, addW]
    · have ha := o.kb a h1
      by_cases e : c < a.1
      · have hk : c ∉ kys h := fun z => by
          obtain ⟨y, hy, rfl⟩ := List.mem_map.mp z
          have := h2 y hy
          omega
        have ea : addW a c w = (c, 0 + w) := by simp [addW, e]
        rw [ea]
        refine ⟨(mem_bump o.nd).mpr (.inr (by rw [vl_none hk]; rfl)), fun x hx => ?_⟩
        rcases (mem_bump o.nd).mp hx with h3 | rfl
        · have := h2 x h3.1
          dsimp only; omega
        · exact Int.le_refl _
      · have hr : ¬ (a.1 < 0 ∨ c < a.1) := by omega
        by_cases e2 : c = a.1
        · have ea : addW a c w = (a.1, a.2 + w) := by simp only [addW, if_neg hr, if_pos e2]
          rw [ea]
          refine ⟨(mem_bump o.nd).mpr (.inr (by rw [e2, vl_mem o.nd h1]; rfl)), fun x hx => ?_⟩
          rcases (mem_bump o.nd).mp hx with h3 | rfl
          · exact h2 x h3.1
          · dsimp only; omega
        · have ea : addW a c w = a := by simp only [addW, if_neg hr, if_neg e2]
          rw [ea]
          refine ⟨(mem_bump o.nd).mpr (.inl ⟨h1, fun z => e2 z.symm⟩), fun x hx => ?_⟩
          rcases (mem_bump o.nd).mp hx with h3 | rfl
          · exact h2 x h3.1
          · dsimp only; omega
/-- all entries -/
def bumps (h : Hs) (es : Hs) : Hs := es.foldl (fun h e => bump h e.1 e.2) h
theorem HOk.bumps {N : Int} : ∀ {es h : Hs} {a : Int × Int}, HOk N h a → (∀ e ∈ es, 0 ≤ e.1 ∧ e.1 ≤ N ∧ 0 ≤ e.2) → HOk N (bumps h es) (es.foldl (fun a e => addW a e.1 e.2) a)
  | [], h, a, o, _ => o
  | e :: es, h, a, o, b => by
    have be := b e (by simp)
    exact HOk.bumps (es := es) (h := BB.bump h e.1 e.2) (a := addW a e.1 e.2) (o.bump ⟨be.1, be.2.1⟩ be.2.2) fun e' h' => b e' (by simp [h'])
theorem tot_bumps : ∀ (es h : Hs), tot (bumps h es) = tot h + tot es
  | [], h => by simp [bumps, tot]
  | e :: es, h => by
    have := tot_bumps es (bump h e.1 e.2)
    rw [tot_bump] at this
    show tot (bumps (bump h e.1 e.2) es) = _
    rw [this]
    simp [tot]; omega
theorem addW_best {a : Int × Int} {c w : Int} (hc : 0 ≤ c) : 0 ≤ (addW a c w).1 ∧ (addW a c w).1 ≤ c := by
  by_cases e : a.1 < 0 ∨ c < a.1
  · simp only [addW, if_pos e, if_true]; omega
  · simp only [addW, if_neg e]; split
    · dsimp only; omega
    · omega
theorem addW_skip : ∀ {es : Hs} {a : Int × Int}, 0 ≤ a.1 → (∀ e ∈ es, a.1 < e.1) → es.foldl (fun a e => addW a e.1 e.2) a = a
  | [], a, _, _ => rfl
  | e :: es, a, h0, h => by
    have he := h e (by simp)
    have : addW a e.1 e.2 = a := by simp only [addW, if_neg (show ¬ (a.1 < 0 ∨ e.1 < a.1) by omega), if_neg (show ¬ e.1 = a.1 by omega)]
    simp only [List.foldl_cons, this]
    exact addW_skip h0 fun e' h' => h e' (by simp [h'])
theorem addW_first {e : Int × Int} {es : Hs} {a : Int × Int} (h0 : 0 ≤ e.1) (h : ∀ x ∈ es, e.1 < x.1) : (e :: es).foldl (fun a e => addW a e.1 e.2) a = addW a e.1 e.2 := by
  simp only [List.foldl_cons]
  have := addW_best (a := a) (c := e.1) (w := e.2) h0
  exact addW_skip this.1 fun x hx => by have := h x hx; omega
/-- a sorted list of a piece: first the least -/
structure Good (N : Int) (L : Hs) (a : Int × Int) (T : Int) : Prop where
  hd : ∃ r, L = a :: r ∧ ∀ x ∈ r, a.1 < x.1
  kb : ∀ x ∈ L, 0 ≤ x.1 ∧ x.1 ≤ N
  vb : ∀ x ∈ L, 0 ≤ x.2
  tb : tot L ≤ T
def pairsE (pr : Int) (L1 L2 : Hs) : Hs := L1.flatMap fun x => L2.map fun z => (pr + x.1 + z.1, x.2 * z.2)
theorem tot_map_mul (k pr : Int) : ∀ L2 : Hs, tot (L2.map fun z => (pr + z.1, k * z.2)) = k * tot L2
  | [] => by simp [tot]
  | z :: L2 => by
    have := tot_map_mul k pr L2
    simp only [tot, List.map_cons, List.sum_cons] at this ⊢
    rw [this, Int.mul_add]
theorem tot_append (a b : Hs) : tot (a ++ b) = tot a + tot b := by simp [tot]
theorem tot_pairs (pr : Int) (L2 : Hs) : ∀ L1 : Hs, tot (pairsE pr L1 L2) = tot L1 * tot L2
  | [] => by simp [tot, pairsE]
  | x :: L1 => by
    have ih := tot_pairs pr L2 L1
    unfold pairsE at ih ⊢
    rw [List.flatMap_cons, tot_append, ih, tot_map_mul]
    have : tot (x :: L1) = x.2 + tot L1 := by simp [tot]
    rw [this, Int.add_mul]
theorem pairs_first {pr N1 N2 : Int} {L1 L2 : Hs} {a1 a2 : Int × Int} {T1 T2 : Int} (g1 : Good N1 L1 a1 T1) (g2 : Good N2 L2 a2 T2) : ∃ r, pairsE pr L1 L2 = (pr + a1.1 + a2.1, a1.2 * a2.2) :: r ∧ ∀ x ∈ r, pr + a1.1 + a2.1 < x.1 := by
  obtain ⟨r1, e1, h1⟩ := g1.hd
  obtain ⟨r2, e2, h2⟩ := g2.hd
  subst e1; subst e2
  refine ⟨(r2.map fun z => (pr + a1.1 + z.1, a1.2 * z.2)) ++ r1.flatMap fun x => (a2 :: r2).map fun z => (pr + x.1 + z.1, x.2 * z.2), by simp [pairsE], ?_⟩
  intro x hx
  simp only [List.mem_append, List.mem_map, List.mem_flatMap, List.mem_cons] at hx
  rcases hx with ⟨z, hz, rfl⟩ | ⟨y, hy, z, rfl | hz, rfl⟩
  · have := h2 z hz; dsimp only; omega
  · have := h1 y hy; dsimp only; omega
  · have := h1 y hy; have := h2 z hz; dsimp only; omega
theorem pairs_ok {pr N1 N2 N : Int} {L1 L2 : Hs} {a1 a2 : Int × Int} {T1 T2 : Int} (g1 : Good N1 L1 a1 T1) (g2 : Good N2 L2 a2 T2) (hpr : 0 ≤ pr) (hN : pr + N1 + N2 ≤ N) : ∀ e ∈ pairsE pr L1 L2, 0 ≤ e.1 ∧ e.1 ≤ N ∧ 0 ≤ e.2 := by
  intro e he
  simp only [pairsE, List.mem_flatMap, List.mem_map] at he
  obtain ⟨x, hx, z, hz, rfl⟩ := he
  have b1 := g1.kb x hx; have b2 := g2.kb z hz
  exact ⟨by dsimp only; omega, by dsimp only; omega, Int.mul_nonneg (g1.vb x hx) (g2.vb z hz)⟩
theorem HOk.pairs {N pr N1 N2 : Int} {h : Hs} {a : Int × Int} (o : HOk N h a) {L1 L2 : Hs} {a1 a2 : Int × Int} {T1 T2 : Int} (g1 : Good N1 L1 a1 T1) (g2 : Good N2 L2 a2 T2) (hpr : 0 ≤ pr) (hN : pr + N1 + N2 ≤ N) :
    HOk N (BB.bumps h (pairsE pr L1 L2)) (addW a (pr + a1.1 + a2.1) (a1.2 * a2.2)) := by
  have hb := pairs_ok g1 g2 hpr hN
  have := HOk.bumps o hb
  obtain ⟨r, e, hr⟩ := pairs_first (pr := pr) g1 g2
  rw [e] at this hb ⊢
  rw [addW_first (hb _ (by simp)).1 hr] at this
  exact this
theorem tot_nonneg : ∀ {h : Hs}, (∀ x ∈ h, 0 ≤ x.2) → 0 ≤ tot h ∧ ∀ x ∈ h, x.2 ≤ tot h
  | [], _ => by simp [tot]
  | y :: h, v => by
    have ih := tot_nonneg (h := h) fun x hx => v x (by simp [hx])
    have hy := v y (by simp)
    have e : tot (y :: h) = y.2 + tot h := by simp [tot]
    rw [e]
    refine ⟨by omega, fun x hx => ?_⟩
    rcases List.mem_cons.mp hx with rfl | hx
    · omega
    · have := ih.2 x hx; omega
theorem kys_len {N : Int} {h : Hs} {a : Int × Int} (o : HOk N h a) (hN : 0 ≤ N) : h.length ≤ (N + 1).toNat := by
  have : kys h ⊆ irange 0 (N + 1) := fun k hk => by
    obtain ⟨x, hx, rfl⟩ := List.mem_map.mp hk
    have := o.kb x hx
    exact mem_irange.mpr (by omega)
  have := List.Nodup.length_le_of_subset o.nd this
  rw [irange_len] at this
  simpa [kys] using this
end BB
namespace BB
open PySem L2
local macro_rules | `(tactic| walk_at "ev") => `(tactic| simp [sRet, sSeq, sIf, sAsg, sPar, sExpr, sNever, sNil, sAug, tBl, tAnd, tOr, tNot, eTup, eLst, aCons, aNil, eC, eOp, eUn, uNeg, eCB, eCall, eIx, eSl, pSome, pNone, eVar, eAnd, eOr, eNot, eIf, eChain, fLen, fIsi, tyD, seqOf, lstOf, ixD, dicOf, atI, ixN, oAdd, oSub, oLt, oLe, oGt, oAddI, bindP, bindPs, kb_int_int, kb_int_bool, kb_list_list, kb_tuple_tuple, iSeq, srcOf, iRange1, iRange2])
def kk (x : Int × Int) : Key := .inl x.1
def vv (x : Int × Int) : DV := .int x.2
theorem put_bumpK (c w : Int) : ∀ h : Hs, putKs (h.map kk) (.inl c) = (bump h c w).map kk
  | [] => by simp [putKs, bump, kk]
  | x :: h => by
    have ih := put_bumpK c w h
    by_cases e : x.1 = c
    · subst e; simp [bump, putKs, kk]
    · have e' : ¬ (Sum.inl c : Key) = kk x := fun z => e (Sum.inl.inj z).symm
      simp only [bump, e, if_false, List.map_cons, ← ih]
      unfold putKs
      by_cases m : (Sum.inl c : Key) ∈ List.map kk h
      · rw [if_pos m, if_pos (List.mem_cons_of_mem _ m)]
      · rw [if_neg m, if_neg (fun z => (List.mem_cons.mp z).elim e' m)]; rfl
theorem put_bumpD (c w : Int) : ∀ h : Hs, putDs (h.map kk) (h.map vv) (.inl c) (.int ((vl h c).getD 0 + w)) = (bump h c w).map vv
  | [] => by simp [putDs, bump, vv, vl]
  | x :: h => by
    have ih := put_bumpD c w h
    by_cases e : x.1 = c
    · subst e; simp [bump, putDs, kk, vl, vv]
    · have e' : ¬ kk x = (Sum.inl c : Key) := fun z => e (Sum.inl.inj z)
      simp only [bump, e, if_false, List.map_cons, putDs, e', vl, ih]
theorem look_vl (c : Int) : ∀ h : Hs, lookK (h.map kk) (h.map vv) (.inl c) = (vl h c).map .int
  | [] => by simp [lookK, vl]
  | x :: h => by
    have ih := look_vl c h
    by_cases e : x.1 = c
    · subst e; simp [lookK, kk, vl, vv]
    · have e' : ¬ kk x = (Sum.inl c : Key) := fun z => e (Sum.inl.inj z)
      simp only [List.map_cons, lookK, e', if_false, vl, e, ih]
def leI (x y : Int × Int) : Bool := PySem.W.dataLe false encD (encC x) (encC y)
def histF (B : Bar) (m : Int) : Nat → Pc → Hs
  | 0, _ => []
  | k + 1, P => if cnt B P ≤ m then [(0, 1)] else ((linesD P).foldl (fun h y => bumps h (pairsE (price B y.1 y.2) (histF B m k (part1 P y.1 y.2)) (histF B m k (part2 P y.1 y.2)))) []).mergeSort leI
theorem leI_iff {x y : Int × Int} : leI x y = true ↔ ¬ (y.1 < x.1 ∨ (y.1 = x.1 ∧ y.2 < x.2)) := by
  have : leI x y = !PySem.W.dataLt (encD (encC y)) (encD (encC x)) := rfl
  rw [this]
  simp only [encD, encC, pyW, pyWL, Option.map_some, Option.getD_some]
  rw [PySem.W.dataLt_ii, Bool.not_eq_true', decide_eq_false_iff_not]
theorem leI_total : PySem.W.TotalLe leI := ⟨fun a b c h1 h2 => by rw [leI_iff] at h1 h2 ⊢; omega, fun a b => by
  by_cases h : leI a b = true
  · exact .inl h
  · have h' := h
    rw [leI_iff] at h'
    right
    rw [leI_iff]; omega⟩
theorem price_b {B : Bar} (o : OkBar B) {P : Pc} (hP : P ∈ allP B) {y : Int × Int} (hy : y ∈ linesD P) : 1 ≤ price B y.1 y.2 ∧ price B y.1 y.2 ≤ 9 := by
  have h := line_ok hP hy
  have key : ∀ xs : List Int, (∀ x ∈ xs, 1 ≤ x ∧ x ≤ 9) → y.2 ≤ xs.length → 1 ≤ xs.getD (y.2 - 1).toNat 0 ∧ xs.getD (y.2 - 1).toNat 0 ≤ 9 := by
    intro xs hx hl
    have hl' : (y.2 - 1).toNat < xs.length := by omega
    have : xs.getD (y.2 - 1).toNat 0 = xs[(y.2 - 1).toNat] := by rw [List.getD_eq_getElem?_getD, List.getElem?_eq_getElem hl']; rfl
    rw [this]
    exact hx _ (List.getElem_mem hl')
  unfold price
  split
  · rename_i e; rw [if_pos e] at h; exact key B.p o.pv h.2.2
  · rename_i e; rw [if_neg e] at h; exact key B.q o.qv h.2.2
theorem ltC_nodup {ns : List (Int × Int)} (h : ns.Pairwise ltC) : ns.Nodup := h.imp fun {a b} h z => by
  subst z
  rcases h with h | h <;> omega
theorem one_cell {B : Bar} (o : OkBar B) {P : Pc} (h1 : P.r ≤ P.l + 1) (h2 : P.b ≤ P.t + 1) : cnt B P ≤ 1 := by
  have hn : (B.nuts.filter (inP P)).Nodup := List.Pairwise.filter _ (ltC_nodup o.up)
  have hs : B.nuts.filter (inP P) ⊆ [(P.l, P.t)] := fun c hc => by
    have := (List.mem_filter.mp hc).2
    simp only [inP, Bool.and_eq_true, decide_eq_true_eq] at this
    simp only [List.mem_singleton]
    exact Prod.ext (by omega) (by omega)
  have := List.Nodup.length_le_of_subset hn hs
  simp only [List.length_singleton] at this
  unfold cnt
  omega
theorem lines_ne {B : Bar} (o : OkBar B) {m : Int} (hm : 1 ≤ m) {P : Pc} (hP : P ∈ allP B) (hc : m < cnt B P) : linesD P ≠ [] := by
  intro z
  have hl := lines_len P
  rw [z] at hl
  have := one_cell o (P := P) (by simp at hl; omega) (by simp at hl; omega)
  omega
theorem area_pos {B : Bar} {P : Pc} (hP : P ∈ allP B) : 0 < area P := by
  have := mem_allP.mp hP
  exact Nat.mul_pos (by omega) (by omega)
theorem tot_perm {a b : Hs} (h : a.Perm b) : tot a = tot b := by
  induction h with
  | nil => rfl
  | cons x _ ih => simp only [tot, List.map_cons, List.sum_cons] at ih ⊢; omega
  | swap x y l => simp only [tot, List.map_cons, List.sum_cons]; omega
  | trans _ _ h1 h2 => exact h1.trans h2
/-- sorting a histogram -/
theorem HOk.sorted {N : Int} {h : Hs} {a : Int × Int} (o : HOk N h a) (hne : h ≠ []) {T : Int} (ht : tot h ≤ T) : Good N (h.mergeSort leI) a T := by
  have hp : (h.mergeSort leI).Perm h := List.mergeSort_perm _ _
  have hs : (h.mergeSort leI).Pairwise fun x y => leI x y = true := PySem.W.sort_pairwise leI_total h
  have hnd : (kys (h.mergeSort leI)).Nodup := ((hp.map _).nodup_iff).mpr o.nd
  obtain ⟨am, al⟩ : a ∈ h ∧ ∀ x ∈ h, a.1 ≤ x.1 := by
    rcases o.ls with ⟨z, _⟩ | z
    · exact absurd z hne
    · exact z
  refine ⟨?_, fun x hx => o.kb x (hp.mem_iff.mp hx), fun x hx => o.vb x (hp.mem_iff.mp hx), ?_⟩
  · cases e : h.mergeSort leI with
    | nil => rw [e] at hp; exact absurd hp.symm.eq_nil hne
    | cons b r =>
      rw [e] at hp hs hnd
      have hs := List.pairwise_cons.mp hs
      simp only [kys, List.map_cons, List.nodup_cons] at hnd
      have hb : ∀ x ∈ r, b.1 < x.1 := fun x hx => by
        have h1 := leI_iff.mp (hs.1 x hx)
        have h2 : b.1 ≠ x.1 := fun z => hnd.1 (z ▸ List.mem_map_of_mem hx)
        omega
      have hab : a = b := by
        have := hp.mem_iff.mpr am
        rcases List.mem_cons.mp this with z | z
        · exact z
        · have h1 := hb a z
          have h2 := al b (hp.mem_iff.mp (by simp))
          omega
      subst hab
      exact ⟨r, rfl, hb⟩
  · have : tot (h.mergeSort leI) = tot h := tot_perm hp
    omega
theorem good_one {N T : Int} (hN : 0 ≤ N) (hT : 1 ≤ T) : Good N [(0, 1)] (0, 1) T :=
  ⟨⟨[], rfl, by simp⟩, by simp; omega, by simp, by simp [tot]; omega⟩
theorem good_fold {B : Bar} (o : OkBar B) {m : Int} {P : Pc} (hP : P ∈ allP B) {L : Pc → Hs} (ih : ∀ y ∈ linesD P, Good (9 * ((area (part1 P y.1 y.2) : Int) - 1)) (L (part1 P y.1 y.2)) (cw B m (part1 P y.1 y.2)) (8 ^ (area (part1 P y.1 y.2) - 1)) ∧ Good (9 * ((area (part2 P y.1 y.2) : Int) - 1)) (L (part2 P y.1 y.2)) (cw B m (part2 P y.1 y.2)) (8 ^ (area (part2 P y.1 y.2) - 1))) :
    ∀ (ys : List (Int × Int)) (h : Hs) (a : Int × Int), (∀ y ∈ ys, y ∈ linesD P) → HOk (9 * ((area P : Int) - 1)) h a →
      HOk (9 * ((area P : Int) - 1)) (ys.foldl (fun h y => bumps h (pairsE (price B y.1 y.2) (L (part1 P y.1 y.2)) (L (part2 P y.1 y.2)))) h) (ys.foldl (stepC (cw B m) B P) a) ∧
      tot (ys.foldl (fun h y => bumps h (pairsE (price B y.1 y.2) (L (part1 P y.1 y.2)) (L (part2 P y.1 y.2)))) h) ≤ tot h + ys.length * 8 ^ (area P - 2) ∧ (ys ≠ [] → 0 ≤ (ys.foldl (stepC (cw B m) B P) a).1)
  | [], h, a, _, ho => by simpa using ho
  | y :: ys, h, a, hy, ho => by
    have hyl := hy y (by simp)
    have hm := mem_allP.mp hP
    have hpb := price_b o hP hyl
    obtain ⟨g1, g2⟩ := ih y hyl
    have ha := area_part (by omega) (by omega) hyl
    have h1 := HOk.pairs (pr := price B y.1 y.2) ho g1 g2 (by omega) (by omega)
    have h2 := good_fold o hP ih ys _ _ (fun z hz => hy z (by simp [hz])) h1
    simp only [List.foldl_cons]
    refine ⟨h2.1, Int.le_trans h2.2.1 ?_, fun _ => ?_⟩
    · rw [tot_bumps, tot_pairs]
      have t1 := tot_nonneg g1.vb
      have t2 := tot_nonneg g2.vb
      have hT : tot (L (part1 P y.1 y.2)) * tot (L (part2 P y.1 y.2)) ≤ 8 ^ (area P - 2) := by
        have e : (8 : Int) ^ (area P - 2) = 8 ^ (area (part1 P y.1 y.2) - 1) * 8 ^ (area (part2 P y.1 y.2) - 1) := by
          rw [← Int.pow_add]
          congr 1
          omega
        rw [e]
        exact Int.mul_le_mul g1.tb g2.tb t2.1 (Int.le_of_lt (Int.pow_pos (by omega)))
      have e : ((ys.length + 1 : Nat) : Int) * (8 : Int) ^ (area P - 2) = ys.length * 8 ^ (area P - 2) + 8 ^ (area P - 2) := by rw [Int.natCast_add, Int.add_mul]; simp
      simp only [List.length_cons]
      omega
    · cases ys with
      | cons z zs => exact h2.2.2 (by simp)
      | nil =>
        simp only [List.foldl_nil, stepC]
        obtain ⟨r1, e1, _⟩ := g1.hd
        obtain ⟨r2, e2, _⟩ := g2.hd
        have k1 := g1.kb (cw B m (part1 P y.1 y.2)) (by rw [e1]; simp)
        have k2 := g2.kb (cw B m (part2 P y.1 y.2)) (by rw [e2]; simp)
        exact (addW_best (by omega)).1
theorem foldl_ne {β : Type} {f : Hs → β → Hs} {xs : List β} (hne : xs ≠ []) (h : Hs) (hf : ∀ h x, x ∈ xs → f h x ≠ []) : xs.foldl f h ≠ [] := by
  obtain ⟨ys, y, rfl⟩ : ∃ ys y, xs = ys ++ [y] := ⟨xs.dropLast, xs.getLast hne, (List.dropLast_concat_getLast hne).symm⟩
  rw [List.foldl_append]
  exact hf _ _ (by simp)
theorem good_hist {B : Bar} (o : OkBar B) {m : Int} (hm : 1 ≤ m) : ∀ (k : Nat) (P : Pc), P ∈ allP B → semi P ≤ k → Good (9 * ((area P : Int) - 1)) (histF B m k P) (cw B m P) (8 ^ (area P - 1))
  | 0, P, hP, hk => by
    have := mem_allP.mp hP
    unfold semi at hk
    omega
  | k + 1, P, hP, hk => by
    have ha := area_pos hP
    rw [cw_eq]
    simp only [histF]
    by_cases hc : cnt B P ≤ m
    · rw [if_pos hc, if_neg (by omega)]
      refine good_one (by omega) ?_
      have : 0 < (8 : Int) ^ (area P - 1) := Int.pow_pos (by omega)
      omega
    · rw [if_neg hc, if_pos (by omega)]
      have hne := lines_ne o hm hP (by omega)
      have ih : ∀ y ∈ linesD P, Good (9 * ((area (part1 P y.1 y.2) : Int) - 1)) (histF B m k (part1 P y.1 y.2)) (cw B m (part1 P y.1 y.2)) (8 ^ (area (part1 P y.1 y.2) - 1)) ∧ Good (9 * ((area (part2 P y.1 y.2) : Int) - 1)) (histF B m k (part2 P y.1 y.2)) (cw B m (part2 P y.1 y.2)) (8 ^ (area (part2 P y.1 y.2) - 1)) := fun y hy => by
        have hpm := part_mem hP hy
        have hs := semi_part hy
        exact ⟨good_hist o hm k _ hpm.1 (by omega), good_hist o hm k _ hpm.2 (by omega)⟩
      have h := good_fold (m := m) o hP ih (linesD P) [] (-1, 0) (fun _ h => h) ⟨by simp [kys], by simp, by simp, .inl ⟨rfl, rfl⟩⟩
      refine h.1.sorted ?_ ?_
      · intro z
        have h1 := h.1.ls
        have h2 := h.2.2 hne
        rw [z] at h1
        rcases h1 with ⟨_, h1⟩ | ⟨h1, _⟩
        · rw [h1] at h2; omega
        · cases h1
      · refine Int.le_trans h.2.1 ?_
        have f := fits_of o.pl o.ql hP
        obtain ⟨y0, hy0⟩ := List.exists_mem_of_ne_nil _ hne
        have ha0 := area_part f.l f.t hy0
        have e8 : (8 : Int) ^ (area P - 1) = 8 * 8 ^ (area P - 2) := by
          rw [show area P - 1 = (area P - 2) + 1 by omega, Int.pow_succ, Int.mul_comm]
        rw [e8]
        have hl : ((linesD P).length : Int) ≤ 8 := by
          rw [lines_len]
          have := f.w; have := f.h; have := f.l; have := f.t
          omega
        have := Int.mul_le_mul_of_nonneg_right (c := 8 ^ (area P - 2)) hl (Int.le_of_lt (Int.pow_pos (by omega)))
        have e0 : tot [] = 0 := rfl
        rw [e0]
        omega
end BB
namespace BB
open PySem L2
local macro_rules | `(tactic| walk_at "ev") => `(tactic| simp [sRet, sSeq, sIf, sAsg, sPar, sExpr, sNever, sNil, sAug, tBl, tAnd, tOr, tNot, eTup, eLst, aCons, aNil, eC, eOp, eUn, uNeg, eCB, eCall, eIx, eSl, pSome, pNone, eVar, eAnd, eOr, eNot, eIf, eChain, fLen, fIsi, tyD, seqOf, lstOf, ixD, dicOf, atI, ixN, oAdd, oSub, oLt, oLe, oGt, oAddI, bindP, bindPs, kb_int_int, kb_int_bool, kb_list_list, kb_tuple_tuple, iSeq, srcOf, iRange1, iRange2])
abbrev stH (h : Hs) : Sto := [.dK (h.map kk) (h.map vv)]
abbrev envA (B : Bar) (m : Int) (P : Pc) (a b c d e f g i j k : Option DV) : Env := [some (encBar B), some (.int m), some (encP P), some (.loc 0), a, b, c, d, e, f, g, i, j, k]
theorem bumps_map {β : Type} (g : β → Int × Int) (ys : List β) (h : Hs) : ys.foldl (fun h z => bump h (g z).1 (g z).2) h = bumps h (ys.map g) := by
  simp [bumps, List.foldl_map]
theorem bumps_flat {β : Type} (g : β → Hs) : ∀ (ys : List β) (h : Hs), ys.foldl (fun h z => bumps h (g z)) h = bumps h (ys.flatMap g)
  | [], h => rfl
  | y :: ys, h => by
    simp only [List.foldl_cons, List.flatMap_cons]
    rw [bumps_flat g ys]
    simp [bumps, List.foldl_append]
theorem put_ok {B : Bar} {m : Int} {P : Pc} {a b c d e f i : Option DV} {h : Hs} {x y w : Int} (hl : h.length < 1000000) (hx : x.natAbs < 2 ^ 250) (hy : y.natAbs < 2 ^ 250) :
    sPut (eVar 3) (eVar 13) (eOp (oAdd false) (eGet2 (eVar 3) (eVar 13) (eC (.int 0))) (eOp (oMul false) (eVar 10) (eVar 12))) (envA B m P a b c d e f (some (.int x)) i (some (.int y)) (some (.int w))) (stH h) =
      .nx (envA B m P a b c d e f (some (.int x)) i (some (.int y)) (some (.int w))) (stH (bump h w (x * y))) := by
  have h1 : eGet2 (eVar 3) (eVar 13) (eC (.int 0)) (envA B m P a b c d e f (some (.int x)) i (some (.int y)) (some (.int w))) (stH h) = .ok (.int ((vl h w).getD 0)) (stH h) := by
    simp only [eGet2, eVar, eC, List.getElem?_cons_zero, List.getElem?_cons_succ, Res.bind_ok, dicOf, keyOf, look_vl]
    cases vl h w <;> simp
  have h2 : eOp (oMul false) (eVar 10) (eVar 12) (envA B m P a b c d e f (some (.int x)) i (some (.int y)) (some (.int w))) (stH h) = .ok (.int (x * y)) (stH h) := by
    simp only [eOp, eVar, List.getElem?_cons_zero, List.getElem?_cons_succ, Res.bind_ok, oMul, if_pos (And.intro hx hy)]
  unfold sPut
  rw [eOp_ok h1 h2]
  simp only [oAdd, Res.out_ok, sPuts, eVar, List.getElem?_cons_zero, List.getElem?_cons_succ, Res.bind_ok, putD, keyOf, List.length_map, if_pos hl, List.set_cons_zero]
  rw [put_bumpK w (x * y), put_bumpD]
theorem ix_key {n : Nat} {h : Hs} {sto : Sto} {x : Int × Int} (hs : sto[n]? = some (.dKf (h.map kk) (h.map vv))) (nd : (kys h).Nodup) (hx : x ∈ h) : ixD (.loc n) (.int x.1) sto = .ok (.int x.2) sto := by
  simp [ixD, dicOf, hs, keyOf, look_vl, vl_mem nd hx]
theorem val_small {N T : Int} {L : Hs} {a : Int × Int} {n : Nat} (g : Good N L a (8 ^ n)) (hn : n ≤ 24) {x : Int × Int} (hx : x ∈ L) : x.2.natAbs < 2 ^ 250 := by
  have h1 := g.vb x hx
  have h2 := (tot_nonneg g.vb).2 x hx
  have h3 := g.tb
  have : (8 : Int) ^ n ≤ 8 ^ 24 := by
    have := Nat.pow_le_pow_right (n := 8) (by omega) hn
    exact_mod_cast this
  have h4 : (8 : Int) ^ 24 < 2 ^ 250 := by decide
  omega
theorem e_lawall {B : Bar} (o : OkBar B) {m : Int} (hm : 1 ≤ m) : ∀ (k : Nat) (P : Pc), P ∈ allP B → semi P ≤ k → G__law_all k [encBar B, .int m, encP P] = .ok (.lst ((histF B m k P).map encC))
  | 0, P, hP, hk => by
    have := mem_allP.mp hP
    unfold semi at hk
    omega
  | k + 1, P, hP, hk => by
    have ih := fun Q hQ hs => e_lawall o hm k Q hQ hs
    have gh := fun Q hQ hs => good_hist o hm k Q hQ hs
    have hpl := o.pl
    have hql := o.ql
    unfold G__law_all
    have htest : ∀ sto, tBl (eOp oLe (eCall G__law_nuts (aCons (eVar 0) (aCons (eVar 2) aNil))) (eVar 1)) (startE N__law_all [encBar B, .int m, encP P]) sto = .ok (decide (cnt B P ≤ m)) sto := by
      intro sto
      have h1 := eCall_ok (G := G__law_nuts) (env := startE N__law_all [encBar B, .int m, encP P]) (sto := sto) (t := aCons (eVar 0) (aCons (eVar 2) aNil)) (ds := [encBar B, encP P]) (s := sto) (by simp [aCons, aNil, eVar]) (by simp) (e_lawnuts B P)
      simp only [tBl, eOp, h1, Res.bind_ok]
      simp [eVar, oLe]
    by_cases hc : cnt B P ≤ m
    · refine runP_rt (sto := []) rfl ?_ (by simp)
      simp only [m__law_all]
      rw [sSeq_rt (d := .lst ((histF B m (k + 1) P).map encC)) (s := [])]
      rw [sIf_ok (htest _), if_pos (by simpa using hc)]
      simp only [histF, if_pos hc]
      rfl
    generalize hH : (linesD P).foldl (fun h y => bumps h (pairsE (price B y.1 y.2) (histF B m k (part1 P y.1 y.2)) (histF B m k (part2 P y.1 y.2)))) [] = H
    refine runP_rt (sto := stH H) rfl ?_ (by simp)
    simp only [m__law_all]
    have eh : histF B m (k + 1) P = H.mergeSort leI := by simp only [histF, if_neg hc, hH]
    have ih2 : ∀ y ∈ linesD P, Good (9 * ((area (part1 P y.1 y.2) : Int) - 1)) (histF B m k (part1 P y.1 y.2)) (cw B m (part1 P y.1 y.2)) (8 ^ (area (part1 P y.1 y.2) - 1)) ∧ Good (9 * ((area (part2 P y.1 y.2) : Int) - 1)) (histF B m k (part2 P y.1 y.2)) (cw B m (part2 P y.1 y.2)) (8 ^ (area (part2 P y.1 y.2) - 1)) := fun y hy => by
      have hpm := part_mem hP hy
      have hs := semi_part hy
      exact ⟨gh _ hpm.1 (by omega), gh _ hpm.2 (by omega)⟩
    have haP := area_le (fits_of o.pl o.ql hP)
    have haP0 := area_pos hP
    have hgf := good_fold (m := m) o hP ih2 (linesD P) [] (-1, 0) (fun _ h => h) ⟨by simp [kys], by simp, by simp, .inl ⟨rfl, rfl⟩⟩
    rw [hH] at hgf
    have hHl := kys_len hgf.1 (by omega)
    rw [sSeq_nx (e := startE N__law_all [encBar B, .int m, encP P]) (s := []) (by rw [sIf_ok (htest _), if_neg (by simpa using hc)]; rfl)]
    rw [sSeq_nx (e := envA B m P none none none none none none none none none none) (s := stH []) (by rfl)]
    rw [sSeq_nx (e := envA B m P none none none none none none none none none none) (s := stH H)]
    · refine sRet_ok ?_
      rw [eh]
      have hcomp : eLock 3 (eComp false [13] (iKeysD (eVar 3)) (.nm 13) tYes1 (eTup (aCons (eVar 13) (aCons (eIx (eVar 3) (eVar 13)) aNil)))) (envA B m P none none none none none none none none none none) (stH H) = .ok (.lst (H.map encC)) (stH H) := by
        have h1 : eComp false [13] (iKeysD (eVar 3)) (.nm 13) tYes1 (eTup (aCons (eVar 13) (aCons (eIx (eVar 3) (eVar 13)) aNil))) (envA B m P none none none none none none none none none none) [.dKf (H.map kk) (H.map vv)] = .ok (.lst (H.map encC)) [.dKf (H.map kk) (H.map vv)] := by
          rw [comp_map (enc := fun x : Int × Int => DV.int x.1) (Y := encC) (ys := H) (s := [.dKf (H.map kk) (H.map vv)]) (by
            simp [iKeysD, eVar, keyDV, Function.comp_def]; intro a b _; rfl) (by omega) fun x hx => ⟨envA B m P none none none none none none none none none (some (.int x.1)), rfl, by
              have := ix_key (n := 0) (sto := [.dKf (H.map kk) (H.map vv)]) rfl hgf.1.nd hx
              simp [eTup, aCons, aNil, eVar, eIx, this, encC]⟩]
          rfl
        unfold eLock
        simp only [List.getElem?_cons_zero, List.getElem?_cons_succ, List.set_cons_zero, h1, Res.bind_ok]
      rw [eCB_ok (a1_ok hcomp)]
      rw [fSorted_map (f := encC) (by intro x; simp [encC, pyW, pyWL]) (by intro x y; simp [encD, encC, pyW, pyWL, PySem.W.alike, PySem.W.alikeAll]) (by intro x; simp [encD, encC, pyW, pyWL, isTup1]) (by intro x; simp [encD, encC, pyW, pyWL, PyData.depth, PyData.depthAll]) (by omega)]
      rfl
    rw [sFor_fix (iSeq_lst (eCall_ok (ds := [encBar B, encP P]) (s := stH []) (by simp [aCons, aNil, eVar]) (by simp) (e_lawcuts B P hP (by omega) (by omega))))]
    rw [← hH]
    refine (runL_fold (E := fun _ => envA B m P none none none none none none none none none none) (St := stH) (step := fun h y => bumps h (pairsE (price B y.1 y.2) (histF B m k (part1 P y.1 y.2)) (histF B m k (part2 P y.1 y.2)))) (I := fun h => ∃ a, HOk (9 * ((area P : Int) - 1)) h a) (linesD P) [] ⟨(-1, 0), by simp [kys], by simp, by simp, .inl ⟨rfl, rfl⟩⟩ ?_).1
    rintro h ⟨a, ho⟩ y hy
    have hpm := part_mem hP hy
    have hs := semi_part hy
    obtain ⟨g1, g2⟩ := ih2 y hy
    have hpb := price_b o hP hy
    have mm := mem_allP.mp hP
    have ha := area_part (by omega) (by omega) hy
    have hN : price B y.1 y.2 + 9 * ((area (part1 P y.1 y.2) : Int) - 1) + 9 * ((area (part2 P y.1 y.2) : Int) - 1) ≤ 9 * ((area P : Int) - 1) := by omega
    have hpo := pairs_ok g1 g2 (by omega) hN
    refine ⟨⟨_, HOk.pairs ho g1 g2 (by omega) hN⟩, envA B m P (some (.int y.1)) (some (.int y.2)) (some (.int (price B y.1 y.2))) (some (encP (part1 P y.1 y.2))) (some (encP (part2 P y.1 y.2))) none none none none none, rfl, envA B m P (some (.int y.1)) (some (.int y.2)) (some (.int (price B y.1 y.2))) (some (encP (part1 P y.1 y.2))) (some (encP (part2 P y.1 y.2))) none none none none none, ?_, rfl⟩
    rw [sFor_fix (iSeq_lst (eCall_ok (ds := [encBar B, .int m, encP (part1 P y.1 y.2)]) (s := stH h) (by simp [aCons, aNil, eVar]) (by simp) (ih _ hpm.1 (by omega))))]
    have e1 : bumps h (pairsE (price B y.1 y.2) (histF B m k (part1 P y.1 y.2)) (histF B m k (part2 P y.1 y.2))) = (histF B m k (part1 P y.1 y.2)).foldl (fun h x => bumps h ((histF B m k (part2 P y.1 y.2)).map fun z => (price B y.1 y.2 + x.1 + z.1, x.2 * z.2))) h := by
      rw [bumps_flat (fun x : Int × Int => (histF B m k (part2 P y.1 y.2)).map fun z => (price B y.1 y.2 + x.1 + z.1, x.2 * z.2))]
      rfl
    rw [e1]
    refine (runL_fold (enc := encC) (E := fun _ => envA B m P (some (.int y.1)) (some (.int y.2)) (some (.int (price B y.1 y.2))) (some (encP (part1 P y.1 y.2))) (some (encP (part2 P y.1 y.2))) none none none none none) (St := stH) (step := fun h x => bumps h ((histF B m k (part2 P y.1 y.2)).map fun z => (price B y.1 y.2 + x.1 + z.1, x.2 * z.2))) (I := fun h => ∃ a, HOk (9 * ((area P : Int) - 1)) h a) (histF B m k (part1 P y.1 y.2)) h ⟨a, ho⟩ ?_).1
    rintro h ⟨a, ho⟩ x hx
    have hxo : ∀ e ∈ (histF B m k (part2 P y.1 y.2)).map fun z => (price B y.1 y.2 + x.1 + z.1, x.2 * z.2), 0 ≤ e.1 ∧ e.1 ≤ 9 * ((area P : Int) - 1) ∧ 0 ≤ e.2 := fun e he => hpo e (List.mem_flatMap.mpr ⟨x, hx, he⟩)
    refine ⟨⟨_, HOk.bumps ho hxo⟩, envA B m P (some (.int y.1)) (some (.int y.2)) (some (.int (price B y.1 y.2))) (some (encP (part1 P y.1 y.2))) (some (encP (part2 P y.1 y.2))) (some (.int x.1)) (some (.int x.2)) none none none, rfl, envA B m P (some (.int y.1)) (some (.int y.2)) (some (.int (price B y.1 y.2))) (some (encP (part1 P y.1 y.2))) (some (encP (part2 P y.1 y.2))) (some (.int x.1)) (some (.int x.2)) none none none, ?_, rfl⟩
    rw [sFor_fix (iSeq_lst (eCall_ok (ds := [encBar B, .int m, encP (part2 P y.1 y.2)]) (s := stH h) (by simp [aCons, aNil, eVar]) (by simp) (ih _ hpm.2 (by omega))))]
    rw [← bumps_map (fun z : Int × Int => (price B y.1 y.2 + x.1 + z.1, x.2 * z.2))]
    refine (runL_fold (enc := encC) (E := fun _ => envA B m P (some (.int y.1)) (some (.int y.2)) (some (.int (price B y.1 y.2))) (some (encP (part1 P y.1 y.2))) (some (encP (part2 P y.1 y.2))) (some (.int x.1)) (some (.int x.2)) none none none) (St := stH) (step := fun h z => bump h (price B y.1 y.2 + x.1 + z.1) (x.2 * z.2)) (I := fun h => ∃ a, HOk (9 * ((area P : Int) - 1)) h a) (histF B m k (part2 P y.1 y.2)) h ⟨a, ho⟩ ?_).1
    rintro h ⟨a, ho⟩ z hz
    have hzo := hxo _ (List.mem_map_of_mem (f := fun z : Int × Int => (price B y.1 y.2 + x.1 + z.1, x.2 * z.2)) hz)
    have hhl := kys_len ho (by omega)
    have hx2 := val_small (T := 0) g1 (by omega) hx
    have hz2 := val_small (T := 0) g2 (by omega) hz
    refine ⟨⟨_, ho.bump ⟨hzo.1, hzo.2.1⟩ hzo.2.2⟩, envA B m P (some (.int y.1)) (some (.int y.2)) (some (.int (price B y.1 y.2))) (some (encP (part1 P y.1 y.2))) (some (encP (part2 P y.1 y.2))) (some (.int x.1)) (some (.int x.2)) (some (.int z.1)) (some (.int z.2)) none, rfl, envA B m P (some (.int y.1)) (some (.int y.2)) (some (.int (price B y.1 y.2))) (some (encP (part1 P y.1 y.2))) (some (encP (part2 P y.1 y.2))) (some (.int x.1)) (some (.int x.2)) (some (.int z.1)) (some (.int z.2)) (some (.int (price B y.1 y.2 + x.1 + z.1))), ?_, rfl⟩
    rw [sSeq_nx (e := envA B m P (some (.int y.1)) (some (.int y.2)) (some (.int (price B y.1 y.2))) (some (encP (part1 P y.1 y.2))) (some (encP (part2 P y.1 y.2))) (some (.int x.1)) (some (.int x.2)) (some (.int z.1)) (some (.int z.2)) (some (.int (price B y.1 y.2 + x.1 + z.1)))) (s := stH h) (by rfl)]
    exact put_ok (by omega) hx2 hz2
end BB
/-! The rule of the full bar. -/
namespace BB
def mm (x y : Int) : Int := if y < x then y else x
def row (x : Int) (q : List Int) : Int := (q.map (mm x)).sum
theorem ruleS_eq (p q : List Int) : ruleS p q = p.sum + q.sum + (p.map fun x => row x q).sum := rfl
theorem mm_le (x y : Int) : mm x y ≤ x ∧ mm x y ≤ y := by unfold mm; split <;> omega
theorem row_le (x : Int) : ∀ q : List Int, row x q ≤ q.sum
  | [] => by simp [row]
  | y :: q => by
    have := row_le x q
    have := mm_le x y
    simp only [row, List.map_cons, List.sum_cons] at *
    omega
theorem row_top {x : Int} : ∀ {q : List Int}, (∀ y ∈ q, y ≤ x) → row x q = q.sum
  | [], _ => by simp [row]
  | y :: q, h => by
    have ih := row_top (x := x) (q := q) fun z hz => h z (by simp [hz])
    have hy := h y (by simp)
    have : mm x y = y := by unfold mm; split <;> omega
    simp only [row, List.map_cons, List.sum_cons] at *
    omega
def col (y : Int) (p : List Int) : Int := (p.map fun x => mm x y).sum
theorem col_le (y : Int) : ∀ p : List Int, col y p ≤ p.sum
  | [] => by simp [col]
  | x :: p => by
    have := col_le y p
    have := mm_le x y
    simp only [col, List.map_cons, List.sum_cons] at *
    omega
theorem col_top {y : Int} : ∀ {p : List Int}, (∀ x ∈ p, x ≤ y) → col y p = p.sum
  | [], _ => by simp [col]
  | x :: p, h => by
    have ih := col_top (y := y) (p := p) fun z hz => h z (by simp [hz])
    have hy := h x (by simp)
    have : mm x y = x := by unfold mm; split <;> omega
    simp only [col, List.map_cons, List.sum_cons] at *
    omega
theorem rule_v (p1 p2 q : List Int) (a : Int) : a + ruleS p1 q + ruleS p2 q = ruleS (p1 ++ a :: p2) q + (q.sum - row a q) := by
  simp only [ruleS_eq, List.map_append, List.map_cons, List.sum_append, List.sum_cons]
  omega
theorem row_split (x : Int) (q1 q2 : List Int) (a : Int) : row x (q1 ++ a :: q2) = row x q1 + mm x a + row x q2 := by
  simp only [row, List.map_append, List.map_cons, List.sum_append, List.sum_cons]; omega
theorem rows_split (q1 q2 : List Int) (a : Int) : ∀ p : List Int, (p.map fun x => row x (q1 ++ a :: q2)).sum = (p.map fun x => row x q1).sum + col a p + (p.map fun x => row x q2).sum
  | [] => by simp [col]
  | x :: p => by
    have ih := rows_split q1 q2 a p
    simp only [col, List.map_cons, List.sum_cons, row_split] at *
    omega
theorem rule_h (p q1 q2 : List Int) (a : Int) : a + ruleS p q1 + ruleS p q2 = ruleS p (q1 ++ a :: q2) + (p.sum - col a p) := by
  simp only [ruleS_eq, rows_split, List.sum_append, List.sum_cons]
  omega
def pv (B : Bar) (P : Pc) : List Int := (irange (P.l + 1) P.r).map (price B 0)
def qv (B : Bar) (P : Pc) : List Int := (irange (P.t + 1) P.b).map (price B 1)
def rule (B : Bar) (P : Pc) : Int := ruleS (pv B P) (qv B P)
theorem irange_nil {lo hi : Int} (h : hi ≤ lo) : irange lo hi = [] := by
  unfold irange
  rw [show (hi - lo).toNat = 0 by omega]; rfl
theorem irange_cons {lo hi : Int} (h : lo < hi) : irange lo hi = lo :: irange (lo + 1) hi := by
  unfold irange
  rw [show (hi - lo).toNat = (hi - (lo + 1)).toNat + 1 by omega, List.range_succ_eq_map]
  simp only [List.map_cons, List.map_map, Function.comp_def]
  congr 1
  · simp
  · apply List.map_congr_left
    intro i _
    simp; omega
theorem irange_split {lo x hi : Int} (h1 : lo ≤ x) (h2 : x < hi) : irange lo hi = irange lo x ++ x :: irange (x + 1) hi := by
  obtain ⟨n, hn⟩ : ∃ n : Nat, x = lo + n := ⟨(x - lo).toNat, by omega⟩
  induction n generalizing lo with
  | zero =>
    have : x = lo := by simpa using hn
    subst this
    rw [irange_nil (Int.le_refl _), irange_cons h2]; rfl
  | succ n ih =>
    rw [irange_cons (lo := lo) (hi := hi) (by omega), irange_cons (lo := lo) (hi := x) (by omega), List.cons_append, ← ih (lo := lo + 1) (by omega) (by omega)]
theorem rule_cut (B : Bar) {P : Pc} {y : Int × Int} (hy : y ∈ linesD P) : ∃ d, 0 ≤ d ∧ price B y.1 y.2 + rule B (part1 P y.1 y.2) + rule B (part2 P y.1 y.2) = rule B P + d ∧ ((∀ z ∈ linesD P, price B z.1 z.2 ≤ price B y.1 y.2) → d = 0) := by
  rcases mem_lines.mp hy with ⟨h0, h1, h2⟩ | ⟨h0, h1, h2⟩
  · refine ⟨(qv B P).sum - row (price B 0 y.2) (qv B P), by have := row_le (price B 0 y.2) (qv B P); omega, ?_, ?_⟩
    · have := rule_v (pv B (part1 P 0 y.2)) (pv B (part2 P 0 y.2)) (qv B P) (price B 0 y.2)
      have e : pv B P = pv B (part1 P 0 y.2) ++ price B 0 y.2 :: pv B (part2 P 0 y.2) := by
        simp only [pv, part1, part2, if_true]
        rw [irange_split (lo := P.l + 1) (x := y.2) (hi := P.r) (by omega) h2]
        simp
      rw [← e] at this
      rw [h0]
      exact this
    · intro hz
      rw [row_top]
      · omega
      · intro v hv
        obtain ⟨x, hx, rfl⟩ := List.mem_map.mp hv
        have := hz (1, x) (mem_lines.mpr (.inr ⟨rfl, by have := mem_irange.mp hx; dsimp only; omega⟩))
        rw [h0] at this
        exact this
  · refine ⟨(pv B P).sum - col (price B 1 y.2) (pv B P), by have := col_le (price B 1 y.2) (pv B P); omega, ?_, ?_⟩
    · have := rule_h (pv B P) (qv B (part1 P 1 y.2)) (qv B (part2 P 1 y.2)) (price B 1 y.2)
      have e : qv B P = qv B (part1 P 1 y.2) ++ price B 1 y.2 :: qv B (part2 P 1 y.2) := by
        simp only [qv, part1, part2, Int.reduceEq, if_false]
        rw [irange_split (lo := P.t + 1) (x := y.2) (hi := P.b) (by omega) h2]
        simp
      rw [← e] at this
      rw [h0]
      exact this
    · intro hz
      rw [col_top]
      · omega
      · intro v hv
        obtain ⟨x, hx, rfl⟩ := List.mem_map.mp hv
        have := hz (0, x) (mem_lines.mpr (.inl ⟨rfl, by have := mem_irange.mp hx; dsimp only; omega⟩))
        rw [h0] at this
        exact this
/-- the least of a fold -/
theorem fold_least {β : Type} {g w : β → Int} : ∀ (ys : List β) (a : Int × Int), (∀ y ∈ ys, 0 ≤ g y) → (a.1 < 0 → ys ≠ []) →
    (∀ y ∈ ys, (ys.foldl (fun a y => addW a (g y) (w y)) a).1 ≤ g y) ∧ (0 ≤ a.1 → (ys.foldl (fun a y => addW a (g y) (w y)) a).1 ≤ a.1) ∧ ((0 ≤ a.1 ∧ (ys.foldl (fun a y => addW a (g y) (w y)) a).1 = a.1) ∨ ∃ y ∈ ys, (ys.foldl (fun a y => addW a (g y) (w y)) a).1 = g y)
  | [], a, _, h => by
    by_cases e : a.1 < 0
    · exact absurd rfl (h e)
    · simp; omega
  | y :: ys, a, hg, h => by
    have hy := hg y (by simp)
    have hb := addW_best (a := a) (c := g y) (w := w y) hy
    have ih := fold_least (g := g) (w := w) ys (addW a (g y) (w y)) (fun z hz => hg z (by simp [hz])) (fun z => by omega)
    have hv : (0 ≤ a.1 ∧ (addW a (g y) (w y)).1 = a.1 ∧ a.1 ≤ g y) ∨ ((addW a (g y) (w y)).1 = g y ∧ (0 ≤ a.1 → g y ≤ a.1)) := by
      by_cases e : a.1 < 0 ∨ g y < a.1
      · right
        simp only [addW, if_pos e, if_true]
        exact ⟨trivial, fun _ => by omega⟩
      · left
        simp only [addW, if_neg e]
        split
        · dsimp only; omega
        · omega
    simp only [List.foldl_cons]
    have ih2 := ih.2.1 hb.1
    refine ⟨fun z hz => ?_, fun ha => ?_, ?_⟩
    · rcases List.mem_cons.mp hz with rfl | hz
      · omega
      · exact ih.1 z hz
    · omega
    · rcases ih.2.2 with ⟨_, e⟩ | ⟨z, hz, e⟩
      · rcases hv with ⟨v1, v2, _⟩ | ⟨v1, _⟩
        · exact .inl ⟨v1, by omega⟩
        · exact .inr ⟨y, by simp, by omega⟩
      · exact .inr ⟨z, by simp [hz], e⟩
/-- the dearest line -/
theorem dearest {β : Type} (f : β → Int) : ∀ (xs : List β), xs ≠ [] → ∃ x ∈ xs, ∀ z ∈ xs, f z ≤ f x
  | [], h => absurd rfl h
  | [x], _ => ⟨x, by simp, by simp⟩
  | x :: y :: xs, _ => by
    obtain ⟨z, hz, h⟩ := dearest f (y :: xs) (by simp)
    by_cases e : f z ≤ f x
    · refine ⟨x, by simp, fun u hu => ?_⟩
      rcases List.mem_cons.mp hu with rfl | hu
      · omega
      · have := h u hu; omega
    · refine ⟨z, List.mem_cons_of_mem _ hz, fun u hu => ?_⟩
      rcases List.mem_cons.mp hu with rfl | hu
      · omega
      · exact h u hu
theorem cost_nonneg {B : Bar} (o : OkBar B) {m : Int} (hm : 1 ≤ m) (P : Pc) (hP : P ∈ allP B) : 0 ≤ (cw B m P).1 := by
  have g := good_hist o hm (semi P) P hP (Nat.le_refl _)
  obtain ⟨r, e, _⟩ := g.hd
  exact (g.kb (cw B m P) (by rw [e]; simp)).1
/-- a bar with a nut in every cell -/
def fullB (B : Bar) : Bar := ⟨B.p, B.q, (irange 0 (B.p.length + 1)).flatMap fun c => (irange 0 (B.q.length + 1)).map fun r => (c, r)⟩
theorem full_ok {B : Bar} (o : OkBar B) : OkBar (fullB B) := by
  have h1 := o.pl
  have h2 := o.ql
  refine ⟨o.pl, o.ql, o.pv, o.qv, ?_, ?_, ?_⟩
  · refine Nat.le_trans (flatMap_len (n := 5) fun c _ => ?_) ?_
    · rw [List.length_map, irange_len]; omega
    · rw [irange_len]; omega
  · intro c hc
    simp only [fullB, List.mem_flatMap, List.mem_map, mem_irange] at hc
    obtain ⟨a, ha, r, hr, rfl⟩ := hc
    simp only [fullB]
    omega
  · simp only [fullB, List.pairwise_flatMap, List.pairwise_map, List.mem_map]
    refine ⟨fun c _ => (irange_lt _ _).imp fun h => .inr ⟨rfl, h⟩, (irange_lt _ _).imp fun {a b} h => ?_⟩
    rintro x ⟨r, _, rfl⟩ y ⟨r', _, rfl⟩
    exact .inl h
theorem full_two {B : Bar} (o : OkBar B) {P : Pc} (hP : P ∈ allP B) (hl : linesD P ≠ []) : 1 < cnt (fullB B) P := by
  obtain ⟨y, hy⟩ := List.exists_mem_of_ne_nil _ hl
  have hm := mem_allP.mp hP
  have mem : ∀ a r : Int, P.l ≤ a → a < P.r → P.t ≤ r → r < P.b → (a, r) ∈ (fullB B).nuts.filter (inP P) := by
    intro a r a1 a2 r1 r2
    refine List.mem_filter.mpr ⟨?_, by simp [inP]; omega⟩
    simp only [fullB, List.mem_flatMap, List.mem_map, mem_irange]
    exact ⟨a, by omega, r, by omega, rfl⟩
  rcases mem_lines.mp hy with ⟨h0, h1, h2⟩ | ⟨h0, h1, h2⟩
  · have hs : [(P.l, P.t), (P.l + 1, P.t)] ⊆ (fullB B).nuts.filter (inP P) := by
      intro c hc
      simp only [List.mem_cons, List.not_mem_nil, or_false] at hc
      rcases hc with rfl | rfl
      · exact mem _ _ (by omega) (by omega) (by omega) (by omega)
      · exact mem _ _ (by omega) (by omega) (by omega) (by omega)
    have := List.Nodup.length_le_of_subset (by simp; omega) hs
    simp only [List.length_cons, List.length_nil] at this
    unfold cnt; omega
  · have hs : [(P.l, P.t), (P.l, P.t + 1)] ⊆ (fullB B).nuts.filter (inP P) := by
      intro c hc
      simp only [List.mem_cons, List.not_mem_nil, or_false] at hc
      rcases hc with rfl | rfl
      · exact mem _ _ (by omega) (by omega) (by omega) (by omega)
      · exact mem _ _ (by omega) (by omega) (by omega) (by omega)
    have := List.Nodup.length_le_of_subset (by simp; omega) hs
    simp only [List.length_cons, List.length_nil] at this
    unfold cnt; omega
theorem full_rule {B : Bar} (o : OkBar B) (P : Pc) : P ∈ allP B → (cw (fullB B) 1 P).1 = rule B P := by
  have of := full_ok o
  refine pc_ind (M := fun P => P ∈ allP B → (cw (fullB B) 1 P).1 = rule B P) (fun P ih hP => ?_) P
  have hP' : P ∈ allP (fullB B) := hP
  by_cases hl : linesD P = []
  · have hlen := lines_len P
    rw [hl] at hlen
    have hm := mem_allP.mp hP
    simp only [List.length_nil] at hlen
    have hc := one_cell of (P := P) (by omega) (by omega)
    rw [cw_eq, if_neg (by omega)]
    unfold rule pv qv
    rw [irange_nil (by omega), irange_nil (by omega)]
    rfl
  · rw [cw_eq, if_pos (full_two o hP hl)]
    have hnn : ∀ y ∈ linesD P, 0 ≤ price (fullB B) y.1 y.2 + (cw (fullB B) 1 (part1 P y.1 y.2)).1 + (cw (fullB B) 1 (part2 P y.1 y.2)).1 := fun y hy => by
      have hpm := part_mem hP' hy
      have h1 := price_b of hP' hy
      have h2 := cost_nonneg of (m := 1) (by omega) _ hpm.1
      have h3 := cost_nonneg of (m := 1) (by omega) _ hpm.2
      omega
    have hf := fold_least (g := fun y => price (fullB B) y.1 y.2 + (cw (fullB B) 1 (part1 P y.1 y.2)).1 + (cw (fullB B) 1 (part2 P y.1 y.2)).1) (w := fun y => (cw (fullB B) 1 (part1 P y.1 y.2)).2 * (cw (fullB B) 1 (part2 P y.1 y.2)).2) (linesD P) (-1, 0) hnn (fun _ => hl)
    have he : ∀ y ∈ linesD P, ∃ d, 0 ≤ d ∧ price (fullB B) y.1 y.2 + (cw (fullB B) 1 (part1 P y.1 y.2)).1 + (cw (fullB B) 1 (part2 P y.1 y.2)).1 = rule B P + d ∧ ((∀ z ∈ linesD P, price B z.1 z.2 ≤ price B y.1 y.2) → d = 0) := fun y hy => by
      obtain ⟨d, d0, d1, d2⟩ := rule_cut B hy
      have hpm := part_mem hP hy
      have i := ih y hy
      rw [i.1 hpm.1, i.2 hpm.2]
      exact ⟨d, d0, d1, d2⟩
    obtain ⟨y0, hy0, htop⟩ := dearest (fun y : Int × Int => price B y.1 y.2) (linesD P) hl
    obtain ⟨d, d0, d1, d2⟩ := he y0 hy0
    have d2 := d2 htop
    have h1 := hf.1 y0 hy0
    show ((linesD P).foldl (fun a y => addW a (price (fullB B) y.1 y.2 + (cw (fullB B) 1 (part1 P y.1 y.2)).1 + (cw (fullB B) 1 (part2 P y.1 y.2)).1) ((cw (fullB B) 1 (part1 P y.1 y.2)).2 * (cw (fullB B) 1 (part2 P y.1 y.2)).2)) (-1, 0)).1 = rule B P
    rcases hf.2.2 with ⟨z, _⟩ | ⟨y, hy, e⟩
    · simp at z
    · obtain ⟨d', e0, e1, _⟩ := he y hy
      omega
theorem rule_whole (B : Bar) : rule B (wholeP B) = ruleS B.p B.q := by
  have key : ∀ (xs : List Int) (f : Int → Int), (∀ x, f x = xs.getD (x - 1).toNat 0) → (irange (0 + 1) (xs.length + 1)).map f = xs := by
    intro xs f hf
    apply List.ext_getElem?
    intro i
    by_cases h : i < xs.length
    · rw [List.getElem?_map]
      unfold irange
      rw [List.getElem?_map, List.getElem?_range (by omega)]
      simp only [Option.map_some, hf]
      rw [show (0 + 1 + (i : Int) - 1).toNat = i by omega, List.getD_eq_getElem?_getD, List.getElem?_eq_getElem h]
      rfl
    · rw [List.getElem?_eq_none (l := xs) (by omega), List.getElem?_eq_none]
      rw [List.length_map, irange_len]; omega
  unfold rule pv qv wholeP
  rw [key B.p _ (fun x => by simp [price]), key B.q _ (fun x => by simp [price])]
end BB
namespace BB
open PySem L2
local macro_rules | `(tactic| walk_at "ev") => `(tactic| simp [sRet, sSeq, sIf, sAsg, sPar, sExpr, sNever, sNil, sAug, tBl, tAnd, tOr, tNot, eTup, eLst, aCons, aNil, eC, eOp, eUn, uNeg, eCB, eCall, eIx, eSl, pSome, pNone, eVar, eAnd, eOr, eNot, eIf, eChain, fLen, fIsi, tyD, seqOf, lstOf, ixD, dicOf, atI, ixN, oAdd, oSub, oLt, oLe, oGt, oAddI, bindP, bindPs, kb_int_int, kb_int_bool, kb_list_list, kb_tuple_tuple, iSeq, srcOf, iRange1, iRange2])
theorem hist_first {B : Bar} (o : OkBar B) {m : Int} (hm : 1 ≤ m) : ∃ r, histF B m 12 (wholeP B) = cw B m (wholeP B) :: r := by
  have hs : semi (wholeP B) ≤ 12 := by
    have := o.pl; have := o.ql
    simp only [semi, wholeP]; omega
  obtain ⟨r, e, _⟩ := (good_hist o hm 12 (wholeP B) (whole_mem B) hs).hd
  exact ⟨r, e⟩
theorem e_all12 {B : Bar} (o : OkBar B) {m : Int} (hm : 1 ≤ m) : ∃ r, G__law_all 12 [encBar B, .int m, encP (wholeP B)] = .ok (.lst ((cw B m (wholeP B) :: r).map encC)) := by
  have hs : semi (wholeP B) ≤ 12 := by
    have := o.pl; have := o.ql
    simp only [semi, wholeP]; omega
  obtain ⟨r, e⟩ := hist_first o hm
  exact ⟨r, by rw [e_lawall o hm 12 _ (whole_mem B) hs, e]⟩
theorem shaped_c (a : Int × Int) : SeqAt.shaped (.tuple [.int a.1, .int a.2]) = true := by
  simp [SeqAt.shaped, PyData.canLay0, PyData.canLayAll0, PyData.depth, PyData.depthAll]
theorem oNe_c (a : Int × Int) (sto : Sto) : oNe (encC a) (encC a) sto = .ok (.bl false) sto := by
  simp only [encC, oNe, py, pyW, pyWL, Option.map_some, shaped_c, and_self, if_true]
  simp [PyData.eqv, PyData.eqvAll]
abbrev envL (ns : List Int) (W : Int) (a b c d e f g h : Option DV) : Env := [some (.scr ns), some (.int W), a, b, c, d, e, f, g, h]
theorem law_true : ∀ ns : List Int, ns.length ≤ 63 → G_law [.scr ns] = .ok (.bl true) := by
  intro ns _
  obtain ⟨W, hW⟩ : ∃ W, W = (ns.take 63).sum := ⟨_, rfl⟩
  have main : ∃ sto, m_law (startE N_law [.scr ns]) [] = .rt (.bl true) sto := by
    simp only [m_law]
    rw [sSeq_nx (e := envL ns W none none none none none none none none) (s := []) (sAsg_ok (d := .int W) (by
      rw [eCB_ok (a1_ok (d := .lst ((ns.take 63).map .int)) (s1 := []) (by simp [eSl, eVar, pNone, pSome, eC, slD, newL, cutD_63])), sum_ok, hW]) rfl)]
    obtain ⟨st, hst⟩ : ∃ st : List Int → Sto, st = fun done => done.map fun b => DO.dead := ⟨_, rfl⟩
    have h0 : st [] = [] := by rw [hst]; rfl
    rw [sSeq_nx (e := envL ns W none none none none none none none none) (s := st (irange 0 3))]
    · exact ⟨_, rfl⟩
    rw [sFor_fix (xs := (irange 0 3).map DV.int) (s := []) (iRange1_ok (by walk_at "ev") (by omega))]
    rw [← h0]
    refine runL_eq (E := fun _ => envL ns W none none none none none none none none) (St := st) ?_
    intro done b rest hb
    have hbm := mem_irange.mp (show b ∈ irange 0 3 by rw [hb]; simp)
    obtain ⟨B, hB⟩ : ∃ B, B = lawBar ns b 2 := ⟨_, rfl⟩
    have o : OkBar B := by rw [hB]; exact lawBar_ok (by omega)
    have of := full_ok o
    have hlb := e_lawbar ns b 2 (by omega) (by omega)
    rw [← hB] at hlb
    have hpl := o.pl
    have hql := o.ql
    refine ⟨envL ns W (some (.int b)) none none none none none none none, rfl, envL ns W (some (.int b)) (some (encBar B)) (some (.lst ((fullB B).nuts.map encC))) none none (some (encBar (fullB B))) none none, ?_, rfl⟩
    have hstep : st (done ++ [b]) = st done ++ [.dead] := by rw [hst]; simp
    rw [hstep]
    generalize st done = s
    rw [sSeq_nx (e := envL ns W (some (.int b)) (some (encBar B)) none none none none none none) (s := s) (sAsg_ok (eCall_ok (ds := [.scr ns, .int b, .int 2]) (by simp [aCons, aNil, eVar, eC]) (by simp) hlb) rfl)]
    rw [sSeq_nx (e := envL ns W (some (.int b)) (some (encBar B)) (some (.loc s.length)) none none none none none) (s := s ++ [.lst []]) (by rfl)]
    rw [sSeq_nx (e := envL ns W (some (.int b)) (some (encBar B)) (some (.loc s.length)) none none none none none) (s := s ++ [.lst ((fullB B).nuts.map encC)])]
    rotate_left
    · rw [sFor_fix (xs := (irange 0 (B.p.length + 1)).map DV.int) (s := s ++ [.lst []]) (iRange1_ok (by simp only [envL, encBar]; walk_at "ev") (by omega))]
      rw [show wipeE (envL ns W (some (.int b)) (some (encBar B)) (some (.loc s.length)) none none none none none) [5] = envL ns W (some (.int b)) (some (encBar B)) (some (.loc s.length)) none none none none none from rfl]
      rw [runL_ext (St := fun a : List DV => s ++ [DO.lst a]) (M := 1000) (n := 5) (f := fun c => (irange 0 (B.q.length + 1)).map fun r => encC (c, r)) (irange 0 (B.p.length + 1)) []]
      · simp [fullB, List.map_flatMap, Function.comp_def]
      · intro c _; rw [List.length_map, irange_len]; omega
      · simp [irange_len]; omega
      intro acc c hc hacc
      refine ⟨envL ns W (some (.int b)) (some (encBar B)) (some (.loc s.length)) (some (.int c)) none none none none, rfl, envL ns W (some (.int b)) (some (encBar B)) (some (.loc s.length)) (some (.int c)) none none none none, sExpr_ok (d := .non) ?_, rfl⟩
      have hcm := a1_ok (comp_map (bb := false) (own := [9]) (p := .nm 9) (elt := eTup (aCons (eVar 5) (aCons (eVar 9) aNil))) (env := envL ns W (some (.int b)) (some (encBar B)) (some (.loc s.length)) (some (.int c)) none none none none) (enc := DV.int) (Y := fun r => encC (c, r)) (ys := irange 0 (B.q.length + 1)) (sto := s ++ [.lst acc]) (s := s ++ [.lst acc]) (iRange1_ok (t := aCons (eOp (oAdd false) (eCB fLen (aCons (eIx (eVar 3) (eC (.int 1))) aNil)) (eC (.int 1))) aNil) (by simp only [envL, encBar]; walk_at "ev") (by omega)) (by rw [irange_len]; omega) fun y hy => ⟨envL ns W (some (.int b)) (some (encBar B)) (some (.loc s.length)) (some (.int c)) none none none (some (.int y)), rfl, by simp [eTup, aCons, aNil, eVar, encC]⟩)
      have hat : (s ++ [DO.lst acc])[s.length]? = some (.lst acc) := by simp
      unfold eBM
      rw [show eVar 4 (envL ns W (some (.int b)) (some (encBar B)) (some (.loc s.length)) (some (.int c)) none none none none) (s ++ [.lst acc]) = .ok (.loc s.length) (s ++ [.lst acc]) from rfl]
      simp only [Res.bind_ok, hat]
      rw [hcm]
      simp only [Res.bind_ok, hat, mExtend, lstOf, List.length_map, irange_len]
      rw [if_pos (by omega)]
      simp
    rw [sSeq_nx (e := envL ns W (some (.int b)) (some (encBar B)) (some (.lst ((fullB B).nuts.map encC))) none none none none none) (s := s ++ [.dead]) (by
      have hat : (s ++ [DO.lst ((fullB B).nuts.map encC)])[s.length]? = some (.lst ((fullB B).nuts.map encC)) := by simp
      unfold sFrz
      simp only [List.getElem?_cons_zero, List.getElem?_cons_succ, hat]
      rw [if_pos (by simp)]
      simp)]
    generalize s ++ [DO.dead] = s'
    rw [sSeq_nx (e := envL ns W (some (.int b)) (some (encBar B)) (some (.lst ((fullB B).nuts.map encC))) none none none none none) (s := s')]
    rotate_left
    · rw [sFor_fix (xs := [1, 1 + W / 3 % 3].map DV.int) (s := s') (iSeq_tup (by walk_at "ev"; simp [oDiv, oMod]))]
      refine runL_eq (E := fun _ => envL ns W (some (.int b)) (some (encBar B)) (some (.lst ((fullB B).nuts.map encC))) none none none none none) (St := fun _ => s') ?_
      intro dn m rs hm
      have hm3 : 1 ≤ m ∧ m ≤ 3 := by
        have : m ∈ [1, 1 + W / 3 % 3] := by rw [hm]; simp
        simp only [List.mem_cons, List.not_mem_nil, or_false] at this
        rcases this with rfl | rfl <;> omega
      obtain ⟨r, hall⟩ := e_all12 o hm3.1
      refine ⟨envL ns W (some (.int b)) (some (encBar B)) (some (.lst ((fullB B).nuts.map encC))) none (some (.int m)) none none none, rfl, envL ns W (some (.int b)) (some (encBar B)) (some (.lst ((fullB B).nuts.map encC))) none (some (.int m)) none (some (.lst ((cw B m (wholeP B) :: r).map encC))) none, ?_, rfl⟩
      rw [sSeq_nx (e := envL ns W (some (.int b)) (some (encBar B)) (some (.lst ((fullB B).nuts.map encC))) none (some (.int m)) none (some (.lst ((cw B m (wholeP B) :: r).map encC))) none) (s := s') (sAsg_ok (eCall_ok (ds := [encBar B, .int m, encP (wholeP B)]) (s := s') (aCons_ok rfl (aCons_ok rfl (a1_ok (eCall_ok (a1_ok (d := encBar B) (s1 := s') rfl) (by simp) (e_lawwhole B))))) (by simp) hall) rfl)]
      have hc1 := eCall_ok (G := G_cost) (env := envL ns W (some (.int b)) (some (encBar B)) (some (.lst ((fullB B).nuts.map encC))) none (some (.int m)) none (some (.lst ((cw B m (wholeP B) :: r).map encC))) none) (sto := s') (t := aCons (eVar 3) (aCons (eVar 6) aNil)) (ds := [encBar B, .int m]) (s := s') (by simp [aCons, aNil, eVar]) (by simp) (e_cost B m o hm3)
      have hc2 := eCall_ok (G := G_how_many) (env := envL ns W (some (.int b)) (some (encBar B)) (some (.lst ((fullB B).nuts.map encC))) none (some (.int m)) none (some (.lst ((cw B m (wholeP B) :: r).map encC))) none) (sto := s') (t := aCons (eVar 3) (aCons (eVar 6) aNil)) (ds := [encBar B, .int m]) (s := s') (by simp [aCons, aNil, eVar]) (by simp) (e_many B m o hm3)
      rw [sIf_ok (c := false) (s := s')]
      · rfl
      have h1 : eTup (aCons (eCall G_cost (aCons (eVar 3) (aCons (eVar 6) aNil))) (aCons (eCall G_how_many (aCons (eVar 3) (aCons (eVar 6) aNil))) aNil)) (envL ns W (some (.int b)) (some (encBar B)) (some (.lst ((fullB B).nuts.map encC))) none (some (.int m)) none (some (.lst ((cw B m (wholeP B) :: r).map encC))) none) s' = .ok (encC (cw B m (wholeP B))) s' := by
        rw [eTup, aCons, hc1, Res.bind_ok, aCons, hc2]
        simp [aNil, encC]
      have h2 : eIx (eVar 8) (eC (.int 0)) (envL ns W (some (.int b)) (some (encBar B)) (some (.lst ((fullB B).nuts.map encC))) none (some (.int m)) none (some (.lst ((cw B m (wholeP B) :: r).map encC))) none) s' = .ok (encC (cw B m (wholeP B))) s' := by
        rw [eIx_ok (s1 := s') rfl (s2 := s') rfl]
        exact ix_lst (by omega) rfl
      rw [tBl, eOp_ok h1 h2, oNe_c]
      rfl
    rw [sSeq_nx (e := envL ns W (some (.int b)) (some (encBar B)) (some (.lst ((fullB B).nuts.map encC))) none none (some (encBar (fullB B))) none none) (s := s') (by simp only [envL, encBar]; walk_at "ev"; exact ⟨rfl, rfl⟩)]
    obtain ⟨r, hall⟩ := e_all12 of (m := 1) (by omega)
    have hwf : wholeP (fullB B) = wholeP B := rfl
    have hru : (cw (fullB B) 1 (wholeP B)).1 = ruleS B.p B.q := by rw [full_rule o _ (whole_mem B), rule_whole]
    have hcf := e_cost (fullB B) 1 of (by omega)
    rw [hwf] at hall hcf
    rw [hru] at hcf
    have k1 : eCall G_apart (aCons (eVar 3) aNil) (envL ns W (some (.int b)) (some (encBar B)) (some (.lst ((fullB B).nuts.map encC))) none none (some (encBar (fullB B))) none none) s' = .ok (.int (ruleS B.p B.q)) s' := eCall_ok (a1_ok (d := encBar B) (s1 := s') rfl) (by simp) (e_apart B o)
    have k2 : eCall (G__law_all 12) (aCons (eVar 7) (aCons (eC (.int 1)) (aCons (eCall G__law_whole_piece (aCons (eVar 3) aNil)) aNil))) (envL ns W (some (.int b)) (some (encBar B)) (some (.lst ((fullB B).nuts.map encC))) none none (some (encBar (fullB B))) none none) s' = .ok (.lst ((cw (fullB B) 1 (wholeP B) :: r).map encC)) s' :=
      eCall_ok (aCons_ok (d := encBar (fullB B)) rfl (aCons_ok rfl (a1_ok (eCall_ok (a1_ok (d := encBar B) (s1 := s') rfl) (by simp) (e_lawwhole B))))) (by simp) hall
    have k3 : eIx (eIx (eCall (G__law_all 12) (aCons (eVar 7) (aCons (eC (.int 1)) (aCons (eCall G__law_whole_piece (aCons (eVar 3) aNil)) aNil)))) (eC (.int 0))) (eC (.int 0)) (envL ns W (some (.int b)) (some (encBar B)) (some (.lst ((fullB B).nuts.map encC))) none none (some (encBar (fullB B))) none none) s' = .ok (.int (ruleS B.p B.q)) s' := by
      rw [eIx_ok (x := encC (cw (fullB B) 1 (wholeP B))) (s1 := s') (by rw [eIx_ok k2 rfl]; exact ix_lst (by omega) rfl) (s2 := s') rfl]
      exact (ix_tup (by omega) rfl).trans (by rw [hru])
    have k4 : eCall G_cost (aCons (eVar 7) (aCons (eC (.int 1)) aNil)) (envL ns W (some (.int b)) (some (encBar B)) (some (.lst ((fullB B).nuts.map encC))) none none (some (encBar (fullB B))) none none) s' = .ok (.int (ruleS B.p B.q)) s' := eCall_ok (aCons_ok (d := encBar (fullB B)) rfl (a1_ok rfl)) (by simp) hcf
    rw [sIf_ok (c := false) (s := s')]
    · rfl
    rw [tOr_ok (c := false) (s1 := s') (by rw [tBl, eOp_ok k1 k3, oNe_int]; simp)]
    rw [if_neg (by simp), tBl, eOp_ok k1 k4, oNe_int]
    simp
  obtain ⟨sto, h⟩ := main
  exact runP_rt rfl h (by simp)
end BB
namespace BB
open PySem PySem.Spec PyProof.Rows L2
def topS (i : Nat) : Stmt := PySem.Challenge.pw_breakbars_k03_least_by_all.main.body.getD i (.Pass ⟨0, 0, 0, 0⟩)
structure Facts (P : Program) (w : World) (K : PySem.W.Frag) (mg : Str → Option Value) (base : Heap) : Prop where
  n_all : mg "all" = none
  n_any : mg "any" = none
  n_bool : mg "bool" = none
  n_int : mg "int" = none
  n_isinstance : mg "isinstance" = none
  n_len : mg "len" = none
  n_list : mg "list" = none
  n_min : mg "min" = none
  n_range : mg "range" = none
  n_sorted : mg "sorted" = none
  n_sum : mg "sum" = none
  n_tuple : mg "tuple" = none
  n_zip : mg "zip" = none
  k_MOST_LINES : ∃ t, mg "MOST_LINES" = some (.int 4 t)
  k_MOST_PRICE : ∃ t, mg "MOST_PRICE" = some (.int 9 t)
  k_MOST_NUTS : ∃ t, mg "MOST_NUTS" = some (.int 3 t)
  d_whole_of : DefAt K mg "whole_of" (topS 1) ["bar"]
  d_pieces_of : DefAt K mg "pieces_of" (topS 2) ["bar"]
  d_nuts_in : DefAt K mg "nuts_in" (topS 3) ["bar", "piece"]
  d_lines_in : DefAt K mg "lines_in" (topS 4) ["piece"]
  d_price_of : DefAt K mg "price_of" (topS 5) ["bar", "way", "line"]
  d_parts_of : DefAt K mg "parts_of" (topS 6) ["piece", "way", "line"]
  d_size_of : DefAt K mg "size_of" (topS 7) ["piece"]
  d_by_size : DefAt K mg "by_size" (topS 8) ["bar"]
  d_costs_of : DefAt K mg "costs_of" (topS 9) ["bar", "most"]
  d_is_whole : DefAt K mg "is_whole" (topS 18) ["thing"]
  d_is_between : DefAt K mg "is_between" (topS 19) ["thing", "least", "most"]
  d_are_prices : DefAt K mg "are_prices" (topS 20) ["thing"]
  d_is_cell : DefAt K mg "is_cell" (topS 21) ["thing", "wide", "high"]
  d_check_bar : DefAt K mg "check_bar" (topS 22) ["bar"]
  d_check_both : DefAt K mg "check_both" (topS 23) ["bar", "most"]
  d_cost : DefAt K mg "cost" (topS 25) ["bar", "most"]
  d_apart : DefAt K mg "apart" (topS 26) ["bar"]
  d_how_many : DefAt K mg "how_many" (topS 27) ["bar", "most"]
  d__law_number : DefAt K mg "_law_number" (topS 29) ["_law_cell", "_law_at", "_law_whole"]
  d__law_bar : DefAt K mg "_law_bar" (topS 30) ["_law_script", "_law_by", "_law_most"]
  d__law_nuts : DefAt K mg "_law_nuts" (topS 31) ["_law_bar_here", "_law_piece"]
  d__law_cuts : DefAt K mg "_law_cuts" (topS 32) ["_law_bar_here", "_law_piece"]
  d__law_whole_piece : DefAt K mg "_law_whole_piece" (topS 33) ["_law_bar_here"]
  d__law_all : DefAt K mg "_law_all" (topS 34) ["_law_bar_here", "_law_most", "_law_piece"]
section
variable {P : Program} {w : World} {K : PySem.W.Frag} {mg : Str → Option Value} {base : Heap} {cA : Nat → Addr}
abbrev st_whole_of : Stmt := topS 1
theorem sc_whole_of : FnScope N_whole_of ["bar"] (defScope st_whole_of) := ⟨rfl, rfl, rfl, by decide +kernel, rfl, by decide +kernel, by decide +kernel⟩
theorem ok_whole_of (T : Facts P w K mg base) : Callee P w K mg base cA "whole_of" 1 G_whole_of :=
  callee T.d_whole_of sc_whole_of (fun f cdv A outer s H E hr => (gs_one (g_ret (g_tup (ga_cons g_int (ga_cons g_int (ga_cons (g_bin (s_add false) (n_add false) (g_callB s_len n_len T.n_len (ga_cons (g_ix (u1 hr) (g_var 0) g_int) ga_nil)) g_int) (ga_cons (g_bin (s_add false) (n_add false) (g_callB s_len n_len T.n_len (ga_cons (g_ix (u1 hr) (g_var 0) g_int) ga_nil)) g_int) ga_nil))))))))
abbrev st_pieces_of : Stmt := topS 2
theorem sc_pieces_of : FnScope N_pieces_of ["bar"] (defScope st_pieces_of) := ⟨rfl, rfl, rfl, by decide +kernel, rfl, by decide +kernel, by decide +kernel⟩
theorem ok_pieces_of (T : Facts P w K mg base) : Callee P w K mg base cA "pieces_of" 2 G_pieces_of :=
  callee T.d_pieces_of sc_pieces_of (fun f cdv A outer s H E hr => (gs_cons (g_asg (pg_tup rfl (pgs_cons (pg_name (i := 1) sc_pieces_of.nd rfl (by first | exact Or.inl rfl | exact Or.inr rfl)) (pgs_cons (pg_name (i := 2) sc_pieces_of.nd rfl (by first | exact Or.inl rfl | exact Or.inr rfl)) (pgs_cons (pg_name (i := 3) sc_pieces_of.nd rfl (by first | exact Or.inl rfl | exact Or.inr rfl)) (pgs_cons (pg_name (i := 4) sc_pieces_of.nd rfl (by first | exact Or.inl rfl | exact Or.inr rfl)) pgs_nil))))) (g_callC (ok_whole_of T) (hr.mono (by decide)) (ga_cons (g_var 0) ga_nil)))
    (gs_cons (g_set 5 sc_pieces_of.nd (g_lst true ga_nil))
    (gs_cons (g_for [6, 7, 8] PassesOwn.never rfl (gi_range1 T.n_range (ga_cons (g_var 3) ga_nil)) (pg_name (i := 6) sc_pieces_of.nd rfl (by first | exact Or.inl rfl | exact Or.inr rfl)) (gs_one (g_for [7, 8] PassesOwn.never rfl (gi_range1 T.n_range (ga_cons (g_var 4) ga_nil)) (pg_name (i := 7) sc_pieces_of.nd rfl (by first | exact Or.inl rfl | exact Or.inr rfl)) (gs_one (g_for [8] PassesOwn.never rfl (gi_range2 T.n_range (ga_cons (g_bin (s_add false) (n_add false) (g_var 6) g_int) (ga_cons (g_bin (s_add false) (n_add false) (g_var 3) g_int) ga_nil))) (pg_name (i := 8) sc_pieces_of.nd rfl (by first | exact Or.inl rfl | exact Or.inr rfl)) (gs_one (g_expr (g_extend (g_var 5) (ga_cons (g_comp false [("last", 9)] rfl sc_pieces_of.nd (gi_range2 T.n_range (ga_cons (g_bin (s_add false) (n_add false) (g_var 7) g_int) (ga_cons (g_bin (s_add false) (n_add false) (g_var 4) g_int) ga_nil))) (blkOk_by (N := N_pieces_of) (sc := (defScope st_pieces_of)) (own := [("last", 9)]) (by decide +kernel)) (by decide) (fun _ _ _ _ _ => (pg_name (i := 9) sc_pieces_of.nd rfl (by first | exact Or.inl rfl | exact Or.inr rfl))) (fun _ _ _ _ _ => gts_nil) (fun _ _ _ _ _ => (g_tup (ga_cons (g_var 6) (ga_cons (g_var 7) (ga_cons (g_var 8) (ga_cons (g_var 9) ga_nil))))))) ga_nil)))))))))
    (gs_one (g_ret (g_var 5)))))))
abbrev st_nuts_in : Stmt := topS 3
theorem sc_nuts_in : FnScope N_nuts_in ["bar", "piece"] (defScope st_nuts_in) := ⟨rfl, rfl, rfl, by decide +kernel, rfl, by decide +kernel, by decide +kernel⟩
theorem ok_nuts_in (T : Facts P w K mg base) : Callee P w K mg base cA "nuts_in" 1 G_nuts_in :=
  callee T.d_nuts_in sc_nuts_in (fun f cdv A outer s H E hr => (gs_one (g_ret (g_callB s_len n_len T.n_len (ga_cons (g_comp false [("nut", 2)] rfl sc_nuts_in.nd (gi_seq (g_ix (u1 hr) (g_var 0) g_int)) (blkOk_by (N := N_nuts_in) (sc := (defScope st_nuts_in)) (own := [("nut", 2)]) (by decide +kernel)) (by decide) (fun _ _ _ _ _ => (pg_name (i := 2) sc_nuts_in.nd rfl (by first | exact Or.inl rfl | exact Or.inr rfl))) (fun _ _ _ _ _ => (gts_one (GW.gt (gw_and (gt_chain s_le n_le s_lt n_lt (g_ix (u1 hr) (g_var 1) g_int) (g_ix (u1 hr) (g_var 2) g_int) (g_ix (u1 hr) (g_var 1) g_int)) (gw_and1 (gt_chain s_le n_le s_lt n_lt (g_ix (u1 hr) (g_var 1) g_int) (g_ix (u1 hr) (g_var 2) g_int) (g_ix (u1 hr) (g_var 1) g_int))))))) (fun _ _ _ _ _ => (g_var 2))) ga_nil)))))
abbrev st_lines_in : Stmt := topS 4
theorem sc_lines_in : FnScope N_lines_in ["piece"] (defScope st_lines_in) := ⟨rfl, rfl, rfl, by decide +kernel, rfl, by decide +kernel, by decide +kernel⟩
theorem ok_lines_in (T : Facts P w K mg base) : Callee P w K mg base cA "lines_in" 1 G_lines_in :=
  callee T.d_lines_in sc_lines_in (fun f cdv A outer s H E hr => (gs_cons (g_setComp false [("line", 2)] 1 rfl sc_lines_in.nd (gi_range2 T.n_range (ga_cons (g_bin (s_add false) (n_add false) (g_ix (u1 hr) (g_var 0) g_int) g_int) (ga_cons (g_ix (u1 hr) (g_var 0) g_int) ga_nil))) (blkOk_by (N := N_lines_in) (sc := (defScope st_lines_in)) (own := [("line", 2)]) (by decide +kernel)) (by decide) (fun _ _ _ _ _ => (pg_name (i := 2) sc_lines_in.nd rfl (by first | exact Or.inl rfl | exact Or.inr rfl))) (fun _ _ _ _ _ => gts_nil) (fun _ _ _ _ _ => (g_tup (ga_cons g_int (ga_cons (g_var 2) ga_nil)))) (sw_true rfl rfl rfl (by decide +kernel)))
    (gs_one (g_ret (g_bin (s_add false) (n_add false) (g_var 1) (g_comp false [("line", 2)] rfl sc_lines_in.nd (gi_range2 T.n_range (ga_cons (g_bin (s_add false) (n_add false) (g_ix (u1 hr) (g_var 0) g_int) g_int) (ga_cons (g_ix (u1 hr) (g_var 0) g_int) ga_nil))) (blkOk_by (N := N_lines_in) (sc := (defScope st_lines_in)) (own := [("line", 2)]) (by decide +kernel)) (by decide) (fun _ _ _ _ _ => (pg_name (i := 2) sc_lines_in.nd rfl (by first | exact Or.inl rfl | exact Or.inr rfl))) (fun _ _ _ _ _ => gts_nil) (fun _ _ _ _ _ => (g_tup (ga_cons g_int (ga_cons (g_var 2) ga_nil))))))))))
abbrev st_price_of : Stmt := topS 5
theorem sc_price_of : FnScope N_price_of ["bar", "way", "line"] (defScope st_price_of) := ⟨rfl, rfl, rfl, by decide +kernel, rfl, by decide +kernel, by decide +kernel⟩
theorem ok_price_of (T : Facts P w K mg base) : Callee P w K mg base cA "price_of" 1 G_price_of :=
  callee T.d_price_of sc_price_of (fun f cdv A outer s H E hr => (gs_one (g_ret (g_ix (u1 hr) (g_ix (u1 hr) (g_var 0) (g_var 1)) (g_bin s_sub n_sub (g_var 2) g_int)))))
abbrev st_parts_of : Stmt := topS 6
theorem sc_parts_of : FnScope N_parts_of ["piece", "way", "line"] (defScope st_parts_of) := ⟨rfl, rfl, rfl, by decide +kernel, rfl, by decide +kernel, by decide +kernel⟩
theorem ok_parts_of (T : Facts P w K mg base) : Callee P w K mg base cA "parts_of" 1 G_parts_of :=
  callee T.d_parts_of sc_parts_of (fun f cdv A outer s H E hr => (gs_cons (g_asg (pg_tup rfl (pgs_cons (pg_name (i := 3) sc_parts_of.nd rfl (by first | exact Or.inl rfl | exact Or.inr rfl)) (pgs_cons (pg_name (i := 4) sc_parts_of.nd rfl (by first | exact Or.inl rfl | exact Or.inr rfl)) (pgs_cons (pg_name (i := 5) sc_parts_of.nd rfl (by first | exact Or.inl rfl | exact Or.inr rfl)) (pgs_cons (pg_name (i := 6) sc_parts_of.nd rfl (by first | exact Or.inl rfl | exact Or.inr rfl)) pgs_nil))))) (g_var 0))
    (gs_cons (g_ifS (gt_cmp (s_eq (u64 hr)) n_eq (g_var 1) g_int) (gs_one (g_ret (g_tup (ga_cons (g_tup (ga_cons (g_var 3) (ga_cons (g_var 4) (ga_cons (g_var 2) (ga_cons (g_var 6) ga_nil))))) (ga_cons (g_tup (ga_cons (g_var 2) (ga_cons (g_var 4) (ga_cons (g_var 5) (ga_cons (g_var 6) ga_nil))))) ga_nil))))) gs_nil)
    (gs_one (g_ret (g_tup (ga_cons (g_tup (ga_cons (g_var 3) (ga_cons (g_var 4) (ga_cons (g_var 5) (ga_cons (g_var 2) ga_nil))))) (ga_cons (g_tup (ga_cons (g_var 3) (ga_cons (g_var 2) (ga_cons (g_var 5) (ga_cons (g_var 6) ga_nil))))) ga_nil))))))))
abbrev st_size_of : Stmt := topS 7
theorem sc_size_of : FnScope N_size_of ["piece"] (defScope st_size_of) := ⟨rfl, rfl, rfl, by decide +kernel, rfl, by decide +kernel, by decide +kernel⟩
theorem ok_size_of (T : Facts P w K mg base) : Callee P w K mg base cA "size_of" 1 G_size_of :=
  callee T.d_size_of sc_size_of (fun f cdv A outer s H E hr => (gs_one (g_ret (g_bin (s_mul false) (n_mul false) (g_bin s_sub n_sub (g_ix (u1 hr) (g_var 0) g_int) (g_ix (u1 hr) (g_var 0) g_int)) (g_bin s_sub n_sub (g_ix (u1 hr) (g_var 0) g_int) (g_ix (u1 hr) (g_var 0) g_int))))))
abbrev st_by_size : Stmt := topS 8
theorem sc_by_size : FnScope N_by_size ["bar"] (defScope st_by_size) := ⟨rfl, rfl, rfl, by decide +kernel, rfl, by decide +kernel, by decide +kernel⟩
theorem ok_by_size (T : Facts P w K mg base) : Callee P w K mg base cA "by_size" 3 G_by_size :=
  callee T.d_by_size sc_by_size (fun f cdv A outer s H E hr => (gs_one (g_ret (g_comp false [("size", 1), ("piece", 2)] rfl sc_by_size.nd (gi_seq (g_callB (s_sorted false (u200 hr)) (n_sorted false) T.n_sorted (ga_cons (g_comp false [("piece", 2)] rfl sc_by_size.nd (gi_seq (g_callC (ok_pieces_of T) (hr.mono (by decide)) (ga_cons (g_var 0) ga_nil))) (blkOk_by (N := N_by_size) (sc := (defScope st_by_size)) (own := [("piece", 2)]) (by decide +kernel)) (by decide) (fun _ _ _ _ _ => (pg_name (i := 2) sc_by_size.nd rfl (by first | exact Or.inl rfl | exact Or.inr rfl))) (fun _ _ _ _ _ => gts_nil) (fun _ _ _ _ _ => (g_tup (ga_cons (g_callC (ok_size_of T) (hr.mono (by decide)) (ga_cons (g_var 2) ga_nil)) (ga_cons (g_var 2) ga_nil))))) ga_nil))) (blkOk_by (N := N_by_size) (sc := (defScope st_by_size)) (own := [("size", 1), ("piece", 2)]) (by decide +kernel)) (by decide) (fun _ _ _ _ _ => (pg_tup rfl (pgs_cons (pg_name (i := 1) sc_by_size.nd rfl (by first | exact Or.inl rfl | exact Or.inr rfl)) (pgs_cons (pg_name (i := 2) sc_by_size.nd rfl (by first | exact Or.inl rfl | exact Or.inr rfl)) pgs_nil)))) (fun _ _ _ _ _ => gts_nil) (fun _ _ _ _ _ => (g_var 2))))))
abbrev st_costs_of : Stmt := topS 9
theorem sc_costs_of : FnScope N_costs_of ["bar", "most"] (defScope st_costs_of) := ⟨rfl, rfl, rfl, by decide +kernel, rfl, by decide +kernel, by decide +kernel⟩
theorem ok_costs_of (T : Facts P w K mg base) : Callee P w K mg base cA "costs_of" 4 G_costs_of :=
  callee T.d_costs_of sc_costs_of (fun f cdv A outer s H E hr => (gs_cons (g_par 2 3 rfl sc_costs_of.nd (ga_cons g_dicT (ga_cons g_dicT ga_nil)))
    (gs_cons (g_for [4, 5, 6, 7, 8, 9, 10, 11] PassesOwn.never rfl (gi_seq (g_callC (ok_by_size T) (hr.mono (by decide)) (ga_cons (g_var 0) ga_nil))) (pg_name (i := 4) sc_costs_of.nd rfl (by first | exact Or.inl rfl | exact Or.inr rfl)) (gs_cons (g_puts (u1 hr) rfl (gp_cons (g_var 2) (g_var 4) (gp_cons (g_var 3) (g_var 4) GPuts.nil)) (g_tup (ga_cons g_int (ga_cons g_int ga_nil))))
    (gs_one (g_ifS (gt_cmp s_gt n_gt (g_callC (ok_nuts_in T) (hr.mono (by decide)) (ga_cons (g_var 0) (ga_cons (g_var 4) ga_nil))) (g_var 1)) (gs_cons (g_asg (pg_tup rfl (pgs_cons (pg_name (i := 5) sc_costs_of.nd rfl (by first | exact Or.inl rfl | exact Or.inr rfl)) (pgs_cons (pg_name (i := 6) sc_costs_of.nd rfl (by first | exact Or.inl rfl | exact Or.inr rfl)) pgs_nil))) (g_tup (ga_cons (g_neg g_int) (ga_cons g_int ga_nil))))
    (gs_cons (g_for [7, 8, 9, 10, 11] PassesOwn.never rfl (gi_seq (g_callC (ok_lines_in T) (hr.mono (by decide)) (ga_cons (g_var 4) ga_nil))) (pg_tup rfl (pgs_cons (pg_name (i := 7) sc_costs_of.nd rfl (by first | exact Or.inl rfl | exact Or.inr rfl)) (pgs_cons (pg_name (i := 8) sc_costs_of.nd rfl (by first | exact Or.inl rfl | exact Or.inr rfl)) pgs_nil))) (gs_cons (g_asg (pg_tup rfl (pgs_cons (pg_name (i := 9) sc_costs_of.nd rfl (by first | exact Or.inl rfl | exact Or.inr rfl)) (pgs_cons (pg_name (i := 10) sc_costs_of.nd rfl (by first | exact Or.inl rfl | exact Or.inr rfl)) pgs_nil))) (g_callC (ok_parts_of T) (hr.mono (by decide)) (ga_cons (g_var 4) (ga_cons (g_var 7) (ga_cons (g_var 8) ga_nil)))))
    (gs_cons (g_set 11 sc_costs_of.nd (g_bin (s_add false) (n_add false) (g_bin (s_add false) (n_add false) (g_callC (ok_price_of T) (hr.mono (by decide)) (ga_cons (g_var 0) (ga_cons (g_var 7) (ga_cons (g_var 8) ga_nil)))) (g_ix (u1 hr) (g_var 2) (g_var 9))) (g_ix (u1 hr) (g_var 2) (g_var 10))))
    (gs_cons (g_ifS (GW.gt (gw_or (gt_cmp s_lt n_lt (g_var 5) g_int) (gw_or1 (gt_cmp s_lt n_lt (g_var 11) (g_var 5))))) (gs_one (g_par 5 6 rfl sc_costs_of.nd (ga_cons (g_var 11) (ga_cons g_int ga_nil)))) gs_nil)
    (gs_one (g_ifS (gt_cmp (s_eq (u64 hr)) n_eq (g_var 11) (g_var 5)) (gs_one (g_augAdd 6 sc_costs_of.nd (g_bin (s_mul false) (n_mul false) (g_ix (u1 hr) (g_var 3) (g_var 9)) (g_ix (u1 hr) (g_var 3) (g_var 10))))) gs_nil))))))
    (gs_one (g_puts (u1 hr) rfl (gp_cons (g_var 2) (g_var 4) (gp_cons (g_var 3) (g_var 4) GPuts.nil)) (g_tup (ga_cons (g_var 5) (ga_cons (g_var 6) ga_nil))))))) gs_nil))))
    (gs_one (g_ret (g_tup (ga_cons (g_var 2) (ga_cons (g_var 3) ga_nil))))))))
abbrev st_is_whole : Stmt := topS 18
theorem sc_is_whole : FnScope N_is_whole ["thing"] (defScope st_is_whole) := ⟨rfl, rfl, rfl, by decide +kernel, rfl, by decide +kernel, by decide +kernel⟩
theorem ok_is_whole (T : Facts P w K mg base) : Callee P w K mg base cA "is_whole" 1 G_is_whole :=
  callee T.d_is_whole sc_is_whole (fun f cdv A outer s H E hr => (gs_one (g_ret (g_and (g_callB s_isi n_isi T.n_isinstance (ga_cons (g_var 0) (ga_cons (g_ty T.n_int) ga_nil))) (g_one (g_not (g_callB s_isi n_isi T.n_isinstance (ga_cons (g_var 0) (ga_cons (g_ty T.n_bool) ga_nil)))))))))
abbrev st_is_between : Stmt := topS 19
theorem sc_is_between : FnScope N_is_between ["thing", "least", "most"] (defScope st_is_between) := ⟨rfl, rfl, rfl, by decide +kernel, rfl, by decide +kernel, by decide +kernel⟩
theorem ok_is_between (T : Facts P w K mg base) : Callee P w K mg base cA "is_between" 2 G_is_between :=
  callee T.d_is_between sc_is_between (fun f cdv A outer s H E hr => (gs_one (g_ret (g_and (g_callC (ok_is_whole T) (hr.mono (by decide)) (ga_cons (g_var 0) ga_nil)) (g_one (g_chain s_le n_le s_le n_le (g_var 1) (g_var 0) (g_var 2)))))))
abbrev st_are_prices : Stmt := topS 20
theorem sc_are_prices : FnScope N_are_prices ["thing"] (defScope st_are_prices) := ⟨rfl, rfl, rfl, by decide +kernel, rfl, by decide +kernel, by decide +kernel⟩
theorem ok_are_prices (T : Facts P w K mg base) : Callee P w K mg base cA "are_prices" 3 G_are_prices :=
  callee T.d_are_prices sc_are_prices (fun f cdv A outer s H E hr => (gs_cons (g_ifS (GW.gt (gw_or (gt_not (gt_val (g_callB s_isi n_isi T.n_isinstance (ga_cons (g_var 0) (ga_cons (g_ty T.n_list) ga_nil))))) (gw_or1 (gt_cmp s_gt n_gt (g_callB s_len n_len T.n_len (ga_cons (g_var 0) ga_nil)) (g_gint T.k_MOST_LINES))))) (gs_one (g_ret g_bl)) gs_nil)
    (gs_one (g_ret (g_callB (s_all rfl) n_all T.n_all (ga_cons (g_comp false [("price", 1)] rfl sc_are_prices.nd (gi_seq (g_var 0)) (blkOk_by (N := N_are_prices) (sc := (defScope st_are_prices)) (own := [("price", 1)]) (by decide +kernel)) (by decide) (fun _ _ _ _ _ => (pg_name (i := 1) sc_are_prices.nd rfl (by first | exact Or.inl rfl | exact Or.inr rfl))) (fun _ _ _ _ _ => gts_nil) (fun _ _ _ _ _ => (g_callC (ok_is_between T) (hr.mono (by decide)) (ga_cons (g_var 1) (ga_cons g_int (ga_cons (g_gint T.k_MOST_PRICE) ga_nil)))))) ga_nil))))))
abbrev st_is_cell : Stmt := topS 21
theorem sc_is_cell : FnScope N_is_cell ["thing", "wide", "high"] (defScope st_is_cell) := ⟨rfl, rfl, rfl, by decide +kernel, rfl, by decide +kernel, by decide +kernel⟩
theorem ok_is_cell (T : Facts P w K mg base) : Callee P w K mg base cA "is_cell" 3 G_is_cell :=
  callee T.d_is_cell sc_is_cell (fun f cdv A outer s H E hr => (gs_cons (g_ifS (GW.gt (gw_or (gt_not (gt_val (g_callB s_isi n_isi T.n_isinstance (ga_cons (g_var 0) (ga_cons (g_ty T.n_tuple) ga_nil))))) (gw_or1 (gt_cmp (s_ne (u64 hr)) n_ne (g_callB s_len n_len T.n_len (ga_cons (g_var 0) ga_nil)) g_int)))) (gs_one (g_ret g_bl)) gs_nil)
    (gs_one (g_ret (g_and (g_callC (ok_is_between T) (hr.mono (by decide)) (ga_cons (g_ix (u1 hr) (g_var 0) g_int) (ga_cons g_int (ga_cons (g_var 1) ga_nil)))) (g_one (g_callC (ok_is_between T) (hr.mono (by decide)) (ga_cons (g_ix (u1 hr) (g_var 0) g_int) (ga_cons g_int (ga_cons (g_var 2) ga_nil))))))))))
abbrev st_check_bar : Stmt := topS 22
theorem sc_check_bar : FnScope N_check_bar ["bar"] (defScope st_check_bar) := ⟨rfl, rfl, rfl, by decide +kernel, rfl, by decide +kernel, by decide +kernel⟩
theorem ok_check_bar (T : Facts P w K mg base) : Callee P w K mg base cA "check_bar" 4 G_check_bar :=
  callee T.d_check_bar sc_check_bar (fun f cdv A outer s H E hr => (gs_cons (g_ifS (GW.gt (gw_or (gt_not (gt_val (g_callB s_isi n_isi T.n_isinstance (ga_cons (g_var 0) (ga_cons (g_ty T.n_tuple) ga_nil))))) (gw_or (gt_cmp (s_ne (u64 hr)) n_ne (g_callB s_len n_len T.n_len (ga_cons (g_var 0) ga_nil)) g_int) (gw_or (gt_not (gt_val (g_callC (ok_are_prices T) (hr.mono (by decide)) (ga_cons (g_ix (u1 hr) (g_var 0) g_int) ga_nil)))) (gw_or1 (gt_not (gt_val (g_callC (ok_are_prices T) (hr.mono (by decide)) (ga_cons (g_ix (u1 hr) (g_var 0) g_int) ga_nil))))))))) (gs_one g_never) gs_nil)
    (gs_cons (g_ifS (GW.gt (gw_or (gt_not (gt_val (g_callB s_isi n_isi T.n_isinstance (ga_cons (g_ix (u1 hr) (g_var 0) g_int) (ga_cons (g_ty T.n_list) ga_nil))))) (gw_or1 (gt_not (gt_val (g_callB (s_all rfl) n_all T.n_all (ga_cons (g_comp false [("nut", 3)] rfl sc_check_bar.nd (gi_seq (g_ix (u1 hr) (g_var 0) g_int)) (blkOk_by (N := N_check_bar) (sc := (defScope st_check_bar)) (own := [("nut", 3)]) (by decide +kernel)) (by decide) (fun _ _ _ _ _ => (pg_name (i := 3) sc_check_bar.nd rfl (by first | exact Or.inl rfl | exact Or.inr rfl))) (fun _ _ _ _ _ => gts_nil) (fun _ _ _ _ _ => (g_callC (ok_is_cell T) (hr.mono (by decide)) (ga_cons (g_var 3) (ga_cons (g_callB s_len n_len T.n_len (ga_cons (g_ix (u1 hr) (g_var 0) g_int) ga_nil)) (ga_cons (g_callB s_len n_len T.n_len (ga_cons (g_ix (u1 hr) (g_var 0) g_int) ga_nil)) ga_nil)))))) ga_nil))))))) (gs_one g_never) gs_nil)
    (gs_one (g_ifS (gt_val (g_callB (s_any rfl) n_any T.n_any (ga_cons (g_comp false [("one", 1), ("other", 2)] rfl sc_check_bar.nd (gi_zip T.n_zip (ga_cons (g_ix (u1 hr) (g_var 0) g_int) (ga_cons (g_sl false (g_ix (u1 hr) (g_var 0) g_int) (go_some g_int) go_none) ga_nil))) (blkOk_by (N := N_check_bar) (sc := (defScope st_check_bar)) (own := [("one", 1), ("other", 2)]) (by decide +kernel)) (by decide) (fun _ _ _ _ _ => (pg_tup rfl (pgs_cons (pg_name (i := 1) sc_check_bar.nd rfl (by first | exact Or.inl rfl | exact Or.inr rfl)) (pgs_cons (pg_name (i := 2) sc_check_bar.nd rfl (by first | exact Or.inl rfl | exact Or.inr rfl)) pgs_nil)))) (fun _ _ _ _ _ => gts_nil) (fun _ _ _ _ _ => (g_cmp (s_ge (u64 hr)) n_ge (g_var 1) (g_var 2)))) ga_nil))) (gs_one g_never) gs_nil)))))
abbrev st_check_both : Stmt := topS 23
theorem sc_check_both : FnScope N_check_both ["bar", "most"] (defScope st_check_both) := ⟨rfl, rfl, rfl, by decide +kernel, rfl, by decide +kernel, by decide +kernel⟩
theorem ok_check_both (T : Facts P w K mg base) : Callee P w K mg base cA "check_both" 5 G_check_both :=
  callee T.d_check_both sc_check_both (fun f cdv A outer s H E hr => (gs_cons (g_expr (g_callC (ok_check_bar T) (hr.mono (by decide)) (ga_cons (g_var 0) ga_nil)))
    (gs_one (g_ifS (gt_not (gt_val (g_callC (ok_is_between T) (hr.mono (by decide)) (ga_cons (g_var 1) (ga_cons g_int (ga_cons (g_gint T.k_MOST_NUTS) ga_nil)))))) (gs_one g_never) gs_nil))))
abbrev st_cost : Stmt := topS 25
theorem sc_cost : FnScope N_cost ["bar", "most"] (defScope st_cost) := ⟨rfl, rfl, rfl, by decide +kernel, rfl, by decide +kernel, by decide +kernel⟩
theorem ok_cost (T : Facts P w K mg base) : Callee P w K mg base cA "cost" 6 G_cost :=
  callee T.d_cost sc_cost (fun f cdv A outer s H E hr => (gs_cons (g_expr (g_callC (ok_check_both T) (hr.mono (by decide)) (ga_cons (g_var 0) (ga_cons (g_var 1) ga_nil))))
    (gs_one (g_ret (g_ix (u1 hr) (g_ix (u1 hr) (g_callC (ok_costs_of T) (hr.mono (by decide)) (ga_cons (g_var 0) (ga_cons (g_var 1) ga_nil))) g_int) (g_callC (ok_whole_of T) (hr.mono (by decide)) (ga_cons (g_var 0) ga_nil)))))))
abbrev st_apart : Stmt := topS 26
theorem sc_apart : FnScope N_apart ["bar"] (defScope st_apart) := ⟨rfl, rfl, rfl, by decide +kernel, rfl, by decide +kernel, by decide +kernel⟩
theorem ok_apart (T : Facts P w K mg base) : Callee P w K mg base cA "apart" 5 G_apart :=
  callee T.d_apart sc_apart (fun f cdv A outer s H E hr => (gs_cons (g_expr (g_callC (ok_check_bar T) (hr.mono (by decide)) (ga_cons (g_var 0) ga_nil)))
    (gs_cons (g_set 1 sc_apart.nd (g_bin (s_add false) (n_add false) (g_callB (s_sum rfl) n_sum T.n_sum (ga_cons (g_ix (u1 hr) (g_var 0) g_int) ga_nil)) (g_callB (s_sum rfl) n_sum T.n_sum (ga_cons (g_ix (u1 hr) (g_var 0) g_int) ga_nil))))
    (gs_cons (g_for [2] PassesOwn.never rfl (gi_seq (g_ix (u1 hr) (g_var 0) g_int)) (pg_name (i := 2) sc_apart.nd rfl (by first | exact Or.inl rfl | exact Or.inr rfl)) (gs_one (g_augAdd 1 sc_apart.nd (g_callB (s_sum rfl) n_sum T.n_sum (ga_cons (g_comp false [("other", 3)] rfl sc_apart.nd (gi_seq (g_ix (u1 hr) (g_var 0) g_int)) (blkOk_by (N := N_apart) (sc := (defScope st_apart)) (own := [("other", 3)]) (by decide +kernel)) (by decide) (fun _ _ _ _ _ => (pg_name (i := 3) sc_apart.nd rfl (by first | exact Or.inl rfl | exact Or.inr rfl))) (fun _ _ _ _ _ => gts_nil) (fun _ _ _ _ _ => (g_callB (s_min rfl) n_min T.n_min (ga_cons (g_var 2) (ga_cons (g_var 3) ga_nil))))) ga_nil)))))
    (gs_one (g_ret (g_var 1)))))))
abbrev st_how_many : Stmt := topS 27
theorem sc_how_many : FnScope N_how_many ["bar", "most"] (defScope st_how_many) := ⟨rfl, rfl, rfl, by decide +kernel, rfl, by decide +kernel, by decide +kernel⟩
theorem ok_how_many (T : Facts P w K mg base) : Callee P w K mg base cA "how_many" 6 G_how_many :=
  callee T.d_how_many sc_how_many (fun f cdv A outer s H E hr => (gs_cons (g_expr (g_callC (ok_check_both T) (hr.mono (by decide)) (ga_cons (g_var 0) (ga_cons (g_var 1) ga_nil))))
    (gs_one (g_ret (g_ix (u1 hr) (g_ix (u1 hr) (g_callC (ok_costs_of T) (hr.mono (by decide)) (ga_cons (g_var 0) (ga_cons (g_var 1) ga_nil))) g_int) (g_callC (ok_whole_of T) (hr.mono (by decide)) (ga_cons (g_var 0) ga_nil)))))))
abbrev st__law_number : Stmt := topS 29
theorem sc__law_number : FnScope N__law_number ["_law_cell", "_law_at", "_law_whole"] (defScope st__law_number) := ⟨rfl, rfl, rfl, by decide +kernel, rfl, by decide +kernel, by decide +kernel⟩
theorem ok__law_number (T : Facts P w K mg base) : Callee P w K mg base cA "_law_number" 1 G__law_number :=
  callee T.d__law_number sc__law_number (fun f cdv A outer s H E hr => (gs_cons (g_ifS (gt_cmp (s_ge (u64 hr)) n_ge (g_var 0) (g_bin s_pow n_pow g_int g_int)) (gs_one (g_ret (g_var 0))) gs_nil)
    (gs_cons (g_set 3 sc__law_number.nd (g_bin s_mod n_mod (g_var 0) g_int))
    (gs_cons (g_set 4 sc__law_number.nd (g_bin s_mod n_mod (g_bin (s_add false) (n_add false) (g_bin (s_mul false) (n_mul false) (g_bin (s_add false) (n_add false) (g_var 3) (g_bin (s_mul false) (n_mul false) g_int (g_var 1))) g_int) (g_bin s_mod n_mod (g_var 2) g_int)) g_int))
    (gs_cons (g_set 5 sc__law_number.nd (g_bin (s_mul false) (n_mul false) (g_bin (s_mul false) (n_mul false) (g_var 4) (g_bin (s_add false) (n_add false) (g_bin (s_add false) (n_add false) (g_var 4) (g_bin (s_mul false) (n_mul false) g_int (g_var 1))) g_int)) (g_bin (s_add false) (n_add false) (g_bin (s_add false) (n_add false) (g_var 4) (g_var 3)) g_int)))
    (gs_one (g_ret (g_bin s_div n_div (g_bin (s_mul false) (n_mul false) (g_var 5) (g_bin (s_add false) (n_add false) (g_var 5) g_int)) g_int))))))))
abbrev st__law_bar : Stmt := topS 30
theorem sc__law_bar : FnScope N__law_bar ["_law_script", "_law_by", "_law_most"] (defScope st__law_bar) := ⟨rfl, rfl, rfl, by decide +kernel, rfl, by decide +kernel, by decide +kernel⟩
theorem ok__law_bar (T : Facts P w K mg base) : Callee P w K mg base cA "_law_bar" 2 G__law_bar :=
  callee T.d__law_bar sc__law_bar (fun f cdv A outer s H E hr => (gs_cons (g_set 3 sc__law_bar.nd (g_if (gt_cmp (s_ne (u64 hr)) n_ne (g_var 0) (g_lst false ga_nil)) (g_sl false (g_var 0) go_none (go_some g_int)) (g_lst false (ga_cons g_int ga_nil))))
    (gs_cons (g_par3 4 5 6 rfl sc__law_bar.nd (ga_cons (g_bin (s_add false) (n_add false) (g_callB (s_sum rfl) n_sum T.n_sum (ga_cons (g_var 3) ga_nil)) (g_var 1)) (ga_cons (g_lst true ga_nil) (ga_cons (g_lst true ga_nil) ga_nil))))
    (gs_cons (g_set 7 sc__law_bar.nd (g_callC (ok__law_number T) (hr.mono (by decide)) (ga_cons (g_var 4) (ga_cons (g_bin (s_add false) (n_add false) (g_var 1) g_int) (ga_cons g_int ga_nil)))))
    (gs_cons (g_par 8 9 rfl sc__law_bar.nd (ga_cons (g_bin s_mod n_mod (g_bin s_div n_div (g_var 7) g_int) (g_bin (s_add false) (n_add false) (g_var 2) g_int)) (ga_cons (g_bin s_mod n_mod (g_bin s_div n_div (g_var 7) g_int) (g_bin (s_add false) (n_add false) (g_var 2) g_int)) ga_nil)))
    (gs_cons (g_par 10 11 rfl sc__law_bar.nd (ga_cons (g_bin s_mod n_mod (g_bin s_div n_div (g_var 7) g_int) g_int) (ga_cons (g_bin s_mod n_mod (g_bin s_div n_div (g_var 7) g_int) g_int) ga_nil)))
    (gs_cons (g_for [12, 14] PassesOwn.never rfl (gi_range1 T.n_range (ga_cons (g_bin (s_add false) (n_add false) (g_var 8) (g_var 9)) ga_nil)) (pg_name (i := 12) sc__law_bar.nd rfl (by first | exact Or.inl rfl | exact Or.inr rfl)) (gs_cons (g_set 14 sc__law_bar.nd (g_bin s_div n_div (g_callC (ok__law_number T) (hr.mono (by decide)) (ga_cons (g_bin (s_add false) (n_add false) (g_ix (u1 hr) (g_var 3) (g_bin s_mod n_mod (g_bin (s_add false) (n_add false) (g_var 12) (g_var 1)) (g_callB s_len n_len T.n_len (ga_cons (g_var 3) ga_nil)))) (g_bin (s_mul false) (n_mul false) g_int (g_var 12))) (ga_cons (g_bin (s_add false) (n_add false) (g_var 12) (g_var 1)) (ga_cons (g_var 4) ga_nil)))) g_int))
    (gs_one (g_expr (g_append (g_var 5) (ga_cons (g_ix (u1 hr) (g_tup (ga_cons (g_bin (s_add false) (n_add false) g_int (g_bin s_mod n_mod (g_var 14) g_int)) (ga_cons (g_bin (s_add false) (n_add false) g_int (g_bin s_mod n_mod (g_bin s_div n_div (g_var 7) g_int) g_int)) (ga_cons (g_ix (u1 hr) (g_tup (ga_cons g_int (ga_cons g_int (ga_cons g_int (ga_cons g_int ga_nil))))) (g_bin s_mod n_mod (g_var 14) g_int)) ga_nil)))) (g_var 10)) ga_nil))))))
    (gs_cons (g_for [13, 15, 16] PassesOwn.never rfl (gi_range1 T.n_range (ga_cons (g_bin (s_add false) (n_add false) (g_var 8) g_int) ga_nil)) (pg_name (i := 13) sc__law_bar.nd rfl (by first | exact Or.inl rfl | exact Or.inr rfl)) (gs_one (g_for [15, 16] PassesOwn.never rfl (gi_range1 T.n_range (ga_cons (g_bin (s_add false) (n_add false) (g_var 9) g_int) ga_nil)) (pg_name (i := 15) sc__law_bar.nd rfl (by first | exact Or.inl rfl | exact Or.inr rfl)) (gs_cons (g_set 16 sc__law_bar.nd (g_bin s_div n_div (g_callC (ok__law_number T) (hr.mono (by decide)) (ga_cons (g_bin (s_add false) (n_add false) (g_ix (u1 hr) (g_var 3) (g_bin s_mod n_mod (g_bin (s_add false) (n_add false) (g_var 13) (g_var 1)) (g_callB s_len n_len T.n_len (ga_cons (g_var 3) ga_nil)))) (g_bin (s_mul false) (n_mul false) g_int (g_var 15))) (ga_cons (g_bin (s_add false) (n_add false) (g_bin (s_mul false) (n_mul false) g_int (g_var 13)) (g_var 15)) (ga_cons (g_var 4) ga_nil)))) g_int))
    (gs_one (g_ifS (gt_val (g_ix (u1 hr) (g_tup (ga_cons (g_cmp s_gt n_gt (g_bin s_mod n_mod (g_var 16) g_int) g_int) (ga_cons (g_cmp (s_eq (u64 hr)) n_eq (g_bin s_mod n_mod (g_var 16) g_int) g_int) (ga_cons g_bl (ga_cons (g_cmp (s_eq (u64 hr)) n_eq (g_var 15) (g_bin s_mod n_mod (g_bin s_div n_div (g_var 7) g_int) (g_bin (s_add false) (n_add false) (g_var 9) g_int))) ga_nil))))) (g_var 11))) (gs_one (g_expr (g_append (g_var 6) (ga_cons (g_tup (ga_cons (g_var 13) (ga_cons (g_var 15) ga_nil))) ga_nil)))) gs_nil))))))
    (gs_one (g_ret (g_tup (ga_cons (g_sl false (g_var 5) go_none (go_some (g_var 8))) (ga_cons (g_sl false (g_var 5) (go_some (g_var 8)) go_none) (ga_cons (g_var 6) ga_nil))))))))))))))
abbrev st__law_nuts : Stmt := topS 31
theorem sc__law_nuts : FnScope N__law_nuts ["_law_bar_here", "_law_piece"] (defScope st__law_nuts) := ⟨rfl, rfl, rfl, by decide +kernel, rfl, by decide +kernel, by decide +kernel⟩
theorem ok__law_nuts (T : Facts P w K mg base) : Callee P w K mg base cA "_law_nuts" 1 G__law_nuts :=
  callee T.d__law_nuts sc__law_nuts (fun f cdv A outer s H E hr => (gs_cons (g_set 2 sc__law_nuts.nd g_int)
    (gs_cons (g_for [3, 4] PassesOwn.never rfl (gi_seq (g_ix (u1 hr) (g_var 0) g_int)) (pg_tup rfl (pgs_cons (pg_name (i := 3) sc__law_nuts.nd rfl (by first | exact Or.inl rfl | exact Or.inr rfl)) (pgs_cons (pg_name (i := 4) sc__law_nuts.nd rfl (by first | exact Or.inl rfl | exact Or.inr rfl)) pgs_nil))) (gs_one (g_set 2 sc__law_nuts.nd (g_bin (s_add false) (n_add false) (g_var 2) (g_callTy s_int n_int T.n_int (ga_cons (g_and (g_chain s_le n_le s_lt n_lt (g_ix (u1 hr) (g_var 1) g_int) (g_var 3) (g_ix (u1 hr) (g_var 1) g_int)) (g_one (g_chain s_le n_le s_lt n_lt (g_ix (u1 hr) (g_var 1) g_int) (g_var 4) (g_ix (u1 hr) (g_var 1) g_int)))) ga_nil))))))
    (gs_one (g_ret (g_var 2))))))
abbrev st__law_cuts : Stmt := topS 32
theorem sc__law_cuts : FnScope N__law_cuts ["_law_bar_here", "_law_piece"] (defScope st__law_cuts) := ⟨rfl, rfl, rfl, by decide +kernel, rfl, by decide +kernel, by decide +kernel⟩
theorem ok__law_cuts (T : Facts P w K mg base) : Callee P w K mg base cA "_law_cuts" 1 G__law_cuts :=
  callee T.d__law_cuts sc__law_cuts (fun f cdv A outer s H E hr => (gs_cons (g_asg (pg_tup rfl (pgs_cons (pg_name (i := 2) sc__law_cuts.nd rfl (by first | exact Or.inl rfl | exact Or.inr rfl)) (pgs_cons (pg_name (i := 3) sc__law_cuts.nd rfl (by first | exact Or.inl rfl | exact Or.inr rfl)) (pgs_cons (pg_name (i := 4) sc__law_cuts.nd rfl (by first | exact Or.inl rfl | exact Or.inr rfl)) (pgs_cons (pg_name (i := 5) sc__law_cuts.nd rfl (by first | exact Or.inl rfl | exact Or.inr rfl)) pgs_nil))))) (g_var 1))
    (gs_cons (g_set 6 sc__law_cuts.nd (g_lst true ga_nil))
    (gs_cons (g_for [7] PassesOwn.never rfl (gi_range2 T.n_range (ga_cons (g_bin (s_add false) (n_add false) (g_var 2) g_int) (ga_cons (g_var 4) ga_nil))) (pg_name (i := 7) sc__law_cuts.nd rfl (by first | exact Or.inl rfl | exact Or.inr rfl)) (gs_one (g_expr (g_append (g_var 6) (ga_cons (g_tup (ga_cons g_int (ga_cons (g_var 7) (ga_cons (g_ix (u1 hr) (g_ix (u1 hr) (g_var 0) g_int) (g_bin s_sub n_sub (g_var 7) g_int)) (ga_cons (g_tup (ga_cons (g_var 2) (ga_cons (g_var 3) (ga_cons (g_var 7) (ga_cons (g_var 5) ga_nil))))) (ga_cons (g_tup (ga_cons (g_var 7) (ga_cons (g_var 3) (ga_cons (g_var 4) (ga_cons (g_var 5) ga_nil))))) ga_nil)))))) ga_nil)))))
    (gs_cons (g_for [7] PassesOwn.never rfl (gi_range2 T.n_range (ga_cons (g_bin (s_add false) (n_add false) (g_var 3) g_int) (ga_cons (g_var 5) ga_nil))) (pg_name (i := 7) sc__law_cuts.nd rfl (by first | exact Or.inl rfl | exact Or.inr rfl)) (gs_one (g_expr (g_append (g_var 6) (ga_cons (g_tup (ga_cons g_int (ga_cons (g_var 7) (ga_cons (g_ix (u1 hr) (g_ix (u1 hr) (g_var 0) g_int) (g_bin s_sub n_sub (g_var 7) g_int)) (ga_cons (g_tup (ga_cons (g_var 2) (ga_cons (g_var 3) (ga_cons (g_var 4) (ga_cons (g_var 7) ga_nil))))) (ga_cons (g_tup (ga_cons (g_var 2) (ga_cons (g_var 7) (ga_cons (g_var 4) (ga_cons (g_var 5) ga_nil))))) ga_nil)))))) ga_nil)))))
    (gs_one (g_ret (g_var 6))))))))
abbrev st__law_whole_piece : Stmt := topS 33
theorem sc__law_whole_piece : FnScope N__law_whole_piece ["_law_bar_here"] (defScope st__law_whole_piece) := ⟨rfl, rfl, rfl, by decide +kernel, rfl, by decide +kernel, by decide +kernel⟩
theorem ok__law_whole_piece (T : Facts P w K mg base) : Callee P w K mg base cA "_law_whole_piece" 1 G__law_whole_piece :=
  callee T.d__law_whole_piece sc__law_whole_piece (fun f cdv A outer s H E hr => (gs_one (g_ret (g_tup (ga_cons g_int (ga_cons g_int (ga_cons (g_bin (s_add false) (n_add false) (g_callB s_len n_len T.n_len (ga_cons (g_ix (u1 hr) (g_var 0) g_int) ga_nil)) g_int) (ga_cons (g_bin (s_add false) (n_add false) (g_callB s_len n_len T.n_len (ga_cons (g_ix (u1 hr) (g_var 0) g_int) ga_nil)) g_int) ga_nil))))))))
abbrev st__law_all : Stmt := topS 34
theorem sc__law_all : FnScope N__law_all ["_law_bar_here", "_law_most", "_law_piece"] (defScope st__law_all) := ⟨rfl, rfl, rfl, by decide +kernel, rfl, by decide +kernel, by decide +kernel⟩
theorem ok__law_all_rec (T : Facts P w K mg base) : ∀ k : Nat, Callee P w K mg base cA "_law_all" (k + 2) (G__law_all k)
  | 0 => callee0 T.d__law_all (k := 1)
  | k + 1 => by
    have cG := ok__law_all_rec T k
    exact callee (k := k + 2) T.d__law_all sc__law_all (fun f cdv A outer s H E hr => ((gs_cons (g_ifS (gt_cmp s_le n_le (g_callC (ok__law_nuts T) (hr.mono (by omega)) (ga_cons (g_var 0) (ga_cons (g_var 2) ga_nil))) (g_var 1)) (gs_one (g_ret (g_lst false (ga_cons (g_tup (ga_cons g_int (ga_cons g_int ga_nil))) ga_nil)))) gs_nil)
    (gs_cons (g_set 3 sc__law_all.nd g_dicK)
    (gs_cons (g_for [4, 5, 6, 7, 8, 9, 10, 11, 12, 13] PassesOwn.never rfl (gi_seq (g_callC (ok__law_cuts T) (hr.mono (by omega)) (ga_cons (g_var 0) (ga_cons (g_var 2) ga_nil)))) (pg_tup rfl (pgs_cons (pg_name (i := 4) sc__law_all.nd rfl (by first | exact Or.inl rfl | exact Or.inr rfl)) (pgs_cons (pg_name (i := 5) sc__law_all.nd rfl (by first | exact Or.inl rfl | exact Or.inr rfl)) (pgs_cons (pg_name (i := 6) sc__law_all.nd rfl (by first | exact Or.inl rfl | exact Or.inr rfl)) (pgs_cons (pg_name (i := 7) sc__law_all.nd rfl (by first | exact Or.inl rfl | exact Or.inr rfl)) (pgs_cons (pg_name (i := 8) sc__law_all.nd rfl (by first | exact Or.inl rfl | exact Or.inr rfl)) pgs_nil)))))) (gs_one (g_for [9, 10, 11, 12, 13] PassesOwn.never rfl (gi_seq (g_callC cG (hr.mono (by omega)) (ga_cons (g_var 0) (ga_cons (g_var 1) (ga_cons (g_var 7) ga_nil))))) (pg_tup rfl (pgs_cons (pg_name (i := 9) sc__law_all.nd rfl (by first | exact Or.inl rfl | exact Or.inr rfl)) (pgs_cons (pg_name (i := 10) sc__law_all.nd rfl (by first | exact Or.inl rfl | exact Or.inr rfl)) pgs_nil))) (gs_one (g_for [11, 12, 13] PassesOwn.never rfl (gi_seq (g_callC cG (hr.mono (by omega)) (ga_cons (g_var 0) (ga_cons (g_var 1) (ga_cons (g_var 8) ga_nil))))) (pg_tup rfl (pgs_cons (pg_name (i := 11) sc__law_all.nd rfl (by first | exact Or.inl rfl | exact Or.inr rfl)) (pgs_cons (pg_name (i := 12) sc__law_all.nd rfl (by first | exact Or.inl rfl | exact Or.inr rfl)) pgs_nil))) (gs_cons (g_set 13 sc__law_all.nd (g_bin (s_add false) (n_add false) (g_bin (s_add false) (n_add false) (g_var 6) (g_var 9)) (g_var 11)))
    (gs_one (g_put (u1 hr) (g_var 3) (g_var 13) (g_bin (s_add false) (n_add false) (g_get2 (u1 hr) (g_var 3) (g_var 13) g_int) (g_bin (s_mul false) (n_mul false) (g_var 10) (g_var 12)))))))))))
    (gs_one (g_ret (g_callB (s_sorted false (u200 hr)) (n_sorted false) T.n_sorted (ga_cons (g_lock 3 (g_comp false [("_law_paid", 13)] rfl sc__law_all.nd (gi_keys (g_var 3)) (blkOk_by (N := N__law_all) (sc := (defScope st__law_all)) (own := [("_law_paid", 13)]) (by decide +kernel)) (by decide) (fun _ _ _ _ _ => (pg_name (i := 13) sc__law_all.nd rfl (by first | exact Or.inl rfl | exact Or.inr rfl))) (fun _ _ _ _ _ => gts_nil) (fun _ _ _ _ _ => (g_tup (ga_cons (g_var 13) (ga_cons (g_ix (u1 hr) (g_var 3) (g_var 13)) ga_nil))))) rfl) ga_nil)))))))))
theorem ok__law_all (T : Facts P w K mg base) : Callee P w K mg base cA "_law_all" 14 (G__law_all 12) := ok__law_all_rec T 12
abbrev st_law : Stmt := topS 35
theorem sc_law : FnScope N_law ["_law_script"] (defScope st_law) := ⟨rfl, rfl, rfl, by decide +kernel, rfl, by decide +kernel, by decide +kernel⟩
theorem okf_law (T : Facts P w K mg base) {f : Addr} {fd : FuncData} (F : Fun K "law" "law" st_law f fd) : FnOk P w K mg base CX0 15 f fd ["_law_script"] (PSp K cA G_law) :=
  fnok F sc_law (fun f cdv A outer s H E hr => (gs_cons (g_set 1 sc_law.nd (g_callB (s_sum rfl) n_sum T.n_sum (ga_cons (g_sl false (g_var 0) go_none (go_some g_int)) ga_nil)))
    (gs_cons (g_for [2, 3, 4, 5, 6, 7, 8] PassesOwn.never rfl (gi_range1 T.n_range (ga_cons g_int ga_nil)) (pg_name (i := 2) sc_law.nd rfl (by first | exact Or.inl rfl | exact Or.inr rfl)) (gs_cons (g_set 3 sc_law.nd (g_callC (ok__law_bar T) (hr.mono (by decide)) (ga_cons (g_var 0) (ga_cons (g_var 2) (ga_cons g_int ga_nil)))))
    (gs_cons (g_set 4 sc_law.nd (g_lst true ga_nil))
    (gs_cons (g_for [5] PassesOwn.never rfl (gi_range1 T.n_range (ga_cons (g_bin (s_add false) (n_add false) (g_callB s_len n_len T.n_len (ga_cons (g_ix (u1 hr) (g_var 3) g_int) ga_nil)) g_int) ga_nil)) (pg_name (i := 5) sc_law.nd rfl (by first | exact Or.inl rfl | exact Or.inr rfl)) (gs_one (g_expr (g_extend (g_var 4) (ga_cons (g_comp false [("_law_row", 9)] rfl sc_law.nd (gi_range1 T.n_range (ga_cons (g_bin (s_add false) (n_add false) (g_callB s_len n_len T.n_len (ga_cons (g_ix (u1 hr) (g_var 3) g_int) ga_nil)) g_int) ga_nil)) (blkOk_by (N := N_law) (sc := (defScope st_law)) (own := [("_law_row", 9)]) (by decide +kernel)) (by decide) (fun _ _ _ _ _ => (pg_name (i := 9) sc_law.nd rfl (by first | exact Or.inl rfl | exact Or.inr rfl))) (fun _ _ _ _ _ => gts_nil) (fun _ _ _ _ _ => (g_tup (ga_cons (g_var 5) (ga_cons (g_var 9) ga_nil))))) ga_nil)))))
    (gs_frz 4
    (gs_cons (g_for [6, 8] PassesOwn.never rfl (gi_seq (g_tup (ga_cons g_int (ga_cons (g_bin (s_add false) (n_add false) g_int (g_bin s_mod n_mod (g_bin s_div n_div (g_var 1) g_int) g_int)) ga_nil)))) (pg_name (i := 6) sc_law.nd rfl (by first | exact Or.inl rfl | exact Or.inr rfl)) (gs_cons (g_set 8 sc_law.nd (g_callC (ok__law_all T) (hr.mono (by decide)) (ga_cons (g_var 3) (ga_cons (g_var 6) (ga_cons (g_callC (ok__law_whole_piece T) (hr.mono (by decide)) (ga_cons (g_var 3) ga_nil)) ga_nil)))))
    (gs_one (g_ifS (gt_cmp (s_ne (u64 hr)) n_ne (g_tup (ga_cons (g_callC (ok_cost T) (hr.mono (by decide)) (ga_cons (g_var 3) (ga_cons (g_var 6) ga_nil))) (ga_cons (g_callC (ok_how_many T) (hr.mono (by decide)) (ga_cons (g_var 3) (ga_cons (g_var 6) ga_nil))) ga_nil))) (g_ix (u1 hr) (g_var 8) g_int)) (gs_one (g_ret g_bl)) gs_nil))))
    (gs_cons (g_set 7 sc_law.nd (g_tup (ga_cons (g_ix (u1 hr) (g_var 3) g_int) (ga_cons (g_ix (u1 hr) (g_var 3) g_int) (ga_cons (g_var 4) ga_nil)))))
    (gs_one (g_ifS (GW.gt (gw_or (gt_cmp (s_ne (u64 hr)) n_ne (g_callC (ok_apart T) (hr.mono (by decide)) (ga_cons (g_var 3) ga_nil)) (g_ix (u1 hr) (g_ix (u1 hr) (g_callC (ok__law_all T) (hr.mono (by decide)) (ga_cons (g_var 7) (ga_cons g_int (ga_cons (g_callC (ok__law_whole_piece T) (hr.mono (by decide)) (ga_cons (g_var 3) ga_nil)) ga_nil)))) g_int) g_int)) (gw_or1 (gt_cmp (s_ne (u64 hr)) n_ne (g_callC (ok_apart T) (hr.mono (by decide)) (ga_cons (g_var 3) ga_nil)) (g_callC (ok_cost T) (hr.mono (by decide)) (ga_cons (g_var 7) (ga_cons g_int ga_nil))))))) (gs_one (g_ret g_bl)) gs_nil)))))))))
    (gs_one (g_ret g_bl)))))
end
end BB
namespace BB
open PySem PySem.Spec PyProof.Rows L2
def fnL0 : List He.FnD := [⟨("whole_of", none), "whole_of", "whole_of", defArgs st_whole_of, defBody st_whole_of, defScope st_whole_of⟩,
  ⟨("pieces_of", none), "pieces_of", "pieces_of", defArgs st_pieces_of, defBody st_pieces_of, defScope st_pieces_of⟩,
  ⟨("nuts_in", none), "nuts_in", "nuts_in", defArgs st_nuts_in, defBody st_nuts_in, defScope st_nuts_in⟩,
  ⟨("lines_in", none), "lines_in", "lines_in", defArgs st_lines_in, defBody st_lines_in, defScope st_lines_in⟩,
  ⟨("price_of", none), "price_of", "price_of", defArgs st_price_of, defBody st_price_of, defScope st_price_of⟩,
  ⟨("parts_of", none), "parts_of", "parts_of", defArgs st_parts_of, defBody st_parts_of, defScope st_parts_of⟩,
  ⟨("size_of", none), "size_of", "size_of", defArgs st_size_of, defBody st_size_of, defScope st_size_of⟩,
  ⟨("by_size", none), "by_size", "by_size", defArgs st_by_size, defBody st_by_size, defScope st_by_size⟩,
  ⟨("costs_of", none), "costs_of", "costs_of", defArgs st_costs_of, defBody st_costs_of, defScope st_costs_of⟩,
  ⟨("is_whole", none), "is_whole", "is_whole", defArgs st_is_whole, defBody st_is_whole, defScope st_is_whole⟩,
  ⟨("is_between", none), "is_between", "is_between", defArgs st_is_between, defBody st_is_between, defScope st_is_between⟩,
  ⟨("are_prices", none), "are_prices", "are_prices", defArgs st_are_prices, defBody st_are_prices, defScope st_are_prices⟩,
  ⟨("is_cell", none), "is_cell", "is_cell", defArgs st_is_cell, defBody st_is_cell, defScope st_is_cell⟩,
  ⟨("check_bar", none), "check_bar", "check_bar", defArgs st_check_bar, defBody st_check_bar, defScope st_check_bar⟩,
  ⟨("check_both", none), "check_both", "check_both", defArgs st_check_both, defBody st_check_both, defScope st_check_both⟩,
  ⟨("cost", none), "cost", "cost", defArgs st_cost, defBody st_cost, defScope st_cost⟩,
  ⟨("apart", none), "apart", "apart", defArgs st_apart, defBody st_apart, defScope st_apart⟩,
  ⟨("how_many", none), "how_many", "how_many", defArgs st_how_many, defBody st_how_many, defScope st_how_many⟩,
  ⟨("_law_number", none), "_law_number", "_law_number", defArgs st__law_number, defBody st__law_number, defScope st__law_number⟩,
  ⟨("_law_bar", none), "_law_bar", "_law_bar", defArgs st__law_bar, defBody st__law_bar, defScope st__law_bar⟩]
def fnL1 : List He.FnD := [⟨("_law_nuts", none), "_law_nuts", "_law_nuts", defArgs st__law_nuts, defBody st__law_nuts, defScope st__law_nuts⟩,
  ⟨("_law_cuts", none), "_law_cuts", "_law_cuts", defArgs st__law_cuts, defBody st__law_cuts, defScope st__law_cuts⟩,
  ⟨("_law_whole_piece", none), "_law_whole_piece", "_law_whole_piece", defArgs st__law_whole_piece, defBody st__law_whole_piece, defScope st__law_whole_piece⟩,
  ⟨("_law_all", none), "_law_all", "_law_all", defArgs st__law_all, defBody st__law_all, defScope st__law_all⟩,
  ⟨("law", none), "law", "law", defArgs st_law, defBody st_law, defScope st_law⟩]
def fnL : List He.FnD := fnL0 ++ fnL1
def faL0 : List He.Fa := [.glo "whole_of",
  .keep "whole_of",
  .glo "pieces_of",
  .keep "pieces_of",
  .glo "nuts_in",
  .keep "nuts_in",
  .glo "lines_in",
  .keep "lines_in",
  .glo "price_of",
  .keep "price_of",
  .glo "parts_of",
  .keep "parts_of",
  .glo "size_of",
  .keep "size_of",
  .glo "by_size",
  .keep "by_size",
  .glo "costs_of",
  .keep "costs_of",
  .glo "is_whole",
  .keep "is_whole"]
def faL1 : List He.Fa := [.glo "is_between",
  .keep "is_between",
  .glo "are_prices",
  .keep "are_prices",
  .glo "is_cell",
  .keep "is_cell",
  .glo "check_bar",
  .keep "check_bar",
  .glo "check_both",
  .keep "check_both",
  .glo "cost",
  .keep "cost",
  .glo "apart",
  .keep "apart",
  .glo "how_many",
  .keep "how_many",
  .glo "_law_number",
  .keep "_law_number",
  .glo "_law_bar",
  .keep "_law_bar"]
def faL2 : List He.Fa := [.glo "_law_nuts",
  .keep "_law_nuts",
  .glo "_law_cuts",
  .keep "_law_cuts",
  .glo "_law_whole_piece",
  .keep "_law_whole_piece",
  .glo "_law_all",
  .keep "_law_all",
  .glo "law",
  .keep "law",
  .free "all",
  .free "any",
  .free "bool",
  .free "int",
  .free "isinstance",
  .free "len",
  .free "list",
  .free "min",
  .free "range",
  .free "sorted"]
def faL3 : List He.Fa := [.free "sum",
  .free "tuple",
  .free "zip",
  .int "MOST_LINES" 4,
  .int "MOST_PRICE" 9,
  .int "MOST_NUTS" 3]
def faL : List He.Fa := faL0 ++ faL1 ++ faL2 ++ faL3
def looseL0 : List PySem.Str := ["whole_of",
  "pieces_of",
  "nuts_in",
  "lines_in",
  "price_of",
  "parts_of",
  "size_of",
  "by_size",
  "costs_of",
  "BarError",
  "BadBar",
  "BadMost",
  "MOST_LINES",
  "MOST_PRICE",
  "MOST_NUTS",
  "is_whole",
  "is_between",
  "are_prices",
  "is_cell",
  "check_bar"]
def looseL1 : List PySem.Str := ["check_both",
  "cost",
  "apart",
  "how_many",
  "_law_number",
  "_law_bar",
  "_law_nuts",
  "_law_cuts",
  "_law_whole_piece",
  "_law_all"]
def looseL : List PySem.Str := looseL0 ++ looseL1
abbrev RR : PySem.W.OpenRow := PySem.W.OpenLaw.row PySem.Challenge.rw_breakbars_k03_least_by_all
abbrev hk : PySem.W.Hook := He.hookE 4 faL fnL
def ob (s : PySem.W.SharedT) : He.Al := He.obsG 4 faL fnL (HandSHeadRun.getT s)
theorem ob_eq (s : PySem.W.SharedT) : ob s = hk.obs s.abs := He.obsG_eq (HandSHeadRun.getT_eq s)
theorem run (w : World) : HandSHeadRun.RunEq RR (PySem.W.view RR.prog [35]) hk ob 6000 looseL w := by
  intro os
  kernel_rfl
section
variable {P : Program} {w : World} {K : PySem.W.Frag} {h : Heap} {mg : Str → Option Value} {base : Heap}
theorem da_whole_of (X : K.In h) (G : h.Ns mainGlobals mg) (c : He.SaysE faL fnL K) : DefAt K mg "whole_of" (topS 1) ["bar"] := by
  obtain ⟨oc, od, osl, kV, doc, pm, an, cdv, ct, l, cd⟩ := c.def_ 0 (d := ⟨("whole_of", none), "whole_of", "whole_of", defArgs st_whole_of, defBody st_whole_of, defScope st_whole_of⟩) rfl
  have F := fun_mk (st := topS 1) l cd (He.keep_ok (c.fact 1 (f := .keep "whole_of") rfl))
  exact ⟨_, _, F, He.glo_ok X G (c.fact 0 (f := .glo "whole_of") rfl), F.binds fun _ _ _ _ _ _ us hl => match us, hl with | [_], _ => rfl⟩
theorem da_pieces_of (X : K.In h) (G : h.Ns mainGlobals mg) (c : He.SaysE faL fnL K) : DefAt K mg "pieces_of" (topS 2) ["bar"] := by
  obtain ⟨oc, od, osl, kV, doc, pm, an, cdv, ct, l, cd⟩ := c.def_ 1 (d := ⟨("pieces_of", none), "pieces_of", "pieces_of", defArgs st_pieces_of, defBody st_pieces_of, defScope st_pieces_of⟩) rfl
  have F := fun_mk (st := topS 2) l cd (He.keep_ok (c.fact 3 (f := .keep "pieces_of") rfl))
  exact ⟨_, _, F, He.glo_ok X G (c.fact 2 (f := .glo "pieces_of") rfl), F.binds fun _ _ _ _ _ _ us hl => match us, hl with | [_], _ => rfl⟩
theorem da_nuts_in (X : K.In h) (G : h.Ns mainGlobals mg) (c : He.SaysE faL fnL K) : DefAt K mg "nuts_in" (topS 3) ["bar", "piece"] := by
  obtain ⟨oc, od, osl, kV, doc, pm, an, cdv, ct, l, cd⟩ := c.def_ 2 (d := ⟨("nuts_in", none), "nuts_in", "nuts_in", defArgs st_nuts_in, defBody st_nuts_in, defScope st_nuts_in⟩) rfl
  have F := fun_mk (st := topS 3) l cd (He.keep_ok (c.fact 5 (f := .keep "nuts_in") rfl))
  exact ⟨_, _, F, He.glo_ok X G (c.fact 4 (f := .glo "nuts_in") rfl), F.binds fun _ _ _ _ _ _ us hl => match us, hl with | [_, _], _ => rfl⟩
theorem da_lines_in (X : K.In h) (G : h.Ns mainGlobals mg) (c : He.SaysE faL fnL K) : DefAt K mg "lines_in" (topS 4) ["piece"] := by
  obtain ⟨oc, od, osl, kV, doc, pm, an, cdv, ct, l, cd⟩ := c.def_ 3 (d := ⟨("lines_in", none), "lines_in", "lines_in", defArgs st_lines_in, defBody st_lines_in, defScope st_lines_in⟩) rfl
  have F := fun_mk (st := topS 4) l cd (He.keep_ok (c.fact 7 (f := .keep "lines_in") rfl))
  exact ⟨_, _, F, He.glo_ok X G (c.fact 6 (f := .glo "lines_in") rfl), F.binds fun _ _ _ _ _ _ us hl => match us, hl with | [_], _ => rfl⟩
theorem da_price_of (X : K.In h) (G : h.Ns mainGlobals mg) (c : He.SaysE faL fnL K) : DefAt K mg "price_of" (topS 5) ["bar", "way", "line"] := by
  obtain ⟨oc, od, osl, kV, doc, pm, an, cdv, ct, l, cd⟩ := c.def_ 4 (d := ⟨("price_of", none), "price_of", "price_of", defArgs st_price_of, defBody st_price_of, defScope st_price_of⟩) rfl
  have F := fun_mk (st := topS 5) l cd (He.keep_ok (c.fact 9 (f := .keep "price_of") rfl))
  exact ⟨_, _, F, He.glo_ok X G (c.fact 8 (f := .glo "price_of") rfl), F.binds fun _ _ _ _ _ _ us hl => match us, hl with | [_, _, _], _ => rfl⟩
theorem da_parts_of (X : K.In h) (G : h.Ns mainGlobals mg) (c : He.SaysE faL fnL K) : DefAt K mg "parts_of" (topS 6) ["piece", "way", "line"] := by
  obtain ⟨oc, od, osl, kV, doc, pm, an, cdv, ct, l, cd⟩ := c.def_ 5 (d := ⟨("parts_of", none), "parts_of", "parts_of", defArgs st_parts_of, defBody st_parts_of, defScope st_parts_of⟩) rfl
  have F := fun_mk (st := topS 6) l cd (He.keep_ok (c.fact 11 (f := .keep "parts_of") rfl))
  exact ⟨_, _, F, He.glo_ok X G (c.fact 10 (f := .glo "parts_of") rfl), F.binds fun _ _ _ _ _ _ us hl => match us, hl with | [_, _, _], _ => rfl⟩
theorem da_size_of (X : K.In h) (G : h.Ns mainGlobals mg) (c : He.SaysE faL fnL K) : DefAt K mg "size_of" (topS 7) ["piece"] := by
  obtain ⟨oc, od, osl, kV, doc, pm, an, cdv, ct, l, cd⟩ := c.def_ 6 (d := ⟨("size_of", none), "size_of", "size_of", defArgs st_size_of, defBody st_size_of, defScope st_size_of⟩) rfl
  have F := fun_mk (st := topS 7) l cd (He.keep_ok (c.fact 13 (f := .keep "size_of") rfl))
  exact ⟨_, _, F, He.glo_ok X G (c.fact 12 (f := .glo "size_of") rfl), F.binds fun _ _ _ _ _ _ us hl => match us, hl with | [_], _ => rfl⟩
theorem da_by_size (X : K.In h) (G : h.Ns mainGlobals mg) (c : He.SaysE faL fnL K) : DefAt K mg "by_size" (topS 8) ["bar"] := by
  obtain ⟨oc, od, osl, kV, doc, pm, an, cdv, ct, l, cd⟩ := c.def_ 7 (d := ⟨("by_size", none), "by_size", "by_size", defArgs st_by_size, defBody st_by_size, defScope st_by_size⟩) rfl
  have F := fun_mk (st := topS 8) l cd (He.keep_ok (c.fact 15 (f := .keep "by_size") rfl))
  exact ⟨_, _, F, He.glo_ok X G (c.fact 14 (f := .glo "by_size") rfl), F.binds fun _ _ _ _ _ _ us hl => match us, hl with | [_], _ => rfl⟩
theorem da_costs_of (X : K.In h) (G : h.Ns mainGlobals mg) (c : He.SaysE faL fnL K) : DefAt K mg "costs_of" (topS 9) ["bar", "most"] := by
  obtain ⟨oc, od, osl, kV, doc, pm, an, cdv, ct, l, cd⟩ := c.def_ 8 (d := ⟨("costs_of", none), "costs_of", "costs_of", defArgs st_costs_of, defBody st_costs_of, defScope st_costs_of⟩) rfl
  have F := fun_mk (st := topS 9) l cd (He.keep_ok (c.fact 17 (f := .keep "costs_of") rfl))
  exact ⟨_, _, F, He.glo_ok X G (c.fact 16 (f := .glo "costs_of") rfl), F.binds fun _ _ _ _ _ _ us hl => match us, hl with | [_, _], _ => rfl⟩
theorem da_is_whole (X : K.In h) (G : h.Ns mainGlobals mg) (c : He.SaysE faL fnL K) : DefAt K mg "is_whole" (topS 18) ["thing"] := by
  obtain ⟨oc, od, osl, kV, doc, pm, an, cdv, ct, l, cd⟩ := c.def_ 9 (d := ⟨("is_whole", none), "is_whole", "is_whole", defArgs st_is_whole, defBody st_is_whole, defScope st_is_whole⟩) rfl
  have F := fun_mk (st := topS 18) l cd (He.keep_ok (c.fact 19 (f := .keep "is_whole") rfl))
  exact ⟨_, _, F, He.glo_ok X G (c.fact 18 (f := .glo "is_whole") rfl), F.binds fun _ _ _ _ _ _ us hl => match us, hl with | [_], _ => rfl⟩
theorem da_is_between (X : K.In h) (G : h.Ns mainGlobals mg) (c : He.SaysE faL fnL K) : DefAt K mg "is_between" (topS 19) ["thing", "least", "most"] := by
  obtain ⟨oc, od, osl, kV, doc, pm, an, cdv, ct, l, cd⟩ := c.def_ 10 (d := ⟨("is_between", none), "is_between", "is_between", defArgs st_is_between, defBody st_is_between, defScope st_is_between⟩) rfl
  have F := fun_mk (st := topS 19) l cd (He.keep_ok (c.fact 21 (f := .keep "is_between") rfl))
  exact ⟨_, _, F, He.glo_ok X G (c.fact 20 (f := .glo "is_between") rfl), F.binds fun _ _ _ _ _ _ us hl => match us, hl with | [_, _, _], _ => rfl⟩
theorem da_are_prices (X : K.In h) (G : h.Ns mainGlobals mg) (c : He.SaysE faL fnL K) : DefAt K mg "are_prices" (topS 20) ["thing"] := by
  obtain ⟨oc, od, osl, kV, doc, pm, an, cdv, ct, l, cd⟩ := c.def_ 11 (d := ⟨("are_prices", none), "are_prices", "are_prices", defArgs st_are_prices, defBody st_are_prices, defScope st_are_prices⟩) rfl
  have F := fun_mk (st := topS 20) l cd (He.keep_ok (c.fact 23 (f := .keep "are_prices") rfl))
  exact ⟨_, _, F, He.glo_ok X G (c.fact 22 (f := .glo "are_prices") rfl), F.binds fun _ _ _ _ _ _ us hl => match us, hl with | [_], _ => rfl⟩
theorem da_is_cell (X : K.In h) (G : h.Ns mainGlobals mg) (c : He.SaysE faL fnL K) : DefAt K mg "is_cell" (topS 21) ["thing", "wide", "high"] := by
  obtain ⟨oc, od, osl, kV, doc, pm, an, cdv, ct, l, cd⟩ := c.def_ 12 (d := ⟨("is_cell", none), "is_cell", "is_cell", defArgs st_is_cell, defBody st_is_cell, defScope st_is_cell⟩) rfl
  have F := fun_mk (st := topS 21) l cd (He.keep_ok (c.fact 25 (f := .keep "is_cell") rfl))
  exact ⟨_, _, F, He.glo_ok X G (c.fact 24 (f := .glo "is_cell") rfl), F.binds fun _ _ _ _ _ _ us hl => match us, hl with | [_, _, _], _ => rfl⟩
theorem da_check_bar (X : K.In h) (G : h.Ns mainGlobals mg) (c : He.SaysE faL fnL K) : DefAt K mg "check_bar" (topS 22) ["bar"] := by
  obtain ⟨oc, od, osl, kV, doc, pm, an, cdv, ct, l, cd⟩ := c.def_ 13 (d := ⟨("check_bar", none), "check_bar", "check_bar", defArgs st_check_bar, defBody st_check_bar, defScope st_check_bar⟩) rfl
  have F := fun_mk (st := topS 22) l cd (He.keep_ok (c.fact 27 (f := .keep "check_bar") rfl))
  exact ⟨_, _, F, He.glo_ok X G (c.fact 26 (f := .glo "check_bar") rfl), F.binds fun _ _ _ _ _ _ us hl => match us, hl with | [_], _ => rfl⟩
theorem da_check_both (X : K.In h) (G : h.Ns mainGlobals mg) (c : He.SaysE faL fnL K) : DefAt K mg "check_both" (topS 23) ["bar", "most"] := by
  obtain ⟨oc, od, osl, kV, doc, pm, an, cdv, ct, l, cd⟩ := c.def_ 14 (d := ⟨("check_both", none), "check_both", "check_both", defArgs st_check_both, defBody st_check_both, defScope st_check_both⟩) rfl
  have F := fun_mk (st := topS 23) l cd (He.keep_ok (c.fact 29 (f := .keep "check_both") rfl))
  exact ⟨_, _, F, He.glo_ok X G (c.fact 28 (f := .glo "check_both") rfl), F.binds fun _ _ _ _ _ _ us hl => match us, hl with | [_, _], _ => rfl⟩
theorem da_cost (X : K.In h) (G : h.Ns mainGlobals mg) (c : He.SaysE faL fnL K) : DefAt K mg "cost" (topS 25) ["bar", "most"] := by
  obtain ⟨oc, od, osl, kV, doc, pm, an, cdv, ct, l, cd⟩ := c.def_ 15 (d := ⟨("cost", none), "cost", "cost", defArgs st_cost, defBody st_cost, defScope st_cost⟩) rfl
  have F := fun_mk (st := topS 25) l cd (He.keep_ok (c.fact 31 (f := .keep "cost") rfl))
  exact ⟨_, _, F, He.glo_ok X G (c.fact 30 (f := .glo "cost") rfl), F.binds fun _ _ _ _ _ _ us hl => match us, hl with | [_, _], _ => rfl⟩
theorem da_apart (X : K.In h) (G : h.Ns mainGlobals mg) (c : He.SaysE faL fnL K) : DefAt K mg "apart" (topS 26) ["bar"] := by
  obtain ⟨oc, od, osl, kV, doc, pm, an, cdv, ct, l, cd⟩ := c.def_ 16 (d := ⟨("apart", none), "apart", "apart", defArgs st_apart, defBody st_apart, defScope st_apart⟩) rfl
  have F := fun_mk (st := topS 26) l cd (He.keep_ok (c.fact 33 (f := .keep "apart") rfl))
  exact ⟨_, _, F, He.glo_ok X G (c.fact 32 (f := .glo "apart") rfl), F.binds fun _ _ _ _ _ _ us hl => match us, hl with | [_], _ => rfl⟩
theorem da_how_many (X : K.In h) (G : h.Ns mainGlobals mg) (c : He.SaysE faL fnL K) : DefAt K mg "how_many" (topS 27) ["bar", "most"] := by
  obtain ⟨oc, od, osl, kV, doc, pm, an, cdv, ct, l, cd⟩ := c.def_ 17 (d := ⟨("how_many", none), "how_many", "how_many", defArgs st_how_many, defBody st_how_many, defScope st_how_many⟩) rfl
  have F := fun_mk (st := topS 27) l cd (He.keep_ok (c.fact 35 (f := .keep "how_many") rfl))
  exact ⟨_, _, F, He.glo_ok X G (c.fact 34 (f := .glo "how_many") rfl), F.binds fun _ _ _ _ _ _ us hl => match us, hl with | [_, _], _ => rfl⟩
theorem da__law_number (X : K.In h) (G : h.Ns mainGlobals mg) (c : He.SaysE faL fnL K) : DefAt K mg "_law_number" (topS 29) ["_law_cell", "_law_at", "_law_whole"] := by
  obtain ⟨oc, od, osl, kV, doc, pm, an, cdv, ct, l, cd⟩ := c.def_ 18 (d := ⟨("_law_number", none), "_law_number", "_law_number", defArgs st__law_number, defBody st__law_number, defScope st__law_number⟩) rfl
  have F := fun_mk (st := topS 29) l cd (He.keep_ok (c.fact 37 (f := .keep "_law_number") rfl))
  exact ⟨_, _, F, He.glo_ok X G (c.fact 36 (f := .glo "_law_number") rfl), F.binds fun _ _ _ _ _ _ us hl => match us, hl with | [_, _, _], _ => rfl⟩
theorem da__law_bar (X : K.In h) (G : h.Ns mainGlobals mg) (c : He.SaysE faL fnL K) : DefAt K mg "_law_bar" (topS 30) ["_law_script", "_law_by", "_law_most"] := by
  obtain ⟨oc, od, osl, kV, doc, pm, an, cdv, ct, l, cd⟩ := c.def_ 19 (d := ⟨("_law_bar", none), "_law_bar", "_law_bar", defArgs st__law_bar, defBody st__law_bar, defScope st__law_bar⟩) rfl
  have F := fun_mk (st := topS 30) l cd (He.keep_ok (c.fact 39 (f := .keep "_law_bar") rfl))
  exact ⟨_, _, F, He.glo_ok X G (c.fact 38 (f := .glo "_law_bar") rfl), F.binds fun _ _ _ _ _ _ us hl => match us, hl with | [_, _, _], _ => rfl⟩
theorem da__law_nuts (X : K.In h) (G : h.Ns mainGlobals mg) (c : He.SaysE faL fnL K) : DefAt K mg "_law_nuts" (topS 31) ["_law_bar_here", "_law_piece"] := by
  obtain ⟨oc, od, osl, kV, doc, pm, an, cdv, ct, l, cd⟩ := c.def_ 20 (d := ⟨("_law_nuts", none), "_law_nuts", "_law_nuts", defArgs st__law_nuts, defBody st__law_nuts, defScope st__law_nuts⟩) rfl
  have F := fun_mk (st := topS 31) l cd (He.keep_ok (c.fact 41 (f := .keep "_law_nuts") rfl))
  exact ⟨_, _, F, He.glo_ok X G (c.fact 40 (f := .glo "_law_nuts") rfl), F.binds fun _ _ _ _ _ _ us hl => match us, hl with | [_, _], _ => rfl⟩
theorem da__law_cuts (X : K.In h) (G : h.Ns mainGlobals mg) (c : He.SaysE faL fnL K) : DefAt K mg "_law_cuts" (topS 32) ["_law_bar_here", "_law_piece"] := by
  obtain ⟨oc, od, osl, kV, doc, pm, an, cdv, ct, l, cd⟩ := c.def_ 21 (d := ⟨("_law_cuts", none), "_law_cuts", "_law_cuts", defArgs st__law_cuts, defBody st__law_cuts, defScope st__law_cuts⟩) rfl
  have F := fun_mk (st := topS 32) l cd (He.keep_ok (c.fact 43 (f := .keep "_law_cuts") rfl))
  exact ⟨_, _, F, He.glo_ok X G (c.fact 42 (f := .glo "_law_cuts") rfl), F.binds fun _ _ _ _ _ _ us hl => match us, hl with | [_, _], _ => rfl⟩
theorem da__law_whole_piece (X : K.In h) (G : h.Ns mainGlobals mg) (c : He.SaysE faL fnL K) : DefAt K mg "_law_whole_piece" (topS 33) ["_law_bar_here"] := by
  obtain ⟨oc, od, osl, kV, doc, pm, an, cdv, ct, l, cd⟩ := c.def_ 22 (d := ⟨("_law_whole_piece", none), "_law_whole_piece", "_law_whole_piece", defArgs st__law_whole_piece, defBody st__law_whole_piece, defScope st__law_whole_piece⟩) rfl
  have F := fun_mk (st := topS 33) l cd (He.keep_ok (c.fact 45 (f := .keep "_law_whole_piece") rfl))
  exact ⟨_, _, F, He.glo_ok X G (c.fact 44 (f := .glo "_law_whole_piece") rfl), F.binds fun _ _ _ _ _ _ us hl => match us, hl with | [_], _ => rfl⟩
theorem da__law_all (X : K.In h) (G : h.Ns mainGlobals mg) (c : He.SaysE faL fnL K) : DefAt K mg "_law_all" (topS 34) ["_law_bar_here", "_law_most", "_law_piece"] := by
  obtain ⟨oc, od, osl, kV, doc, pm, an, cdv, ct, l, cd⟩ := c.def_ 23 (d := ⟨("_law_all", none), "_law_all", "_law_all", defArgs st__law_all, defBody st__law_all, defScope st__law_all⟩) rfl
  have F := fun_mk (st := topS 34) l cd (He.keep_ok (c.fact 47 (f := .keep "_law_all") rfl))
  exact ⟨_, _, F, He.glo_ok X G (c.fact 46 (f := .glo "_law_all") rfl), F.binds fun _ _ _ _ _ _ us hl => match us, hl with | [_, _, _], _ => rfl⟩
theorem facts (X : K.In h) (G : h.Ns mainGlobals mg) (c : He.SaysE faL fnL K) : Facts P w K mg base where
  n_all := He.free_ok X G (c.fact 50 (f := .free "all") rfl)
  n_any := He.free_ok X G (c.fact 51 (f := .free "any") rfl)
  n_bool := He.free_ok X G (c.fact 52 (f := .free "bool") rfl)
  n_int := He.free_ok X G (c.fact 53 (f := .free "int") rfl)
  n_isinstance := He.free_ok X G (c.fact 54 (f := .free "isinstance") rfl)
  n_len := He.free_ok X G (c.fact 55 (f := .free "len") rfl)
  n_list := He.free_ok X G (c.fact 56 (f := .free "list") rfl)
  n_min := He.free_ok X G (c.fact 57 (f := .free "min") rfl)
  n_range := He.free_ok X G (c.fact 58 (f := .free "range") rfl)
  n_sorted := He.free_ok X G (c.fact 59 (f := .free "sorted") rfl)
  n_sum := He.free_ok X G (c.fact 60 (f := .free "sum") rfl)
  n_tuple := He.free_ok X G (c.fact 61 (f := .free "tuple") rfl)
  n_zip := He.free_ok X G (c.fact 62 (f := .free "zip") rfl)
  k_MOST_LINES := He.int_ok X G (c.fact 63 (f := .int "MOST_LINES" 4) rfl)
  k_MOST_PRICE := He.int_ok X G (c.fact 64 (f := .int "MOST_PRICE" 9) rfl)
  k_MOST_NUTS := He.int_ok X G (c.fact 65 (f := .int "MOST_NUTS" 3) rfl)
  d_whole_of := da_whole_of X G c
  d_pieces_of := da_pieces_of X G c
  d_nuts_in := da_nuts_in X G c
  d_lines_in := da_lines_in X G c
  d_price_of := da_price_of X G c
  d_parts_of := da_parts_of X G c
  d_size_of := da_size_of X G c
  d_by_size := da_by_size X G c
  d_costs_of := da_costs_of X G c
  d_is_whole := da_is_whole X G c
  d_is_between := da_is_between X G c
  d_are_prices := da_are_prices X G c
  d_is_cell := da_is_cell X G c
  d_check_bar := da_check_bar X G c
  d_check_both := da_check_both X G c
  d_cost := da_cost X G c
  d_apart := da_apart X G c
  d_how_many := da_how_many X G c
  d__law_number := da__law_number X G c
  d__law_bar := da__law_bar X G c
  d__law_nuts := da__law_nuts X G c
  d__law_cuts := da__law_cuts X G c
  d__law_whole_piece := da__law_whole_piece X G c
  d__law_all := da__law_all X G c
end
end BB
open PySem PySem.W PySem.Calls PyProof.Rows
theorem PySem.Challenge.cw_breakbars_k03_least_by_all_holds : PySem.Challenge.rw_breakbars_k03_least_by_all.Holds := by
  w_on; o_law
  refine HandSHeadRun.head_any (r := OpenLaw.row PySem.Challenge.rw_breakbars_k03_least_by_all) (q := view (OpenLaw.row PySem.Challenge.rw_breakbars_k03_least_by_all).prog [35]) (H := BB.hk) (ob := BB.ob) (M := 6000) (loose := BB.looseL) (d := HandSHeadRun.topDef (OpenLaw.row PySem.Challenge.rw_breakbars_k03_least_by_all).prog 35) (kwd := []) BB.ob_eq
    (by kernel_rfl) (fun s => by kernel_rfl) BB.run (by kernel_rfl) (by kernel_rfl) (by kernel_rfl) (by rfl) (by first | assumption | decide +kernel) (by decide +kernel) ⟨rfl, rfl, rfl, rfl, rfl, by decide +kernel⟩ ?hw ?hc
  case hw => w_witness2
  case hc =>
    refine L2.walk_ofE (l := PySem.Challenge.rw_breakbars_k03_least_by_all) (n := 63) (k := 15) (x := "_law_script") (CX := L2.CX0) rfl (by decide) (by kernel_rfl) ⟨rfl, by decide, by decide⟩ ?F (fun _ _ _ _ z => z)
    intro w mg fa h Y G hmg0
    obtain ⟨K, KX, c⟩ := Y
    have hmg : mg ("law" : PySem.Str) = some (.ref fa) := by
      have e : (HandSHeadRun.topDef (OpenLaw.row PySem.Challenge.rw_breakbars_k03_least_by_all).prog 35).name = ("law" : PySem.Str) := by kernel_rfl
      rw [← e]
      exact hmg0
    obtain ⟨oc, od, osl, kV, doc, pm, an, cdv, ct, l, cd⟩ := c.def_ 24 (d := ⟨("law", none), "law", "law", L2.defArgs BB.st_law, L2.defBody BB.st_law, L2.defScope BB.st_law⟩) rfl
    have F := L2.fun_mk (st := BB.st_law) l cd (He.keep_ok (c.fact 49 (f := .keep "law") rfl))
    have e := hmg.symm.trans (He.glo_ok KX G (c.fact 48 (f := .glo "law") rfl))
    cases e
    exact ⟨K, _, BB.PSp K (fun _ => 0) BB.G_law, KX, fun s v => .of_eq rfl, fun H a ns hl _ hS => BB.law_sp (BB.law_true ns hl) hS, fun base KB GB => BB.okf_law (cA := fun _ => 0) (BB.facts KB GB c) F⟩
