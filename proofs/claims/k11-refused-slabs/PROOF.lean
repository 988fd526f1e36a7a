import PyProof.Rows.All
import Wide.All
import OpenK.AllK
import Wide.FinOn
import HandS.ForMost
import HandS.Flow
import PyProof.EvalArms
import HandS.Wide
import HandS.TupAny
import HandS.TupLe
import HandS.Deep
import HandS.IsInst
import HandS.Zip
import HandS.SortOrd
import HandS.SortRule
import HandS.Style
import HandS.Lambda
import HandS.Small
import KE.SortData
import HandS.ForExc
import HandS.CallSlots
import HandS.WordsExc
import KE.DataCmp
import KE.DataFind
import KE.KDictZip
import KE.KTurns
import HandS.Set
import HandS.SetFor
import HandS.Sort
import HandS.ExcIs
import HandS.HotCalls
import PySem.Challenge.RW_breakbars_k11_refused_slabs
import HandS.Head0
import HandS.Head1
import HandS.Head2
import HandS.HeadEnd
import HandS.HeadHook1
import HandS.HeadWalk
set_option Elab.async false
set_option linter.all false
set_option maxRecDepth 100000
set_option maxHeartbeats 0
/-! Side conditions of the rules, by the syntax alone. -/
namespace BB
open PySem PySem.Spec PyProof.Rows L2
def isStar : Expr → Bool
  | .Starred .. => true
  | _ => false
def plainL : List Expr → Bool
  | [] => true
  | e :: es => !isStar e && plainL es
theorem star_plain {e : Expr} {es : List Expr} {env : PySem.Env} (h : isStar e = false) : starEach (e :: es) env = (false, eval e env) :: starEach es env := by
  cases e <;> first | (cases h; done) | (conv => lhs; rw [starEach.eq_def])
theorem star_one {e : Expr} {env : PySem.Env} (h : isStar e = false) : starEach [e] env = [(false, eval e env)] := by rw [star_plain h]; simp [starEach]
theorem star_two {e f : Expr} {env : PySem.Env} (h : isStar e = false) (h2 : isStar f = false) : starEach [e, f] env = [(false, eval e env), (false, eval f env)] := by rw [star_plain h, star_one h2]
theorem plain_any {es : List Expr} {pos : Pos} {env : PySem.Env} (h : plainL es = true) : (backTo pos (starEach es env)).any (·.1) = false := by
  induction es with
  | nil => simp [starEach, backTo]
  | cons e es ih =>
    simp only [plainL, Bool.and_eq_true, Bool.not_eq_true'] at h
    rw [star_plain h.1]
    have := ih h.2
    simp only [backTo, List.map_cons, List.any_cons, Bool.false_or] at this ⊢
    exact this
theorem plain_all {es : List Expr} {pos : Pos} {env : PySem.Env} (h : plainL es = true) : (backTo pos (starEach es env)).all (fun x => !x.1) = true := by
  induction es with
  | nil => simp [starEach, backTo]
  | cons e es ih =>
    simp only [plainL, Bool.and_eq_true, Bool.not_eq_true'] at h
    rw [star_plain h.1]
    have := ih h.2
    simp only [backTo, List.map_cons, List.all_cons, Bool.not_false, Bool.true_and] at this ⊢
    exact this
theorem few_plain {es : List Expr} {pos : Pos} {env : PySem.Env} (h : plainL es = true) (hl : decide (es.length < 29) = true) : ((backTo pos (starEach es env)).all (fun x => !x.1) && (backToKw pos (keywordEach [] env)).all (fun x => x.1.isSome)
      && decide (es.length + ([] : List Keyword).length + (if ([] : List Keyword).isEmpty then 0 else 1) < 30)) = true := by
  rw [plain_all h]
  simp [keywordEach, backToKw]
  simp at hl
  omega
theorem form_plain {es : List Expr} {pos : Pos} {env : PySem.Env} (h : plainL es = true) (hl : decide (es.length < 29) = true) : methodCallForm (es.length + 0) (backTo pos (starEach es env)) (backToKw pos (keywordEach [] env)) = true := by
  unfold methodCallForm
  rw [plain_all h]
  simp [keywordEach, backToKw]
  simp at hl
  omega
def abaseOk : Expr → Bool
  | .Call (.Name id _) [] [] _ => id != "super"
  | _ => true
theorem abase_plain {o : Expr} {f : Str} {env : PySem.Env} {whole : Sem Value} (h : abaseOk o = true) : attributeBase o f env whole = whole := by
  unfold attributeBase
  split
  · simp only [abaseOk] at h
    simp only [h, Bool.true_or, if_true, bind_pure]
  · rfl
def isComp : Expr → Bool
  | .ListComp .. => true
  | .SetComp .. => true
  | .DictComp .. => true
  | _ => false
theorem sw_plain {e : Expr} {t : Option Expr} {l : Nat} {env : PySem.Env} (h : isComp e = false) : swapsWith e t l env = pure false := by
  cases e <;> first | (cases h; done) | rfl
theorem sws_plain {e t : Expr} {l : Nat} {env : PySem.Env} (h : isComp e = false) : swapsWithSole [t] e l env = pure false := sw_plain h
def isSetE : Expr → Bool
  | .Set .. => true
  | _ => false
theorem fs_plain {e : Expr} {env : PySem.Env} {x : Value} (h : isSetE e = false) : foldedSetIterable e env x = pure x := by
  cases e <;> first | (cases h; done) | rfl
def truthOk : Expr → Bool
  | .UnaryOp .. => false
  | .BoolOp .. => false
  | .IfExp .. => false
  | .Compare .. => false
  | _ => true
theorem tr_plain {a : Expr} {env : PySem.Env} {whole : Sem Value} (h : truthOk a = true) : isTrue a env whole = (do let v ← whole; standAt a.pos; holding [v] (truthy v)) := by
  cases a <;> first | (cases h; done) | (conv => lhs; rw [isTrue.eq_def])
def isSliceE : Expr → Bool
  | .Slice .. => true
  | _ => false
theorem px_plain {b : Expr} (h : isSliceE b = false) : PlainIx b := fun o i => by
  cases b <;> first | (cases h; done) | rfl
theorem as_plain {o i : Expr} {pos : Pos} {env : PySem.Env} {v : Value} (h : isSliceE i = false) : assign (.Subscript o i pos) env v = (do
      let ov ← holding [v] (eval o env)
      let iv ← holding [v, ov] (eval i env)
      standAt pos
      holding [v, ov, iv] (setItem ov iv v)
      release [v, ov, iv] []) := by
  unfold assign
  cases i <;> first | (cases h; done) | rfl
def isTupE : Expr → Bool
  | .Tuple .. => true
  | _ => false
theorem ss_plain {t e : Expr} {env : PySem.Env} (h : isTupE e = false) : swappedStores [t] e env = pure none := by
  unfold swappedStores
  cases e <;> first | (cases h; done) | (cases t <;> rfl)
theorem ss_name {x : Str} {p : Pos} {e : Expr} {env : PySem.Env} : swappedStores [.Name x p] e env = pure none := by
  unfold swappedStores
  cases e <;> rfl
theorem ss_sub {o i : Expr} {p : Pos} {e : Expr} {env : PySem.Env} : swappedStores [.Subscript o i p] e env = pure none := by
  unfold swappedStores
  cases e <;> rfl
end BB
/-! An own layer: plain values DV, a store of mutable objects, runs over them, and that the machine does what the runs say. -/
namespace BB
open PySem PySem.Spec PyProof.Rows L2

/-- plain values: lst, dic, ins are frozen objects (never changed any more), loc n the n-th object of the store, scr the script -/
inductive DV where
  | non | bl (b : Bool) | int (i : Int) | str (x : Str)
  | tup (ds : List DV)
  | lstG (g : Bool) (ds : List DV)
  | dicG (g : Bool) (ks : List (List Key)) (ds : List DV)
  | insG (g : Bool) (c : Nat) (ns : List Str) (ds : List DV)
  | scr (ns : List Int)
  | loc (n : Nat)
  | ty (n : String)
  | cls (c : Nat)
abbrev DV.lst (ds : List DV) : DV := .lstG false ds
abbrev DV.dic (ks : List (List Key)) (ds : List DV) : DV := .dicG false ks ds
abbrev DV.ins (c : Nat) (ns : List Str) (ds : List DV) : DV := .insG false c ns ds
/-- objects of the store -/
inductive DO where
  | lst (ds : List DV)
  | dT (ks : List (List Key)) (ds : List DV)
  | dK (ks : List Key) (ds : List DV)
  | dKf (ks : List Key) (ds : List DV)
  | ins (c : Nat) (ns : List Str) (ds : List DV)
  /-- an object that is frozen by now -/
  | dead
  /-- the k-th lambda of a def's text -/
  | fn (k : Nat)
/-- never changed any more -/
def DO.still (x : DO) : Prop := x = .dead ∨ ∃ k, x = .fn k
abbrev Sto := List DO
abbrev Env := List (Option DV)

/-- what the machine's abstract heap is to us: H, the frozen objects F, where the store's objects stand -/
structure Sys where
  H : Hp
  F : Addr → Prop
  B : Addr → Prop
  r : Nat → Addr
  N : Nat
/-- the two regions: frozen, borrowed -/
def Sys.R (S : Sys) : Bool → Addr → Prop
  | false => S.F
  | true => S.B
def Sys.U (S : Sys) (a : Addr) : Prop := S.F a ∨ S.B a
theorem Sys.R.u {S : Sys} {a : Addr} : ∀ {g : Bool}, S.R g a → S.U a
  | false, h => .inl h
  | true, h => .inr h

/-- later: the old objects of the store may have changed, nothing else of what was known -/
structure Grow (S S' : Sys) : Prop where
  n : S.N ≤ S'.N
  r : ∀ n, n < S.N → S'.r n = S.r n
  f : ∀ a, S.F a → S'.F a
  h : ∀ a o, S.H a = some o → (∀ ps, o ≠ .tbl ps) → (S.U a ∨ (∀ n, n < S.N → S.r n ≠ a) ∨ ∃ φ, o = .ext φ) → S'.H a = some o
  new : ∀ n, S.N ≤ n → n < S'.N → S.H (S'.r n) = none
  st : ∀ n, n < S.N → S'.H (S.r n) ≠ none
  fn : ∀ a, S'.F a → S.F a ∨ S.H a = none ∨ ∃ n, n < S.N ∧ a = S.r n
  z : ∀ a o u, S.H a = some (.frz o u) → S'.H a = some (.frz o u)
  b : ∀ a, S.B a → S'.B a
  bn : ∀ a, S'.B a → S.B a
  k : ∀ a, S.H a ≠ none → S'.H a ≠ none
/-- what a run leans on: the classes' places, the tables of code objects, what holds of the heap from here on -/
structure CA where
  fn : Nat → Addr
  tabs : List (Addr × Str)
  J : Sys → Prop
  mono : ∀ S S', J S → Grow S S' → J S'
  lam : Nat → Addr → Hp → Prop
  lmono : ∀ k a H H', lam k a H → (∀ b φ, H b = some (.ext φ) → H' b = some (.ext φ)) → lam k a H'
abbrev CA.pl (cA : CA) : CA := ⟨cA.fn, cA.tabs, fun _ => True, fun _ _ _ _ => trivial, fun _ _ _ => False, fun _ _ _ _ h _ => h⟩
instance : CoeFun CA (fun _ => Nat → Addr) := ⟨CA.fn⟩
instance : Coe CA (Nat → Addr) := ⟨CA.fn⟩

/-- the script: locked, frozen, or written -/
def ScrAt (K : PySem.W.Frag) (S : Sys) (a : Addr) (xs : List V) : Prop :=
  (∃ o, S.H a = some (.frz o (.lst xs))) ∨ (S.F a ∧ S.H a = some (.lst xs)) ∨
    ∃ (o : Obj) (its : Array Value) (n : Nat), K.lookup a = some o ∧ o.cls = .type "list" ∧ o.dict = none ∧ o.data = .seq its n ∧ its.size ≤ sizeLine ∧ Vals xs its.toList
theorem ScrAt.sq {K : PySem.W.Frag} {S : Sys} {a : Addr} {xs : List V} (h : ScrAt K S a xs) : SqL K S.H a xs := by
  rcases h with ⟨o, h⟩ | ⟨_, h⟩ | h
  · exact .inl (.inr ⟨o, h⟩)
  · exact .inl (.inl h)
  · exact .inr h
section
variable (K : PySem.W.Frag) (cA : Nat → Addr)
mutual
def Rep (S : Sys) : DV → V → Prop
  | .non, v => v = .non
  | .bl b, v => v = .bl b
  | .int i, v => v = .int i
  | .str x, v => v = .str x
  | .tup ds, v => ∃ a vs, v = .ref a ∧ S.H a = some (.tup vs) ∧ RepL S ds vs
  | .lstG g ds, v => ∃ a vs, v = .ref a ∧ S.R g a ∧ S.H a = some (.lst vs) ∧ RepL S ds vs
  | .dicG g ks ds, v => ∃ a kvs, v = .ref a ∧ S.R g a ∧ S.H a = some (.dT kvs) ∧ kvs.map (·.1) = ks ∧ RepL S ds (kvs.map (·.2))
  | .insG g c ns ds, v => ∃ a dx fvs, v = .ref a ∧ S.R g a ∧ S.H a = some (.ins (cA c) dx fvs) ∧ fvs.map (·.1) = ns ∧ RepL S ds (fvs.map (·.2))
  | .scr ns, v => ∃ a, v = .ref a ∧ ScrAt K S a (ns.map V.int)
  | .loc n, v => n < S.N ∧ v = .ref (S.r n)
  | .ty n, v => v = .ty n
  | .cls c, v => v = .ref (cA c)
def RepL (S : Sys) : List DV → List V → Prop
  | [], vs => vs = []
  | d :: ds, vs => ∃ v r, vs = v :: r ∧ Rep S d v ∧ RepL S ds r
end
/-- an object of the store, as it stands -/
def ORep (S : Sys) : DO → Option HO → Prop
  | .lst ds, o => ∃ vs, o = some (.lst vs) ∧ RepL K cA S ds vs
  | .dT ks ds, o => ∃ kvs, o = some (.dT kvs) ∧ kvs.map (·.1) = ks ∧ RepL K cA S ds (kvs.map (·.2)) ∧ ks.Nodup
  | .dK ks ds, o => ∃ kvs, o = some (.dK kvs) ∧ kvs.map (·.1) = ks ∧ RepL K cA S ds (kvs.map (·.2)) ∧ ks.Nodup
  | .dKf ks ds, o => ∃ ob kvs, o = some (.frz ob (.dK kvs)) ∧ kvs.map (·.1) = ks ∧ RepL K cA S ds (kvs.map (·.2)) ∧ ks.Nodup
  | .ins c ns ds, o => ∃ dx fvs, o = some (.ins (cA c) dx fvs) ∧ fvs.map (·.1) = ns ∧ RepL K cA S ds (fvs.map (·.2))
  | .dead, o => (∃ vs, o = some (.lst vs)) ∨ (∃ kvs, o = some (.dT kvs)) ∨ (∃ c d f, o = some (.ins c d f)) ∨ ∃ φ, o = some (.ext φ)
  | .fn _, o => ∃ φ, o = some (.ext φ)
end
section
variable (K : PySem.W.Frag) (cA : CA)
structure StoOk (S : Sys) (sto : Sto) : Prop where
  len : sto.length = S.N
  nf : ∀ n, n < S.N → S.U (S.r n) → ∃ x, sto[n]? = some x ∧ x.still
  inj : ∀ n m, n < S.N → m < S.N → S.r n = S.r m → n = m
  ob : ∀ n o, sto[n]? = some o → ORep K cA S o (S.H (S.r n))
  fs : ∀ a, S.U a → S.H a ≠ none
  tb : ∀ p ∈ cA.tabs, LamX.TabS S.H p.1 p.2
  j : cA.J S
  fnk : ∀ n k, sto[n]? = some (.fn k) → cA.lam k (S.r n) S.H
end
theorem Grow.u {S S' : Sys} (g : Grow S S') {a : Addr} (h : S.U a) : S'.U a := h.imp (g.f a) (g.b a)

section
variable {K : PySem.W.Frag} {cA : CA} {S S' S1 S2 : Sys} {sto sto' : Sto}
theorem Grow.refl (ok : StoOk K cA S sto) : Grow S S := ⟨Nat.le_refl _, fun _ _ => rfl, fun _ h => h, fun _ _ h _ _ => h, fun n h1 h2 => absurd h2 (by omega), fun n hn => by
  have hl : n < sto.length := by rw [ok.len]; exact hn
  have := ok.ob n sto[n] (List.getElem?_eq_getElem hl)
  intro z
  rw [z] at this
  cases h : sto[n] <;> rw [h] at this <;> simp [ORep] at this, fun _ h => .inl h, fun _ _ _ h => h, fun _ h => h, fun _ h => h, fun _ h => h⟩
theorem Grow.trans (a : Grow S S1) (b : Grow S1 S2) : Grow S S2 where
  n := Nat.le_trans a.n b.n
  r := fun n hn => (b.r n (Nat.lt_of_lt_of_le hn a.n)).trans (a.r n hn)
  f := fun x h => b.f x (a.f x h)
  h := fun x o h nt hx => b.h x o (a.h x o h nt hx) nt <| hx.elim (fun hf => .inl (a.u hf)) fun hx => .inr (hx.imp (fun hx n hn => by
    by_cases h1 : n < S.N
    · rw [a.r n h1]; exact hx n h1
    · intro z
      have := a.new n (by omega) hn
      rw [z, h] at this; cases this) id)
  new := fun n h1 h2 => by
    by_cases h3 : n < S1.N
    · rw [b.r n h3]; exact a.new n h1 h3
    · exact Classical.byContradiction fun z => a.k _ z (b.new n (by omega) h2)
  st := fun n hn => by
    have := b.st n (Nat.lt_of_lt_of_le hn a.n)
    rw [a.r n hn] at this
    exact this
  fn := fun x h => by
    rcases b.fn x h with h1 | h1 | ⟨n, hn, h1⟩
    · exact a.fn x h1
    · exact .inr (.inl (Classical.byContradiction fun z => a.k _ z h1))
    · by_cases hs : n < S.N
      · exact .inr (.inr ⟨n, hs, by rw [h1, a.r n hs]⟩)
      · exact .inr (.inl (by rw [h1]; exact a.new n (by omega) hn))
  z := fun x o u h => b.z x o u (a.z x o u h)
  b := fun x h => b.b x (a.b x h)
  bn := fun x h => a.bn x (b.bn x h)
  k := fun x h => b.k x (a.k x h)

theorem StoOk.kind (ok : StoOk K cA S sto) {n : Nat} (hn : n < S.N) : (∃ xs, S.H (S.r n) = some (.lst xs)) ∨ (∃ xs, S.H (S.r n) = some (.dT xs)) ∨ (∃ xs, S.H (S.r n) = some (.dK xs)) ∨ (∃ o xs, S.H (S.r n) = some (.frz o (.dK xs))) ∨ (∃ c d f, S.H (S.r n) = some (.ins c d f)) ∨ ∃ φ, S.H (S.r n) = some (.ext φ) := by
  have hl : n < sto.length := by rw [ok.len]; exact hn
  have := ok.ob n sto[n] (List.getElem?_eq_getElem hl)
  cases h : sto[n] <;> rw [h] at this
  · obtain ⟨vs, e, _⟩ := this; exact .inl ⟨_, e⟩
  · obtain ⟨vs, e, _⟩ := this; exact .inr (.inl ⟨_, e⟩)
  · obtain ⟨vs, e, _⟩ := this; exact .inr (.inr (.inl ⟨_, e⟩))
  · obtain ⟨ob, vs, e, _⟩ := this; exact .inr (.inr (.inr (.inl ⟨_, _, e⟩)))
  · obtain ⟨dx, fv, e, _⟩ := this; exact .inr (.inr (.inr (.inr (.inl ⟨_, _, _, e⟩))))
  · rcases this with ⟨_, e⟩ | ⟨_, e⟩ | ⟨_, _, _, e⟩ | ⟨_, e⟩
    · exact .inl ⟨_, e⟩
    · exact .inr (.inl ⟨_, e⟩)
    · exact .inr (.inr (.inr (.inr (.inl ⟨_, _, _, e⟩))))
    · exact .inr (.inr (.inr (.inr (.inr ⟨_, e⟩))))
  · obtain ⟨_, e⟩ := this; exact .inr (.inr (.inr (.inr (.inr ⟨_, e⟩))))
theorem StoOk.ntup (ok : StoOk K cA S sto) {a : Addr} {vs : List V} (h : S.H a = some (.tup vs)) : ∀ n, n < S.N → S.r n ≠ a := fun n hn z => by
  rw [← z] at h
  rcases ok.kind hn with ⟨_, e⟩ | ⟨_, e⟩ | ⟨_, e⟩ | ⟨_, _, e⟩ | ⟨_, _, _, e⟩ | ⟨_, e⟩ <;> rw [e] at h <;> cases h
/-- an object of the store that may be changed -/
def Sys.Al (S : Sys) (n : Nat) : Prop := ¬ S.U (S.r n) ∧ ∀ φ, S.H (S.r n) ≠ some (.ext φ)
theorem StoOk.alive (ok : StoOk K cA S sto) {n : Nat} {x : DO} (h : sto[n]? = some x) (hx : x ≠ .dead) (hx2 : ∀ k, x ≠ .fn k := by intro k z; cases z) : S.Al n := by
  refine ⟨fun hf => ?_, fun φ z => ?_⟩
  · obtain ⟨y, e, q⟩ := ok.nf n (by rw [← ok.len]; exact (List.getElem?_eq_some_iff.mp h).1) hf
    rw [h] at e
    cases e
    exact q.elim hx fun ⟨k, q⟩ => hx2 k q
  · have := ok.ob n x h
    rw [z] at this
    cases x <;> first | exact hx rfl | exact hx2 _ rfl | (simp [ORep] at this)

/-- what holds of the old heap holds of the later one: frozen, a tuple, locked -/
structure Keeps (S S' : Sys) : Prop where
  n : S.N ≤ S'.N
  r : ∀ n, n < S.N → S'.r n = S.r n
  f : ∀ a, S.F a → S'.F a
  b : ∀ a, S.B a → S'.B a
  h : ∀ a o, S.H a = some o → (∀ ps, o ≠ .tbl ps) → S.U a → S'.H a = some o
  t : ∀ a vs, S.H a = some (.tup vs) → S'.H a = some (.tup vs)
  z : ∀ a o xs, S.H a = some (.frz o (.lst xs)) → S'.H a = some (.frz o (.lst xs))
theorem Grow.keeps (g : Grow S S') (ok : StoOk K cA S sto) : Keeps S S' :=
  ⟨g.n, g.r, g.f, g.b, fun a o h nt hf => g.h a o h nt (.inl hf), fun a vs h => g.h a _ h (fun _ z => nomatch z) (.inr (.inl (ok.ntup h))), fun a o xs h => g.z a o _ h⟩
theorem Keeps.R (k : Keeps S S') {a : Addr} : ∀ {g : Bool}, S.R g a → S'.R g a
  | false, h => k.f a h
  | true, h => k.b a h
mutual
theorem Rep.keep (k : Keeps S S') : ∀ (d : DV) (v : V), Rep K cA S d v → Rep K cA S' d v
  | .non, v, h => h
  | .bl b, v, h => h
  | .int i, v, h => h
  | .str x, v, h => h
  | .tup ds, v, ⟨a, vs, e, h1, h2⟩ => ⟨a, vs, e, k.t a vs h1, RepL.keep k ds vs h2⟩
  | .lstG g ds, v, ⟨a, vs, e, h0, h1, h2⟩ => ⟨a, vs, e, k.R h0, k.h a _ h1 (fun _ z => nomatch z) h0.u, RepL.keep k ds vs h2⟩
  | .dicG g ks ds, v, ⟨a, kvs, e, h0, h1, h3, h2⟩ => ⟨a, kvs, e, k.R h0, k.h a _ h1 (fun _ z => nomatch z) h0.u, h3, RepL.keep k ds _ h2⟩
  | .insG g c ns ds, v, ⟨a, dx, fvs, e, h0, h1, h3, h2⟩ => ⟨a, dx, fvs, e, k.R h0, k.h a _ h1 (fun _ z => nomatch z) h0.u, h3, RepL.keep k ds _ h2⟩
  | .scr ns, v, ⟨a, e, h1⟩ => ⟨a, e, by
    rcases h1 with ⟨o, h1⟩ | ⟨h0, h1⟩ | h1
    · exact .inl ⟨o, k.z a o _ h1⟩
    · exact .inr (.inl ⟨k.f a h0, k.h a _ h1 (fun _ z => nomatch z) (.inl h0)⟩)
    · exact .inr (.inr h1)⟩
  | .loc n, v, ⟨h1, h2⟩ => ⟨Nat.lt_of_lt_of_le h1 k.n, by rw [k.r n h1]; exact h2⟩
  | .ty n, v, h => h
  | .cls c, v, h => h
theorem RepL.keep (k : Keeps S S') : ∀ (ds : List DV) (vs : List V), RepL K cA S ds vs → RepL K cA S' ds vs
  | [], vs, h => h
  | d :: ds, vs, ⟨v, r, e, h1, h2⟩ => ⟨v, r, e, Rep.keep k d v h1, RepL.keep k ds r h2⟩
end
theorem ORep.keep (k : Keeps S S') : ∀ (d : DO) (o : Option HO), ORep K cA S d o → ORep K cA S' d o
  | .lst ds, o, ⟨vs, e, h⟩ => ⟨vs, e, RepL.keep k ds vs h⟩
  | .dT ks ds, o, ⟨kvs, e, h1, h, nd⟩ => ⟨kvs, e, h1, RepL.keep k ds _ h, nd⟩
  | .dK ks ds, o, ⟨kvs, e, h1, h, nd⟩ => ⟨kvs, e, h1, RepL.keep k ds _ h, nd⟩
  | .dKf ks ds, o, ⟨ob, kvs, e, h1, h, nd⟩ => ⟨ob, kvs, e, h1, RepL.keep k ds _ h, nd⟩
  | .ins c ns ds, o, ⟨dx, fvs, e, h1, h⟩ => ⟨dx, fvs, e, h1, RepL.keep k ds _ h⟩
  | .dead, o, h => h
  | .fn _, o, h => h
theorem Grow.ext (g : Grow S S') : ∀ b φ, S.H b = some (.ext φ) → S'.H b = some (.ext φ) := fun b φ h => g.h b _ h (fun _ z => nomatch z) (.inr (.inr ⟨φ, rfl⟩))
theorem StoOk.fng (ok : StoOk K cA S sto) (g : Grow S S') {n k : Nat} (h : sto[n]? = some (.fn k)) : cA.lam k (S'.r n) S'.H := by
  rw [g.r n (by rw [← ok.len]; exact (List.getElem?_eq_some_iff.mp h).1)]
  exact cA.lmono _ _ _ _ (ok.fnk n k h) g.ext
theorem Rep.grow {d : DV} {v : V} (h : Rep K cA S d v) (ok : StoOk K cA S sto) (g : Grow S S') : Rep K cA S' d v := Rep.keep (g.keeps ok) d v h
theorem RepL.grow {ds : List DV} {vs : List V} (h : RepL K cA S ds vs) (ok : StoOk K cA S sto) (g : Grow S S') : RepL K cA S' ds vs := RepL.keep (g.keeps ok) ds vs h
theorem RepL.length : ∀ {ds : List DV} {vs : List V}, RepL K cA S ds vs → ds.length = vs.length
  | [], _, h => by cases h; rfl
  | d :: ds, _, ⟨v, r, e, _, h⟩ => by subst e; simp [RepL.length h]
theorem RepL.app : ∀ {ds es : List DV} {vs us : List V}, RepL K cA S ds vs → RepL K cA S es us → RepL K cA S (ds ++ es) (vs ++ us)
  | [], _, _, _, h, q => by cases h; exact q
  | d :: ds, _, _, _, ⟨v, r, e, h1, h2⟩, q => by subst e; exact ⟨v, r ++ _, rfl, h1, RepL.app h2 q⟩
theorem RepL.one {d : DV} {v : V} (h : Rep K cA S d v) : RepL K cA S [d] [v] := ⟨v, [], rfl, h, rfl⟩
theorem RepL.get : ∀ {ds : List DV} {vs : List V} {i : Nat} {d : DV}, RepL K cA S ds vs → ds[i]? = some d → ∃ v, vs[i]? = some v ∧ Rep K cA S d v
  | [], _, _, _, _, e => by simp at e
  | d :: ds, _, 0, x, ⟨v, r, e, h, _⟩, q => by subst e; simp at q; subst q; exact ⟨v, rfl, h⟩
  | d :: ds, _, i + 1, x, ⟨v, r, e, _, h⟩, q => by
    subst e
    obtain ⟨v', h1, h2⟩ := RepL.get (i := i) (d := x) h (by simpa using q)
    exact ⟨v', by simpa using h1, h2⟩
theorem RepL.set {d : DV} {v : V} (hd : Rep K cA S d v) : ∀ {ds : List DV} {vs : List V} (i : Nat), RepL K cA S ds vs → RepL K cA S (ds.set i d) (vs.set i v)
  | [], _, _, h => by cases h; rfl
  | x :: ds, _, 0, ⟨v, r, e, h, q⟩ => by subst e; exact ⟨_, _, rfl, hd, q⟩
  | x :: ds, _, i + 1, ⟨v, r, e, h, q⟩ => by subst e; exact ⟨v, _, rfl, h, RepL.set hd i q⟩
theorem RepL.drop : ∀ {ds : List DV} {vs : List V} (i : Nat), RepL K cA S ds vs → RepL K cA S (ds.drop i) (vs.drop i)
  | _, _, 0, h => h
  | [], _, _ + 1, h => by cases h; rfl
  | x :: ds, _, i + 1, ⟨v, r, e, h, q⟩ => by subst e; exact RepL.drop i q
theorem RepL.take : ∀ {ds : List DV} {vs : List V} (i : Nat), RepL K cA S ds vs → RepL K cA S (ds.take i) (vs.take i)
  | _, _, 0, h => rfl
  | [], _, _ + 1, h => by cases h; rfl
  | x :: ds, _, i + 1, ⟨v, r, e, h, q⟩ => by subst e; exact ⟨v, _, rfl, h, RepL.take i q⟩
theorem RepL.split : ∀ {ds es : List DV} {vs : List V}, RepL K cA S (ds ++ es) vs → ∃ us ws, vs = us ++ ws ∧ RepL K cA S ds us ∧ RepL K cA S es ws
  | [], es, vs, h => ⟨[], vs, rfl, rfl, h⟩
  | d :: ds, es, _, ⟨v, r, e, h1, h2⟩ => by
    obtain ⟨us, ws, e2, q1, q2⟩ := RepL.split h2
    subst e; subst e2
    exact ⟨v :: us, ws, rfl, ⟨v, us, rfl, h1, q1⟩, q2⟩
theorem RepL.rev : ∀ {ds : List DV} {vs : List V}, RepL K cA S ds vs → RepL K cA S ds.reverse vs.reverse
  | [], _, h => by cases h; rfl
  | d :: ds, _, ⟨v, r, e, h1, h2⟩ => by
    subst e
    rw [List.reverse_cons, List.reverse_cons]
    exact RepL.app (RepL.rev h2) (RepL.one h1)
end

/-! ### runs -/
inductive Res (α : Type) where
  | ok (a : α) (sto : Sto)
  | exc (c : Nat) (sto : Sto)
  | stuck
def Res.bind {α β : Type} (r : Res α) (f : α → Sto → Res β) : Res β := match r with
  | .ok a s => f a s
  | .exc c s => .exc c s
  | .stuck => .stuck
@[simp] theorem Res.bind_ok {α β : Type} (a : α) (s : Sto) (f : α → Sto → Res β) : (Res.ok a s).bind f = f a s := rfl
@[simp] theorem Res.bind_exc {α β : Type} (c : Nat) (s : Sto) (f : α → Sto → Res β) : (Res.exc c s : Res α).bind f = .exc c s := rfl
@[simp] theorem Res.bind_stuck {α β : Type} (f : α → Sto → Res β) : (Res.stuck : Res α).bind f = .stuck := rfl
abbrev EM := Env → Sto → Res DV
abbrev TM := Env → Sto → Res Bool
abbrev AM := Env → Sto → Res (List DV)
/-- a statement's end -/
inductive Out where
  | nx (env : Env) (sto : Sto)
  | rt (d : DV) (sto : Sto)
  | bk (env : Env) (sto : Sto)
  | ct (env : Env) (sto : Sto)
  | exc (c : Nat) (env : Env) (sto : Sto)
  | stuck
abbrev SM := Env → Sto → Out

section
variable (K : PySem.W.Frag) (cA : CA)
def EnvOk (S : Sys) (env : Env) (σ : L2.St) : Prop := env.length = σ.length ∧ ∀ (i : Nat) d, env[i]? = some (some d) → ∃ v, σ[i]? = some (some v) ∧ Rep K cA S d v
def Post {α : Type} (S : Sys) (r : Res α) (Q : α → Sto → Sys → Prop) (Z : Nat → Sto → Sys → Prop) : Prop := match r with
  | .ok a s => ∀ S', Grow S S' → StoOk K cA S' s → Q a s S'
  | .exc c s => ∀ S', Grow S S' → StoOk K cA S' s → Z c s S'
  | .stuck => False
def OPost (S : Sys) (o : Out) (D : Ends) (Z : Nat → L2.St → Hp → Prop) : Prop := match o with
  | .nx env s => ∀ S' σ', Grow S S' → StoOk K cA S' s → EnvOk K cA S' env σ' → D.nx σ' S'.H
  | .rt d s => ∀ S' v, Grow S S' → StoOk K cA S' s → Rep K cA S' d v → D.rt v S'.H
  | .bk env s => ∀ S' σ', Grow S S' → StoOk K cA S' s → EnvOk K cA S' env σ' → D.bk σ' S'.H
  | .ct env s => ∀ S' σ', Grow S S' → StoOk K cA S' s → EnvOk K cA S' env σ' → D.ct σ' S'.H
  | .exc c env s => ∀ S' σ', Grow S S' → StoOk K cA S' s → EnvOk K cA S' env σ' → Z c σ' S'.H
  | .stuck => False
end
section
variable {K : PySem.W.Frag} {cA : CA} {S S' S1 S2 : Sys} {sto sto' : Sto} {env : Env} {σ : L2.St} {α β : Type}
theorem EnvOk.grow (h : EnvOk K cA S env σ) (ok : StoOk K cA S sto) (g : Grow S S') : EnvOk K cA S' env σ := ⟨h.1, fun i d e => by
  obtain ⟨v, e1, e2⟩ := h.2 i d e
  exact ⟨v, e1, e2.grow ok g⟩⟩
theorem EnvOk.set (h : EnvOk K cA S env σ) {i : Nat} {d : DV} {v : V} (hd : Rep K cA S d v) : EnvOk K cA S (env.set i (some d)) (σ.set i (some v)) := ⟨by simp [h.1], fun j e hj => by
  by_cases hji : i = j
  · subst hji
    by_cases hl : i < env.length
    · rw [List.getElem?_set_self hl] at hj
      cases hj
      exact ⟨v, List.getElem?_set_self (by rw [← h.1]; exact hl), hd⟩
    · rw [List.getElem?_eq_none (by simpa using hl)] at hj; cases hj
  · rw [List.getElem?_set_ne hji] at hj
    obtain ⟨w, e1, e2⟩ := h.2 j e hj
    exact ⟨w, by rw [List.getElem?_set_ne hji]; exact e1, e2⟩⟩
theorem EnvOk.forget (h : EnvOk K cA S env σ) {i : Nat} : EnvOk K cA S (env.set i none) σ := ⟨by simp [h.1], fun j e hj => by
  by_cases hji : i = j
  · subst hji
    by_cases hl : i < env.length
    · rw [List.getElem?_set_self hl] at hj; cases hj
    · rw [List.getElem?_eq_none (by simpa using hl)] at hj; cases hj
  · rw [List.getElem?_set_ne hji] at hj
    exact h.2 j e hj⟩
theorem EnvOk.setNone (h : EnvOk K cA S env σ) {i : Nat} : EnvOk K cA S (env.set i none) (σ.set i none) := ⟨by simp [h.1], fun j e hj => by
  by_cases hji : i = j
  · subst hji
    by_cases hl : i < env.length
    · rw [List.getElem?_set_self hl] at hj; cases hj
    · rw [List.getElem?_eq_none (by simpa using hl)] at hj; cases hj
  · rw [List.getElem?_set_ne hji] at hj
    obtain ⟨w, e1, e2⟩ := h.2 j e hj
    exact ⟨w, by rw [List.getElem?_set_ne hji]; exact e1, e2⟩⟩
theorem Post.grow {r : Res α} {Q : α → Sto → Sys → Prop} {Z : Nat → Sto → Sys → Prop} (h : Post K cA S r Q Z) (g : Grow S S1) : Post K cA S1 r Q Z := by
  cases r with
  | ok a s => exact fun S' g' ok => h S' (g.trans g') ok
  | exc c s => exact fun S' g' ok => h S' (g.trans g') ok
  | stuck => exact h
theorem Post.imp {r : Res α} {Q Q' : α → Sto → Sys → Prop} {Z Z' : Nat → Sto → Sys → Prop} (h : Post K cA S r Q Z) (hq : ∀ a s S', Grow S S' → StoOk K cA S' s → Q a s S' → Q' a s S') (hz : ∀ c s S', Grow S S' → StoOk K cA S' s → Z c s S' → Z' c s S') : Post K cA S r Q' Z' := by
  cases r with
  | ok a s => exact fun S' g' ok => hq _ _ _ g' ok (h S' g' ok)
  | exc c s => exact fun S' g' ok => hz _ _ _ g' ok (h S' g' ok)
  | stuck => exact h
theorem Post.bind {r : Res α} {f : α → Sto → Res β} {Q : β → Sto → Sys → Prop} {Z : Nat → Sto → Sys → Prop} (h : Post K cA S (r.bind f) Q Z) : Post K cA S r (fun a s S1 => Post K cA S1 (f a s) Q Z) Z := by
  cases r with
  | ok a s => exact fun S' g' ok => Post.grow h g'
  | exc c s => exact h
  | stuck => exact h
theorem OPost.grow {o : Out} {D : Ends} {Z : Nat → L2.St → Hp → Prop} (h : OPost K cA S o D Z) (g : Grow S S1) : OPost K cA S1 o D Z := by
  cases o with
  | nx e s => exact fun S' σ' g' ok eo => h S' σ' (g.trans g') ok eo
  | rt d s => exact fun S' σ' g' ok eo => h S' σ' (g.trans g') ok eo
  | bk e s => exact fun S' σ' g' ok eo => h S' σ' (g.trans g') ok eo
  | ct e s => exact fun S' σ' g' ok eo => h S' σ' (g.trans g') ok eo
  | exc c e s => exact fun S' σ' g' ok eo => h S' σ' (g.trans g') ok eo
  | stuck => exact h
end
/-- a run that goes on as a statement -/
def Res.out {α : Type} (r : Res α) (env : Env) (f : α → Sto → Out) : Out := match r with
  | .ok a s => f a s
  | .exc c s => .exc c env s
  | .stuck => .stuck
@[simp] theorem Res.out_ok {α : Type} (a : α) (s : Sto) (env : Env) (f : α → Sto → Out) : (Res.ok a s).out env f = f a s := rfl
@[simp] theorem Res.out_exc {α : Type} (c : Nat) (s : Sto) (env : Env) (f : α → Sto → Out) : (Res.exc c s : Res α).out env f = .exc c env s := rfl
@[simp] theorem Res.out_stuck {α : Type} (env : Env) (f : α → Sto → Out) : (Res.stuck : Res α).out env f = .stuck := rfl
theorem OPost.out {K : PySem.W.Frag} {cA : CA} {S : Sys} {sto : Sto} {env : Env} {σ : L2.St} {α : Type} {r : Res α} {f : α → Sto → Out} {D : Ends} {Z : Nat → L2.St → Hp → Prop} (h : OPost K cA S (r.out env f) D Z) (ok : StoOk K cA S sto) (eo : EnvOk K cA S env σ) :
    Post K cA S r (fun a s S1 => OPost K cA S1 (f a s) D Z) (fun c _ S1 => Z c σ S1.H) := by
  cases r with
  | ok a s => exact fun S' g' _ => OPost.grow h g'
  | exc c s => exact fun S' g' o1 => h S' σ g' o1 (eo.grow ok g')
  | stuck => exact h

/-! ### the judgements -/
section
variable (X : Cx) (cA : CA) (Z : Nat → L2.St → Hp → Prop)
def wE (e : Expr) : TE := fun σ H Q => ∀ pins s, Inv X pins σ H s → wpAny (model X.prog X.w) X.A (eval e X.env) (EP X pins σ Q) X.xe s
def wT (e : Expr) : TT := fun σ H Q => ∀ pins s, Inv X pins σ H s → wpAny (model X.prog X.w) X.A (isTrue e X.env (eval e X.env)) (TP X pins σ Q) X.xe s
def wA (es : List Expr) : TA := fun σ H Q => ∀ pos pins s, Inv X pins σ H s → wpAny (model X.prog X.w) X.A (spliced (backTo pos (starEach es X.env))) (AP X pins σ Q) X.xe s
def wS (st : Stmt) : TS := fun D σ H => ∀ pins s, Inv X pins σ H s → wpAny (model X.prog X.w) X.A (exec st X.env) (SP X pins D) X.xe s
def wSs (st : List Stmt) : TS := fun D σ H => ∀ pins s, Inv X pins σ H s → wpAny (model X.prog X.w) X.A (execs st X.env) (SP X pins D) X.xe s
/-- e runs as m says -/
structure GE (e : Expr) (m : EM) : Prop where
  run : ∀ S σ env sto, StoOk X.K cA S sto → EnvOk X.K cA S env σ → ∀ Q : VK, Post X.K cA S (m env sto) (fun d _ S' => ∀ v, Rep X.K cA S' d v → Q v S'.H) (fun c _ S' => Z c σ S'.H) → wE X e σ S.H Q
structure GT (e : Expr) (m : TM) : Prop where
  run : ∀ S σ env sto, StoOk X.K cA S sto → EnvOk X.K cA S env σ → ∀ Q : Bool → Hp → Prop, Post X.K cA S (m env sto) (fun d _ S' => Q d S'.H) (fun c _ S' => Z c σ S'.H) → wT X e σ S.H Q
structure GA (es : List Expr) (m : AM) : Prop where
  run : ∀ S σ env sto, StoOk X.K cA S sto → EnvOk X.K cA S env σ → ∀ Q : List V → Hp → Prop, Post X.K cA S (m env sto) (fun ds _ S' => ∀ vs, RepL X.K cA S' ds vs → Q vs S'.H) (fun c _ S' => Z c σ S'.H) → wA X es σ S.H Q
structure GS (st : Stmt) (m : SM) : Prop where
  run : ∀ S σ env sto, StoOk X.K cA S sto → EnvOk X.K cA S env σ → ∀ D : Ends, OPost X.K cA S (m env sto) D Z → wS X st D σ S.H
structure GSs (st : List Stmt) (m : SM) : Prop where
  run : ∀ S σ env sto, StoOk X.K cA S sto → EnvOk X.K cA S env σ → ∀ D : Ends, OPost X.K cA S (m env sto) D Z → wSs X st D σ S.H
end
section
variable {X : Cx} {cA : CA} {Z : Nat → L2.St → Hp → Prop}
theorem peW (e : Expr) : PE X e (wE X e) := ⟨fun pins s σ H Q I h => h pins s I⟩
theorem ptW (e : Expr) : PT X e (wT X e) := ⟨fun pins s σ H Q I h => h pins s I⟩
theorem paW (es : List Expr) : PA X es (wA X es) := ⟨fun pos pins s σ H Q I h => h pos pins s I⟩
theorem psW (st : Stmt) : PS X st (wS X st) := ⟨fun pins s σ H D I h => h pins s I⟩
theorem pssW (st : List Stmt) : PSs X st (wSs X st) := ⟨fun pins s σ H D I h => h pins s I⟩
theorem wE.of {e : Expr} {t : TE} (h : PE X e t) {σ : L2.St} {H : Hp} {Q : VK} (q : t σ H Q) : wE X e σ H Q := fun pins s I => h.run pins s σ H Q I q
theorem wT.of {e : Expr} {t : TT} (h : PT X e t) {σ : L2.St} {H : Hp} {Q : Bool → Hp → Prop} (q : t σ H Q) : wT X e σ H Q := fun pins s I => h.run pins s σ H Q I q
theorem wA.of {es : List Expr} {t : TA} (h : PA X es t) {σ : L2.St} {H : Hp} {Q : List V → Hp → Prop} (q : t σ H Q) : wA X es σ H Q := fun pos pins s I => h.run pos pins s σ H Q I q
theorem wS.of {st : Stmt} {t : TS} (h : PS X st t) {σ : L2.St} {H : Hp} {D : Ends} (q : t D σ H) : wS X st D σ H := fun pins s I => h.run pins s σ H D I q
theorem wSs.of {st : List Stmt} {t : TS} (h : PSs X st t) {σ : L2.St} {H : Hp} {D : Ends} (q : t D σ H) : wSs X st D σ H := fun pins s I => h.run pins s σ H D I q

variable {S : Sys} {σ : L2.St} {env : Env} {sto : Sto} {α β : Type}
/-- the first part of a run -/
theorem GE.then {e : Expr} {m : EM} (g : GE X cA Z e m) (ok : StoOk X.K cA S sto) (eo : EnvOk X.K cA S env σ) {f : DV → Sto → Res β} {Qf : β → Sto → Sys → Prop} {Q : VK}
    (h : Post X.K cA S ((m env sto).bind f) Qf (fun c _ S' => Z c σ S'.H))
    (hq : ∀ d s S' v, Grow S S' → StoOk X.K cA S' s → EnvOk X.K cA S' env σ → Rep X.K cA S' d v → Post X.K cA S' (f d s) Qf (fun c _ S' => Z c σ S'.H) → Q v S'.H) : wE X e σ S.H Q :=
  g.run S σ env sto ok eo Q ((Post.bind h).imp (fun d s S' gr o1 p v r => hq d s S' v gr o1 (eo.grow ok gr) r p) fun _ _ _ _ _ z => z)
theorem GE.thenE {e : Expr} {m : EM} (g : GE X cA Z e m) (ok : StoOk X.K cA S sto) (eo : EnvOk X.K cA S env σ) {f : DV → Sto → Res β} {Qf : β → Sto → Sys → Prop} {Q : VK}
    (h : Post X.K cA S ((m env sto).bind f) Qf (fun c _ S' => Z c σ S'.H))
    (hq : ∀ d s S' v, m env sto = .ok d s → Grow S S' → StoOk X.K cA S' s → EnvOk X.K cA S' env σ → Rep X.K cA S' d v → Post X.K cA S' (f d s) Qf (fun c _ S' => Z c σ S'.H) → Q v S'.H) : wE X e σ S.H Q := by
  refine g.run S σ env sto ok eo Q ?_
  have h2 := Post.bind h
  cases e : m env sto with
  | ok a s =>
    rw [e] at h2
    exact fun S' gr o1 v r => hq a s S' v e gr o1 (eo.grow ok gr) r (h2 S' gr o1)
  | exc c s => rw [e] at h2; exact h2
  | stuck => rw [e] at h2; exact h2
theorem GT.then {e : Expr} {m : TM} (g : GT X cA Z e m) (ok : StoOk X.K cA S sto) (eo : EnvOk X.K cA S env σ) {f : Bool → Sto → Res β} {Qf : β → Sto → Sys → Prop} {Q : Bool → Hp → Prop}
    (h : Post X.K cA S ((m env sto).bind f) Qf (fun c _ S' => Z c σ S'.H))
    (hq : ∀ b s S', Grow S S' → StoOk X.K cA S' s → EnvOk X.K cA S' env σ → Post X.K cA S' (f b s) Qf (fun c _ S' => Z c σ S'.H) → Q b S'.H) : wT X e σ S.H Q :=
  g.run S σ env sto ok eo Q ((Post.bind h).imp (fun d s S' gr o1 p => hq d s S' gr o1 (eo.grow ok gr) p) fun _ _ _ _ _ z => z)
theorem GA.then {es : List Expr} {m : AM} (g : GA X cA Z es m) (ok : StoOk X.K cA S sto) (eo : EnvOk X.K cA S env σ) {f : List DV → Sto → Res β} {Qf : β → Sto → Sys → Prop} {Q : List V → Hp → Prop}
    (h : Post X.K cA S ((m env sto).bind f) Qf (fun c _ S' => Z c σ S'.H))
    (hq : ∀ ds s S' vs, Grow S S' → StoOk X.K cA S' s → EnvOk X.K cA S' env σ → RepL X.K cA S' ds vs → Post X.K cA S' (f ds s) Qf (fun c _ S' => Z c σ S'.H) → Q vs S'.H) : wA X es σ S.H Q :=
  g.run S σ env sto ok eo Q ((Post.bind h).imp (fun d s S' gr o1 p v r => hq d s S' v gr o1 (eo.grow ok gr) r p) fun _ _ _ _ _ z => z)
theorem GE.out {e : Expr} {m : EM} (g : GE X cA Z e m) (ok : StoOk X.K cA S sto) (eo : EnvOk X.K cA S env σ) {f : DV → Sto → Out} {D : Ends} {Q : VK}
    (h : OPost X.K cA S ((m env sto).out env f) D Z)
    (hq : ∀ d s S' v, Grow S S' → StoOk X.K cA S' s → EnvOk X.K cA S' env σ → Rep X.K cA S' d v → OPost X.K cA S' (f d s) D Z → Q v S'.H) : wE X e σ S.H Q :=
  g.run S σ env sto ok eo Q ((OPost.out h ok eo).imp (fun d s S' gr o1 p v r => hq d s S' v gr o1 (eo.grow ok gr) r p) fun _ _ _ _ _ z => z)
theorem GT.out {e : Expr} {m : TM} (g : GT X cA Z e m) (ok : StoOk X.K cA S sto) (eo : EnvOk X.K cA S env σ) {f : Bool → Sto → Out} {D : Ends} {Q : Bool → Hp → Prop}
    (h : OPost X.K cA S ((m env sto).out env f) D Z)
    (hq : ∀ d s S', Grow S S' → StoOk X.K cA S' s → EnvOk X.K cA S' env σ → OPost X.K cA S' (f d s) D Z → Q d S'.H) : wT X e σ S.H Q :=
  g.run S σ env sto ok eo Q ((OPost.out h ok eo).imp (fun d s S' gr o1 p => hq d s S' gr o1 (eo.grow ok gr) p) fun _ _ _ _ _ z => z)
theorem GA.out {es : List Expr} {m : AM} (g : GA X cA Z es m) (ok : StoOk X.K cA S sto) (eo : EnvOk X.K cA S env σ) {f : List DV → Sto → Out} {D : Ends} {Q : List V → Hp → Prop}
    (h : OPost X.K cA S ((m env sto).out env f) D Z)
    (hq : ∀ d s S' v, Grow S S' → StoOk X.K cA S' s → EnvOk X.K cA S' env σ → RepL X.K cA S' d v → OPost X.K cA S' (f d s) D Z → Q v S'.H) : wA X es σ S.H Q :=
  g.run S σ env sto ok eo Q ((OPost.out h ok eo).imp (fun d s S' gr o1 p v r => hq d s S' v gr o1 (eo.grow ok gr) r p) fun _ _ _ _ _ z => z)
end
end BB
namespace BB
open PySem PySem.Spec PyProof.Rows L2

theorem Res.bind_assoc {α β γ : Type} (r : Res α) (f : α → Sto → Res β) (g : β → Sto → Res γ) : (r.bind f).bind g = r.bind fun a s => (f a s).bind g := by
  cases r <;> rfl
/-! ### new objects -/
def Sys.addT (S : Sys) (p : Addr) (o : HO) : Sys := { S with H := upd S.H p o }
def Sys.addV (S : Sys) (p : Addr) (o : HO) : Sys := { S with H := upd S.H p o, F := fun a => S.F a ∨ a = p }
def Sys.addL (S : Sys) (p : Addr) (o : HO) : Sys := { S with H := upd S.H p o, r := fun n => if n = S.N then p else S.r n, N := S.N + 1 }
def Sys.mut (S : Sys) (n : Nat) (o : HO) : Sys := { S with H := upd S.H (S.r n) o }
section
variable {K : PySem.W.Frag} {cA : CA} {S S' S1 S2 : Sys} {sto sto' : Sto} {p : Addr} {o : HO}
theorem StoOk.live (ok : StoOk K cA S sto) {n : Nat} (hn : n < S.N) : S.H (S.r n) ≠ none := (Grow.refl ok).st n hn
theorem StoOk.nep (ok : StoOk K cA S sto) (np : S.H p = none) {n : Nat} (hn : n < S.N) : S.r n ≠ p := fun z => ok.live hn (z ▸ np)
theorem StoOk.lt (ok : StoOk K cA S sto) {n : Nat} {x : DO} (h : sto[n]? = some x) : n < S.N := by
  rw [← ok.len]; exact (List.getElem?_eq_some_iff.mp h).1
theorem upd_of {H : Hp} {a : Addr} {u : HO} (h : H a = some u) (np : H p = none) : upd H p o a = some u := by
  rw [upd_ne (ne_of_none h np)]; exact h
theorem Grow.addT (ok : StoOk K cA S sto) (np : S.H p = none) : Grow S (S.addT p o) where
  n := Nat.le_refl _
  r := fun _ _ => rfl
  f := fun _ h => h
  h := fun a u h _ _ => upd_of h np
  new := fun n h1 h2 => absurd h2 (by show ¬ n < S.N; omega)
  st := fun n hn => by
    show upd S.H p o (S.r n) ≠ none
    rw [upd_ne (ok.nep np hn)]; exact ok.live hn
  fn := fun _ h => .inl h
  z := fun a o u h => upd_of h np
  b := fun _ h => h
  bn := fun _ h => h
  k := fun a h => by
    show upd S.H p o a ≠ none
    unfold upd; split
    · simp
    · exact h
theorem Grow.addV (ok : StoOk K cA S sto) (np : S.H p = none) : Grow S (S.addV p o) where
  n := Nat.le_refl _
  r := fun _ _ => rfl
  f := fun _ h => .inl h
  h := fun a u h _ _ => upd_of h np
  new := fun n h1 h2 => absurd h2 (by show ¬ n < S.N; omega)
  st := fun n hn => by
    show upd S.H p o (S.r n) ≠ none
    rw [upd_ne (ok.nep np hn)]; exact ok.live hn
  fn := fun a h => by
    rcases h with h | h
    · exact .inl h
    · exact .inr (.inl (h ▸ np))
  z := fun a o u h => upd_of h np
  b := fun _ h => h
  bn := fun _ h => h
  k := fun a h => by
    show upd S.H p o a ≠ none
    unfold upd; split
    · simp
    · exact h
theorem Grow.addL (ok : StoOk K cA S sto) (np : S.H p = none) : Grow S (S.addL p o) where
  n := Nat.le_succ _
  r := fun n hn => by
    show (if n = S.N then p else S.r n) = S.r n
    rw [if_neg (by omega)]
  f := fun _ h => h
  h := fun a u h _ _ => upd_of h np
  new := fun n h1 h2 => by
    have h2 : n < S.N + 1 := h2
    have e : n = S.N := by omega
    show S.H (if n = S.N then p else S.r n) = none
    rw [if_pos e]; exact np
  st := fun n hn => by
    show upd S.H p o (S.r n) ≠ none
    rw [upd_ne (ok.nep np hn)]; exact ok.live hn
  fn := fun _ h => .inl h
  z := fun a o u h => upd_of h np
  b := fun _ h => h
  bn := fun _ h => h
  k := fun a h => by
    show upd S.H p o a ≠ none
    unfold upd; split
    · simp
    · exact h
theorem StoOk.addT (ok : StoOk K cA S sto) (np : S.H p = none) : StoOk K cA (S.addT p o) sto where
  len := ok.len
  nf := ok.nf
  inj := ok.inj
  ob := fun n x h => by
    show ORep K cA (S.addT p o) x (upd S.H p o (S.r n))
    rw [upd_ne (ok.nep np (ok.lt h))]
    exact ORep.keep ((Grow.addT ok np).keeps ok) _ _ (ok.ob n x h)
  fs := fun a h => by
    show upd S.H p o a ≠ none
    unfold upd; split
    · simp
    · exact ok.fs a h
  tb := fun q hq => (ok.tb q hq).ext fun b u e => upd_of e np
  j := cA.mono _ _ ok.j (Grow.addT ok np)
  fnk := fun n k h => ok.fng (Grow.addT ok np) h
theorem StoOk.addV (ok : StoOk K cA S sto) (np : S.H p = none) : StoOk K cA (S.addV p o) sto where
  len := ok.len
  nf := fun n hn h => by
    rcases h with (h | h) | h
    · exact ok.nf n hn (.inl h)
    · exact (ok.nep np hn h).elim
    · exact ok.nf n hn (.inr h)
  inj := ok.inj
  ob := fun n x h => by
    show ORep K cA (S.addV p o) x (upd S.H p o (S.r n))
    rw [upd_ne (ok.nep np (ok.lt h))]
    exact ORep.keep ((Grow.addV ok np).keeps ok) _ _ (ok.ob n x h)
  fs := fun a h => by
    show upd S.H p o a ≠ none
    unfold upd; split
    · simp
    · rcases h with (h | h) | h
      · exact ok.fs a (.inl h)
      · contradiction
      · exact ok.fs a (.inr h)
  tb := fun q hq => (ok.tb q hq).ext fun b u e => upd_of e np
  j := cA.mono _ _ ok.j (Grow.addV ok np)
  fnk := fun n k h => ok.fng (Grow.addV ok np) h
theorem StoOk.addL {d : DO} (ok : StoOk K cA S sto) (np : S.H p = none) (hd : ORep K cA S d (some o)) (hf : ∀ k, d = .fn k → cA.lam k p (upd S.H p o) := by intro k z; cases z) : StoOk K cA (S.addL p o) (sto ++ [d]) where
  len := by show (sto ++ [d]).length = S.N + 1; simp [ok.len]
  nf := fun n hn h => by
    have hn : n < S.N + 1 := hn
    have h : S.U (if n = S.N then p else S.r n) := h
    split at h
    · exact (ok.fs p h np).elim
    · rw [List.getElem?_append_left (by rw [ok.len]; omega)]; exact ok.nf n (by omega) h
  inj := fun n m hn hm e => by
    have hn : n < S.N + 1 := hn
    have hm : m < S.N + 1 := hm
    have e : (if n = S.N then p else S.r n) = (if m = S.N then p else S.r m) := e
    split at e <;> split at e
    · omega
    · exact absurd e.symm (ok.nep np (by omega))
    · exact absurd e (ok.nep np (by omega))
    · exact ok.inj n m (by omega) (by omega) e
  ob := fun n x h => by
    show ORep K cA (S.addL p o) x (upd S.H p o (if n = S.N then p else S.r n))
    by_cases hn : n = S.N
    · rw [if_pos hn, upd_same]
      rw [hn, ← ok.len, List.getElem?_append_right (Nat.le_refl _)] at h
      simp at h
      subst h
      exact ORep.keep ((Grow.addL ok np).keeps ok) _ _ hd
    · have hl : n < sto.length := by
        have := (List.getElem?_eq_some_iff.mp h).1
        simp at this
        rw [ok.len] at this ⊢; omega
      rw [List.getElem?_append_left hl] at h
      rw [if_neg hn, upd_ne (ok.nep np (ok.lt h))]
      exact ORep.keep ((Grow.addL ok np).keeps ok) _ _ (ok.ob n x h)
  fs := fun a h => by
    show upd S.H p o a ≠ none
    unfold upd; split
    · simp
    · exact ok.fs a h
  tb := fun q hq => (ok.tb q hq).ext fun b u e => upd_of e np
  j := cA.mono _ _ ok.j (Grow.addL ok np)
  fnk := fun n k h => by
    by_cases hn : n < sto.length
    · rw [List.getElem?_append_left hn] at h
      exact ok.fng (Grow.addL ok np) h
    · have hl := (List.getElem?_eq_some_iff.mp h).1
      simp at hl
      have e : n = sto.length := by omega
      subst e
      simp at h
      show cA.lam k (if sto.length = S.N then p else S.r sto.length) (upd S.H p o)
      rw [if_pos ok.len]
      exact hf k h
/-- the n-th object is changed -/
theorem Grow.mut (ok : StoOk K cA S sto) {n : Nat} (hn : n < S.N) (na : S.Al n) (nz : ∀ o u, S.H (S.r n) ≠ some (.frz o u)) : Grow S (S.mut n o) where
  n := Nat.le_refl _
  r := fun _ _ => rfl
  f := fun _ h => h
  h := fun a u h _ ha => by
    show upd S.H (S.r n) o a = _
    rw [upd_ne (fun z => ha.elim (fun hf => na.1 (by rw [← z]; exact hf)) fun q => q.elim (fun q => q n hn z.symm) fun ⟨φ, q⟩ => na.2 φ (by rw [← z, h, q]))]; exact h
  new := fun m h1 h2 => absurd h2 (by show ¬ m < S.N; omega)
  st := fun m hm => by
    show upd S.H (S.r n) o (S.r m) ≠ none
    unfold upd; split
    · simp
    · exact ok.live hm
  fn := fun _ h => .inl h
  z := fun a o u h => by
    show upd S.H (S.r n) _ a = _
    rw [upd_ne (fun e => nz o u (by rw [← e]; exact h))]; exact h
  b := fun _ h => h
  bn := fun _ h => h
  k := fun a h => by
    show upd S.H (S.r n) o a ≠ none
    unfold upd; split
    · simp
    · exact h
theorem tab_mut (ok : StoOk K cA S sto) {n : Nat} (hn : n < S.N) (na : S.Al n) {P : Addr} {q : Str} (t : LamX.TabS S.H P q) : LamX.TabS (upd S.H (S.r n) o) P q := by
    obtain ⟨ps, h1, h2, h3⟩ := t
    have nt : ∀ qs, S.H (S.r n) ≠ some (.tbl qs) := fun qs z => by
      rcases ok.kind hn with ⟨_, e⟩ | ⟨_, e⟩ | ⟨_, e⟩ | ⟨_, _, e⟩ | ⟨_, _, _, e⟩ | ⟨_, e⟩ <;> rw [e] at z <;> cases z
    refine ⟨ps, ?_, h2, fun pos cv hc => ?_⟩
    · show upd S.H (S.r n) o P = _
      rw [upd_ne (fun z => nt ps (by rw [← z]; exact h1))]; exact h1
    · obtain ⟨c, e1, e2⟩ := h3 pos cv hc
      refine ⟨c, e1, ?_⟩
      show upd S.H (S.r n) o c = _
      rw [upd_ne (fun z => na.2 _ (by rw [← z]; exact e2))]; exact e2
theorem StoOk.mut {d : DO} (ok : StoOk K cA S sto) {n : Nat} (hn : n < S.N) (na : S.Al n) (nz : ∀ o u, S.H (S.r n) ≠ some (.frz o u)) (hd : ORep K cA S d (some o)) (hf : ∀ k, d ≠ .fn k := by intro k z; cases z) : StoOk K cA (S.mut n o) (sto.set n d) where
  len := by simp [ok.len]; rfl
  nf := fun m hm hf => by
    have hf : S.U (S.r m) := hf
    rw [List.getElem?_set_ne (fun e : n = m => na.1 (e ▸ hf))]
    exact ok.nf m hm hf
  inj := ok.inj
  ob := fun m x h => by
    show ORep K cA (S.mut n o) x (upd S.H (S.r n) o (S.r m))
    by_cases e : n = m
    · subst e
      rw [List.getElem?_set_self (by rw [ok.len]; exact hn)] at h
      cases h
      rw [upd_same]
      exact ORep.keep ((Grow.mut ok hn na nz).keeps ok) _ _ hd
    · rw [List.getElem?_set_ne e] at h
      rw [upd_ne (fun z => e (ok.inj n m hn (ok.lt h) z.symm))]
      exact ORep.keep ((Grow.mut ok hn na nz).keeps ok) _ _ (ok.ob m x h)
  fs := fun a h => by
    show upd S.H (S.r n) o a ≠ none
    unfold upd; split
    · simp
    · exact ok.fs a h
  tb := fun q hq => tab_mut ok hn na (ok.tb q hq)
  j := cA.mono _ _ ok.j (Grow.mut ok hn na nz)
  fnk := fun m k h => by
    by_cases e : n = m
    · subst e
      rw [List.getElem?_set_self (by rw [ok.len]; exact hn)] at h
      exact (hf k (Option.some.inj h)).elim
    · rw [List.getElem?_set_ne e] at h
      exact ok.fng (Grow.mut ok hn na nz) h
end

/-! ### reading lists -/
/-- the items of a list: frozen, or of the store -/
def lstOf (sto : Sto) : DV → Option (List DV)
  | .lstG _ ds => some ds
  | .loc n => match sto[n]? with
    | some (.lst ds) => some ds
    | _ => none
  | _ => none
section
variable {K : PySem.W.Frag} {cA : CA} {S S' S1 S2 : Sys} {sto sto' : Sto} {p : Addr} {o : HO}
theorem lstOf.rep {d : DV} {v : V} {ds : List DV} (ok : StoOk K cA S sto) (r : Rep K cA S d v) (h : lstOf sto d = some ds) : ∃ a vs, v = .ref a ∧ S.H a = some (.lst vs) ∧ RepL K cA S ds vs := by
  cases d <;> simp only [lstOf] at h <;> try (cases h; done)
  case lstG g xs =>
    cases h
    obtain ⟨a, vs, e, _, h1, h2⟩ := r
    exact ⟨a, vs, e, h1, h2⟩
  case loc n =>
    split at h
    · rename_i xs e
      cases h
      obtain ⟨hn, ev⟩ := r
      obtain ⟨vs, e1, e2⟩ := ok.ob n _ e
      exact ⟨S.r n, vs, ev, e1, e2⟩
    · cases h
theorem sqL {a : Addr} {vs : List V} {H : Hp} (h : H a = some (.lst vs)) : SqL K H a vs := .inl (.inl h)
theorem sqT {a : Addr} {vs : List V} {H : Hp} (h : H a = some (.tup vs)) : SqT K H a vs := .inl (.inl h)
end
/-- what a list, a frozen list, a tuple holds -/
def seqOf (sto : Sto) : DV → Option (List DV)
  | .tup ds => some ds
  | .scr ns => some (ns.map DV.int)
  | d => lstOf sto d
section
variable {K : PySem.W.Frag} {cA : CA} {S S' S1 S2 : Sys} {sto sto' : Sto} {p : Addr} {o : HO}
theorem RepL.ints : ∀ (ns : List Int), RepL K cA S (ns.map DV.int) (ns.map V.int)
  | [] => rfl
  | n :: ns => ⟨_, _, rfl, rfl, RepL.ints ns⟩
theorem RepL.ints_iff : ∀ {ns : List Int} {vs : List V}, RepL K cA S (ns.map DV.int) vs → vs = ns.map V.int
  | [], vs, h => h
  | n :: ns, vs, ⟨v, r, e, h1, h2⟩ => by
    have h1 : v = .int n := h1
    subst e h1
    rw [RepL.ints_iff h2]; rfl
theorem seqOf.rep {d : DV} {v : V} {ds : List DV} (ok : StoOk K cA S sto) (r : Rep K cA S d v) (h : seqOf sto d = some ds) : ∃ a vs, v = .ref a ∧ (SqL K S.H a vs ∨ SqT K S.H a vs) ∧ RepL K cA S ds vs := by
  cases d
  case tup xs =>
    cases h
    obtain ⟨a, vs, e, h1, h2⟩ := r
    exact ⟨a, vs, e, .inr (sqT h1), h2⟩
  case scr ns =>
    cases h
    obtain ⟨a, e, h1⟩ := r
    exact ⟨a, _, e, .inl h1.sq, RepL.ints ns⟩
  all_goals
    obtain ⟨a, vs, e, h1, h2⟩ := lstOf.rep ok r h
    exact ⟨a, vs, e, .inl (sqL h1), h2⟩
end

/-! ### a value that is told -/
section
variable {X : Cx} {cA : CA} {S : Sys} {σ : L2.St} {env : Env} {sto : Sto} {α β : Type} {Q : VK} {Zf : Nat → Sto → Sys → Prop}
abbrev VQ (K : PySem.W.Frag) (cA : CA) (Q : VK) : DV → Sto → Sys → Prop := fun d _ S' => ∀ v, Rep K cA S' d v → Q v S'.H
theorem ret_same {d : DV} {v : V} (ok : StoOk X.K cA S sto) (h : Post X.K cA S (.ok d sto) (VQ X.K cA Q) Zf) (r : Rep X.K cA S d v) : Q v S.H := h S (Grow.refl ok) ok v r
theorem ret_tup {ds : List DV} {vs : List V} {p : Addr} (ok : StoOk X.K cA S sto) (h : Post X.K cA S (.ok (.tup ds) sto) (VQ X.K cA Q) Zf) (r : RepL X.K cA S ds vs) (np : S.H p = none) : Q (.ref p) (upd S.H p (.tup vs)) :=
  h (S.addT p (.tup vs)) (Grow.addT ok np) (ok.addT np) (.ref p) ⟨p, vs, rfl, upd_same, r.grow ok (Grow.addT ok np)⟩
theorem ret_lstV {ds : List DV} {vs : List V} {p : Addr} (ok : StoOk X.K cA S sto) (h : Post X.K cA S (.ok (.lst ds) sto) (VQ X.K cA Q) Zf) (r : RepL X.K cA S ds vs) (np : S.H p = none) : Q (.ref p) (upd S.H p (.lst vs)) :=
  h (S.addV p (.lst vs)) (Grow.addV ok np) (ok.addV np) (.ref p) ⟨p, vs, rfl, .inr rfl, upd_same, r.grow ok (Grow.addV ok np)⟩
theorem ret_new {d : DO} {o : HO} {p : Addr} (ok : StoOk X.K cA S sto) (h : Post X.K cA S (.ok (.loc sto.length) (sto ++ [d])) (VQ X.K cA Q) Zf) (r : ORep X.K cA S d (some o)) (np : S.H p = none) (hf : ∀ k, d = .fn k → cA.lam k p (upd S.H p o) := by intro k z; cases z) : Q (.ref p) (upd S.H p o) :=
  h (S.addL p o) (Grow.addL ok np) (ok.addL np r hf) (.ref p) ⟨by rw [ok.len]; exact Nat.lt_succ_self _, by
    show V.ref p = .ref (if sto.length = S.N then p else S.r sto.length)
    rw [if_pos ok.len]⟩
end
/-- how a new list is told: frozen (false) or as an object of the store (true) -/
def newL (b : Bool) (ds : List DV) (sto : Sto) : Res DV := if b then .ok (.loc sto.length) (sto ++ [.lst ds]) else .ok (.lst ds) sto
@[simp] theorem newL_f (ds : List DV) (sto : Sto) : newL false ds sto = .ok (.lst ds) sto := rfl
@[simp] theorem newL_t (ds : List DV) (sto : Sto) : newL true ds sto = .ok (.loc sto.length) (sto ++ [.lst ds]) := rfl
section
variable {X : Cx} {cA : CA} {S : Sys} {σ : L2.St} {env : Env} {sto : Sto} {α β : Type} {Q : VK} {Zf : Nat → Sto → Sys → Prop}
theorem ret_lst {b : Bool} {ds : List DV} {vs : List V} {p : Addr} (ok : StoOk X.K cA S sto) (h : Post X.K cA S (newL b ds sto) (VQ X.K cA Q) Zf) (r : RepL X.K cA S ds vs) (np : S.H p = none) : Q (.ref p) (upd S.H p (.lst vs)) := by
  cases b with
  | false => exact ret_lstV ok h r np
  | true => exact ret_new ok h ⟨vs, rfl, r⟩ np
end

/-! ### names, constants -/
def eVar (i : Nat) : EM := fun env sto => match env[i]? with
  | some (some d) => .ok d sto
  | _ => .stuck
def eC (d : DV) : EM := fun _ sto => .ok d sto
section
variable {X : Cx} {cA : CA} {Z : Nat → L2.St → Hp → Prop}
theorem g_of {e : Expr} {i : Nat} (h : PE X e (tVar i)) : GE X cA Z e (eVar i) := .mk fun S σ env sto ok eo Q h' => by
  refine wE.of h ?_
  unfold eVar at h'
  split at h'
  · rename_i d e1
    obtain ⟨v, e2, r⟩ := eo.2 _ _ e1
    exact ⟨v, e2, ret_same ok h' r⟩
  · exact h'.elim
theorem g_var (i : Nat) {x : Str} {pos : Pos} (hN : X.N[i]? = some x := by rfl) (hv : Vis X.env.scope x := by first | exact Or.inl rfl | exact Or.inr (Or.inl rfl) | exact Or.inr (Or.inr rfl)) (hd : (x == ("__debug__" : Str)) = false := by decide)
    (hcd : (x == ("__classdict__" : Str)) = false := by decide) : GE X cA Z (.Name x pos) (eVar i) := g_of (pe_var hN hv hd hcd)
theorem g_c {e : Expr} {v : V} {d : DV} (h : PE X e (tC v)) (hr : ∀ S : Sys, Rep X.K cA S d v) : GE X cA Z e (eC d) := .mk fun S σ env sto ok eo Q h' => wE.of h (ret_same (Q := Q) ok h' (hr S))
theorem g_int {i j pos} : GE X cA Z (.Constant (.int i) j pos) (eC (.int i)) := g_c pe_int fun _ => rfl
theorem g_bl {i j pos} : GE X cA Z (.Constant (.bool i) j pos) (eC (.bl i)) := g_c pe_bl fun _ => rfl
theorem g_non {j pos} : GE X cA Z (.Constant .none j pos) (eC .non) := g_c pe_non fun _ => rfl
theorem g_str {x j pos} : GE X cA Z (.Constant (.str x) j pos) (eC (.str x)) := g_c pe_str fun _ => rfl
theorem g_gint {x : Str} {i : Int} {pos : Pos} (hm : ∃ t, X.mg x = some (.int i t)) (hg : Gl X x := by rfl) (hd : (x == ("__debug__" : Str)) = false := by decide) : GE X cA Z (.Name x pos) (eC (.int i)) := by
  obtain ⟨t, hm⟩ := hm
  exact g_c (pe_glob (v := .int i) hg hm ⟨t, rfl⟩ hd) fun _ => rfl
end

/-! ### operators by values -/
def eOp (f : DV → DV → Sto → Res DV) (a b : EM) : EM := fun env sto => (a env sto).bind fun x s1 => (b env s1).bind fun y s2 => f x y s2
def OpS (X : Cx) (cA : CA) (op : Value → Value → Sem Value) (f : DV → DV → Sto → Res DV) : Prop :=
  ∀ S sto x y vx vy (Q : VK), StoOk X.K cA S sto → Rep X.K cA S x vx → Rep X.K cA S y vy → Post X.K cA S (f x y sto) (VQ X.K cA Q) (fun _ _ _ => False) →
    ∀ (pins : List (Addr × Obj)) (s : Shared) (σ : L2.St) (v u : Value), Inv X pins σ S.H s → RelV vx v → RelV vy u → wpAny (model X.prog X.w) X.A (op v u) (EP X pins σ Q) X.xe s
def wOp (X : Cx) (op : Value → Value → Sem Value) : R2 := fun x y H Q => ∀ (pins : List (Addr × Obj)) (s : Shared) (σ : L2.St) (v u : Value), Inv X pins σ H s → RelV x v → RelV y u → wpAny (model X.prog X.w) X.A (op v u) (EP X pins σ Q) X.xe s
theorem opW (X : Cx) (op : Value → Value → Sem Value) : OpR X op (wOp X op) := fun pins s σ H x y v u Q I rx ry h => h pins s σ v u I rx ry
/-- no run of an operator raises -/
def Res.noexc {α : Type} : Res α → Prop
  | .exc _ _ => False
  | _ => True
theorem Post.noZ {K : PySem.W.Frag} {cA : CA} {S : Sys} {α : Type} {r : Res α} {Q : α → Sto → Sys → Prop} {Z Z' : Nat → Sto → Sys → Prop} (h : Post K cA S r Q Z) (n : r.noexc) : Post K cA S r Q Z' := by
  cases r with
  | ok a s => exact h
  | exc c s => exact n.elim
  | stuck => exact h
section
variable {X : Cx} {cA : CA} {Z : Nat → L2.St → Hp → Prop} {f : DV → DV → Sto → Res DV}
theorem OpS.use {op : Value → Value → Sem Value} (h : OpS X cA op f) (hn : ∀ x y s, (f x y s).noexc) {S : Sys} {sto : Sto} {x y : DV} {vx vy : V} {Q : VK} {Zf : Nat → Sto → Sys → Prop} (ok : StoOk X.K cA S sto) (rx : Rep X.K cA S x vx) (ry : Rep X.K cA S y vy) (p : Post X.K cA S (f x y sto) (VQ X.K cA Q) Zf) : wOp X op vx vy S.H Q :=
  fun pins s σ v u I r1 r2 => h S sto x y vx vy Q ok rx ry (p.noZ (hn x y sto)) pins s σ v u I r1 r2
theorem g_bin {a b : Expr} {op : Operator} {pos : Pos} {ma mb : EM} (ho : OpS X cA (binaryOp op) f) (hn : ∀ x y s, (f x y s).noexc) (ha : GE X cA Z a ma) (hb : GE X cA Z b mb) : GE X cA Z (.BinOp a op b pos) (eOp f ma mb) := .mk fun S σ env sto ok eo Q h => by
  refine wE.of (pe_op (opW X _) (peW a) (peW b)) ?_
  refine ha.then ok eo h fun x s1 S1 vx g1 ok1 eo1 rx h1 => ?_
  refine hb.then ok1 eo1 h1 fun y s2 S2 vy g2 ok2 eo2 ry h2 => ?_
  exact ho.use hn ok2 (rx.grow ok1 g2) ry h2
theorem g_cmp {a b : Expr} {op : CmpOp} {pos : Pos} {ma mb : EM} (ho : OpS X cA (compareOp op) f) (hn : ∀ x y s, (f x y s).noexc) (ha : GE X cA Z a ma) (hb : GE X cA Z b mb) (hm : behindInMarks op b = false := by first | exact nomark _ | rfl) : GE X cA Z (.Compare a [op] [b] pos) (eOp f ma mb) := .mk fun S σ env sto ok eo Q h => by
  refine wE.of (pe_cmpR (opW X _) (peW a) (peW b) hm) ?_
  refine ha.then ok eo h fun x s1 S1 vx g1 ok1 eo1 rx h1 => ?_
  refine hb.then ok1 eo1 h1 fun y s2 S2 vy g2 ok2 eo2 ry h2 => ?_
  exact ho.use hn ok2 (rx.grow ok1 g2) ry h2
/-- a test of a bool -/
def tBl (m : EM) : TM := fun env sto => (m env sto).bind fun d s => match d with
  | .bl b => .ok b s
  | _ => .stuck
theorem bl_test {S : Sys} {sto : Sto} {d : DV} {v : V} {Q : Bool → Sto → Sys → Prop} {Zf : Nat → Sto → Sys → Prop} (ok : StoOk X.K cA S sto) (r : Rep X.K cA S d v) (h : Post X.K cA S (match d with | .bl b => Res.ok b sto | _ => .stuck) Q Zf) : ∃ c, v = .bl c ∧ Q c sto S := by
  cases d <;> first | exact h.elim | skip
  exact ⟨_, r, h S (Grow.refl ok) ok⟩
theorem gt_cmp {a b : Expr} {op : CmpOp} {pos : Pos} {ma mb : EM} (ho : OpS X cA (compareOp op) f) (hn : ∀ x y s, (f x y s).noexc) (ha : GE X cA Z a ma) (hb : GE X cA Z b mb) (hm : behindInMarks op b = false := by first | exact nomark _ | rfl) : GT X cA Z (.Compare a [op] [b] pos) (tBl (eOp f ma mb)) := .mk fun S σ env sto ok eo Q h => by
  refine wT.of (pt_cmpR (opW X _) (peW a) (peW b) hm) ?_
  unfold tBl eOp at h
  simp only [Res.bind_assoc] at h
  refine ha.then ok eo h fun x s1 S1 vx g1 ok1 eo1 rx h1 => ?_
  refine hb.then ok1 eo1 h1 fun y s2 S2 vy g2 ok2 eo2 ry h2 => ?_
  refine ho.use hn (Zf := fun c _ S' => Z c σ S'.H) ok2 (rx.grow ok1 g2) ry ((Post.bind h2).imp (fun d s3 S3 g3 ok3 p v r => ?_) fun _ _ _ _ _ z => z)
  obtain ⟨c, e, q⟩ := bl_test (X := X) ok3 r p
  exact ⟨c, e, q⟩
/-- a < b < c -/
def eChain (f g : DV → DV → Sto → Res DV) (a b c : EM) : EM := fun env sto => (a env sto).bind fun x s1 => (b env s1).bind fun y s2 => (f x y s2).bind fun z s3 => match z with
  | .bl true => (c env s3).bind fun w s4 => g y w s4
  | .bl false => .ok (.bl false) s3
  | _ => .stuck
variable {g : DV → DV → Sto → Res DV}
theorem chain_core {a b c : Expr} {op op' : CmpOp} {pos : Pos} {ma mb mc : EM} (ho : OpS X cA (compareOp op) f) (hn : ∀ x y s, (f x y s).noexc) (ho' : OpS X cA (compareOp op') g) (hn' : ∀ x y s, (g x y s).noexc) (ha : GE X cA Z a ma) (hb : GE X cA Z b mb) (hc : GE X cA Z c mc)
    {S : Sys} {σ : L2.St} {env : Env} {sto : Sto} (ok : StoOk X.K cA S sto) (eo : EnvOk X.K cA S env σ) {Q : VK} (h : Post X.K cA S (eChain f g ma mb mc env sto) (VQ X.K cA Q) (fun c _ S' => Z c σ S'.H)) :
    tChain (wOp X (compareOp op)) (wOp X (compareOp op')) (wE X a) (wE X b) (wE X c) σ S.H Q := by
  refine ha.then ok eo h fun x s1 S1 vx g1 ok1 eo1 rx h1 => ?_
  refine hb.then ok1 eo1 h1 fun y s2 S2 vy g2 ok2 eo2 ry h2 => ?_
  refine ho.use hn (Zf := fun c _ S' => Z c σ S'.H) ok2 (rx.grow ok1 g2) ry ((Post.bind h2).imp (fun d s3 S3 g3 ok3 p v r => ?_) fun _ _ _ _ _ z => z)
  cases d <;> first | exact p.elim | skip
  rename_i k
  have r : v = .bl k := r
  subst r
  refine ⟨k, rfl, ?_⟩
  cases k with
  | true =>
    refine iteT (hc.then ok3 (eo2.grow ok2 g3) p fun w s4 S4 vw g4 ok4 eo4 rw' h4 => ?_)
    exact ho'.use hn' ok4 ((ry.grow ok2 g3).grow ok3 g4) rw' h4
  | false => exact iteF (ret_same ok3 p rfl)
theorem g_chain {a b c : Expr} {op op' : CmpOp} {pos : Pos} {ma mb mc : EM} (ho : OpS X cA (compareOp op) f) (hn : ∀ x y s, (f x y s).noexc) (ho' : OpS X cA (compareOp op') g) (hn' : ∀ x y s, (g x y s).noexc) (ha : GE X cA Z a ma) (hb : GE X cA Z b mb) (hc : GE X cA Z c mc)
    (hm : lastMarks [op, op'] [b, c] = false := by with_unfolding_all rfl) : GE X cA Z (.Compare a [op, op'] [b, c] pos) (eChain f g ma mb mc) := .mk fun S σ env sto ok eo Q h =>
  wE.of (pe_chain (opW X _) (opW X _) (peW a) (peW b) (peW c) hm) (chain_core (pos := pos) ho hn ho' hn' ha hb hc ok eo h)
theorem gt_chain {a b c : Expr} {op op' : CmpOp} {pos : Pos} {ma mb mc : EM} (ho : OpS X cA (compareOp op) f) (hn : ∀ x y s, (f x y s).noexc) (ho' : OpS X cA (compareOp op') g) (hn' : ∀ x y s, (g x y s).noexc) (ha : GE X cA Z a ma) (hb : GE X cA Z b mb) (hc : GE X cA Z c mc)
    (hm : lastMarks [op, op'] [b, c] = false := by with_unfolding_all rfl) : GT X cA Z (.Compare a [op, op'] [b, c] pos) (tBl (eChain f g ma mb mc)) := .mk fun S σ env sto ok eo Q h => by
  refine wT.of (pt_chain (opW X _) (opW X _) (peW a) (peW b) (peW c) hm) ?_
  refine chain_core (Q := fun v H' => ∃ k, v = .bl k ∧ Q k H') (pos := pos) ho hn ho' hn' ha hb hc ok eo ((Post.bind h).imp (fun d s3 S3 g3 ok3 p v r => ?_) fun _ _ _ _ _ z => z)
  obtain ⟨c, e, q⟩ := bl_test (X := X) ok3 r p
  exact ⟨c, e, q⟩
end
end BB
namespace BB
open PySem PySem.Spec PyProof.Rows L2

/-! ### and, or, not, if as values and as tests -/
def eAnd (a b : EM) : EM := fun env sto => (a env sto).bind fun x s => match x with
  | .bl true => b env s
  | .bl false => .ok (.bl false) s
  | _ => .stuck
def eOr (a b : EM) : EM := fun env sto => (a env sto).bind fun x s => match x with
  | .bl true => .ok (.bl true) s
  | .bl false => b env s
  | _ => .stuck
def eNot (a : EM) : EM := fun env sto => (a env sto).bind fun x s => match x with
  | .bl c => .ok (.bl (!c)) s
  | _ => .stuck
def eIf (t : TM) (a b : EM) : EM := fun env sto => (t env sto).bind fun c s => if c = true then a env s else b env s
def tAnd (a b : TM) : TM := fun env sto => (a env sto).bind fun c s => if c = true then b env s else .ok false s
def tOr (a b : TM) : TM := fun env sto => (a env sto).bind fun c s => if c = true then .ok true s else b env s
def tNot (a : TM) : TM := fun env sto => (a env sto).bind fun c s => .ok (!c) s
section
variable {X : Cx} {cA : CA} {Z : Nat → L2.St → Hp → Prop} {pos : Pos} {a b c : Expr} {ma mb mc : EM} {rest : List Expr} {ta tb tc : TM}
theorem g_one {op} (h : GE X cA Z a ma) : GE X cA Z (.BoolOp op [a] pos) ma := .mk fun S σ env sto ok eo Q p => wE.of (pe_one (peW a)) (h.run S σ env sto ok eo Q p)
theorem g_and (ha : GE X cA Z a ma) (hb : GE X cA Z (.BoolOp .And (b :: rest) pos) mb) : GE X cA Z (.BoolOp .And (a :: b :: rest) pos) (eAnd ma mb) := .mk fun S σ env sto ok eo Q p => by
  refine wE.of (pe_and (peW a) (peW _)) (ha.then ok eo p fun x s1 S1 vx g1 ok1 eo1 rx h1 => ?_)
  cases x <;> first | exact h1.elim | skip
  rename_i k
  refine ⟨k, rx, ?_⟩
  cases k with
  | true => exact iteT (hb.run S1 σ env s1 ok1 eo1 Q h1)
  | false => exact iteF (ret_same ok1 h1 rfl)
theorem g_or (ha : GE X cA Z a ma) (hb : GE X cA Z (.BoolOp .Or (b :: rest) pos) mb) : GE X cA Z (.BoolOp .Or (a :: b :: rest) pos) (eOr ma mb) := .mk fun S σ env sto ok eo Q p => by
  refine wE.of (pe_or (peW a) (peW _)) (ha.then ok eo p fun x s1 S1 vx g1 ok1 eo1 rx h1 => ?_)
  cases x <;> first | exact h1.elim | skip
  rename_i k
  refine ⟨k, rx, ?_⟩
  cases k with
  | true => exact iteT (ret_same ok1 h1 rfl)
  | false => exact iteF (hb.run S1 σ env s1 ok1 eo1 Q h1)
theorem g_not (ha : GE X cA Z a ma) : GE X cA Z (.UnaryOp .Not a pos) (eNot ma) := .mk fun S σ env sto ok eo Q p => by
  refine wE.of (pe_not (peW a)) (ha.then ok eo p fun x s1 S1 vx g1 ok1 eo1 rx h1 => ?_)
  cases x <;> first | exact h1.elim | skip
  exact ⟨_, rx, ret_same ok1 h1 rfl⟩
theorem g_if (hc : GT X cA Z c tc) (ha : GE X cA Z a ma) (hb : GE X cA Z b mb) : GE X cA Z (.IfExp c a b pos) (eIf tc ma mb) := .mk fun S σ env sto ok eo Q p => by
  refine wE.of (pe_ifExp (ptW c) (peW a) (peW b)) (hc.then ok eo p fun k s1 S1 g1 ok1 eo1 h1 => ?_)
  cases k with
  | true => exact iteT (ha.run S1 σ env s1 ok1 eo1 Q h1)
  | false => exact iteF (hb.run S1 σ env s1 ok1 eo1 Q h1)
/-- a test that is an expression of a bool -/
theorem gt_val (ha : GE X cA Z a ma) (he : ∀ whole, isTrue a X.env whole = (do let v ← whole; standAt a.pos; holding [v] (truthy v)) := by exact fun _ => tr_plain rfl) : GT X cA Z a (tBl ma) := .mk fun S σ env sto ok eo Q p => by
  refine wT.of (pt_val (peW a) he) (ha.then ok eo p fun x s1 S1 vx g1 ok1 eo1 rx h1 => ?_)
  obtain ⟨c, e, q⟩ := bl_test (X := X) ok1 rx h1
  exact ⟨c, e, q⟩
theorem gt_not (ha : GT X cA Z a ta) : GT X cA Z (.UnaryOp .Not a pos) (tNot ta) := .mk fun S σ env sto ok eo Q p => by
  refine wT.of (pt_not (ptW a)) (ha.then ok eo p fun x s1 S1 g1 ok1 eo1 h1 => ?_)
  exact h1 S1 (Grow.refl ok1) ok1
def wW (X : Cx) (e : Expr) : TT := fun σ H Q => ∀ (whole : Sem Value) pins s, Inv X pins σ H s → wpAny (model X.prog X.w) X.A (isTrue e X.env whole) (TP X pins σ Q) X.xe s
theorem pwW (e : Expr) : PW X e (wW X e) := ⟨fun whole pins s σ H Q I h => h whole pins s I⟩
structure GW (X : Cx) (cA : CA) (Z : Nat → L2.St → Hp → Prop) (e : Expr) (m : TM) : Prop where
  run : ∀ S σ env sto, StoOk X.K cA S sto → EnvOk X.K cA S env σ → ∀ Q : Bool → Hp → Prop, Post X.K cA S (m env sto) (fun d _ S' => Q d S'.H) (fun c _ S' => Z c σ S'.H) → wW X e σ S.H Q
theorem GW.gt (h : GW X cA Z a ta) : GT X cA Z a ta := .mk fun S σ env sto ok eo Q p => wT.of (pwW a).pt (h.run S σ env sto ok eo Q p)
theorem gw_and1 (ha : GT X cA Z a ta) : GW X cA Z (.BoolOp .And [a] pos) ta := .mk fun S σ env sto ok eo Q p wh pins s I => (pw_and1 (ptW a)).run wh pins s σ S.H Q I (ha.run S σ env sto ok eo Q p)
theorem gw_or1 (ha : GT X cA Z a ta) : GW X cA Z (.BoolOp .Or [a] pos) ta := .mk fun S σ env sto ok eo Q p wh pins s I => (pw_or1 (ptW a)).run wh pins s σ S.H Q I (ha.run S σ env sto ok eo Q p)
theorem gw_and (ha : GT X cA Z a ta) (hb : GW X cA Z (.BoolOp .And (b :: rest) pos) tb) : GW X cA Z (.BoolOp .And (a :: b :: rest) pos) (tAnd ta tb) := .mk fun S σ env sto ok eo Q p wh pins s I => by
  refine (pw_and (ptW a) (pwW _)).run wh pins s σ S.H Q I (ha.then ok eo p fun x s1 S1 g1 ok1 eo1 h1 => ?_)
  cases x with
  | true => exact iteT (hb.run S1 σ env s1 ok1 eo1 Q h1)
  | false => exact iteF (h1 S1 (Grow.refl ok1) ok1)
theorem gw_or (ha : GT X cA Z a ta) (hb : GW X cA Z (.BoolOp .Or (b :: rest) pos) tb) : GW X cA Z (.BoolOp .Or (a :: b :: rest) pos) (tOr ta tb) := .mk fun S σ env sto ok eo Q p wh pins s I => by
  refine (pw_or (ptW a) (pwW _)).run wh pins s σ S.H Q I (ha.then ok eo p fun x s1 S1 g1 ok1 eo1 h1 => ?_)
  cases x with
  | true => exact iteT (h1 S1 (Grow.refl ok1) ok1)
  | false => exact iteF (hb.run S1 σ env s1 ok1 eo1 Q h1)
end

/-! ### argument lists, displays -/
def aNil : AM := fun _ sto => .ok [] sto
def aCons (a : EM) (r : AM) : AM := fun env sto => (a env sto).bind fun x s1 => (r env s1).bind fun xs s2 => .ok (x :: xs) s2
def eTup (t : AM) : EM := fun env sto => (t env sto).bind fun ds s => if ds.length ≤ 1000000 then .ok (.tup ds) s else .stuck
def eLst (b : Bool) (t : AM) : EM := fun env sto => (t env sto).bind fun ds s => if ds.length ≤ 1000000 then newL b ds s else .stuck
theorem lim {n : Nat} (h : n ≤ 1000000) : n ≤ sizeLine := Nat.le_trans h (by decide)
theorem limlt {n : Nat} (h : n < 1000000) : n < sizeLine := Nat.lt_of_lt_of_le h (by decide)
section
variable {X : Cx} {cA : CA} {Z : Nat → L2.St → Hp → Prop} {pos : Pos} {e : Expr} {es : List Expr} {me : EM} {t : AM}
theorem ga_nil : GA X cA Z [] aNil := .mk fun S σ env sto ok eo Q p => wA.of pa_nil (p S (Grow.refl ok) ok [] rfl)
theorem ga_cons (ha : GE X cA Z e me) (hr : GA X cA Z es t) (hs : starEach (e :: es) X.env = (false, eval e X.env) :: starEach es X.env := by exact star_plain rfl) : GA X cA Z (e :: es) (aCons me t) := .mk fun S σ env sto ok eo Q p => by
  refine wA.of (pa_cons (peW e) (paW es) hs) (ha.then ok eo p fun x s1 S1 vx g1 ok1 eo1 rx h1 => ?_)
  refine hr.then ok1 eo1 h1 fun xs s2 S2 vs g2 ok2 eo2 rs h2 => ?_
  exact h2 S2 (Grow.refl ok2) ok2 _ ⟨vx, vs, rfl, rx.grow ok1 g2, rs⟩
theorem g_tup {x1} (h : GA X cA Z es t) : GE X cA Z (.Tuple es x1 pos) (eTup t) := .mk fun S σ env sto ok eo Q p => by
  refine wE.of (pe_tup (paW es)) (h.then ok eo p fun xs s1 S1 vs g1 ok1 eo1 rs h1 => ?_)
  split at h1
  · rename_i hl
    exact ⟨by rw [← rs.length]; exact lim hl, fun q hq => ret_tup ok1 h1 rs hq⟩
  · exact h1.elim
theorem g_lst (b : Bool) (h : GA X cA Z es t) : GE X cA Z (.List es pos) (eLst b t) := .mk fun S σ env sto ok eo Q p => by
  refine wE.of (pe_lst (paW es)) (h.then ok eo p fun xs s1 S1 vs g1 ok1 eo1 rs h1 => ?_)
  split at h1
  · rename_i hl
    exact ⟨by rw [← rs.length]; exact lim hl, fun q hq => ret_lst ok1 h1 rs hq⟩
  · exact h1.elim
/-- {} : tuple keys, int keys -/
def eDicT : EM := fun _ sto => .ok (.loc sto.length) (sto ++ [.dT [] []])
def eDicK : EM := fun _ sto => .ok (.loc sto.length) (sto ++ [.dK [] []])
theorem g_dicT : GE X cA Z (.Dict [] [] pos) eDicT := .mk fun S σ env sto ok eo Q p => wE.of pe_dnewT fun q hq => ret_new ok p ⟨[], rfl, rfl, rfl, List.nodup_nil⟩ hq
theorem g_dicK : GE X cA Z (.Dict [] [] pos) eDicK := .mk fun S σ env sto ok eo Q p => wE.of pe_dnewK fun q hq => ret_new ok p ⟨[], rfl, rfl, rfl, List.nodup_nil⟩ hq
end

/-! ### keys and dicts -/
def keyOf : DV → Option Key
  | .int i => some (.inl i)
  | .str x => some (.inr x)
  | _ => none
def keysOf : List DV → Option (List Key)
  | [] => some []
  | d :: ds => match keyOf d, keysOf ds with
    | some k, some ks => some (k :: ks)
    | _, _ => none
def tkeyOf : DV → Option (List Key)
  | .tup ds => keysOf ds
  | _ => none
def lookK {κ : Type} [DecidableEq κ] : List κ → List DV → κ → Option DV
  | k :: ks, d :: ds, x => if k = x then some d else lookK ks ds x
  | _, _, _ => none
def putKs {κ : Type} [DecidableEq κ] (ks : List κ) (k : κ) : List κ := if k ∈ ks then ks else ks ++ [k]
def putDs {κ : Type} [DecidableEq κ] : List κ → List DV → κ → DV → List DV
  | k :: ks, d :: ds, x, v => if k = x then v :: ds else d :: putDs ks ds x v
  | _, ds, _, v => ds ++ [v]
section
variable {K : PySem.W.Frag} {cA : CA} {S : Sys} {sto : Sto}
theorem keyOf.rep {d : DV} {v : V} {k : Key} (r : Rep K cA S d v) (h : keyOf d = some k) : v = kV k := by
  cases d <;> simp only [keyOf] at h <;> try (cases h; done)
  · cases h; exact r
  · cases h; exact r
theorem keysOf.rep : ∀ {ds : List DV} {vs : List V} {ks : List Key}, RepL K cA S ds vs → keysOf ds = some ks → vs = ks.map kV
  | [], _, _, r, h => by cases h; cases r; rfl
  | d :: ds, _, _, ⟨v, r, e, h1, h2⟩, h => by
    unfold keysOf at h
    split at h
    · rename_i k ks' e1 e2
      cases h
      subst e
      rw [keyOf.rep h1 e1, keysOf.rep h2 e2]; rfl
    · cases h
theorem tkeyOf.rep {d : DV} {v : V} {ks : List Key} (r : Rep K cA S d v) (h : tkeyOf d = some ks) : ∃ b, v = .ref b ∧ S.H b = some (.tup (ks.map kV)) := by
  cases d <;> simp only [tkeyOf] at h <;> try (cases h; done)
  obtain ⟨a, vs, e, h1, h2⟩ := r
  exact ⟨a, e, by rw [h1, keysOf.rep h2 h]⟩
theorem lookK.rep {κ : Type} [DecidableEq κ] {k : κ} {d : DV} : ∀ {kvs : List (κ × V)} {ks : List κ} {ds : List DV}, kvs.map (·.1) = ks → RepL K cA S ds (kvs.map (·.2)) → lookK ks ds k = some d → ∃ v, valV kvs k = some v ∧ Rep K cA S d v
  | [], _, _, e, r, h => by subst e; unfold lookK at h; simp at h
  | (k', v') :: kvs, _, [], e, r, h => by cases r
  | (k', v') :: kvs, _, x :: ds, e, ⟨v, r, e1, h1, h2⟩, h => by
    subst e
    simp only [List.map_cons, List.cons.injEq] at e1
    obtain ⟨rfl, rfl⟩ := e1
    simp only [List.map_cons, lookK] at h
    by_cases hk : k' = k
    · rw [if_pos hk] at h
      cases h
      refine ⟨v', ?_, h1⟩
      simp [valV, List.find?, hk]
    · rw [if_neg hk] at h
      obtain ⟨v, q1, q2⟩ := lookK.rep rfl h2 h
      refine ⟨v, ?_, q2⟩
      simp only [valV, List.find?, hk, decide_false] at q1 ⊢
      exact q1
theorem lookK.no {κ : Type} [DecidableEq κ] {k : κ} : ∀ {kvs : List (κ × V)} {ks : List κ} {ds : List DV}, kvs.map (·.1) = ks → RepL K cA S ds (kvs.map (·.2)) → lookK ks ds k = none → valV kvs k = none
  | [], _, _, e, r, h => by simp [valV]
  | (k', v') :: kvs, _, [], e, r, h => by cases r
  | (k', v') :: kvs, _, x :: ds, e, ⟨v, r, e1, h1, h2⟩, h => by
    subst e
    simp only [List.map_cons, List.cons.injEq] at e1
    obtain ⟨rfl, rfl⟩ := e1
    simp only [List.map_cons, lookK] at h
    by_cases hk : k' = k
    · rw [if_pos hk] at h; cases h
    · rw [if_neg hk] at h
      have q1 := lookK.no rfl h2 h
      simp only [valV, List.find?, hk, decide_false] at q1 ⊢
      exact q1
theorem putK_keys {κ : Type} [DecidableEq κ] (kvs : List (κ × V)) (k : κ) (v : V) : (putK kvs k v).map (·.1) = putKs (kvs.map (·.1)) k := by
  unfold putK putKs
  by_cases h : (kvs.any fun kv => decide (kv.1 = k)) = true
  · rw [if_pos h]
    have hm : k ∈ kvs.map (·.1) := by
      simp only [List.any_eq_true, decide_eq_true_eq] at h
      obtain ⟨x, hx, e⟩ := h
      exact List.mem_map.mpr ⟨x, hx, e⟩
    rw [if_pos hm, List.map_map]
    apply List.map_congr_left
    intro x _
    simp only [Function.comp]
    split <;> rfl
  · rw [if_neg h]
    have hm : ¬ k ∈ kvs.map (·.1) := fun z => by
      obtain ⟨x, hx, e⟩ := List.mem_map.mp z
      exact h (by simp only [List.any_eq_true, decide_eq_true_eq]; exact ⟨x, hx, e⟩)
    rw [if_neg hm]; simp
theorem putK_cons {κ : Type} [DecidableEq κ] (kvs : List (κ × V)) (k k' : κ) (v v' : V) (nd : k' = k → ¬ k ∈ kvs.map (·.1)) : putK ((k', v') :: kvs) k v = if k' = k then (k, v) :: kvs else (k', v') :: putK kvs k v := by
  unfold putK
  by_cases hk : k' = k
  · subst hk
    simp only [List.any_cons, decide_true, Bool.true_or, if_true, List.map_cons]
    congr 1
    have := nd rfl
    rw [List.map_congr_left (g := id)]
    · simp
    · intro x hx
      rw [if_neg]
      · rfl
      · intro e
        exact this (List.mem_map.mpr ⟨x, hx, e⟩)
  · simp only [List.any_cons, hk, decide_false, Bool.false_or, if_false, List.map_cons]
    split <;> rfl
theorem putDs.rep {κ : Type} [DecidableEq κ] {k : κ} {d : DV} {v : V} (hd : Rep K cA S d v) : ∀ {kvs : List (κ × V)} {ks : List κ} {ds : List DV}, ks.Nodup → kvs.map (·.1) = ks → RepL K cA S ds (kvs.map (·.2)) → RepL K cA S (putDs ks ds k d) ((putK kvs k v).map (·.2))
  | [], _, ds, _, e, r => by
    subst e
    cases ds with
    | nil => exact ⟨v, [], rfl, hd, rfl⟩
    | cons => obtain ⟨_, _, z, _⟩ := r; cases z
  | (k', v') :: kvs, _, [], _, e, r => by cases r
  | (k', v') :: kvs, _, x :: ds, nd, e, ⟨w, r, e1, h1, h2⟩ => by
    subst e
    simp only [List.map_cons, List.cons.injEq] at e1
    obtain ⟨rfl, rfl⟩ := e1
    simp only [List.map_cons] at nd
    obtain ⟨n1, n2⟩ := List.nodup_cons.mp nd
    rw [putK_cons kvs k k' v v' (fun e => e ▸ n1)]
    simp only [List.map_cons, putDs]
    by_cases hk : k' = k
    · rw [if_pos hk, if_pos hk]
      exact ⟨v, _, rfl, hd, h2⟩
    · rw [if_neg hk, if_neg hk]
      exact ⟨v', _, rfl, h1, putDs.rep hd n2 rfl h2⟩
theorem putKs.nodup {κ : Type} [DecidableEq κ] {ks : List κ} (h : ks.Nodup) (k : κ) : (putKs ks k).Nodup := by
  unfold putKs
  split
  · exact h
  · rename_i hk
    rw [List.nodup_append]
    exact ⟨h, by simp, fun a ha b hb e => hk (by simp at hb; rw [← hb, ← e]; exact ha)⟩
end
end BB
namespace BB
open PySem PySem.Spec PyProof.Rows L2

/-! ### arithmetic -/
def oAdd (b : Bool) (x y : DV) (sto : Sto) : Res DV := match x, y with
  | .int i, .int j => .ok (.int (i + j)) sto
  | .tup xs, .tup ys => if xs.length + ys.length ≤ 1000000 then .ok (.tup (xs ++ ys)) sto else .stuck
  | x, y => match lstOf sto x, lstOf sto y with
    | some xs, some ys => if xs.length + ys.length ≤ 1000000 then newL b (xs ++ ys) sto else .stuck
    | _, _ => .stuck
def oSub (x y : DV) (sto : Sto) : Res DV := match x, y with
  | .int i, .int j => .ok (.int (i - j)) sto
  | _, _ => .stuck
def oMul (b : Bool) (x y : DV) (sto : Sto) : Res DV := match x, y with
  | .int i, .int j => if i.natAbs < 2 ^ 250 ∧ j.natAbs < 2 ^ 250 then .ok (.int (i * j)) sto else .stuck
  | x, .int k => match lstOf sto x with
    | some xs => if 0 ≤ k ∧ k ≤ 1000 ∧ xs.length ≤ 1000 then newL b (List.replicate k.toNat xs).flatten sto else .stuck
    | none => .stuck
  | _, _ => .stuck
def oDiv (x y : DV) (sto : Sto) : Res DV := match x, y with
  | .int i, .int j => if 0 < j ∧ j < 2 ^ 250 then .ok (.int (i / j)) sto else .stuck
  | _, _ => .stuck
def oMod (x y : DV) (sto : Sto) : Res DV := match x, y with
  | .int i, .int j => if 0 < j then .ok (.int (i % j)) sto else .stuck
  | _, _ => .stuck
def oPow (x y : DV) (sto : Sto) : Res DV := match x, y with
  | .int i, .int j => if 0 ≤ j ∧ j ≤ 1000 ∧ i.natAbs < 1000 then .ok (.int (i ^ j.toNat)) sto else .stuck
  | _, _ => .stuck
def oLt (x y : DV) (sto : Sto) : Res DV := match x, y with
  | .int i, .int j => .ok (.bl (decide (i < j))) sto
  | _, _ => .stuck
def oLe (x y : DV) (sto : Sto) : Res DV := match x, y with
  | .int i, .int j => .ok (.bl (decide (i ≤ j))) sto
  | _, _ => .stuck
def oGt (x y : DV) (sto : Sto) : Res DV := match x, y with
  | .int i, .int j => .ok (.bl (decide (j < i))) sto
  | _, _ => .stuck
theorem log2_lt {n k : Nat} (h : n < 2 ^ k) (hk : 0 < k) : n.log2 < k := by
  by_cases h0 : n = 0
  · subst h0; simpa using hk
  · exact (Nat.log2_lt h0).mpr h
section
variable {X : Cx} {cA : CA}
theorem op_ii {op : Value → Value → Sem Value} {r : Int → Int → V} {f : DV → DV → Sto → Res DV} {g : Int → Int → DV} {C : Int → Int → Prop} (ho : OpR X op (rI C r)) (hf : ∀ i j sto, C i j → f (.int i) (.int j) sto = .ok (g i j) sto) (hn : ∀ i j sto, ¬ C i j → f (.int i) (.int j) sto = .stuck) (hg : ∀ i j S, Rep X.K cA S (g i j) (r i j))
    (hs : ∀ x y sto, f x y sto = .stuck ∨ (∃ i j, x = .int i ∧ y = .int j)) : OpS X cA op f := fun S sto x y vx vy Q ok rx ry p pins s σ v u I r1 r2 => by
  rcases hs x y sto with e | ⟨i, j, rfl, rfl⟩
  · rw [e] at p; exact p.elim
  · have rx : vx = .int i := rx
    have ry : vy = .int j := ry
    subst rx ry
    by_cases hc : C i j
    · rw [hf i j sto hc] at p
      exact ho pins s σ S.H _ _ v u Q I r1 r2 ⟨i, j, rfl, rfl, hc, ret_same ok p (hg i j S)⟩
    · rw [hn i j sto hc] at p; exact p.elim
theorem op_ii0 {op : Value → Value → Sem Value} {r : Int → Int → V} {f : DV → DV → Sto → Res DV} {g : Int → Int → DV} (ho : OpR X op (rI0 r)) (hf : ∀ i j sto, f (.int i) (.int j) sto = .ok (g i j) sto) (hg : ∀ i j S, Rep X.K cA S (g i j) (r i j))
    (hs : ∀ x y sto, f x y sto = .stuck ∨ (∃ i j, x = .int i ∧ y = .int j)) : OpS X cA op f := fun S sto x y vx vy Q ok rx ry p pins s σ v u I r1 r2 => by
  rcases hs x y sto with e | ⟨i, j, rfl, rfl⟩
  · rw [e] at p; exact p.elim
  · have rx : vx = .int i := rx
    have ry : vy = .int j := ry
    subst rx ry
    rw [hf i j sto] at p
    exact ho pins s σ S.H _ _ v u Q I r1 r2 ⟨i, j, rfl, rfl, ret_same ok p (hg i j S)⟩
theorem ss {f : DV → DV → Sto → Res DV} (h : ∀ x y sto, (∀ i j, ¬ (x = .int i ∧ y = .int j)) → f x y sto = .stuck) : ∀ x y sto, f x y sto = .stuck ∨ (∃ i j, x = .int i ∧ y = .int j) := fun x y sto => by
  by_cases q : ∃ i j, x = .int i ∧ y = .int j
  · exact .inr q
  · exact .inl (h x y sto fun i j z => q ⟨i, j, z⟩)
theorem s_sub : OpS X cA (binaryOp .Sub) oSub := op_ii0 op_sub (fun _ _ _ => rfl) (fun _ _ _ => rfl) (ss fun x y sto h => by cases x <;> first | rfl | (cases y <;> first | rfl | exact absurd ⟨rfl, rfl⟩ (h _ _)))
theorem s_lt : OpS X cA (compareOp .Lt) oLt := op_ii0 op_lt (fun _ _ _ => rfl) (fun _ _ _ => rfl) (ss fun x y sto h => by cases x <;> first | rfl | (cases y <;> first | rfl | exact absurd ⟨rfl, rfl⟩ (h _ _)))
theorem s_le : OpS X cA (compareOp .LtE) oLe := op_ii0 op_le (fun _ _ _ => rfl) (fun _ _ _ => rfl) (ss fun x y sto h => by cases x <;> first | rfl | (cases y <;> first | rfl | exact absurd ⟨rfl, rfl⟩ (h _ _)))
theorem s_gt : OpS X cA (compareOp .Gt) oGt := op_ii0 op_gt (fun _ _ _ => rfl) (fun _ _ _ => rfl) (ss fun x y sto h => by cases x <;> first | rfl | (cases y <;> first | rfl | exact absurd ⟨rfl, rfl⟩ (h _ _)))
theorem s_mod : OpS X cA (binaryOp .Mod) oMod := op_ii op_mod (fun i j sto h => if_pos h) (fun i j sto h => if_neg h) (fun _ _ _ => rfl) (ss fun x y sto h => by cases x <;> first | rfl | (cases y <;> first | rfl | exact absurd ⟨rfl, rfl⟩ (h _ _)))
theorem s_div : OpS X cA (binaryOp .FloorDiv) oDiv := op_ii (C := fun i j => 0 < j ∧ j < 2 ^ 250) (r := fun i j => .int (i / j))
  (fun pins s σ H x y v u Q I r1 r2 ⟨i, j, e1, e2, hc, q⟩ => op_fdivW pins s σ H x y v u Q I r1 r2 ⟨i, j, e1, e2, ⟨hc.1, Nat.lt_of_lt_of_le (log2_lt (k := 250) (by have h1 := hc.1; have h2 := hc.2; omega) (by decide)) (by decide)⟩, q⟩)
  (fun i j sto h => if_pos h) (fun i j sto h => if_neg h) (fun _ _ _ => rfl) (ss fun x y sto h => by cases x <;> first | rfl | (cases y <;> first | rfl | exact absurd ⟨rfl, rfl⟩ (h _ _)))
theorem s_pow : OpS X cA (binaryOp .Pow) oPow := op_ii (C := fun i j => 0 ≤ j ∧ j ≤ 1000 ∧ i.natAbs < 1000) (r := fun i j => .int (i ^ j.toNat))
  (fun pins s σ H x y v u Q I r1 r2 ⟨i, j, e1, e2, hc, q⟩ => op_pow pins s σ H x y v u Q I r1 r2 ⟨i, j, e1, e2, ⟨hc.1, by omega, by omega⟩, q⟩)
  (fun i j sto h => if_pos h) (fun i j sto h => if_neg h) (fun _ _ _ => rfl) (ss fun x y sto h => by cases x <;> first | rfl | (cases y <;> first | rfl | exact absurd ⟨rfl, rfl⟩ (h _ _)))
theorem n_sub (x y : DV) (s : Sto) : (oSub x y s).noexc := by unfold oSub; split <;> trivial
theorem n_lt (x y : DV) (s : Sto) : (oLt x y s).noexc := by unfold oLt; split <;> trivial
theorem n_le (x y : DV) (s : Sto) : (oLe x y s).noexc := by unfold oLe; split <;> trivial
theorem n_gt (x y : DV) (s : Sto) : (oGt x y s).noexc := by unfold oGt; split <;> trivial
theorem n_mod (x y : DV) (s : Sto) : (oMod x y s).noexc := by unfold oMod; split <;> (try split) <;> trivial
theorem n_div (x y : DV) (s : Sto) : (oDiv x y s).noexc := by unfold oDiv; split <;> (try split) <;> trivial
theorem n_pow (x y : DV) (s : Sto) : (oPow x y s).noexc := by unfold oPow; split <;> (try split) <;> trivial
theorem n_newL (b : Bool) (ds : List DV) (s : Sto) : (newL b ds s).noexc := by cases b <;> trivial
theorem n_add (b : Bool) (x y : DV) (s : Sto) : (oAdd b x y s).noexc := by
  unfold oAdd
  split
  · trivial
  · split <;> trivial
  · split
    · split
      · exact n_newL _ _ _
      · trivial
    · trivial
theorem n_mul (b : Bool) (x y : DV) (s : Sto) : (oMul b x y s).noexc := by
  unfold oMul
  split
  · split <;> trivial
  · split
    · split
      · exact n_newL _ _ _
      · trivial
    · trivial
  · trivial
theorem s_add (b : Bool) : OpS X cA (binaryOp .Add) (oAdd b) := fun S sto x y vx vy Q ok rx ry p pins s σ v u I r1 r2 => by
  unfold oAdd at p
  split at p
  · rename_i i j
    have rx : vx = .int i := rx
    have ry : vy = .int j := ry
    subst rx ry
    exact op_add pins s σ S.H _ _ v u Q I r1 r2 ⟨i, j, rfl, rfl, ret_same ok p rfl⟩
  · rename_i xs ys
    split at p
    · rename_i hl
      have rx0 := rx; have ry0 := ry
      obtain ⟨a, vs, e1, h1, q1⟩ := rx
      obtain ⟨a', vs', e2, h2, q2⟩ := ry
      subst e1 e2
      refine op_catA pins s σ S.H _ _ v u Q I r1 r2 ⟨a, a', vs, vs', rfl, rfl, sqT h1, sqT h2, by rw [← q1.length, ← q2.length]; exact lim hl, fun e => ?_, fun _ e => ?_, fun _ _ t ht => ?_⟩
      · subst e
        have : xs = [] := List.eq_nil_of_length_eq_zero q1.length
        subst this
        exact ret_same ok p ry0
      · subst e
        have : ys = [] := List.eq_nil_of_length_eq_zero q2.length
        subst this
        rw [List.append_nil] at p
        exact ret_same ok p rx0
      · exact ret_tup ok p (q1.app q2) ht
    · exact p.elim
  · split at p
    · rename_i xs ys e1 e2
      split at p
      · rename_i hl
        obtain ⟨a, vs, e1, h1, q1⟩ := lstOf.rep ok rx e1
        obtain ⟨a', vs', e2, h2, q2⟩ := lstOf.rep ok ry e2
        subst e1 e2
        exact op_cat pins s σ S.H _ _ v u Q I r1 r2 ⟨a, a', vs, vs', rfl, rfl, h1, h2, by rw [← q1.length, ← q2.length]; exact lim hl, fun t ht => ret_lst ok p (q1.app q2) ht⟩
      · exact p.elim
    · exact p.elim
theorem RepL.rep {K : PySem.W.Frag} {S : Sys} {ds : List DV} {vs : List V} (h : RepL K cA S ds vs) : ∀ n : Nat, RepL K cA S (List.replicate n ds).flatten (List.replicate n vs).flatten
  | 0 => rfl
  | n + 1 => by
    rw [List.replicate_succ, List.replicate_succ, List.flatten_cons, List.flatten_cons]
    exact h.app (RepL.rep h n)
theorem s_mul (b : Bool) : OpS X cA (binaryOp .Mult) (oMul b) := fun S sto x y vx vy Q ok rx ry p pins s σ v u I r1 r2 => by
  unfold oMul at p
  split at p
  · rename_i i j
    have rx : vx = .int i := rx
    have ry : vy = .int j := ry
    subst rx ry
    split at p
    · rename_i hc
      exact op_mulW pins s σ S.H _ _ v u Q I r1 r2 ⟨i, j, rfl, rfl, by
        have h1 := log2_lt hc.1 (by decide)
        have h2 := log2_lt hc.2 (by decide)
        show i.natAbs.log2 + j.natAbs.log2 < 1000000
        omega, ret_same ok p rfl⟩
    · exact p.elim
  · rename_i k _
    split at p
    · rename_i xs e1
      split at p
      · rename_i hl
        obtain ⟨a, vs, e1, h1, q1⟩ := lstOf.rep ok rx e1
        have ry : vy = .int k := ry
        subst e1 ry
        refine op_rep pins s σ S.H _ _ v u Q I r1 r2 ⟨a, k, vs, rfl, rfl, h1, by omega, by omega, ?_, fun t ht => ?_⟩
        · rw [← q1.length]
          refine Nat.le_trans (Nat.mul_le_mul hl.2.2 (show k.toNat ≤ 1000 by omega)) (by decide)
        · exact ret_lst ok p (q1.rep _) ht
      · exact p.elim
    · exact p.elim
  · exact p.elim
end

/-! ### a datum as the library's data -/
mutual
def pyW (look : Nat → Option PyData) : DV → Option PyData
  | .non => some .none
  | .bl b => some (.bool b)
  | .int i => some (.int i)
  | .str x => some (.str x)
  | .tup ds => (pyWL look ds).map .tuple
  | .lstG _ ds => (pyWL look ds).map .list
  | .scr ns => some (.list (ns.map .int))
  | .loc n => look n
  | _ => none
def pyWL (look : Nat → Option PyData) : List DV → Option (List PyData)
  | [] => some []
  | d :: ds => match pyW look d, pyWL look ds with
    | some x, some xs => some (x :: xs)
    | _, _ => none
end
def look0 : Nat → Option PyData := fun _ => none
def look1 (sto : Sto) (n : Nat) : Option PyData := match sto[n]? with
  | some (.lst ds) => (pyWL look0 ds).map .list
  | _ => none
def look2 (sto : Sto) (n : Nat) : Option PyData := match sto[n]? with
  | some (.lst ds) => (pyWL (look1 sto) ds).map .list
  | _ => none
def py (sto : Sto) (d : DV) : Option PyData := pyW (look2 sto) d
section
variable {K : PySem.W.Frag} {cA : CA} {S : Sys} {sto : Sto}
theorem dpInts {H : Hp} : ∀ (ns : List Int), DpAll K H (ns.map V.int) (ns.map PyData.int)
  | [] => .nil
  | n :: ns => .cons (.int n) (dpInts ns)
mutual
theorem pyW.rep {look : Nat → Option PyData} (hl : ∀ n D, look n = some D → n < S.N → Dp K S.H (.ref (S.r n)) D) : ∀ (d : DV) (v : V) (D : PyData), Rep K cA S d v → pyW look d = some D → Dp K S.H v D
  | .non, v, D, r, h => by cases h; cases (show v = .non from r); exact .non
  | .bl b, v, D, r, h => by cases h; cases (show v = .bl b from r); exact .bl b
  | .int i, v, D, r, h => by cases h; cases (show v = .int i from r); exact .int i
  | .str x, v, D, r, h => by cases h; cases (show v = .str x from r); exact .str x
  | .tup ds, v, D, ⟨a, vs, e, h1, h2⟩, h => by
    simp only [pyW, Option.map_eq_some_iff] at h
    obtain ⟨xs, h3, rfl⟩ := h
    subst e
    exact .tup (sqT h1) (pyWL.rep hl ds vs xs h2 h3)
  | .lstG g ds, v, D, ⟨a, vs, e, _, h1, h2⟩, h => by
    simp only [pyW, Option.map_eq_some_iff] at h
    obtain ⟨xs, h3, rfl⟩ := h
    subst e
    exact .lst (sqL h1) (pyWL.rep hl ds vs xs h2 h3)
  | .scr ns, v, D, ⟨a, e, h1⟩, h => by
    cases h
    subst e
    exact .lst h1.sq (dpInts ns)
  | .loc n, v, D, ⟨h1, e⟩, h => by
    subst e
    exact hl n D h h1
  | .dicG g ks ds, v, D, _, h => by cases h
  | .insG g c ns ds, v, D, _, h => by cases h
  | .ty n, v, D, _, h => by cases h
  | .cls c, v, D, _, h => by cases h
theorem pyWL.rep {look : Nat → Option PyData} (hl : ∀ n D, look n = some D → n < S.N → Dp K S.H (.ref (S.r n)) D) : ∀ (ds : List DV) (vs : List V) (D : List PyData), RepL K cA S ds vs → pyWL look ds = some D → DpAll K S.H vs D
  | [], vs, D, r, h => by cases h; cases (show vs = [] from r); exact .nil
  | d :: ds, vs, D, ⟨v, r, e, h1, h2⟩, h => by
    unfold pyWL at h
    split at h
    · rename_i x xs e1 e2
      cases h
      subst e
      exact .cons (pyW.rep hl d v x h1 e1) (pyWL.rep hl ds r xs h2 e2)
    · cases h
end
theorem look1.rep (ok : StoOk K cA S sto) : ∀ n D, look1 sto n = some D → n < S.N → Dp K S.H (.ref (S.r n)) D := fun n D h hn => by
  unfold look1 at h
  split at h
  · rename_i ds e
    simp only [Option.map_eq_some_iff] at h
    obtain ⟨xs, h3, rfl⟩ := h
    obtain ⟨vs, e1, e2⟩ := ok.ob n _ e
    exact .lst (sqL e1) (pyWL.rep (fun _ _ z _ => by cases z) ds vs xs e2 h3)
  · cases h
theorem look2.rep (ok : StoOk K cA S sto) : ∀ n D, look2 sto n = some D → n < S.N → Dp K S.H (.ref (S.r n)) D := fun n D h hn => by
  unfold look2 at h
  split at h
  · rename_i ds e
    simp only [Option.map_eq_some_iff] at h
    obtain ⟨xs, h3, rfl⟩ := h
    obtain ⟨vs, e1, e2⟩ := ok.ob n _ e
    exact .lst (sqL e1) (pyWL.rep (look1.rep ok) ds vs xs e2 h3)
  · cases h
theorem py.rep (ok : StoOk K cA S sto) {d : DV} {v : V} {D : PyData} (r : Rep K cA S d v) (h : py sto d = some D) : Dp K S.H v D := pyW.rep (look2.rep ok) d v D r h
end
def oEq (x y : DV) (sto : Sto) : Res DV := match py sto x, py sto y with
  | some a, some b => if SeqAt.shaped a = true ∧ SeqAt.shaped b = true then .ok (.bl (PyData.eqv a b)) sto else .stuck
  | _, _ => .stuck
def oNe (x y : DV) (sto : Sto) : Res DV := match py sto x, py sto y with
  | some a, some b => if SeqAt.shaped a = true ∧ SeqAt.shaped b = true then .ok (.bl (!PyData.eqv a b)) sto else .stuck
  | _, _ => .stuck
def oIn (x y : DV) (sto : Sto) : Res DV := match py sto x, py sto y with
  | some a, some (.list ds) => if SeqAt.shaped a = true ∧ SeqAt.shaped (.list ds) = true then .ok (.bl (ds.any fun z => PyData.eqv z a)) sto else .stuck
  | _, _ => .stuck
def oNotIn (x y : DV) (sto : Sto) : Res DV := match py sto x, py sto y with
  | some a, some (.list ds) => if SeqAt.shaped a = true ∧ SeqAt.shaped (.list ds) = true then .ok (.bl (!ds.any fun z => PyData.eqv z a)) sto else .stuck
  | _, _ => .stuck
section
variable {X : Cx} {cA : CA}
theorem n_eq (x y : DV) (s : Sto) : (oEq x y s).noexc := by unfold oEq; split <;> (try split) <;> trivial
theorem n_ne (x y : DV) (s : Sto) : (oNe x y s).noexc := by unfold oNe; split <;> (try split) <;> trivial
theorem n_in (x y : DV) (s : Sto) : (oIn x y s).noexc := by unfold oIn; split <;> (try split) <;> trivial
theorem n_notIn (x y : DV) (s : Sto) : (oNotIn x y s).noexc := by unfold oNotIn; split <;> (try split) <;> trivial
theorem s_eq (hu : X.A.units + 64 < cLine) : OpS X cA (compareOp .Eq) oEq := fun S sto x y vx vy Q ok rx ry p pins s σ v u I r1 r2 => by
  unfold oEq at p
  split at p
  · rename_i a b e1 e2
    split at p
    · rename_i hs
      exact op_eqD hu pins s σ S.H _ _ v u Q I r1 r2 ⟨a, b, py.rep ok rx e1, py.rep ok ry e2, hs.1, hs.2, ret_same ok p rfl⟩
    · exact p.elim
  · exact p.elim
theorem s_ne (hu : X.A.units + 64 < cLine) : OpS X cA (compareOp .NotEq) oNe := fun S sto x y vx vy Q ok rx ry p pins s σ v u I r1 r2 => by
  unfold oNe at p
  split at p
  · rename_i a b e1 e2
    split at p
    · rename_i hs
      exact op_neD hu pins s σ S.H _ _ v u Q I r1 r2 ⟨a, b, py.rep ok rx e1, py.rep ok ry e2, hs.1, hs.2, ret_same ok p rfl⟩
    · exact p.elim
  · exact p.elim
theorem s_in (hu : X.A.units + 65 < cLine) : OpS X cA (compareOp .In) oIn := fun S sto x y vx vy Q ok rx ry p pins s σ v u I r1 r2 => by
  unfold oIn at p
  split at p
  · rename_i a b e1 e2
    split at p
    · rename_i hs
      exact op_inD hu pins s σ S.H _ _ v u Q I r1 r2 ⟨a, b, py.rep ok rx e1, py.rep ok ry e2, hs.1, hs.2, ret_same ok p rfl⟩
    · exact p.elim
  · exact p.elim
theorem s_notIn (hu : X.A.units + 65 < cLine) : OpS X cA (compareOp .NotIn) oNotIn := fun S sto x y vx vy Q ok rx ry p pins s σ v u I r1 r2 => by
  unfold oNotIn at p
  split at p
  · rename_i a b e1 e2
    split at p
    · rename_i hs
      exact op_notInD hu pins s σ S.H _ _ v u Q I r1 r2 ⟨a, b, py.rep ok rx e1, py.rep ok ry e2, hs.1, hs.2, ret_same ok p rfl⟩
    · exact p.elim
  · exact p.elim
end
end BB
namespace BB
open PySem PySem.Spec PyProof.Rows L2

/-! ### subscripts -/
def dicOf (sto : Sto) (x : DV) (y : DV) : Option (Option DV) := match x with
  | .dicG _ ks ds => match tkeyOf y with
    | some k => some (lookK ks ds k)
    | none => none
  | .loc n => match sto[n]? with
    | some (.dT ks ds) => match tkeyOf y with
      | some k => some (lookK ks ds k)
      | none => none
    | some (.dK ks ds) => match keyOf y with
      | some k => some (lookK ks ds k)
      | none => none
    | some (.dKf ks ds) => match keyOf y with
      | some k => some (lookK ks ds k)
      | none => none
    | _ => none
  | _ => none
def ixD (x y : DV) (sto : Sto) : Res DV := match dicOf sto x y with
  | some (some d) => .ok d sto
  | some none => .stuck
  | none => match y, seqOf sto x with
    | .int i, some ds => match atI ds i with
      | some d => .ok d sto
      | none => .stuck
    | _, _ => .stuck
def eIx (a b : EM) : EM := fun env sto => (a env sto).bind fun x s1 => (b env s1).bind fun y s2 => ixD x y s2
section
variable {X : Cx} {cA : CA} {Z : Nat → L2.St → Hp → Prop} {pos : Pos} {a b : Expr} {ma mb : EM} {S : Sys} {sto : Sto}
theorem dicOf.rep {x y d : DV} {vx vy : V} {o : Option DV} (ok : StoOk X.K cA S sto) (rx : Rep X.K cA S x vx) (ry : Rep X.K cA S y vy) (h : dicOf sto x y = some o) : ∃ a w, vx = .ref a ∧ DGet S.H a vy w ∧ (∀ d, o = some d → ∃ v, w = some v ∧ Rep X.K cA S d v) ∧ (o = none → w = none) := by
  unfold dicOf at h
  split at h
  · rename_i ks ds
    obtain ⟨a, kvs, e, _, h1, h2, h3⟩ := rx
    split at h
    · rename_i k hk
      cases h
      obtain ⟨b, e2, hb⟩ := tkeyOf.rep ry hk
      subst e e2
      exact ⟨a, _, rfl, DGet.t h1 hb, fun d hd => lookK.rep h2 h3 hd, fun hd => lookK.no h2 h3 hd⟩
    · cases h
  · rename_i n
    obtain ⟨hn, e⟩ := rx
    split at h
    · rename_i ks ds hs
      obtain ⟨kvs, h1, h2, h3, _⟩ := ok.ob n _ hs
      split at h
      · rename_i k hk
        cases h
        obtain ⟨b, e2, hb⟩ := tkeyOf.rep ry hk
        subst e e2
        exact ⟨_, _, rfl, DGet.t h1 hb, fun d hd => lookK.rep h2 h3 hd, fun hd => lookK.no h2 h3 hd⟩
      · cases h
    · rename_i ks ds hs
      obtain ⟨kvs, h1, h2, h3, _⟩ := ok.ob n _ hs
      split at h
      · rename_i k hk
        cases h
        have e2 := keyOf.rep ry hk
        subst e e2
        exact ⟨_, _, rfl, DGet.k h1, fun d hd => lookK.rep h2 h3 hd, fun hd => lookK.no h2 h3 hd⟩
      · cases h
    · rename_i ks ds hs
      obtain ⟨ob, kvs, h1, h2, h3, _⟩ := ok.ob n _ hs
      split at h
      · rename_i k hk
        cases h
        have e2 := keyOf.rep ry hk
        subst e e2
        exact ⟨_, _, rfl, .inl ⟨kvs, k, .inr ⟨ob, h1⟩, rfl, rfl⟩, fun d hd => lookK.rep h2 h3 hd, fun hd => lookK.no h2 h3 hd⟩
      · cases h
    · cases h
  · cases h
theorem atI.rep {ds : List DV} {vs : List V} {i : Int} {d : DV} (r : RepL X.K cA S ds vs) (h : atI ds i = some d) : ∃ v, atI vs i = some v ∧ Rep X.K cA S d v := by
  unfold atI at h ⊢
  rw [← r.length]
  cases e : ixN ds.length i with
  | none => rw [e] at h; cases h
  | some j =>
    rw [e] at h
    exact r.get h
theorem g_ix (hu : X.A.units + 1 < cLine) (ha : GE X cA Z a ma) (hb : GE X cA Z b mb) (hs : PlainIx b := by exact px_plain rfl) : GE X cA Z (.Subscript a b pos) (eIx ma mb) := .mk fun S σ env sto ok eo Q p => by
  by_cases hk : ∃ x s1 y s2 o, ma env sto = .ok x s1 ∧ mb env s1 = .ok y s2 ∧ dicOf s2 x y = some o
  · obtain ⟨x, s1, y, s2, o, e1, e2, e3⟩ := hk
    refine wE.of (pe_dget hu (peW a) (peW b) hs) (ha.thenE ok eo p fun x' s1' S1 vx q1 g1 ok1 eo1 rx h1 => ?_)
    rw [e1] at q1; cases q1
    refine hb.thenE ok1 eo1 h1 fun y' s2' S2 vy q2 g2 ok2 eo2 ry h2 => ?_
    rw [e2] at q2; cases q2
    obtain ⟨c, w, ec, hg, hd, hno⟩ := dicOf.rep (X := X) (d := x) ok2 (rx.grow ok1 g2) ry e3
    unfold ixD at h2
    rw [e3] at h2
    cases o with
    | none => exact h2.elim
    | some d =>
      obtain ⟨v, rfl, rv⟩ := hd d rfl
      exact ⟨c, v, ec, hg, ret_same ok2 h2 rv⟩
  · refine wE.of (pe_ix ix_seq (peW a) (peW b) hs) (ha.thenE ok eo p fun x s1 S1 vx q1 g1 ok1 eo1 rx h1 => ?_)
    refine hb.thenE ok1 eo1 h1 fun y s2 S2 vy q2 g2 ok2 eo2 ry h2 => ?_
    have e3 : dicOf s2 x y = none := by
      cases e : dicOf s2 x y with
      | none => rfl
      | some o => exact absurd ⟨x, s1, y, s2, o, q1, q2, e⟩ hk
    unfold ixD at h2
    rw [e3] at h2
    cases y <;> first | exact h2.elim | skip
    rename_i i
    cases e4 : seqOf s2 x with
    | none => rw [e4] at h2; exact h2.elim
    | some ds =>
      rw [e4] at h2
      simp only at h2
      cases e5 : atI ds i with
      | none => rw [e5] at h2; exact h2.elim
      | some d =>
        rw [e5] at h2
        have ry : vy = .int i := ry
        subst ry
        obtain ⟨c, vs, ec, hq, rs⟩ := seqOf.rep ok2 (rx.grow ok1 g2) e4
        obtain ⟨v, hv, rv⟩ := atI.rep (X := X) rs e5
        subst ec
        rcases hq with hq | hq
        · exact .inl ⟨c, vs, i, v, rfl, rfl, hq, hv, ret_same ok2 h2 rv⟩
        · exact .inr (.inl ⟨c, vs, i, v, rfl, rfl, hq, hv, ret_same ok2 h2 rv⟩)
end

/-! ### slices -/
def cutD (xs : List DV) (lo hi : Option Int) : List DV := (xs.drop (HT.sIx xs.length 0 lo)).take (HT.sIx xs.length xs.length hi - HT.sIx xs.length 0 lo)
abbrev PM := Env → Sto → Res (Option Int)
def pNone : PM := fun _ sto => .ok none sto
def pSome (a : EM) : PM := fun env sto => (a env sto).bind fun d s => match d with
  | .int i => .ok (some i) s
  | _ => .stuck
def slD (b : Bool) (x : DV) (lo hi : Option Int) (sto : Sto) : Res DV := match x with
  | .tup ds => .ok (.tup (cutD ds lo hi)) sto
  | .scr ns => newL b (cutD (ns.map DV.int) lo hi) sto
  | x => match lstOf sto x with
    | some ds => newL b (cutD ds lo hi) sto
    | none => .stuck
def eSl (b : Bool) (a : EM) (lo hi : PM) : EM := fun env sto => (a env sto).bind fun x s1 => (lo env s1).bind fun l s2 => (hi env s2).bind fun h s3 => slD b x l h s3
section
variable {X : Cx} {cA : CA} {Z : Nat → L2.St → Hp → Prop} {pos p2 : Pos} {a : Expr} {ma : EM} {S : Sys} {sto : Sto} {lo hi : Option Expr} {ml mh : PM}
def wO (X : Cx) (e : Option Expr) : TO := fun σ H Q => ∀ pins s, Inv X pins σ H s → wpAny (model X.prog X.w) X.A (evalPart e X.env) (fun u s' => ∃ o H', Inv X pins σ H' s' ∧ IsPart u o ∧ Q o H') X.xe s
theorem poW (e : Option Expr) : PO X e (wO X e) := ⟨fun pins s σ H Q I h => h pins s I⟩
structure GO (X : Cx) (cA : CA) (Z : Nat → L2.St → Hp → Prop) (e : Option Expr) (m : PM) : Prop where
  run : ∀ S σ env sto, StoOk X.K cA S sto → EnvOk X.K cA S env σ → ∀ Q : Option Int → Hp → Prop, Post X.K cA S (m env sto) (fun d _ S' => Q d S'.H) (fun c _ S' => Z c σ S'.H) → wO X e σ S.H Q
theorem go_none : GO X cA Z none pNone := .mk fun S σ env sto ok eo Q p pins s I => po_none.run pins s σ S.H Q I (p S (Grow.refl ok) ok)
theorem go_some (h : GE X cA Z a ma) : GO X cA Z (some a) (pSome ma) := .mk fun S σ env sto ok eo Q p pins s I => (po_some (peW a)).run pins s σ S.H Q I (h.then ok eo p fun d s1 S1 v g1 ok1 eo1 r h1 => by
  cases d <;> first | exact h1.elim | skip
  exact ⟨_, r, h1 S1 (Grow.refl ok1) ok1⟩)
theorem GO.then {S : Sys} {σ : L2.St} {env : Env} {sto : Sto} {β : Type} {e : Option Expr} {m : PM} (g : GO X cA Z e m) (ok : StoOk X.K cA S sto) (eo : EnvOk X.K cA S env σ) {f : Option Int → Sto → Res β} {Qf : β → Sto → Sys → Prop} {Q : Option Int → Hp → Prop}
    (h : Post X.K cA S ((m env sto).bind f) Qf (fun c _ S' => Z c σ S'.H))
    (hq : ∀ b s S', Grow S S' → StoOk X.K cA S' s → EnvOk X.K cA S' env σ → Post X.K cA S' (f b s) Qf (fun c _ S' => Z c σ S'.H) → Q b S'.H) : wO X e σ S.H Q :=
  g.run S σ env sto ok eo Q ((Post.bind h).imp (fun d s S' gr o1 p => hq d s S' gr o1 (eo.grow ok gr) p) fun _ _ _ _ _ z => z)
theorem cutD.rep {ds : List DV} {vs : List V} (r : RepL X.K cA S ds vs) (lo hi : Option Int) : RepL X.K cA S (cutD ds lo hi) (cutV vs lo hi) := by
  unfold cutD cutV
  rw [← r.length]
  exact (r.drop _).take _
theorem cut_all {xs : List DV} {lo hi : Option Int} (h : HT.sIx xs.length 0 lo = 0 ∧ HT.sIx xs.length xs.length hi = xs.length) : cutD xs lo hi = xs := by
  unfold cutD
  rw [h.1, h.2, List.drop_zero, Nat.sub_zero, List.take_length]
theorem g_sl (b : Bool) (ha : GE X cA Z a ma) (hl : GO X cA Z lo ml) (hh : GO X cA Z hi mh) : GE X cA Z (.Subscript a (.Slice lo hi none p2) pos) (eSl b ma ml mh) := .mk fun S σ env sto ok eo Q p => by
  refine wE.of (pe_slice (SlR.or sl_list sl_tupA) (peW a) (poW lo) (poW hi)) (ha.then ok eo p fun x s1 S1 vx g1 ok1 eo1 rx h1 => ?_)
  refine hl.then ok1 eo1 h1 fun l s2 S2 g2 ok2 eo2 h2 => ?_
  refine hh.then ok2 eo2 h2 fun u s3 S3 g3 ok3 eo3 h3 => ?_
  have rx3 := (rx.grow ok1 g2).grow ok2 g3
  unfold slD at h3
  split at h3
  · rename_i ds
    have r0 := rx3
    obtain ⟨c, vs, ec, hc, rs⟩ := rx3
    subst ec
    refine .inr ⟨c, vs, rfl, sqT hc, fun hw => ?_, fun _ q hq => ret_tup ok3 h3 (cutD.rep (X := X) rs l u) hq⟩
    rw [← rs.length] at hw
    rw [cut_all hw] at h3
    exact ret_same ok3 h3 r0
  · rename_i ns
    obtain ⟨c, ec, hc⟩ := rx3
    subst ec
    exact .inl ⟨c, _, rfl, hc.sq, fun q hq => ret_lst ok3 h3 (cutD.rep (X := X) (RepL.ints ns) l u) hq⟩
  · split at h3
    · rename_i ds e
      obtain ⟨c, vs, ec, hc, rs⟩ := lstOf.rep ok3 rx3 e
      subst ec
      exact .inl ⟨c, vs, rfl, sqL hc, fun q hq => ret_lst ok3 h3 (cutD.rep (X := X) rs l u) hq⟩
    · exact h3.elim
end

/-! ### calls of built-ins by values -/
def eCB (f : List DV → Sto → Res DV) (t : AM) : EM := fun env sto => (t env sto).bind fun ds s => f ds s
def CallS (X : Cx) (cA : CA) (fn : Value) (f : List DV → Sto → Res DV) : Prop :=
  ∀ S sto ds vs (Q : VK), StoOk X.K cA S sto → RepL X.K cA S ds vs → Post X.K cA S (f ds sto) (VQ X.K cA Q) (fun _ _ _ => False) →
    ∀ (pins : List (Addr × Obj)) (s : Shared) (σ : L2.St) (us : List Value), Inv X pins σ S.H s → Vals vs us → wpAny (model X.prog X.w) X.A (call fn us) (EP X pins σ Q) X.xe s
def wCB (X : Cx) (fn : Value) : List V → Hp → VK → Prop := fun vs H Q => ∀ (pins : List (Addr × Obj)) (s : Shared) (σ : L2.St) (us : List Value), Inv X pins σ H s → Vals vs us → wpAny (model X.prog X.w) X.A (call fn us) (EP X pins σ Q) X.xe s
theorem cbW (X : Cx) (fn : Value) : CallR X fn (wCB X fn) := fun pins s σ H xs us Q I r h => h pins s σ us I r
section
variable {X : Cx} {cA : CA} {Z : Nat → L2.St → Hp → Prop} {pos p : Pos} {x : Str} {e : Expr} {es : List Expr} {t : AM} {f : List DV → Sto → Res DV}
theorem CallS.use {fn : Value} (h : CallS X cA fn f) (hn : ∀ x s, (f x s).noexc) {S : Sys} {sto : Sto} {ds : List DV} {vs : List V} {Q : VK} {Zf : Nat → Sto → Sys → Prop} (ok : StoOk X.K cA S sto) (rx : RepL X.K cA S ds vs) (p : Post X.K cA S (f ds sto) (VQ X.K cA Q) Zf) : wCB X fn vs S.H Q :=
  fun pins s σ us I r1 => h S sto ds vs Q ok rx (p.noZ (hn ds sto)) pins s σ us I r1
theorem g_callB {id : String} (hc : CallS X cA (.builtin id) f) (hn : ∀ x s, (f x s).noexc) (hm : X.mg x = none) (ha : GA X cA Z (e :: es) t) (hg : Gl X x := by rfl) (hv : bootBuiltins x = some (.builtin id) := by decide +kernel) (hnm : x ≠ "__name__" := by decide) (hdb : (x == ("__debug__" : Str)) = false := by decide)
    (he : starEach (e :: es) X.env = (false, eval e X.env) :: starEach es X.env := by exact star_plain rfl) (hpl : (backTo pos (starEach es X.env)).any (·.1) = false := by exact plain_any rfl) : GE X cA Z (.Call (.Name x p) (e :: es) [] pos) (eCB f t) := .mk fun S σ env sto ok eo Q p => by
  refine wE.of (pe_callB (cbW X _) hg hm hv (paW _) hnm hdb he hpl) (ha.then ok eo p fun ds s1 S1 vs g1 ok1 eo1 rs h1 => ?_)
  exact hc.use hn ok1 rs h1
theorem g_callTy {T : String} (hc : CallS X cA (.type T) f) (hn : ∀ x s, (f x s).noexc) (hm : X.mg x = none) (ha : GA X cA Z (e :: es) t) (hg : Gl X x := by rfl) (hv : bootBuiltins x = some (.type T) := by decide +kernel) (hnm : x ≠ "__name__" := by decide) (hdb : (x == ("__debug__" : Str)) = false := by decide)
    (he : starEach (e :: es) X.env = (false, eval e X.env) :: starEach es X.env := by exact star_plain rfl) (hpl : (backTo pos (starEach es X.env)).any (·.1) = false := by exact plain_any rfl) : GE X cA Z (.Call (.Name x p) (e :: es) [] pos) (eCB f t) := .mk fun S σ env sto ok eo Q p => by
  refine wE.of (pe_callTy (cbW X _) hg hm hv (paW _) hnm hdb he hpl) (ha.then ok eo p fun ds s1 S1 vs g1 ok1 eo1 rs h1 => ?_)
  exact hc.use hn ok1 rs h1
end
def fLen (ds : List DV) (sto : Sto) : Res DV := match ds with
  | [d] => match seqOf sto d with
    | some xs => .ok (.int xs.length) sto
    | none => .stuck
  | _ => .stuck
def intsOf : List DV → Option (List Int)
  | [] => some []
  | .int i :: ds => (intsOf ds).map (i :: ·)
  | _ => none
def blsOf : List DV → Option (List Bool)
  | [] => some []
  | .bl i :: ds => (blsOf ds).map (i :: ·)
  | _ => none
def lsqOf (sto : Sto) : DV → Option (List DV)
  | .scr ns => some (ns.map DV.int)
  | d => lstOf sto d
def fSum (ds : List DV) (sto : Sto) : Res DV := match ds with
  | [d] => match (lsqOf sto d).bind intsOf with
    | some ns => .ok (.int ns.sum) sto
    | none => .stuck
  | _ => .stuck
def fAll (ds : List DV) (sto : Sto) : Res DV := match ds with
  | [d] => match (lsqOf sto d).bind blsOf with
    | some bs => .ok (.bl (bs.all id)) sto
    | none => .stuck
  | _ => .stuck
def fAny (ds : List DV) (sto : Sto) : Res DV := match ds with
  | [d] => match (lsqOf sto d).bind blsOf with
    | some bs => .ok (.bl (bs.any id)) sto
    | none => .stuck
  | _ => .stuck
def fAbs (ds : List DV) (sto : Sto) : Res DV := match ds with
  | [.int i] => .ok (.int (if i < 0 then -i else i)) sto
  | _ => .stuck
/-- the least, the greatest of a list -/
def leastI : List Int → Int
  | [] => 0
  | [x] => x
  | x :: y :: r => min x (leastI (y :: r))
def mostI : List Int → Int
  | [] => 0
  | [x] => x
  | x :: y :: r => max x (mostI (y :: r))
def fMin (ds : List DV) (sto : Sto) : Res DV := match ds with
  | [.int i, .int j] => .ok (.int (if j < i then j else i)) sto
  | [d] => match (lsqOf sto d).bind intsOf with
    | some (n :: ns) => .ok (.int (leastI (n :: ns))) sto
    | _ => .stuck
  | _ => .stuck
def fMax (ds : List DV) (sto : Sto) : Res DV := match ds with
  | [.int i, .int j] => .ok (.int (if j > i then j else i)) sto
  | [d] => match (lsqOf sto d).bind intsOf with
    | some (n :: ns) => .ok (.int (mostI (n :: ns))) sto
    | _ => .stuck
  | _ => .stuck
def fInt (ds : List DV) (sto : Sto) : Res DV := match ds with
  | [.int i] => .ok (.int i) sto
  | [.bl k] => .ok (.int (if k then 1 else 0)) sto
  | _ => .stuck
def fList (b : Bool) (ds : List DV) (sto : Sto) : Res DV := match ds with
  | [d] => match seqOf sto d with
    | some xs => newL b xs sto
    | none => .stuck
  | _ => .stuck
section
variable {X : Cx} {cA : CA} {S : Sys} {sto : Sto}
theorem one_rep {d : DV} {vs : List V} (r : RepL X.K cA S [d] vs) : ∃ v, vs = [v] ∧ Rep X.K cA S d v := by
  obtain ⟨v, r', e, h1, h2⟩ := r
  cases (show r' = [] from h2)
  exact ⟨v, e, h1⟩
theorem intsOf.eq : ∀ {ds : List DV} {ns : List Int}, intsOf ds = some ns → ds = ns.map DV.int
  | [], ns, h => by cases h; rfl
  | d :: ds, ns, h => by
    cases d <;> simp only [intsOf] at h <;> try (cases h; done)
    simp only [Option.map_eq_some_iff] at h
    obtain ⟨r, h1, rfl⟩ := h
    rw [intsOf.eq h1]; rfl
theorem blsOf.eq : ∀ {ds : List DV} {ns : List Bool}, blsOf ds = some ns → ds = ns.map DV.bl
  | [], ns, h => by cases h; rfl
  | d :: ds, ns, h => by
    cases d <;> simp only [blsOf] at h <;> try (cases h; done)
    simp only [Option.map_eq_some_iff] at h
    obtain ⟨r, h1, rfl⟩ := h
    rw [blsOf.eq h1]; rfl
@[simp] theorem intsOf_map : ∀ ns : List Int, intsOf (ns.map DV.int) = some ns
  | [] => rfl
  | n :: ns => by simp [intsOf, intsOf_map ns]
@[simp] theorem blsOf_map : ∀ ns : List Bool, blsOf (ns.map DV.bl) = some ns
  | [] => rfl
  | n :: ns => by simp [blsOf, blsOf_map ns]
theorem RepL.bls_iff {K : PySem.W.Frag} : ∀ {ns : List Bool} {vs : List V}, RepL K cA S (ns.map DV.bl) vs → vs = ns.map V.bl
  | [], vs, h => h
  | n :: ns, vs, ⟨v, r, e, h1, h2⟩ => by
    have h1 : v = .bl n := h1
    subst e h1
    rw [RepL.bls_iff h2]; rfl
theorem lsqOf.rep {d : DV} {v : V} {ds : List DV} (ok : StoOk X.K cA S sto) (r : Rep X.K cA S d v) (h : lsqOf sto d = some ds) : ∃ a vs, v = .ref a ∧ SqL X.K S.H a vs ∧ RepL X.K cA S ds vs := by
  cases d
  case scr ns =>
    cases h
    obtain ⟨a, e, h1⟩ := r
    exact ⟨a, _, e, h1.sq, RepL.ints ns⟩
  all_goals
    obtain ⟨a, vs, e, h1, h2⟩ := lstOf.rep ok r h
    exact ⟨a, vs, e, sqL h1, h2⟩
theorem lsq_ints {d : DV} {v : V} {ns : List Int} (ok : StoOk X.K cA S sto) (r : Rep X.K cA S d v) (h : (lsqOf sto d).bind intsOf = some ns) : ∃ a, v = .ref a ∧ SqL X.K S.H a (ns.map V.int) := by
  cases e : lsqOf sto d with
  | none => rw [e] at h; cases h
  | some ds =>
    rw [e] at h
    obtain ⟨a, vs, e1, h1, h2⟩ := lsqOf.rep ok r e
    rw [intsOf.eq (show intsOf ds = some ns from h)] at h2
    exact ⟨a, e1, by rw [← RepL.ints_iff h2]; exact h1⟩
theorem lsq_bls {d : DV} {v : V} {ns : List Bool} (ok : StoOk X.K cA S sto) (r : Rep X.K cA S d v) (h : (lsqOf sto d).bind blsOf = some ns) : ∃ a, v = .ref a ∧ SqL X.K S.H a (ns.map V.bl) := by
  cases e : lsqOf sto d with
  | none => rw [e] at h; cases h
  | some ds =>
    rw [e] at h
    obtain ⟨a, vs, e1, h1, h2⟩ := lsqOf.rep ok r e
    rw [blsOf.eq (show blsOf ds = some ns from h)] at h2
    exact ⟨a, e1, by rw [← RepL.bls_iff h2]; exact h1⟩
theorem s_len : CallS X cA (.builtin "len") fLen := fun S sto ds vs Q ok r p pins s σ us I rv => by
  unfold fLen at p
  split at p
  · split at p
    · rename_i d _ xs e
      obtain ⟨v, rfl, r1⟩ := one_rep r
      obtain ⟨a, ws, rfl, h1, h2⟩ := seqOf.rep ok r1 e
      exact call_len_seq pins s σ S.H _ us Q I rv ⟨a, ws, rfl, h1, by rw [← h2.length]; exact ret_same ok p rfl⟩
    · exact p.elim
  · exact p.elim
theorem s_sum (hc : X.calm = true) : CallS X cA (.builtin "sum") fSum := fun S sto ds vs Q ok r p pins s σ us I rv => by
  unfold fSum at p
  split at p
  · split at p
    · rename_i d _ xs e
      obtain ⟨v, rfl, r1⟩ := one_rep r
      obtain ⟨a, rfl, h1⟩ := lsq_ints ok r1 e
      exact cr_sum hc pins s σ S.H _ us Q I rv ⟨a, xs, rfl, h1, ret_same ok p rfl⟩
    · exact p.elim
  · exact p.elim
theorem s_all (hc : X.calm = true) : CallS X cA (.builtin "all") fAll := fun S sto ds vs Q ok r p pins s σ us I rv => by
  unfold fAll at p
  split at p
  · split at p
    · rename_i d _ xs e
      obtain ⟨v, rfl, r1⟩ := one_rep r
      obtain ⟨a, rfl, h1⟩ := lsq_bls ok r1 e
      exact cr_all hc pins s σ S.H _ us Q I rv ⟨a, xs, rfl, h1, ret_same ok p rfl⟩
    · exact p.elim
  · exact p.elim
theorem s_any (hc : X.calm = true) : CallS X cA (.builtin "any") fAny := fun S sto ds vs Q ok r p pins s σ us I rv => by
  unfold fAny at p
  split at p
  · split at p
    · rename_i d _ xs e
      obtain ⟨v, rfl, r1⟩ := one_rep r
      obtain ⟨a, rfl, h1⟩ := lsq_bls ok r1 e
      exact cr_any hc pins s σ S.H _ us Q I rv ⟨a, xs, rfl, h1, ret_same ok p rfl⟩
    · exact p.elim
  · exact p.elim
theorem two_rep {d e : DV} {vs : List V} (r : RepL X.K cA S [d, e] vs) : ∃ v u, vs = [v, u] ∧ Rep X.K cA S d v ∧ Rep X.K cA S e u := by
  obtain ⟨v, r', e, h1, h2⟩ := r
  obtain ⟨u, rfl, h3⟩ := one_rep h2
  exact ⟨v, u, e, h1, h3⟩
theorem s_abs : CallS X cA (.builtin "abs") fAbs := fun S sto ds vs Q ok r p pins s σ us I rv => by
  unfold fAbs at p
  split at p
  · rename_i i
    obtain ⟨v, rfl, r1⟩ := one_rep r
    cases (show v = .int i from r1)
    exact call_abs pins s σ S.H _ us Q I rv ⟨i, rfl, ret_same ok p rfl⟩
  · exact p.elim
theorem s_int : CallS X cA (.type "int") fInt := fun S sto ds vs Q ok r p pins s σ us I rv => by
  unfold fInt at p
  split at p
  · rename_i i
    obtain ⟨v, rfl, r1⟩ := one_rep r
    cases (show v = .int i from r1)
    exact call_int1 pins s σ S.H _ us Q I rv (.inl ⟨i, rfl, ret_same ok p rfl⟩)
  · rename_i i
    obtain ⟨v, rfl, r1⟩ := one_rep r
    cases (show v = .bl i from r1)
    exact call_int1 pins s σ S.H _ us Q I rv (.inr ⟨i, rfl, ret_same ok p rfl⟩)
  · exact p.elim
theorem s_list (b : Bool) : CallS X cA (.type "list") (fList b) := fun S sto ds vs Q ok r p pins s σ us I rv => by
  unfold fList at p
  split at p
  · split at p
    · rename_i d _ xs e
      obtain ⟨v, rfl, r1⟩ := one_rep r
      obtain ⟨a, ws, rfl, h1, h2⟩ := seqOf.rep ok r1 e
      exact call_list_of pins s σ S.H _ us Q I rv ⟨a, ws, rfl, h1, fun l hl => ret_lst ok p h2 hl⟩
    · exact p.elim
  · exact p.elim
theorem leastI_mem : ∀ (n : Int) (ns : List Int), leastI (n :: ns) ∈ n :: ns ∧ ∀ y ∈ n :: ns, leastI (n :: ns) ≤ y
  | n, [] => by simp [leastI]
  | n, m :: ns => by
    obtain ⟨h1, h2⟩ := leastI_mem m ns
    show min n (leastI (m :: ns)) ∈ _ ∧ _
    constructor
    · rcases Int.le_total n (leastI (m :: ns)) with h | h
      · rw [Int.min_eq_left h]; exact List.mem_cons_self
      · rw [Int.min_eq_right h]; exact List.mem_cons_of_mem _ h1
    · intro y hy
      show min n (leastI (m :: ns)) ≤ y
      rcases List.mem_cons.mp hy with rfl | hy
      · exact Int.min_le_left _ _
      · exact Int.le_trans (Int.min_le_right _ _) (h2 y hy)
theorem mostI_mem : ∀ (n : Int) (ns : List Int), mostI (n :: ns) ∈ n :: ns ∧ ∀ y ∈ n :: ns, y ≤ mostI (n :: ns)
  | n, [] => by simp [mostI]
  | n, m :: ns => by
    obtain ⟨h1, h2⟩ := mostI_mem m ns
    show max n (mostI (m :: ns)) ∈ _ ∧ _
    constructor
    · rcases Int.le_total n (mostI (m :: ns)) with h | h
      · rw [Int.max_eq_right h]; exact List.mem_cons_of_mem _ h1
      · rw [Int.max_eq_left h]; exact List.mem_cons_self
    · intro y hy
      show y ≤ max n (mostI (m :: ns))
      rcases List.mem_cons.mp hy with rfl | hy
      · exact Int.le_max_left _ _
      · exact Int.le_trans (h2 y hy) (Int.le_max_right _ _)
theorem s_min (hc : X.calm = true) : CallS X cA (.builtin "min") fMin := fun S sto ds vs Q ok r p pins s σ us I rv => by
  unfold fMin at p
  split at p
  · rename_i i j
    obtain ⟨v, u, rfl, r1, r2⟩ := two_rep r
    cases (show v = .int i from r1)
    cases (show u = .int j from r2)
    exact call_min2 hc pins s σ S.H _ us Q I rv ⟨i, j, rfl, ret_same ok p rfl⟩
  · split at p
    · rename_i d _ n ns e
      obtain ⟨v, rfl, r1⟩ := one_rep r
      obtain ⟨a, rfl, h1⟩ := lsq_ints ok r1 e
      refine cr_min hc pins s σ S.H _ us Q I rv ⟨a, n :: ns, rfl, h1, by simp, fun m hm hl => ?_⟩
      obtain ⟨q1, q2⟩ := leastI_mem n ns
      have : m = leastI (n :: ns) := Int.le_antisymm (hl _ q1) (q2 m hm)
      subst this
      exact ret_same ok p rfl
    · exact p.elim
  · exact p.elim
theorem s_max (hc : X.calm = true) : CallS X cA (.builtin "max") fMax := fun S sto ds vs Q ok r p pins s σ us I rv => by
  unfold fMax at p
  split at p
  · rename_i i j
    obtain ⟨v, u, rfl, r1, r2⟩ := two_rep r
    cases (show v = .int i from r1)
    cases (show u = .int j from r2)
    exact call_max2 hc pins s σ S.H _ us Q I rv ⟨i, j, rfl, ret_same ok p rfl⟩
  · split at p
    · rename_i d _ n ns e
      obtain ⟨v, rfl, r1⟩ := one_rep r
      obtain ⟨a, rfl, h1⟩ := lsq_ints ok r1 e
      refine cr_max hc pins s σ S.H _ us Q I rv ⟨a, n :: ns, rfl, h1, by simp, fun m hm hl => ?_⟩
      obtain ⟨q1, q2⟩ := mostI_mem n ns
      have : m = mostI (n :: ns) := Int.le_antisymm (q2 m hm) (hl _ q1)
      subst this
      exact ret_same ok p rfl
    · exact p.elim
  · exact p.elim
theorem n_len (x : List DV) (s : Sto) : (fLen x s).noexc := by unfold fLen; split <;> (try split) <;> trivial
theorem n_sum (x : List DV) (s : Sto) : (fSum x s).noexc := by unfold fSum; split <;> (try split) <;> trivial
theorem n_all (x : List DV) (s : Sto) : (fAll x s).noexc := by unfold fAll; split <;> (try split) <;> trivial
theorem n_any (x : List DV) (s : Sto) : (fAny x s).noexc := by unfold fAny; split <;> (try split) <;> trivial
theorem n_abs (x : List DV) (s : Sto) : (fAbs x s).noexc := by unfold fAbs; split <;> (try split) <;> trivial
theorem n_int (x : List DV) (s : Sto) : (fInt x s).noexc := by unfold fInt; split <;> (try split) <;> trivial
theorem n_min (x : List DV) (s : Sto) : (fMin x s).noexc := by unfold fMin; split <;> (try split) <;> trivial
theorem n_max (x : List DV) (s : Sto) : (fMax x s).noexc := by unfold fMax; split <;> (try split) <;> trivial
theorem n_list (b : Bool) (x : List DV) (s : Sto) : (fList b x s).noexc := by
  unfold fList; split
  · split
    · exact n_newL _ _ _
    · trivial
  · trivial
end
end BB
namespace BB
open PySem PySem.Spec PyProof.Rows L2

/-! ### isinstance of built-in classes -/
def tyD (sto : Sto) : DV → Option String
  | .non => some "NoneType"
  | .bl _ => some "bool"
  | .int _ => some "int"
  | .str _ => some "str"
  | .tup _ => some "tuple"
  | .lstG _ _ => some "list"
  | .dicG _ _ _ => some "dict"
  | .loc n => match sto[n]? with
    | some (.lst _) => some "list"
    | some (.dT _ _) => some "dict"
    | some (.dK _ _) => some "dict"
    | _ => none
  | _ => none
def fIsi (ds : List DV) (sto : Sto) : Res DV := match ds with
  | [x, .ty T] => match tyD sto x with
    | some t => match kitB t T with
      | some b => .ok (.bl b) sto
      | none => .stuck
    | none => .stuck
  | _ => .stuck
section
variable {X : Cx} {cA : CA} {S : Sys} {sto : Sto}
theorem tyD.rep {K : PySem.W.Frag} {d : DV} {v : V} {t : String} (ok : StoOk K cA S sto) (r : Rep K cA S d v) (h : tyD sto d = some t) : TyX K S.H v (.type t) := by
  cases d <;> simp only [tyD] at h <;> try (cases h; done)
  · cases h; cases (show v = .non from r); exact .base .non
  · cases h; rename_i b; cases (show v = .bl b from r); exact .base (.bl b)
  · cases h; rename_i b; cases (show v = .int b from r); exact .base (.int b)
  · cases h; rename_i b; cases (show v = .str b from r); exact .base (.str b)
  · cases h; obtain ⟨a, vs, rfl, h1, _⟩ := r; exact .base (.tup h1)
  · cases h; obtain ⟨a, vs, rfl, _, h1, _⟩ := r; exact .base (.lst h1)
  · cases h; obtain ⟨a, vs, rfl, _, h1, _⟩ := r; exact .base (.dT h1)
  · rename_i n
    obtain ⟨hn, rfl⟩ := r
    split at h
    · rename_i e; cases h; obtain ⟨vs, e1, _⟩ := ok.ob n _ e; exact .base (.lst e1)
    · rename_i e; cases h; obtain ⟨vs, e1, _⟩ := ok.ob n _ e; exact .base (.dT e1)
    · rename_i e; cases h; obtain ⟨vs, e1, _⟩ := ok.ob n _ e; exact .base (.dK e1)
    · cases h
theorem s_isi : CallS X cA (.builtin "isinstance") fIsi := fun S sto ds vs Q ok r p pins s σ us I rv => by
  unfold fIsi at p
  split at p
  · rename_i x T
    obtain ⟨v, u, rfl, r1, r2⟩ := two_rep r
    cases (show u = .ty T from r2)
    split at p
    · rename_i t e
      split at p
      · rename_i b e2
        exact call_isi pins s σ S.H _ us Q I rv ⟨v, .ty T, .type t, .type T, b, rfl, .ty T, tyD.rep ok r1 e, kit_ty e2, ret_same ok p rfl⟩
      · exact p.elim
    · exact p.elim
  · exact p.elim
theorem n_isi (x : List DV) (s : Sto) : (fIsi x s).noexc := by
  unfold fIsi
  split
  · split
    · split <;> trivial
    · trivial
  · trivial
variable {Z : Nat → L2.St → Hp → Prop}
theorem g_ty {x : Str} {T : String} {pos : Pos} (hm : X.mg x = none) (hg : Gl X x := by rfl) (hv : bootBuiltins x = some (.type T) := by decide +kernel) (hn : x ≠ "__name__" := by decide) (hd : (x == ("__debug__" : Str)) = false := by decide) : GE X cA Z (.Name x pos) (eC (.ty T)) :=
  g_c (pe_bltn (v := .ty T) hg hm hv rfl hn hd) fun _ => rfl
end
theorem kb_int_int : kitB "int" "int" = some true := by decide +kernel
theorem kb_int_bool : kitB "int" "bool" = some false := by decide +kernel
theorem kb_int_list : kitB "int" "list" = some false := by decide +kernel
theorem kb_int_tuple : kitB "int" "tuple" = some false := by decide +kernel
theorem kb_bool_int : kitB "bool" "int" = some true := by decide +kernel
theorem kb_bool_bool : kitB "bool" "bool" = some true := by decide +kernel
theorem kb_list_list : kitB "list" "list" = some true := by decide +kernel
theorem kb_tuple_tuple : kitB "tuple" "tuple" = some true := by decide +kernel
theorem kb_tuple_list : kitB "tuple" "list" = some false := by decide +kernel

/-! ### sorted -/
def encD (d : DV) : PyData := (pyW look0 d).getD .none
def isTup1 : PyData → Bool
  | .tuple (_ :: _) => true
  | _ => false
def noTup : PyData → Bool
  | .none => false
  | .tuple _ => false
  | _ => true
def sortB (es : List PyData) : Bool := (es.all fun a => es.all fun b => PySem.W.alike a b) && (es.all isTup1 || es.all noTup) && es.all fun a => decide (a.depth ≤ 64)
def fSorted (b : Bool) (ds : List DV) (sto : Sto) : Res DV := match ds with
  | [d] => match lsqOf sto d with
    | some xs => if (pyWL look0 xs).isSome = true ∧ sortB (xs.map encD) = true ∧ xs.length ≤ 1000000 then newL b (xs.mergeSort (PySem.W.dataLe false encD)) sto else .stuck
    | none => .stuck
  | _ => .stuck
section
variable {X : Cx} {cA : CA} {S : Sys} {sto : Sto}
theorem pyWL_enc : ∀ {xs : List DV} {es : List PyData}, pyWL look0 xs = some es → es = xs.map encD
  | [], es, h => by cases h; rfl
  | x :: xs, es, h => by
    unfold pyWL at h
    split at h
    · rename_i a as e1 e2
      cases h
      rw [pyWL_enc e2]
      simp [encD, e1]
    · cases h
theorem each_of {K : PySem.W.Frag} {R : Value → DV → Prop} (hR : ∀ v d x, RelV x v → Rep K cA S d x → R v d) : ∀ {xs : List DV} {vs : List V} {us : List Value}, RepL K cA S xs vs → Vals vs us → PySem.W.EachIs R us xs
  | [], _, _, h, r => by cases (show _ = [] from h); cases r; exact .nil
  | x :: xs, _, _, ⟨v, w, e, h1, h2⟩, r => by
    subst e
    cases r with
    | cons r1 r2 => exact .cons (hR _ _ _ r1 h1) (each_of hR h2 r2)
theorem each_read {K : PySem.W.Frag} {h : Heap} : ∀ {xs : List DV} {us : List Value} {as : List Addr}, ReadsAll h us (xs.map encD) as → PySem.W.EachIs (fun v d => ∃ as, Reads h v (encD d) as) us xs
  | [], us, as, r => by cases r; exact .nil
  | x :: xs, us, as, r => by
    rw [List.map_cons] at r
    cases r with
    | cons r1 r2 => exact .cons ⟨_, r1⟩ (each_read (K := K) r2)
theorem each_back {K : PySem.W.Frag} : ∀ {xs : List DV} {us : List Value}, PySem.W.EachIs (fun v d => ∃ x, RelV x v ∧ Rep K cA S d x) us xs → ∃ vs, Vals vs us ∧ RepL K cA S xs vs
  | [], _, h => by cases h; exact ⟨[], .nil, rfl⟩
  | x :: xs, _, h => by
    cases h with
    | cons h1 h2 =>
      obtain ⟨v, r, q⟩ := h1
      obtain ⟨vs, rs, qs⟩ := each_back h2
      exact ⟨v :: vs, .cons r rs, v, vs, rfl, q, qs⟩
theorem s_sorted (b : Bool) (hu : X.A.units + 200 < cLine) : CallS X cA (.builtin "sorted") (fSorted b) := fun S sto ds vs Q ok r p pins s σ us I rv => by
  unfold fSorted at p
  split at p
  · split at p
    · rename_i d _ xs e
      split at p
      · rename_i hc
        obtain ⟨hpy, hb, hl⟩ := hc
        obtain ⟨es, hes⟩ := Option.isSome_iff_exists.mp hpy
        obtain ⟨v, rfl, r1⟩ := one_rep r
        obtain ⟨a, ws, rfl, h1, h2⟩ := lsqOf.rep ok r1 e
        obtain rfl := Vals.ref1 rv
        obtain ⟨its, rw', pl, hz⟩ := I.list h1
        have hdp := pyWL.rep (cA := cA) (look := look0) (fun _ _ z _ => by cases z) xs ws es h2 hes
        obtain ⟨as, hra⟩ := Dp.readsAll I es ws its hdp rw'
        rw [pyWL_enc hes] at hra
        unfold sortB at hb
        simp only [Bool.and_eq_true, Bool.or_eq_true] at hb
        obtain ⟨⟨b1, b2⟩, b3⟩ := hb
        refine PySem.W.sorted_data (enc := encD) (R := fun v d => ∃ x, RelV x v ∧ Rep X.K cA S d x) (bs := xs) pl.isList (each_of (fun v d x r1 r2 => ⟨x, r1, r2⟩) h2 rw') (each_read (K := X.K) hra) ?_ ?_ (lim hl) ?_ ?_
        · intro d hd d' hd'
          rw [List.all_eq_true] at b1
          have := b1 d hd
          rw [List.all_eq_true] at this
          exact this d' hd'
        · rcases b2 with b2 | b2
          · refine .inl fun d hd => ?_
            rw [List.all_eq_true] at b2
            have := b2 d hd
            cases d <;> simp only [isTup1] at this <;> try (cases this; done)
            rename_i ys
            cases ys with
            | nil => cases this
            | cons y ys => exact ⟨y, ys, rfl⟩
          · refine .inr fun d hd => ?_
            rw [List.all_eq_true] at b2
            have := b2 d hd
            refine ⟨fun z => ?_, fun xs z => ?_⟩ <;> subst z <;> cases this
        · intro d hd
          rw [List.all_eq_true] at b3
          have := b3 (encD d) (List.mem_map.mpr ⟨d, hd, rfl⟩)
          simp only [decide_eq_true_eq] at this
          omega
        · intro out hlen hE
          obtain ⟨vs', rs', qs'⟩ := each_back hE
          obtain ⟨n, hn⟩ := sortedAll_at s.heap its out.toArray
          have hd : s.heap.objs.size ≤ s.heap.objs.size + 1 := Nat.le_succ _
          refine ⟨.ref (s.heap.objs.size + 1), upd S.H (s.heap.objs.size + 1) (.lst vs'), I.laid (t' := s.toks) (fun b o e => sortedAll_old e) hd ⟨?_, out, n, rs', hn⟩, rfl, ?_⟩
          · rw [rs'.length, hlen]; exact lim hl
          · exact ret_lst ok p qs' (I.hok.fresh hd)
      · exact p.elim
    · exact p.elim
  · exact p.elim
theorem n_sorted (b : Bool) (x : List DV) (s : Sto) : (fSorted b x s).noexc := by
  unfold fSorted
  split
  · split
    · split
      · exact n_newL _ _ _
      · trivial
    · trivial
  · trivial
end

/-! ### methods of lists of the store -/
def eBM (f : Nat → List DV → List DV → Sto → Res DV) (o : EM) (t : AM) : EM := fun env sto => (o env sto).bind fun x s1 => match x with
  | .loc n => match s1[n]? with
    | some (.lst _) => (t env s1).bind fun as s2 => match s2[n]? with
      | some (.lst ds) => f n ds as s2
      | _ => .stuck
    | _ => .stuck
  | _ => .stuck
def mAppend (n : Nat) (ds as : List DV) (sto : Sto) : Res DV := match as with
  | [y] => if ds.length < 1000000 then .ok .non (sto.set n (.lst (ds ++ [y]))) else .stuck
  | _ => .stuck
def mExtend (n : Nat) (ds as : List DV) (sto : Sto) : Res DV := match as with
  | [y] => match lstOf sto y with
    | some ys => if ds.length + ys.length ≤ 1000000 then .ok .non (sto.set n (.lst (ds ++ ys))) else .stuck
    | none => .stuck
  | _ => .stuck
def MetS (X : Cx) (cA : CA) (id : String) (f : Nat → List DV → List DV → Sto → Res DV) : Prop :=
  ∀ S sto n ds as ws vs (Q : VK), StoOk X.K cA S sto → n < S.N → sto[n]? = some (.lst ds) → S.H (S.r n) = some (.lst ws) → RepL X.K cA S ds ws → RepL X.K cA S as vs → Post X.K cA S (f n ds as sto) (VQ X.K cA Q) (fun _ _ _ => False) →
    ∀ (pins : List (Addr × Obj)) (s : Shared) (σ : L2.St) (us : List Value), Inv X pins σ S.H s → Vals vs us → wpAny (model X.prog X.w) X.A (call (.builtin id) (.ref (S.r n) :: us)) (EP X pins σ Q) X.xe s
def wMt (X : Cx) (id : String) : V → List V → Hp → VK → Prop := fun x vs H Q => ∀ (pins : List (Addr × Obj)) (s : Shared) (σ : L2.St) (v : Value) (us : List Value), Inv X pins σ H s → RelV x v → Vals vs us → wpAny (model X.prog X.w) X.A (call (.builtin id) (v :: us)) (EP X pins σ Q) X.xe s
theorem mtW (X : Cx) (id : String) : MtR X id (wMt X id) := fun pins s σ H x xs v us Q I r rs h => h pins s σ v us I r rs
section
variable {X : Cx} {cA : CA} {Z : Nat → L2.St → Hp → Prop} {apos cpos : Pos} {o e : Expr} {es : List Expr} {mo : EM} {t : AM} {name : Str} {id : String} {f : Nat → List DV → List DV → Sto → Res DV}
theorem mut_ret {S : Sys} {sto : Sto} {n : Nat} {ho : HO} {d : DO} {r : DV} {v : V} {Q : VK} {Zf : Nat → Sto → Sys → Prop} (ok : StoOk X.K cA S sto) (hn : n < S.N) (na : S.Al n) (nz : ∀ o u, S.H (S.r n) ≠ some (.frz o u)) (hd : ORep X.K cA S d (some ho)) (h : Post X.K cA S (.ok r (sto.set n d)) (VQ X.K cA Q) Zf) (rr : Rep X.K cA S r v) (hf : ∀ k, d ≠ .fn k := by intro k z; cases z) : Q v (upd S.H (S.r n) ho) :=
  h (S.mut n ho) (Grow.mut ok hn na nz) (ok.mut hn na nz hd hf) v (rr.grow ok (Grow.mut ok hn na nz))
theorem g_bm (pa : PlainAttrs "list") (slot : Slot "list" name id) (hty : typeOf (.builtin id) = pure (.type "method_descriptor")) (hm : MetS X cA id f) (hn : ∀ n ds as s, (f n ds as s).noexc) (ho : GE X cA Z o mo) (ha : GA X cA Z (e :: es) t)
    (hbase : attributeBase o name X.env (eval o X.env) = eval o X.env := by exact abase_plain (by first | rfl | decide))
    (hfew : ((backTo cpos (starEach (e :: es) X.env)).all (fun x => !x.1) && (backToKw cpos (keywordEach [] X.env)).all (fun x => x.1.isSome)
      && decide ((e :: es).length + ([] : List Keyword).length + (if ([] : List Keyword).isEmpty then 0 else 1) < 30)) = true := by exact few_plain rfl rfl) (hline : (apos.endLine == cpos.line) = true := by rfl)
    (hs : starEach (e :: es) X.env = (false, eval e X.env) :: starEach es X.env := by exact star_plain rfl) (hplain : (backTo cpos (starEach es X.env)).any (·.1) = false := by exact plain_any rfl) : GE X cA Z (.Call (.Attribute o name apos) (e :: es) [] cpos) (eBM f mo t) := .mk fun S σ env sto ok eo Q p => by
  refine wE.of (pe_bm pa slot hty (mtW X id) (peW o) (paW (e :: es)) (hbase := hbase) (hfew := hfew) (hline := hline) (hs := hs) (hplain := hplain)) (ho.then ok eo p fun x s1 S1 vx g1 ok1 eo1 rx h1 => ?_)
  cases x <;> first | exact h1.elim | skip
  rename_i n
  simp only at h1
  obtain ⟨hn1, rfl⟩ := rx
  split at h1
  · rename_i ds0 e0
    obtain ⟨ws0, q0, _⟩ := ok1.ob n _ e0
    refine ⟨.inl ⟨rfl, ws0, sqL q0⟩, ha.then ok1 eo1 h1 fun as s2 S2 vs g2 ok2 eo2 ras h2 => ?_⟩
    split at h2
    · rename_i ds e2
      obtain ⟨ws, q2, rds⟩ := ok2.ob n _ e2
      intro pins s σ' v us I rv rus
      cases (show v = .ref (S1.r n) from rv)
      rw [← g2.r n hn1]
      exact hm S2 s2 n ds as ws vs Q ok2 (ok2.lt e2) e2 q2 rds ras (h2.noZ (hn _ _ _ _)) pins s σ' us I rus
    · exact h2.elim
  · exact h1.elim
theorem s_append : MetS X cA "list.append" mAppend := fun S sto n ds as ws vs Q ok hn e q rds ras p pins s σ us I rus => by
  unfold mAppend at p
  split at p
  · split at p
    · rename_i y hl
      obtain ⟨v, rfl, rv⟩ := one_rep ras
      exact mt_append pins s σ S.H (.ref (S.r n)) _ (.ref (S.r n)) us Q I rfl rus ⟨S.r n, ws, v, rfl, rfl, q, by rw [← rds.length]; exact limlt hl, mut_ret (d := .lst _) ok hn (ok.alive e (by simp)) (fun o u z => by rw [q] at z; cases z) ⟨_, rfl, rds.app (.one rv)⟩ p rfl⟩
    · exact p.elim
  · exact p.elim
theorem s_extend : MetS X cA "list.extend" mExtend := fun S sto n ds as ws vs Q ok hn e q rds ras p pins s σ us I rus => by
  unfold mExtend at p
  split at p
  · split at p
    · rename_i y _ ys e2
      split at p
      · rename_i hl
        obtain ⟨v, rfl, rv⟩ := one_rep ras
        obtain ⟨b, zs, rfl, hb, rz⟩ := lstOf.rep ok rv e2
        exact mt_extend pins s σ S.H (.ref (S.r n)) _ (.ref (S.r n)) us Q I rfl rus ⟨S.r n, b, ws, zs, rfl, rfl, q, hb, by rw [← rds.length, ← rz.length]; exact lim hl, mut_ret (d := .lst _) ok hn (ok.alive e (by simp)) (fun o u z => by rw [q] at z; cases z) ⟨_, rfl, rds.app rz⟩ p rfl⟩
      · exact p.elim
    · exact p.elim
  · exact p.elim
theorem n_append (n : Nat) (ds as : List DV) (s : Sto) : (mAppend n ds as s).noexc := by unfold mAppend; split <;> (try split) <;> trivial
theorem n_extend (n : Nat) (ds as : List DV) (s : Sto) : (mExtend n ds as s).noexc := by
  unfold mExtend
  split
  · split
    · split <;> trivial
    · trivial
  · trivial
theorem g_append (ho : GE X cA Z o mo) (ha : GA X cA Z [e] t) (hbase : attributeBase o "append" X.env (eval o X.env) = eval o X.env := by exact abase_plain (by first | rfl | decide))
    (hfew : ((backTo cpos (starEach [e] X.env)).all (fun x => !x.1) && (backToKw cpos (keywordEach [] X.env)).all (fun x => x.1.isSome)
      && decide ([e].length + ([] : List Keyword).length + (if ([] : List Keyword).isEmpty then 0 else 1) < 30)) = true := by exact few_plain rfl rfl) (hline : (apos.endLine == cpos.line) = true := by rfl)
    (hs : starEach [e] X.env = [(false, eval e X.env)] := by exact star_one rfl) : GE X cA Z (.Call (.Attribute o "append" apos) [e] [] cpos) (eBM mAppend mo t) :=
  g_bm PySem.F.plainAttrs_list PySem.F.slot_list_append PySem.F.type_list_append s_append n_append ho ha hbase hfew hline hs rfl
theorem g_extend (ho : GE X cA Z o mo) (ha : GA X cA Z [e] t) (hbase : attributeBase o "extend" X.env (eval o X.env) = eval o X.env := by exact abase_plain (by first | rfl | decide))
    (hfew : ((backTo cpos (starEach [e] X.env)).all (fun x => !x.1) && (backToKw cpos (keywordEach [] X.env)).all (fun x => x.1.isSome)
      && decide ([e].length + ([] : List Keyword).length + (if ([] : List Keyword).isEmpty then 0 else 1) < 30)) = true := by exact few_plain rfl rfl) (hline : (apos.endLine == cpos.line) = true := by rfl)
    (hs : starEach [e] X.env = [(false, eval e X.env)] := by exact star_one rfl) : GE X cA Z (.Call (.Attribute o "extend" apos) [e] [] cpos) (eBM mExtend mo t) :=
  g_bm PySem.F.plainAttrs_list PySem.F.slot_list_extend PySem.F.type_list_extend s_extend n_extend ho ha hbase hfew hline hs rfl
end
end BB
namespace BB
open PySem PySem.Spec PyProof.Rows L2

/-! ### targets: names, tuples of them -/
inductive Pat where
  | nm (i : Nat)
  | tp (ps : List Pat)
mutual
def gPat (K : PySem.W.Frag) : Pat → TG
  | .nm i => gName i
  | .tp ps => gTup K ps.length (gPats K ps)
def gPats (K : PySem.W.Frag) : List Pat → TGs
  | [] => gNil
  | p :: ps => gCons (gPat K p) (gPats K ps)
end
mutual
def bindP : Pat → DV → Env → Option Env
  | .nm i => fun d env => some (env.set i (some d))
  | .tp ps => fun d env => match d with
    | .tup ds => bindPs ps ds env
    | _ => none
def bindPs : List Pat → List DV → Env → Option Env
  | [] => fun ds env => match ds with
    | [] => some env
    | _ => none
  | p :: ps => fun ds env => match ds with
    | d :: ds => match bindP p d env with
      | some env1 => bindPs ps ds env1
      | none => none
    | [] => none
end
mutual
def Pat.slots : Pat → List Nat
  | .nm i => [i]
  | .tp ps => slotsL ps
def slotsL : List Pat → List Nat
  | [] => []
  | p :: ps => p.slots ++ slotsL ps
end
theorem wipe_set {σ : L2.St} {i : Nat} {x : Option V} : ∀ {vs : List Nat}, i ∈ vs → wipe (σ.set i x) vs = wipe σ vs
  | v :: vs, h => by
    unfold wipe
    by_cases hi : i ∈ vs
    · rw [wipe_set hi]
    · have e : i = v := by rcases List.mem_cons.mp h with h | h; exact h; exact absurd h hi
      subst e
      have : ∀ (σ : L2.St) (ws : List Nat), i ∉ ws → wipe (σ.set i x) ws = (wipe σ ws).set i x := by
        intro σ ws
        induction ws with
        | nil => intro _; rfl
        | cons w ws ih =>
          intro hw
          simp only [List.mem_cons, not_or] at hw
          unfold wipe
          rw [ih hw.2, List.set_comm _ _ hw.1]
      rw [this σ vs hi, List.set_set]
section
variable {K : PySem.W.Frag} {cA : CA} {S : Sys}
mutual
theorem gPat.run {H : Hp} (hH : H = S.H) {Q : L2.St → Hp → Prop} : ∀ (p : Pat) (d : DV) (v : V) (env env' : Env) (σ : L2.St), bindP p d env = some env' → Rep K cA S d v → EnvOk K cA S env σ →
    (∀ σ', EnvOk K cA S env' σ' → (∀ vs, (∀ i ∈ p.slots, i ∈ vs) → wipe σ' vs = wipe σ vs) → Q σ' H) → gPat K p v σ H Q
  | .nm i, d, v, env, env', σ, hb, r, eo, h => by
    cases hb
    exact h _ (eo.set r) fun vs hv => wipe_set (hv i (by simp [Pat.slots]))
  | .tp ps, d, v, env, env', σ, hb, r, eo, h => by
    cases d <;> simp only [bindP] at hb <;> try (cases hb; done)
    rename_i ds
    obtain ⟨a, vs, e, h1, h2⟩ := r
    have hl := bindPs_len ps ds env env' hb
    refine ⟨a, vs, e, by rw [hH]; exact sqT h1, by rw [← h2.length, hl], ?_⟩
    exact gPats.run hH ps ds vs env env' σ hb h2 eo h
theorem gPats.run {H : Hp} (hH : H = S.H) {Q : L2.St → Hp → Prop} : ∀ (ps : List Pat) (ds : List DV) (vs : List V) (env env' : Env) (σ : L2.St), bindPs ps ds env = some env' → RepL K cA S ds vs → EnvOk K cA S env σ →
    (∀ σ', EnvOk K cA S env' σ' → (∀ vs, (∀ i ∈ slotsL ps, i ∈ vs) → wipe σ' vs = wipe σ vs) → Q σ' H) → gPats K ps vs σ H Q
  | [], [], vs, env, env', σ, hb, r, eo, h => by
    cases hb
    exact ⟨r, h σ eo fun _ _ => rfl⟩
  | p :: ps, d :: ds, _, env, env', σ, hb, ⟨v, r, e, h1, h2⟩, eo, h => by
    simp only [bindPs] at hb
    split at hb
    · rename_i env1 e1
      refine ⟨v, r, e, gPat.run hH p d v env env1 σ e1 h1 eo fun σ1 eo1 w1 => ?_⟩
      refine gPats.run hH ps ds r env1 env' σ1 hb h2 eo1 fun σ2 eo2 w2 => h σ2 eo2 fun vs hv => ?_
      rw [w2 vs fun i hi => hv i (by simp [slotsL, hi]), w1 vs fun i hi => hv i (by simp [slotsL, hi])]
    · cases hb
  | [], _ :: _, _, env, env', σ, hb, _, _, _ => by cases hb
  | _ :: _, [], _, env, env', σ, hb, _, _, _ => by cases hb
theorem bindPs_len : ∀ (ps : List Pat) (ds : List DV) (env env' : Env), bindPs ps ds env = some env' → ds.length = ps.length
  | [], [], _, _, _ => rfl
  | p :: ps, d :: ds, env, env', hb => by
    simp only [bindPs] at hb
    split at hb
    · rename_i env1 e1
      simp [bindPs_len ps ds env1 env' hb]
    · cases hb
  | [], _ :: _, env, env', hb => by cases hb
  | _ :: _, [], env, env', hb => by cases hb
end
end

/-! ### what is walked -/
inductive Src where
  | fix (xs : List DV)
  | live (n : Nat)
def Src.view : Src → Sto → Option (List DV)
  | .fix xs, _ => some xs
  | .live n, sto => match sto[n]? with
    | some (.lst ds) => some ds
    | _ => none
def Src.len (s : Src) (sto : Sto) : Nat := match s.view sto with
  | some xs => xs.length
  | none => 0
abbrev IM := Env → Sto → Res Src
def Walks (K : PySem.W.Frag) (cA : CA) (J : It) (S : Sys) (src : Src) : Prop := ∀ S' sto', Grow S S' → StoOk K cA S' sto' → ∀ xs, src.view sto' = some xs →
  (∀ i, xs.length ≤ i → J.stop i S'.H) ∧ ∀ i d, xs[i]? = some d → J.go i S'.H ∧ ∀ v H', J.yld i S'.H v H' → ∃ S'', S''.H = H' ∧ Grow S' S'' ∧ StoOk K cA S'' sto' ∧ Rep K cA S'' d v
def wI (X : Cx) (tg iter : Expr) : TI := fun σ H R => ∀ (pins : List (Addr × Obj)) (s : Shared), Inv X pins σ H s → wpAny (model X.prog X.w) X.A (eval iter X.env) (fun v s1 => wpAny (model X.prog X.w) X.A (pyIter v) (PIE X pins σ tg R) X.xe s1) X.xe s
theorem piW {X : Cx} (tg iter : Expr) : PI X tg iter (wI X tg iter) := ⟨fun pins s σ H R I h => h pins s I⟩
theorem wI.of {X : Cx} {tg iter : Expr} {w : TI} (h : PI X tg iter w) {σ : L2.St} {H : Hp} {R : It → Hp → Prop} (q : w σ H R) : wI X tg iter σ H R := fun pins s I => h.run pins s σ H R I q
structure GI (X : Cx) (cA : CA) (Z : Nat → L2.St → Hp → Prop) (tg iter : Expr) (m : IM) : Prop where
  run : ∀ S σ env sto, StoOk X.K cA S sto → EnvOk X.K cA S env σ → ∀ R : It → Hp → Prop, Post X.K cA S (m env sto) (fun src _ S' => ∀ J, Walks X.K cA J S' src → R J S'.H) (fun c _ S' => Z c σ S'.H) → wI X tg iter σ S.H R
def isTup : DV → Bool
  | .tup _ => true
  | _ => false
def srcOf (sto : Sto) : DV → Option Src
  | .tup ds => some (.fix ds)
  | .lstG _ ds => some (.fix ds)
  | .scr ns => some (.fix (ns.map DV.int))
  | .loc n => match sto[n]? with
    | some (.lst _) => some (.live n)
    | _ => none
  | _ => none
def iSeq (m : EM) : IM := fun env sto => (m env sto).bind fun d s => match srcOf s d with
  | some src => .ok src s
  | none => .stuck
section
variable {X : Cx} {cA : CA} {Z : Nat → L2.St → Hp → Prop} {tg l : Expr} {m : EM} {S : Sys} {sto : Sto}
theorem walks_L {K : PySem.W.Frag} {src : Src} {a : Addr} (h : ∀ S' sto', Grow S S' → StoOk K cA S' sto' → ∀ xs, src.view sto' = some xs → ∃ vs, SqL K S'.H a vs ∧ RepL K cA S' xs vs) : Walks K cA (Itl K a) S src := fun S' sto' g ok' xs hv => by
  obtain ⟨vs, h1, h2⟩ := h S' sto' g ok' xs hv
  refine ⟨fun i hi => ⟨vs, h1, by rw [← h2.length]; exact hi⟩, fun i d hd => ?_⟩
  obtain ⟨v, e, r⟩ := h2.get hd
  refine ⟨⟨vs, v, h1, e⟩, fun v' H' hy => ?_⟩
  obtain ⟨eH, hy⟩ := hy
  have := hy vs h1
  rw [e] at this; cases this
  exact ⟨S', eH.symm, Grow.refl ok', ok', r⟩
theorem walks_T {K : PySem.W.Frag} {xs : List DV} {a : Addr} {vs : List V} (ok : StoOk K cA S sto) (h : S.H a = some (.tup vs)) (r : RepL K cA S xs vs) : Walks K cA (Itt K a) S (.fix xs) := fun S' sto' g ok' xs' hv => by
  cases hv
  have h1 : SqT K S'.H a vs := sqT ((g.keeps ok).t a vs h)
  have h2 := r.grow ok g
  refine ⟨fun i hi => ⟨vs, h1, by rw [← h2.length]; exact hi⟩, fun i d hd => ?_⟩
  obtain ⟨v, e, r⟩ := h2.get hd
  refine ⟨⟨vs, v, h1, e⟩, fun v' H' hy => ?_⟩
  obtain ⟨eH, hy⟩ := hy
  have := hy vs h1
  rw [e] at this; cases this
  exact ⟨S', eH.symm, Grow.refl ok', ok', r⟩
theorem srcOf.walks {K : PySem.W.Frag} {d : DV} {v : V} {src : Src} (ok : StoOk K cA S sto) (r : Rep K cA S d v) (h : srcOf sto d = some src) (ht : isTup d = false) : ∃ a, v = .ref a ∧ (∃ vs, SqL K S.H a vs) ∧ Walks K cA (Itl K a) S src := by
  cases d <;> simp only [srcOf, isTup] at h ht <;> try (cases h; done)
  · cases ht
  · rename_i ds
    cases h
    have r0 := r
    obtain ⟨a, vs, e, hf, h1, h2⟩ := r
    refine ⟨a, e, ⟨vs, sqL h1⟩, walks_L fun S' sto' g ok' xs hv => ?_⟩
    cases hv
    exact ⟨vs, sqL ((g.keeps ok).h a _ h1 (fun _ z => nomatch z) hf.u), h2.grow ok g⟩
  · rename_i ns
    cases h
    obtain ⟨a, e, h1⟩ := r
    refine ⟨a, e, ⟨_, h1.sq⟩, walks_L fun S' sto' g ok' xs hv => ?_⟩
    cases hv
    have r' : Rep K cA S' (.scr ns) (.ref a) := Rep.grow (⟨a, rfl, h1⟩ : Rep K cA S (.scr ns) (.ref a)) ok g
    obtain ⟨a', e', h1'⟩ := r'
    cases e'
    exact ⟨_, h1'.sq, RepL.ints ns⟩
  · rename_i n
    obtain ⟨hn, e⟩ := r
    split at h
    · rename_i ds e1
      cases h
      obtain ⟨vs, q1, q2⟩ := ok.ob n _ e1
      refine ⟨S.r n, e, ⟨vs, sqL q1⟩, walks_L fun S' sto' g ok' xs hv => ?_⟩
      simp only [Src.view] at hv
      split at hv
      · rename_i ds' e2
        cases hv
        obtain ⟨vs', q1', q2'⟩ := ok'.ob n _ e2
        rw [g.r n hn] at q1'
        exact ⟨vs', sqL q1', q2'⟩
      · cases hv
    · cases h
theorem gi_seq (h : GE X cA Z l m) : GI X cA Z tg l (iSeq m) := .mk fun S σ env sto ok eo R p => by
  by_cases ht : ∃ d s, m env sto = .ok d s ∧ isTup d = true
  · obtain ⟨d, s, e, ht⟩ := ht
    refine wI.of (pi_tup (peW l)) (h.thenE ok eo p fun d' s' S1 v q g1 ok1 eo1 r h1 => ?_)
    rw [e] at q; cases q
    cases d <;> simp only [isTup] at ht <;> try (cases ht; done)
    obtain ⟨a, vs, rfl, q1, q2⟩ := r
    exact ⟨a, rfl, ⟨vs, sqT q1⟩, h1 S1 (Grow.refl ok1) ok1 _ (walks_T ok1 q1 q2)⟩
  · refine wI.of (pi_list (peW l)) (h.thenE ok eo p fun d s S1 v q g1 ok1 eo1 r h1 => ?_)
    split at h1
    · rename_i src e
      have ht : isTup d = false := by
        cases hh : isTup d with
        | false => rfl
        | true => exact absurd ⟨d, s, q, hh⟩ ht
      obtain ⟨a, rfl, hq, w⟩ := srcOf.walks ok1 r e ht
      exact ⟨a, rfl, hq, h1 S1 (Grow.refl ok1) ok1 _ w⟩
    · exact h1.elim
/-- range -/
def rngD (lo : Int) (n : Nat) : List DV := (List.range n).map fun i => .int (lo + (i : Nat))
def iRange1 (t : AM) : IM := fun env sto => (t env sto).bind fun ds s => match ds with
  | [.int j] => if -1000000 ≤ j ∧ j ≤ 1000000 then .ok (.fix (rngD 0 j.toNat)) s else .stuck
  | _ => .stuck
def iRange2 (t : AM) : IM := fun env sto => (t env sto).bind fun ds s => match ds with
  | [.int i, .int j] => if -1000000 ≤ i ∧ i ≤ 1000000 ∧ -1000000 ≤ j ∧ j ≤ 1000000 then .ok (.fix (rngD i (j - i).toNat)) s else .stuck
  | _ => .stuck
theorem rngD_get {lo : Int} {n i : Nat} {d : DV} (h : (rngD lo n)[i]? = some d) : i < n ∧ d = .int (lo + i) := by
  unfold rngD at h
  rw [List.getElem?_map] at h
  by_cases hi : i < n
  · rw [List.getElem?_range hi] at h
    cases h
    exact ⟨hi, rfl⟩
  · rw [List.getElem?_eq_none (by simpa using hi)] at h; cases h
theorem walks_R {K : PySem.W.Frag} {lo : Int} {n : Nat} : Walks K cA (Itr lo n) S (.fix (rngD lo n)) := fun S' sto' g ok' xs hv => by
  cases hv
  refine ⟨fun i hi => by have h := hi; simp [rngD] at h; exact h, fun i d hd => ?_⟩
  obtain ⟨hi, rfl⟩ := rngD_get hd
  refine ⟨hi, fun v H' hy => ?_⟩
  obtain ⟨eH, rfl⟩ := hy
  exact ⟨S', eH.symm, Grow.refl ok', ok', rfl⟩
variable {a b : Expr} {t : AM} {p pos : Pos}
theorem gi_range1 (hm : X.mg "range" = none) (ha : GA X cA Z [a] t) (hg : Gl X "range" := by rfl) (hs : starEach [a] X.env = [(false, eval a X.env)] := by exact star_one rfl) : GI X cA Z tg (.Call (.Name "range" p) [a] [] pos) (iRange1 t) := .mk fun S σ env sto ok eo R p => by
  refine wI.of (pi_range1 hg hm (paW _) hs) (fun pos' pins s I => ?_)
  refine GA.then ha ok eo p (fun ds s1 S1 vs g1 ok1 eo1 rs h1 => ?_) pos' pins s I
  split at h1
  · rename_i j
    split at h1
    · rename_i hj
      obtain ⟨v, rfl, r⟩ := one_rep rs
      cases (show v = .int j from r)
      exact ⟨j, rfl, by omega, by omega, h1 S1 (Grow.refl ok1) ok1 _ walks_R⟩
    · exact h1.elim
  · exact h1.elim
theorem gi_range2 (hm : X.mg "range" = none) (ha : GA X cA Z [a, b] t) (hg : Gl X "range" := by rfl) (hs : starEach [a, b] X.env = [(false, eval a X.env), (false, eval b X.env)] := by exact star_two rfl rfl) (hs2 : starEach [b] X.env = [(false, eval b X.env)] := by exact star_one rfl) : GI X cA Z tg (.Call (.Name "range" p) [a, b] [] pos) (iRange2 t) := .mk fun S σ env sto ok eo R p => by
  refine wI.of (pi_range2 hg hm (paW _) hs hs2) (fun pos' pins s I => ?_)
  refine GA.then ha ok eo p (fun ds s1 S1 vs g1 ok1 eo1 rs h1 => ?_) pos' pins s I
  split at h1
  · rename_i i j
    split at h1
    · rename_i hj
      obtain ⟨v, u, rfl, r1, r2⟩ := two_rep rs
      cases (show v = .int i from r1)
      cases (show u = .int j from r2)
      exact ⟨i, j, rfl, ⟨by omega, by omega, by omega, by omega⟩, h1 S1 (Grow.refl ok1) ok1 _ walks_R⟩
    · exact h1.elim
  · exact h1.elim
/-- enumerate, zip of frozen lists -/
def enumD : Nat → List DV → List DV
  | _, [] => []
  | k, x :: xs => .tup [.int (k : Nat), x] :: enumD (k + 1) xs
def frzL : DV → Option (List DV)
  | .lstG _ ds => some ds
  | .scr ns => some (ns.map DV.int)
  | _ => none
def iEnum (t : AM) : IM := fun env sto => (t env sto).bind fun ds s => match ds with
  | [d] => match frzL d with
    | some xs => .ok (.fix (enumD 0 xs)) s
    | none => .stuck
  | _ => .stuck
def iZip (t : AM) : IM := fun env sto => (t env sto).bind fun ds s => match ds with
  | [d, e] => match frzL d, frzL e with
    | some xs, some ys => .ok (.fix ((xs.zip ys).map fun q => .tup [q.1, q.2])) s
    | _, _ => .stuck
  | _ => .stuck
theorem enumD_get : ∀ {k : Nat} {xs : List DV} {i : Nat} {d : DV}, (enumD k xs)[i]? = some d → ∃ x, xs[i]? = some x ∧ d = .tup [.int ((k + i : Nat) : Int), x]
  | _, [], i, d, h => by simp [enumD] at h
  | k, x :: xs, 0, d, h => by simp [enumD] at h; exact ⟨x, rfl, h.symm⟩
  | k, x :: xs, i + 1, d, h => by
    obtain ⟨y, h1, h2⟩ := enumD_get (k := k + 1) (xs := xs) (i := i) (d := d) (by simpa [enumD] using h)
    exact ⟨y, by simpa using h1, by rw [h2, show k + 1 + i = k + (i + 1) by omega]⟩
theorem enumD_len : ∀ (k : Nat) (xs : List DV), (enumD k xs).length = xs.length
  | _, [] => rfl
  | k, x :: xs => by simp [enumD, enumD_len]
theorem frzL.rep {K : PySem.W.Frag} {d : DV} {v : V} {xs : List DV} (r : Rep K cA S d v) (h : frzL d = some xs) : ∃ a, v = .ref a ∧ ∀ S' sto sto', StoOk K cA S sto → Grow S S' → StoOk K cA S' sto' → ∃ vs, SqL K S'.H a vs ∧ RepL K cA S' xs vs := by
  cases d <;> simp only [frzL] at h <;> try (cases h; done)
  · cases h
    obtain ⟨a, vs, e, hf, h1, h2⟩ := r
    exact ⟨a, e, fun S' sto sto' ok g ok' => ⟨vs, sqL ((g.keeps ok).h a _ h1 (fun _ z => nomatch z) hf.u), h2.grow ok g⟩⟩
  · rename_i ns
    cases h
    obtain ⟨a, e, h1⟩ := r
    refine ⟨a, e, fun S' sto sto' ok g ok' => ?_⟩
    have r' : Rep K cA S' (.scr ns) (.ref a) := Rep.grow (⟨a, rfl, h1⟩ : Rep K cA S (.scr ns) (.ref a)) ok g
    obtain ⟨a', e', h1'⟩ := r'
    cases e'
    exact ⟨_, h1'.sq, RepL.ints ns⟩
theorem gi_enum {elts : List Expr} {kk : Nat} {tpos : Pos} (hm : X.mg "enumerate" = none) (ha : GA X cA Z [a] t) (hg : Gl X "enumerate" := by rfl) (hs : starEach [a] X.env = [(false, eval a X.env)] := by exact star_one rfl) : GI X cA Z (.Tuple elts kk tpos) (.Call (.Name "enumerate" p) [a] [] pos) (iEnum t) := .mk fun S σ env sto ok eo R p => by
  refine wI.of (pi_enum hg hm (paW _) hs) (fun pos' pins s I => ?_)
  refine GA.then ha ok eo p (fun ds s1 S1 vs g1 ok1 eo1 rs h1 => ?_) pos' pins s I
  split at h1
  · rename_i d
    split at h1
    · rename_i xs e
      obtain ⟨v, rfl, r⟩ := one_rep rs
      obtain ⟨a, rfl, hw⟩ := frzL.rep r e
      obtain ⟨ws, q1, q2⟩ := hw S1 s1 s1 ok1 (Grow.refl ok1) ok1
      refine ⟨a, ws, rfl, q1, h1 S1 (Grow.refl ok1) ok1 _ fun S' sto' g ok' xs' hv => ?_⟩
      cases hv
      obtain ⟨ws, q1, q2⟩ := hw S' s1 sto' ok1 g ok'
      refine ⟨fun i hi => ⟨ws, q1, by rw [← q2.length]; rw [enumD_len] at hi; exact hi⟩, fun i d hd => ?_⟩
      obtain ⟨x, hx, rfl⟩ := enumD_get hd
      obtain ⟨v, ev, rv⟩ := q2.get hx
      refine ⟨⟨ws, v, q1, ev⟩, fun v' H' hy => ?_⟩
      obtain ⟨T, x', rfl, nT, rfl, hx'⟩ := hy
      have := hx' ws q1
      rw [ev] at this; cases this
      refine ⟨S'.addT T (.tup [.int (i : Nat), v]), rfl, Grow.addT ok' nT, ok'.addT nT, T, _, rfl, upd_same, ?_⟩
      exact ⟨_, _, rfl, by show V.int _ = V.int _; simp, RepL.one (rv.grow ok' (Grow.addT ok' nT))⟩
    · exact h1.elim
  · exact h1.elim
theorem gi_zip {elts : List Expr} {kk : Nat} {tpos : Pos} (hm : X.mg "zip" = none) (ha : GA X cA Z [a, b] t) (hg : Gl X "zip" := by rfl) (hs : starEach [a, b] X.env = (false, eval a X.env) :: starEach [b] X.env := by exact star_plain rfl) (hpl : (backTo pos (starEach [b] X.env)).any (·.1) = false := by exact plain_any rfl) :
    GI X cA Z (.Tuple elts kk tpos) (.Call (.Name "zip" p) [a, b] [] pos) (iZip t) := .mk fun S σ env sto ok eo R p => by
  refine wI.of (pi_zip hg hm (paW _) hs hpl) (fun pos' pins s I => ?_)
  refine GA.then ha ok eo p (fun ds s1 S1 vs g1 ok1 eo1 rs h1 => ?_) pos' pins s I
  split at h1
  · rename_i d e
    split at h1
    · rename_i xs ys e1 e2
      obtain ⟨v, u, rfl, r1, r2⟩ := two_rep rs
      obtain ⟨a, rfl, hw1⟩ := frzL.rep r1 e1
      obtain ⟨b, rfl, hw2⟩ := frzL.rep r2 e2
      obtain ⟨ws, q1, q2⟩ := hw1 S1 s1 s1 ok1 (Grow.refl ok1) ok1
      obtain ⟨zs, q3, q4⟩ := hw2 S1 s1 s1 ok1 (Grow.refl ok1) ok1
      refine ⟨a, b, ws, zs, rfl, q1, q3, h1 S1 (Grow.refl ok1) ok1 _ fun S' sto' g ok' xs' hv => ?_⟩
      cases hv
      obtain ⟨ws, q1, q2⟩ := hw1 S' s1 sto' ok1 g ok'
      obtain ⟨zs, q3, q4⟩ := hw2 S' s1 sto' ok1 g ok'
      refine ⟨fun i hi => ⟨ws, zs, q1, q3, ?_⟩, fun i d hd => ?_⟩
      · rw [← q2.length, ← q4.length]
        simp at hi
        omega
      · rw [List.getElem?_map] at hd
        simp only [Option.map_eq_some_iff] at hd
        obtain ⟨⟨x, y⟩, hz, rfl⟩ := hd
        rw [List.getElem?_zip_eq_some] at hz
        obtain ⟨v, ev, rv⟩ := q2.get hz.1
        obtain ⟨u, eu, ru⟩ := q4.get hz.2
        refine ⟨⟨ws, zs, v, u, q1, q3, ev, eu⟩, fun v' H' hy => ?_⟩
        obtain ⟨T, x', y', rfl, nT, rfl, hx', hy'⟩ := hy
        have h1 := hx' ws q1
        rw [ev] at h1; cases h1
        have h2 := hy' zs q3
        rw [eu] at h2; cases h2
        refine ⟨S'.addT T (.tup [v, u]), rfl, Grow.addT ok' nT, ok'.addT nT, T, _, rfl, upd_same, ?_⟩
        exact ⟨_, _, rfl, rv.grow ok' (Grow.addT ok' nT), RepL.one (ru.grow ok' (Grow.addT ok' nT))⟩
    · exact h1.elim
  · exact h1.elim
end

/-! ### statements -/
def sNil : SM := fun env sto => .nx env sto
def sSeq (a b : SM) : SM := fun env sto => match a env sto with
  | .nx e s => b e s
  | o => o
def sExpr (m : EM) : SM := fun env sto => (m env sto).out env fun _ s => .nx env s
def sRet (m : EM) : SM := fun env sto => (m env sto).out env fun d s => .rt d s
def sRetN : SM := fun _ sto => .rt .non sto
def sIf (t : TM) (a b : SM) : SM := fun env sto => (t env sto).out env fun c s => if c = true then a env s else b env s
def sAsg (p : Pat) (m : EM) : SM := fun env sto => (m env sto).out env fun d s => match bindP p d env with
  | some env' => .nx env' s
  | none => .stuck
def sPar (i j : Nat) (t : AM) : SM := fun env sto => (t env sto).out env fun ds s => match ds with
  | [v, w] => .nx ((env.set i (some v)).set j (some w)) s
  | _ => .stuck
def sNever : SM := fun _ _ => .stuck
def sPass : SM := sNil
def sBreak : SM := fun env sto => .bk env sto
def sCont : SM := fun env sto => .ct env sto
section
variable {X : Cx} {cA : CA} {Z : Nat → L2.St → Hp → Prop} {pos pos' : Pos} {e c : Expr} {m : EM} {st : Stmt} {rest as bs : List Stmt} {ms mr ma mb : SM} {tc : TM}
theorem gs_nil : GSs X cA Z [] sNil := .mk fun S σ env sto ok eo D p => wSs.of pss_nil (p S σ (Grow.refl ok) ok eo)
theorem gs_cons (h1 : GS X cA Z st ms) (h2 : GSs X cA Z rest mr) : GSs X cA Z (st :: rest) (sSeq ms mr) := .mk fun S σ env sto ok eo D p => by
  refine wSs.of (pss_cons (psW st) (pssW rest)) (h1.run S σ env sto ok eo _ ?_)
  unfold sSeq at p
  cases e : ms env sto with
  | nx e1 s1 =>
    rw [e] at p
    exact fun S' σ' g' ok' eo' => h2.run S' σ' e1 s1 ok' eo' D (OPost.grow p g')
  | rt d s => rw [e] at p; exact p
  | bk e1 s => rw [e] at p; exact p
  | ct e1 s => rw [e] at p; exact p
  | exc c e1 s => rw [e] at p; exact p
  | stuck => rw [e] at p; exact p
theorem gs_one (h1 : GS X cA Z st ms) : GSs X cA Z [st] ms := .mk fun S σ env sto ok eo D p => wSs.of (pss_one (psW st)) (h1.run S σ env sto ok eo D p)
theorem g_expr (h : GE X cA Z e m) (hs : swapsWith e none pos.line X.env = pure false := by exact sw_plain rfl) : GS X cA Z (.Expr e pos) (sExpr m) := .mk fun S σ env sto ok eo D p =>
  wS.of (ps_expr (peW e) hs) (h.out ok eo p fun d s S1 v g1 ok1 eo1 r h1 => h1 S1 σ (Grow.refl ok1) ok1 eo1)
theorem g_ret (h : GE X cA Z e m) : GS X cA Z (.Return (some e) pos) (sRet m) := .mk fun S σ env sto ok eo D p =>
  wS.of (ps_ret (peW e)) (h.out ok eo p fun d s S1 v g1 ok1 eo1 r h1 => h1 S1 v (Grow.refl ok1) ok1 r)
theorem g_retN : GS X cA Z (.Return none pos) sRetN := .mk fun S σ env sto ok eo D p => wS.of ps_retN (p S .non (Grow.refl ok) ok rfl)
theorem g_ifS (hc : GT X cA Z c tc) (ha : GSs X cA Z as ma) (hb : GSs X cA Z bs mb) : GS X cA Z (.If c as bs pos) (sIf tc ma mb) := .mk fun S σ env sto ok eo D p => by
  refine wS.of (ps_if (ptW c) (pssW as) (pssW bs)) (hc.out ok eo p fun k s1 S1 g1 ok1 eo1 h1 => ?_)
  cases k with
  | true => exact iteT (ha.run S1 σ env s1 ok1 eo1 D h1)
  | false => exact iteF (hb.run S1 σ env s1 ok1 eo1 D h1)
theorem g_never : GS X cA Z st sNever := .mk fun S σ env sto ok eo D p => p.elim
theorem g_pass : GS X cA Z (.Pass pos) sPass := .mk fun S σ env sto ok eo D p => wS.of ps_pass (p S σ (Grow.refl ok) ok eo)
theorem g_break : GS X cA Z (.Break pos) sBreak := .mk fun S σ env sto ok eo D p => wS.of ps_break (p S σ (Grow.refl ok) ok eo)
theorem g_cont : GS X cA Z (.Continue pos) sCont := .mk fun S σ env sto ok eo D p => wS.of ps_continue (p S σ (Grow.refl ok) ok eo)
/-- name = e -/
theorem asg_core {P : Pat} {S : Sys} {σ : L2.St} {env : Env} {sto : Sto} {D : Ends} (h : GE X cA Z e m) (ok : StoOk X.K cA S sto) (eo : EnvOk X.K cA S env σ) (p : OPost X.K cA S (sAsg P m env sto) D Z) : tAsg (wE X e) (gPat X.K P) D σ S.H := by
  refine h.out ok eo p fun d s S1 v g1 ok1 eo1 r h1 => ?_
  split at h1
  · rename_i env' hb
    exact gPat.run rfl P d v env env' σ hb r eo1 fun σ' eo' _ => h1 S1 σ' (Grow.refl ok1) ok1 eo'
  · exact h1.elim
theorem g_set (i : Nat) {x : Str} (hN : X.N.Nodup) (h : GE X cA Z e m) (hi : X.N[i]? = some x := by rfl) (hx : Loc X.env.scope x := by first | exact Or.inl rfl | exact Or.inr rfl) (hs : swapsWith e (some (.Name x pos')) pos.line X.env = pure false := by exact sw_plain rfl)
    (hf : X.fn x = true ∨ X.env.scope.names.lookup x = some .local := by first | exact .inl rfl | exact .inr rfl | assumption) : GS X cA Z (.Assign [.Name x pos'] e pos) (sAsg (.nm i) m) := .mk fun S σ env sto ok eo D p =>
  wS.of (ps_set hN hi hx (peW e) hs hf) (asg_core h ok eo p)
theorem g_asg {tg : Expr} {P : Pat} (hg : PG X tg (gPat X.K P)) (h : GE X cA Z e m) (hs : swapsWithSole [tg] e pos.line X.env = pure false := by exact sws_plain rfl) (hw : swappedStores [tg] e X.env = pure none := by first | exact ss_plain rfl | exact ss_name | rfl)
    (h1 : (assignEach [tg] X.env).map (·.2) = [assign tg X.env] := by rfl) : GS X cA Z (.Assign [tg] e pos) (sAsg P m) := .mk fun S σ env sto ok eo D p =>
  wS.of (ps_asg (peW e) hg hs hw h1) (asg_core h ok eo p)
theorem g_par (i j : Nat) {x y : Str} {a b : Expr} {t : AM} {px py pt : Pos} {kt k2 pt2} (hc : X.calm = true) (hN : X.N.Nodup) (ha : GA X cA Z [a, b] t) (hi : X.N[i]? = some x := by rfl) (hj : X.N[j]? = some y := by rfl) (hij : i ≠ j := by decide)
    (hx : X.env.scope.names.lookup x = some .local := by rfl) (hy : X.env.scope.names.lookup y = some .local := by rfl)
    (hw : swappedStores [.Tuple [.Name x px, .Name y py] kt pt] (.Tuple [a, b] k2 pt2) X.env = pure (some [x, y]) := by rfl)
    (hs : swapsWithSole [.Tuple [.Name x px, .Name y py] kt pt] (.Tuple [a, b] k2 pt2) pos.line X.env = pure false := by exact sws_plain rfl) :
    GS X cA Z (.Assign [.Tuple [.Name x px, .Name y py] kt pt] (.Tuple [a, b] k2 pt2) pos) (sPar i j t) := .mk fun S σ env sto ok eo D p => by
  refine wS.of (ps_par hc hN hi hj hij hx hy (paW _) hw hs) (ha.out ok eo p fun ds s1 S1 vs g1 ok1 eo1 rs h1 => ?_)
  split at h1
  · obtain ⟨v, w, rfl, r1, r2⟩ := two_rep rs
    exact ⟨v, w, rfl, h1 S1 _ (Grow.refl ok1) ok1 ((eo1.set r1).set r2)⟩
  · exact h1.elim
/-- name += e -/
def sAug (i : Nat) (f : DV → DV → Sto → Res DV) (m : EM) : SM := fun env sto => match env[i]? with
  | some (some x) => ((m env sto).bind fun y s => f x y s).out env fun z s => .nx (env.set i (some z)) s
  | _ => .stuck
theorem g_aug {op : Operator} {r : Int → Int → Int} {f : DV → DV → Sto → Res DV} (i : Nat) {x : Str} (hN : X.N.Nodup) (h : GE X cA Z e m) (ho : PIp X op (ipI r)) (hf : ∀ a b sto, f a b sto = .stuck ∨ ∃ k l, a = .int k ∧ b = .int l ∧ f a b sto = .ok (.int (r k l)) sto) (hi : X.N[i]? = some x := by rfl) (hx : Loc X.env.scope x := by first | exact Or.inl rfl | exact Or.inr rfl)
    (hfn : X.fn x = true ∨ X.env.scope.names.lookup x = some .local := by first | exact .inl rfl | exact .inr rfl | assumption) : GS X cA Z (.AugAssign (.Name x pos') op e pos) (sAug i f m) := .mk fun S σ env sto ok eo D p => by
  unfold sAug at p
  split at p
  · rename_i x0 e0
    obtain ⟨v0, ev0, r0⟩ := eo.2 _ _ e0
    refine wS.of (ps_aug hN hi hx (peW e) ho hfn) ⟨v0, ev0, ?_⟩
    have p2 := OPost.out p ok eo
    refine h.then ok eo p2 fun d s S1 v g1 ok1 eo1 r1 h1 => ?_
    rcases hf x0 d s with q | ⟨k, l, rfl, rfl, q⟩
    · rw [q] at h1; exact h1.elim
    · rw [q] at h1
      cases (show v0 = .int k from r0)
      cases (show v = .int l from r1)
      exact ⟨k, l, rfl, rfl, h1 S1 (Grow.refl ok1) ok1 S1 _ (Grow.refl ok1) ok1 (eo1.set rfl)⟩
  · exact p.elim
def oAddI (x y : DV) (sto : Sto) : Res DV := match x, y with
  | .int i, .int j => .ok (.int (i + j)) sto
  | _, _ => .stuck
theorem g_augAdd (i : Nat) {x : Str} (hN : X.N.Nodup) (h : GE X cA Z e m) (hi : X.N[i]? = some x := by rfl) (hx : Loc X.env.scope x := by first | exact Or.inl rfl | exact Or.inr rfl)
    (hfn : X.fn x = true ∨ X.env.scope.names.lookup x = some .local := by first | exact .inl rfl | exact .inr rfl | assumption) : GS X cA Z (.AugAssign (.Name x pos') .Add e pos) (sAug i oAddI m) :=
  g_aug (r := fun i j => i + j) i hN h ip_add (fun a b sto => by cases a <;> first | exact .inl rfl | (cases b <;> first | exact .inl rfl | exact .inr ⟨_, _, rfl, rfl, rfl⟩)) hi hx hfn
theorem g_augSub (i : Nat) {x : Str} (hN : X.N.Nodup) (h : GE X cA Z e m) (hi : X.N[i]? = some x := by rfl) (hx : Loc X.env.scope x := by first | exact Or.inl rfl | exact Or.inr rfl)
    (hfn : X.fn x = true ∨ X.env.scope.names.lookup x = some .local := by first | exact .inl rfl | exact .inr rfl | assumption) : GS X cA Z (.AugAssign (.Name x pos') .Sub e pos) (sAug i oSub m) :=
  g_aug (r := fun i j => i - j) i hN h ip_sub (fun a b sto => by cases a <;> first | exact .inl rfl | (cases b <;> first | exact .inl rfl | exact .inr ⟨_, _, rfl, rfl, rfl⟩)) hi hx hfn
end

/-! ### for -/
def wipeE (env : Env) : List Nat → Env
  | [] => env
  | v :: vs => (wipeE env vs).set v none
/-- ws: the names that no later turn reads, forgotten behind each turn -/
def loopM (src : Src) (p : Pat) (ws : List Nat) (body : SM) : Nat → Nat → Env → Sto → Out
  | 0, i, env, sto => match src.view sto with
    | some xs => match xs[i]? with
      | some _ => .stuck
      | none => .nx env sto
    | none => .stuck
  | f + 1, i, env, sto => match src.view sto with
    | some xs => match xs[i]? with
      | some d => match bindP p d env with
        | some env1 => match body env1 sto with
          | .nx e s => loopM src p ws body f (i + 1) (wipeE e ws) s
          | .ct e s => loopM src p ws body f (i + 1) (wipeE e ws) s
          | .bk e s => .nx e s
          | o => o
        | none => .stuck
      | none => .nx env sto
    | none => .stuck
def sFor (it : IM) (p : Pat) (ws : List Nat) (body : SM) : SM := fun env sto => (it env sto).out env fun src s => loopM src p ws body (src.len s) 0 (wipeE env ws) s
section
variable {K : PySem.W.Frag} {cA : CA} {S : Sys}
theorem EnvOk.wipe0 {env : Env} {σ : L2.St} (h : EnvOk K cA S env σ) : ∀ vs : List Nat, EnvOk K cA S (wipeE env vs) σ
  | [] => h
  | v :: vs => (EnvOk.wipe0 h vs).forget
end
section
variable {X : Cx} {cA : CA} {Z : Nat → L2.St → Hp → Prop} {pos : Pos} {tg iter : Expr} {body : List Stmt} {mi : IM} {P : Pat} {mb : SM}
theorem g_for (ws : List Nat) (hp : PassesOwn (model X.prog X.w) X.A X.env X.xe) (hc : X.calm = true) (hi : GI X cA Z tg iter mi) (hg : PG X tg (gPat X.K P)) (hb : GSs X cA Z body mb) (hs : ∀ x, foldedSetIterable iter X.env x = pure x := by exact fun _ => fs_plain rfl) :
    GS X cA Z (.For tg iter body [] pos) (sFor mi P ws mb) := .mk fun S σ env sto ok eo D p => by
  refine wS.of (ps_for hp hc (piW tg iter) hg (pssW body) hs) ?_
  refine hi.run S σ env sto ok eo _ ((OPost.out p ok eo).imp (fun src s1 S1 g1 ok1 p1 J hJ => ?_) fun _ _ _ _ _ z => z)
  refine ⟨fun i m σ' H' => ∃ S' env' sto', S'.H = H' ∧ Grow S1 S' ∧ StoOk X.K cA S' sto' ∧ EnvOk X.K cA S' env' σ' ∧ OPost X.K cA S' (loopM src P ws mb m i env' sto') D Z,
    ⟨_, S1, wipeE env ws, s1, rfl, Grow.refl ok1, ok1, (eo.grow ok g1).wipe0 ws, p1⟩, ?_⟩
  rintro i m σ' H' ⟨S', env', sto', rfl, g', ok', eo', p'⟩
  cases hv : src.view sto' with
  | none =>
    cases m <;> (unfold loopM at p'; rw [hv] at p'; exact p'.elim)
  | some xs =>
    obtain ⟨w1, w2⟩ := hJ S' sto' g' ok' xs hv
    cases hx : xs[i]? with
    | none =>
      refine .inl ⟨w1 i (List.getElem?_eq_none_iff.mp hx), ?_⟩
      cases m <;> (unfold loopM at p'; rw [hv] at p'; simp only [hx] at p'; exact p' S' σ' (Grow.refl ok') ok' eo')
    | some d =>
      cases m with
      | zero => unfold loopM at p'; rw [hv] at p'; simp only [hx] at p'; exact p'.elim
      | succ f =>
        unfold loopM at p'
        rw [hv] at p'
        simp only [hx] at p'
        obtain ⟨w3, w4⟩ := w2 i d hx
        refine .inr ⟨w3, fun σ2 H2 => ∃ S2 env2 sto2, S2.H = H2 ∧ Grow S1 S2 ∧ StoOk X.K cA S2 sto2 ∧ EnvOk X.K cA S2 env2 σ2 ∧ OPost X.K cA S2 (loopM src P ws mb f (i + 1) env2 sto2) D Z, fun σ2 H2 h2 => ⟨f, Nat.lt_succ_self f, h2⟩, fun v H2 hy => ?_⟩
        obtain ⟨S2, rfl, g2, ok2, r2⟩ := w4 v H2 hy
        cases hbd : bindP P d env' with
        | none => rw [hbd] at p'; exact p'.elim
        | some env1 =>
          rw [hbd] at p'
          refine gPat.run rfl P d v env' env1 σ' hbd r2 (eo'.grow ok' g2) fun σ3 eo3 _ => ?_
          refine hb.run S2 σ3 env1 sto' ok2 eo3 _ ?_
          simp only at p'
          have p2 := OPost.grow p' g2
          have g12 := g'.trans g2
          cases hbo : mb env1 sto' with
          | nx e s => rw [hbo] at p2; exact fun S4 σ4 g4 ok4 eo4 => ⟨S4, wipeE e ws, s, rfl, g12.trans g4, ok4, eo4.wipe0 ws, OPost.grow p2 g4⟩
          | ct e s => rw [hbo] at p2; exact fun S4 σ4 g4 ok4 eo4 => ⟨S4, wipeE e ws, s, rfl, g12.trans g4, ok4, eo4.wipe0 ws, OPost.grow p2 g4⟩
          | bk e s => rw [hbo] at p2; exact fun S4 σ4 g4 ok4 eo4 => p2 S4 σ4 g4 ok4 eo4
          | rt d' s => rw [hbo] at p2; exact p2
          | exc c e s => rw [hbo] at p2; exact p2
          | stuck => rw [hbo] at p2; exact p2
end
end BB
namespace BB
open PySem PySem.Spec PyProof.Rows L2

/-! ### comprehensions -/
def compM (src : Src) (p : Pat) (test : TM) (elt : EM) (env : Env) : Nat → Nat → List DV → Sto → Res (List DV)
  | 0, i, acc, sto => match src.view sto with
    | some xs => match xs[i]? with
      | some _ => .stuck
      | none => .ok acc sto
    | none => .stuck
  | f + 1, i, acc, sto => match src.view sto with
    | some xs => match xs[i]? with
      | some d => match bindP p d env with
        | some env1 => match test env1 sto with
          | .ok true s1 => match elt env1 s1 with
            | .ok y s2 => if acc.length < 1000000 then compM src p test elt env f (i + 1) (acc ++ [y]) s2 else .stuck
            | _ => .stuck
          | .ok false s1 => compM src p test elt env f (i + 1) acc s1
          | _ => .stuck
        | none => .stuck
      | none => .ok acc sto
    | none => .stuck
def eComp (b : Bool) (own : List Nat) (it : IM) (p : Pat) (test : TM) (elt : EM) : EM := fun env sto => (it env sto).bind fun src s => (compM src p test elt (wipeE env own) (src.len s) 0 [] s).bind fun ds s2 => newL b ds s2
def tYes1 : TM := fun _ sto => .ok true sto
section
variable {K : PySem.W.Frag} {cA : CA} {S : Sys}
theorem EnvOk.wipe {env : Env} {σ : L2.St} (h : EnvOk K cA S env σ) : ∀ vs : List Nat, EnvOk K cA S (wipeE env vs) (L2.wipe σ vs)
  | [] => h
  | v :: vs => (EnvOk.wipe h vs).setNone
end
section
variable {X : Cx} {cA : CA} {Z : Nat → L2.St → Hp → Prop} {pos : Pos} {elt tg iter : Expr} {ifs : List Expr} {scope : Scope} {own : List (Str × Nat)} {mi : IM} {P : Pat} {mt : TM} {me : EM}
abbrev Z0 : Nat → L2.St → Hp → Prop := fun _ _ _ => False
/-- a test list -/
structure GTs (X : Cx) (cA : CA) (ifs : List Expr) (m : TM) : Prop where
  run : ∀ S σ env sto, StoOk X.K cA S sto → EnvOk X.K cA S env σ → ∀ Q : Bool → Hp → Prop, Post X.K cA S (m env sto) (fun d _ S' => Q d S'.H) (fun _ _ _ => False) → ∃ t, PTs X ifs t ∧ t σ S.H Q
/-- the block of a comprehension -/
abbrev Blk (X : Cx) (scope : Scope) (s : Shared) (H : Hp) (C : Addr) (cl : List (Str × Addr)) (fp : List Addr) : Cx := X.blk s H scope (compEnvC scope cl C X.env) fp
def wTs (X : Cx) (ifs : List Expr) : TT := fun σ H Q => ∃ t, PTs X ifs t ∧ t σ H Q
theorem ptsW (X : Cx) (ifs : List Expr) : PTs X ifs (wTs X ifs) := ⟨fun pins s σ H Q I h => by
  obtain ⟨t, ht, q⟩ := h
  exact ht.run pins s σ H Q I q⟩
theorem gts_nil : GTs X cA [] tYes1 := .mk fun S σ env sto ok eo Q p => ⟨_, pts_nil, p S (Grow.refl ok) ok⟩
theorem gts_one {e : Expr} (h : GT X cA Z0 e mt) : GTs X cA [e] mt := .mk fun S σ env sto ok eo Q p => ⟨_, pts_one (ptW e), h.run S σ env sto ok eo Q p⟩
def allE (X : Cx) (scope : Scope) (e : Expr) : TE := fun σ H Q => ∀ s H0 C cl fp, wE (Blk X scope s H0 C cl fp) e σ H Q
def allTs (X : Cx) (scope : Scope) (ifs : List Expr) : TT := fun σ H Q => ∀ s H0 C cl fp, wTs (Blk X scope s H0 C cl fp) ifs σ H Q
theorem comp_core {S : Sys} {σ : L2.St} {env : Env} {sto : Sto} {Q : VK} {b : Bool} (hi : GI X cA Z tg iter mi) (hP : ∀ i ∈ P.slots, i ∈ own.map (·.2))
    (ht : ∀ s H C cl fp, GTs (Blk X scope s H C cl fp) cA ifs mt) (he : ∀ s H C cl fp, GE (Blk X scope s H C cl fp) cA Z0 elt me)
    (ok : StoOk X.K cA S sto) (eo : EnvOk X.K cA S env σ) (p : Post X.K cA S (eComp b (own.map (·.2)) mi P mt me env sto) (VQ X.K cA Q) (fun c _ S' => Z c σ S'.H)) :
    tLc (wI X tg iter) (gPat X.K P) (allTs X scope ifs) (allE X scope elt) (own.map (·.2)) σ S.H Q := by
  refine hi.run S σ env sto ok eo _ ((Post.bind p).imp (fun src s1 S1 g1 ok1 p1 J hJ => ?_) fun _ _ _ _ _ z => z)
  intro D nD
  have eo1 : EnvOk X.K cA S1 env σ := eo.grow ok g1
  refine ⟨fun i m H' => ∃ S' sto' acc accV, S'.H = H' ∧ Grow S1 S' ∧ StoOk X.K cA S' sto' ∧ H' D = some (.lst accV) ∧ RepL X.K cA S' acc accV ∧ ¬ S'.U D ∧ (∀ n, n < S'.N → S'.r n ≠ D) ∧
      Post X.K cA S1 ((compM src P mt me (wipeE env (own.map (·.2))) m i acc sto').bind fun ds s2 => newL b ds s2) (VQ X.K cA Q) (fun c _ S' => Z c σ S'.H),
    ⟨_, S1.addT D (.lst []), s1, [], [], rfl, Grow.addT ok1 nD, ok1.addT nD, upd_same, rfl, fun hf => ok1.fs D hf nD, fun n hn => ok1.nep nD hn, p1⟩, ?_⟩
  rintro i m H' ⟨S', sto', acc, accV, rfl, g', ok', hD, racc, nF, nr, p'⟩
  -- the list is told
  have fin : Post X.K cA S1 (newL b acc sto') (VQ X.K cA Q) (fun c _ S' => Z c σ S'.H) → Q (.ref D) S'.H := fun pn => by
    cases b with
    | false =>
      have kpF : Keeps S' { S' with F := fun a => S'.F a ∨ a = D } := ⟨Nat.le_refl _, fun _ _ => rfl, fun a h => Or.inl h, fun _ h => h, fun _ _ h _ _ => h, fun _ _ h => h, fun _ _ _ h => h⟩
      have gF : Grow S1 { S' with F := fun a => S'.F a ∨ a = D } := ⟨g'.n, g'.r, fun a h => .inl (g'.f a h), g'.h, g'.new, g'.st, fun a h => by
        rcases h with h | h
        · exact g'.fn a h
        · exact .inr (.inl (h ▸ nD)), g'.z, g'.b, g'.bn, g'.k⟩
      refine pn { S' with F := fun a => S'.F a ∨ a = D } gF ⟨ok'.len, fun n hn h => ?_, ok'.inj, fun n o h => ?_, fun a h => ?_, ok'.tb, cA.mono _ _ ok1.j gF, ok'.fnk⟩ (.ref D) ⟨D, accV, rfl, .inr rfl, hD, ?_⟩
      · rcases h with (h | h) | h
        · exact ok'.nf n hn (.inl h)
        · exact (nr n hn h).elim
        · exact ok'.nf n hn (.inr h)
      · exact ORep.keep kpF _ _ (ok'.ob n o h)
      · rcases h with (h | h) | h
        · exact ok'.fs a (.inl h)
        · show S'.H a ≠ none
          rw [h, hD]; simp
        · exact ok'.fs a (.inr h)
      · exact RepL.keep kpF _ _ racc
    | true =>
      have kp : Keeps S' { S' with r := fun n => if n = S'.N then D else S'.r n, N := S'.N + 1 } := ⟨Nat.le_succ _, fun n hn => by show (if n = S'.N then D else S'.r n) = _; rw [if_neg (by omega)], fun _ h => h, fun _ h => h, fun _ _ h _ _ => h, fun _ _ h => h, fun _ _ _ h => h⟩
      have gT : Grow S1 { S' with r := fun n => if n = S'.N then D else S'.r n, N := S'.N + 1 } := ⟨Nat.le_trans g'.n (Nat.le_succ _), fun n hn => by
        show (if n = S'.N then D else S'.r n) = _
        rw [if_neg (by have := g'.n; omega)]; exact g'.r n hn, g'.f, g'.h, fun n h1 h2 => by
        show S1.H (if n = S'.N then D else S'.r n) = none
        have h2 : n < S'.N + 1 := h2
        split
        · exact nD
        · exact g'.new n h1 (by omega), g'.st, g'.fn, g'.z, g'.b, g'.bn, g'.k⟩
      refine pn { S' with r := fun n => if n = S'.N then D else S'.r n, N := S'.N + 1 } gT ⟨by simp [ok'.len], fun n hn h => ?_, fun n m hn hm e => ?_, fun n o h => ?_, ok'.fs, ok'.tb, cA.mono _ _ ok1.j gT, fun n k h => by
        have hl : n < sto'.length := by
          have hl := (List.getElem?_eq_some_iff.mp h).1
          simp at hl
          refine Nat.lt_of_le_of_ne (by omega) fun e => ?_
          subst e
          simp at h
        rw [List.getElem?_append_left hl] at h
        show cA.lam k (if n = S'.N then D else S'.r n) S'.H
        rw [if_neg (by rw [ok'.len] at hl; omega)]
        exact ok'.fnk n k h⟩ (.ref D) ⟨by rw [ok'.len]; exact Nat.lt_succ_self _, ?_⟩
      · have h : S'.U (if n = S'.N then D else S'.r n) := h
        have hn : n < S'.N + 1 := hn
        split at h
        · exact (nF h).elim
        · rw [List.getElem?_append_left (by rw [ok'.len]; omega)]; exact ok'.nf n (by omega) h
      · have hn : n < S'.N + 1 := hn
        have hm : m < S'.N + 1 := hm
        have e : (if n = S'.N then D else S'.r n) = (if m = S'.N then D else S'.r m) := e
        split at e <;> split at e
        · omega
        · exact absurd e.symm (nr m (by omega))
        · exact absurd e (nr n (by omega))
        · exact ok'.inj n m (by omega) (by omega) e
      · show ORep X.K cA _ o (S'.H (if n = S'.N then D else S'.r n))
        by_cases hn : n = S'.N
        · rw [if_pos hn, hD]
          rw [hn, ← ok'.len, List.getElem?_append_right (Nat.le_refl _)] at h
          simp at h
          subst h
          exact ⟨accV, rfl, RepL.keep kp _ _ racc⟩
        · have hl : n < sto'.length := by
            have := (List.getElem?_eq_some_iff.mp h).1
            simp at this
            rw [ok'.len] at this ⊢; omega
          rw [List.getElem?_append_left hl] at h
          rw [if_neg hn]
          exact ORep.keep kp _ _ (ok'.ob n o h)
      · show V.ref D = .ref (if sto'.length = S'.N then D else S'.r sto'.length)
        rw [if_pos ok'.len]
  cases hv : src.view sto' with
  | none =>
    cases m <;> (unfold compM at p'; rw [hv] at p'; exact p'.elim)
  | some xs =>
    obtain ⟨w1, w2⟩ := hJ S' sto' g' ok' xs hv
    cases hx : xs[i]? with
    | none =>
      refine .inl ⟨w1 i (List.getElem?_eq_none_iff.mp hx), fin ?_⟩
      cases m <;> (unfold compM at p'; rw [hv] at p'; simp only [hx] at p'; exact p')
    | some d =>
      cases m with
      | zero => unfold compM at p'; rw [hv] at p'; simp only [hx] at p'; exact p'.elim
      | succ f =>
        unfold compM at p'
        rw [hv] at p'
        simp only [hx] at p'
        obtain ⟨w3, w4⟩ := w2 i d hx
        refine .inr ⟨w3, fun H2 => ∃ S2 sto2 acc2 accV2, S2.H = H2 ∧ Grow S1 S2 ∧ StoOk X.K cA S2 sto2 ∧ H2 D = some (.lst accV2) ∧ RepL X.K cA S2 acc2 accV2 ∧ ¬ S2.U D ∧ (∀ n, n < S2.N → S2.r n ≠ D) ∧
          Post X.K cA S1 ((compM src P mt me (wipeE env (own.map (·.2))) f (i + 1) acc2 sto2).bind fun ds s2 => newL b ds s2) (VQ X.K cA Q) (fun c _ S' => Z c σ S'.H), fun H2 h2 => ⟨f, Nat.lt_succ_self f, h2⟩, fun v H2 hy => ?_⟩
        obtain ⟨S2, rfl, g2, ok2, r2⟩ := w4 v H2 hy
        have keepD : ∀ {S3 : Sys}, Grow S' S3 → S3.H D = some (.lst accV) ∧ ¬ S3.U D ∧ (∀ n, n < S3.N → S3.r n ≠ D) := fun {S3} g3 => by
          refine ⟨g3.h D _ hD (fun _ z => nomatch z) (.inr (.inl nr)), fun hf => ?_, fun n hn z => ?_⟩
          · rcases hf with hf | hf
            · rcases g3.fn D hf with h | h | ⟨n, hn, h⟩
              · exact nF (.inl h)
              · rw [hD] at h; cases h
              · exact nr n hn h.symm
            · exact nF (.inr (g3.bn D hf))
          · by_cases h : n < S'.N
            · rw [g3.r n h] at z; exact nr n h z
            · have := g3.new n (by omega) hn
              rw [z, hD] at this; cases this
        cases hbd : bindP P d (wipeE env (own.map (·.2))) with
        | none => rw [hbd] at p'; exact p'.elim
        | some env1 =>
          rw [hbd] at p'
          simp only at p'
          have eoW : EnvOk X.K cA S2 (wipeE env (own.map (·.2))) (L2.wipe σ (own.map (·.2))) := EnvOk.wipe ((eo1.grow ok1 g').grow ok' g2) _
          refine gPat.run rfl P d v _ env1 _ hbd r2 eoW fun σ3 eo3 hw => ⟨?_, ?_⟩
          · rw [hw _ hP]
            have : ∀ vs : List Nat, L2.wipe (L2.wipe σ vs) vs = L2.wipe σ vs := by
              intro vs
              apply List.ext_getElem?
              intro j
              by_cases hj : j ∈ vs
              · have key : ∀ (τ : L2.St) (ws : List Nat), j ∈ ws → (L2.wipe τ ws)[j]? = if j < τ.length then some none else none := by
                  intro τ ws
                  induction ws with
                  | nil => intro h; cases h
                  | cons w ws ih =>
                    intro h
                    unfold L2.wipe
                    by_cases e : w = j
                    · subst e
                      by_cases hl : w < τ.length
                      · rw [List.getElem?_set_self (by rw [wipe_length]; exact hl), if_pos hl]
                      · rw [List.getElem?_eq_none (by rw [List.length_set, wipe_length]; omega), if_neg hl]
                    · rw [List.getElem?_set_ne e]
                      exact ih ((List.mem_cons.mp h).resolve_left fun z => e z.symm)
                rw [key _ _ hj, key _ _ hj, wipe_length]
              · have key : ∀ (τ : L2.St) (ws : List Nat), j ∉ ws → (L2.wipe τ ws)[j]? = τ[j]? := by
                  intro τ ws
                  induction ws with
                  | nil => intro _; rfl
                  | cons w ws ih =>
                    intro h
                    simp only [List.mem_cons, not_or] at h
                    unfold L2.wipe
                    rw [List.getElem?_set_ne (Ne.symm h.1)]
                    exact ih h.2
                rw [key _ _ hj, key _ _ hj]
            exact this _
          · intro s H0 C cl fp
            cases hte : mt env1 sto' with
            | stuck => rw [hte] at p'; exact p'.elim
            | exc c s' => rw [hte] at p'; exact p'.elim
            | ok k s3 =>
              rw [hte] at p'
              refine (ht s H0 C cl fp).run S2 σ3 env1 sto' ok2 eo3 _ ?_
              rw [hte]
              intro S3 g3 ok3
              have g13 := (g'.trans g2).trans g3
              obtain ⟨kD, kF, kr⟩ := keepD (g2.trans g3)
              cases k with
              | false =>
                refine iteF ⟨S3, s3, acc, accV, rfl, g13, ok3, kD, (racc.grow ok' g2).grow ok2 g3, kF, kr, p'⟩
              | true =>
                refine iteT fun s H0 C cl fp => ?_
                simp only at p'
                cases hel : me env1 s3 with
                | stuck => rw [hel] at p'; exact p'.elim
                | exc c s' => rw [hel] at p'; exact p'.elim
                | ok y s4 =>
                  rw [hel] at p'
                  simp only at p'
                  refine (he s H0 C cl fp).run S3 σ3 env1 s3 ok3 (eo3.grow ok2 g3) _ ?_
                  rw [hel]
                  intro S4 g4 ok4 vy ry
                  obtain ⟨kD4, kF4, kr4⟩ := keepD ((g2.trans g3).trans g4)
                  have racc4 := ((racc.grow ok' g2).grow ok2 g3).grow ok3 g4
                  by_cases hl : acc.length < 1000000
                  · rw [if_pos hl] at p'
                    refine ⟨accV, kD4, by rw [← racc.length]; exact limlt hl, ?_⟩
                    have g14 := g13.trans g4
                    have kp : Keeps S4 { S4 with H := upd S4.H D (.lst (accV ++ [vy])) } := by
                      refine ⟨Nat.le_refl _, fun _ _ => rfl, fun _ h => h, fun _ h => h, fun a o h _ hf => ?_, fun a ws h => ?_, fun a o u h => ?_⟩
                      · show upd S4.H D _ a = _
                        rw [upd_ne (fun z => kF4 (by rw [← z]; exact hf))]; exact h
                      · show upd S4.H D _ a = _
                        rw [upd_ne (fun z => by rw [z, kD4] at h; cases h)]; exact h
                      · show upd S4.H D _ a = _
                        rw [upd_ne (fun z => by rw [z, kD4] at h; cases h)]; exact h
                    have tb4 : ∀ P q, LamX.TabS S4.H P q → LamX.TabS (upd S4.H D (.lst (accV ++ [vy]))) P q := by
                      rintro P q ⟨ps, h1, h2, h3⟩
                      refine ⟨ps, ?_, h2, fun pos cv hc => ?_⟩
                      · rw [upd_ne (fun z => by rw [z, kD4] at h1; cases h1)]; exact h1
                      · obtain ⟨c, e1, e2⟩ := h3 pos cv hc
                        exact ⟨c, e1, by rw [upd_ne (fun z => by rw [z, kD4] at e2; unfold LamX.CodeO at e2; cases e2)]; exact e2⟩
                    have gU : Grow S1 { S4 with H := upd S4.H D (.lst (accV ++ [vy])) } := by
                      refine ⟨g14.n, g14.r, g14.f, fun a o h nt hr => ?_, g14.new, fun n hn => ?_, g14.fn, fun a o u h => ?_, g14.b, g14.bn, fun a h => ?_⟩
                      · show upd S4.H D _ a = _
                        rw [upd_ne (ne_of_none h nD)]; exact g14.h a o h nt hr
                      · show upd S4.H D _ _ ≠ none
                        rw [upd_ne (ok1.nep nD hn)]; exact g14.st n hn
                      · show upd S4.H D _ a = _
                        rw [upd_ne (ne_of_none h nD)]; exact g14.z a o u h
                      · show upd S4.H D _ a ≠ none
                        unfold upd; split
                        · simp
                        · exact g14.k a h
                    refine ⟨{ S4 with H := upd S4.H D (.lst (accV ++ [vy])) }, s4, acc ++ [y], accV ++ [vy], rfl, gU, ⟨ok4.len, ok4.nf, ok4.inj, fun n o h => ?_, fun a h => ?_, fun q hq => tb4 _ _ (ok4.tb q hq), cA.mono _ _ ok1.j gU, fun n k h => cA.lmono _ _ _ _ (ok4.fnk n k h) fun b φ e => by
                      show upd S4.H D _ b = _
                      rw [upd_ne (fun z => by rw [z, kD4] at e; cases e)]; exact e⟩, upd_same, RepL.keep kp _ _ (racc4.app (.one ry)), kF4, kr4, p'⟩
                    · show ORep X.K cA _ o (upd S4.H D _ (S4.r n))
                      rw [upd_ne (kr4 n (ok4.lt h))]
                      exact ORep.keep kp _ _ (ok4.ob n o h)
                    · show upd S4.H D _ a ≠ none
                      unfold upd; split
                      · simp
                      · exact ok4.fs a h
                  · rw [if_neg hl] at p'; exact p'.elim
theorem g_comp (b : Bool) (own : List (Str × Nat)) (hc : X.calm = true) (hN : X.N.Nodup) (hi : GI X cA Z tg iter mi) (okB : BlkOk X.N X.env.scope scope own) (hP : ∀ i ∈ P.slots, i ∈ own.map (·.2))
    (hg : ∀ s H C cl fp, PG (Blk X scope s H C cl fp) tg (gPat X.K P)) (ht : ∀ s H C cl fp, GTs (Blk X scope s H C cl fp) cA ifs mt) (he : ∀ s H C cl fp, GE (Blk X scope s H C cl fp) cA Z0 elt me) (hs : ∀ x, foldedSetIterable iter X.env x = pure x := by exact fun _ => fs_plain rfl) :
    GE X cA Z (.ListComp elt [⟨tg, iter, ifs, 0⟩] scope pos) (eComp b (own.map (·.2)) mi P mt me) := .mk fun S σ env sto ok eo Q p =>
  wE.of (pe_lc hc hN (piW tg iter) okB hg (fun s H C cl fp => ⟨fun pins s' σ H' Q I h => (ptsW _ _).run pins s' σ H' Q I (h s H C cl fp)⟩) (fun s H C cl fp => ⟨fun pins s' σ H' Q I h => h s H C cl fp pins s' I⟩) hs) (comp_core hi hP ht he ok eo p)
theorem g_setComp (b : Bool) (own : List (Str × Nat)) (i : Nat) {y : Str} {py spos : Pos} (hc : X.calm = true) (hN : X.N.Nodup) (hi : GI X cA Z tg iter mi) (okB : BlkOk X.N X.env.scope scope own) (hP : ∀ i ∈ P.slots, i ∈ own.map (·.2))
    (hg : ∀ s H C cl fp, PG (Blk X scope s H C cl fp) tg (gPat X.K P)) (ht : ∀ s H C cl fp, GTs (Blk X scope s H C cl fp) cA ifs mt) (he : ∀ s H C cl fp, GE (Blk X scope s H C cl fp) cA Z0 elt me)
    (hsw : swapsWith (.ListComp elt [⟨tg, iter, ifs, 0⟩] scope pos) (some (.Name y py)) spos.line X.env = pure true) (hy : X.N[i]? = some y := by rfl) (hyl : X.env.scope.names.lookup y = some .local := by rfl) (hs : ∀ x, foldedSetIterable iter X.env x = pure x := by exact fun _ => fs_plain rfl) :
    GS X cA Z (.Assign [.Name y py] (.ListComp elt [⟨tg, iter, ifs, 0⟩] scope pos) spos) (sAsg (.nm i) (eComp b (own.map (·.2)) mi P mt me)) := .mk fun S σ env sto ok eo D p => by
  refine wS.of (ps_setLc (tt := allTs X scope ifs) (te := allE X scope elt) (g := gPat X.K P) hc hN hy hyl hsw (piW tg iter) okB hg (fun s H C cl fp => ⟨fun pins s' σ H' Q I h => (ptsW _ _).run pins s' σ H' Q I (h s H C cl fp)⟩) (fun s H C cl fp => ⟨fun pins s' σ H' Q I h => h s H C cl fp pins s' I⟩) hs) ?_
  refine comp_core (b := b) hi hP ht he ok eo ((OPost.out p ok eo).imp (fun d s S1 g1 ok1 h1 v r => ?_) fun _ _ _ _ _ z => z)
  exact h1 S1 _ (Grow.refl ok1) ok1 ((eo.grow ok g1).set r)
end
end BB
namespace BB
open PySem PySem.Spec PyProof.Rows L2

/-! ### d[k] = v, xs[i] = v -/
def putD (x y d : DV) (sto : Sto) : Res Unit := match x with
  | .loc n => match sto[n]? with
    | some (.dT ks ds) => match tkeyOf y with
      | some k => if ks.length < 1000000 then .ok () (sto.set n (.dT (putKs ks k) (putDs ks ds k d))) else .stuck
      | none => .stuck
    | some (.dK ks ds) => match keyOf y with
      | some k => if ks.length < 1000000 then .ok () (sto.set n (.dK (putKs ks k) (putDs ks ds k d))) else .stuck
      | none => .stuck
    | some (.lst ds) => match y with
      | .int i => match ixN ds.length i with
        | some j => .ok () (sto.set n (.lst (ds.set j d)))
        | none => .stuck
      | _ => .stuck
    | _ => .stuck
  | _ => .stuck
def wSet (X : Cx) : TSet := fun o i v H Q => ∀ (pins : List (Addr × Obj)) (s : Shared) (σ : L2.St) (ov iv u : Value), Inv X pins σ H s → RelV o ov → RelV i iv → RelV v u → wpAny (model X.prog X.w) X.A (setItem ov iv u) (fun _ s' => ∃ H', Inv X pins σ H' s' ∧ Q H') X.xe s
theorem psetW (X : Cx) : PSet X (wSet X) := fun pins s σ H o i v ov iv u Q I r1 r2 r3 h => h pins s σ ov iv u I r1 r2 r3
/-- targets o[i], .. one after another -/
def sPuts : List (EM × EM) → List DV → Env → Sto → Res Unit
  | [], [], _, sto => .ok () sto
  | (o, i) :: ts, d :: ds, env, sto => (o env sto).bind fun x s1 => (i env s1).bind fun y s2 => (putD x y d s2).bind fun _ s3 => sPuts ts ds env s3
  | _, _, _, _ => .stuck
def sPut (o i m : EM) : SM := fun env sto => (m env sto).out env fun d s => (sPuts [(o, i)] [d] env s).out env fun _ s' => .nx env s'
def sPutT (ts : List (EM × EM)) (m : EM) : SM := fun env sto => (m env sto).out env fun d s => match d with
  | .tup ds => if ds.length = ts.length then (sPuts ts ds env s).out env fun _ s' => .nx env s' else .stuck
  | _ => .stuck
section
variable {X : Cx} {cA : CA} {Z : Nat → L2.St → Hp → Prop} {pos pos' tpos : Pos} {o i e : Expr} {mo mi m : EM}
theorem putD.use (hu : X.A.units + 1 < cLine) {S : Sys} {sto : Sto} {x y d : DV} {vx vy vd : V} {Q : Hp → Prop} {Zf : Nat → Sto → Sys → Prop} (ok : StoOk X.K cA S sto) (rx : Rep X.K cA S x vx) (ry : Rep X.K cA S y vy) (rd : Rep X.K cA S d vd)
    (p : Post X.K cA S (putD x y d sto) (fun _ _ S' => Q S'.H) Zf) : wSet X vx vy vd S.H Q := by
  intro pins s σ ov iv u I r1 r2 r3
  unfold putD at p
  split at p
  · rename_i n
    obtain ⟨hn, rfl⟩ := rx
    split at p
    · rename_i ks ds e
      split at p
      · rename_i k hk
        split at p
        · rename_i hl
          obtain ⟨b, rfl, hb⟩ := tkeyOf.rep ry hk
          obtain ⟨kvs, h1, h2, h3, nd⟩ := ok.ob n _ e
          have hlen : kvs.length < 1000000 := by rw [← h2, List.length_map] at hl; exact hl
          refine set_dict hu pins s σ S.H _ _ vd ov iv u Q I r1 r2 r3 ⟨S.r n, _, rfl, DPut.t h1 hb (limlt hlen), ?_⟩
          exact p (S.mut n _) (Grow.mut ok hn (ok.alive e (by simp)) (fun o u z => by rw [h1] at z; cases z)) (ok.mut hn (ok.alive e (by simp)) (fun o u z => by rw [h1] at z; cases z) ⟨_, rfl, by rw [putK_keys, h2], putDs.rep rd nd h2 h3, putKs.nodup nd k⟩)
        · exact p.elim
      · exact p.elim
    · rename_i ks ds e
      split at p
      · rename_i k hk
        split at p
        · rename_i hl
          have hb := keyOf.rep ry hk
          subst hb
          obtain ⟨kvs, h1, h2, h3, nd⟩ := ok.ob n _ e
          have hlen : kvs.length < 1000000 := by rw [← h2, List.length_map] at hl; exact hl
          refine set_dict hu pins s σ S.H _ _ vd ov iv u Q I r1 r2 r3 ⟨S.r n, _, rfl, DPut.k h1 (limlt hlen), ?_⟩
          exact p (S.mut n _) (Grow.mut ok hn (ok.alive e (by simp)) (fun o u z => by rw [h1] at z; cases z)) (ok.mut hn (ok.alive e (by simp)) (fun o u z => by rw [h1] at z; cases z) ⟨_, rfl, by rw [putK_keys, h2], putDs.rep rd nd h2 h3, putKs.nodup nd k⟩)
        · exact p.elim
      · exact p.elim
    · rename_i ds e
      split at p
      · rename_i j
        split at p
        · rename_i l hl
          cases (show vy = .int j from ry)
          obtain ⟨vs, h1, h2⟩ := ok.ob n _ e
          rw [h2.length] at hl
          refine set_list pins s σ S.H _ _ vd ov iv u Q I r1 r2 r3 ⟨S.r n, vs, j, l, rfl, rfl, h1, hl, ?_⟩
          exact p (S.mut n _) (Grow.mut ok hn (ok.alive e (by simp)) (fun o u z => by rw [h1] at z; cases z)) (ok.mut (d := .lst _) hn (ok.alive e (by simp)) (fun o u z => by rw [h1] at z; cases z) ⟨_, rfl, h2.set rd l⟩)
        · exact p.elim
      · exact p.elim
    · exact p.elim
  · exact p.elim
/-- several targets o[i] -/
inductive GPuts (X : Cx) (cA : CA) (Z : Nat → L2.St → Hp → Prop) : List Expr → List (EM × EM) → Prop
  | nil : GPuts X cA Z [] []
  | cons {o i : Expr} {mo mi : EM} {pos : Pos} {es : List Expr} {ts : List (EM × EM)} : GE X cA Z o mo → GE X cA Z i mi → (∀ v, assign (.Subscript o i pos) X.env v = (do
      let ov ← holding [v] (eval o X.env)
      let iv ← holding [v, ov] (eval i X.env)
      standAt pos
      holding [v, ov, iv] (setItem ov iv v)
      release [v, ov, iv] [])) → ((assignEach (.Subscript o i pos :: es) X.env).map (·.2) = assign (.Subscript o i pos) X.env :: (assignEach es X.env).map (·.2)) → GPuts X cA Z es ts → GPuts X cA Z (.Subscript o i pos :: es) ((mo, mi) :: ts)
theorem gp_cons {es : List Expr} {ts : List (EM × EM)} (ho : GE X cA Z o mo) (hi : GE X cA Z i mi) (h : GPuts X cA Z es ts) (ha : ∀ v, assign (.Subscript o i pos) X.env v = (do
      let ov ← holding [v] (eval o X.env)
      let iv ← holding [v, ov] (eval i X.env)
      standAt pos
      holding [v, ov, iv] (setItem ov iv v)
      release [v, ov, iv] []) := by exact fun _ => as_plain rfl) (hs : (assignEach (.Subscript o i pos :: es) X.env).map (·.2) = assign (.Subscript o i pos) X.env :: (assignEach es X.env).map (·.2) := by rfl) : GPuts X cA Z (.Subscript o i pos :: es) ((mo, mi) :: ts) := .cons ho hi ha hs h
theorem puts_core (hu : X.A.units + 1 < cLine) {es : List Expr} {ts : List (EM × EM)} (g : GPuts X cA Z es ts) : ∃ t : TGs, PGs X es t ∧ ∀ S σ env sto ds vs (Q : L2.St → Hp → Prop), StoOk X.K cA S sto → EnvOk X.K cA S env σ → RepL X.K cA S ds vs →
    Post X.K cA S (sPuts ts ds env sto) (fun _ _ S' => Q σ S'.H) (fun c _ S' => Z c σ S'.H) → t vs σ S.H Q := by
  induction g with
  | nil =>
    refine ⟨_, pgs_nil, fun S σ env sto ds vs Q ok eo r p => ?_⟩
    cases ds with
    | nil => exact ⟨r, p S (Grow.refl ok) ok⟩
    | cons d ds => exact p.elim
  | @cons o i mo mi pos es ts ho hi ha hs g ih =>
    obtain ⟨t, ht, hq⟩ := ih
    refine ⟨_, pgs_cons (pg_sub (peW o) (peW i) (psetW X) ha) ht hs, fun S σ env sto ds vs Q ok eo r p => ?_⟩
    cases ds with
    | nil => exact p.elim
    | cons d ds =>
      obtain ⟨v, w, rfl, r1, r2⟩ := r
      refine ⟨v, w, rfl, ho.then ok eo p fun x s1 S1 vx g1 ok1 eo1 rx h1 => ?_⟩
      refine hi.then ok1 eo1 h1 fun y s2 S2 vy g2 ok2 eo2 ry h2 => ?_
      refine putD.use (Zf := fun c _ S' => Z c σ S'.H) hu ok2 (rx.grow ok1 g2) ry ((r1.grow ok g1).grow ok1 g2) ((Post.bind h2).imp (fun _ s3 S3 g3 ok3 p3 => ?_) fun _ _ _ _ _ z => z)
      exact hq S3 σ env s3 ds w Q ok3 (eo2.grow ok2 g3) (((r2.grow ok g1).grow ok1 g2).grow ok2 g3) p3
theorem g_puts (hu : X.A.units + 1 < cLine) (hc : X.calm = true) {es : List Expr} {k : Nat} {ts : List (EM × EM)} (g : GPuts X cA Z es ts) (h : GE X cA Z e m) (hl : es.length = ts.length := by rfl) (hn : (assignEach es X.env).length = ts.length := by rfl) (hst : (assignEach es X.env).findIdx? (·.1) = none := by rfl)
    (hs : swapsWithSole [.Tuple es k tpos] e pos.line X.env = pure false := by exact sws_plain rfl) (hw : swappedStores [.Tuple es k tpos] e X.env = pure none := by first | exact ss_plain rfl | rfl)
    (h1 : (assignEach [.Tuple es k tpos] X.env).map (·.2) = [assign (.Tuple es k tpos) X.env] := by rfl) : GS X cA Z (.Assign [.Tuple es k tpos] e pos) (sPutT ts m) := .mk fun S σ env sto ok eo D p => by
  obtain ⟨t, ht, hq⟩ := puts_core hu g
  refine wS.of (ps_asg (peW e) (pg_tup hc ht hn hst) hs hw h1) (h.out ok eo p fun d s S1 v g1 ok1 eo1 r h1 => ?_)
  cases d <;> first | exact h1.elim | skip
  rename_i ds
  obtain ⟨a, vs, rfl, q1, q2⟩ := r
  simp only at h1
  split at h1
  case isFalse => exact h1.elim
  rename_i hds
  have p2 := OPost.out h1 ok1 eo1
  have hlen : vs.length = ts.length := by rw [← q2.length]; exact hds
  refine ⟨a, vs, rfl, sqT q1, hlen, hq S1 σ env s ds vs _ ok1 eo1 q2 (p2.imp (fun _ s3 S3 g3 ok3 p3 => ?_) fun _ _ _ _ _ z => z)⟩
  exact p3 S3 σ (Grow.refl ok3) ok3 (eo1.grow ok1 g3)
theorem g_put (hu : X.A.units + 1 < cLine) (ho : GE X cA Z o mo) (hi : GE X cA Z i mi) (h : GE X cA Z e m) (ha : ∀ v, assign (.Subscript o i tpos) X.env v = (do
      let ov ← holding [v] (eval o X.env)
      let iv ← holding [v, ov] (eval i X.env)
      standAt tpos
      holding [v, ov, iv] (setItem ov iv v)
      release [v, ov, iv] []) := by exact fun _ => as_plain rfl) (hs : swapsWithSole [.Subscript o i tpos] e pos.line X.env = pure false := by exact sws_plain rfl) (hw : swappedStores [.Subscript o i tpos] e X.env = pure none := by exact ss_sub)
    (h1 : (assignEach [.Subscript o i tpos] X.env).map (·.2) = [assign (.Subscript o i tpos) X.env] := by rfl) : GS X cA Z (.Assign [.Subscript o i tpos] e pos) (sPut mo mi m) := .mk fun S σ env sto ok eo D p => by
  refine wS.of (ps_asg (peW e) (pg_sub (peW o) (peW i) (psetW X) ha) hs hw h1) (h.out ok eo p fun d s S1 v g1 ok1 eo1 r h1 => ?_)
  have p2 := OPost.out h1 ok1 eo1
  refine ho.then ok1 eo1 p2 fun x s1 S2 vx g2 ok2 eo2 rx h2 => ?_
  refine hi.then ok2 eo2 h2 fun y s2 S3 vy g3 ok3 eo3 ry h3 => ?_
  refine putD.use (Zf := fun c _ S' => Z c σ S'.H) hu ok3 (rx.grow ok2 g3) ry ((r.grow ok1 g2).grow ok2 g3) ((Post.bind h3).imp (fun _ s3 S4 g4 ok4 p4 => ?_) fun _ _ _ _ _ z => z)
  exact p4 S4 (Grow.refl ok4) ok4 S4 σ (Grow.refl ok4) ok4 (eo3.grow ok3 g4)
end

/-! ### no objects of the store; nothing borrowed either -/
mutual
def noLoc : DV → Bool
  | .loc _ => false
  | .tup ds => noLocL ds
  | .lstG _ ds => noLocL ds
  | .dicG _ _ ds => noLocL ds
  | .insG _ _ _ ds => noLocL ds
  | _ => true
def noLocL : List DV → Bool
  | [] => true
  | d :: ds => noLoc d && noLocL ds
end
mutual
def clean : DV → Bool
  | .loc _ => false
  | .tup ds => cleanL ds
  | .lstG g ds => !g && cleanL ds
  | .dicG g _ ds => !g && cleanL ds
  | .insG g _ _ ds => !g && cleanL ds
  | _ => true
def cleanL : List DV → Bool
  | [] => true
  | d :: ds => clean d && cleanL ds
end
theorem noLocL_map {α : Type} {f : α → DV} (h : ∀ x, noLoc (f x) = true) : ∀ xs : List α, noLocL (xs.map f) = true
  | [] => rfl
  | x :: xs => by simp [noLocL, h x, noLocL_map h xs]
theorem noLocL_all : ∀ {ds : List DV}, (∀ d ∈ ds, noLoc d = true) → noLocL ds = true
  | [], _ => rfl
  | d :: ds, h => by simp [noLocL, h d (by simp), noLocL_all (ds := ds) fun x hx => h x (by simp [hx])]
theorem cleanL_map {α : Type} {f : α → DV} (h : ∀ x, clean (f x) = true) : ∀ xs : List α, cleanL (xs.map f) = true
  | [] => rfl
  | x :: xs => by simp [cleanL, h x, cleanL_map h xs]
section
variable {K : PySem.W.Frag} {cA : CA} {S S' : Sys}
/-- data that are frozen through and through -/
structure KeepsC (S S' : Sys) : Prop where
  f : ∀ a, S.F a → S'.F a
  h : ∀ a o, S.H a = some o → S.F a → S'.H a = some o
  t : ∀ a vs, S.H a = some (.tup vs) → S'.H a = some (.tup vs)
  z : ∀ a o u, S.H a = some (.frz o u) → S'.H a = some (.frz o u)
mutual
theorem Rep.keepC (k : KeepsC S S') : ∀ (d : DV) (v : V), clean d = true → Rep K cA S d v → Rep K cA S' d v
  | .non, v, _, h => h
  | .bl b, v, _, h => h
  | .int i, v, _, h => h
  | .str x, v, _, h => h
  | .ty x, v, _, h => h
  | .cls x, v, _, h => h
  | .tup ds, v, n, ⟨a, vs, e, h1, h2⟩ => ⟨a, vs, e, k.t a vs h1, RepL.keepC k ds vs n h2⟩
  | .lstG false ds, v, n, ⟨a, vs, e, h0, h1, h2⟩ => ⟨a, vs, e, k.f a h0, k.h a _ h1 h0, RepL.keepC k ds vs n h2⟩
  | .dicG false ks ds, v, n, ⟨a, kvs, e, h0, h1, h3, h2⟩ => ⟨a, kvs, e, k.f a h0, k.h a _ h1 h0, h3, RepL.keepC k ds _ n h2⟩
  | .insG false c ns ds, v, n, ⟨a, dx, fvs, e, h0, h1, h3, h2⟩ => ⟨a, dx, fvs, e, k.f a h0, k.h a _ h1 h0, h3, RepL.keepC k ds _ n h2⟩
  | .lstG true ds, v, n, _ => by simp [clean] at n
  | .dicG true ks ds, v, n, _ => by simp [clean] at n
  | .insG true c ns ds, v, n, _ => by simp [clean] at n
  | .scr ns, v, _, ⟨a, e, h1⟩ => ⟨a, e, by
    rcases h1 with ⟨o, h1⟩ | ⟨h0, h1⟩ | h1
    · exact .inl ⟨o, k.z a o _ h1⟩
    · exact .inr (.inl ⟨k.f a h0, k.h a _ h1 h0⟩)
    · exact .inr (.inr h1)⟩
  | .loc n, v, h, _ => by cases h
theorem RepL.keepC (k : KeepsC S S') : ∀ (ds : List DV) (vs : List V), cleanL ds = true → RepL K cA S ds vs → RepL K cA S' ds vs
  | [], vs, _, h => h
  | d :: ds, vs, n, ⟨v, r, e, h1, h2⟩ => by
    simp only [cleanL, Bool.and_eq_true] at n
    exact ⟨v, r, e, Rep.keepC k d v n.1 h1, RepL.keepC k ds r n.2 h2⟩
end
end

/-! ### freezing (false), lending (true) -/
mutual
def frzW (g : Bool) (look : Nat → Option DV) : DV → Option DV
  | .tup ds => (frzWL g look ds).map .tup
  | .lstG g' ds => if g' = true ∧ g = false then none else (frzWL g look ds).map (.lstG g')
  | .dicG g' ks ds => if g' = true ∧ g = false then none else (frzWL g look ds).map (.dicG g' ks)
  | .insG g' c ns ds => if g' = true ∧ g = false then none else (frzWL g look ds).map (.insG g' c ns)
  | .loc n => look n
  | d => some d
def frzWL (g : Bool) (look : Nat → Option DV) : List DV → Option (List DV)
  | [] => some []
  | d :: ds => match frzW g look d, frzWL g look ds with
    | some x, some xs => some (x :: xs)
    | _, _ => none
end
def flook0 : Nat → Option DV := fun _ => none
def flookW (g : Bool) (look : Nat → Option DV) (sto : Sto) (n : Nat) : Option DV := match sto[n]? with
  | some (.lst ds) => (frzWL g look ds).map (.lstG g)
  | some (.dT ks ds) => (frzWL g look ds).map (.dicG g ks)
  | some (.ins c ns ds) => (frzWL g look ds).map (.insG g c ns)
  | _ => none
def flk (g : Bool) (sto : Sto) : Nat → Option DV := flookW g (flookW g (flookW g flook0 sto) sto) sto
def frz (sto : Sto) (d : DV) : Option DV := frzW false (flk false sto) d
def lend (sto : Sto) (ds : List DV) : Option (List DV) := frzWL true (flk true sto) ds
/-- all objects of the store frozen, or lent -/
def Sys.ice (g : Bool) (S : Sys) : Sys := { S with F := fun a => S.F a ∨ (g = false ∧ ∃ n, n < S.N ∧ a = S.r n), B := fun a => S.B a ∨ (g = true ∧ ∃ n, n < S.N ∧ a = S.r n), N := 0 }
theorem Sys.ice_st {S : Sys} {n : Nat} (hn : n < S.N) : ∀ g, (S.ice g).R g (S.r n)
  | false => .inr ⟨rfl, n, hn, rfl⟩
  | true => .inr ⟨rfl, n, hn, rfl⟩
theorem Sys.ice_R {S : Sys} {a : Addr} (g : Bool) : ∀ {g'}, S.R g' a → (S.ice g).R g' a
  | false, h => .inl h
  | true, h => .inl h
section
variable {K : PySem.W.Frag} {cA : CA} {S S' : Sys} {sto : Sto} {g : Bool}
mutual
theorem frzW.rep {look : Nat → Option DV} (hl : ∀ n D, look n = some D → n < S.N → Rep K cA (S.ice g) D (.ref (S.r n))) : ∀ (d : DV) (v : V) (D : DV), Rep K cA S d v → frzW g look d = some D → Rep K cA (S.ice g) D v
  | .non, v, D, r, h => by cases h; exact r
  | .bl b, v, D, r, h => by cases h; exact r
  | .int i, v, D, r, h => by cases h; exact r
  | .str x, v, D, r, h => by cases h; exact r
  | .ty x, v, D, r, h => by cases h; exact r
  | .cls x, v, D, r, h => by cases h; exact r
  | .scr x, v, D, ⟨a, e, h1⟩, h => by
    cases h
    refine ⟨a, e, ?_⟩
    rcases h1 with ⟨o, h1⟩ | ⟨h0, h1⟩ | h1
    · exact .inl ⟨o, h1⟩
    · exact .inr (.inl ⟨.inl h0, h1⟩)
    · exact .inr (.inr h1)
  | .tup ds, v, D, ⟨a, vs, e, h1, h2⟩, h => by
    simp only [frzW, Option.map_eq_some_iff] at h
    obtain ⟨xs, h3, rfl⟩ := h
    exact ⟨a, vs, e, h1, frzWL.rep hl ds vs xs h2 h3⟩
  | .lstG g' ds, v, D, ⟨a, vs, e, h0, h1, h2⟩, h => by
    simp only [frzW] at h
    split at h
    · cases h
    · simp only [Option.map_eq_some_iff] at h
      obtain ⟨xs, h3, rfl⟩ := h
      exact ⟨a, vs, e, Sys.ice_R g h0, h1, frzWL.rep hl ds vs xs h2 h3⟩
  | .dicG g' ks ds, v, D, ⟨a, kvs, e, h0, h1, hk, h2⟩, h => by
    simp only [frzW] at h
    split at h
    · cases h
    · simp only [Option.map_eq_some_iff] at h
      obtain ⟨xs, h3, rfl⟩ := h
      exact ⟨a, kvs, e, Sys.ice_R g h0, h1, hk, frzWL.rep hl ds _ xs h2 h3⟩
  | .insG g' c ns ds, v, D, ⟨a, dx, fvs, e, h0, h1, hk, h2⟩, h => by
    simp only [frzW] at h
    split at h
    · cases h
    · simp only [Option.map_eq_some_iff] at h
      obtain ⟨xs, h3, rfl⟩ := h
      exact ⟨a, dx, fvs, e, Sys.ice_R g h0, h1, hk, frzWL.rep hl ds _ xs h2 h3⟩
  | .loc n, v, D, ⟨h1, e⟩, h => by
    subst e
    exact hl n D h h1
theorem frzWL.rep {look : Nat → Option DV} (hl : ∀ n D, look n = some D → n < S.N → Rep K cA (S.ice g) D (.ref (S.r n))) : ∀ (ds : List DV) (vs : List V) (D : List DV), RepL K cA S ds vs → frzWL g look ds = some D → RepL K cA (S.ice g) D vs
  | [], vs, D, r, h => by cases h; exact r
  | d :: ds, vs, D, ⟨v, r, e, h1, h2⟩, h => by
    unfold frzWL at h
    split at h
    · rename_i x xs e1 e2
      cases h
      exact ⟨v, r, e, frzW.rep hl d v x h1 e1, frzWL.rep hl ds r xs h2 e2⟩
    · cases h
end
theorem flookW.rep {look : Nat → Option DV} (ok : StoOk K cA S sto) (hl : ∀ n D, look n = some D → n < S.N → Rep K cA (S.ice g) D (.ref (S.r n))) : ∀ n D, flookW g look sto n = some D → n < S.N → Rep K cA (S.ice g) D (.ref (S.r n)) := fun n D h hn => by
  unfold flookW at h
  split at h
  · rename_i ds e
    simp only [Option.map_eq_some_iff] at h
    obtain ⟨xs, h3, rfl⟩ := h
    obtain ⟨vs, e1, e2⟩ := ok.ob n _ e
    exact ⟨S.r n, vs, rfl, Sys.ice_st hn g, e1, frzWL.rep hl ds vs xs e2 h3⟩
  · rename_i ks ds e
    simp only [Option.map_eq_some_iff] at h
    obtain ⟨xs, h3, rfl⟩ := h
    obtain ⟨kvs, e1, ek, e2, _⟩ := ok.ob n _ e
    exact ⟨S.r n, kvs, rfl, Sys.ice_st hn g, e1, ek, frzWL.rep hl ds _ xs e2 h3⟩
  · rename_i c ns ds e
    simp only [Option.map_eq_some_iff] at h
    obtain ⟨xs, h3, rfl⟩ := h
    obtain ⟨dx, fvs, e1, ek, e2⟩ := ok.ob n _ e
    exact ⟨S.r n, dx, fvs, rfl, Sys.ice_st hn g, e1, ek, frzWL.rep hl ds _ xs e2 h3⟩
  · cases h
theorem flk.rep (ok : StoOk K cA S sto) : ∀ n D, flk g sto n = some D → n < S.N → Rep K cA (S.ice g) D (.ref (S.r n)) :=
  flookW.rep ok (flookW.rep ok (flookW.rep ok fun _ _ z _ => by cases z))
theorem frz.rep (ok : StoOk K cA S sto) {d D : DV} {v : V} (r : Rep K cA S d v) (h : frz sto d = some D) : Rep K cA (S.ice false) D v := frzW.rep (flk.rep ok) d v D r h
theorem lend.rep (ok : StoOk K cA S sto) {ds D : List DV} {vs : List V} (r : RepL K cA S ds vs) (h : lend sto ds = some D) : RepL K cA (S.ice true) D vs := frzWL.rep (flk.rep ok) ds vs D r h
mutual
theorem frzW.clean {look : Nat → Option DV} (hl : ∀ n D, look n = some D → BB.clean D = true) : ∀ (d D : DV), frzW false look d = some D → BB.clean D = true
  | .non, D, h => by cases h; rfl
  | .bl b, D, h => by cases h; rfl
  | .int i, D, h => by cases h; rfl
  | .str x, D, h => by cases h; rfl
  | .ty x, D, h => by cases h; rfl
  | .cls x, D, h => by cases h; rfl
  | .scr x, D, h => by cases h; rfl
  | .tup ds, D, h => by
    simp only [frzW, Option.map_eq_some_iff] at h
    obtain ⟨xs, h3, rfl⟩ := h
    exact frzWL.clean hl ds xs h3
  | .lstG g' ds, D, h => by
    simp only [frzW] at h
    split at h
    · cases h
    · rename_i q
      simp only [Option.map_eq_some_iff] at h
      obtain ⟨xs, h3, rfl⟩ := h
      have := frzWL.clean hl ds xs h3
      cases g' <;> simp_all [BB.clean]
  | .dicG g' ks ds, D, h => by
    simp only [frzW] at h
    split at h
    · cases h
    · rename_i q
      simp only [Option.map_eq_some_iff] at h
      obtain ⟨xs, h3, rfl⟩ := h
      have := frzWL.clean hl ds xs h3
      cases g' <;> simp_all [BB.clean]
  | .insG g' c ns ds, D, h => by
    simp only [frzW] at h
    split at h
    · cases h
    · rename_i q
      simp only [Option.map_eq_some_iff] at h
      obtain ⟨xs, h3, rfl⟩ := h
      have := frzWL.clean hl ds xs h3
      cases g' <;> simp_all [BB.clean]
  | .loc n, D, h => hl n D h
theorem frzWL.clean {look : Nat → Option DV} (hl : ∀ n D, look n = some D → BB.clean D = true) : ∀ (ds D : List DV), frzWL false look ds = some D → BB.cleanL D = true
  | [], D, h => by cases h; rfl
  | d :: ds, D, h => by
    unfold frzWL at h
    split at h
    · rename_i x xs e1 e2
      cases h
      simp [BB.cleanL, frzW.clean hl d x e1, frzWL.clean hl ds xs e2]
    · cases h
end
theorem flookW.clean {look : Nat → Option DV} {sto : Sto} (hl : ∀ n D, look n = some D → BB.clean D = true) : ∀ n D, flookW false look sto n = some D → BB.clean D = true := fun n D h => by
  unfold flookW at h
  split at h
  · simp only [Option.map_eq_some_iff] at h
    obtain ⟨xs, h3, rfl⟩ := h
    simp [BB.clean, frzWL.clean hl _ xs h3]
  · simp only [Option.map_eq_some_iff] at h
    obtain ⟨xs, h3, rfl⟩ := h
    simp [BB.clean, frzWL.clean hl _ xs h3]
  · simp only [Option.map_eq_some_iff] at h
    obtain ⟨xs, h3, rfl⟩ := h
    simp [BB.clean, frzWL.clean hl _ xs h3]
  · cases h
theorem frz.clean {sto : Sto} {d D : DV} (h : frz sto d = some D) : BB.clean D = true := frzW.clean (flookW.clean (flookW.clean (flookW.clean fun _ _ z => by cases z))) d D h
theorem StoOk.ice (ok : StoOk K cA S sto) (g : Bool) : StoOk K cA.pl (S.ice g) [] where
  len := rfl
  nf := fun n hn => absurd hn (Nat.not_lt_zero _)
  inj := fun n m hn => absurd hn (Nat.not_lt_zero _)
  ob := fun n o h => by simp at h
  fs := fun a h => by
    rcases h with (h | ⟨_, n, hn, rfl⟩) | (h | ⟨_, n, hn, rfl⟩)
    · exact ok.fs a (.inl h)
    · exact ok.live hn
    · exact ok.fs a (.inr h)
    · exact ok.live hn
  tb := ok.tb
  j := trivial
  fnk := fun n k h => by simp at h
theorem Grow.ice (g : Grow S S') (h0 : S.N = 0) : Grow S (S'.ice false) where
  n := by rw [h0]; exact Nat.le_refl _
  r := fun n hn => absurd hn (by omega)
  f := fun a h => .inl (g.f a h)
  h := g.h
  new := fun n _ hn => absurd hn (Nat.not_lt_zero _)
  st := fun n hn => absurd hn (by omega)
  fn := fun a h => by
    rcases h with h | ⟨_, n, hn, rfl⟩
    · exact g.fn a h
    · exact .inr (.inl (g.new n (by omega) hn))
  z := g.z
  b := fun a h => .inl (g.b a h)
  bn := fun a h => by
    rcases h with h | ⟨z, _⟩
    · exact g.bn a h
    · cases z
  k := g.k
end
end BB
namespace BB
open PySem PySem.Spec PyProof.Rows L2

/-! ### defs -/
inductive PR where
  | ok (d : DV)
  | exc (c : Nat)
  | stuck
/-- a def without effects: called with frozen data ds it gives (F ds) -/
def PSp (K : PySem.W.Frag) (cA : CA) (F : List DV → PR) : Sp := fun vs H Q E => ∃ S ds, S.H = H ∧ S.N = 0 ∧ StoOk K cA.pl S [] ∧ RepL K cA S ds vs ∧ (match F ds with
  | .ok D => ∀ S' v, Grow S S' → S'.N = 0 → StoOk K cA.pl S' [] → Rep K cA S' D v → clean D = true → Q v S'.H
  | .exc c => ∀ S', Grow S S' → S'.N = 0 → StoOk K cA.pl S' [] → E (.ref (cA c)) none S'.H
  | .stuck => False)
theorem PSp.len {K : PySem.W.Frag} {cA : CA} {n : Nat} {F : List DV → PR} (hF : ∀ ds, F ds ≠ .stuck → ds.length = n) {vs : List V} {H : Hp} {Q : VK} {E : XK} (h : PSp K cA F vs H Q E) : vs.length = n := by
  obtain ⟨S, ds, _, _, _, r, q⟩ := h
  rw [← r.length]
  refine hF ds fun e => ?_
  rw [e] at q; exact q
def startE (N : List Str) (ds : List DV) : Env := ds.map some ++ List.replicate (N.length - ds.length) none
theorem startE_ok {K : PySem.W.Frag} {cA : CA} {S : Sys} {N : List Str} {ds : List DV} {vs : List V} (r : RepL K cA S ds vs) : EnvOk K cA S (startE N ds) (L2.start N vs) := by
  refine ⟨by simp [startE, L2.start, r.length], fun i d h => ?_⟩
  unfold startE at h
  by_cases hi : i < ds.length
  · rw [List.getElem?_append_left (by simpa using hi), List.getElem?_map] at h
    simp only [Option.map_eq_some_iff, Option.some.injEq] at h
    obtain ⟨d', h1, h2⟩ := h
    subst h2
    obtain ⟨v, e, rv⟩ := r.get h1
    refine ⟨v, ?_, rv⟩
    unfold L2.start
    rw [List.getElem?_append_left (by rw [List.length_map, ← r.length]; exact hi), List.getElem?_map, e]; rfl
  · rw [List.getElem?_append_right (by simpa using hi)] at h
    rw [List.getElem?_replicate] at h
    split at h <;> cases h
/-- how a body's end is told: frozen -/
def endsP : Out → PR
  | .rt d sto => match frz sto d with
    | some D => .ok D
    | none => .stuck
  | .nx _ _ => .ok .non
  | .exc c _ _ => .exc c
  | _ => .stuck

/-! ### what is raised -/
/-- what a def's caller wants of what is raised -/
def ZE (cA : CA) (E : XK) : Nat → L2.St → Hp → Prop := fun c _ H => E (.ref (cA c)) none H
def EZ (cA : CA) (Z : Nat → L2.St → Hp → Prop) (σ : L2.St) : XK := fun cls d H => ∃ c, cls = .ref (cA c) ∧ d = none ∧ Z c σ H
/-- the context takes what Z wants -/
structure GZ (X : Cx) (cA : CA) (Z : Nat → L2.St → Hp → Prop) : Prop where
  ex : ∃ W, Takes X W ∧ ∀ c σ H, Z c σ H → W (.ref (cA c)) none σ H
section
variable {X : Cx} {cA : CA} {Z : Nat → L2.St → Hp → Prop}
theorem GZ.at (g : GZ X cA Z) (σ : L2.St) : PassesAt (L2.CX X.prog X.w) X σ (EZ cA Z σ) := by
  obtain ⟨W, tk, h⟩ := g.ex
  exact fun pins H s e s' I c => tk e s' (XE.of_call I (fun cls d H' ⟨c, e1, e2, z⟩ => by subst e1 e2; exact h c σ H' z) c)
theorem gz0 : GZ X cA Z0 := ⟨fun _ _ _ _ => False, takes0, fun _ _ _ h => h⟩
end
/-! ### defs that work on the caller's store -/
abbrev TF := List DV → Sto → Res DV
def TSp (K : PySem.W.Frag) (cA : CA) (T : TF) : Sp := fun vs H Q E => ∃ S sto ds, S.H = H ∧ StoOk K cA S sto ∧ RepL K cA S ds vs ∧ Post K cA S (T ds sto) (VQ K cA Q) (fun c _ S' => E (.ref (cA c)) none S'.H)
/-- a def without effects, as one that works on the caller's store: the arguments are lent -/
def liftP (G : List DV → PR) : TF := fun ds s => match lend s ds with
  | some es => (match G es with
    | .ok D => .ok D s
    | .exc c => .exc c s
    | .stuck => .stuck)
  | none => .stuck
section
variable {cA : CA}
/-- back from a callee -/
theorem back_call {K : PySem.W.Frag} {S1 S' : Sys} {s1 : Sto} (ok1 : StoOk K cA S1 s1) (g' : Grow (S1.ice true) S') (ok' : StoOk K cA.pl S' []) : ∃ S2, S2.H = S'.H ∧ Grow S1 S2 ∧ StoOk K cA S2 s1 ∧ KeepsC S' S2 := by
  have same : ∀ a o, S1.H a = some o → (∀ ps, o ≠ .tbl ps) → S'.H a = some o := fun a o h nt => g'.h a o h nt (.inr (.inl fun n hn => absurd hn (Nat.not_lt_zero _)))
  have nt : ∀ n, n < S1.N → ∀ o, S1.H (S1.r n) = some o → ∀ ps, o ≠ .tbl ps := fun n hn o e ps z => by
    subst z
    rcases ok1.kind hn with ⟨_, e2⟩ | ⟨_, e2⟩ | ⟨_, e2⟩ | ⟨_, _, e2⟩ | ⟨_, _, _, e2⟩ | ⟨_, e2⟩ <;> rw [e2] at e <;> cases e
  have gr : Grow S1 { S' with B := S1.B, r := S1.r, N := S1.N } := by
    refine ⟨Nat.le_refl _, fun _ _ => rfl, fun a h => g'.f a (.inl h), fun a o h nt _ => same a o h nt, fun n h1 h2 => absurd h2 (by show ¬ n < S1.N; omega), fun n hn => g'.k _ (ok1.live hn), fun a h => ?_, g'.z, fun _ h => h, fun _ h => h, g'.k⟩
    · rcases g'.fn a h with (h | ⟨z, _⟩) | h | ⟨n, hn, _⟩
      · exact .inl h
      · cases z
      · exact .inr (.inl h)
      · exact absurd hn (Nat.not_lt_zero _)
  refine ⟨{ S' with B := S1.B, r := S1.r, N := S1.N }, rfl, gr, ⟨ok1.len, fun n hn h => ?_, ok1.inj, fun n o h => ?_, fun a h => ?_, ok'.tb, cA.mono _ _ ok1.j gr, fun n k h => ok1.fng gr h⟩, ⟨fun _ h => h, fun _ _ h _ => h, fun _ _ h => h, fun _ _ _ h => h⟩⟩
  · rcases h with h | h
    · rcases g'.fn _ h with (h | ⟨z, _⟩) | h | ⟨m, hm, _⟩
      · exact ok1.nf n hn (.inl h)
      · cases z
      · exact (ok1.live hn h).elim
      · exact absurd hm (Nat.not_lt_zero _)
    · exact ok1.nf n hn (.inr h)
  · have q := ok1.ob n o h
    have : S'.H (S1.r n) = S1.H (S1.r n) := by
      cases e : S1.H (S1.r n) with
      | none => exact absurd e (ok1.live (ok1.lt h))
      | some u => exact same _ _ e (nt n (ok1.lt h) u e)
    show ORep K cA _ o (S'.H (S1.r n))
    rw [this]
    exact ORep.keep (gr.keeps ok1) _ _ q
  · rcases h with h | h
    · exact ok'.fs a (.inl h)
    · exact g'.k _ (ok1.fs a (.inr h))

theorem lift_sp {K : PySem.W.Frag} {G : List DV → PR} {vs : List V} {H : Hp} {Q : VK} {E : XK} (h : TSp K cA (liftP G) vs H Q E) : PSp K cA G vs H Q E := by
  obtain ⟨S, sto, ds, rfl, ok, r, p⟩ := h
  unfold liftP at p
  split at p
  · rename_i es hno
    refine ⟨S.ice true, es, rfl, rfl, ok.ice true, lend.rep ok r hno, ?_⟩
    cases e : G es with
    | stuck => rw [e] at p; exact p.elim
    | exc c =>
      rw [e] at p
      intro S' g' hN' ok'
      obtain ⟨S2, e2, gr, okr, kc⟩ := back_call ok g' ok'
      rw [← e2]
      exact p S2 gr okr
    | ok D =>
      rw [e] at p
      intro S' v g' hN' ok' rv hcl
      obtain ⟨S2, e2, gr, okr, kc⟩ := back_call ok g' ok'
      rw [← e2]
      exact p S2 gr okr v (Rep.keepC kc D v hcl rv)
  · exact p.elim
end
/-- what a body tells: a def without effects; one that works on the caller's store -/
def runP (n : Nat) (N : List Str) (m : SM) (ds : List DV) : PR := if ds.length = n then endsP (m (startE N ds) []) else .stuck
def endsT : Out → Res DV
  | .rt d s => .ok d s
  | .nx _ s => .ok .non s
  | .exc c _ s => .exc c s
  | _ => .stuck
def runT (n : Nat) (N : List Str) (m : SM) : TF := fun ds sto => if ds.length = n then endsT (m (startE N ds) sto) else .stuck
section
variable {P : Program} {w : World} {K : PySem.W.Frag} {mg : Str → Option Value} {base : Heap} {cA : CA}
/-- the context of a def's body -/
abbrev BodyOk (P : Program) (w : World) (K : PySem.W.Frag) (mg : Str → Option Value) (base : Heap) (cA : CA) (N : List Str) (qual : Str) (st : Stmt) (k : Nat) (f : Addr) (m : SM) : Prop :=
  ∀ (cdv : Value) (A : Around) (outer : List PySem.Env) (s : Shared) (H : Hp) (E : XK), Room k (A.deeper (envOfC qual (defScope st) s.heap.objs.size f cdv)) →
      GSs (cxOf (L2.CX P w) P w K mg base N qual (defScope st) f cdv A outer s H E) cA (ZE cA E) (defBody st) m
theorem gzB {N : List Str} {qual : Str} {sc : Scope} {f : Addr} {cdv : Value} {A : Around} {outer : List PySem.Env} {s : Shared} {H : Hp} {E : XK} : GZ (cxOf (L2.CX P w) P w K mg base N qual sc f cdv A outer s H E) cA (ZE cA E) :=
  ⟨fun cls d _ H => E cls d H, takes_of rfl rfl rfl rfl, fun _ _ _ h => h⟩
theorem ownB {N : List Str} {qual : Str} {sc : Scope} {f : Addr} {cdv : Value} {A : Around} {outer : List PySem.Env} {s : Shared} {H : Hp} {E : XK} : PassesOwn (model P w) (cxOf (L2.CX P w) P w K mg base N qual sc f cdv A outer s H E).A (cxOf (L2.CX P w) P w K mg base N qual sc f cdv A outer s H E).env (cxOf (L2.CX P w) P w K mg base N qual sc f cdv A outer s H E).xe := passes_of (X := cxOf (L2.CX P w) P w K mg base N qual sc f cdv A outer s H E) rfl
theorem pfun {x qual : Str} {st : Stmt} {f : Addr} {fd : FuncData} {N ps : List Str} {k : Nat} {m : SM} (F : Fun K x qual st f fd) (Sc : FnScope N ps (defScope st)) (hbody : BodyOk P w K mg base cA.pl N qual st k f m) :
    FnOk P w K mg base (L2.CX P w) (k + 1) f fd ps (PSp K cA (runP ps.length N m)) := by
  refine F.okX Sc (fun vs H Q E h => h.len fun ds h => ?_) (fun cdv A outer s H vs Q E hr h => ?_)
  · unfold runP at h
    by_cases hl : ds.length = ps.length
    · exact hl
    · rw [if_neg hl] at h; exact absurd rfl h
  obtain ⟨S, ds, rfl, hN, ok, r, hq⟩ := h
  refine ⟨_, pssW _, (hbody cdv A outer s S.H E hr).run S (L2.start N vs) (startE N ds) [] ok (startE_ok r) _ ?_⟩
  unfold runP at hq
  by_cases hl : ds.length = ps.length
  case neg => rw [if_neg hl] at hq; exact hq.elim
  rw [if_pos hl] at hq
  cases e2 : m (startE N ds) [] with
  | rt d sto =>
    rw [e2] at hq
    simp only [endsP] at hq
    cases e3 : frz sto d with
    | none => rw [e3] at hq; exact hq.elim
    | some D =>
      rw [e3] at hq
      exact fun S' v g' ok' rv => hq (S'.ice false) v (g'.ice hN) rfl (ok'.ice false) (frz.rep ok' rv e3) (frz.clean e3)
  | nx env sto =>
    rw [e2] at hq
    exact fun S' σ' g' ok' eo' => hq (S'.ice false) .non (g'.ice hN) rfl (ok'.ice false) rfl rfl
  | exc c env sto =>
    rw [e2] at hq
    exact fun S' σ' g' ok' eo' => hq (S'.ice false) (g'.ice hN) rfl (ok'.ice false)
  | bk env sto => rw [e2] at hq; exact hq.elim
  | ct env sto => rw [e2] at hq; exact hq.elim
  | stuck => rw [e2] at hq; exact hq.elim
theorem tfun {x qual : Str} {st : Stmt} {f : Addr} {fd : FuncData} {N ps : List Str} {k : Nat} {m : SM} (F : Fun K x qual st f fd) (Sc : FnScope N ps (defScope st)) (hbody : BodyOk P w K mg base cA N qual st k f m) :
    FnOk P w K mg base (L2.CX P w) (k + 1) f fd ps (TSp K cA (runT ps.length N m)) := by
  refine F.okX Sc (fun vs H Q E h => ?_) (fun cdv A outer s H vs Q E hr h => ?_)
  · obtain ⟨S, sto, ds, rfl, ok, r, p⟩ := h
    rw [← r.length]
    unfold runT at p
    split at p
    · assumption
    · exact p.elim
  obtain ⟨S, sto, ds, rfl, ok, r, p⟩ := h
  refine ⟨_, pssW _, (hbody cdv A outer s S.H E hr).run S (L2.start N vs) (startE N ds) sto ok (startE_ok r) _ ?_⟩
  unfold runT at p
  split at p
  case isFalse => exact p.elim
  cases e2 : m (startE N ds) sto with
  | rt d sto => rw [e2] at p; exact fun S' v g' ok' rv => p S' g' ok' v rv
  | nx env sto => rw [e2] at p; exact fun S' σ' g' ok' eo' => p S' g' ok' .non rfl
  | exc c env sto => rw [e2] at p; exact fun S' σ' g' ok' eo' => p S' g' ok'
  | bk env sto => rw [e2] at p; exact p.elim
  | ct env sto => rw [e2] at p; exact p.elim
  | stuck => rw [e2] at p; exact p.elim
theorem pfunT {x qual : Str} {st : Stmt} {f : Addr} {fd : FuncData} {N ps : List Str} {k : Nat} {m : SM} (F : Fun K x qual st f fd) (Sc : FnScope N ps (defScope st)) (hbody : BodyOk P w K mg base cA.pl N qual st k f m) :
    FnOk P w K mg base (L2.CX P w) (k + 1) f fd ps (TSp K cA (liftP (runP ps.length N m))) := (pfun F Sc hbody).imp fun _ _ _ _ h => lift_sp h
end
/-! ### defs by name -/
structure Callee (P : Program) (w : World) (K : PySem.W.Frag) (mg : Str → Option Value) (base : Heap) (cA : CA) (x : Str) (k : Nat) (T : TF) : Prop where
  ex : ∃ f fd ps, FnOk P w K mg base (L2.CX P w) k f fd ps (TSp K cA T) ∧ mg x = some (.ref f) ∧ PySem.W.keepIn K (.ref f) = true ∧ Binds K fd ps []
/-- a def of the text, where it stands -/
structure DefAt (K : PySem.W.Frag) (mg : Str → Option Value) (x : Str) (st : Stmt) (ps : List Str) : Prop where
  ex : ∃ f fd, Fun K x x st f fd ∧ mg x = some (.ref f) ∧ Binds K fd ps []
section
variable {P : Program} {w : World} {K : PySem.W.Frag} {mg : Str → Option Value} {base : Heap} {cA : CA}
theorem callee {x : Str} {st : Stmt} {N ps : List Str} {k : Nat} {m : SM} (D : DefAt K mg x st ps) (Sc : FnScope N ps (defScope st))
    (hbody : ∀ f, BodyOk P w K mg base cA.pl N x st k f m) : Callee P w K mg base cA x (k + 1) (liftP (runP ps.length N m)) := by
  obtain ⟨f, fd, F, hm, hb⟩ := D.ex
  exact ⟨f, fd, ps, pfunT F Sc (hbody f), hm, F.kp, hb⟩
theorem calleeT {x : Str} {st : Stmt} {N ps : List Str} {k : Nat} {m : SM} (D : DefAt K mg x st ps) (Sc : FnScope N ps (defScope st))
    (hbody : ∀ f, BodyOk P w K mg base cA N x st k f m) : Callee P w K mg base cA x (k + 1) (runT ps.length N m) := by
  obtain ⟨f, fd, F, hm, hb⟩ := D.ex
  exact ⟨f, fd, ps, tfun F Sc (hbody f), hm, F.kp, hb⟩
/-- a def that is never called -/
theorem callee0 {x : Str} {st : Stmt} {ps : List Str} {k : Nat} (D : DefAt K mg x st ps) : Callee P w K mg base cA x (k + 1) (liftP fun _ => .stuck) := by
  obtain ⟨f, fd, F, hm, hb⟩ := D.ex
  have no : ∀ {ds s}, liftP (fun _ => .stuck) ds s = .stuck := fun {ds s} => by unfold liftP; split <;> rfl
  refine ⟨f, fd, ps, ⟨fun vs H Q E h => ?_, fun A outer s H args us vs Q E _ _ _ _ h => ?_⟩, hm, F.kp, hb⟩
  · obtain ⟨S, sto, ds, rfl, ok, r, q⟩ := h; rw [no] at q; exact q.elim
  · obtain ⟨S, sto, ds, rfl, ok, r, q⟩ := h; rw [no] at q; exact q.elim
end
/-- a call -/
def eCallT (T : TF) (t : AM) : EM := fun env sto => (t env sto).bind fun ds s => T ds s
abbrev eCall (G : List DV → PR) (t : AM) : EM := eCallT (liftP G) t
section
variable {X : Cx} {cA : CA} {Z : Nat → L2.St → Hp → Prop} {pos p : Pos} {x : Str} {e : Expr} {es : List Expr} {t : AM} {T : TF} {k : Nat}
theorem g_callC (hz : GZ X cA Z) (C : Callee X.prog X.w X.K X.mg X.base cA x k T) (hr : Room k X.A) (ha : GA X cA Z (e :: es) t) (hg : Gl X x := by rfl)
    (hdb : (x == ("__debug__" : Str)) = false := by decide) (he : starEach (e :: es) X.env = (false, eval e X.env) :: starEach es X.env := by exact star_plain rfl) (hpl : (backTo pos (starEach es X.env)).any (·.1) = false := by exact plain_any rfl) :
    GE X cA Z (.Call (.Name x p) (e :: es) [] pos) (eCallT T t) := by
  obtain ⟨f, fd, ps, F, hm, hk, hb⟩ := C.ex
  refine .mk ?_
  intro S σ env sto ok eo Q p
  refine wE.of (pe_callS F hr hg hm hk hb hz.at (paW _) hdb he hpl) (ha.then ok eo p fun ds s1 S1 vs g1 ok1 eo1 rs h1 => ?_)
  exact ⟨S1, s1, ds, rfl, ok1, rs, h1.imp (fun _ _ _ _ _ q => q) fun c _ _ _ _ z => ⟨c, rfl, rfl, z⟩⟩
theorem g_callC0 (hz : GZ X cA Z) (C : Callee X.prog X.w X.K X.mg X.base cA x k T) (hr : Room k X.A) (hg : Gl X x := by rfl) (hdb : (x == ("__debug__" : Str)) = false := by decide) : GE X cA Z (.Call (.Name x p) [] [] pos) (eCallT T aNil) := by
  obtain ⟨f, fd, ps, F, hm, hk, hb⟩ := C.ex
  refine .mk fun S σ env sto ok eo Q q pins s I => ?_
  refine wpAny_Call_Name_kw (ld_glob I hg hm ?_ hdb)
  refine PySem.W.callWith_K0 I.kIn hk (run_fnS (us := []) (vs := []) (E := fun σ => EZ cA Z σ) F hr hb (hz.at σ) I .nil ?_)
  exact ⟨S, sto, [], rfl, ok, rfl, Post.imp q (fun _ _ _ _ _ q => q) fun c _ _ _ _ z => ⟨c, rfl, rfl, z⟩⟩
end
/-! ### the law itself -/
section
variable {P : Program} {w : World} {K : PySem.W.Frag} {mg : Str → Option Value} {base : Heap} {cA : CA}
/-- the promise at the script -/
theorem law_sp {G : List DV → PR} {H : Hp} {a : Addr} {ns : List Int} (h : G [.scr ns] = .ok (.bl true)) (hS : SqL K H a (ns.map V.int)) (hT : ∀ p ∈ cA.tabs, LamX.TabS H p.1 p.2) : PSp K cA G [.ref a] H (fun v _ => v = .bl true) fun _ _ _ => False := by
  refine ⟨⟨H, fun x => x = a ∧ ∃ xs, H a = some (.lst xs), fun _ => False, fun _ => 0, 0⟩, [.scr ns], rfl, rfl, ⟨rfl, fun n hn => absurd hn (Nat.not_lt_zero _), fun n m hn => absurd hn (Nat.not_lt_zero _), fun n o h => by simp at h, fun x hx => ?_, hT, trivial, fun n k h => by simp at h⟩, ⟨.ref a, [], rfl, ⟨a, rfl, ?_⟩, rfl⟩, ?_⟩
  · obtain ⟨rfl, xs, e⟩ | z := hx
    rotate_left
    · exact z.elim
    show H x ≠ none
    rw [e]; simp
  · rcases hS with (e | ⟨o, e⟩) | e
    · exact .inr (.inl ⟨⟨rfl, _, e⟩, e⟩)
    · exact .inl ⟨o, e⟩
    · exact .inr (.inr e)
  · rw [h]
    intro S' v _ _ _ r _
    exact r
/-- a def called where nothing may be raised -/
theorem FnOk.no {k : Nat} {f : Addr} {fd : FuncData} {ps : List Str} {sp : Sp} (F : FnOk P w K mg base (L2.CX P w) k f fd ps sp) : FnOk P w K mg base CX0 k f fd ps (fun vs H Q _ => sp vs H Q fun _ _ _ => False) :=
  ⟨fun vs H Q E h => F.len _ _ _ _ h, fun A outer s H args us vs Q E hr he hb hv hs => codeAny_mono (F.run A outer s H args us vs Q _ hr he hb hv hs) fun r s' hq => by
    cases r with
    | error e =>
      obtain ⟨_, _, _, _, _, _, _, _, _, _, _, _, z⟩ := hq
      exact z.elim
    | ok fl =>
      cases fl with
      | ret u => exact hq
      | next => exact hq
      | brk => exact hq
      | cont => exact hq⟩
end
end BB
namespace BB
open PySem PySem.Spec PyProof.Rows L2

theorem u1 {A : Around} {k : Nat} (hr : Room k A) : A.units + 1 < cLine := by have := hr.un; omega
theorem u10 {A : Around} {k : Nat} (hr : Room k A) : A.units + 10 < cLine := by have := hr.un; omega
theorem u64 {A : Around} {k : Nat} (hr : Room k A) : A.units + 64 < cLine := by have := hr.un; omega
theorem u65 {A : Around} {k : Nat} (hr : Room k A) : A.units + 65 < cLine := by have := hr.un; omega
theorem u200 {A : Around} {k : Nat} (hr : Room k A) : A.units + 200 < cLine := by have := hr.un; omega

/-! ### >= of data; - of an int; is -/
def notNone : PyData → Bool
  | .none => false
  | _ => true
def oGe (x y : DV) (sto : Sto) : Res DV := match x, y with
  | .int i, .int j => .ok (.bl (decide (j ≤ i))) sto
  | x, y => match py sto x, py sto y with
    | some a, some b => if PySem.W.alike a b = true ∧ notNone a = true ∧ a.depth ≤ 64 then .ok (.bl (!PySem.W.dataLt a b)) sto else .stuck
    | _, _ => .stuck
def uNeg (x : DV) (sto : Sto) : Res DV := match x with
  | .int i => .ok (.int (-i)) sto
  | _ => .stuck
def eUn (f : DV → Sto → Res DV) (a : EM) : EM := fun env sto => (a env sto).bind fun x s => f x s
section
variable {X : Cx} {cA : CA} {Z : Nat → L2.St → Hp → Prop} {pos : Pos} {a b : Expr} {ma mb : EM}
theorem n_ge (x y : DV) (s : Sto) : (oGe x y s).noexc := by
  unfold oGe
  split
  · trivial
  · split
    · split <;> trivial
    · trivial
theorem s_ge (hu : X.A.units + 64 < cLine) : OpS X cA (compareOp .GtE) oGe := fun S sto x y vx vy Q ok rx ry p pins s σ v u I r1 r2 => by
  unfold oGe at p
  split at p
  · rename_i i j
    cases (show vx = .int i from rx)
    cases (show vy = .int j from ry)
    exact op_ge pins s σ S.H _ _ v u Q I r1 r2 ⟨i, j, rfl, rfl, ret_same ok p rfl⟩
  · split at p
    · rename_i A B e1 e2
      split at p
      · rename_i hc
        obtain ⟨as, ra⟩ := Dp.reads I A vx v (py.rep ok rx e1) r1
        obtain ⟨bs, rb⟩ := Dp.reads I B vy u (py.rep ok ry e2) r2
        refine PySem.W.rcGe_alike A B X.A s v u as bs ra rb hc.1 (fun z => ?_) ?_ X.prog X.w X.xe (EP X pins σ Q) ⟨.bl _, S.H, I, rfl, ret_same ok p rfl⟩
        · subst z; cases hc.2.1
        · have := Nat.min_le_left A.depth B.depth
          have := hc.2.2
          omega
      · exact p.elim
    · exact p.elim
theorem g_neg (ha : GE X cA Z a ma) : GE X cA Z (.UnaryOp .USub a pos) (eUn uNeg ma) := .mk fun S σ env sto ok eo Q p => by
  refine wE.of (pe_un un_neg (peW a)) (ha.then ok eo p fun x s1 S1 vx g1 ok1 eo1 rx h1 => ?_)
  unfold uNeg at h1
  split at h1
  · exact ⟨_, rx, ret_same ok1 h1 rfl⟩
  · exact h1.elim
/-- is None, is True, is False -/
def isNonD : DV → Bool
  | .non => true
  | _ => false
def oIsN (x y : DV) (sto : Sto) : Res DV := match y with
  | .non => .ok (.bl (isNonD x)) sto
  | .bl b => match x with
    | .bl c => .ok (.bl (decide (c = b))) sto
    | _ => .stuck
  | _ => .stuck
def oIsNot (x y : DV) (sto : Sto) : Res DV := match y with
  | .non => .ok (.bl (!isNonD x)) sto
  | .bl b => match x with
    | .bl c => .ok (.bl (!decide (c = b))) sto
    | _ => .stuck
  | _ => .stuck
theorem n_isN (x y : DV) (s : Sto) : (oIsN x y s).noexc := by unfold oIsN; split <;> (try split) <;> trivial
theorem n_isNot (x y : DV) (s : Sto) : (oIsNot x y s).noexc := by unfold oIsNot; split <;> (try split) <;> trivial
theorem isNon_rep {K : PySem.W.Frag} {S : Sys} {d : DV} {v : V} (r : Rep K cA S d v) : decide (v = V.non) = isNonD d := by
  cases d
  case non => cases (show v = .non from r); rfl
  case bl b => cases (show v = .bl b from r); rfl
  case int b => cases (show v = .int b from r); rfl
  case str b => cases (show v = .str b from r); rfl
  case ty b => cases (show v = .ty b from r); rfl
  case cls b => cases (show v = .ref (cA b) from r); rfl
  case tup => obtain ⟨a, vs, rfl, _⟩ := r; rfl
  case lstG => obtain ⟨a, vs, rfl, _⟩ := r; rfl
  case dicG => obtain ⟨a, vs, rfl, _⟩ := r; rfl
  case insG => obtain ⟨a, dx, vs, rfl, _⟩ := r; rfl
  case scr => obtain ⟨a, rfl, _⟩ := r; rfl
  case loc => obtain ⟨_, rfl⟩ := r; rfl
theorem s_isN : OpS X cA (compareOp .Is) oIsN := fun S sto x y vx vy Q ok rx ry p pins s σ v u I r1 r2 => by
  unfold oIsN at p
  split at p
  · cases (show vy = .non from ry)
    exact op_isN pins s σ S.H _ _ v u Q I r1 r2 ⟨rfl, by rw [isNon_rep rx]; exact ret_same ok p rfl⟩
  · rename_i b
    split at p
    · rename_i c
      cases (show vx = .bl c from rx)
      cases (show vy = .bl b from ry)
      exact op_is_bl pins s σ S.H _ _ v u Q I r1 r2 ⟨c, b, rfl, rfl, ret_same ok p rfl⟩
    · exact p.elim
  · exact p.elim
theorem s_isNot : OpS X cA (compareOp .IsNot) oIsNot := fun S sto x y vx vy Q ok rx ry p pins s σ v u I r1 r2 => by
  unfold oIsNot at p
  split at p
  · cases (show vy = .non from ry)
    exact op_notN pins s σ S.H _ _ v u Q I r1 r2 ⟨rfl, by rw [isNon_rep rx]; exact ret_same ok p rfl⟩
  · rename_i b
    split at p
    · rename_i c
      cases (show vx = .bl c from rx)
      cases (show vy = .bl b from ry)
      exact op_isnot_bl pins s σ S.H _ _ v u Q I r1 r2 ⟨c, b, rfl, rfl, ret_same ok p rfl⟩
    · exact p.elim
  · exact p.elim
end

/-- d.get(k, x) -/
def eGet2 (o k x : EM) : EM := fun env sto => (o env sto).bind fun d s1 => match d with
  | .loc n => match s1[n]? with
    | some (.dK _ _) => (k env s1).bind fun y s2 => (x env s2).bind fun z s3 => match dicOf s3 d y with
      | some (some v) => .ok v s3
      | some none => .ok z s3
      | none => .stuck
    | _ => .stuck
  | _ => .stuck
section
variable {X : Cx} {cA : CA} {Z : Nat → L2.St → Hp → Prop} {apos cpos : Pos} {o e f : Expr} {mo me mf : EM}
theorem g_get2 (hu : X.A.units + 1 < cLine) (ho : GE X cA Z o mo) (he : GE X cA Z e me) (hf : GE X cA Z f mf) (m : M2 X o "get" apos e f cpos := by exact ⟨rfl, rfl, rfl, rfl⟩) : GE X cA Z (.Call (.Attribute o "get" apos) [e, f] [] cpos) (eGet2 mo me mf) := .mk fun S σ env sto ok eo Q p => by
  refine wE.of (pe_dget2 hu (peW o) (peW e) (peW f) m) (ho.then ok eo p fun d s1 S1 v g1 ok1 eo1 r h1 => ?_)
  cases d <;> first | exact h1.elim | skip
  rename_i n
  simp only at h1
  split at h1
  · rename_i ks ds e1
    have r0 := r
    obtain ⟨hn, rfl⟩ := r
    obtain ⟨kvs, q1, _⟩ := ok1.ob n _ e1
    refine ⟨_, rfl, .inl ⟨kvs, .inl q1⟩, he.then ok1 eo1 h1 fun y s2 S2 vy g2 ok2 eo2 ry h2 => ?_⟩
    refine hf.then ok2 eo2 h2 fun z s3 S3 vz g3 ok3 eo3 rz h3 => ?_
    have r3 : Rep X.K cA S3 (.loc n) (.ref (S1.r n)) := (Rep.grow r0 ok1 g2).grow ok2 g3
    have ry3 := ry.grow ok2 g3
    cases hd : dicOf s3 (.loc n) y with
    | none => rw [hd] at h3; exact h3.elim
    | some w =>
      rw [hd] at h3
      obtain ⟨c, u, ec, hg, hs, hno⟩ := dicOf.rep (X := X) (d := y) ok3 r3 ry3 hd
      cases ec
      refine ⟨u, hg, ?_⟩
      cases w with
      | none => rw [hno rfl]; exact ret_same ok3 h3 rz
      | some d =>
        obtain ⟨v, rfl, rv⟩ := hs d rfl
        exact ret_same ok3 h3 rv
  · exact h1.elim
end

/-! ### a, b, c = x, y, z -/
def sPar3 (i j l : Nat) (t : AM) : SM := fun env sto => (t env sto).out env fun ds s => match ds with
  | [u, v, w] => .nx (((env.set i (some u)).set j (some v)).set l (some w)) s
  | _ => .stuck
section
variable {X : Cx} {cA : CA} {Z : Nat → L2.St → Hp → Prop} {pos : Pos}
theorem g_par3 (i j l : Nat) {x y z : Str} {a b c : Expr} {t : AM} {px py pz pt : Pos} {kt k2 pt2} (hc : X.calm = true) (hN : X.N.Nodup) (ha : GA X cA Z [a, b, c] t) (hi : X.N[i]? = some x := by rfl) (hj : X.N[j]? = some y := by rfl) (hl : X.N[l]? = some z := by rfl) (hij : i ≠ j := by decide) (hil : i ≠ l := by decide) (hjl : j ≠ l := by decide)
    (hx : X.env.scope.names.lookup x = some .local := by rfl) (hy : X.env.scope.names.lookup y = some .local := by rfl) (hz : X.env.scope.names.lookup z = some .local := by rfl)
    (hw : swappedStores [.Tuple [.Name x px, .Name y py, .Name z pz] kt pt] (.Tuple [a, b, c] k2 pt2) X.env = pure (some [x, y, z]) := by rfl)
    (hs : swapsWithSole [.Tuple [.Name x px, .Name y py, .Name z pz] kt pt] (.Tuple [a, b, c] k2 pt2) pos.line X.env = pure false := by exact sws_plain rfl) :
    GS X cA Z (.Assign [.Tuple [.Name x px, .Name y py, .Name z pz] kt pt] (.Tuple [a, b, c] k2 pt2) pos) (sPar3 i j l t) := .mk fun S σ env sto ok eo D p => by
  refine wS.of (ps_par3 hc hN hi hj hl hij hil hjl hx hy hz (paW _) hw hs) (ha.out ok eo p fun ds s1 S1 vs g1 ok1 eo1 rs h1 => ?_)
  split at h1
  · obtain ⟨u, r, rfl, r1, r2⟩ := rs
    obtain ⟨v, w, rfl, r3, r4⟩ := two_rep r2
    exact ⟨u, v, w, rfl, h1 S1 _ (Grow.refl ok1) ok1 (((eo1.set r1).set r3).set r4)⟩
  · exact h1.elim
/-! ### a comprehension over a dict's keys: the dict is locked meanwhile -/
def keyDV : Key → DV
  | .inl i => .int i
  | .inr x => .str x
def iKeysD (m : EM) : IM := fun env sto => (m env sto).bind fun d s => match d with
  | .loc n => match s[n]? with
    | some (.dKf ks _) => .ok (.fix (ks.map keyDV)) s
    | _ => .stuck
  | _ => .stuck
theorem gi_keys {tg l : Expr} {m : EM} (h : GE X cA Z l m) : GI X cA Z tg l (iKeysD m) := .mk fun S σ env sto ok eo R p => by
  refine wI.of (pi_keys (peW l)) (h.then ok eo p fun d s S1 v g1 ok1 eo1 r h1 => ?_)
  cases d <;> first | exact h1.elim | skip
  rename_i n
  simp only at h1
  split at h1
  · rename_i ks ds e
    obtain ⟨hn, rfl⟩ := r
    obtain ⟨ob, kvs, q1, q2, q3, _⟩ := ok1.ob n _ e
    refine ⟨_, ob, rfl, .inl ⟨kvs, q1, h1 S1 (Grow.refl ok1) ok1 _ fun S' sto' g ok' xs hv => ?_⟩⟩
    cases hv
    have hz := g.z _ _ _ q1
    refine ⟨fun i hi => ⟨hz, by simpa [← q2] using hi⟩, fun i d hd => ?_⟩
    rw [List.getElem?_map] at hd
    simp only [Option.map_eq_some_iff] at hd
    obtain ⟨k, hk, rfl⟩ := hd
    rw [← q2, List.getElem?_map] at hk
    simp only [Option.map_eq_some_iff] at hk
    obtain ⟨⟨k', v'⟩, hk, rfl⟩ := hk
    refine ⟨⟨hz, (List.getElem?_eq_some_iff.mp hk).1⟩, fun v H' hy => ?_⟩
    obtain ⟨rfl, k2, v2, e2, rfl⟩ := hy
    rw [hk] at e2
    cases e2
    refine ⟨S', rfl, Grow.refl ok', ok', ?_⟩
    cases k' <;> rfl
  · exact h1.elim
/-- the dict of a name is locked while m runs -/
def eLock (i : Nat) (m : EM) : EM := fun env sto => match env[i]? with
  | some (some (.loc n)) => match sto[n]? with
    | some (.dK ks ds) => (m env (sto.set n (.dKf ks ds))).bind fun d s => match s[n]? with
      | some (.dKf ks' ds') => .ok d (s.set n (.dK ks' ds'))
      | _ => .stuck
    | _ => .stuck
  | _ => .stuck
theorem g_lock (i : Nat) {e : Expr} {m : EM} (h : GE X cA Z0 e m) (hZ : Z = Z0) : GE X cA Z e (eLock i m) := .mk fun S σ env sto ok eo Q p => by
  subst hZ
  unfold eLock at p
  split at p
  · rename_i n e0
    split at p
    · rename_i ks ds e1
      obtain ⟨v, ev, hn, rfl⟩ := eo.2 _ _ e0
      obtain ⟨kvs, q1, q2, q3, q4⟩ := ok.ob n _ e1
      refine wE.of (pe_lock (peW e)) ⟨S.r n, .dK kvs, q1, trivial, fun od => ?_⟩
      have nz : ∀ o u, S.H (S.r n) ≠ some (.frz o u) := fun o u z => by rw [q1] at z; cases z
      have gl : Grow S (S.mut n (.frz od (.dK kvs))) := Grow.mut ok hn (ok.alive e1 (by simp)) nz
      have okl : StoOk X.K cA (S.mut n (.frz od (.dK kvs))) (sto.set n (.dKf ks ds)) := ok.mut hn (ok.alive e1 (by simp)) nz ⟨od, kvs, rfl, q2, q3, q4⟩
      refine h.run _ σ env _ okl (eo.grow ok gl) _ ?_
      cases em : m env (sto.set n (.dKf ks ds)) with
      | stuck => rw [em] at p; exact p.elim
      | exc c s => rw [em] at p; exact fun S' g' ok' => p S' (gl.trans g') ok'
      | ok d s =>
        rw [em] at p
        simp only [Res.bind_ok] at p
        intro S1 g1 ok1 w r
        have hz : S1.H (S.r n) = some (.frz od (.dK kvs)) := g1.z _ _ _ upd_same
        refine ⟨hz, ?_⟩
        split at p
        · rename_i ks' ds' e2
          have hrn : S1.r n = S.r n := g1.r n hn
          have hn1 : n < S1.N := ok1.lt e2
          obtain ⟨ob', kvs', w1, w2, w3, w4⟩ := ok1.ob n _ e2
          rw [hrn, hz] at w1
          cases w1
          have gg := gl.trans g1
          have kp : Keeps S1 (S1.mut n (.dK kvs)) := by
            refine ⟨Nat.le_refl _, fun _ _ => rfl, fun _ h => h, fun _ h => h, fun a o h _ hf => ?_, fun a vs h => ?_, fun a o u h => ?_⟩
            · show upd S1.H (S1.r n) _ a = _
              rw [upd_ne (fun e => (ok1.alive e2 (by simp)).1 (by rw [← e]; exact hf))]; exact h
            · show upd S1.H (S1.r n) _ a = _
              rw [upd_ne (fun e => ok1.ntup h n hn1 e.symm)]; exact h
            · show upd S1.H (S1.r n) _ a = _
              rw [upd_ne (fun e => by rw [e, hrn, hz] at h; cases h)]; exact h
          have tb1 : ∀ P q, LamX.TabS S1.H P q → LamX.TabS (upd S1.H (S1.r n) (.dK kvs)) P q := by
            rintro P q ⟨ps, h1, h2, h3⟩
            refine ⟨ps, ?_, h2, fun pos cv hc => ?_⟩
            · rw [upd_ne (fun z => by rw [z, hrn, hz] at h1; cases h1)]; exact h1
            · obtain ⟨c, e3, e4⟩ := h3 pos cv hc
              exact ⟨c, e3, by rw [upd_ne (fun z => by rw [z, hrn, hz] at e4; unfold LamX.CodeO at e4; cases e4)]; exact e4⟩
          have gr : Grow S (S1.mut n (.dK kvs)) := by
            refine ⟨gg.n, gg.r, gg.f, fun a o h nt ha => ?_, gg.new, fun m hm => ?_, gg.fn, fun a o u h => ?_, gg.b, gg.bn, fun a h => ?_⟩
            · show upd S1.H (S1.r n) _ a = _
              rw [upd_ne (fun e => ha.elim (fun hf => (ok.alive e1 (by simp)).1 (by rw [← hrn, ← e]; exact hf)) fun q => q.elim (fun q => q n hn (by rw [e, hrn])) fun ⟨φ, q⟩ => by rw [e, hrn, q1, q] at h; cases h)]; exact gg.h a o h nt ha
            · show upd S1.H (S1.r n) _ (S.r m) ≠ none
              unfold upd; split
              · simp
              · exact gg.st m hm
            · show upd S1.H (S1.r n) _ a = _
              rw [upd_ne (fun e => by rw [e, hrn, q1] at h; cases h)]; exact gg.z a o u h
            · show upd S1.H (S1.r n) _ a ≠ none
              unfold upd; split
              · simp
              · exact gg.k a h
          have okf : StoOk X.K cA (S1.mut n (.dK kvs)) (s.set n (.dK ks' ds')) := by
            refine ⟨by simp [ok1.len]; rfl, fun m hm hf => by
              have hf : S1.U (S1.r m) := hf
              rw [List.getElem?_set_ne (fun e : n = m => (ok1.alive e2 (by simp)).1 (e ▸ hf))]
              exact ok1.nf m hm hf, ok1.inj, fun m x hx => ?_, fun a ha => ?_, fun q hq => tb1 _ _ (ok1.tb q hq), cA.mono _ _ ok.j gr, fun m k hx => ?_⟩
            · show ORep X.K cA _ x (upd S1.H (S1.r n) _ (S1.r m))
              by_cases e : n = m
              · subst e
                rw [List.getElem?_set_self (by rw [ok1.len]; exact hn1)] at hx
                cases hx
                rw [upd_same]
                exact ⟨kvs, rfl, w2, RepL.keep kp _ _ w3, w4⟩
              · rw [List.getElem?_set_ne e] at hx
                rw [upd_ne (fun z => e (ok1.inj n m hn1 (ok1.lt hx) z.symm))]
                exact ORep.keep kp _ _ (ok1.ob m x hx)
            · show upd S1.H (S1.r n) _ a ≠ none
              unfold upd; split
              · simp
              · exact ok1.fs a ha
            · by_cases e : n = m
              · subst e
                rw [List.getElem?_set_self (by rw [ok1.len]; exact hn1)] at hx
                cases hx
              · rw [List.getElem?_set_ne e] at hx
                refine cA.lmono _ _ _ _ (ok1.fnk m k hx) fun b φ h => ?_
                show upd S1.H (S1.r n) _ b = _
                rw [upd_ne (fun z => by rw [z, hrn, hz] at h; cases h)]; exact h
          have q := p (S1.mut n (.dK kvs)) gr okf w (Rep.keep kp _ _ r)
          have e3 : (S1.mut n (.dK kvs)).H = upd S1.H (S.r n) (.dK kvs) := by show upd S1.H (S1.r n) _ = _; rw [hrn]
          rw [e3] at q
          exact q
        · exact p.elim
    · exact p.elim
  · exact p.elim
end
end BB
namespace BB
open PySem PySem.Spec PyProof.Rows L2
/-! ### a list, a dict of the store that is changed no more: frozen -/
def sFrz (i : Nat) : SM := fun env sto => match env[i]? with
  | some (some (.loc n)) => match sto[n]? with
    | some (.lst ds) => if noLocL ds = true then .nx (env.set i (some (.lst ds))) (sto.set n .dead) else .stuck
    | some (.dT ks ds) => if noLocL ds = true then .nx (env.set i (some (.dic ks ds))) (sto.set n .dead) else .stuck
    | _ => .stuck
  | _ => .stuck
def Sys.chill (S : Sys) (n : Nat) : Sys := { S with F := fun a => S.F a ∨ a = S.r n }
section
variable {K : PySem.W.Frag} {cA : CA} {S : Sys} {sto : Sto} {n : Nat}
theorem Grow.chill (ok : StoOk K cA S sto) (hn : n < S.N) : Grow S (S.chill n) where
  n := Nat.le_refl _
  r := fun _ _ => rfl
  f := fun _ h => .inl h
  h := fun _ _ h _ _ => h
  new := fun m h1 h2 => absurd h2 (by show ¬ m < S.N; omega)
  st := fun m hm => ok.live hm
  fn := fun a h => h.imp id fun e => .inr ⟨n, hn, e⟩
  z := fun _ _ _ h => h
  b := fun _ h => h
  bn := fun _ h => h
  k := fun _ h => h
theorem StoOk.chill (ok : StoOk K cA S sto) (hn : n < S.N) (hd : ORep K cA S .dead (S.H (S.r n))) : StoOk K cA (S.chill n) (sto.set n .dead) where
  len := by simp [ok.len]; rfl
  nf := fun m hm hf => by
    have hl : n < sto.length := by rw [ok.len]; exact hn
    by_cases e : n = m
    · subst e; exact ⟨.dead, List.getElem?_set_self hl, .inl rfl⟩
    · rw [List.getElem?_set_ne e]
      rcases hf with (hf | hf) | hf
      · exact ok.nf m hm (.inl hf)
      · exact absurd (ok.inj m n hm hn hf) (fun z => e z.symm)
      · exact ok.nf m hm (.inr hf)
  inj := ok.inj
  ob := fun m x h => by
    show ORep K cA (S.chill n) x (S.H (S.r m))
    by_cases e : n = m
    · subst e
      rw [List.getElem?_set_self (by rw [ok.len]; exact hn)] at h
      cases h
      exact hd
    · rw [List.getElem?_set_ne e] at h
      exact ORep.keep ((Grow.chill ok hn).keeps ok) _ _ (ok.ob m x h)
  fs := fun a h => by
    rcases h with (h | h) | h
    · exact ok.fs a (.inl h)
    · show S.H a ≠ none
      rw [h]; exact ok.live hn
    · exact ok.fs a (.inr h)
  tb := ok.tb
  j := cA.mono _ _ ok.j (Grow.chill ok hn)
  fnk := fun m k h => by
    by_cases e : n = m
    · subst e
      rw [List.getElem?_set_self (by rw [ok.len]; exact hn)] at h
      cases h
    · rw [List.getElem?_set_ne e] at h
      exact ok.fnk m k h
theorem EnvOk.retell {env : Env} {σ : L2.St} {i : Nat} {d D : DV} (eo : EnvOk K cA S env σ) (h : env[i]? = some (some d)) (hd : ∀ v, Rep K cA S d v → Rep K cA S D v) : EnvOk K cA S (env.set i (some D)) σ := ⟨by simp [eo.1], fun j e hj => by
  by_cases hji : i = j
  · subst hji
    rw [List.getElem?_set_self (List.getElem?_eq_some_iff.mp h).1] at hj
    cases hj
    obtain ⟨v, e1, e2⟩ := eo.2 i d h
    exact ⟨v, e1, hd v e2⟩
  · rw [List.getElem?_set_ne hji] at hj
    exact eo.2 j e hj⟩
end
theorem sFrz_cases (i : Nat) (env : Env) (sto : Sto) : sFrz i env sto = .stuck ∨ (∃ n ds, env[i]? = some (some (.loc n)) ∧ sto[n]? = some (.lst ds) ∧ sFrz i env sto = .nx (env.set i (some (.lst ds))) (sto.set n .dead)) ∨ ∃ n ks ds, env[i]? = some (some (.loc n)) ∧ sto[n]? = some (.dT ks ds) ∧ sFrz i env sto = .nx (env.set i (some (.dic ks ds))) (sto.set n .dead) := by
  unfold sFrz
  split
  · rename_i n e0
    split
    · rename_i ds e1
      by_cases hl : noLocL ds = true
      · rw [if_pos hl]; exact .inr (.inl ⟨n, ds, e0, e1, rfl⟩)
      · rw [if_neg hl]; exact .inl rfl
    · rename_i ks ds e1
      by_cases hl : noLocL ds = true
      · rw [if_pos hl]; exact .inr (.inr ⟨n, ks, ds, e0, e1, rfl⟩)
      · rw [if_neg hl]; exact .inl rfl
    · exact .inl rfl
  · exact .inl rfl
theorem gs_frz {X : Cx} {cA : CA} {Z : Nat → L2.St → Hp → Prop} {rest : List Stmt} {m : SM} (i : Nat) (h : GSs X cA Z rest m) : GSs X cA Z rest (sSeq (sFrz i) m) := .mk fun S σ env sto ok eo D p => by
  unfold sSeq at p
  rcases sFrz_cases i env sto with e | ⟨n, ds, e0, e1, e⟩ | ⟨n, ks, ds, e0, e1, e⟩
  · rw [e] at p; exact p.elim
  · rw [e] at p
    have hn := ok.lt e1
    obtain ⟨vs, q1, q2⟩ := ok.ob n _ e1
    have g := Grow.chill ok hn
    refine h.run (S.chill n) σ _ _ (ok.chill hn (.inl ⟨vs, q1⟩)) ((eo.grow ok g).retell e0 fun v r => ?_) D (p.grow g)
    obtain ⟨_, rfl⟩ := r
    exact ⟨S.r n, vs, rfl, .inr rfl, q1, RepL.grow q2 ok g⟩
  · rw [e] at p
    have hn := ok.lt e1
    obtain ⟨kvs, q1, q2, q3, _⟩ := ok.ob n _ e1
    have g := Grow.chill ok hn
    refine h.run (S.chill n) σ _ _ (ok.chill hn (.inr (.inl ⟨kvs, q1⟩))) ((eo.grow ok g).retell e0 fun v r => ?_) D (p.grow g)
    obtain ⟨_, rfl⟩ := r
    exact ⟨S.r n, kvs, rfl, .inr rfl, q1, q2, RepL.grow q3 ok g⟩
end BB
namespace BB
open PySem PySem.Spec PyProof.Rows L2

/-! ### classes and their fields -/
/-- F tells for each class which fields its instances may have -/
structure ClsT (K : PySem.W.Frag) (cA : Nat → Addr) (F : Nat → List Str) : Prop where
  cl : ∀ c f, f ∈ F c → Cls K (cA c) ∧ NoAttr K (cA c) f
def insOf (sto : Sto) : DV → Option (Nat × List Str × List DV)
  | .insG _ c ns ds => some (c, ns, ds)
  | .loc n => match sto[n]? with
    | some (.ins c ns ds) => some (c, ns, ds)
    | _ => none
  | _ => none
def fldD (F : Nat → List Str) (f : Str) (x : DV) (sto : Sto) : Res DV := match insOf sto x with
  | some (c, ns, ds) => if f ∈ F c then (match lookK ns ds f with
    | some d => .ok d sto
    | none => .stuck) else .stuck
  | none => .stuck
def eFld (F : Nat → List Str) (f : Str) (o : EM) : EM := fun env sto => (o env sto).bind fun x s => fldD F f x s
section
variable {X : Cx} {cA : CA} {Z : Nat → L2.St → Hp → Prop} {pos pos' : Pos} {S : Sys} {sto : Sto} {F : Nat → List Str} {f : Str} {o e : Expr} {mo m : EM}
theorem insOf.rep {K : PySem.W.Frag} {d : DV} {v : V} {c : Nat} {ns : List Str} {ds : List DV} (ok : StoOk K cA S sto) (r : Rep K cA S d v) (h : insOf sto d = some (c, ns, ds)) : ∃ a dx fvs, v = .ref a ∧ S.H a = some (.ins (cA c) dx fvs) ∧ fvs.map (·.1) = ns ∧ RepL K cA S ds (fvs.map (·.2)) := by
  cases d <;> simp only [insOf] at h <;> try (cases h; done)
  · cases h
    obtain ⟨a, dx, fvs, e, _, h1, h2, h3⟩ := r
    exact ⟨a, dx, fvs, e, h1, h2, h3⟩
  · rename_i n
    obtain ⟨hn, e⟩ := r
    split at h
    · rename_i hs
      cases h
      obtain ⟨dx, fvs, h1, h2, h3⟩ := ok.ob n _ hs
      exact ⟨_, dx, fvs, e, h1, h2, h3⟩
    · cases h
theorem lookF.rep {K : PySem.W.Frag} {f : Str} {d : DV} : ∀ {fvs : List (Str × V)} {ns : List Str} {ds : List DV}, fvs.map (·.1) = ns → RepL K cA S ds (fvs.map (·.2)) → lookK ns ds f = some d → ∃ v, fvs.lookup f = some v ∧ Rep K cA S d v
  | [], _, _, e, r, h => by subst e; unfold lookK at h; simp at h
  | (k', v') :: kvs, _, [], e, r, h => by cases r
  | (k', v') :: kvs, _, x :: ds, e, ⟨v, r, e1, h1, h2⟩, h => by
    subst e
    simp only [List.map_cons, List.cons.injEq] at e1
    obtain ⟨rfl, rfl⟩ := e1
    simp only [List.map_cons, lookK] at h
    by_cases hk : k' = f
    · rw [if_pos hk] at h
      cases h
      refine ⟨v', ?_, h1⟩
      simp [List.lookup, hk]
    · rw [if_neg hk] at h
      obtain ⟨v, q1, q2⟩ := lookF.rep rfl h2 h
      refine ⟨v, ?_, q2⟩
      have : (f == k') = false := by
        rw [beq_eq_false_iff_ne]; exact fun z => hk z.symm
      simp only [List.lookup, this]
      exact q1
theorem g_fld (T : ClsT X.K cA F) (ho : GE X cA Z o mo) (hb : attributeBase o f X.env (eval o X.env) = eval o X.env := by exact abase_plain (by first | rfl | decide)) : GE X cA Z (.Attribute o f pos) (eFld F f mo) := .mk fun S σ env sto ok eo Q p => by
  refine wE.of (pe_fld (peW o) hb) (ho.then ok eo p fun x s1 S1 vx g1 ok1 eo1 rx h1 => ?_)
  unfold fldD at h1
  split at h1
  · rename_i c ns ds hi
    split at h1
    · rename_i hf
      obtain ⟨a, dx, fvs, rfl, q1, q2, q3⟩ := insOf.rep ok1 rx hi
      split at h1
      · rename_i d hd
        obtain ⟨v, hv, rv⟩ := lookF.rep q2 q3 hd
        obtain ⟨cl, na⟩ := T.cl c f hf
        exact ⟨a, _, dx, fvs, v, rfl, q1, cl, na, hv, ret_same ok1 h1 rv⟩
      · exact h1.elim
    · exact h1.elim
  · exact h1.elim
theorem putF_keys (f : Str) (v : V) : ∀ fs : List (Str × V), (putF f v fs).map (·.1) = putKs (fs.map (·.1)) f
  | [] => by simp [putF, putKs]
  | (k, x) :: r => by
    have ih := putF_keys f v r
    by_cases hk : k = f
    · subst hk; simp [putF, putKs]
    · have hk' : ¬ f = k := fun z => hk z.symm
      simp only [putF, hk, if_false, List.map_cons, ih, putKs, List.mem_cons, hk', false_or]
      split <;> simp
theorem putF.rep {K : PySem.W.Frag} {f : Str} {d : DV} {v : V} (hd : Rep K cA S d v) : ∀ {fvs : List (Str × V)} {ns : List Str} {ds : List DV}, fvs.map (·.1) = ns → RepL K cA S ds (fvs.map (·.2)) → RepL K cA S (putDs ns ds f d) ((putF f v fvs).map (·.2))
  | [], _, ds, e, r => by
    subst e
    cases ds with
    | nil => exact ⟨v, [], rfl, hd, rfl⟩
    | cons => obtain ⟨_, _, z, _⟩ := r; cases z
  | (k', v') :: kvs, _, [], e, r => by cases r
  | (k', v') :: kvs, _, x :: ds, e, ⟨w, r, e1, h1, h2⟩ => by
    subst e
    simp only [List.map_cons, List.cons.injEq] at e1
    obtain ⟨rfl, rfl⟩ := e1
    simp only [List.map_cons, putDs, putF]
    by_cases hk : k' = f
    · rw [if_pos hk, if_pos hk]; exact ⟨v, _, rfl, hd, h2⟩
    · rw [if_neg hk, if_neg hk]; exact ⟨v', _, rfl, h1, putF.rep hd rfl h2⟩
/-- o.f = d -/
def putFld (F : Nat → List Str) (f : Str) (x d : DV) (sto : Sto) : Res Unit := match x with
  | .loc n => match sto[n]? with
    | some (.ins c ns ds) => if f ∈ F c ∧ ns.length < 1000 then .ok () (sto.set n (.ins c (putKs ns f) (putDs ns ds f d))) else .stuck
    | _ => .stuck
  | _ => .stuck
def sFld (F : Nat → List Str) (f : Str) (o m : EM) : SM := fun env sto => (m env sto).out env fun d s => (o env s).out env fun x s1 => (putFld F f x d s1).out env fun _ s2 => .nx env s2
theorem putFld.use {K : PySem.W.Frag} {x d : DV} {vx vd : V} {Q : Unit → Sto → Sys → Prop} {Zf : Nat → Sto → Sys → Prop} (T : ClsT K cA F) (ok : StoOk K cA S sto) (rx : Rep K cA S x vx) (rd : Rep K cA S d vd) (p : Post K cA S (putFld F f x d sto) Q Zf) :
    ∃ a C dx fs, vx = .ref a ∧ S.H a = some (.ins C dx fs) ∧ Cls K C ∧ NoAttr K C f ∧ fs.length < 1000 ∧ ∃ s' S', S'.H = upd S.H a (.ins C dx (putF f vd fs)) ∧ Grow S S' ∧ StoOk K cA S' s' ∧ Q () s' S' := by
  unfold putFld at p
  split at p
  · rename_i n
    obtain ⟨hn, rfl⟩ := rx
    split at p
    · rename_i c ns ds e
      split at p
      · rename_i hc
        obtain ⟨dx, fvs, h1, h2, h3⟩ := ok.ob n _ e
        obtain ⟨cl, na⟩ := T.cl c f hc.1
        have nz : ∀ o u, S.H (S.r n) ≠ some (.frz o u) := fun o u z => by rw [h1] at z; cases z
        have al := ok.alive e (by simp)
        have ok2 := ok.mut (d := .ins c (putKs ns f) (putDs ns ds f d)) (o := .ins (cA c) dx (putF f vd fvs)) hn al nz ⟨dx, _, rfl, by rw [putF_keys, h2], putF.rep rd h2 h3⟩
        exact ⟨S.r n, _, dx, fvs, rfl, h1, cl, na, by rw [← h2, List.length_map] at hc; exact hc.2, _, S.mut n _, rfl, Grow.mut ok hn al nz, ok2, p _ (Grow.mut ok hn al nz) ok2⟩
      · exact p.elim
    · exact p.elim
  · exact p.elim
theorem g_sfld (T : ClsT X.K cA F) (ho : GE X cA Z o mo) (h : GE X cA Z e m) (hs : swapsWith e (some (.Attribute o f pos')) pos.line X.env = pure false := by exact sw_plain rfl) : GS X cA Z (.Assign [.Attribute o f pos'] e pos) (sFld F f mo m) := .mk fun S σ env sto ok eo D p => by
  refine wS.of (ps_fld (peW o) (peW e) hs) (h.out ok eo p fun d s1 S1 vd g1 ok1 eo1 rd h1 => ?_)
  refine ho.out ok1 eo1 h1 fun x s2 S2 vx g2 ok2 eo2 rx h2 => ?_
  obtain ⟨a, C, dx, fs, rfl, q1, cl, na, hl, s', S', e1, gr, ok', q⟩ := putFld.use (f := f) T ok2 rx (rd.grow ok1 g2) (OPost.out h2 ok2 eo2)
  refine ⟨a, C, dx, fs, rfl, q1, cl, na, hl, ?_⟩
  rw [← e1]
  exact q S' σ (Grow.refl ok') ok' (eo2.grow ok2 gr)
/-- o.f += m, of ints -/
def clsD (sto : Sto) (x : DV) : Option Nat := (insOf sto x).map (·.1)
def sFldAug (F : Nat → List Str) (f : Str) (o m : EM) : SM := fun env sto => (o env sto).out env fun x s1 => match fldD F f x s1 with
  | .ok (.int i) _ => (m env s1).out env fun y s2 => match y with
    | .int j => if clsD s2 x = clsD s1 x then (putFld F f x (.int (i + j)) s2).out env fun _ s3 => .nx env s3 else .stuck
    | _ => .stuck
  | _ => .stuck
theorem g_augFld (T : ClsT X.K cA F) (ho : GE X cA Z o mo) (h : GE X cA Z e m) : GS X cA Z (.AugAssign (.Attribute o f pos') .Add e pos) (sFldAug F f mo m) := .mk fun S σ env sto ok eo D p => by
  refine wS.of (ps_fldaug (peW o) (peW e) in_add) (ho.out ok eo p fun x s1 S1 vx g1 ok1 eo1 rx h1 => ?_)
  unfold fldD at h1
  cases hi : insOf s1 x with
  | none => rw [hi] at h1; exact h1.elim
  | some t =>
    obtain ⟨c, ns, ds⟩ := t
    rw [hi] at h1
    simp only at h1
    by_cases hf : f ∈ F c
    · rw [if_pos hf] at h1
      cases hd : lookK ns ds f with
      | none => rw [hd] at h1; exact h1.elim
      | some d =>
        rw [hd] at h1
        cases d <;> first | exact h1.elim | skip
        rename_i i
        simp only at h1
        obtain ⟨a, dx, fvs, rfl, q1, q2, q3⟩ := insOf.rep ok1 rx hi
        obtain ⟨v, hv, rv⟩ := lookF.rep q2 q3 hd
        obtain ⟨cl, na⟩ := T.cl c f hf
        cases (show v = .int i from rv)
        refine ⟨a, _, dx, fvs, _, rfl, q1, cl, na, hv, h.out ok1 eo1 h1 fun y s2 S2 vy g2 ok2 eo2 ry h2 => ?_⟩
        cases y <;> first | exact h2.elim | skip
        rename_i j
        cases (show vy = .int j from ry)
        refine ⟨i, j, rfl, rfl, ?_⟩
        simp only at h2
        split at h2
        case isFalse => exact h2.elim
        rename_i hcl
        unfold clsD at hcl
        rw [hi] at hcl
        simp only [Option.map_some, Option.map_eq_some_iff] at hcl
        obtain ⟨⟨c', ns', ds'⟩, hi2, ec⟩ := hcl
        cases (show c' = c from ec)
        obtain ⟨a2, dx2, fvs2, ea2, q12, _, _⟩ := insOf.rep ok2 (rx.grow ok1 g2) hi2
        cases ea2
        obtain ⟨a', C', dx', fs', e', q1', cl', na', hl', s', S', e1, gr, ok', q⟩ := putFld.use (f := f) T ok2 (rx.grow ok1 g2) (show Rep X.K cA S2 (.int (i + j)) (.int (i + j)) from rfl) (OPost.out h2 ok2 eo2)
        cases e'
        rw [q12] at q1'
        cases q1'
        refine ⟨dx2, fvs2, q12, hl', ?_⟩
        rw [← e1]
        exact q S' σ (Grow.refl ok') ok' (eo2.grow ok2 gr)
    · rw [if_neg hf] at h1; exact h1.elim
end

/-! ### methods -/
structure CalleeM (P : Program) (w : World) (K : PySem.W.Frag) (mg : Str → Option Value) (base : Heap) (cA : CA) (c : Nat) (m : Str) (k : Nat) (T : TF) : Prop where
  ex : ∃ f fd ps, FnOk P w K mg base (L2.CX P w) k f fd ps (TSp K cA T) ∧ Cls K (cA c) ∧ Meth K (cA c) m f ∧ Binds K fd ps []
structure MethAt (K : PySem.W.Frag) (C : Addr) (m qual : Str) (st : Stmt) (ps : List Str) : Prop where
  ex : ∃ f fd, Fun K m qual st f fd ∧ Cls K C ∧ Meth K C m f ∧ Binds K fd ps []
section
variable {P : Program} {w : World} {K : PySem.W.Frag} {mg : Str → Option Value} {base : Heap} {cA : CA}
theorem calleeM {c : Nat} {m qual : Str} {st : Stmt} {N ps : List Str} {k : Nat} {mm : SM} (D : MethAt K (cA c) m qual st ps) (Sc : FnScope N ps (defScope st))
    (hbody : ∀ f, BodyOk P w K mg base cA.pl N qual st k f mm) : CalleeM P w K mg base cA c m (k + 1) (liftP (runP ps.length N mm)) := by
  obtain ⟨f, fd, F, cl, hm, hb⟩ := D.ex
  exact ⟨f, fd, ps, pfunT F Sc (hbody f), cl, hm, hb⟩
theorem calleeMT {c : Nat} {m qual : Str} {st : Stmt} {N ps : List Str} {k : Nat} {mm : SM} (D : MethAt K (cA c) m qual st ps) (Sc : FnScope N ps (defScope st))
    (hbody : ∀ f, BodyOk P w K mg base cA N qual st k f mm) : CalleeM P w K mg base cA c m (k + 1) (runT ps.length N mm) := by
  obtain ⟨f, fd, F, cl, hm, hb⟩ := D.ex
  exact ⟨f, fd, ps, tfun F Sc (hbody f), cl, hm, hb⟩
end
def altOf (alts : List (Nat × TF)) (c : Nat) : Option TF := alts.lookup c
/-- o.m(..): by the class of o -/
def eMeth (alts : List (Nat × TF)) (m : Str) (o : EM) (t : AM) : EM := fun env sto => match o env sto with
  | .ok x s1 => match insOf s1 x with
    | some (c, ns, _) => if m ∈ ns then .stuck else (match altOf alts c with
      | some T => (t env s1).bind fun ds s2 => T (x :: ds) s2
      | none => .stuck)
    | none => .stuck
  | _ => .stuck
/-- the alternatives are kept -/
inductive GAlts (X : Cx) (cA : CA) (m : Str) : List (Nat × TF) → Prop
  | nil : GAlts X cA m []
  | cons {c k : Nat} {T : TF} {r : List (Nat × TF)} : CalleeM X.prog X.w X.K X.mg X.base cA c m k T → Room k X.A → GAlts X cA m r → GAlts X cA m ((c, T) :: r)
theorem GAlts.get {X : Cx} {cA : CA} {m : Str} {alts : List (Nat × TF)} (g : GAlts X cA m alts) {c : Nat} {T : TF} (h : altOf alts c = some T) : ∃ k, CalleeM X.prog X.w X.K X.mg X.base cA c m k T ∧ Room k X.A := by
  induction g with
  | nil => cases h
  | @cons c' k T' r h1 h2 _ ih =>
    unfold altOf at h
    simp only [List.lookup] at h
    split at h
    · rename_i e
      cases h
      cases (beq_iff_eq.mp e)
      exact ⟨k, h1, h2⟩
    · exact ih h
theorem lookup_none_of {fvs : List (Str × V)} {m : Str} (h : m ∉ fvs.map (·.1)) : fvs.lookup m = none := by
  cases e : fvs.lookup m with
  | none => rfl
  | some v => exact absurd (List.mem_map.mpr ⟨(m, v), PySem.mem_of_lookup e, rfl⟩) h
section
variable {X : Cx} {cA : CA} {Z : Nat → L2.St → Hp → Prop} {pos apos : Pos} {m : Str} {o e : Expr} {es : List Expr} {mo : EM} {t : AM} {alts : List (Nat × TF)} {pl : Sem Bool}
theorem meth_core {es : List Expr} {u : Value → List Value → Sem Value} (hz : GZ X cA Z) (g : GAlts X cA m alts) (ho : GE X cA Z o mo) {S : Sys} {σ : L2.St} {env : Env} {sto : Sto} {Q : VK} (ok : StoOk X.K cA S sto) (eo : EnvOk X.K cA S env σ) (p : Post X.K cA S (eMeth alts m mo t env sto) (VQ X.K cA Q) (fun c _ S' => Z c σ S'.H)) :
    ∃ C f fd ps k T, Cls X.K C ∧ Meth X.K C m f ∧ FnOk X.prog X.w X.K X.mg X.base (L2.CX X.prog X.w) k f fd ps (TSp X.K cA T) ∧ Room k X.A ∧ Binds X.K fd ps [] ∧
      wE X o σ S.H (fun x H1 => ∃ a dx fs, x = .ref a ∧ H1 a = some (.ins C dx fs) ∧ fs.lookup m = none ∧
        ∃ S1 s1 d, S1.H = H1 ∧ StoOk X.K cA S1 s1 ∧ EnvOk X.K cA S1 env σ ∧ Rep X.K cA S1 d x ∧ Post X.K cA S1 ((t env s1).bind fun ds s2 => T (d :: ds) s2) (VQ X.K cA Q) (fun c _ S' => Z c σ S'.H)) := by
  unfold eMeth at p
  cases hx : mo env sto with
  | stuck => rw [hx] at p; exact p.elim
  | exc c s => rw [hx] at p; exact p.elim
  | ok x s1 =>
    rw [hx] at p
    simp only at p
    cases hi : insOf s1 x with
    | none => rw [hi] at p; exact p.elim
    | some q =>
      obtain ⟨c, ns, ds⟩ := q
      rw [hi] at p
      simp only at p
      split at p
      · exact p.elim
      rename_i hm
      cases ha : altOf alts c with
      | none => rw [ha] at p; exact p.elim
      | some T =>
        rw [ha] at p
        obtain ⟨k, C, hr⟩ := g.get ha
        obtain ⟨f, fd, ps, F, cl, me, hb⟩ := C.ex
        refine ⟨cA c, f, fd, ps, k, T, cl, me, F, hr, hb, ho.run S σ env sto ok eo _ ?_⟩
        rw [hx]
        intro S1 g1 ok1 v rv
        obtain ⟨a, dx, fvs, rfl, q1, q2, q3⟩ := insOf.rep ok1 rv hi
        exact ⟨a, dx, fvs, rfl, q1, lookup_none_of (by rw [q2]; exact hm), S1, s1, x, rfl, ok1, eo.grow ok g1, rv, p.grow g1⟩
theorem ht_of {args : List Expr} {env : PySem.Env} (hb : attributeBase o m env (eval o env) = eval o env) (hfew : methodCallForm (args.length + 0) (backTo pos (starEach args env)) (backToKw pos (keywordEach [] env)) = true) (hline : (apos.endLine == pos.line) = true) :
    eval (.Call (.Attribute o m apos) args [] pos) env = (do
      let ov ← eval o env
      standAt apos.atName
      let (f, first) ← holding [ov] (getMethod ov m (do return (← importBound o env).getD true))
      callWith pos f first (backTo pos (starEach args env)) (backToKw pos (keywordEach [] env))) := by
  have hf2 : methodCallForm (args.length + ([] : List Keyword).length) (backTo pos (starEach args env)) (backToKw pos (keywordEach [] env)) = true := hfew
  rw [arm_eval_Call, hb]
  unfold methodCall calleeOf methodCallPos
  rw [hf2, hline]
  simp only [if_true, Bool.not_true, Bool.false_or, pure_bind]
theorem g_meth (hz : GZ X cA Z) (g : GAlts X cA m alts) (ho : GE X cA Z o mo) (ha : GA X cA Z (e :: es) t)
    (hst : starEach (e :: es) X.env = (false, eval e X.env) :: starEach es X.env := by exact star_plain rfl) (hpl : (backTo pos (starEach es X.env)).any (·.1) = false := by exact plain_any rfl)
    (hbase : attributeBase o m X.env (eval o X.env) = eval o X.env := by exact abase_plain (by first | rfl | decide)) (hfew : methodCallForm ((e :: es).length + 0) (backTo pos (starEach (e :: es) X.env)) (backToKw pos (keywordEach [] X.env)) = true := by exact form_plain rfl rfl) (hline : (apos.endLine == pos.line) = true := by rfl) : GE X cA Z (.Call (.Attribute o m apos) (e :: es) [] pos) (eMeth alts m mo t) := .mk fun S σ env sto ok eo Q p => by
  obtain ⟨C, f, fd, ps, k, T, cl, me, F, hr, hb, h⟩ := meth_core (es := es) (u := fun v _ => pure v) hz g ho ok eo p
  intro pins s I
  refine PySem.W.methodCall_KW (thn (h pins s I) fun u s1 ⟨x, H1, I1, rx, a, dx, fs, ex, ea, l, S1, st1, d, e1, ok1, eo1, rd, q⟩ => ?_) (ht_of hbase hfew hline)
  subst ex e1
  obtain rfl : u = Value.ref a := rx
  refine getmeth_ok I1 ea cl me l ?_
  refine PySem.W.callWith_K (first := [.ref a]) (h₀ := X.base) I.ok.mod.kin me.kp (thn ((paW (X := X) (e :: es)).run pos pins s1 σ S1.H (fun vs H2 => TSp X.K cA T (.ref a :: vs) H2 Q (EZ cA Z σ)) I1 (ha.then ok1 eo1 q fun ds s2 S2 vs g2 ok2 eo2 rs h2 => ?_)) fun us s2 ⟨vs, H2, I2, r, q2⟩ => ⟨I2.kIn, ?_⟩) hst hpl
  · exact ⟨S2, s2, d :: ds, rfl, ok2, ⟨_, _, rfl, rd.grow ok1 g2, rs⟩, h2.imp (fun _ _ _ _ _ q => q) fun c _ _ _ _ z => ⟨c, rfl, rfl, z⟩⟩
  · exact run_fnS (us := .ref a :: us) (vs := .ref a :: vs) (E := fun σ => EZ cA Z σ) F hr hb (hz.at σ) I2 (.cons rfl r) q2
theorem g_meth0 (hz : GZ X cA Z) (g : GAlts X cA m alts) (ho : GE X cA Z o mo)
    (hbase : attributeBase o m X.env (eval o X.env) = eval o X.env := by exact abase_plain (by first | rfl | decide)) (hfew : methodCallForm 0 (backTo pos (starEach [] X.env)) (backToKw pos (keywordEach [] X.env)) = true := by exact form_plain (es := []) rfl rfl) (hline : (apos.endLine == pos.line) = true := by rfl) : GE X cA Z (.Call (.Attribute o m apos) [] [] pos) (eMeth alts m mo aNil) := .mk fun S σ env sto ok eo Q p => by
  obtain ⟨C, f, fd, ps, k, T, cl, me, F, hr, hb, h⟩ := meth_core (es := []) (u := fun v _ => pure v) hz g ho ok eo p
  intro pins s I
  refine PySem.W.methodCall_KW (thn (h pins s I) fun u s1 ⟨x, H1, I1, rx, a, dx, fs, ex, ea, l, S1, st1, d, e1, ok1, eo1, rd, q⟩ => ?_) (ht_of hbase hfew hline)
  subst ex e1
  obtain rfl : u = Value.ref a := rx
  refine getmeth_ok I1 ea cl me l ?_
  refine PySem.W.callWith_K0 (first := [.ref a]) I1.kIn me.kp (run_fnS (us := [.ref a]) (vs := [.ref a]) (E := fun σ => EZ cA Z σ) F hr hb (hz.at σ) I1 (.cons rfl .nil) ?_)
  exact ⟨S1, st1, [d], rfl, ok1, ⟨_, _, rfl, rd, rfl⟩, q.imp (fun _ _ _ _ _ q => q) fun c _ _ _ _ z => ⟨c, rfl, rfl, z⟩⟩
end

/-! ### new instances -/
structure Maker (P : Program) (w : World) (K : PySem.W.Frag) (mg : Str → Option Value) (base : Heap) (cA : CA) (x : Str) (c : Nat) (k : Nat) (T : TF) : Prop where
  ex : ∃ f fd ps, FnOk P w K mg base (L2.CX P w) k f fd ps (TSp K cA T) ∧ mg x = some (.ref (cA c)) ∧ Mk K (cA c) f ∧ Binds K fd ps []
structure InitAt (K : PySem.W.Frag) (mg : Str → Option Value) (C : Addr) (x qual : Str) (st : Stmt) (ps : List Str) : Prop where
  ex : ∃ f fd, Fun K "__init__" qual st f fd ∧ mg x = some (.ref C) ∧ Mk K C f ∧ Binds K fd ps []
theorem maker {P : Program} {w : World} {K : PySem.W.Frag} {mg : Str → Option Value} {base : Heap} {cA : CA} {c : Nat} {x qual : Str} {st : Stmt} {N ps : List Str} {k : Nat} {mm : SM} (D : InitAt K mg (cA c) x qual st ps) (Sc : FnScope N ps (defScope st))
    (hbody : ∀ f, BodyOk P w K mg base cA N qual st k f mm) : Maker P w K mg base cA x c (k + 1) (runT ps.length N mm) := by
  obtain ⟨f, fd, F, hm, mk, hb⟩ := D.ex
  exact ⟨f, fd, ps, tfun F Sc (hbody f), hm, mk, hb⟩
def eMake (c : Nat) (T : TF) (t : AM) : EM := fun env sto => (t env sto).bind fun ds s => (T (.loc s.length :: ds) (s ++ [.ins c [] []])).bind fun r s2 => match r with
  | .non => .ok (.loc s.length) s2
  | _ => .stuck
section
variable {X : Cx} {cA : CA} {Z : Nat → L2.St → Hp → Prop} {pos p : Pos} {x : Str} {e : Expr} {es : List Expr} {t : AM} {c k : Nat} {T : TF}
theorem made_ok {K : PySem.W.Frag} {S : Sys} {sto : Sto} {a dx : Addr} {C : Addr} (hC : C = cA c) (ok : StoOk K cA S sto) (nx : S.H a = none) (nd : S.H dx = none) (ne : dx ≠ a) :
    ∃ S', S'.H = upd (upd S.H dx (.own a)) a (.ins C dx []) ∧ Grow S S' ∧ StoOk K cA S' (sto ++ [.ins c [] []]) ∧ Rep K cA S' (.loc sto.length) (.ref a) := by
  subst hC
  have ok1 := ok.addT (o := .own a) nd
  have n1 : (S.addT dx (.own a)).H a = none := by show upd S.H dx _ a = none; rw [upd_ne (Ne.symm ne)]; exact nx
  refine ⟨(S.addT dx (.own a)).addL a (.ins (cA c) dx []), rfl, (Grow.addT ok nd).trans (Grow.addL ok1 n1), ok1.addL n1 ⟨dx, [], rfl, rfl, rfl⟩, ?_, ?_⟩
  · show sto.length < S.N + 1; rw [ok.len]; exact Nat.lt_succ_self _
  · show V.ref a = .ref (if sto.length = S.N then a else S.r sto.length)
    rw [if_pos ok.len]
theorem make_core {S : Sys} {σ : L2.St} {sto : Sto} {ds : List DV} {vs : List V} {Q : VK} (hC : x = x) (ok : StoOk X.K cA S sto) (r : RepL X.K cA S ds vs)
    (p : Post X.K cA S ((T (.loc sto.length :: ds) (sto ++ [.ins c [] []])).bind fun r s2 => match r with
      | .non => .ok (.loc sto.length) s2
      | _ => .stuck) (VQ X.K cA Q) (fun c _ S' => Z c σ S'.H)) (a dx : Addr) (nx : S.H a = none) (nd : S.H dx = none) (ne : dx ≠ a) :
    TSp X.K cA T (.ref a :: vs) (upd (upd S.H dx (.own a)) a (.ins (cA c) dx [])) (fun v H2 => v = .non ∧ Q (.ref a) H2) (EZ cA Z σ) := by
  obtain ⟨S', e1, gr, ok', rl⟩ := made_ok (c := c) rfl ok nx nd ne
  refine ⟨S', _, .loc sto.length :: ds, e1, ok', ⟨_, _, rfl, rl, r.grow ok gr⟩, ((Post.bind p).grow gr).imp (fun d s2 S2 g2 ok2 p2 v rv => ?_) fun c _ _ _ _ z => ⟨c, rfl, rfl, z⟩⟩
  cases d <;> first | exact p2.elim | skip
  exact ⟨rv, p2 S2 (Grow.refl ok2) ok2 _ (rl.grow ok' g2)⟩
theorem run_makeS {pins : List (Addr × Obj)} {σ : L2.St} {H : Hp} {s : Shared} {Q : VK} {us : List Value} {vs : List V} {C f : Addr} {fd : FuncData} {ps : List Str} {sp : Sp} {E : XK} (M : Mk X.K C f) (F : FnOk X.prog X.w X.K X.mg X.base (L2.CX X.prog X.w) k f fd ps sp) (hr : Room (k + 1) X.A) (hb : Binds X.K fd ps [])
    (hx : PassesAt (L2.CX X.prog X.w) X σ E) (I : Inv X pins σ H s) (r : Vals vs us)
    (h : ∀ x dx, H x = none → H dx = none → dx ≠ x → sp (.ref x :: vs) (upd (upd H dx (.own x)) x (.ins C dx [])) (fun v H2 => v = .non ∧ Q (.ref x) H2) E) :
    wpAny (model X.prog X.w) X.A (call (.ref C) us) (EP X pins σ Q) X.xe s := by
  have hq := h (s.heap.objs.size + 1) s.heap.objs.size (I.hok.fresh (Nat.le_succ _)) (I.hok.fresh (Nat.le_refl _)) (Nat.ne_of_lt (Nat.lt_succ_self _))
  have I2 := Inv.made (C := C) I
  have r2 : Vals (V.ref (s.heap.objs.size + 1) :: vs) (Value.ref (s.heap.objs.size + 1) :: us) := .cons rfl r
  have hl : (Value.ref (s.heap.objs.size + 1) :: us).length = ps.length := by
    have e := r2.length
    rw [F.len _ _ _ _ hq] at e
    exact e.symm
  have hbb := hb (s := { s with heap := (s.heap.push PySem.W.emptyDict).push (PySem.W.instObj C s.heap.objs.size) }) (Value.ref (s.heap.objs.size + 1) :: us) I2.kIn (by rw [List.append_nil]; exact hl)
  rw [List.append_nil] at hbb
  refine wpAny_call (make_map (f := f) I.kIn M.makes M.init (beq_iff_eq.mp M.fn) (codeAny_mono (F.run _ X.stack _ _ ⟨Value.ref (s.heap.objs.size + 1) :: us, []⟩ (Value.ref (s.heap.objs.size + 1) :: us) _ _ E (hr.make C us [])
    (I2.env0.make C us []) hbb r2 hq) fun r s' hq' => ?_))
  cases r with
  | error e => exact hx pins _ _ e s' I2 hq'
  | ok fl =>
    cases fl with
    | ret u =>
      obtain ⟨v, H', I3, rv, ev, q3⟩ := I2.after hq'
      subst ev
      exact ⟨rv, ⟨V.ref (s.heap.objs.size + 1), H', I3, rfl, q3⟩⟩
    | next => exact False.elim hq'
    | brk => exact False.elim hq'
    | cont => exact False.elim hq'
theorem g_make (hz : GZ X cA Z) (M : Maker X.prog X.w X.K X.mg X.base cA x c k T) (hr : Room (k + 1) X.A) (ha : GA X cA Z (e :: es) t) (hg : Gl X x := by rfl)
    (hdb : (x == ("__debug__" : Str)) = false := by decide) (he : starEach (e :: es) X.env = (false, eval e X.env) :: starEach es X.env := by exact star_plain rfl) (hpl : (backTo pos (starEach es X.env)).any (·.1) = false := by exact plain_any rfl) :
    GE X cA Z (.Call (.Name x p) (e :: es) [] pos) (eMake c T t) := by
  obtain ⟨f, fd, ps, F, hm, mk, hb⟩ := M.ex
  refine .mk ?_
  intro S σ env sto ok eo Q q0
  intro pins s I
  refine wpAny_Call_Name_kw (ld_glob I hg hm ?_ hdb)
  refine PySem.W.callWith_K (h₀ := X.base) I.ok.mod.kin mk.kp (thn ((paW (X := X) (e :: es)).run pos pins s σ S.H (fun vs H1 => ∀ a dx, H1 a = none → H1 dx = none → dx ≠ a → TSp X.K cA T (.ref a :: vs) (upd (upd H1 dx (.own a)) a (.ins (cA c) dx [])) (fun v H2 => v = .non ∧ Q (.ref a) H2) (EZ cA Z σ)) I (ha.then ok eo q0 fun ds s1 S1 vs g1 ok1 eo1 rs h1 => make_core (x := x) rfl ok1 rs h1)) fun us s1 ⟨vs, H1, I1, r, q⟩ => ⟨I1.kIn, ?_⟩) he hpl
  exact run_makeS mk F hr hb (hz.at σ) I1 r q
end
/-- a class without __init__ -/
def eMake0 (c : Nat) : EM := fun env sto => .ok (.loc sto.length) (sto ++ [.ins c [] []])
end BB
namespace BB
open PySem PySem.Spec PyProof.Rows L2

/-! ### slices with a step -/
def pickD {α : Type} (xs : List α) (lo hi st : Option Int) : List α := (sliceRange (sliceBounds lo hi st xs.length).1 (sliceBounds lo hi st xs.length).2.1 (sliceBounds lo hi st xs.length).2.2).filterMap (xs[·]?)
def eSl3 (b : Bool) (a : EM) (lo hi st : PM) : EM := fun env sto => (a env sto).bind fun x s1 => (lo env s1).bind fun l s2 => (hi env s2).bind fun h s3 => (st env s3).bind fun k s4 => match lstOf s4 x with
  | some ds => if k ≠ some 0 then newL b (pickD ds l h k) s4 else .stuck
  | none => .stuck
section
variable {X : Cx} {cA : CA} {Z : Nat → L2.St → Hp → Prop} {pos p2 : Pos} {a k : Expr} {ma : EM} {lo hi : Option Expr} {ml mh mk : PM}
theorem fm_rep {K : PySem.W.Frag} {S : Sys} {ds : List DV} {vs : List V} (r : RepL K cA S ds vs) : ∀ is : List Nat, RepL K cA S (is.filterMap (ds[·]?)) (is.filterMap (vs[·]?))
  | [] => rfl
  | i :: is => by
    have ih := fm_rep r is
    cases e : ds[i]? with
    | none =>
      have e2 : vs[i]? = none := by
        rw [List.getElem?_eq_none_iff] at e ⊢
        rw [← r.length]; exact e
      simp only [List.filterMap_cons, e, e2]; exact ih
    | some d =>
      obtain ⟨v, e2, rv⟩ := r.get e
      simp only [List.filterMap_cons, e, e2]; exact ⟨v, _, rfl, rv, ih⟩
theorem fm_vals {vs : List V} {us : List Value} (r : Vals vs us) : ∀ is : List Nat, Vals (is.filterMap (vs[·]?)) (is.filterMap (us.toArray[·]?))
  | [] => .nil
  | i :: is => by
    have ih := fm_vals r is
    cases e : vs[i]? with
    | none =>
      have e2 : us.toArray[i]? = none := by
        rw [List.getElem?_eq_none_iff] at e
        simp only [List.getElem?_toArray]
        rw [List.getElem?_eq_none_iff, ← r.length]; exact e
      simp only [List.filterMap_cons, e, e2]; exact ih
    | some d =>
      obtain ⟨v, e2, rv⟩ := r.get e
      have e3 : us.toArray[i]? = some v := by simp only [List.getElem?_toArray]; exact e2
      simp only [List.filterMap_cons, e, e3]; exact .cons rv ih
theorem g_sl3 (b : Bool) (ha : GE X cA Z a ma) (hl : GO X cA Z lo ml) (hh : GO X cA Z hi mh) (hk : GO X cA Z (some k) mk) : GE X cA Z (.Subscript a (.Slice lo hi (some k) p2) pos) (eSl3 b ma ml mh mk) := .mk fun S σ env sto ok eo Q p pins s I => by
  refine Subscript_ (thn (ha.then (Q := fun x H1 => ∃ S1 s1 d, S1.H = H1 ∧ StoOk X.K cA S1 s1 ∧ EnvOk X.K cA S1 env σ ∧ Rep X.K cA S1 d x ∧ Post X.K cA S1 ((ml env s1).bind fun l s2 => (mh env s2).bind fun h s3 => (mk env s3).bind fun k s4 => match lstOf s4 d with
  | some ds => if k ≠ some 0 then newL b (pickD ds l h k) s4 else .stuck
  | none => .stuck) (VQ X.K cA Q) (fun c _ S' => Z c σ S'.H)) ok eo p (fun d s1 S1 v g1 ok1 eo1 r h1 => ⟨S1, s1, d, rfl, ok1, eo1, r, h1⟩) pins s I) fun v s1 ⟨x, H1, I1, r1, S1, t1, d, e1, ok1, eo1, rd, h1⟩ => ?_)
  subst e1
  refine wpAny_Slice (thn (hl.then (Q := fun l H2 => ∃ S2 s2, S2.H = H2 ∧ StoOk X.K cA S2 s2 ∧ EnvOk X.K cA S2 env σ ∧ Rep X.K cA S2 d x ∧ Post X.K cA S2 ((mh env s2).bind fun h s3 => (mk env s3).bind fun k s4 => match lstOf s4 d with
  | some ds => if k ≠ some 0 then newL b (pickD ds l h k) s4 else .stuck
  | none => .stuck) (VQ X.K cA Q) (fun c _ S' => Z c σ S'.H)) ok1 eo1 h1 (fun l s2 S2 g2 ok2 eo2 h2 => ⟨S2, s2, rfl, ok2, eo2, rd.grow ok1 g2, h2⟩) pins s1 I1) fun vl s2 ⟨l, H2, I2, pl, S2, t2, e2, ok2, eo2, rd2, h2⟩ => ?_)
  subst e2
  refine thn (hh.then (Q := fun u H3 => ∃ S3 s3, S3.H = H3 ∧ StoOk X.K cA S3 s3 ∧ EnvOk X.K cA S3 env σ ∧ Rep X.K cA S3 d x ∧ Post X.K cA S3 ((mk env s3).bind fun k s4 => match lstOf s4 d with
  | some ds => if k ≠ some 0 then newL b (pickD ds l u k) s4 else .stuck
  | none => .stuck) (VQ X.K cA Q) (fun c _ S' => Z c σ S'.H)) ok2 eo2 h2 (fun l s3 S3 g3 ok3 eo3 h3 => ⟨S3, s3, rfl, ok3, eo3, rd2.grow ok2 g3, h3⟩) pins s2 I2) fun vu s3 ⟨u, H3, I3, pu, S3, t3, e3, ok3, eo3, rd3, h3⟩ => ?_
  subst e3
  refine thn (hk.then (Q := fun k H4 => ∃ S4 s4, S4.H = H4 ∧ StoOk X.K cA S4 s4 ∧ Rep X.K cA S4 d x ∧ Post X.K cA S4 (match lstOf s4 d with
  | some ds => if k ≠ some 0 then newL b (pickD ds l u k) s4 else .stuck
  | none => .stuck) (VQ X.K cA Q) (fun c _ S' => Z c σ S'.H)) ok3 eo3 h3 (fun l s4 S4 g4 ok4 eo4 h4 => ⟨S4, s4, rfl, ok4, rd3.grow ok3 g4, h4⟩) pins s3 I3) fun vs s4 ⟨k', H4, I4, pk, S4, t4, e4, ok4, rd4, h4⟩ => ?_
  subst e4
  cases hx : lstOf t4 d with
  | none => rw [hx] at h4; exact h4.elim
  | some ds =>
    rw [hx] at h4
    simp only at h4
    by_cases h0 : k' = some 0
    · rw [if_neg (by simpa using h0)] at h4; exact h4.elim
    rw [if_pos h0] at h4
    obtain ⟨c, ws, ec, hc, rs⟩ := lstOf.rep ok4 rd4 hx
    subst ec
    cases r1
    have I5 : Inv X pins σ S4.H { s4 with heap := s4.heap.push { cls := .type "slice", data := .fields #[vl, vu, vs] } } := I4.kept (t' := s4.toks) fun b ob q => Heap.get?_push_of_some _ q
    obtain ⟨its, r, ht, hz⟩ := I5.list (sqL hc)
    have hlen := r.length
    show wpAny (model X.prog X.w) X.A (subscriptTail a (.Slice lo hi (some k) p2) (.ref c) (.ref s4.heap.objs.size)) (EP X pins σ Q) X.xe { s4 with heap := s4.heap.push { cls := .type "slice", data := .fields #[vl, vu, vs] } }
    refine tail_any (ops := [.ref c, .ref s4.heap.objs.size]) ht.isList.typeIs (PySem.slot_list_getitem.lookup) ?_ (by with_unfolding_all rfl)
    have hsz : (slicePick its.toArray l u k').size ≤ its.length := by
      have := slicePick_size_le its.toArray l u k'
      simpa using this
    refine wpAny_getItem_list_slice ht.isList (Heap.IsSliceOf.new _ vl vu vs) pl pu pk h0 ?_ (by rw [List.size_toArray]; omega)
    have hv : Vals (pickD ws l u k') (slicePick its.toArray l u k').toList := by
      have q := fm_vals r (sliceRange (sliceBounds l u k' ws.length).1 (sliceBounds l u k' ws.length).2.1 (sliceBounds l u k' ws.length).2.2)
      unfold pickD slicePick
      simp only [List.size_toArray]
      rw [← hlen]
      exact q
    refine ⟨.ref _, _, I5.laid (t' := s4.toks) (o := .lst (pickD ws l u k')) (fun b ob q => Heap.get?_push_of_some _ q) (Nat.le_refl _) ?_, rfl, ret_lst ok4 h4 (vs := pickD ws l u k') ?_ (I5.hok.fresh (Nat.le_refl _))⟩
    · refine ⟨?_, _, 0, hv, Heap.get?_push_size _ rfl⟩
      rw [hv.length, Array.length_toList]
      omega
    · unfold pickD
      rw [rs.length]
      exact fm_rep rs _
end

/-! ### more methods of lists of the store -/
def mPop (n : Nat) (ds as : List DV) (sto : Sto) : Res DV := match as with
  | [] => match ds[ds.length - 1]? with
    | some d => .ok d (sto.set n (.lst ds.dropLast))
    | none => .stuck
  | [.int i] => if -1000000 ≤ i ∧ i ≤ 1000000 then (match seqIndex? i ds.length with
    | some k => (match ds[k]? with
      | some d => .ok d (sto.set n (.lst (ds.eraseIdx k)))
      | none => .stuck)
    | none => .stuck) else .stuck
  | _ => .stuck
def mReverse (n : Nat) (ds as : List DV) (sto : Sto) : Res DV := match as with
  | [] => .ok .non (sto.set n (.lst ds.reverse))
  | _ => .stuck
def mClear (n : Nat) (ds as : List DV) (sto : Sto) : Res DV := match as with
  | [] => .ok .non (sto.set n (.lst []))
  | _ => .stuck
def mRemove (n : Nat) (ds as : List DV) (sto : Sto) : Res DV := match as with
  | [y] => match pyWL look0 ds, pyW look0 y with
    | some xs, some d => if PyData.plainAll xs = true ∧ d.plain = true ∧ d.depth ≤ 64 then (match SeqAt.dataPlace xs d with
      | some j => .ok .non (sto.set n (.lst (ds.eraseIdx j)))
      | none => .stuck) else .stuck
    | _, _ => .stuck
  | _ => .stuck
theorem RepL.erase {K : PySem.W.Frag} {cA : CA} {S : Sys} : ∀ {ds : List DV} {vs : List V} (i : Nat), RepL K cA S ds vs → RepL K cA S (ds.eraseIdx i) (vs.eraseIdx i)
  | [], _, i, h => by cases (show _ = [] from h); simp; rfl
  | d :: ds, _, 0, ⟨v, r, e, h1, h2⟩ => by subst e; simpa using h2
  | d :: ds, _, i + 1, ⟨v, r, e, h1, h2⟩ => by subst e; exact ⟨v, _, rfl, h1, RepL.erase i h2⟩
theorem RepL.dropLast {K : PySem.W.Frag} {cA : CA} {S : Sys} {ds : List DV} {vs : List V} (h : RepL K cA S ds vs) : RepL K cA S ds.dropLast vs.dropLast := by
  rw [List.dropLast_eq_take, List.dropLast_eq_take, h.length]
  exact h.take _
section
variable {X : Cx} {cA : CA} {Z : Nat → L2.St → Hp → Prop} {apos cpos : Pos} {o e : Expr} {es : List Expr} {mo : EM} {t : AM} {name : Str} {id : String} {f : Nat → List DV → List DV → Sto → Res DV}
theorem s_pop : MetS X cA "list.pop" mPop := fun S sto n ds as ws vs Q ok hn e q rds ras p pins s σ us I rus => by
  have na := ok.alive e (by simp)
  have nz : ∀ o u, S.H (S.r n) ≠ some (.frz o u) := fun o u z => by rw [q] at z; cases z
  unfold mPop at p
  split at p
  · cases (show vs = [] from ras)
    split at p
    · rename_i d hd
      obtain ⟨v, hv, rv⟩ := rds.get hd
      rw [rds.length] at hv
      exact mt_pop pins s σ S.H (.ref (S.r n)) _ (.ref (S.r n)) us Q I rfl rus ⟨S.r n, ws, v, rfl, rfl, q, hv, mut_ret (d := .lst _) ok hn na nz ⟨_, rfl, rds.dropLast⟩ p rv⟩
    · exact p.elim
  · rename_i i
    obtain ⟨v, rfl, rv⟩ := one_rep ras
    cases (show v = .int i from rv)
    split at p
    · rename_i hi
      split at p
      · rename_i k hk
        split at p
        · rename_i d hd
          obtain ⟨v, hv, rv⟩ := rds.get hd
          rw [rds.length] at hk
          exact mt_popAt pins s σ S.H (.ref (S.r n)) _ (.ref (S.r n)) us Q I rfl rus ⟨S.r n, ws, i, k, v, rfl, rfl, q, by omega, by omega, hk, hv, mut_ret (d := .lst _) ok hn na nz ⟨_, rfl, rds.erase k⟩ p rv⟩
        · exact p.elim
      · exact p.elim
    · exact p.elim
  · exact p.elim
theorem s_reverse : MetS X cA "list.reverse" mReverse := fun S sto n ds as ws vs Q ok hn e q rds ras p pins s σ us I rus => by
  unfold mReverse at p
  split at p
  · cases (show vs = [] from ras)
    exact mt_reverse pins s σ S.H (.ref (S.r n)) _ (.ref (S.r n)) us Q I rfl rus ⟨S.r n, ws, rfl, rfl, q, mut_ret (d := .lst _) ok hn (ok.alive e (by simp)) (fun o u z => by rw [q] at z; cases z) ⟨_, rfl, rds.rev⟩ p rfl⟩
  · exact p.elim
theorem s_clear : MetS X cA "list.clear" mClear := fun S sto n ds as ws vs Q ok hn e q rds ras p pins s σ us I rus => by
  unfold mClear at p
  split at p
  · cases (show vs = [] from ras)
    exact mt_clear pins s σ S.H (.ref (S.r n)) _ (.ref (S.r n)) us Q I rfl rus ⟨S.r n, ws, rfl, rfl, q, mut_ret (d := .lst []) ok hn (ok.alive e (by simp)) (fun o u z => by rw [q] at z; cases z) ⟨[], rfl, rfl⟩ p rfl⟩
  · exact p.elim
theorem s_remove (hu : X.A.units + 65 < cLine) : MetS X cA "list.remove" mRemove := fun S sto n ds as ws vs Q ok hn e q rds ras p pins s σ us I rus => by
  unfold mRemove at p
  split at p
  · split at p
    · rename_i y _ _ xs d e1 e2
      split at p
      · rename_i hc
        split at p
        · rename_i j hj
          obtain ⟨v, rfl, rv⟩ := one_rep ras
          obtain ⟨u, rfl, ru⟩ := rus.one
          obtain ⟨z, its, m, r, hl, eo⟩ := I.lstM q
          have hd1 := pyWL.rep (cA := cA) (look := look0) (fun _ _ z _ => by cases z) ds ws xs rds e1
          have hd2 := pyW.rep (cA := cA) (look := look0) (fun _ _ z _ => by cases z) y v d rv e2
          obtain ⟨as, hra⟩ := Dp.readsAll I xs ws its hd1 r
          obtain ⟨bs, hrb⟩ := Dp.reads I d v u hd2 ru
          have hmin : min (PyData.depthAll xs) d.depth ≤ 64 := Nat.le_trans (Nat.min_le_right _ _) hc.2.2
          refine SeqAt.remove_list_data (vs := its.toArray) (j := j) ⟨_, eo, rfl, m, rfl⟩ (by simpa using hra) hrb hc.1 hc.2.1 (by omega) hj (by rw [List.size_toArray]; omega) ?_
          refine ⟨.non, _, I.lset (its' := its.eraseIdx j) (t' := s.toks) q eo ?_ (r.eraseIdx j) ?_, rfl, mut_ret (d := .lst _) ok hn (ok.alive e (by simp)) (fun o u z => by rw [q] at z; cases z) ⟨_, rfl, rds.erase j⟩ p rfl⟩
          · show its.toArray.eraseIdxIfInBounds j = (its.eraseIdx j).toArray
            rw [List.eraseIdxIfInBounds_toArray]
          · have z2 := len_erase ws j
            omega
        · exact p.elim
      · exact p.elim
    · exact p.elim
  · exact p.elim
theorem n_pop (n : Nat) (ds as : List DV) (s : Sto) : (mPop n ds as s).noexc := by
  unfold mPop
  split
  · split <;> trivial
  · split
    · split
      · split <;> trivial
      · trivial
    · trivial
  · trivial
theorem n_reverse (n : Nat) (ds as : List DV) (s : Sto) : (mReverse n ds as s).noexc := by unfold mReverse; split <;> trivial
theorem n_clear (n : Nat) (ds as : List DV) (s : Sto) : (mClear n ds as s).noexc := by unfold mClear; split <;> trivial
theorem n_remove (n : Nat) (ds as : List DV) (s : Sto) : (mRemove n ds as s).noexc := by
  unfold mRemove
  split
  · split
    · split
      · split <;> trivial
      · trivial
    · trivial
  · trivial
theorem g_bm0 (pa : PlainAttrs "list") (slot : Slot "list" name id) (hty : typeOf (.builtin id) = pure (.type "method_descriptor")) (hm : MetS X cA id f) (hn : ∀ n ds as s, (f n ds as s).noexc) (ho : GE X cA Z o mo)
    (hbase : attributeBase o name X.env (eval o X.env) = eval o X.env := by exact abase_plain (by first | rfl | decide)) (hline : (apos.endLine == cpos.line) = true := by rfl) : GE X cA Z (.Call (.Attribute o name apos) [] [] cpos) (eBM f mo aNil) := .mk fun S σ env sto ok eo Q p => by
  refine wE.of (pe_bm0 pa slot hty (mtW X id) (peW o) (hbase := hbase) (hline := hline)) (ho.then ok eo p fun x s1 S1 vx g1 ok1 eo1 rx h1 => ?_)
  cases x <;> first | exact h1.elim | skip
  rename_i n
  simp only at h1
  obtain ⟨hn1, rfl⟩ := rx
  split at h1
  · rename_i ds0 e0
    obtain ⟨ws0, q0, rds⟩ := ok1.ob n _ e0
    refine ⟨.inl ⟨rfl, ws0, sqL q0⟩, ?_⟩
    simp only [aNil, Res.bind_ok, e0] at h1
    intro pins s σ' v us I rv rus
    cases (show v = .ref (S1.r n) from rv)
    exact hm S1 s1 n ds0 [] ws0 [] Q ok1 hn1 e0 q0 rds rfl (h1.noZ (hn _ _ _ _)) pins s σ' us I rus
  · exact h1.elim
end

/-! ### l.index(x), l.count(x) -/
def eBMr (f : List DV → List DV → Sto → Res DV) (o : EM) (t : AM) : EM := fun env sto => (o env sto).bind fun x s1 => match lstOf s1 x with
  | some _ => (t env s1).bind fun as s2 => match lstOf s2 x with
    | some ds => f ds as s2
    | none => .stuck
  | none => .stuck
def mIndex (ds as : List DV) (sto : Sto) : Res DV := match as with
  | [y] => match pyWL look0 ds, pyW look0 y with
    | some xs, some d => if SeqAt.shaped (.list xs) = true ∧ SeqAt.shaped d = true then (match SeqAt.dataPlace xs d with
      | some j => .ok (.int j) sto
      | none => .stuck) else .stuck
    | _, _ => .stuck
  | _ => .stuck
def mCount (ds as : List DV) (sto : Sto) : Res DV := match as with
  | [y] => match pyWL look0 ds, pyW look0 y with
    | some xs, some d => if PyData.plainAll xs = true ∧ d.plain = true ∧ d.depth ≤ 64 then .ok (.int (xs.countP fun y => PyData.eqv y d : Nat)) sto else .stuck
    | _, _ => .stuck
  | _ => .stuck
def MetR (X : Cx) (cA : CA) (id : String) (f : List DV → List DV → Sto → Res DV) : Prop :=
  ∀ S sto a ds as ws vs (Q : VK), StoOk X.K cA S sto → S.H a = some (.lst ws) → RepL X.K cA S ds ws → RepL X.K cA S as vs → Post X.K cA S (f ds as sto) (VQ X.K cA Q) (fun _ _ _ => False) →
    ∀ (pins : List (Addr × Obj)) (s : Shared) (σ : L2.St) (us : List Value), Inv X pins σ S.H s → Vals vs us → wpAny (model X.prog X.w) X.A (call (.builtin id) (.ref a :: us)) (EP X pins σ Q) X.xe s
section
variable {X : Cx} {cA : CA} {Z : Nat → L2.St → Hp → Prop} {apos cpos : Pos} {o e : Expr} {es : List Expr} {mo : EM} {t : AM} {name : Str} {id : String} {f : List DV → List DV → Sto → Res DV}
theorem g_bmr (pa : PlainAttrs "list") (slot : Slot "list" name id) (hty : typeOf (.builtin id) = pure (.type "method_descriptor")) (hm : MetR X cA id f) (hn : ∀ ds as s, (f ds as s).noexc) (ho : GE X cA Z o mo) (ha : GA X cA Z (e :: es) t)
    (hbase : attributeBase o name X.env (eval o X.env) = eval o X.env := by exact abase_plain (by first | rfl | decide))
    (hfew : ((backTo cpos (starEach (e :: es) X.env)).all (fun x => !x.1) && (backToKw cpos (keywordEach [] X.env)).all (fun x => x.1.isSome)
      && decide ((e :: es).length + ([] : List Keyword).length + (if ([] : List Keyword).isEmpty then 0 else 1) < 30)) = true := by exact few_plain rfl rfl) (hline : (apos.endLine == cpos.line) = true := by rfl)
    (hs : starEach (e :: es) X.env = (false, eval e X.env) :: starEach es X.env := by exact star_plain rfl) (hplain : (backTo cpos (starEach es X.env)).any (·.1) = false := by exact plain_any rfl) : GE X cA Z (.Call (.Attribute o name apos) (e :: es) [] cpos) (eBMr f mo t) := .mk fun S σ env sto ok eo Q p => by
  refine wE.of (pe_bm pa slot hty (mtW X id) (peW o) (paW (e :: es)) (hbase := hbase) (hfew := hfew) (hline := hline) (hs := hs) (hplain := hplain)) (ho.then ok eo p fun x s1 S1 vx g1 ok1 eo1 rx h1 => ?_)
  cases h0 : lstOf s1 x with
  | none => rw [h0] at h1; exact h1.elim
  | some ds0 =>
    rw [h0] at h1
    obtain ⟨a, ws0, rfl, q0, _⟩ := lstOf.rep ok1 rx h0
    refine ⟨.inl ⟨rfl, ws0, sqL q0⟩, ha.then ok1 eo1 h1 fun as s2 S2 vs g2 ok2 eo2 ras h2 => ?_⟩
    cases h3 : lstOf s2 x with
    | none => rw [h3] at h2; exact h2.elim
    | some ds =>
      rw [h3] at h2
      obtain ⟨a2, ws, ea, q2, rds⟩ := lstOf.rep ok2 (rx.grow ok1 g2) h3
      cases ea
      intro pins s σ' v us I rv rus
      cases (show v = .ref a from rv)
      exact hm S2 s2 a ds as ws vs Q ok2 q2 rds ras (h2.noZ (hn _ _ _)) pins s σ' us I rus
theorem s_index (hu : X.A.units + 65 < cLine) : MetR X cA "list.index" mIndex := fun S sto a ds as ws vs Q ok q rds ras p pins s σ us I rus => by
  unfold mIndex at p
  split at p
  · split at p
    · rename_i y _ _ xs d e1 e2
      split at p
      · rename_i hc
        split at p
        · rename_i j hj
          obtain ⟨v, rfl, rv⟩ := one_rep ras
          have hd1 := pyWL.rep (cA := cA) (look := look0) (fun _ _ z _ => by cases z) ds ws xs rds e1
          have hd2 := pyW.rep (cA := cA) (look := look0) (fun _ _ z _ => by cases z) y v d rv e2
          obtain ⟨h1, h2, h3⟩ := List.findIdx?_eq_some_iff_getElem.mp hj
          exact mt_indexD hu pins s σ S.H (.ref a) _ (.ref a) us Q I rfl rus ⟨a, v, d, xs, j, xs[j], rfl, rfl, .lst (sqL q) hd1, hd2, hc.1, hc.2, List.getElem?_eq_getElem h1, h2, fun m z' hm hz => by
            have := h3 m hm
            rw [List.getElem?_eq_getElem (by omega)] at hz
            cases hz
            simpa using this, ret_same ok p rfl⟩
        · exact p.elim
      · exact p.elim
    · exact p.elim
  · exact p.elim
theorem s_count (hu : X.A.units + 65 < cLine) : MetR X cA "list.count" mCount := fun S sto a ds as ws vs Q ok q rds ras p pins s σ us I rus => by
  unfold mCount at p
  split at p
  · split at p
    · rename_i y _ _ xs d e1 e2
      split at p
      · rename_i hc
        obtain ⟨v, rfl, rv⟩ := one_rep ras
        obtain ⟨u, rfl, ru⟩ := rus.one
        obtain ⟨z, its, m, r, hl, eo⟩ := I.lstM q
        have hd1 := pyWL.rep (cA := cA) (look := look0) (fun _ _ z _ => by cases z) ds ws xs rds e1
        have hd2 := pyW.rep (cA := cA) (look := look0) (fun _ _ z _ => by cases z) y v d rv e2
        obtain ⟨as, hra⟩ := Dp.readsAll I xs ws its hd1 r
        obtain ⟨bs, hrb⟩ := Dp.reads I d v u hd2 ru
        have hmin : min (PyData.depthAll xs) d.depth ≤ 64 := Nat.le_trans (Nat.min_le_right _ _) hc.2.2
        refine SeqAt.count_list_data (vs := its.toArray) ⟨_, eo, rfl, m, rfl⟩ (by simpa using hra) hrb hc.1 hc.2.1 (by omega) ?_
        exact ⟨.int _, _, I.tok _, ⟨_, rfl⟩, ret_same ok p rfl⟩
      · exact p.elim
    · exact p.elim
  · exact p.elim
theorem n_index (ds as : List DV) (s : Sto) : (mIndex ds as s).noexc := by
  unfold mIndex
  split
  · split
    · split
      · split <;> trivial
      · trivial
    · trivial
  · trivial
theorem n_count (ds as : List DV) (s : Sto) : (mCount ds as s).noexc := by
  unfold mCount
  split
  · split
    · split <;> trivial
    · trivial
  · trivial
end

/-! ### isinstance of own classes -/
/-- what of a class isinstance asks -/
structure ClsI (K : PySem.W.Frag) (cA : Nat → Addr) (B : Nat → Nat → Option Bool) : Prop where
  cl : ∀ c c' b, B c c' = some b → Cls K (cA c) ∧ PySem.W.findIn K (.ref (cA c)) "__class__" = some (some (.builtin "object.__class__")) ∧ PySem.W.specialIn K (.builtin "object.__class__") "__get__" = some (some (.builtin "getset_descriptor.__get__")) ∧
    PySem.W.takesIn K (.builtin "object.__class__") = some true ∧ PySem.W.mroIn K (cA c) (.type "object") = some true ∧ PySem.W.kitOne K (.ref (cA c)) (.ref (cA c')) = some b
/-- isinstance(x, C): B tells it of two classes -/
def fIsiC (B : Nat → Nat → Option Bool) (ds : List DV) (sto : Sto) : Res DV := match ds with
  | [x, .cls c'] => match insOf sto x with
    | some (c, _, _) => (match B c c' with
      | some b => .ok (.bl b) sto
      | none => .stuck)
    | none => .stuck
  | _ => .stuck
section
variable {X : Cx} {cA : CA} {Z : Nat → L2.St → Hp → Prop} {B : Nat → Nat → Option Bool}
theorem s_isiC (T : ClsI X.K cA B) : CallS X cA (.builtin "isinstance") (fIsiC B) := fun S sto ds vs Q ok r p pins s σ us I rv => by
  unfold fIsiC at p
  split at p
  · rename_i x c'
    obtain ⟨v, u, rfl, r1, r2⟩ := two_rep r
    cases (show u = .ref (cA c') from r2)
    split at p
    · rename_i c ns ds hi
      split at p
      · rename_i b hb
        obtain ⟨a, dx, fvs, rfl, q1, q2, q3⟩ := insOf.rep ok r1 hi
        obtain ⟨h1, h2, h3, h4, h5, h6⟩ := T.cl c c' b hb
        exact call_isi pins s σ S.H _ us Q I rv ⟨.ref a, .ref (cA c'), .ref (cA c), .ref (cA c'), b, rfl, .own _, .base (.ins q1 h1 h2 h3 h4 h5), h6, ret_same ok p rfl⟩
      · exact p.elim
    · exact p.elim
  · exact p.elim
theorem n_isiC (x : List DV) (s : Sto) : (fIsiC B x s).noexc := by
  unfold fIsiC
  split
  · split
    · split <;> trivial
    · trivial
  · trivial
theorem g_cls {x : Str} {c : Nat} {pos : Pos} (hm : X.mg x = some (.ref (cA c))) (hg : Gl X x := by rfl) (hd : (x == ("__debug__" : Str)) = false := by decide) : GE X cA Z (.Name x pos) (eC (.cls c)) := g_c (pe_glob (v := .ref (cA c)) hg hm rfl hd) fun _ => rfl
end

/-! ### a class without __init__ -/
structure Mk0 (K : PySem.W.Frag) (C : Addr) : Prop where
  makes : PySem.W.makesIn K C = true
  init : PySem.W.findIn K (.ref C) "__init__" = some (some (.builtin "object.__init__"))
  kp : PySem.W.keepIn K (.ref C) = true
section
variable {X : Cx} {cA : CA} {Z : Nat → L2.St → Hp → Prop} {pos p : Pos} {x : Str} {c : Nat}
theorem g_make0 (M : Mk0 X.K (cA c)) (hm : X.mg x = some (.ref (cA c))) (hg : Gl X x := by rfl) (hdb : (x == ("__debug__" : Str)) = false := by decide) : GE X cA Z (.Call (.Name x p) [] [] pos) (eMake0 c) := by
  refine .mk ?_
  intro S σ env sto ok eo Q q0 pins s I
  refine wpAny_Call_Name_kw (ld_glob I hg hm ?_ hdb)
  refine PySem.W.callWith_K0 I.kIn M.kp ?_
  have I2 := Inv.made (C := cA c) I
  have Y := PySem.W.makes_of (M := model X.prog X.w) I.kIn M.makes
  obtain ⟨S', e1, gr, ok', rl⟩ := made_ok (c := c) rfl ok (I.hok.fresh (Nat.le_succ _)) (I.hok.fresh (Nat.le_refl _)) (Nat.ne_of_lt (Nat.lt_succ_self s.heap.objs.size))
  have q1 := q0 S' gr ok' _ rl
  rw [e1] at q1
  refine wpAny_call (make_map0 I.kIn M.makes M.init (fun self => PySem.W.Looks.of_pure (PySem.W.oi_bind self)) ?_)
  obtain ⟨hh, g, d, t, os⟩ := s
  have e2 : ((hh.push PySem.W.emptyDict).push (PySem.W.instObj (cA c) hh.objs.size)).get? (hh.objs.size + 1) = some (PySem.W.instObj (cA c) hh.objs.size) := by
    have := Heap.get?_push_size (hh.push PySem.W.emptyDict) (o := PySem.W.instObj (cA c) hh.objs.size) rfl
    rwa [Heap.size_push] at this
  have t1 : PySem.W.Looks (model X.prog X.w) ((hh.push PySem.W.emptyDict).push (PySem.W.instObj (cA c) hh.objs.size)) (typeOf (.ref (hh.objs.size + 1))) (.ref (cA c)) := (PySem.W.Looks.ld e2).andThen .now
  have t2 : PySem.W.Looks (model X.prog X.w) ((hh.push PySem.W.emptyDict).push (PySem.W.instObj (cA c) hh.objs.size)) (isInstance (.ref (hh.objs.size + 1)) (.type "object")) true := t1.andThen (Y.top.keeps fun b o e => Heap.get?_push_of_some _ (Heap.get?_push_of_some _ e))
  refine codeAny_call_builtin PySem.W.oi_plain PySem.W.entry_oi (@PySem.W.check_slot (model X.prog X.w) _ _ _ "object.__init__" "object" "__init__" (.ref (hh.objs.size + 1)) [] [] _ PySem.W.oi_kind PySem.W.oi_split t2 (PySem.W.oi_args (.ref (hh.objs.size + 1))) ?_)
  rw [PySem.W.oi_run]
  exact wpAny_pure (And.intro rfl ⟨.ref (hh.objs.size + 1), _, I2, rfl, q1⟩)
end

/-! ### while -/
def whileM (t : TM) (body : SM) : Nat → SM
  | 0, _, _ => .stuck
  | k + 1, env, sto => (t env sto).out env fun c s => if c = true then (match body env s with
    | .nx e s' => whileM t body k e s'
    | .ct e s' => whileM t body k e s'
    | .bk e s' => .nx e s'
    | o => o) else .nx env s
def sWhile (k : Nat) (t : TM) (body : SM) : SM := whileM t body k
section
variable {X : Cx} {cA : CA} {Z : Nat → L2.St → Hp → Prop} {pos : Pos} {c : Expr} {body : List Stmt} {tc : TM} {mb : SM}
theorem g_while (k : Nat) (hp : PassesOwn (model X.prog X.w) X.A X.env X.xe) (hc : GT X cA Z c tc) (hb : GSs X cA Z body mb) : GS X cA Z (.While c body [] pos) (sWhile k tc mb) := .mk fun S σ env sto ok eo D p => by
  refine wS.of (ps_while hp (ptW c) (pssW body)) ?_
  refine ⟨fun m σ' H' => ∃ S' env' sto', S'.H = H' ∧ Grow S S' ∧ StoOk X.K cA S' sto' ∧ EnvOk X.K cA S' env' σ' ∧ OPost X.K cA S' (whileM tc mb m env' sto') D Z, ⟨k, S, env, sto, rfl, Grow.refl ok, ok, eo, p⟩, ?_⟩
  rintro m σ' H' ⟨S1, env1, sto1, rfl, g1, ok1, eo1, p1⟩
  cases m with
  | zero => exact p1.elim
  | succ m =>
    unfold whileM at p1
    refine hc.out ok1 eo1 p1 fun b s2 S2 g2 ok2 eo2 h2 => ?_
    cases b with
    | false =>
      rw [if_neg (by decide)] at h2
      exact iteF (h2 S2 σ' (Grow.refl ok2) ok2 eo2)
    | true =>
      rw [if_pos rfl] at h2
      refine iteT ⟨fun σ' H' => ∃ S' env' sto', S'.H = H' ∧ Grow S S' ∧ StoOk X.K cA S' sto' ∧ EnvOk X.K cA S' env' σ' ∧ OPost X.K cA S' (whileM tc mb m env' sto') D Z, fun σ' H' h => ⟨m, Nat.lt_succ_self _, h⟩, hb.run S2 σ' env1 s2 ok2 eo2 _ ?_⟩
      cases e : mb env1 s2 with
      | nx e' s' => rw [e] at h2; exact fun S' σ'' g' ok' eo' => ⟨S', e', s', rfl, (g1.trans g2).trans g', ok', eo', OPost.grow h2 g'⟩
      | ct e' s' => rw [e] at h2; exact fun S' σ'' g' ok' eo' => ⟨S', e', s', rfl, (g1.trans g2).trans g', ok', eo', OPost.grow h2 g'⟩
      | bk e' s' => rw [e] at h2; exact fun S' σ'' g' ok' eo' => h2 S' σ'' g' ok' eo'
      | rt d s' => rw [e] at h2; exact h2
      | exc c e' s' => rw [e] at h2; exact h2
      | stuck => rw [e] at h2; exact h2
end
end BB
namespace BB
open PySem PySem.Spec PyProof.Rows L2

/-! ### dict(zip(xs, ys)), keys tuples, none twice -/
def tkeysOf : List DV → Option (List (List Key))
  | [] => some []
  | d :: ds => match tkeyOf d, tkeysOf ds with
    | some k, some ks => some (k :: ks)
    | _, _ => none
def fDictZip (x y : DV) (s : Sto) : Res DV := match lstOf s x, lstOf s y with
  | some xs, some ys => (match tkeysOf xs with
    | some ks => if ((ks.zip ys).map (·.1)).Nodup ∧ xs.length ≤ 1000000 then .ok (.dic ((ks.zip ys).map (·.1)) ((ks.zip ys).map (·.2))) s else .stuck
    | none => .stuck)
  | _, _ => .stuck
def eDictZip (a b : EM) : EM := fun env sto => (a env sto).bind fun x s1 => (b env s1).bind fun y s2 => fDictZip x y s2
theorem storedAll_nodup : ∀ (ps acc : List (List Key × Addr × Value)), ((acc ++ ps).map (·.1)).Nodup → storedAllH acc ps = acc ++ ps
  | [], acc, _ => by simp [storedAllH]
  | p :: ps, acc, h => by
    have e : storedH acc p.1 p.2.1 p.2.2 = acc ++ [p] := by
      unfold storedH
      rw [if_neg]
      · intro z
        unfold atKey at z
        rw [Option.isSome_map, List.find?_isSome] at z
        obtain ⟨q, hq, e⟩ := z
        simp only [decide_eq_true_eq] at e
        rw [List.map_append, List.nodup_append] at h
        exact h.2.2 q.1 (List.mem_map.mpr ⟨q, hq, rfl⟩) p.1 (by simp) e
    show storedAllH (storedH acc p.1 p.2.1 p.2.2) ps = _
    rw [e, storedAll_nodup ps (acc ++ [p]) (by simpa using h)]
    simp
section
variable {K : PySem.W.Frag} {cA : CA} {S : Sys}
theorem zip_ps : ∀ {ds : List DV} {ws : List V} {its : List Value} {ws2 : List V} {its2 : List Value} {ks : List (List Key)}, RepL K cA S ds ws → Vals ws its → tkeysOf ds = some ks → Vals ws2 its2 →
    ∃ ps : List (List Key × Addr × Value), ps.length = min its.length its2.length ∧ (∀ (i : Nat) key v, its[i]? = some key → its2[i]? = some v → ∃ k b, ps[i]? = some (k, b, v) ∧ key = .ref b) ∧ KT S.H (ks.zip ws2) ps ∧ ps.map (·.1) = (ks.zip ws2).map (·.1)
  | [], ws, its, ws2, its2, ks, r, v1, hk, v2 => by
    cases (show ws = [] from r)
    cases v1
    cases hk
    exact ⟨[], by simp, fun i key v h => by simp at h, .nil, rfl⟩
  | d :: ds, ws, its, ws2, its2, ks, ⟨v, r', e, h1, h2⟩, v1, hk, v2 => by
    subst e
    unfold tkeysOf at hk
    split at hk
    · rename_i k ks' e1 e2
      cases hk
      cases v1 with
      | cons ru rt =>
        obtain ⟨b, rfl, hb⟩ := tkeyOf.rep h1 e1
        cases ru
        cases v2 with
        | nil => exact ⟨[], by simp, fun i key v _ h => by simp at h, by simpa using Paired.nil, by simp⟩
        | @cons y uy ys uys ry rt2 =>
          obtain ⟨ps, p1, p2, p3, p4⟩ := zip_ps h2 rt e2 rt2
          refine ⟨(k, b, uy) :: ps, by simp [p1], fun i key v hi hj => ?_, ?_, by simp [p4]⟩
          · cases i with
            | zero =>
              simp only [List.getElem?_cons_zero, Option.some.injEq] at hi hj
              subst hi hj
              exact ⟨k, b, rfl, rfl⟩
            | succ i => exact p2 i key v (by simpa using hi) (by simpa using hj)
          · exact .cons ⟨rfl, hb, ry⟩ p3
    · cases hk
theorem zip_rep : ∀ {ks : List (List Key)} {ys : List DV} {ws : List V}, RepL K cA S ys ws → ((ks.zip ws).map (·.1)) = (ks.zip ys).map (·.1) ∧ RepL K cA S ((ks.zip ys).map (·.2)) ((ks.zip ws).map (·.2))
  | [], ys, ws, r => by simp; rfl
  | k :: ks, [], ws, r => by cases (show ws = [] from r); exact ⟨rfl, rfl⟩
  | k :: ks, y :: ys, ws, ⟨v, r', e, h1, h2⟩ => by
    subst e
    obtain ⟨q1, q2⟩ := zip_rep (ks := ks) h2
    exact ⟨by simp [q1], v, _, rfl, h1, q2⟩
theorem tkeysOf_len : ∀ {ds : List DV} {ks : List (List Key)}, tkeysOf ds = some ks → ks.length = ds.length
  | [], ks, h => by cases h; rfl
  | d :: ds, ks, h => by
    unfold tkeysOf at h
    split at h
    · rename_i e1 e2
      cases h
      simp [tkeysOf_len e2]
    · cases h
end
theorem ret_dicV {X : Cx} {cA : CA} {S : Sys} {sto : Sto} {Q : VK} {Zf : Nat → Sto → Sys → Prop} {ks : List (List Key)} {ds : List DV} {kvs : List (List Key × V)} {p : Addr} (ok : StoOk X.K cA S sto) (h : Post X.K cA S (.ok (.dic ks ds) sto) (VQ X.K cA Q) Zf) (hk : kvs.map (·.1) = ks) (r : RepL X.K cA S ds (kvs.map (·.2))) (np : S.H p = none) : Q (.ref p) (upd S.H p (.dT kvs)) :=
  h (S.addV p (.dT kvs)) (Grow.addV ok np) (ok.addV np) (.ref p) ⟨p, kvs, rfl, .inr rfl, upd_same, hk, r.grow ok (Grow.addV ok np)⟩
section
variable {X : Cx} {cA : CA} {Z : Nat → L2.St → Hp → Prop} {p p2 q pos : Pos} {a b : Expr} {ma mb : EM}
theorem g_dictZip (hu : X.A.units + 10 < cLine) (hc : X.calm = true) (hm : X.mg "dict" = none) (hm2 : X.mg "zip" = none) (ha : GE X cA Z a ma) (hb : GE X cA Z b mb) (hg : Gl X "dict" := by rfl) (hg2 : Gl X "zip" := by rfl)
    (na : starEach [a, b] X.env = (false, eval a X.env) :: starEach [b] X.env := by exact star_plain rfl) (nb : starEach [b] X.env = (false, eval b X.env) :: starEach [] X.env := by exact star_plain rfl)
    (nz : starEach [.Call (.Name "zip" p2) [a, b] [] q] X.env = (false, eval (.Call (.Name "zip" p2) [a, b] [] q) X.env) :: starEach [] X.env := by exact star_plain rfl) (hpl : (backTo q (starEach [b] X.env)).any (·.1) = false := by exact plain_any rfl) :
    GE X cA Z (.Call (.Name "dict" p) [.Call (.Name "zip" p2) [a, b] [] q] [] pos) (eDictZip ma mb) := .mk fun S σ env sto ok eo Q pp pins s I => by
  refine Call_ (ld_blt I hg hm PyProof.Rows.boot_dict ?_)
  refine PyProof.Rows.callWith_type1 (PyProof.Rows.args_cons ?_ nz) nz rfl
  refine Call_ (ld_blt I hg2 hm2 PyProof.Rows.boot_zip ?_)
  have hA : wA X [a, b] σ S.H (fun vs H1 => ∃ S1 s1 x y vx vy, vs = [vx, vy] ∧ S1.H = H1 ∧ StoOk X.K cA S1 s1 ∧ Rep X.K cA S1 x vx ∧ Rep X.K cA S1 y vy ∧ Post X.K cA S1 (fDictZip x y s1) (VQ X.K cA Q) (fun c _ S' => Z c σ S'.H)) := by
    refine wA.of (pa_cons (peW a) (pa_cons (peW b) pa_nil nb) na) (ha.then ok eo pp fun x s1 S1 vx g1 ok1 eo1 rx h1 => ?_)
    refine hb.then ok1 eo1 h1 fun y s2 S2 vy g2 ok2 eo2 ry h2 => ?_
    exact ⟨S2, s2, x, y, vx, vy, rfl, rfl, ok2, rx.grow ok1 g2, ry, h2⟩
  refine PyProof.Rows.callWith_type1 (thn (hA q pins s I) fun us s1 ⟨vs, H1, I1, r1, S1, t1, x, y, vx, vy, ev, e1, ok1, rx, ry, h1⟩ => ?_) na hpl
  subst ev e1
  unfold fDictZip at h1
  split at h1
  · rename_i xs ys hx hy
    split at h1
    · rename_i ks hk
      split at h1
      · rename_i hn
        obtain ⟨l1, ws1, rfl, q1, rs1⟩ := lstOf.rep ok1 rx hx
        obtain ⟨l2, ws2, rfl, q2, rs2⟩ := lstOf.rep ok1 ry hy
        cases r1 with
        | cons r rr =>
        cases rr with
        | cons r' rr =>
        cases rr
        cases r
        cases r'
        obtain ⟨its, rv, p1, hz1⟩ := I1.list (sqL q1)
        obtain ⟨its2, rv2, p2', _⟩ := I1.list (sqL q2)
        have la : l1 < s1.heap.objs.size := p1.lt
        have lb : l2 < s1.heap.objs.size := p2'.lt
        refine call_zip_2 p1.isList p2'.isList fun h' hz hTI hTO hi1 hi2 hsz hkp => PyProof.Rows.args_nil ?_
        obtain ⟨ps, c1, c2, c3, c4⟩ := zip_ps rs1 rv hk rv2
        obtain ⟨z1, z2⟩ := zip_rep (ks := ks) rs2
        have I2 : Inv X pins σ S1.H { s1 with heap := h' } := I1.kept (t' := s1.toks) hkp
        have nd : (ps.map (·.1)).Nodup := by rw [c4, z1]; exact hn.1
        have keyat : ∀ (h2 : Heap), (∀ b o, s1.heap.get? b = some o → h2.get? b = some o) → ∀ x ∈ ps, (tupleKind (mixKind X.prog X.w)).is h2 x.1 x.2.1 := by
          intro h2 hk2
          have I3 : Inv X pins σ S1.H { s1 with heap := h2 } := I1.kept (t' := s1.toks) hk2
          have all : ∀ {l : List (List Key × V)} {m : List (List Key × Addr × Value)}, KT S1.H l m → ∀ x ∈ m, (tupleKind (mixKind X.prog X.w)).is h2 x.1 x.2.1 := by
            intro l m qq
            induction qq with
            | nil => intro x hx; exact nomatch hx
            | @cons p q ps qs hq t ih =>
              intro x hx
              rcases List.mem_cons.mp hx with e | hx
              · subst e
                exact key_of I3.hok (by rw [← hq.1]; exact hq.2.1)
              · exact ih x hx
          exact all c3
        refine call_dict_pairsH (knd := tupleKind (mixKind X.prog X.w)) (ps := ps) (PairArg.zip (s1.heap.objs.size + 4) (s1.heap.objs.size + 2) (s1.heap.objs.size + 3) s1.heap.objs.size (s1.heap.objs.size + 1) l1 l2 (PySem.W.ktu_apart s1.heap.objs.size l1 l2 la lb) its.toArray its2.toArray)
          (I1.ok.hd hc) (by show X.A.in1.in1.units < cLine; simp only [Around.in1]; omega) ⟨hz, hTI, ⟨_, _, hTO⟩, hi1, hi2, p1.isList.at (fun o e => hkp _ o e), p2'.isList.at (fun o e => hkp _ o e)⟩ ⟨by simpa using c1, fun i key v hrel => ?_⟩ (fun h2 hk2 x hx => ?_) ?_ fun h2 tk hd hk2 => ?_
        · exact c2 i key v (by simpa using hrel.1) (by simpa using hrel.2)
        · refine keyat h2 (fun b o e => ?_) x hx
          have hb := Heap.lt_size e
          refine hk2 b o (Nat.ne_of_lt (Nat.lt_of_lt_of_le hb (by show s1.heap.objs.size ≤ h'.objs.size; omega))) ?_ (hkp b o e)
          simp only [List.mem_cons, List.not_mem_nil, or_false, not_or]
          exact ⟨Nat.ne_of_lt (Nat.lt_of_lt_of_le hb (Nat.le_add_right _ _)), Nat.ne_of_lt (Nat.lt_of_lt_of_le hb (Nat.le_add_right _ _)), Nat.ne_of_lt hb, Nat.ne_of_lt (Nat.lt_of_lt_of_le hb (Nat.le_add_right _ _))⟩
        · have := rs1.length
          have := rv.length
          have hl : xs.length ≤ 1000000 := hn.2
          have : its.length ≤ sizeLine := by
            rw [← rv.length]; exact hz1
          simp only [List.size_toArray]
          omega
        · rw [storedAll_nodup ps [] (by simpa using nd), List.nil_append] at hd
          obtain ⟨o, es, ep, h1', h2', h3', h4', h5', h6'⟩ := hd
          have kp : ∀ b o, s1.heap.get? b = some o → h2.get? b = some o := fun b o e => by
            have hb := Heap.lt_size e
            refine hk2 b o ?_ (hkp b o e)
            simp only [List.mem_cons, List.not_mem_nil, or_false, not_or]
            exact ⟨Nat.ne_of_lt (Nat.lt_of_lt_of_le hb (Nat.le_add_right _ _)), Nat.ne_of_lt (Nat.lt_of_lt_of_le hb (Nat.le_add_right _ _)), Nat.ne_of_lt hb, Nat.ne_of_lt (Nat.lt_of_lt_of_le hb (Nat.le_add_right _ _))⟩
          have hd' : s1.heap.objs.size ≤ h'.objs.size := by omega
          have np : S1.H h'.objs.size = none := I1.hok.fresh hd'
          have hlen : (ks.zip ws2).length ≤ sizeLine := by
            have e1 := tkeysOf_len hk
            have e2 := rs1.length
            rw [List.length_zip]
            have : min ks.length ws2.length ≤ ks.length := Nat.min_le_left _ _
            rw [e1, e2] at this
            rw [e1, e2]
            exact Nat.le_trans this hz1
          refine ⟨.ref h'.objs.size, upd S1.H h'.objs.size (.dT (ks.zip ws2)), I1.laid (t' := tk) kp hd' ?_, rfl, ret_dicV ok1 h1 z1 z2 np⟩
          refine ⟨hlen, beq_eq_false_iff_ne.mpr (Nat.ne_of_gt (Nat.lt_of_lt_of_le I1.big hd')), ps, c3.keeps (fun b ys e => by rw [upd_ne (ne_of_none e np)]; exact e), o, es, ep, h1', h2', h3', h4', h6'⟩
      · exact h1.elim
    · exact h1.elim
  · exact h1.elim
end
end BB
namespace BB
open PySem PySem.Spec PyProof.Rows L2
/-- a refusal's class -/
structure ExcT (K : PySem.W.Frag) (mg : Str → Option Value) (C : Addr) (x : Str) : Prop where
  gC : mg x = some (.ref C)
  q : PySem.W.excIn K C [.type "ValueError", .type "Exception", .type "BaseException", .type "object"] "ValueError.__new__" = true
  kC : PySem.W.keepIn K (.ref C) = true
  sub : PySem.W.subIn K (.ref C) (.type "BaseException") = some true
  typ : PySem.W.typeIn K (.ref C) = some (.type "type")
def sRaise (c : Nat) : SM := fun env sto => .exc c env sto
section
variable {X : Cx} {cA : CA} {Z : Nat → L2.St → Hp → Prop} {pos p p2 pos' : Pos} {x m : Str} {j c : Nat}
theorem g_raise (hz : GZ X cA Z) (hc : X.calm = true) (T : ExcT X.K X.mg (cA c) x) (hg : Gl X x := by rfl) (hdb : (x == ("__debug__" : Str)) = false := by decide) : GS X cA Z (.Raise (some (.Call (.Name x p) [.Constant (.str m) j p2] [] pos)) none pos') (sRaise c) := .mk fun S σ env sto ok eo D q => by
  obtain ⟨W, tk, h⟩ := hz.ex
  exact wS.of (ps_raise hc tk (pmk_own PySem.F.excBase_ValueError T.q T.gC T.kC (raises_own T.sub T.typ) hg hdb)) (h c σ S.H (q S σ (Grow.refl ok) ok eo))
end

/-! ### xs.extend(a tuple) -/
theorem list_extend_tup (l : Addr) (items : Array Value) (n : Nat) (b : Addr) (items2 : Array Value) (n2 : Nat) (dd : Option Addr) (sl : Array (Option Value)) (hs0 : ¬(!items.isEmpty && Builtin.List.listTooLong (items.size + items2.size)) = true) (hs1 : items.size ≤ sizeLine) (hs2 : items.size + items2.size ≤ sizeLine + 1) :
    Meets (Builtin.«list.extend» ⟨[.ref l, .ref b], []⟩) (fun _ R s => s.heap.get? l = some { cls := .type "list", dict := none, data := .seq items n, slots := #[] } ∧ s.heap.get? b = some { cls := .type "tuple", dict := dd, data := .seq items2 n2, slots := sl } ∧ R (.ok (.ret Value.none)) { s with heap := s.heap.update l (Obj.mapSeq fun x => x ++ items2), toks := s.toks }) :=
  .of_wp fun prog w A R s h => by
    obtain ⟨hp, g, d, tk, os⟩ := s; obtain ⟨hl, hb, h⟩ := h; have f1 := PySem.AutoSeq1.idx_int; have f2 := PySem.AutoSeq1.sub_tuple_tuple; have f3 := PySem.AutoSeq1.sub_list_list; have f4 := PySem.AutoSeq1.sub_tuple_list; have f5 := PySem.AutoSeq1.sub_list_tuple;
    have hz' : (items ++ items2).size ≤ sizeLine + 1 := by rw [Array.size_append]; exact hs2
    wp_walk using (wpAny_updateSeq hl rfl (hz := hs1) (_hz' := hz')), PySem.AutoSeq1.wpAny_loadPart' hl, PySem.AutoSeq1.wpAny_loadPart' hb; exact ⟨_, rfl, h⟩
def mExtendS (n : Nat) (ds as : List DV) (sto : Sto) : Res DV := match as with
  | [.tup ys] => if ds.length + ys.length ≤ 1000000 then .ok .non (sto.set n (.lst (ds ++ ys))) else .stuck
  | as => mExtend n ds as sto
section
variable {X : Cx} {cA : CA} {Z : Nat → L2.St → Hp → Prop} {apos cpos : Pos} {o e : Expr} {es : List Expr} {mo : EM} {t : AM}
theorem s_extendS : MetS X cA "list.extend" mExtendS := fun S sto n ds as ws vs Q ok hn e q rds ras p pins s σ us I rus => by
  unfold mExtendS at p
  split at p
  · rename_i ys
    split at p
    · rename_i hl
      obtain ⟨v, rfl, rv⟩ := one_rep ras
      obtain ⟨b, zs, rfl, hb, rz⟩ := rv
      obtain ⟨u, rfl, ru⟩ := rus.one
      cases ru
      obtain ⟨z, its, m, r, hl1, e1⟩ := I.lstM q
      obtain ⟨its2, r2, ⟨⟨cls, dd, data, sl⟩, h1, h2, m2, h3⟩, z2⟩ := I.tuple (sqT hb)
      simp only at h2 h3
      subst h2 h3
      have l1 := rds.length
      have l2 := rz.length
      have l3 := r2.length
      have hsz : its.toArray.size + its2.toArray.size ≤ sizeLine := by
        rw [List.size_toArray, List.size_toArray]
        refine lim (show its.length + its2.length ≤ 1000000 from ?_)
        omega
      have hlong : ¬ (!its.toArray.isEmpty && Builtin.List.listTooLong (its.toArray.size + its2.toArray.size)) = true := by
        rw [notLongL hsz, Bool.and_false]
        exact Bool.false_ne_true
      refine call_meets PySem.F.slot_list_extend ⟨_, e1, rfl⟩ PySem.F.entry_list_extend (PySem.F.args_list_extend_2 _ _)
        (list_extend_tup (S.r n) its.toArray m b its2.toArray m2 dd sl hlong (by rw [List.size_toArray]; omega) (by omega)) ⟨e1, h1, ?_⟩
      refine ⟨.non, _, I.lset (its' := its ++ its2) (t' := s.toks) q e1 (by simp) (r.append r2) ?_, rfl, mut_ret (d := .lst _) ok hn (ok.alive e (by simp)) (fun o u z => by rw [q] at z; cases z) ⟨_, rfl, rds.app rz⟩ p rfl⟩
      rw [List.length_append]
      rw [List.size_toArray, List.size_toArray] at hsz
      omega
    · exact p.elim
  · exact s_extend S sto n ds as ws vs Q ok hn e q rds ras p pins s σ us I rus
theorem n_extendS (n : Nat) (ds as : List DV) (s : Sto) : (mExtendS n ds as s).noexc := by
  unfold mExtendS
  split
  · split <;> trivial
  · exact n_extend _ _ _ _
end
end BB
/-! sorted(set(xs)) of a list of whole numbers -/
namespace BB
open PySem PySem.Spec PyProof.Rows L2
abbrev setOb (w : World) : Obj := { cls := .type "set", dict := none, data := .set #[] 0 (.fresh 0 0 (!w.params.followText "set-order")) }
section
variable {P : Program} {w : World} {A : Around} {E : Value → Shared → Prop} {s : Shared}
theorem set_of_ints {l : Addr} {its : Array Value} (ns : List Int) {Q : Value → Shared → Prop} (nh : A.handled = none) (il : s.heap.IsList l its) (ii : IntsAre its.toList ns) (few : ns.length + 1 < scanBound)
    (k : ∀ (h1 : Heap) (tk c : Nat), SetR w h1 s.heap.objs.size (fun j => decide (j ∈ ns)) c → c ≤ ns.length → (∀ b u, s.heap.get? b = some u → h1.get? b = some u) → Q (.ref s.heap.objs.size) { s with heap := h1, toks := tk }) :
    wpAny (model P w) A (call (.type "set") [.ref l]) Q E s := by
  have size_eq : its.size = ns.length := by have z := ii.length; rwa [Array.length_toList] at z
  obtain ⟨_, _, m0⟩ := F.called_set.mro
  have m1 := F.called_set.made; have m2 := F.called_set.sub; have m3 := F.called_set.notType; have m4 := F.called_set.canCreate; have m5 := F.typeCall_set_1 (.ref l)
  refine wpAny_call (codeAny_of_tree (show wpAny _ _ (callAny (.type "set") _) _ _ _ from wpAny_pure ⟨Code.quiet_builtin _ (by decide +kernel), codeAny_builtin F.entry_type_call ?_⟩))
  rw [Around.under_plain (weight_type_call_type "set" [.ref l] []) rfl]
  repeat (any_goals (first | assumption | wp_step))
  refine codeAny_mono (code_set_led1 (.ref l) (E := E) (Q₁ := fun v s1 => v = .ref s.heap.objs.size ∧ s1 = { s with heap := s.heap.push (setOb w) }) ⟨rfl, rfl⟩) fun r s1 hr => ?_
  match r, hr with
  | .error e, hr => exact hr
  | .ok (.ret v), hr =>
    obtain ⟨rfl, rfl⟩ := hr
    have got : (s.heap.push (setOb w)).get? s.heap.objs.size = some (setOb w) := Heap.get?_push_size _ rfl
    have ty : Shared.TypeIs { s with heap := s.heap.push (setOb w) } (.ref s.heap.objs.size) "set" := ⟨_, got, rfl⟩
    have n1 := F.called_set.init.lookup; have n2 := F.called_set.init.bind (.ref s.heap.objs.size)
    repeat (any_goals (first | assumption | wp_step))
    refine codeAny_mono (codeAny_call_builtin (R := wants (fun v s2 => v = .none ∧ ∃ h1 tk c, s2 = { s with heap := h1, toks := tk } ∧ SetR w h1 s.heap.objs.size (fun j => decide (j ∈ ns)) c ∧ c ≤ ns.length ∧ (∀ b u, s.heap.get? b = some u → h1.get? b = some u)) E) F.called_set.init.plain F.entry_set_init (check_set_init_1 ty ?_)) fun r2 s2 hr2 => ?_
    · obtain ⟨⟨oc, od, oda, osl⟩, hol, hcl, nl, hdl⟩ := il
      simp only at hcl hdl
      subst hcl hdl
      have hol2 : (s.heap.push (setOb w)).get? l = some { cls := .type "list", dict := od, data := .seq its nl, slots := osl } := Heap.get?_push_of_some _ hol
      have u1 := F.sub_list_set; have u2 := F.sub_list_frozenset
      have u3 : (Value.type "list" == Value.type "dict") = false := by decide
      have il2 : (s.heap.push (setOb w)).IsList l its := ⟨_, hol2, rfl, nl, rfl⟩
      unfold Builtin.«set.__init__» noKeywords Builtin.Frozenset.updateFrom
      generalize hgen : pyIter = IT
      wp_walk
      subst hgen
      refine wpAny_pyIter_list il2 (wpAny_bind (wpAny_runValue ?_))
      have lt : l < s.heap.objs.size := Heap.lt_size hol
      have nh3 : A.in1.in1.in1.handled = none := by simp [nh]
      have zz : (s.heap.push (setOb w)).objs.size = s.heap.objs.size + 1 := Heap.size_push _ _
      have d1 : l ≠ (s.heap.push (setOb w)).objs.size := fun z => by
        rw [zz] at z
        exact absurd z (Nat.ne_of_lt (Nat.lt_succ_of_lt lt))
      have d2 : s.heap.objs.size ∉ [(s.heap.push (setOb w)).objs.size, l] := fun z => by
        rw [zz] at z
        rcases List.mem_cons.mp z with z | z
        · exact absurd z (Nat.ne_of_lt (Nat.lt_succ_self _))
        · cases z with
          | head => exact absurd lt (Nat.lt_irrefl _)
          | tail _ z => cases z
      have vals : ∀ (i : Nat) (v : Value), its[i]? = some v → ∃ n t, ns[i]? = some n ∧ v = .int n t := by
        intro i v hv
        have lti : i < ns.length := by rw [← size_eq]; exact (Array.getElem?_eq_some_iff.mp hv).1
        obtain ⟨t, e⟩ := PyProof.Rows.IntsAre.int_at ii i v (by rw [Array.getElem?_toList]; exact hv)
        exact ⟨ns[i], t, List.getElem?_eq_getElem lti, by rw [e, List.getD_eq_getElem?_getD, List.getElem?_eq_getElem lti] <;> rfl⟩
      refine set_update_ints ((Walks.list nh3 _ l d1 its).toS) s.heap.objs.size d2 ns size_eq few vals (its.size - 0) 0 _ (by omega) (Nat.zero_le _) ⟨⟨_, Heap.get?_push_size _ rfl, rfl, rfl⟩, il2.push _⟩ ⟨0, Nat.le_refl 0, setR_new_at (Heap.get?_push_of_some _ got)⟩ ?_
      rintro ⟨h1, g1, d3, t3, o3⟩ c mv hc R
      obtain rfl : g1 = s.gens := mv.gens
      obtain rfl : d3 = s.drawn := mv.drawn
      obtain rfl : o3 = s.os := mv.os
      show wpAny _ _ _ _ _ _
      refine wpAny_pure (show wpAny _ _ (ret Value.none) _ _ _ from wpAny_pure ⟨rfl, h1, t3, c, rfl, R, by omega, fun b u e => ?_⟩)
      have lb := Heap.lt_size e
      refine mv.heap b u (fun z => ?_) (Heap.get?_push_of_some _ (Heap.get?_push_of_some _ e))
      rw [zz] at z
      rcases List.mem_cons.mp z with z | z
      · exact absurd z (Nat.ne_of_lt lb)
      · rcases List.mem_cons.mp z with z | z
        · exact absurd z (Nat.ne_of_lt (Nat.lt_succ_of_lt lb))
        · cases z
    · match r2, hr2 with
      | .error e, hr2 => exact hr2
      | .ok (.ret v), hr2 =>
        obtain ⟨rfl, h1, tk, c, rfl, R, hc, kp⟩ := hr2
        repeat (any_goals (first | assumption | wp_step))
        exact k _ _ _ R hc kp
end
/-! the one rising list of what is in a list -/
def insU (k : Int) : List Int → List Int
  | [] => [k]
  | x :: xs => if k < x then k :: x :: xs else if k = x then x :: xs else x :: insU k xs
def sortU : List Int → List Int
  | [] => []
  | x :: xs => insU x (sortU xs)
theorem insU_mem {k z : Int} : ∀ {xs : List Int}, z ∈ insU k xs ↔ z = k ∨ z ∈ xs
  | [] => by simp [insU]
  | x :: xs => by
    unfold insU
    split
    · simp
    · split
      · rename_i e; subst e; simp
      · rw [List.mem_cons, insU_mem, List.mem_cons]
        constructor
        · rintro (h | h | h)
          · exact .inr (.inl h)
          · exact .inl h
          · exact .inr (.inr h)
        · rintro (h | h | h)
          · exact .inr (.inl h)
          · exact .inl h
          · exact .inr (.inr h)
theorem insU_up {k : Int} : ∀ {xs : List Int}, xs.Pairwise (· < ·) → (insU k xs).Pairwise (· < ·)
  | [], _ => by simp [insU]
  | x :: xs, h => by
    obtain ⟨h1, h2⟩ := List.pairwise_cons.mp h
    unfold insU
    split
    · rename_i hk
      refine List.pairwise_cons.mpr ⟨fun y hy => ?_, h⟩
      rcases List.mem_cons.mp hy with rfl | hy
      · exact hk
      · have := h1 y hy; omega
    · split
      · exact h
      · refine List.pairwise_cons.mpr ⟨fun y hy => ?_, insU_up h2⟩
        rcases insU_mem.mp hy with rfl | hy
        · omega
        · exact h1 y hy
theorem sortU_mem {z : Int} : ∀ {xs : List Int}, z ∈ sortU xs ↔ z ∈ xs
  | [] => by simp [sortU]
  | x :: xs => by rw [sortU, insU_mem, sortU_mem, List.mem_cons]
theorem sortU_up : ∀ (xs : List Int), (sortU xs).Pairwise (· < ·)
  | [] => List.Pairwise.nil
  | x :: xs => insU_up (sortU_up xs)
theorem rise_eq : ∀ {xs ys : List Int}, xs.Pairwise (· < ·) → ys.Pairwise (· < ·) → (∀ z, z ∈ xs ↔ z ∈ ys) → xs = ys
  | [], [], _, _, _ => rfl
  | [], y :: ys, _, _, h => absurd ((h y).mpr (by simp)) (by simp)
  | x :: xs, [], _, _, h => absurd ((h x).mp (by simp)) (by simp)
  | x :: xs, y :: ys, hx, hy, h => by
    obtain ⟨x1, x2⟩ := List.pairwise_cons.mp hx
    obtain ⟨y1, y2⟩ := List.pairwise_cons.mp hy
    have e : x = y := by
      rcases List.mem_cons.mp ((h x).mp (by simp)) with e | m1
      · exact e
      · rcases List.mem_cons.mp ((h y).mpr (by simp)) with e | m2
        · exact e.symm
        · have := x1 y m2
          have := y1 x m1
          omega
    subst e
    congr 1
    refine rise_eq x2 y2 fun z => ⟨fun hz => ?_, fun hz => ?_⟩
    · rcases List.mem_cons.mp ((h z).mp (List.mem_cons_of_mem _ hz)) with e | m
      · have := x1 z hz; omega
      · exact m
    · rcases List.mem_cons.mp ((h z).mpr (List.mem_cons_of_mem _ hz)) with e | m
      · have := y1 z hz; omega
      · exact m
def fSortSet (x : DV) (s : Sto) : Res DV := match lstOf s x with
  | some xs => (match intsOf xs with
    | some ns => if ns.length ≤ 60 then .ok (.lst ((sortU ns).map .int)) s else .stuck
    | none => .stuck)
  | none => .stuck
def eSortSet (a : EM) : EM := fun env sto => (a env sto).bind fun x s1 => fSortSet x s1
section
variable {X : Cx} {cA : CA} {Z : Nat → L2.St → Hp → Prop} {a : Expr} {ma : EM} {p p2 q pos : Pos}
theorem intsOf_rep {K : PySem.W.Frag} {S : Sys} : ∀ {ds : List DV} {vs : List V} {ns : List Int}, RepL K cA S ds vs → intsOf ds = some ns → vs = ns.map V.int
  | [], _, ns, h, e => by cases (show _ = [] from h); cases e; rfl
  | d :: ds, _, ns, ⟨v, r, e1, h1, h2⟩, e => by
    subst e1
    cases d <;> simp only [intsOf] at e <;> try (cases e; done)
    rename_i i
    obtain ⟨ms, h3, rfl⟩ := Option.map_eq_some_iff.mp e
    have := intsOf_rep h2 h3
    subst this
    cases (show v = .int i from h1)
    rfl
theorem ints_rep {K : PySem.W.Frag} {S : Sys} : ∀ (ns : List Int), RepL K cA S (ns.map .int) (ns.map V.int)
  | [] => rfl
  | n :: ns => ⟨.int n, ns.map V.int, rfl, rfl, ints_rep ns⟩
theorem g_sortSet (hc : X.calm = true) (hm : X.mg "sorted" = none) (hm2 : X.mg "set" = none) (ha : GE X cA Z a ma) (hg : Gl X "sorted" := by rfl) (hg2 : Gl X "set" := by rfl)
    (na : starEach [a] X.env = (false, eval a X.env) :: starEach [] X.env := by exact star_plain rfl)
    (nz : starEach [.Call (.Name "set" p2) [a] [] q] X.env = (false, eval (.Call (.Name "set" p2) [a] [] q) X.env) :: starEach [] X.env := by exact star_plain rfl) :
    GE X cA Z (.Call (.Name "sorted" p) [.Call (.Name "set" p2) [a] [] q] [] pos) (eSortSet ma) := .mk fun S σ env sto ok eo Q pp pins s I => by
  refine Call_ (ld_blt I hg hm PyProof.Rows.boot_sorted ?_)
  refine PyProof.Rows.callWith_builtin1 (PyProof.Rows.args_cons ?_ nz) nz rfl
  refine Call_ (ld_blt I hg2 hm2 PyProof.Rows.boot_set ?_)
  have hA : wE X a σ S.H (fun v H1 => ∃ S1 s1 x, S1.H = H1 ∧ StoOk X.K cA S1 s1 ∧ Rep X.K cA S1 x v ∧ Post X.K cA S1 (fSortSet x s1) (VQ X.K cA Q) (fun c _ S' => Z c σ S'.H)) :=
    ha.then ok eo pp fun x s1 S1 vx g1 ok1 eo1 rx h1 => ⟨S1, s1, x, rfl, ok1, rx, h1⟩
  refine PyProof.Rows.callWith_type1 (PyProof.Rows.args_cons (thn (hA pins s I) fun v s1 ⟨x0, H1, I1, r1, S1, t1, x, e1, ok1, rx, h1⟩ => PyProof.Rows.args_nil ?_) na) na rfl
  subst e1
  unfold fSortSet at h1
  split at h1
  · rename_i xs hx
    split at h1
    · rename_i ns hn
      split at h1
      · rename_i hl
        obtain ⟨l, ws, rfl, q1, rs⟩ := lstOf.rep ok1 rx hx
        cases r1
        have ew := intsOf_rep rs hn
        subst ew
        obtain ⟨its, rv, pl, hz⟩ := I1.list (sqL q1)
        refine set_of_ints ns (I1.ok.hd hc) pl.isList (by simpa using rv.ints) (by unfold scanBound; omega) fun h' tk c R hcn kp => PyProof.Rows.args_nil ?_
        have I2 : Inv X pins σ S1.H { s1 with heap := h', toks := tk } := I1.kept kp
        refine sorted_set R (I1.ok.hd hc) (by omega) fun s2 p0 out c2 ms kp2 g2 o2 hp0 hob hints hup hmem hlen => ?_
        have em : ms = sortU ns := rise_eq hup (sortU_up ns) fun z => by rw [hmem, decide_eq_true_eq, sortU_mem]
        subst em
        have hz : ((sortU ns).map V.int).length ≤ sizeLine := by rw [List.length_map, hlen, sizeLine_eq]; omega
        have np := I2.hok.fresh hp0
        obtain ⟨a1, a2, a3, a4, a5⟩ := s2
        cases g2
        cases o2
        refine ⟨.ref p0, upd S1.H p0 (.lst ((sortU ns).map V.int)), Inv.call (s := { s1 with heap := h', toks := tk }) I2 (ch := []) (Un.laid kp2 hp0 np) (I2.hok.laid kp2 hp0 ⟨hz, _, c2, vals_of_ints hints, hob⟩) I2.bare (fun _ z => nomatch z), rfl, ?_⟩
        exact ret_lstV ok1 h1 (ints_rep _) np
      · exact h1.elim
    · exact h1.elim
  · exact h1.elim
end
end BB
/-! i in range(lo, hi) -/
namespace BB
open PySem PySem.Spec PyProof.Rows L2
def fInRng (x : DV) (as : List DV) (s : Sto) : Res DV := match x, as with
  | .int i, [.int lo, .int hi] => .ok (.bl (decide (lo ≤ i ∧ i < hi))) s
  | _, _ => .stuck
def eInRng (a : EM) (t : AM) : EM := fun env sto => (a env sto).bind fun x s1 => (t env s1).bind fun as s2 => fInRng x as s2
section
variable {X : Cx} {cA : CA} {Z : Nat → L2.St → Hp → Prop} {a e : Expr} {es : List Expr} {ma : EM} {t : AM} {p q pos : Pos}
theorem two_ints {K : PySem.W.Frag} {S : Sys} {i j : Int} {vs : List V} (r : RepL K cA S [.int i, .int j] vs) : vs = [.int i, .int j] := by
  obtain ⟨v, w, e1, h1, h2⟩ := r
  obtain ⟨v2, w2, e2, h3, h4⟩ := h2
  cases (show w2 = [] from h4)
  cases (show v = .int i from h1)
  cases (show v2 = .int j from h3)
  subst e2
  exact e1
theorem g_inRng (hm : X.mg "range" = none) (ha : GE X cA Z a ma) (ht : GA X cA Z (e :: es) t) (hg : Gl X "range" := by rfl)
    (he : starEach (e :: es) X.env = (false, eval e X.env) :: starEach es X.env := by exact star_plain rfl) (hpl : (backTo q (starEach es X.env)).any (·.1) = false := by exact plain_any rfl)
    (hk : behindInMarks .In (.Call (.Name "range" p) (e :: es) [] q) = false := by first | exact nomark _ | rfl) :
    GE X cA Z (.Compare a [.In] [.Call (.Name "range" p) (e :: es) [] q] pos) (eInRng ma t) := .mk fun S σ env sto ok eo Q h => by
  refine wE.of (pe_cmpR op_in_rng (peW a) (pe_callTy cr_range2 hg hm (by decide +kernel) (paW _) (by decide) (by decide) he hpl) hk) ?_
  refine ha.then ok eo h fun x s1 S1 vx g1 ok1 eo1 rx h1 => ?_
  refine ht.then ok1 eo1 h1 fun as s2 S2 vs g2 ok2 eo2 rs h2 => ?_
  have rx2 := rx.grow ok1 g2
  unfold fInRng at h2
  split at h2
  · rename_i i lo hi
    cases (show vx = .int i from rx2)
    cases two_ints rs
    refine ⟨lo, hi, rfl, fun p np => ⟨i, p, lo, hi, rfl, rfl, upd_same, ?_⟩⟩
    exact h2 (S2.addT p (.rng lo hi)) (Grow.addT ok2 np) (ok2.addT np) _ rfl
  · exact h2.elim
theorem gt_inRng (hm : X.mg "range" = none) (ha : GE X cA Z a ma) (ht : GA X cA Z (e :: es) t) (hg : Gl X "range" := by rfl)
    (he : starEach (e :: es) X.env = (false, eval e X.env) :: starEach es X.env := by exact star_plain rfl) (hpl : (backTo q (starEach es X.env)).any (·.1) = false := by exact plain_any rfl)
    (hk : behindInMarks .In (.Call (.Name "range" p) (e :: es) [] q) = false := by first | exact nomark _ | rfl) :
    GT X cA Z (.Compare a [.In] [.Call (.Name "range" p) (e :: es) [] q] pos) (tBl (eInRng ma t)) := .mk fun S σ env sto ok eo Q h => by
  refine wT.of (pt_cmpR op_in_rng (peW a) (pe_callTy cr_range2 hg hm (by decide +kernel) (paW _) (by decide) (by decide) he hpl) hk) ?_
  unfold tBl eInRng at h
  simp only [Res.bind_assoc] at h
  refine ha.then ok eo h fun x s1 S1 vx g1 ok1 eo1 rx h1 => ?_
  refine ht.then ok1 eo1 h1 fun as s2 S2 vs g2 ok2 eo2 rs h2 => ?_
  have rx2 := rx.grow ok1 g2
  unfold fInRng at h2
  split at h2
  · rename_i i lo hi
    cases (show vx = .int i from rx2)
    cases two_ints rs
    refine ⟨lo, hi, rfl, fun p np => ⟨i, p, lo, hi, rfl, rfl, upd_same, ?_⟩⟩
    exact ⟨_, rfl, h2 (S2.addT p (.rng lo hi)) (Grow.addT ok2 np) (ok2.addT np)⟩
  · exact h2.elim
end
end BB
/-! Lambdas with one parameter, handed to a def that calls them. -/
namespace BB
open PySem PySem.Spec PyProof.Rows L2 LamX

/-- the object at a is a lambda of these words -/
def LamO (q : Str) (params : Arguments) (body : Expr) (scope : Scope) (cl : List (Str × Addr)) (a c' : Addr) : HO :=
  .ext fun h => ∃ (pm ctv : Value), h.get? a = some (PySem.W.kla_obj "<lambda>" q params body scope cl pm c' ctv)
theorem upd_none' {H : Hp} {a b : Addr} {o : HO} (e : H b ≠ none) : upd H a o b ≠ none := by
  unfold upd
  split
  · simp
  · exact e
section
variable {X : Cx} {pins : List (Addr × Obj)} {σ : L2.St} {H : Hp} {s : Shared}
/-- the lambda is made -/
theorem lam_make3 {T : List (Addr × Str)} {c P : Addr} {params : Arguments} {body : Expr} {scope : Scope} {pos : Pos} {E : Value → Shared → Prop} {Q : Value → Shared → Prop} (I : Inv X pins σ H s) (TB : TabB X.base X.mg c P) (hcode : X.env.code = .ref c)
    (hm : (P, X.env.qual ++ "<lambda>") ∈ T) (hu : ∀ p ∈ T, p.1 = P → p.2 = X.env.qual ++ "<lambda>") (hT : Tabs T H) (hdef : defaultsOf params X.env = ([], [])) (hfree : ∀ y ∈ scope.names, y.2 = .free → ∃ c, X.env.cells.lookup y.1 = some c)
    (h : ∀ (f c' : Addr) (H1 : Hp) (s' : Shared), Inv X pins σ H1 s' → ExtN H H1 → (∀ b, H b ≠ none → H1 b ≠ none) → Tabs T H1 → H f = none →
      H1 f = some (LamO (X.env.qual ++ "<lambda>") params body scope (cloFrom X.env.cells scope.names []) f c') → H1 c' = some (CodeO c' (X.env.qual ++ "<lambda>")) → Q (.ref f) s') :
    wpAny (model X.prog X.w) X.A (eval (.Lambda params body scope pos) X.env) Q E s := by
  obtain ⟨ps, hP, ht, ha⟩ := hT _ hm
  refine PySem.W.kla_eval hdef ?_
  have bP : s.heap.BuiltinsAt X.mg P := TB.bm.keeps I.bk
  have hP' : s.heap.get? P = some { cls := .none, data := .fields ps } := I.hok P _ hP
  have lay : ∀ {H1 : Hp} {h' : Heap} {tk : Nat} {c' : Addr} {pm ctv : Value}, Inv X pins σ H1 { s with heap := h', toks := tk } →
      Inv X pins σ (upd H1 h'.objs.size (LamO (X.env.qual ++ "<lambda>") params body scope (cloFrom X.env.cells scope.names []) h'.objs.size c')) { s with heap := h'.push (PySem.W.kla_obj "<lambda>" (X.env.qual ++ "<lambda>") params body scope (cloFrom X.env.cells scope.names []) pm c' ctv), toks := tk } :=
    fun {H1 h' tk c' pm ctv} I1 => by
      have e : (h'.push (PySem.W.kla_obj "<lambda>" (X.env.qual ++ "<lambda>") params body scope (cloFrom X.env.cells scope.names []) pm c' ctv)).get? h'.objs.size = some (PySem.W.kla_obj "<lambda>" (X.env.qual ++ "<lambda>") params body scope (cloFrom X.env.cells scope.names []) pm c' ctv) := Heap.get?_push_size _ rfl
      exact I1.laid (a := h'.objs.size) (fun b u e => Heap.get?_push_of_some _ e) (Nat.le_refl _) ⟨⟨pm, ctv, e⟩, ⟨_, e⟩, fun h1 h2 ⟨p, t, z⟩ st => ⟨p, t, st _ z⟩⟩
  cases hc : codeAmong pos ps.toList with
  | none =>
    refine PySem.W.kla_makeFunction (mg := X.mg) (c := c) (P := P) (ps := ps) (closure_ok hfree) I.ok.glob (I.mod.glob.keeps I.bk) hcode (TB.code.keeps I.bk) hP' ht hc TB.gP bP fun c' ctv h' tk hx hge hlt hrec htb => ?_
    obtain ⟨c2, oc, vs, t, e2, hoc, hd, hv⟩ := hrec
    cases e2
    have nC : H c' = none := I.hok.fresh hge
    have I1 := inv_table (t' := tk) (more := #[rawInt pos.line, rawInt pos.col, .ref c']) (h' := h') I hP (fun b o hb e => hx b o hb e) htb hge ⟨oc, vs, t, hoc, hd, hv⟩
    have hE : ExtN H (upd (upd H P (.tbl (ps ++ #[rawInt pos.line, rawInt pos.col, .ref c']))) c' (CodeO c' (X.env.qual ++ "<lambda>"))) := fun b o e n => by
      rw [upd_ne (ne_of_none e nC), upd_ne (fun z => n ps (Option.some.inj (e.symm.trans (by rw [z]; exact hP))))]
      exact e
    have eL : (ps ++ #[rawInt pos.line, rawInt pos.col, .ref c']).toList = ps.toList ++ [rawInt pos.line, rawInt pos.col, .ref c'] := by simp
    have T1 : Tabs T (upd (upd H P (.tbl (ps ++ #[rawInt pos.line, rawInt pos.col, .ref c']))) c' (CodeO c' (X.env.qual ++ "<lambda>"))) := fun p hp => by
      by_cases hb : p.1 = P
      · rw [hu p hp hb, hb]
        refine ⟨_, by rw [upd_ne (ne_of_none hP nC), upd_same], by rw [eL]; exact PySem.TriplesOk_snoc _ _ _ _ ht, fun p' cv hcv => ?_⟩
        rw [eL] at hcv
        rcases among_app _ ht hcv with z | z
        · obtain ⟨c0, e1, e2⟩ := ha p' cv z
          exact ⟨c0, e1, hE _ _ e2 codeO_ne⟩
        · exact ⟨c', z, upd_same⟩
      · obtain ⟨ps', a1, a2, a3⟩ := hT p hp
        refine ⟨ps', by rw [upd_ne (ne_of_none a1 nC), upd_ne hb]; exact a1, a2, fun p' cv hcv => ?_⟩
        obtain ⟨c0, e1, e2⟩ := a3 p' cv hcv
        exact ⟨c0, e1, hE _ _ e2 codeO_ne⟩
    have nF := I1.hok.fresh (Nat.le_refl _)
    refine h h'.objs.size c' _ _ (lay I1) (fun b o e n => ?_) (fun b e => upd_none' (upd_none' (upd_none' e))) (T1.ext fun b o e => ?_) (I.hok.fresh (Nat.le_trans hge (Nat.le_of_lt hlt))) upd_same ?_
    · have e1 := hE b o e n
      exact (upd_ne (ne_of_none e1 nF)).trans e1
    · exact (upd_ne (ne_of_none e nF)).trans e
    · exact (upd_ne (Nat.ne_of_lt hlt)).trans upd_same
  | some cv =>
    obtain ⟨c', e, hco⟩ := ha pos cv hc
    subst e
    refine PySem.W.kla_makeFunctionHit (mg := X.mg) (c := c) (P := P) (ps := ps) (closure_ok hfree) I.ok.glob (I.mod.glob.keeps I.bk) hcode (TB.code.keeps I.bk) hP' ht hc bP fun ctv h' tk hx hsz => ?_
    have I1 : Inv X pins σ H { s with heap := h', toks := tk } := I.kept hx
    have nF : H h'.objs.size = none := I1.hok.fresh (Nat.le_refl _)
    refine h h'.objs.size c' _ _ (lay I1) (fun b o e n => ?_) (fun b e => upd_none' e) (hT.ext fun b o e => ?_) nF upd_same ?_
    · exact (upd_ne (ne_of_none e nF)).trans e
    · exact (upd_ne (ne_of_none e nF)).trans e
    · exact (upd_ne (ne_of_none hco nF)).trans hco
end
/-! ### a lambda's names: one parameter, captured ones, globals -/
structure LamS1 (sc scope : Scope) (p : Str) : Prop where
  kind : scope.kind = .function
  co : scope.isCoroutine = false
  gen : scope.isGenerator = false
  own : ∀ y ∈ scope.names, y.2 ≠ .cell
  par : scope.names.lookup p = some .local
  loc : ∀ y ∈ scope.names, y.2 = .local → y.1 = p
  free : ∀ y ∈ scope.names, y.2 = .free → sc.names.lookup y.1 = some .cell ∨ sc.names.lookup y.1 = some .free
def lamS1B (sc scope : Scope) (p : Str) : Bool :=
  decide (scope.kind = .function) && !scope.isCoroutine && !scope.isGenerator && decide (scope.names.lookup p = some .local) && scope.names.all fun y => !decide (y.2 = .cell) && (!decide (y.2 = .local) || decide (y.1 = p)) && (!decide (y.2 = .free) || decide (sc.names.lookup y.1 = some .cell) || decide (sc.names.lookup y.1 = some .free))
theorem lamS1_by {sc scope : Scope} {p : Str} (h : lamS1B sc scope p = true) : LamS1 sc scope p := by
  unfold lamS1B at h
  simp only [Bool.and_eq_true, Bool.or_eq_true, Bool.not_eq_true', decide_eq_true_eq, decide_eq_false_iff_not, List.all_eq_true] at h
  obtain ⟨⟨⟨⟨h1, h2⟩, h3⟩, h5⟩, h4⟩ := h
  refine ⟨h1, h2, h3, fun y hy => (h4 y hy).1.1, h5, fun y hy e => ?_, fun y hy e => ?_⟩
  · rcases (h4 y hy).1.2 with z | z
    · exact absurd e z
    · exact z
  · rcases (h4 y hy).2 with (z | z) | z
    · exact absurd e z
    · exact .inl z
    · exact .inr z
theorem LamS1.has {X : Cx} {scope : Scope} {p : Str} (L : LamS1 X.env.scope scope p) (ok : X.Ok) : ∀ y ∈ scope.names, y.2 = .free → ∃ c, X.env.cells.lookup y.1 = some c := fun y hy e => by
  rcases L.free y hy e with k | k
  · exact ok.has _ (.inl k)
  · exact ok.has _ (.inr k)
theorem nd_inj {α : Type} : ∀ {l : List α} {i j : Nat} {x : α}, l.Nodup → l[i]? = some x → l[j]? = some x → i = j
  | [], i, j, x, _, h, _ => by simp at h
  | y :: l, 0, 0, x, _, _, _ => rfl
  | y :: l, i + 1, j + 1, x, nd, h1, h2 => by
    simp only [List.getElem?_cons_succ] at h1 h2
    rw [nd_inj (List.nodup_cons.mp nd).2 h1 h2]
  | y :: l, 0, j + 1, x, nd, h1, h2 => by
    simp only [List.getElem?_cons_succ, List.getElem?_cons_zero, Option.some.injEq] at h1 h2
    subst h1
    exact absurd (List.mem_of_getElem? h2) (List.nodup_cons.mp nd).1
  | y :: l, i + 1, 0, x, nd, h1, h2 => by
    simp only [List.getElem?_cons_succ, List.getElem?_cons_zero, Option.some.injEq] at h1 h2
    subst h2
    exact absurd (List.mem_of_getElem? h1) (List.nodup_cons.mp nd).1
section
variable {X : Cx} {pins : List (Addr × Obj)} {σ : L2.St} {H HZ : Hp} {s s1 : Shared}
/-- the lambda's body begins -/
theorem lam1_start {A : Around} {outer : List PySem.Env} {E : XK} {scope : Scope} {f c' : Addr} {h₁ : Heap} {tk : Nat} {p : Str} {ip : Nat} {u : Value} {v : V} (I : Inv X pins σ H s) (L : LamS1 X.env.scope scope p) (hnd : X.N.Nodup) (hip : X.N[ip]? = some p) (rv : RelV v u)
    (e0 : Env0 X.prog X.w X.K X.mg X.base A outer s1 HZ) (hd : A.handled = none)
    (un : Un (frs X.stack) [] H HZ s.heap s1.heap) (hns : h₁.Ns s1.heap.objs.size fun y => ([(p, u)] : List (Str × Value)).reverse.lookup y) (kp : ∀ b o, s1.heap.get? b = some o → h₁.get? b = some o) :
    Inv (lamCx X A outer s1 HZ E scope f c') [] (σ.set ip (some v)) HZ { s1 with heap := h₁, toks := tk } := by
  have hfree := L.has I.ok
  have cm : ∀ {y c}, (cloFrom X.env.cells scope.names []).lookup y = some c → X.env.cells.lookup y = some c := fun {y c} e => by
    rcases cloFrom_mem (PySem.mem_of_lookup e) with hm | ⟨h1, h2⟩
    · cases hm
    · obtain ⟨c1, hc⟩ := hfree _ h1 rfl
      have hc : X.env.cells.lookup y = some c1 := hc
      have e2 : c = c1 := by
        rw [h2, hc] <;> rfl
      rw [e2]
      exact hc
  have look : ∀ {y}, scope.names.lookup y = some .free → ∃ c, (cloFrom X.env.cells scope.names []).lookup y = some c := fun {y} hl => by
    have hy : (y, NameKind.free) ∈ scope.names := PySem.mem_of_lookup hl
    exact mem_lookup (cloFrom_has (cells := X.env.cells) (acc := []) hy)
  have cellK : ∀ {c : Addr} {v : Option Value}, H c = none → s.heap.IsCell c v → h₁.IsCell c v := fun {c v} n ⟨o, ho, hd⟩ => by
    obtain ⟨sl, q⟩ := un.any ho n (by simp)
    exact ⟨_, kp _ _ q, hd⟩
  have noA : ∀ b : Addr, b ∉ (lamCx X A outer s1 HZ E scope f c').ex := fun b z => absurd (show b ∈ ([] : List Addr) from z) (by simp)
  refine ⟨⟨e0.mod, L.kind, rfl, rfl, Nat.le_refl _, fun y z c e1 e2 => I.ok.inj y z c (cm e1) (cm e2), fun y hy => ?_, fun y c z _ => ?_, fun _ => hd, Around.frames_deeper e0.frames, .inr ⟨rfl, rfl⟩, fun b z => absurd z (noA b), e0.bs, e0.bsz, fun b _ _ => noA b,
      fun b z => absurd z (noA b), e0.funs, e0.frf⟩,
    rfl, e0.bare, Un.kept kp, ⟨_, hns, fun i y w e1 e2 e3 => ?_⟩, fun y c e => ?_, e0.hok.fresh (Nat.le_refl _), fun y c e => ?_, fun q hq => absurd (show q ∈ ([] : List (Addr × Obj)) ++ [] from hq) (by simp), e0.hok.kept kp, by rw [List.length_set]; exact I.len⟩
  · have hy : scope.names.lookup y = some .cell ∨ scope.names.lookup y = some .free := hy
    rcases hy with hy | hy
    · exact absurd rfl (L.own _ (PySem.mem_of_lookup hy))
    · exact look hy
  · have z : false = true := z
    cases z
  · have e3 : Vis scope y := e3
    have e1 : X.N[i]? = some y := e1
    have ne : scope.names.lookup y ≠ some .local → i ≠ ip := fun q z => by
      subst z
      rw [hip] at e1
      cases e1
      exact q L.par
    rcases e3 with k | k | k
    · have ey : y = p := L.loc _ (PySem.mem_of_lookup k) rfl
      subst ey
      have ei : i = ip := nd_inj hnd e1 hip
      subst ei
      have hl : i < σ.length := by rw [I.len]; exact (List.getElem?_eq_some_iff.mp e1).1
      rw [List.getElem?_set_self hl] at e2
      cases e2
      exact ⟨u, rv, .inl ⟨k, by simp [List.lookup]⟩⟩
    · exact absurd rfl (L.own _ (PySem.mem_of_lookup k))
    · rw [List.getElem?_set_ne (fun z => ne (by rw [k]; simp) z.symm)] at e2
      obtain ⟨m, hn, hl⟩ := I.loc
      have hvis : Vis X.env.scope y := (L.free _ (PySem.mem_of_lookup k) rfl).elim (fun k => .inr (.inl k)) (fun k => .inr (.inr k))
      obtain ⟨w', r, q⟩ := hl i y w e1 e2 hvis
      obtain ⟨c2, h2⟩ := look k
      refine ⟨w', r, .inr ⟨.inr k, c2, h2, ?_⟩⟩
      have c1 := cm h2
      rcases q with ⟨k', _⟩ | ⟨_, c3, e', z⟩
      · have k' : X.env.scope.names.lookup y = some .local := k'
        rcases L.free _ (PySem.mem_of_lookup k) rfl with k2 | k2 <;> rw [show X.env.scope.names.lookup y = _ from k2] at k' <;> cases k'
      · rw [c1] at e'
        cases e'
        exact cellK (I.freeC y _ c1) z
  · obtain ⟨w', z⟩ := I.cell y c (cm e)
    exact ⟨w', cellK (I.freeC y c (cm e)) z⟩
  · obtain ⟨v, o, ho, hd⟩ := I.cell y c (cm e)
    exact un.free c o ho (I.freeC y c (cm e)) (by simp)
/-- f(u), in a def that got the lambda f: Y is that def's context, entered at s -/
theorem lam1_run {Y : Cx} {pinsZ : List (Addr × Obj)} {σZ : L2.St} {E : XK} {scope : Scope} {params : Arguments} {body : Expr} {f c' : Addr} {p : Str} {ip k : Nat} {u : Value} {v : V} {Q : VK} (hY : Y.prog = X.prog ∧ Y.w = X.w ∧ Y.K = X.K ∧ Y.mg = X.mg ∧ Y.base = X.base ∧ Y.outer = X.stack ∧ Y.ex = [] ∧ Y.H_0 = H ∧ Y.s_0 = s)
    (I : Inv X pins σ H s) (L : LamS1 X.env.scope scope p) (hnd : X.N.Nodup) (hip : X.N[ip]? = some p) (IZ : Inv Y pinsZ σZ HZ s1) (hd0 : Y.A.handled = none) (hdp : Y.A.depth < recursionLimit)
    (hf : HZ f = some (LamO (X.env.qual ++ "<lambda>") params body scope (cloFrom X.env.cells scope.names []) f c')) (hc : HZ c' = some (CodeO c' (X.env.qual ++ "<lambda>")))
    (hbind : ∀ (q : Str) (cl : List (Str × Addr)) (pm cv ctv u : Value), bindArgs (PySem.W.kla_fn "<lambda>" q params body scope cl pm cv ctv) ⟨[u], []⟩ = pure [(p, u)])
    (hx : ∀ e s', L2.CX X.prog X.w Y.stack HZ s1 E e s' → Y.xe e s') (rv : RelV v u)
    (hbody : wE (lamCx X Y.A Y.stack s1 HZ E scope f c') body (σ.set ip (some v)) HZ Q) :
    wpAny (model Y.prog Y.w) Y.A (call (.ref f) [u]) (EP Y pinsZ σZ Q) Y.xe s1 := by
  obtain ⟨y1, y2, y3, y4, y5, y6, y7, y8, y9⟩ := hY
  obtain ⟨⟨pm, ctv, of1⟩, _, _⟩ := IZ.hok f _ hf
  have un : Un (frs X.stack) [] H HZ s.heap s1.heap := by
    have := IZ.base
    rw [y7, y8, y9] at this
    unfold Cx.fs at this
    rw [y6] at this
    exact this
  obtain ⟨⟨oc, vs, t, hoc, hdc, hvc⟩, _, _⟩ := IZ.hok c' _ hc
  have e0 : Env0 X.prog X.w X.K X.mg X.base Y.A Y.stack s1 HZ := by
    have := IZ.env0
    rw [y1, y2, y3, y4, y5] at this
    exact this
  rw [y1, y2]
  have rc : codeAny (model X.prog X.w) Y.A (.call (.ref f) ⟨[u], []⟩) (CR (L2.CX X.prog X.w) Y.stack X.prog X.w HZ s1 Q E) s1 := by
    refine PySem.W.kla_callFunE hdp of1 rfl L.co L.gen rfl ⟨c', oc, vs, t, rfl, hoc, hdc, hvc⟩ ?_
    rw [hbind]
    refine wpAny_pure (wpAny_newFunctionEnv (fun y hy => L.own y hy) (fun y hy => ?_) (fun h₁ hns hsb => ⟨IZ.nolimit.fresh _ hsb, ?_⟩) L.kind)
    · have ey : y = (p, u) := by simpa using hy
      rw [ey]
      exact L.par
    show codeAny _ _ (.expr body (lamEnv X scope s1.heap.objs.size f c')) _ _
    have kp : ∀ b o, s1.heap.get? b = some o → h₁.get? b = some o := fun b o e => hsb.extBut b o (Nat.ne_of_lt (Heap.lt_size e)) (Heap.get?_push_of_some _ e)
    have J : Inv (lamCx X Y.A Y.stack s1 HZ E scope f c') [] (σ.set ip (some v)) HZ { s1 with heap := h₁, toks := s1.toks + ([(p, u)] : List (Str × Value)).length } :=
      lam1_start I L hnd hip rv e0 hd0 un hns kp
    refine PySem.W.kla_codeExpr (wpAny_mono (hbody [] _ J) (fun v s' hq => ?_) fun e s' hq => hq)
    obtain ⟨w', H', J', rv, q⟩ := hq
    exact ⟨w', H', J'.os, J'.bare, J'.base, J'.hok, rv, q⟩
  refine wpAny_call (codeAny_mono rc fun r s' hq => ?_)
  cases r with
  | error e => exact hx e s' hq
  | ok fl =>
    cases fl with
    | ret u =>
      have hq : CE Y.stack Y.prog Y.w HZ s1 Q u s' := by rw [y1, y2]; exact hq
      exact IZ.after hq
    | next => exact False.elim hq
    | brk => exact False.elim hq
    | cont => exact False.elim hq
end
end BB
/-! A def that calls the lambda that it got; the call of such a def with a lambda. -/
namespace BB
open PySem PySem.Spec PyProof.Rows L2 LamX

/-- what the lambdas do -/
abbrev AF := Nat → DV → Sto → Res DV
def eAsk (I : AF) (i : Nat) (t : AM) : EM := fun env sto => match env[i]? with
  | some (some (.loc n)) => match sto[n]? with
    | some (.fn _) => (t env sto).bind fun ds s2 => match s2[n]? with
      | some (.fn k) => match ds with
        | [x] => I k x s2
        | _ => .stuck
      | _ => .stuck
    | _ => .stuck
  | _ => .stuck
/-- a context in which the store's lambdas can be called, as I tells -/
structure AskAt (X : Cx) (cA : CA) (Z : Nat → L2.St → Hp → Prop) (I : AF) : Prop where
  at_ : ∀ S sto n k pins σ s, StoOk X.K cA S sto → sto[n]? = some (.fn k) → Inv X pins σ S.H s → PySem.W.FnAt (S.r n) s.heap
  run : ∀ S sto n k pins σ s d v u Q, StoOk X.K cA S sto → sto[n]? = some (.fn k) → Inv X pins σ S.H s → Rep X.K cA S d v → RelV v u → Post X.K cA S (I k d sto) (VQ X.K cA Q) (fun c _ S' => Z c σ S'.H) →
    wpAny (model X.prog X.w) X.A (call (.ref (S.r n)) [u]) (EP X pins σ Q) X.xe s
section
variable {X : Cx} {cA : CA} {Z : Nat → L2.St → Hp → Prop} {I : AF} {a : Str} {e : Expr} {t : AM} {p1 p2 : Pos}
theorem g_ask (i : Nat) (hA : AskAt X cA Z I) (ha : GA X cA Z [e] t) (hN : X.N[i]? = some a := by rfl) (hv : Vis X.env.scope a := by first | exact Or.inl rfl | exact Or.inr (Or.inl rfl) | exact Or.inr (Or.inr rfl)) (hd : (a == ("__debug__" : Str)) = false := by decide)
    (hcd : (a == ("__classdict__" : Str)) = false := by decide) (he : starEach [e] X.env = (false, eval e X.env) :: starEach [] X.env := by exact star_plain rfl) : GE X cA Z (.Call (.Name a p1) [e] [] p2) (eAsk I i t) := .mk fun S σ env sto ok eo Q p pins s Iv => by
  unfold eAsk at p
  split at p
  case h_2 => exact p.elim
  rename_i n e1
  split at p
  case h_2 => exact p.elim
  rename_i k0 e2
  obtain ⟨v, e3, hn, rfl⟩ := eo.2 i _ e1
  refine wpAny_Call_Name_kw (thn ((pe_var (pos := p1) (i := i) hN hv hd hcd).run pins s σ S.H (fun v H1 => v = .ref (S.r n) ∧ H1 = S.H) Iv ⟨.ref (S.r n), e3, rfl, rfl⟩) fun u s1 ⟨v, H1, I1, r1, q1⟩ => ?_)
  obtain ⟨ev, eH⟩ := q1
  subst ev
  rw [eH] at I1
  obtain rfl : u = Value.ref (S.r n) := r1
  have hA2 : wA X [e] σ S.H (fun vs H' => ∃ ds s2 S2, S2.H = H' ∧ Grow S S2 ∧ StoOk X.K cA S2 s2 ∧ RepL X.K cA S2 ds vs ∧ Post X.K cA S2 (match s2[n]? with
      | some (.fn k) => match ds with
        | [x] => I k x s2
        | _ => .stuck
      | _ => .stuck) (VQ X.K cA Q) (fun c _ S' => Z c σ S'.H)) := ha.then ok eo p fun ds s2 S2 vs g2 ok2 eo2 rs h2 => ⟨ds, s2, S2, rfl, g2, ok2, rs, h2⟩
  refine PySem.W.callWith_F (first := []) (hA.at_ S sto n k0 pins σ s1 ok e2 I1) (thn (hA2 p2 pins s1 I1) fun us s2 ⟨vs, H2, I2, rvs, ds, s2', S2, eH2, g2, ok2, rs, h2⟩ => ?_) he rfl
  subst eH2
  split at h2
  case h_2 => exact h2.elim
  rename_i k e4
  split at h2
  case h_2 => exact h2.elim
  rename_i x
  obtain ⟨w, rfl, rw_⟩ := one_rep rs
  obtain ⟨u, rfl, ru⟩ := rvs.one
  rw [← g2.r n hn]
  exact ⟨hA.at_ S2 s2' n k pins σ s2 ok2 e4 I2, hA.run S2 s2' n k pins σ s2 x w u Q ok2 e4 I2 rw_ ru h2⟩
end
/-! ### the def that is handed a lambda -/
abbrev CA.with (cA : CA) (J : Sys → Prop) (mono : ∀ S S', J S → Grow S S' → J S') (lam : Nat → Addr → Hp → Prop) (lmono : ∀ k a H H', lam k a H → (∀ b φ, H b = some (.ext φ) → H' b = some (.ext φ)) → lam k a H') : CA := ⟨cA.fn, cA.tabs, J, mono, lam, lmono⟩
/-- its body, where its lambdas may be called -/
abbrev BodyAsk (P : Program) (w : World) (K : PySem.W.Frag) (mg : Str → Option Value) (base : Heap) (cA : CA) (N : List Str) (qual : Str) (st : Stmt) (k : Nat) (f : Addr) (I : AF) (m : SM) : Prop :=
  ∀ (cdv : Value) (A : Around) (outer : List PySem.Env) (s : Shared) (H : Hp) (E : XK), Room k (A.deeper (envOfC qual (defScope st) s.heap.objs.size f cdv)) →
    (∀ pn xe W Z, Takes ((cxOf (L2.CX P w) P w K mg base N qual (defScope st) f cdv A outer s H E).tr pn xe) W → (∀ c σ H, Z c σ H → W (.ref (cA c)) none σ H) → AskAt ((cxOf (L2.CX P w) P w K mg base N qual (defScope st) f cdv A outer s H E).tr pn xe) cA Z I) →
      GSs (cxOf (L2.CX P w) P w K mg base N qual (defScope st) f cdv A outer s H E) cA (ZE cA E) (defBody st) m
structure CalleeA (P : Program) (w : World) (K : PySem.W.Frag) (mg : Str → Option Value) (base : Heap) (cA : CA) (x : Str) (k : Nat) (n : Nat) (N : List Str) (m : AF → SM) : Prop where
  ex : ∃ st ps, DefAt K mg x st ps ∧ ps.length = n ∧ FnScope N ps (defScope st) ∧ ∀ J mono lam lmono (I : AF) (f : Addr), BodyAsk P w K mg base (cA.with J mono lam lmono) N x st k f I (m I)
def Res.kill (n : Nat) : Res DV → Res DV
  | .ok d s => .ok d (s.set n .dead)
  | .exc c s => .exc c (s.set n .dead)
  | .stuck => .stuck
/-- x(lambda p: .., ..) -/
def eCallLam (T : AF → TF) (ip : Nat) (mb : EM) (t : AM) : EM := fun env sto => (t env (sto ++ [.dead])).bind fun ds s => (T (fun _ d st => mb (env.set ip (some d)) st) (.loc sto.length :: ds) (s.set sto.length (.fn 0))).kill sto.length
section
variable {K : PySem.W.Frag} {cA : CA} {S : Sys} {sto : Sto} {f : Addr} {n : Nat}
/-- a lambda is made: known as dead, so far -/
theorem mk_dead {H1 : Hp} {φ : Heap → Prop} (ok : StoOk K cA S sto) (eN : ExtN S.H H1) (hk : ∀ b, S.H b ≠ none → H1 b ≠ none) (hT : Tabs cA.tabs H1) (f0 : S.H f = none) (f1 : H1 f = some (.ext φ)) :
    Grow S { S with H := H1, r := fun n => if n = S.N then f else S.r n, N := S.N + 1 } ∧ StoOk K cA { S with H := H1, r := fun n => if n = S.N then f else S.r n, N := S.N + 1 } (sto ++ [.dead]) := by
  have nt : ∀ n, n < S.N → ∀ o, S.H (S.r n) = some o → ∀ ps, o ≠ .tbl ps := fun n hn o e ps z => by
    subst z
    rcases ok.kind hn with ⟨_, e2⟩ | ⟨_, e2⟩ | ⟨_, e2⟩ | ⟨_, _, e2⟩ | ⟨_, _, _, e2⟩ | ⟨_, e2⟩ <;> rw [e2] at e <;> cases e
  have g : Grow S { S with H := H1, r := fun n => if n = S.N then f else S.r n, N := S.N + 1 } := by
    refine ⟨Nat.le_succ _, fun n hn => if_neg (by omega), fun _ h => h, fun a o h nt _ => eN a o h nt, fun n h1 h2 => ?_, fun n hn => hk _ (ok.live hn), fun _ h => .inl h, fun a o u h => eN a _ h (fun _ z => nomatch z), fun _ h => h, fun _ h => h, hk⟩
    have h2 : n < S.N + 1 := h2
    have e : n = S.N := by omega
    show S.H (if n = S.N then f else S.r n) = none
    rw [if_pos e]; exact f0
  refine ⟨g, ?_, ?_, ?_, ?_, ?_, ?_, ?_, ?_⟩
  · show (sto ++ [DO.dead]).length = S.N + 1
    simp [ok.len]
  · intro n hn h
    have hn : n < S.N + 1 := hn
    have h : S.U (if n = S.N then f else S.r n) := h
    split at h
    · exact (ok.fs f h f0).elim
    · rw [List.getElem?_append_left (by rw [ok.len]; omega)]; exact ok.nf n (by omega) h
  · intro n m hn hm e
    have hn : n < S.N + 1 := hn
    have hm : m < S.N + 1 := hm
    have e : (if n = S.N then f else S.r n) = (if m = S.N then f else S.r m) := e
    split at e <;> split at e
    · omega
    · exact absurd e.symm (ok.nep f0 (by omega))
    · exact absurd e (ok.nep f0 (by omega))
    · exact ok.inj n m (by omega) (by omega) e
  · intro n x h
    show ORep K cA _ x (H1 (if n = S.N then f else S.r n))
    by_cases hn : n = S.N
    · rw [if_pos hn, f1]
      rw [hn, ← ok.len, List.getElem?_append_right (Nat.le_refl _)] at h
      simp at h
      subst h
      exact .inr (.inr (.inr ⟨_, rfl⟩))
    · have hl : n < sto.length := by
        have := (List.getElem?_eq_some_iff.mp h).1
        simp at this
        rw [ok.len] at this ⊢; omega
      rw [List.getElem?_append_left hl] at h
      rw [if_neg hn]
      have q := ORep.keep (g.keeps ok) _ _ (ok.ob n x h)
      have e : H1 (S.r n) = S.H (S.r n) := by
        cases e : S.H (S.r n) with
        | none => exact absurd e (ok.live (ok.lt h))
        | some u => exact eN _ _ e (nt n (ok.lt h) u e)
      rw [e]
      exact q
  · exact fun a h => hk a (ok.fs a h)
  · exact hT
  · exact cA.mono _ _ ok.j g
  · intro n k h
    by_cases hn : n < sto.length
    · rw [List.getElem?_append_left hn] at h
      exact ok.fng g h
    · have hl := (List.getElem?_eq_some_iff.mp h).1
      simp at hl
      have e : n = sto.length := by omega
      subst e
      simp at h
/-- .. then known as a lambda -/
theorem to_fn {J : Sys → Prop} {mono : ∀ S S', J S → Grow S S' → J S'} {lam : Nat → Addr → Hp → Prop} {lmono : ∀ k a H H', lam k a H → (∀ b φ, H b = some (.ext φ) → H' b = some (.ext φ)) → lam k a H'} {φ : Heap → Prop}
    (ok : StoOk K cA S sto) (hF : ∀ k a H, ¬ cA.lam k a H) (hn : n < S.N) (h1 : S.H (S.r n) = some (.ext φ)) (hl : lam 0 (S.r n) S.H) (hj : J S) : StoOk K (cA.with J mono lam lmono) S (sto.set n (.fn 0)) where
  len := by simp [ok.len]
  nf := fun m hm h => by
    by_cases e : n = m
    · subst e
      exact ⟨.fn 0, List.getElem?_set_self (by rw [ok.len]; exact hn), .inr ⟨0, rfl⟩⟩
    · rw [List.getElem?_set_ne e]; exact ok.nf m hm h
  inj := ok.inj
  ob := fun m x h => by
    by_cases e : n = m
    · subst e
      rw [List.getElem?_set_self (by rw [ok.len]; exact hn)] at h
      cases h
      exact ⟨φ, h1⟩
    · rw [List.getElem?_set_ne e] at h
      exact ok.ob m x h
  fs := ok.fs
  tb := ok.tb
  j := hj
  fnk := fun m k h => by
    by_cases e : n = m
    · subst e
      rw [List.getElem?_set_self (by rw [ok.len]; exact hn)] at h
      cases h
      exact hl
    · rw [List.getElem?_set_ne e] at h
      exact (hF _ _ _ (ok.fnk m k h)).elim
/-- .. and forgotten -/
theorem of_fn {J : Sys → Prop} {mono : ∀ S S', J S → Grow S S' → J S'} {lam : Nat → Addr → Hp → Prop} {lmono : ∀ k a H H', lam k a H → (∀ b φ, H b = some (.ext φ) → H' b = some (.ext φ)) → lam k a H'} {φ : Heap → Prop}
    (ok : StoOk K (cA.with J mono lam lmono) S sto) (hn : n < S.N) (h1 : S.H (S.r n) = some (.ext φ)) (hl : ∀ k a, lam k a S.H → a = S.r n) (hj : J S → cA.J S) : StoOk K cA S (sto.set n .dead) where
  len := by simp [ok.len]
  nf := fun m hm h => by
    by_cases e : n = m
    · subst e
      exact ⟨.dead, List.getElem?_set_self (by rw [ok.len]; exact hn), .inl rfl⟩
    · rw [List.getElem?_set_ne e]; exact ok.nf m hm h
  inj := ok.inj
  ob := fun m x h => by
    by_cases e : n = m
    · subst e
      rw [List.getElem?_set_self (by rw [ok.len]; exact hn)] at h
      cases h
      exact .inr (.inr (.inr ⟨_, h1⟩))
    · rw [List.getElem?_set_ne e] at h
      exact ok.ob m x h
  fs := ok.fs
  tb := ok.tb
  j := hj ok.j
  fnk := fun m k h => by
    by_cases e : n = m
    · subst e
      rw [List.getElem?_set_self (by rw [ok.len]; exact hn)] at h
      cases h
    · rw [List.getElem?_set_ne e] at h
      exact absurd (ok.inj n m hn (ok.lt h) (hl k _ (ok.fnk m k h)).symm) e
end
/-- what a maker of lambdas knows of its own code object -/
structure LamMk (X : Cx) (cA : CA) : Prop where
  ex : ∃ c P, TabB X.base X.mg c P ∧ X.env.code = .ref c ∧ (P, X.env.qual ++ "<lambda>") ∈ cA.tabs ∧ ∀ p ∈ cA.tabs, p.1 = P → p.2 = X.env.qual ++ "<lambda>"
section
variable {X : Cx} {cA : CA} {Z : Nat → L2.St → Hp → Prop} {x p : Str} {k kl n ip : Nat} {N : List Str} {m : AF → SM} {params : Arguments} {body : Expr} {scope : Scope} {es : List Expr} {t : AM} {mb : EM} {np lpos pos : Pos}
theorem g_callLam (ip : Nat) (p : Str) (hz : GZ X cA Z) (M : LamMk X cA) (C : CalleeA X.prog X.w X.K X.mg X.base cA x k n N m) (hr : Room (k + 1) X.A) (hr2 : Room (kl + 2) X.A) (hF : ∀ k a H, ¬ cA.lam k a H) (hnd : X.N.Nodup) (L : LamS1 X.env.scope scope p)
    (hbody : ∀ J mono lam lmono (A : Around) (outer : List PySem.Env) (s : Shared) (H : Hp) (E : XK) (f c' : Addr), Room kl (A.deeper (lamEnv X scope s.heap.objs.size f c')) → GE (lamCx X A outer s H E scope f c') (cA.with J mono lam lmono) (ZE (cA.with J mono lam lmono) E) body mb)
    (ha : GA X cA Z es t) (hip : X.N[ip]? = some p := by rfl)
    (hbind : ∀ (q : Str) (cl : List (Str × Addr)) (pm cv ctv u : Value), bindArgs (PySem.W.kla_fn "<lambda>" q params body scope cl pm cv ctv) ⟨[u], []⟩ = pure [(p, u)] := by intro _ _ _ _ _ _; rfl)
    (hdef : defaultsOf params X.env = ([], []) := by rfl) (hg : Gl X x := by rfl) (hdb : (x == ("__debug__" : Str)) = false := by decide)
    (hpl : (backTo pos (starEach es X.env)).any (·.1) = false := by exact plain_any rfl) :
    GE X cA Z (.Call (.Name x np) (.Lambda params body scope lpos :: es) [] pos) (eCallLam (fun I => runT n N (m I)) ip mb t) := .mk fun S σ env sto ok eo Q pq pins s I => by
  obtain ⟨c, P, TB, hcode, hmT, hu⟩ := M.ex
  obtain ⟨st, ps, D, hl, Sc, hb⟩ := C.ex
  obtain ⟨g, fd, F, hm, hbd⟩ := D.ex
  have he : starEach (.Lambda params body scope lpos :: es) X.env = (false, eval (.Lambda params body scope lpos) X.env) :: starEach es X.env := star_plain rfl
  refine wpAny_Call_Name_kw (ld_glob I hg hm ?_ hdb)
  refine PySem.W.callWith_K (h₀ := X.base) I.ok.mod.kin F.kp ?_ he hpl
  rw [he]
  show wpAny _ _ (spliced ((false, eval (.Lambda params body scope lpos) X.env) :: backTo pos (starEach es X.env))) _ _ s
  refine Calls.spliced_cons (lam_make3 I TB hcode hmT hu ok.tb hdef (L.has I.ok) fun f c' H1 s1 I1 eN hk T1 f0 f1 c1 => ?_)
  obtain ⟨gm, okm⟩ := mk_dead ok eN hk T1 f0 f1
  have eom := eo.grow ok gm
  have n0 : sto.length < S.N + 1 := by rw [ok.len]; exact Nat.lt_succ_self _
  have hA : wA X es σ H1 (fun vs H' => ∃ ds s2 S2, S2.H = H' ∧ Grow { S with H := H1, r := fun n => if n = S.N then f else S.r n, N := S.N + 1 } S2 ∧ StoOk X.K cA S2 s2 ∧ EnvOk X.K cA S2 env σ ∧ RepL X.K cA S2 ds vs ∧
      Post X.K cA S2 ((runT n N (m (fun _ d st => mb (env.set ip (some d)) st)) (.loc sto.length :: ds) (s2.set sto.length (.fn 0))).kill sto.length) (VQ X.K cA Q) (fun c _ S' => Z c σ S'.H)) :=
    ha.then okm eom (Post.grow pq gm) fun ds s2 S2 vs g2 ok2 eo2 rs h2 => ⟨ds, s2, S2, rfl, g2, ok2, eo2, rs, h2⟩
  refine thn (hA pos pins s1 I1) fun us s2 ⟨vs, H2, I2, rvs, ds, s2', S2, eH2, g2, ok2, eo2, rs, h2⟩ => ⟨I2.kIn, ?_⟩
  subst eH2
  have r2 : S2.r sto.length = f := by
    rw [g2.r sto.length n0]
    exact if_pos ok.len
  have n2 : sto.length < S2.N := Nat.lt_of_lt_of_le n0 g2.n
  have f2 := g2.ext f _ f1
  have c2 := g2.ext c' _ c1
  obtain ⟨oc, od, kV, doc, pm, an, cdv, ct, osl, rfl, lk, hcd⟩ := F.ex
  -- the callee's world
  have monoJ : ∀ S S', (cA.J S ∧ Grow S2 S) → Grow S S' → (cA.J S' ∧ Grow S2 S') := fun S S' h g => ⟨cA.mono _ _ h.1 g, h.2.trans g⟩
  have lm : ∀ (k : Nat) (a : Addr) (H H' : Hp), (a = f ∧ H f = some (LamO (X.env.qual ++ "<lambda>") params body scope (cloFrom X.env.cells scope.names []) f c') ∧ H c' = some (CodeO c' (X.env.qual ++ "<lambda>"))) → (∀ b φ, H b = some (.ext φ) → H' b = some (.ext φ)) →
      (a = f ∧ H' f = some (LamO (X.env.qual ++ "<lambda>") params body scope (cloFrom X.env.cells scope.names []) f c') ∧ H' c' = some (CodeO c' (X.env.qual ++ "<lambda>"))) := fun k a H H' ⟨h1, h3, h4⟩ he => ⟨h1, he _ _ h3, he _ _ h4⟩
  have ok3 : StoOk X.K (cA.with (fun S => cA.J S ∧ Grow S2 S) monoJ _ lm) S2 (s2'.set sto.length (.fn 0)) := to_fn ok2 hF n2 (by rw [r2]; exact f2) ⟨r2, f2, c2⟩ ⟨ok2.j, Grow.refl ok2⟩
  have back : ∀ {S' : Sys} {s' : Sto}, Grow S2 S' → StoOk X.K (cA.with (fun S => cA.J S ∧ Grow S2 S) monoJ _ lm) S' s' → StoOk X.K cA S' (s'.set sto.length .dead) := fun {S' s'} g' ok' =>
    of_fn ok' (Nat.lt_of_lt_of_le n2 g'.n) (by rw [g'.r _ n2, r2]; exact g'.ext f _ f2) (fun k a h => by rw [g'.r _ n2, r2]; exact h.1) fun h => h.1
  have lenV : (V.ref f :: vs).length = ps.length := by
    unfold runT at h2
    split at h2
    · rename_i q
      rw [hl, ← q, List.length_cons, List.length_cons, rs.length]
    · exact h2.elim
  have hd0 : X.A.handled = none := hr.hd
  have rc : codeAny (model X.prog X.w) X.A (.call (.ref g) ⟨.ref f :: us, []⟩) (CR (L2.CX X.prog X.w) X.stack X.prog X.w S2.H s2 Q (EZ cA Z σ)) s2 := by
    refine run_ofS (N := N) (ps := ps) (us := .ref f :: us) (vs := .ref f :: vs) lk hcd Sc hr I2.env0 ?_ (.cons rfl rvs) lenV fun hr' => ?_
    · have b := hbd s2 (.ref f :: us) I2.kIn (by
        rw [List.append_nil, ← lenV, List.length_cons, List.length_cons, rvs.length])
      rw [List.append_nil] at b
      exact b
    refine ⟨_, pssW _, (hb (fun S => cA.J S ∧ Grow S2 S) monoJ _ lm (fun _ d st => mb (env.set ip (some d)) st) g cdv X.A X.stack s2 S2.H (EZ cA Z σ) hr' (fun pn xe W Z' tk hW => ?_)).run S2 (L2.start N (.ref f :: vs)) (startE N (.loc sto.length :: ds)) (s2'.set sto.length (.fn 0)) ok3 (startE_ok ⟨.ref f, vs, rfl, ⟨n2, by rw [r2]⟩, rs⟩) _ ?_⟩
    · refine ⟨fun S' sto' n' k' pins' σ' s' ok' h' I' => ?_, fun S' sto' n' k' pins' σ' s' d v u Q' ok' h' I' rd ru pp => ?_⟩
      · obtain ⟨e1, h3, h4⟩ := ok'.fnk n' k' h'
        rw [e1]
        obtain ⟨⟨pm', ctv', of1⟩, _, _⟩ := I'.hok f _ h3
        exact ⟨_, _, _, _, of1⟩
      · obtain ⟨e1, h3, h4⟩ := ok'.fnk n' k' h'
        obtain ⟨j1, gj⟩ := ok'.j
        rw [e1]
        refine lam1_run (X := X) (E := EZ cA Z' σ') (k := kl) ⟨rfl, rfl, rfl, rfl, rfl, rfl, rfl, rfl, rfl⟩ I2 L hnd hip I' hd0 (hr2.deeper _).depth h3 h4 hbind (fun e s' cx => tk e s' (XE.of_call I' (fun cls d H' ⟨c, e1, e2, z⟩ => by subst e1 e2; exact hW c σ' H' z) cx)) ru ?_
        refine (hbody _ _ _ _ _ _ _ _ _ _ _ ((hr2.deeper _).deeper _)).run S' (σ.set ip (some v)) (env.set ip (some d)) sto' ok' ((eo2.grow ok2 gj).set rd) Q' ?_
        exact pp.imp (fun _ _ _ _ _ q => q) fun c _ _ _ _ z => ⟨c, rfl, rfl, z⟩
    · unfold runT at h2
      split at h2
      case isFalse => exact h2.elim
      cases e2 : m (fun _ d st => mb (env.set ip (some d)) st) (startE N (.loc sto.length :: ds)) (s2'.set sto.length (.fn 0)) with
      | rt d sto => rw [e2] at h2; exact fun S' v g' ok' rv => h2 S' g' (back g' ok') v rv
      | nx env sto => rw [e2] at h2; exact fun S' σ' g' ok' eo' => h2 S' g' (back g' ok') .non rfl
      | exc c env sto => rw [e2] at h2; exact fun S' σ' g' ok' eo' => ⟨c, rfl, rfl, h2 S' g' (back g' ok')⟩
      | bk env sto => rw [e2] at h2; exact h2.elim
      | ct env sto => rw [e2] at h2; exact h2.elim
      | stuck => rw [e2] at h2; exact h2.elim
  refine wpAny_call (codeAny_mono rc fun r s3 hq => ?_)
  cases r with
  | error e => exact hz.at σ pins S2.H s2 e s3 I2 hq
  | ok fl =>
    cases fl with
    | ret u => exact I2.after hq
    | next => exact False.elim hq
    | brk => exact False.elim hq
    | cont => exact False.elim hq
end
end BB
/-! try .. except X as e; a def called with e there. -/
namespace BB
open PySem PySem.Spec PyProof.Rows L2 LamX

/-- e, the exception that is handled, is told as the class 1000: it stands at a -/
abbrev CA.exo (cA : CA) (a : Addr) : CA := ⟨fun n => if n = 1000 then a else cA.fn n, cA.tabs, fun _ => True, fun _ _ _ _ => trivial, fun _ _ _ => False, fun _ _ _ _ h _ => h⟩
/-- the context keeps the exception at a, of the class at D -/
structure PinX (X : Cx) (a D : Addr) : Prop where
  ex : ∃ oe, (a, oe) ∈ X.pn ∧ Zc (.ref D) none oe ∧ ∃ vs, oe.data = .fields vs
theorem call_isP {X : Cx} {a D : Addr} (C : ExcC X.K D) (hp : PinX X a D) : CallR X (.builtin "isinstance") (rIsE X.K D a) := by
  intro pins s σ H xs us Q I r h
  obtain ⟨c, cv, b, rfl, hcv, e, q⟩ := h
  obtain ⟨oe, hm, hz, vs, hv⟩ := hp.ex
  cases r with
  | cons rx rr =>
    cases rr with
    | cons rt rr =>
      cases rr
      cases rx
      have ec := hcv _ rt
      subst ec
      obtain ⟨hget, _⟩ := I.pin (a, oe) (List.mem_append.mpr (.inl hm))
      have J : PySem.W.InstAt s.heap a oe D none := by
        obtain ⟨oc, od, oda, osl⟩ := oe
        obtain ⟨h1, h2⟩ := hz
        dsimp only at h1 h2 hv
        subst h1 h2 hv
        exact ⟨hget, rfl, rfl, trivial⟩
      exact PySem.W.kia_one (PySem.W.handS_kitx_exc C.hg C.hk C.hs C.hd C.ha C.hn C.ht C.hm) I.kIn J e (fun z => nomatch z) fun tk => ⟨.bl b, H, I.kept (t' := tk) fun _ _ z => z, rfl, q⟩
/-- what isinstance tells of the exceptions' classes -/
structure ExcI (K : PySem.W.Frag) (cA : Nat → Addr) (B : Nat → Nat → Option Bool) : Prop where
  cl : ∀ c d b, B c d = some b → ExcC K (cA c) ∧ (d ≠ 1000 ∧ d ≠ 1001 → PySem.W.kitOne K (.ref (cA c)) (.ref (cA d)) = some b) ∧ (d = 1001 → PySem.W.kitOne K (.ref (cA c)) (.type "ValueError") = some b) ∧ c ≠ 1000
/-- isinstance(e, C), of the class xc; 1001: ValueError -/
def fIsiE (B : Nat → Nat → Option Bool) (xc : Nat) (ds : List DV) (sto : Sto) : Res DV := match ds with
  | [.cls k, .cls d] => if k = 1000 ∧ d ≠ 1000 ∧ d ≠ 1001 then match B xc d with
      | some b => .ok (.bl b) sto
      | none => .stuck
    else .stuck
  | [.cls k, .ty n] => if k = 1000 ∧ n = "ValueError" then match B xc 1001 with
      | some b => .ok (.bl b) sto
      | none => .stuck
    else .stuck
  | _ => .stuck
theorem n_isiE {B : Nat → Nat → Option Bool} {xc : Nat} (x : List DV) (s : Sto) : (fIsiE B xc x s).noexc := by
  unfold fIsiE
  split
  · split
    · split <;> trivial
    · trivial
  · split
    · split <;> trivial
    · trivial
  · trivial
section
variable {X : Cx} {cA : CA} {B : Nat → Nat → Option Bool} {xc : Nat} {a : Addr}
theorem s_isiE (T : ExcI X.K cA B) (hp : PinX X (cA 1000) (cA xc)) : CallS X cA (.builtin "isinstance") (fIsiE B xc) := fun S sto ds vs Q ok r p pins s σ us I rv => by
  unfold fIsiE at p
  split at p
  · rename_i k d
    split at p
    · rename_i hk
      split at p
      · rename_i b hb
        obtain ⟨v, u, rfl, r1, r2⟩ := two_rep r
        cases (show u = .ref (cA d) from r2)
        cases (show v = .ref (cA k) from r1)
        obtain ⟨h1, h2, _, _⟩ := T.cl xc d b hb
        rw [hk.1] at rv
        exact call_isP h1 hp pins s σ S.H _ us Q I rv ⟨.ref (cA d), .ref (cA d), b, rfl, fun u r => r, h2 hk.2, ret_same ok p rfl⟩
      · exact p.elim
    · exact p.elim
  · rename_i k n
    split at p
    · rename_i hk
      split at p
      · rename_i b hb
        obtain ⟨v, u, rfl, r1, r2⟩ := two_rep r
        cases (show u = .ty n from r2)
        cases (show v = .ref (cA k) from r1)
        obtain ⟨h1, _, h2, _⟩ := T.cl xc 1001 b hb
        obtain ⟨hk1, rfl⟩ := hk
        rw [hk1] at rv
        exact call_isP h1 hp pins s σ S.H _ us Q I rv ⟨.ty "ValueError", .type "ValueError", b, rfl, fun u r => r, h2 rfl, ret_same ok p rfl⟩
      · exact p.elim
    · exact p.elim
  · exact p.elim
end
/-! ### a def called there -/
theorem u1H {A : Around} {k : Nat} (hr : L2H.RoomH k A) : A.units + 1 < cLine := by have := hr.un; omega
theorem u64H {A : Around} {k : Nat} (hr : L2H.RoomH k A) : A.units + 64 < cLine := by have := hr.un; omega
theorem u65H {A : Around} {k : Nat} (hr : L2H.RoomH k A) : A.units + 65 < cLine := by have := hr.un; omega
abbrev BodyHot (P : Program) (w : World) (K : PySem.W.Frag) (mg : Str → Option Value) (base : Heap) (cA : CA) (N : List Str) (qual : Str) (st : Stmt) (k : Nat) (f : Addr) (xc : Nat) (m : SM) : Prop :=
  ∀ (cdv : Value) (A : Around) (outer : List PySem.Env) (s : Shared) (H : Hp) (E : XK) (p : Addr × Obj), L2H.RoomH k (A.deeper (envOfC qual (defScope st) s.heap.objs.size f cdv)) →
    PinX (L2H.cxH (L2.CX P w) P w K mg base N qual (defScope st) f cdv A outer s H E p) (cA 1000) (cA xc) → GSs (L2H.cxH (L2.CX P w) P w K mg base N qual (defScope st) f cdv A outer s H E p) cA (ZE cA E) (defBody st) m
structure CalleeH (P : Program) (w : World) (K : PySem.W.Frag) (mg : Str → Option Value) (base : Heap) (cA : CA) (x : Str) (k : Nat) (xc : Nat) (G : List DV → PR) : Prop where
  ex : ∃ st N ps m, DefAt K mg x st ps ∧ FnScope N ps (defScope st) ∧ G = runP ps.length N m ∧ ∀ f, BodyHot P w K mg base cA.pl N x st k f xc m
section
variable {P : Program} {w : World} {K : PySem.W.Frag} {mg : Str → Option Value} {base : Heap} {cA : CA}
theorem run_hot {qual : Str} {st : Stmt} {f : Addr} {fd : FuncData} {N ps : List Str} {k xc : Nat} {m : SM} (F : Fun K qual qual st f fd) (Sc : FnScope N ps (defScope st)) (hbody : BodyHot P w K mg base cA.pl N qual st k f xc m)
    {A : Around} {outer : List PySem.Env} {s : Shared} {H : Hp} {args : Args} {us : List Value} {vs : List V} {Q : VK} {E : XK} {oe : Obj} (hr : L2H.RoomH (k + 1) A) (hpin : L2H.PinOk outer H s (cA 1000, oe)) (hzc : Zc (.ref (cA xc)) none oe) (hv : ∃ vs, oe.data = .fields vs)
    (e0 : Env0 P w K mg base A outer s H) (hb : BindsTo s fd args (ps.zip us)) (r : Vals vs us) (h : PSp K cA (runP ps.length N m) vs H Q E) : codeAny (model P w) A (.call (.ref f) args) (CR (L2.CX P w) outer P w H s Q E) s := by
  obtain ⟨oc, od, kV, doc, pm, an, cdv, ct, osl, rfl, lk, hcd⟩ := F.ex
  have hl : vs.length = ps.length := h.len fun ds h => by
    unfold runP at h
    by_cases hl : ds.length = ps.length
    · exact hl
    · rw [if_neg hl] at h; exact absurd rfl h
  have KX : K.In s.heap := e0.mod.kin.keeps fun b o e => (e0.bs b o e).1
  have lim : s.heap.NoLimit := e0.mod.nolimit.keeps fun b o e => (e0.bs b o e).1
  have hkind : ∀ y ∈ ps.zip us, (defScope st).names.lookup y.1 = some .local ∨ ((defScope st).names.lookup y.1 = some .cell ∧ ((cellsFrom (s.heap.objs.size + 1) (defScope st).names []).lookup y.1).isSome = true) := fun ⟨n, v⟩ hy => by
    rcases Sc.par n (List.of_mem_zip hy).1 with q | q
    · exact .inl q
    · exact .inr ⟨q, PySem.W.cellsFrom_some _ _ _ (.inl q)⟩
  refine codeAny_call_function hr.depth (KX _ _ lk) rfl Sc.co Sc.gen rfl (PySem.W.codeRec_of KX hcd) (hb _ _ _ _ ?_)
  refine wpAny_newFunctionEnv_cells Sc.kind hkind fun env he s1 x => ?_
  subst he
  refine ⟨lim.keeps x.toInCall.keep, codeAny_func ?_⟩
  obtain ⟨S, ds, rfl, hN, ok, rr, hq⟩ := h
  have I : Inv (L2H.cxH (L2.CX P w) P w K mg base N qual (defScope st) f cdv A outer s S.H E (cA 1000, oe)) [] (L2.start N vs) S.H s1 := L2H.inv_startH Sc hpin e0 hl r x
  have run := (hbody cdv A outer s S.H E (cA 1000, oe) (hr.deeper _) ⟨oe, List.mem_cons_self, hzc, hv⟩).run S (L2.start N vs) (startE N ds) [] ok (startE_ok rr) { nx := fun _ H' => Q .non H', rt := Q } (by
    unfold runP at hq
    by_cases hl : ds.length = ps.length
    case neg => rw [if_neg hl] at hq; exact hq.elim
    rw [if_pos hl] at hq
    cases e2 : m (startE N ds) [] with
    | rt d sto =>
      rw [e2] at hq
      simp only [endsP] at hq
      cases e3 : frz sto d with
      | none => rw [e3] at hq; exact hq.elim
      | some D =>
        rw [e3] at hq
        exact fun S' v g' ok' rv => hq (S'.ice false) v (g'.ice hN) rfl (ok'.ice false) (frz.rep ok' rv e3) (frz.clean e3)
    | nx env sto =>
      rw [e2] at hq
      exact fun S' σ' g' ok' eo' => hq (S'.ice false) .non (g'.ice hN) rfl (ok'.ice false) rfl rfl
    | exc c env sto =>
      rw [e2] at hq
      exact fun S' σ' g' ok' eo' => hq (S'.ice false) (g'.ice hN) rfl (ok'.ice false)
    | bk env sto => rw [e2] at hq; exact hq.elim
    | ct env sto => rw [e2] at hq; exact hq.elim
    | stuck => rw [e2] at hq; exact hq.elim)
  refine wpAny_mono (run [] s1 I) (fun fl s' hs => ?_) fun e s' hs => hs
  have fin : ∀ {σ' : L2.St} {H' : Hp} {v : V} {u : Value}, Inv (L2H.cxH (L2.CX P w) P w K mg base N qual (defScope st) f cdv A outer s S.H E (cA 1000, oe)) [] σ' H' s' → RelV v u → Q v H' → CE outer P w S.H s Q u s' :=
    fun {σ' H' v u} J rv q => ⟨v, H', J.os, J.bare, J.base, J.hok, rv, q⟩
  cases fl with
  | ret u =>
    obtain ⟨v, σ', H', J, rv, q⟩ := hs
    exact fin J rv q
  | next =>
    obtain ⟨σ', H', J, q⟩ := hs
    exact fin (v := V.non) (u := Value.none) J rfl q
  | brk =>
    obtain ⟨_, _, _, q⟩ := hs
    exact False.elim q
  | cont =>
    obtain ⟨_, _, _, q⟩ := hs
    exact False.elim q
end
section
variable {X : Cx} {cA : CA} {Z : Nat → L2.St → Hp → Prop} {pos p : Pos} {x : Str} {e : Expr} {es : List Expr} {t : AM} {k xc : Nat} {G : List DV → PR}
theorem g_callH (hz : GZ X cA Z) (hp : PinX X (cA 1000) (cA xc)) (C : CalleeH X.prog X.w X.K X.mg X.base cA x k xc G) (hr : L2H.RoomH (k + 1) X.A) (ha : GA X cA Z (e :: es) t) (hg : Gl X x := by rfl)
    (hdb : (x == ("__debug__" : Str)) = false := by decide) (he : starEach (e :: es) X.env = (false, eval e X.env) :: starEach es X.env := by exact star_plain rfl) (hpl : (backTo pos (starEach es X.env)).any (·.1) = false := by exact plain_any rfl) :
    GE X cA Z (.Call (.Name x p) (e :: es) [] pos) (eCall G t) := .mk fun S σ env sto ok eo Q pq pins s I => by
  obtain ⟨st, N, ps, m, D, Sc, rfl, hb⟩ := C.ex
  obtain ⟨f, fd, F, hm, hbd⟩ := D.ex
  obtain ⟨oe, hmem, hzc, hv⟩ := hp.ex
  refine wpAny_Call_Name_kw (ld_glob I hg hm ?_ hdb)
  have hA : wA X (e :: es) σ S.H (fun vs H' => ∃ ds s2 S2, S2.H = H' ∧ StoOk X.K cA S2 s2 ∧ RepL X.K cA S2 ds vs ∧ Post X.K cA S2 (liftP (runP ps.length N m) ds s2) (VQ X.K cA Q) (fun c _ S' => Z c σ S'.H)) :=
    ha.then ok eo pq fun ds s2 S2 vs g2 ok2 eo2 rs h2 => ⟨ds, s2, S2, rfl, ok2, rs, h2⟩
  refine PySem.W.callWith_K (h₀ := X.base) I.ok.mod.kin F.kp (thn (hA pos pins s I) fun us s2 ⟨vs, H2, I2, rvs, ds, s2', S2, eH2, ok2, rs, h2⟩ => ⟨I2.kIn, ?_⟩) he hpl
  subst eH2
  have P1 := I2.pin (cA 1000, oe) (List.mem_append_left _ hmem)
  have hpin : L2H.PinOk X.stack S2.H s2 (cA 1000, oe) := ⟨P1.1, P1.2.1, fun hm => (List.mem_cons.mp (I2.stkSub (cA 1000) hm)).elim P1.2.2.1 P1.2.2.2.1, P1.2.2.2.2⟩
  have sp : PSp X.K cA (runP ps.length N m) vs S2.H Q (EZ cA Z σ) := lift_sp ⟨S2, s2', ds, rfl, ok2, rs, h2.imp (fun _ _ _ _ _ q => q) fun c _ _ _ _ z => ⟨c, rfl, rfl, z⟩⟩
  have hl : us.length = ps.length := by
    rw [← rvs.length]
    refine sp.len fun ds h => ?_
    unfold runP at h
    by_cases hl : ds.length = ps.length
    · exact hl
    · rw [if_neg hl] at h; exact absurd rfl h
  have b := hbd s2 us I2.kIn (by rw [List.append_nil]; exact hl)
  rw [List.append_nil] at b
  refine wpAny_call (codeAny_mono (run_hot F Sc (hb f) hr hpin hzc hv I2.env0 b rvs sp) fun r s3 hq => ?_)
  cases r with
  | error e => exact hz.at σ pins S2.H s2 e s3 I2 hq
  | ok fl =>
    cases fl with
    | ret u => exact I2.after hq
    | next => exact False.elim hq
    | brk => exact False.elim hq
    | cont => exact False.elim hq
end
end BB
namespace BB
open PySem PySem.Spec PyProof.Rows L2 LamX

def plainD : DV → Bool
  | .non => true
  | .bl _ => true
  | .int _ => true
  | .str _ => true
  | _ => false
/-- what an except clause tells of the exceptions' classes -/
structure ExmT (K : PySem.W.Frag) (cA : Nat → Addr) (tab : Nat → Option Bool) (xb : Nat) : Prop where
  cl : ∀ c b, tab c = some b → PySem.W.exmOne K (.ref (cA c)) (.ref (cA xb)) = some b
/-- try: body / except X as e: y = rhs; the rhs sees e alone -/
def sTryAs (tab : Nat → Option Bool) (ie j : Nat) (mb : SM) (me : Nat → EM) : SM := fun env sto => match mb env sto with
  | .exc c env1 s1 => match tab c with
    | some true => match me c ((List.replicate env1.length none).set ie (some (.cls 1000))) [] with
      | .ok d _ => if plainD d = true then .nx ((env1.set j (some d)).set ie none) s1 else .stuck
      | _ => .stuck
    | some false => .exc c env1 s1
    | none => .stuck
  | o => o
theorem Rep.plain {K : PySem.W.Frag} {cA cB : Nat → Addr} {S S' : Sys} {d : DV} {v : V} (h : plainD d = true) (r : Rep K cA S d v) : Rep K cB S' d v := by
  cases d <;> first | exact r | cases h
theorem StoOk.nil {K : PySem.W.Frag} {cA cB : CA} {S : Sys} (ok : StoOk K cA S []) (ht : cB.tabs = cA.tabs) (hj : cB.J S) : StoOk K cB S [] where
  len := ok.len
  nf := fun n hn => absurd hn (by rw [← ok.len]; exact Nat.not_lt_zero _)
  inj := ok.inj
  ob := fun n o h => by simp at h
  fs := ok.fs
  tb := fun p hp => ok.tb p (ht ▸ hp)
  j := hj
  fnk := fun n k h => by simp at h
theorem iso_env {K : PySem.W.Frag} {cA : CA} {S : Sys} {σ : L2.St} {ie n : Nat} {v : V} {d : DV} (hn : n = σ.length) (r : Rep K cA S d v) : EnvOk K cA S ((List.replicate n none).set ie (some d)) (σ.set ie (some v)) := by
  refine ⟨by simp [hn], fun i e h => ?_⟩
  by_cases hi : ie = i
  · subst hi
    by_cases hl : ie < n
    · rw [List.getElem?_set_self (by simpa using hl)] at h
      cases h
      exact ⟨v, List.getElem?_set_self (by rw [← hn]; exact hl), r⟩
    · rw [List.getElem?_eq_none (by simpa using hl)] at h; cases h
  · rw [List.getElem?_set_ne hi, List.getElem?_replicate] at h
    split at h <;> cases h
section
variable {X : Cx} {cA : CA} {Z : Nat → L2.St → Hp → Prop} {x n y : Str} {tab : Nat → Option Bool} {xb : Nat} {body : List Stmt} {rhs : Expr} {mb : SM} {me : Nat → EM} {np py apos pos pos' : Pos}
theorem g_tryAs (ie j : Nat) (hz : GZ X cA Z) (hN : X.N.Nodup) (T : ExmT X.K cA tab xb) (hm : X.mg x = some (.ref (cA xb)))
    (hb : ∀ (W : WX) (pn : List (Addr × Obj)) (xe : Value → Shared → Prop), Takes (X.tr pn xe) W → PassesOwn (model X.prog X.w) X.A X.env xe → GSs (X.tr pn xe) cA (fun c σ H => W (.ref (cA c)) none σ H) body mb)
    (hsu : ∀ (c : Nat) (a : Addr) (oe : Obj) (pn : List (Addr × Obj)), PinX (X.suite a ((a, oe) :: pn)) ((cA.exo a).fn 1000) ((cA.exo a).fn c) → GE (X.suite a ((a, oe) :: pn)) (cA.exo a) Z0 rhs (me c))
    (ht0 : tab 1000 = none := by rfl) (hi : X.N[ie]? = some n := by rfl) (hj : X.N[j]? = some y := by rfl) (hij : ie ≠ j := by decide) (hln : X.env.kindOf n = some .local := by rfl) (hly : X.env.scope.names.lookup y = some .local := by rfl) (hs : X.stack = X.env :: X.outer := by rfl) (hf : X.env.frame = some X.env.locals := by rfl)
    (hg : Gl X x := by rfl) (hdb : (x == ("__debug__" : Str)) = false := by decide) (hsw : ∀ A : Cx, swapsWith rhs (some (.Name y py)) apos.line A.env = pure false := by exact fun _ => sw_plain rfl) :
    GS X cA Z (.Try body [.ExceptHandler (some (.Name x np)) (some n) [.Assign [.Name y py] rhs apos] pos'] [] [] pos) (sTryAs tab ie j mb me) := .mk fun S σ env sto ok eo D p => by
  obtain ⟨Wout, tk, hZW⟩ := hz.ex
  refine wS.of (ps_try_as (c := .ref (cA xb)) (i := ie) (tb := fun W D σ H => ∀ pn xe, Takes (X.tr pn xe) W → PassesOwn (model X.prog X.w) X.A X.env xe → wSs (X.tr pn xe) body D σ H)
    (ts := fun a cls d D σ H => ∀ oe pn, Zc cls d oe → (∃ vs, oe.data = .fields vs) → wSs (X.suite a ((a, oe) :: pn)) [.Assign [.Name y py] rhs apos] D σ H) hs hf hN hi hln ⟨hg, hdb, .inl hm⟩ tk
    (fun W pn xe tk po => ⟨fun pins s σ H D I h => h pn xe tk po pins s I⟩) (fun a oe cls d pn hz hv => ⟨fun pins s σ H D I h => h oe pn hz hv pins s I⟩)) ?_
  intro pn xe tkx po
  refine (hb _ pn xe tkx po).run S σ env sto ok eo D ?_
  unfold sTryAs at p
  cases e : mb env sto with
  | nx env1 s1 => rw [e] at p; exact p
  | rt d s1 => rw [e] at p; exact p
  | bk env1 s1 => rw [e] at p; exact p
  | ct env1 s1 => rw [e] at p; exact p
  | stuck => rw [e] at p; exact p.elim
  | exc c env1 s1 =>
    rw [e] at p
    simp only at p
    intro S' σ' g' ok' eo'
    cases ht : tab c with
    | none => rw [ht] at p; exact p.elim
    | some b =>
      rw [ht] at p
      cases b with
      | false => exact ⟨false, T.cl c _ ht, (fun z => absurd z Bool.false_ne_true), fun _ => hZW c σ' S'.H (p S' σ' g' ok' eo')⟩
      | true =>
        refine ⟨true, T.cl c _ ht, fun _ a ha oe pn hzc hv => ?_, fun z => absurd z.symm Bool.false_ne_true⟩
        simp only at p
        cases e2 : me c ((List.replicate env1.length none).set ie (some (.cls 1000))) [] with
        | exc c s => rw [e2] at p; exact p.elim
        | stuck => rw [e2] at p; exact p.elim
        | ok d s2 =>
          rw [e2] at p
          simp only at p
          split at p
          case isFalse => exact p.elim
          rename_i hpl
          refine wSs.of (pss_one (ps_set (i := j) (X := X.suite a ((a, oe) :: pn)) hN hj (.inl hly) (peW rhs) (hsw _) (.inr hly))) ?_
          have ok2 : StoOk X.K (cA.exo a) (S'.ice true) [] := (ok'.ice true).nil rfl trivial
          have hc0 : c ≠ 1000 := fun z => by rw [z, ht0] at ht; cases ht
          have hp : PinX (X.suite a ((a, oe) :: pn)) ((cA.exo a).fn 1000) ((cA.exo a).fn c) := by
            show PinX _ (if 1000 = 1000 then a else cA.fn 1000) (if c = 1000 then a else cA.fn c)
            rw [if_pos rfl, if_neg hc0]
            exact ⟨oe, List.mem_cons_self, hzc, hv⟩
          refine (hsu c a oe pn hp).run (S'.ice true) (σ'.set ie (some (.ref a))) ((List.replicate env1.length none).set ie (some (.cls 1000))) [] ok2 (iso_env (d := .cls 1000) eo'.1 (by show V.ref a = .ref (if 1000 = 1000 then a else cA.fn 1000); rw [if_pos rfl])) _ ?_
          rw [e2]
          intro S2 g2 ok3 v rv
          obtain ⟨S3, e3, g3, ok4, _⟩ := back_call ok' (g2.ice rfl) ((ok3.ice false).nil rfl trivial)
          have e4 : S3.H = S2.H := e3
          show D.nx (((σ'.set ie (some (.ref a))).set j (some v)).set ie none) S2.H
          rw [← e4]
          refine p S3 _ (g'.trans g3) ok4 ?_
          have q := ((eo'.grow ok' g3).set (i := j) (Rep.plain (S' := S3) (cB := cA.fn) hpl rv)).setNone (i := ie)
          rw [List.set_comm _ _ hij, List.set_set]
          exact q
end
/-- {} that is never changed -/
def eDicF : EM := fun _ sto => .ok (.dic [] []) sto
theorem g_dicF {X : Cx} {cA : CA} {Z : Nat → L2.St → Hp → Prop} {pos : Pos} : GE X cA Z (.Dict [] [] pos) eDicF := .mk fun S σ env sto ok eo Q p => wE.of pe_dnewT fun q hq => ret_dicV (kvs := []) ok p rfl rfl hq
/-- the context within a try -/
theorem gzT {X : Cx} {cA : CA} {W : WX} (tk : Takes X W) : GZ X cA (fun c σ H => W (.ref (cA c)) none σ H) := ⟨W, tk, fun _ _ _ h => h⟩
/-- a lambda's body -/
theorem gzL {X : Cx} {cA : CA} {A : Around} {outer : List PySem.Env} {s : Shared} {H : Hp} {E : XK} {scope : Scope} {f c' : Addr} : GZ (lamCx X A outer s H E scope f c') cA (ZE cA E) := ⟨fun cls d _ H => E cls d H, takes_of rfl rfl rfl rfl, fun _ _ _ h => h⟩
section
variable {P : Program} {w : World} {K : PySem.W.Frag} {mg : Str → Option Value} {base : Heap} {cA : CA} {N : List Str} {qual : Str} {sc : Scope} {f : Addr} {cdv : Value} {A : Around} {outer : List PySem.Env} {s : Shared} {H : Hp} {E : XK} {I : AF}
/-- asking, in the asker's own body; within a try -/
theorem askB (hA : ∀ pn xe W Z, Takes ((cxOf (L2.CX P w) P w K mg base N qual sc f cdv A outer s H E).tr pn xe) W → (∀ c σ H, Z c σ H → W (.ref (cA c)) none σ H) → AskAt ((cxOf (L2.CX P w) P w K mg base N qual sc f cdv A outer s H E).tr pn xe) cA Z I) :
    AskAt (cxOf (L2.CX P w) P w K mg base N qual sc f cdv A outer s H E) cA (ZE cA E) I :=
  hA (cxOf (L2.CX P w) P w K mg base N qual sc f cdv A outer s H E).pn (cxOf (L2.CX P w) P w K mg base N qual sc f cdv A outer s H E).xe (fun cls d _ H => E cls d H) (ZE cA E) (takes_of (X := cxOf (L2.CX P w) P w K mg base N qual sc f cdv A outer s H E) rfl rfl rfl rfl) fun _ _ _ h => h
theorem askT {pn : List (Addr × Obj)} {xe : Value → Shared → Prop} {W : WX} (hA : ∀ pn xe W Z, Takes ((cxOf (L2.CX P w) P w K mg base N qual sc f cdv A outer s H E).tr pn xe) W → (∀ c σ H, Z c σ H → W (.ref (cA c)) none σ H) → AskAt ((cxOf (L2.CX P w) P w K mg base N qual sc f cdv A outer s H E).tr pn xe) cA Z I)
    (tk : Takes ((cxOf (L2.CX P w) P w K mg base N qual sc f cdv A outer s H E).tr pn xe) W) : AskAt ((cxOf (L2.CX P w) P w K mg base N qual sc f cdv A outer s H E).tr pn xe) cA (fun c σ H => W (.ref (cA c)) none σ H) I :=
  hA pn xe W _ tk fun _ _ _ h => h
end
/-! ### defs that make lambdas -/
/-- a def of the text whose code object has a table -/
structure DefAtL (K : PySem.W.Frag) (mg : Str → Option Value) (base : Heap) (tabs : List (Addr × Str)) (x : Str) (st : Stmt) (ps : List Str) : Prop where
  ex : ∃ f oc od kV doc pm an c ct osl Pt, K.lookup f = some ⟨oc, od, .func (PySem.W.fnOf x x (defArgs st) (defBody st) (defScope st) .none kV doc pm an (.ref c) ct), osl⟩ ∧ PySem.W.codeIn K (.ref c) x = true ∧ PySem.W.keepIn K (.ref f) = true ∧ mg x = some (.ref f) ∧
    Binds K (PySem.W.fnOf x x (defArgs st) (defBody st) (defScope st) .none kV doc pm an (.ref c) ct) ps [] ∧ TabB base mg c Pt ∧ (Pt, x ++ ".<locals>." ++ "<lambda>") ∈ tabs ∧ ∀ p ∈ tabs, p.1 = Pt → p.2 = x ++ ".<locals>." ++ "<lambda>"
abbrev BodyOkL (P : Program) (w : World) (K : PySem.W.Frag) (mg : Str → Option Value) (base : Heap) (cA : CA) (N : List Str) (qual : Str) (st : Stmt) (k : Nat) (f : Addr) (m : SM) : Prop :=
  ∀ (cdv : Value) (A : Around) (outer : List PySem.Env) (s : Shared) (H : Hp) (E : XK), Room k (A.deeper (envOfC qual (defScope st) s.heap.objs.size f cdv)) → LamMk (cxOf (L2.CX P w) P w K mg base N qual (defScope st) f cdv A outer s H E) cA →
      GSs (cxOf (L2.CX P w) P w K mg base N qual (defScope st) f cdv A outer s H E) cA (ZE cA E) (defBody st) m
section
variable {P : Program} {w : World} {K : PySem.W.Frag} {mg : Str → Option Value} {base : Heap} {cA : CA}
theorem pfunL {x : Str} {st : Stmt} {f : Addr} {N ps : List Str} {k : Nat} {m : SM} {oc kV doc pm ct : Value} {od an : Option Addr} {c Pt : Addr} {osl : Array (Option Value)} (lk : K.lookup f = some ⟨oc, od, .func (PySem.W.fnOf x x (defArgs st) (defBody st) (defScope st) .none kV doc pm an (.ref c) ct), osl⟩) (hcd : PySem.W.codeIn K (.ref c) x = true)
    (Sc : FnScope N ps (defScope st)) (TB : TabB base mg c Pt) (hmT : (Pt, x ++ ".<locals>." ++ "<lambda>") ∈ cA.tabs) (hu : ∀ p ∈ cA.tabs, p.1 = Pt → p.2 = x ++ ".<locals>." ++ "<lambda>") (hbody : BodyOkL P w K mg base cA.pl N x st k f m) :
    FnOk P w K mg base (L2.CX P w) (k + 1) f (PySem.W.fnOf x x (defArgs st) (defBody st) (defScope st) .none kV doc pm an (.ref c) ct) ps (PSp K cA (runP ps.length N m)) := by
  refine fn_of lk hcd Sc (fun vs H Q E h => h.len fun ds h => ?_) (fun A outer s H vs Q E hr h => ?_)
  · unfold runP at h
    by_cases hl : ds.length = ps.length
    · exact hl
    · rw [if_neg hl] at h; exact absurd rfl h
  obtain ⟨S, ds, rfl, hN, ok, r, hq⟩ := h
  refine ⟨_, pssW _, (hbody (.ref c) A outer s S.H E hr ⟨c, Pt, TB, rfl, hmT, hu⟩).run S (L2.start N vs) (startE N ds) [] ok (startE_ok r) _ ?_⟩
  unfold runP at hq
  by_cases hl : ds.length = ps.length
  case neg => rw [if_neg hl] at hq; exact hq.elim
  rw [if_pos hl] at hq
  cases e2 : m (startE N ds) [] with
  | rt d sto =>
    rw [e2] at hq
    simp only [endsP] at hq
    cases e3 : frz sto d with
    | none => rw [e3] at hq; exact hq.elim
    | some D =>
      rw [e3] at hq
      exact fun S' v g' ok' rv => hq (S'.ice false) v (g'.ice hN) rfl (ok'.ice false) (frz.rep ok' rv e3) (frz.clean e3)
  | nx env sto =>
    rw [e2] at hq
    exact fun S' σ' g' ok' eo' => hq (S'.ice false) .non (g'.ice hN) rfl (ok'.ice false) rfl rfl
  | exc c env sto =>
    rw [e2] at hq
    exact fun S' σ' g' ok' eo' => hq (S'.ice false) (g'.ice hN) rfl (ok'.ice false)
  | bk env sto => rw [e2] at hq; exact hq.elim
  | ct env sto => rw [e2] at hq; exact hq.elim
  | stuck => rw [e2] at hq; exact hq.elim
theorem tfunL {x : Str} {st : Stmt} {f : Addr} {N ps : List Str} {k : Nat} {m : SM} {oc kV doc pm ct : Value} {od an : Option Addr} {c Pt : Addr} {osl : Array (Option Value)} (lk : K.lookup f = some ⟨oc, od, .func (PySem.W.fnOf x x (defArgs st) (defBody st) (defScope st) .none kV doc pm an (.ref c) ct), osl⟩) (hcd : PySem.W.codeIn K (.ref c) x = true)
    (Sc : FnScope N ps (defScope st)) (TB : TabB base mg c Pt) (hmT : (Pt, x ++ ".<locals>." ++ "<lambda>") ∈ cA.tabs) (hu : ∀ p ∈ cA.tabs, p.1 = Pt → p.2 = x ++ ".<locals>." ++ "<lambda>") (hbody : BodyOkL P w K mg base cA N x st k f m) :
    FnOk P w K mg base (L2.CX P w) (k + 1) f (PySem.W.fnOf x x (defArgs st) (defBody st) (defScope st) .none kV doc pm an (.ref c) ct) ps (TSp K cA (runT ps.length N m)) := by
  refine fn_of lk hcd Sc (fun vs H Q E h => ?_) (fun A outer s H vs Q E hr h => ?_)
  · obtain ⟨S, sto, ds, rfl, ok, r, p⟩ := h
    rw [← r.length]
    unfold runT at p
    split at p
    · assumption
    · exact p.elim
  obtain ⟨S, sto, ds, rfl, ok, r, p⟩ := h
  refine ⟨_, pssW _, (hbody (.ref c) A outer s S.H E hr ⟨c, Pt, TB, rfl, hmT, hu⟩).run S (L2.start N vs) (startE N ds) sto ok (startE_ok r) _ ?_⟩
  unfold runT at p
  split at p
  case isFalse => exact p.elim
  cases e2 : m (startE N ds) sto with
  | rt d sto => rw [e2] at p; exact fun S' v g' ok' rv => p S' g' ok' v rv
  | nx env sto => rw [e2] at p; exact fun S' σ' g' ok' eo' => p S' g' ok' .non rfl
  | exc c env sto => rw [e2] at p; exact fun S' σ' g' ok' eo' => p S' g' ok'
  | bk env sto => rw [e2] at p; exact p.elim
  | ct env sto => rw [e2] at p; exact p.elim
  | stuck => rw [e2] at p; exact p.elim
theorem calleeL {x : Str} {st : Stmt} {N ps : List Str} {k : Nat} {m : SM} (D : DefAtL K mg base cA.tabs x st ps) (Sc : FnScope N ps (defScope st))
    (hbody : ∀ f, BodyOkL P w K mg base cA.pl N x st k f m) : Callee P w K mg base cA x (k + 1) (liftP (runP ps.length N m)) := by
  obtain ⟨f, oc, od, kV, doc, pm, an, c, ct, osl, Pt, lk, hcd, kp, hm, hb, TB, hmT, hu⟩ := D.ex
  exact ⟨f, _, ps, (pfunL lk hcd Sc TB hmT hu (hbody f)).imp fun _ _ _ _ h => lift_sp h, hm, kp, hb⟩
theorem calleeLT {x : Str} {st : Stmt} {N ps : List Str} {k : Nat} {m : SM} (D : DefAtL K mg base cA.tabs x st ps) (Sc : FnScope N ps (defScope st))
    (hbody : ∀ f, BodyOkL P w K mg base cA N x st k f m) : Callee P w K mg base cA x (k + 1) (runT ps.length N m) := by
  obtain ⟨f, oc, od, kV, doc, pm, an, c, ct, osl, Pt, lk, hcd, kp, hm, hb, TB, hmT, hu⟩ := D.ex
  exact ⟨f, _, ps, tfunL lk hcd Sc TB hmT hu (hbody f), hm, kp, hb⟩
theorem free_pl : ∀ k a H, ¬ cA.pl.lam k a H := fun _ _ _ h => h
end
end BB
/-! facts of the classes, where the class 1000 is the exception that is handled -/
namespace BB
open PySem PySem.Spec PyProof.Rows L2 LamX
theorem rmk {A : Around} {k j : Nat} {e : Option Value} (hr : Room k A) (h : j ≤ k) : L2H.RoomH j (A.mark e) := ⟨(hr.mono h).dp, (hr.mono h).un⟩
section
variable {K : PySem.W.Frag} {cA : Nat → Addr} {a : Addr}
theorem ClsT.exo {F : Nat → List Str} (h : ClsT K cA F) (h0 : F 1000 = []) : ClsT K (fun n => if n = 1000 then a else cA n) F := ⟨fun k f hf => by
  by_cases hk : k = 1000
  · subst hk
    rw [h0] at hf
    cases hf
  · rw [if_neg hk]
    exact h.1 k f hf⟩
theorem ClsI.exo {B : Nat → Nat → Option Bool} (h : ClsI K cA B) (h0 : ∀ c, B 1000 c = none) (h1 : ∀ c, B c 1000 = none) : ClsI K (fun n => if n = 1000 then a else cA n) B := ⟨fun c d b hb => by
  by_cases hc : c = 1000
  · subst hc
    rw [h0] at hb
    cases hb
  by_cases hd : d = 1000
  · subst hd
    rw [h1] at hb
    cases hb
  rw [if_neg hc, if_neg hd]
  exact h.cl c d b hb⟩
theorem ExcI.exo {B : Nat → Nat → Option Bool} (h : ExcI K cA B) : ExcI K (fun n => if n = 1000 then a else cA n) B := ⟨fun c d b hb => by
  obtain ⟨h1, h2, h3, h4⟩ := h.cl c d b hb
  rw [if_neg h4]
  exact ⟨h1, fun hd => by rw [if_neg hd.1]; exact h2 hd, h3, h4⟩⟩
theorem ExmT.exo {tab : Nat → Option Bool} {xb : Nat} (h : ExmT K cA tab xb) (h0 : tab 1000 = none) (h1 : xb ≠ 1000) : ExmT K (fun n => if n = 1000 then a else cA n) tab xb := ⟨fun c b hb => by
  by_cases hc : c = 1000
  · subst hc
    rw [h0] at hb
    cases hb
  rw [if_neg hc, if_neg h1]
  exact h.cl c b hb⟩
end
end BB
/-! Runs of loops and comprehensions as functions on lists. -/
namespace BB
open PySem L2
@[simp] theorem startE_eq (N : List Str) (ds : List DV) : startE N ds = ds.map some ++ List.replicate (N.length - ds.length) none := rfl
@[simp] theorem wipeE_nil (env : Env) : wipeE env [] = env := rfl
@[simp] theorem wipeE_cons (env : Env) (v : Nat) (vs : List Nat) : wipeE env (v :: vs) = (wipeE env vs).set v none := rfl

/-! ### loops -/
def runL (p : Pat) (ws : List Nat) (body : SM) : List DV → Env → Sto → Out
  | [], env, sto => .nx env sto
  | d :: ds, env, sto => match bindP p d env with
    | some env1 => match body env1 sto with
      | .nx e s => runL p ws body ds (wipeE e ws) s
      | .ct e s => runL p ws body ds (wipeE e ws) s
      | .bk e s => .nx e s
      | o => o
    | none => .stuck
theorem loopM_fix (xs : List DV) (p : Pat) (ws : List Nat) (body : SM) : ∀ (f i : Nat) (env : Env) (sto : Sto), xs.length ≤ f + i → loopM (.fix xs) p ws body f i env sto = runL p ws body (xs.drop i) env sto
  | 0, i, env, sto, h => by
    have e : xs[i]? = none := List.getElem?_eq_none_iff.mpr (by omega)
    rw [List.drop_of_length_le (by omega)]
    simp [loopM, Src.view, e, runL]
  | f + 1, i, env, sto, h => by
    cases e : xs[i]? with
    | none =>
      rw [List.drop_of_length_le (List.getElem?_eq_none_iff.mp e)]
      simp [loopM, Src.view, e, runL]
    | some d =>
      have hl := (List.getElem?_eq_some_iff.mp e).1
      have hd : xs.drop i = d :: xs.drop (i + 1) := by
        rw [List.drop_eq_getElem_cons hl]
        rw [(List.getElem?_eq_some_iff.mp e).2]
      rw [hd]
      simp only [loopM, Src.view, e, runL]
      cases bindP p d env with
      | none => rfl
      | some env1 =>
        simp only
        cases body env1 sto <;> simp only [loopM_fix xs p ws body f (i + 1) _ _ (by omega)]
theorem sFor_fix {it : IM} {p : Pat} {ws : List Nat} {body : SM} {env : Env} {sto s : Sto} {xs : List DV} (h : it env sto = .ok (.fix xs) s) : sFor it p ws body env sto = runL p ws body xs (wipeE env ws) s := by
  unfold sFor
  rw [h]
  simp only [Res.out_ok]
  rw [loopM_fix xs p ws body _ _ _ _ (by simp [Src.len, Src.view])]
  rfl
/-- a loop whose state is a -/
theorem runL_fold {α β : Type} {p : Pat} {ws : List Nat} {body : SM} {enc : β → DV} {E : α → Env} {St : α → Sto} {step : α → β → α} (I : α → Prop) : ∀ (ys : List β) (a : α), I a →
    (∀ a, I a → ∀ y ∈ ys, I (step a y) ∧ ∃ e1, bindP p (enc y) (E a) = some e1 ∧ ∃ e2, body e1 (St a) = .nx e2 (St (step a y)) ∧ wipeE e2 ws = E (step a y)) →
    runL p ws body (ys.map enc) (E a) (St a) = .nx (E (ys.foldl step a)) (St (ys.foldl step a)) ∧ I (ys.foldl step a)
  | [], a, ha, _ => ⟨rfl, ha⟩
  | y :: ys, a, ha, h => by
    obtain ⟨h1, e1, h2, e2, h3, h4⟩ := h a ha y (by simp)
    simp only [List.map_cons, runL, h2, h3, h4, List.foldl_cons]
    exact runL_fold I ys (step a y) h1 fun a' ha' y' hy' => h a' ha' y' (by simp [hy'])
/-- a loop by an invariant over what is done -/
theorem runL_inv_aux {β : Type} {p : Pat} {ws : List Nat} {body : SM} {enc : β → DV} {xs : List β} (I : List β → Env → Sto → Prop)
    (hs : ∀ done y rest env sto, xs = done ++ y :: rest → I done env sto → ∃ e1, bindP p (enc y) env = some e1 ∧ ∃ e2 s2, body e1 sto = .nx e2 s2 ∧ I (done ++ [y]) (wipeE e2 ws) s2) :
    ∀ (ys done : List β) (env : Env) (sto : Sto), xs = done ++ ys → I done env sto → ∃ e s, runL p ws body (ys.map enc) env sto = .nx e s ∧ I xs e s
  | [], done, env, sto, hx, h => ⟨env, sto, rfl, by rw [hx]; simpa using h⟩
  | y :: ys, done, env, sto, hx, h => by
    obtain ⟨e1, h1, e2, s2, h2, h3⟩ := hs done y ys env sto hx h
    obtain ⟨e, s, h4, h5⟩ := runL_inv_aux I hs ys (done ++ [y]) (wipeE e2 ws) s2 (by simp [hx]) h3
    refine ⟨e, s, ?_, h5⟩
    simp only [List.map_cons, runL, h1, h2]
    exact h4
theorem runL_inv {β : Type} {p : Pat} {ws : List Nat} {body : SM} {enc : β → DV} {xs : List β} {env : Env} {sto : Sto} (I : List β → Env → Sto → Prop) (h0 : I [] env sto)
    (hs : ∀ done y rest env sto, xs = done ++ y :: rest → I done env sto → ∃ e1, bindP p (enc y) env = some e1 ∧ ∃ e2 s2, body e1 sto = .nx e2 s2 ∧ I (done ++ [y]) (wipeE e2 ws) s2) :
    ∃ e s, runL p ws body (xs.map enc) env sto = .nx e s ∧ I xs e s := runL_inv_aux I hs xs [] env sto (by simp) h0

/-! ### comprehensions -/
def compL (p : Pat) (test : TM) (elt : EM) (env : Env) : List DV → List DV → Sto → Res (List DV)
  | [], acc, sto => .ok acc sto
  | d :: ds, acc, sto => match bindP p d env with
    | some env1 => match test env1 sto with
      | .ok true s1 => match elt env1 s1 with
        | .ok y s2 => if acc.length < 1000000 then compL p test elt env ds (acc ++ [y]) s2 else .stuck
        | _ => .stuck
      | .ok false s1 => compL p test elt env ds acc s1
      | _ => .stuck
    | none => .stuck
theorem compM_fix (xs : List DV) (p : Pat) (test : TM) (elt : EM) (env : Env) : ∀ (f i : Nat) (acc : List DV) (sto : Sto), xs.length ≤ f + i → compM (.fix xs) p test elt env f i acc sto = compL p test elt env (xs.drop i) acc sto
  | 0, i, acc, sto, h => by
    have e : xs[i]? = none := List.getElem?_eq_none_iff.mpr (by omega)
    rw [List.drop_of_length_le (by omega)]
    simp [compM, Src.view, e, compL]
  | f + 1, i, acc, sto, h => by
    cases e : xs[i]? with
    | none =>
      rw [List.drop_of_length_le (List.getElem?_eq_none_iff.mp e)]
      simp [compM, Src.view, e, compL]
    | some d =>
      have hl := (List.getElem?_eq_some_iff.mp e).1
      have hd : xs.drop i = d :: xs.drop (i + 1) := by
        rw [List.drop_eq_getElem_cons hl]
        rw [(List.getElem?_eq_some_iff.mp e).2]
      rw [hd]
      simp only [compM, Src.view, e, compL]
      cases bindP p d env with
      | none => rfl
      | some env1 =>
        simp only
        cases test env1 sto with
        | stuck => rfl
        | exc c s => rfl
        | ok b s1 =>
          cases b with
          | false => simp only [compM_fix xs p test elt env f (i + 1) _ _ (by omega)]
          | true =>
            simp only
            cases elt env1 s1 with
            | stuck => rfl
            | exc c s => rfl
            | ok y s2 => simp only [compM_fix xs p test elt env f (i + 1) _ _ (by omega)]
theorem eComp_fix {b : Bool} {own : List Nat} {it : IM} {p : Pat} {test : TM} {elt : EM} {env : Env} {sto s : Sto} {xs : List DV} (h : it env sto = .ok (.fix xs) s) : eComp b own it p test elt env sto = (compL p test elt (wipeE env own) xs [] s).bind fun ds s2 => newL b ds s2 := by
  unfold eComp
  rw [h]
  simp only [Res.bind_ok]
  rw [compM_fix xs p test elt _ _ _ _ _ (by simp [Src.len, Src.view])]
  rfl
theorem compL_map {β : Type} {p : Pat} {test : TM} {elt : EM} {env : Env} {enc : β → DV} {b : β → Bool} {Y : β → DV} {sto : Sto} : ∀ (ys : List β) (acc : List DV), acc.length + ys.length ≤ 1000000 →
    (∀ y ∈ ys, ∃ e1, bindP p (enc y) env = some e1 ∧ test e1 sto = .ok (b y) sto ∧ (b y = true → elt e1 sto = .ok (Y y) sto)) →
    compL p test elt env (ys.map enc) acc sto = .ok (acc ++ (ys.filter b).map Y) sto
  | [], acc, _, _ => by simp [compL]
  | y :: ys, acc, hl, h => by
    obtain ⟨e1, h1, h2, h3⟩ := h y (by simp)
    simp only [List.length_cons] at hl
    simp only [List.map_cons, compL, h1, h2]
    cases hb : b y with
    | false =>
      simp only [hb, Bool.false_eq_true, not_false_eq_true, List.filter_cons_of_neg]
      exact compL_map ys acc (by omega) fun y' hy => h y' (by simp [hy])
    | true =>
      simp only [h3 hb, hb, List.filter_cons_of_pos, List.map_cons]
      rw [if_pos (by omega), compL_map ys (acc ++ [Y y]) (by simp; omega) fun y' hy => h y' (by simp [hy])]
      simp
/-- a comprehension without tests, over mapped items -/
theorem comp_map {β : Type} {bb : Bool} {own : List Nat} {it : IM} {p : Pat} {elt : EM} {env : Env} {enc : β → DV} {Y : β → DV} {sto s : Sto} {ys : List β} (hi : it env sto = .ok (.fix (ys.map enc)) s) (hl : ys.length ≤ 1000000)
    (h : ∀ y ∈ ys, ∃ e1, bindP p (enc y) (wipeE env own) = some e1 ∧ elt e1 s = .ok (Y y) s) : eComp bb own it p tYes1 elt env sto = newL bb (ys.map Y) s := by
  rw [eComp_fix hi, compL_map (b := fun _ => true) (Y := Y) ys [] (by simpa using hl) fun y hy => by
    obtain ⟨e1, h1, h2⟩ := h y hy
    exact ⟨e1, h1, rfl, fun _ => h2⟩]
  have e : ys.filter (fun _ => true) = ys := List.filter_eq_self.mpr (by simp)
  simp [e]
theorem comp_filter {β : Type} {bb : Bool} {own : List Nat} {it : IM} {p : Pat} {test : TM} {elt : EM} {env : Env} {enc : β → DV} {b : β → Bool} {Y : β → DV} {sto s : Sto} {ys : List β} (hi : it env sto = .ok (.fix (ys.map enc)) s) (hl : ys.length ≤ 1000000)
    (h : ∀ y ∈ ys, ∃ e1, bindP p (enc y) (wipeE env own) = some e1 ∧ test e1 s = .ok (b y) s ∧ (b y = true → elt e1 s = .ok (Y y) s)) : eComp bb own it p test elt env sto = newL bb ((ys.filter b).map Y) s := by
  rw [eComp_fix hi, compL_map (b := b) (Y := Y) ys [] (by simpa using hl) h]
  simp
@[simp] theorem noLocL_nil : noLocL [] = true := by rw [noLocL]
@[simp] theorem noLocL_cons (d : DV) (ds : List DV) : noLocL (d :: ds) = (noLoc d && noLocL ds) := by rw [noLocL]
@[simp] theorem noLoc_non : noLoc .non = true := by simp [noLoc]
@[simp] theorem noLoc_int (i : Int) : noLoc (.int i) = true := by simp [noLoc]
@[simp] theorem noLoc_bl (i : Bool) : noLoc (.bl i) = true := by simp [noLoc]
@[simp] theorem noLoc_str (i : Str) : noLoc (.str i) = true := by simp [noLoc]
@[simp] theorem noLoc_scr (i : List Int) : noLoc (.scr i) = true := by simp [noLoc]
@[simp] theorem noLoc_tup (ds : List DV) : noLoc (.tup ds) = noLocL ds := by rw [noLoc]
@[simp] theorem noLoc_lst (g : Bool) (ds : List DV) : noLoc (.lstG g ds) = noLocL ds := by rw [noLoc]
@[simp] theorem noLoc_dic (g : Bool) (ks : List (List Key)) (ds : List DV) : noLoc (.dicG g ks ds) = noLocL ds := by rw [noLoc]
@[simp] theorem noLoc_ins (g : Bool) (c : Nat) (ns : List Str) (ds : List DV) : noLoc (.insG g c ns ds) = noLocL ds := by rw [noLoc]
@[simp] theorem noLocL_ints (ns : List Int) : noLocL (ns.map DV.int) = true := noLocL_map (fun _ => by simp) ns
@[simp] theorem cleanL_nil : cleanL [] = true := by rw [cleanL]
@[simp] theorem cleanL_cons (d : DV) (ds : List DV) : cleanL (d :: ds) = (clean d && cleanL ds) := by rw [cleanL]
@[simp] theorem clean_non : clean .non = true := by simp [clean]
@[simp] theorem clean_int (i : Int) : clean (.int i) = true := by simp [clean]
@[simp] theorem clean_bl (i : Bool) : clean (.bl i) = true := by simp [clean]
@[simp] theorem clean_str (i : Str) : clean (.str i) = true := by simp [clean]
@[simp] theorem clean_scr (i : List Int) : clean (.scr i) = true := by simp [clean]
@[simp] theorem clean_tup (ds : List DV) : clean (.tup ds) = cleanL ds := by rw [clean]
@[simp] theorem clean_lst (g : Bool) (ds : List DV) : clean (.lstG g ds) = (!g && cleanL ds) := by rw [clean]
@[simp] theorem clean_dic (g : Bool) (ks : List (List Key)) (ds : List DV) : clean (.dicG g ks ds) = (!g && cleanL ds) := by rw [clean]
@[simp] theorem clean_ins (g : Bool) (c : Nat) (ns : List Str) (ds : List DV) : clean (.insG g c ns ds) = (!g && cleanL ds) := by rw [clean]
@[simp] theorem cleanL_ints (ns : List Int) : cleanL (ns.map DV.int) = true := cleanL_map (fun _ => by simp) ns
mutual
theorem frzW_id (look : Nat → Option DV) : ∀ d : DV, clean d = true → frzW false look d = some d
  | .non, _ => by simp [frzW]
  | .bl b, _ => by simp [frzW]
  | .int i, _ => by simp [frzW]
  | .str x, _ => by simp [frzW]
  | .ty x, _ => by simp [frzW]
  | .cls x, _ => by simp [frzW]
  | .scr x, _ => by simp [frzW]
  | .tup ds, h => by simp [frzW, frzWL_id look ds (by simpa using h)]
  | .lstG g ds, h => by simp at h; simp [frzW, frzWL_id look ds h.2, h.1]
  | .dicG g ks ds, h => by simp at h; simp [frzW, frzWL_id look ds h.2, h.1]
  | .insG g c ns ds, h => by simp at h; simp [frzW, frzWL_id look ds h.2, h.1]
  | .loc n, h => by simp [clean] at h
theorem frzWL_id (look : Nat → Option DV) : ∀ ds : List DV, cleanL ds = true → frzWL false look ds = some ds
  | [], _ => by simp [frzWL]
  | d :: ds, h => by
    simp only [cleanL_cons, Bool.and_eq_true] at h
    simp [frzWL, frzW_id look d h.1, frzWL_id look ds h.2]
end
mutual
theorem lendW_id (look : Nat → Option DV) : ∀ d : DV, noLoc d = true → frzW true look d = some d
  | .non, _ => by simp [frzW]
  | .bl b, _ => by simp [frzW]
  | .int i, _ => by simp [frzW]
  | .str x, _ => by simp [frzW]
  | .ty x, _ => by simp [frzW]
  | .cls x, _ => by simp [frzW]
  | .scr x, _ => by simp [frzW]
  | .tup ds, h => by simp [frzW, lendWL_id look ds (by simpa using h)]
  | .lstG g ds, h => by simp [frzW, lendWL_id look ds (by simpa using h)]
  | .dicG g ks ds, h => by simp [frzW, lendWL_id look ds (by simpa using h)]
  | .insG g c ns ds, h => by simp [frzW, lendWL_id look ds (by simpa using h)]
  | .loc n, h => by simp [noLoc] at h
theorem lendWL_id (look : Nat → Option DV) : ∀ ds : List DV, noLocL ds = true → frzWL true look ds = some ds
  | [], _ => by simp [frzWL]
  | d :: ds, h => by
    simp only [noLocL_cons, Bool.and_eq_true] at h
    simp [frzWL, lendW_id look d h.1, lendWL_id look ds h.2]
end
theorem lend_id {sto : Sto} {ds : List DV} (h : noLocL ds = true) : lend sto ds = some ds := lendWL_id _ ds h
theorem frz_id {sto : Sto} {d : DV} (h : clean d = true) : frz sto d = some d := frzW_id _ d h
/-- a body's end -/
theorem runP_rt {n : Nat} {N : List Str} {m : SM} {ds : List DV} {d : DV} {sto : Sto} (hl : ds.length = n) (h : m (startE N ds) [] = .rt d sto) (hd : clean d = true) : runP n N m ds = .ok d := by
  unfold runP
  rw [if_pos hl, h]
  simp [endsP, frz_id hd]
theorem runP_frz {n : Nat} {N : List Str} {m : SM} {ds : List DV} {d D : DV} {sto : Sto} (hl : ds.length = n) (h : m (startE N ds) [] = .rt d sto) (hd : frz sto d = some D) : runP n N m ds = .ok D := by
  unfold runP
  rw [if_pos hl, h]
  simp [endsP, hd]
theorem runP_nx {n : Nat} {N : List Str} {m : SM} {ds : List DV} {e : Env} {sto : Sto} (hl : ds.length = n) (h : m (startE N ds) [] = .nx e sto) : runP n N m ds = .ok .non := by
  unfold runP
  rw [if_pos hl, h]
  simp [endsP]

theorem shaped_int (k : Int) : SeqAt.shaped (.int k) = true := by simp [SeqAt.shaped, PyData.canLay0, PyData.depth]
@[simp] theorem oEq_int (i j : Int) (sto : Sto) : oEq (.int i) (.int j) sto = .ok (.bl (decide (i = j))) sto := by
  simp only [oEq, py, pyW, shaped_int, and_self, if_true, PyData.eqv]
  congr
@[simp] theorem oNe_int (i j : Int) (sto : Sto) : oNe (.int i) (.int j) sto = .ok (.bl (!decide (i = j))) sto := by
  simp only [oNe, py, pyW, shaped_int, and_self, if_true, PyData.eqv]
  congr

section
variable {a b : SM} {p : Pat} {m ma mb : EM} {t : AM} {tt : TM} {env e : Env} {sto s s1 s2 : Sto} {d x y : DV} {ds : List DV} {f : DV → DV → Sto → Res DV} {g : List DV → Sto → Res DV}
theorem sSeq_nx (h : a env sto = .nx e s) : sSeq a b env sto = b e s := by simp [sSeq, h]
theorem sSeq_rt (h : a env sto = .rt d s) : sSeq a b env sto = .rt d s := by simp [sSeq, h]
theorem sAsg_ok (h : m env sto = .ok d s) (hb : bindP p d env = some e) : sAsg p m env sto = .nx e s := by simp [sAsg, h, hb]
theorem sExpr_ok (h : m env sto = .ok d s) : sExpr m env sto = .nx env s := by simp [sExpr, h]
theorem sRet_ok (h : m env sto = .ok d s) : sRet m env sto = .rt d s := by simp [sRet, h]
theorem sIf_ok {c : Bool} (h : tt env sto = .ok c s) : sIf tt a b env sto = if c = true then a env s else b env s := by simp [sIf, h]
theorem eOp_ok (ha : ma env sto = .ok x s1) (hb : mb env s1 = .ok y s2) : eOp f ma mb env sto = f x y s2 := by simp [eOp, ha, hb]
theorem eCB_ok (h : t env sto = .ok ds s) : eCB g t env sto = g ds s := by simp [eCB, h]
theorem aCons_ok (h : m env sto = .ok d s1) (ht : t env s1 = .ok ds s2) : aCons m t env sto = .ok (d :: ds) s2 := by simp [aCons, h, ht]
theorem a1_ok (h : m env sto = .ok d s1) : aCons m aNil env sto = .ok [d] s1 := by simp [aCons, aNil, h]
theorem eCall_ok {G : List DV → PR} {D : DV} (h : t env sto = .ok ds s) (hn : noLocL ds = true) (hG : G ds = .ok D) : eCall G t env sto = .ok D s := by simp [eCall, eCallT, liftP, h, lend_id hn, hG]
theorem iSeq_lst {gg : Bool} (h : m env sto = .ok (.lstG gg ds) s) : iSeq m env sto = .ok (.fix ds) s := by simp [iSeq, h, srcOf]
theorem iSeq_tup (h : m env sto = .ok (.tup ds) s) : iSeq m env sto = .ok (.fix ds) s := by simp [iSeq, h, srcOf]
theorem sAug_ok {i : Nat} {z : DV} (hx : env[i]? = some (some x)) (h : m env sto = .ok y s1) (hf : f x y s1 = .ok z s2) : sAug i f m env sto = .nx (env.set i (some z)) s2 := by simp [sAug, hx, h, hf]
end

/-- a loop that makes a list longer -/
theorem runL_ext {β : Type} {p : Pat} {ws : List Nat} {body : SM} {enc : β → DV} {E : Env} {St : List DV → Sto} {f : β → List DV} {n M : Nat} : ∀ (ys : List β) (acc : List DV), (∀ y ∈ ys, (f y).length ≤ n) → acc.length + ys.length * n ≤ M →
    (∀ acc y, y ∈ ys → acc.length + n ≤ M → ∃ e1, bindP p (enc y) E = some e1 ∧ ∃ e2, body e1 (St acc) = .nx e2 (St (acc ++ f y)) ∧ wipeE e2 ws = E) →
    runL p ws body (ys.map enc) E (St acc) = .nx E (St (acc ++ ys.flatMap f))
  | [], acc, _, _, _ => by simp [runL]
  | y :: ys, acc, hn, hM, h => by
    simp only [List.length_cons, Nat.add_mul, Nat.one_mul] at hM
    obtain ⟨e1, h1, e2, h2, h3⟩ := h acc y (by simp) (by omega)
    have hy := hn y (by simp)
    simp only [List.map_cons, runL, h1, h2, h3]
    rw [runL_ext ys (acc ++ f y) (fun z hz => hn z (by simp [hz])) (by simp; omega) fun a z hz => h a z (by simp [hz])]
    simp
theorem flatMap_len {α β : Type} {f : α → List β} {n : Nat} : ∀ {xs : List α}, (∀ x ∈ xs, (f x).length ≤ n) → (xs.flatMap f).length ≤ xs.length * n
  | [], _ => by simp
  | x :: xs, h => by
    simp only [List.flatMap_cons, List.length_append, List.length_cons, Nat.add_mul, Nat.one_mul]
    have := h x (by simp)
    have := flatMap_len (xs := xs) fun y hy => h y (by simp [hy])
    omega
theorem wipeE_idem {E : Env} : ∀ {ws : List Nat}, (∀ w ∈ ws, E[w]? = some none ∨ E[w]? = none) → wipeE E ws = E
  | [], _ => rfl
  | w :: ws, h => by
    simp only [wipeE_cons]
    rw [wipeE_idem fun v hv => h v (by simp [hv])]
    apply List.ext_getElem?
    intro i
    by_cases e : w = i
    · subst e
      rcases h w (by simp) with q | q
      · rw [q, List.getElem?_set_self (List.getElem?_eq_some_iff.mp q).1]
      · rw [q, List.getElem?_eq_none (by simpa using List.getElem?_eq_none_iff.mp q)]
    · rw [List.getElem?_set_ne e]
end BB
namespace BB
open PySem PySem.Spec PyProof.Rows L2
def clsF : Nat → List Str
  | 5 => ["bar", "most", "parts", "paid", "done"]
  | _ => []
def clsB : Nat → Nat → Option Bool
  | _, _ => none
def exB (c d : Nat) : Option Bool := if 10 < c ∧ c < 19 then (if d = 1001 then some true else if d = 10 then some true else if 10 < d ∧ d < 19 then some (decide (c = d)) else none) else none
def exm_BarError (c : Nat) : Option Bool := if 10 < c ∧ c < 19 then some true else none
abbrev N_is_whole : List Str := ["thing"]
def m_is_whole : SM :=
  (sRet (eAnd (eCB fIsi (aCons (eVar 0) (aCons (eC (.ty "int")) aNil))) (eNot (eCB fIsi (aCons (eVar 0) (aCons (eC (.ty "bool")) aNil))))))
def G_is_whole : List DV → PR := runP 1 N_is_whole m_is_whole
abbrev N_is_between : List Str := ["thing", "least", "most"]
def m_is_between : SM :=
  (sRet (eAnd (eCall G_is_whole (aCons (eVar 0) aNil)) (eChain oLe oLe (eVar 1) (eVar 0) (eVar 2))))
def G_is_between : List DV → PR := runP 3 N_is_between m_is_between
abbrev N_are_prices : List Str := ["thing", "price"]
def m_are_prices : SM :=
  (sSeq (sIf (tOr (tNot (tBl (eCB fIsi (aCons (eVar 0) (aCons (eC (.ty "list")) aNil))))) (tBl (eOp oGt (eCB fLen (aCons (eVar 0) aNil)) (eC (.int 4))))) (sRet (eC (.bl false))) sNil)
    (sRet (eCB fAll (aCons (eComp false [1] (iSeq (eVar 0)) (.nm 1) tYes1 (eCall G_is_between (aCons (eVar 1) (aCons (eC (.int 1)) (aCons (eC (.int 9)) aNil))))) aNil))))
def G_are_prices : List DV → PR := runP 1 N_are_prices m_are_prices
abbrev N_is_cell : List Str := ["thing", "wide", "high"]
def m_is_cell : SM :=
  (sSeq (sIf (tOr (tNot (tBl (eCB fIsi (aCons (eVar 0) (aCons (eC (.ty "tuple")) aNil))))) (tBl (eOp oNe (eCB fLen (aCons (eVar 0) aNil)) (eC (.int 2))))) (sRet (eC (.bl false))) sNil)
    (sRet (eAnd (eCall G_is_between (aCons (eIx (eVar 0) (eC (.int 0))) (aCons (eC (.int 0)) (aCons (eVar 1) aNil)))) (eCall G_is_between (aCons (eIx (eVar 0) (eC (.int 1))) (aCons (eC (.int 0)) (aCons (eVar 2) aNil)))))))
def G_is_cell : List DV → PR := runP 3 N_is_cell m_is_cell
abbrev N_check_bar : List Str := ["bar", "one", "other", "nut"]
def m_check_bar : SM :=
  (sSeq (sIf (tOr (tNot (tBl (eCB fIsi (aCons (eVar 0) (aCons (eC (.ty "tuple")) aNil))))) (tOr (tBl (eOp oNe (eCB fLen (aCons (eVar 0) aNil)) (eC (.int 3)))) (tOr (tNot (tBl (eCall G_are_prices (aCons (eIx (eVar 0) (eC (.int 0))) aNil)))) (tNot (tBl (eCall G_are_prices (aCons (eIx (eVar 0) (eC (.int 1))) aNil))))))) (sRaise 11) sNil)
    (sSeq (sIf (tOr (tNot (tBl (eCB fIsi (aCons (eIx (eVar 0) (eC (.int 2))) (aCons (eC (.ty "list")) aNil))))) (tNot (tBl (eCB fAll (aCons (eComp false [3] (iSeq (eIx (eVar 0) (eC (.int 2)))) (.nm 3) tYes1 (eCall G_is_cell (aCons (eVar 3) (aCons (eCB fLen (aCons (eIx (eVar 0) (eC (.int 0))) aNil)) (aCons (eCB fLen (aCons (eIx (eVar 0) (eC (.int 1))) aNil)) aNil))))) aNil))))) (sRaise 11) sNil)
    (sIf (tBl (eCB fAny (aCons (eComp false [1, 2] (iZip (aCons (eIx (eVar 0) (eC (.int 2))) (aCons (eSl false (eIx (eVar 0) (eC (.int 2))) (pSome (eC (.int 1))) pNone) aNil))) (.tp [(.nm 1), (.nm 2)]) tYes1 (eOp oGe (eVar 1) (eVar 2))) aNil))) (sRaise 11) sNil)))
def G_check_bar : List DV → PR := runP 1 N_check_bar m_check_bar
abbrev N_check_both : List Str := ["bar", "most"]
def m_check_both : SM :=
  (sSeq (sExpr (eCall G_check_bar (aCons (eVar 0) aNil)))
    (sIf (tNot (tBl (eCall G_is_between (aCons (eVar 1) (aCons (eC (.int 1)) (aCons (eC (.int 3)) aNil)))))) (sRaise 12) sNil))
def G_check_both : List DV → PR := runP 2 N_check_both m_check_both
abbrev N_whole_of : List Str := ["bar"]
def m_whole_of : SM :=
  (sRet (eTup (aCons (eC (.int 0)) (aCons (eC (.int 0)) (aCons (eOp (oAdd false) (eCB fLen (aCons (eIx (eVar 0) (eC (.int 0))) aNil)) (eC (.int 1))) (aCons (eOp (oAdd false) (eCB fLen (aCons (eIx (eVar 0) (eC (.int 1))) aNil)) (eC (.int 1))) aNil))))))
def G_whole_of : List DV → PR := runP 1 N_whole_of m_whole_of
abbrev N_Slab___init__ : List Str := ["self", "bar", "most"]
def m_Slab___init__ : SM :=
  (sSeq (sExpr (eCall G_check_both (aCons (eVar 1) (aCons (eVar 2) aNil))))
    (sSeq (sFld clsF "bar" (eVar 0) (eTup (aCons (eCB (fList true) (aCons (eIx (eVar 1) (eC (.int 0))) aNil)) (aCons (eCB (fList true) (aCons (eIx (eVar 1) (eC (.int 1))) aNil)) (aCons (eCB (fList false) (aCons (eIx (eVar 1) (eC (.int 2))) aNil)) aNil)))))
    (sSeq (sFld clsF "most" (eVar 0) (eVar 2))
    (sSeq (sFld clsF "parts" (eVar 0) (eLst false (aCons (eCall G_whole_of (aCons (eVar 1) aNil)) aNil)))
    (sSeq (sFld clsF "paid" (eVar 0) (eC (.int 0)))
    (sFld clsF "done" (eVar 0) (eLst true aNil)))))))
def T_Slab___init__ : TF := runT 3 N_Slab___init__ m_Slab___init__
abbrev N_Slab_pieces : List Str := ["self"]
def m_Slab_pieces : SM :=
  (sRet (eCB (fList false) (aCons (eFld clsF "parts" (eVar 0)) aNil)))
def G_Slab_pieces : List DV → PR := runP 1 N_Slab_pieces m_Slab_pieces
abbrev N_Slab_plan : List Str := ["self"]
def m_Slab_plan : SM :=
  (sRet (eCB (fList false) (aCons (eFld clsF "done" (eVar 0)) aNil)))
def G_Slab_plan : List DV → PR := runP 1 N_Slab_plan m_Slab_plan
abbrev N_Slab_spent : List Str := ["self"]
def m_Slab_spent : SM :=
  (sRet (eFld clsF "paid" (eVar 0)))
def G_Slab_spent : List DV → PR := runP 1 N_Slab_spent m_Slab_spent
abbrev N_size_of : List Str := ["piece"]
def m_size_of : SM :=
  (sRet (eOp (oMul false) (eOp oSub (eIx (eVar 0) (eC (.int 2))) (eIx (eVar 0) (eC (.int 0)))) (eOp oSub (eIx (eVar 0) (eC (.int 3))) (eIx (eVar 0) (eC (.int 1))))))
def G_size_of : List DV → PR := runP 1 N_size_of m_size_of
abbrev N_pieces_of : List Str := ["bar", "left", "top", "right", "bottom", "found", "one", "row", "other", "last"]
def m_pieces_of : SM :=
  (sSeq (sAsg (.tp [(.nm 1), (.nm 2), (.nm 3), (.nm 4)]) (eCall G_whole_of (aCons (eVar 0) aNil)))
    (sSeq (sAsg (.nm 5) (eLst true aNil))
    (sSeq (sFor (iRange1 (aCons (eVar 3) aNil)) (.nm 6) [6, 7, 8] (sFor (iRange1 (aCons (eVar 4) aNil)) (.nm 7) [7, 8] (sFor (iRange2 (aCons (eOp (oAdd false) (eVar 6) (eC (.int 1))) (aCons (eOp (oAdd false) (eVar 3) (eC (.int 1))) aNil))) (.nm 8) [8] (sExpr (eBM mExtend (eVar 5) (aCons (eComp false [9] (iRange2 (aCons (eOp (oAdd false) (eVar 7) (eC (.int 1))) (aCons (eOp (oAdd false) (eVar 4) (eC (.int 1))) aNil))) (.nm 9) tYes1 (eTup (aCons (eVar 6) (aCons (eVar 7) (aCons (eVar 8) (aCons (eVar 9) aNil)))))) aNil))))))
    (sRet (eVar 5)))))
def G_pieces_of : List DV → PR := runP 1 N_pieces_of m_pieces_of
abbrev N_by_size : List Str := ["bar", "size", "piece"]
def m_by_size : SM :=
  (sRet (eComp false [1, 2] (iSeq (eCB (fSorted false) (aCons (eComp false [2] (iSeq (eCall G_pieces_of (aCons (eVar 0) aNil))) (.nm 2) tYes1 (eTup (aCons (eCall G_size_of (aCons (eVar 2) aNil)) (aCons (eVar 2) aNil)))) aNil))) (.tp [(.nm 1), (.nm 2)]) tYes1 (eVar 2)))
def G_by_size : List DV → PR := runP 1 N_by_size m_by_size
abbrev N_nuts_in : List Str := ["bar", "piece", "nut"]
def m_nuts_in : SM :=
  (sRet (eCB fLen (aCons (eComp false [2] (iSeq (eIx (eVar 0) (eC (.int 2)))) (.nm 2) (tAnd (tBl (eChain oLe oLt (eIx (eVar 1) (eC (.int 0))) (eIx (eVar 2) (eC (.int 0))) (eIx (eVar 1) (eC (.int 2))))) (tBl (eChain oLe oLt (eIx (eVar 1) (eC (.int 1))) (eIx (eVar 2) (eC (.int 1))) (eIx (eVar 1) (eC (.int 3)))))) (eVar 2)) aNil)))
def G_nuts_in : List DV → PR := runP 2 N_nuts_in m_nuts_in
abbrev N_lines_in : List Str := ["piece", "found", "line"]
def m_lines_in : SM :=
  (sSeq (sAsg (.nm 1) (eComp false [2] (iRange2 (aCons (eOp (oAdd false) (eIx (eVar 0) (eC (.int 0))) (eC (.int 1))) (aCons (eIx (eVar 0) (eC (.int 2))) aNil))) (.nm 2) tYes1 (eTup (aCons (eC (.int 0)) (aCons (eVar 2) aNil)))))
    (sRet (eOp (oAdd false) (eVar 1) (eComp false [2] (iRange2 (aCons (eOp (oAdd false) (eIx (eVar 0) (eC (.int 1))) (eC (.int 1))) (aCons (eIx (eVar 0) (eC (.int 3))) aNil))) (.nm 2) tYes1 (eTup (aCons (eC (.int 1)) (aCons (eVar 2) aNil)))))))
def G_lines_in : List DV → PR := runP 1 N_lines_in m_lines_in
abbrev N_parts_of : List Str := ["piece", "way", "line", "left", "top", "right", "bottom"]
def m_parts_of : SM :=
  (sSeq (sAsg (.tp [(.nm 3), (.nm 4), (.nm 5), (.nm 6)]) (eVar 0))
    (sSeq (sIf (tBl (eOp oEq (eVar 1) (eC (.int 0)))) (sRet (eTup (aCons (eTup (aCons (eVar 3) (aCons (eVar 4) (aCons (eVar 2) (aCons (eVar 6) aNil))))) (aCons (eTup (aCons (eVar 2) (aCons (eVar 4) (aCons (eVar 5) (aCons (eVar 6) aNil))))) aNil)))) sNil)
    (sRet (eTup (aCons (eTup (aCons (eVar 3) (aCons (eVar 4) (aCons (eVar 5) (aCons (eVar 2) aNil))))) (aCons (eTup (aCons (eVar 3) (aCons (eVar 2) (aCons (eVar 5) (aCons (eVar 6) aNil))))) aNil))))))
def G_parts_of : List DV → PR := runP 3 N_parts_of m_parts_of
abbrev N_price_of : List Str := ["bar", "way", "line"]
def m_price_of : SM :=
  (sRet (eIx (eIx (eVar 0) (eVar 1)) (eOp oSub (eVar 2) (eC (.int 1)))))
def G_price_of : List DV → PR := runP 3 N_price_of m_price_of
abbrev N_costs_of : List Str := ["bar", "most", "costs", "ways", "piece", "best", "many", "way", "line", "one", "other", "cost"]
def m_costs_of : SM :=
  (sSeq (sPar 2 3 (aCons eDicT (aCons eDicT aNil)))
    (sSeq (sFor (iSeq (eCall G_by_size (aCons (eVar 0) aNil))) (.nm 4) [4, 5, 6, 7, 8, 9, 10, 11] (sSeq (sPutT [((eVar 2), (eVar 4)), ((eVar 3), (eVar 4))] (eTup (aCons (eC (.int 0)) (aCons (eC (.int 1)) aNil))))
    (sIf (tBl (eOp oGt (eCall G_nuts_in (aCons (eVar 0) (aCons (eVar 4) aNil))) (eVar 1))) (sSeq (sAsg (.tp [(.nm 5), (.nm 6)]) (eTup (aCons (eUn uNeg (eC (.int 1))) (aCons (eC (.int 0)) aNil))))
    (sSeq (sFor (iSeq (eCall G_lines_in (aCons (eVar 4) aNil))) (.tp [(.nm 7), (.nm 8)]) [7, 8, 9, 10, 11] (sSeq (sAsg (.tp [(.nm 9), (.nm 10)]) (eCall G_parts_of (aCons (eVar 4) (aCons (eVar 7) (aCons (eVar 8) aNil)))))
    (sSeq (sAsg (.nm 11) (eOp (oAdd false) (eOp (oAdd false) (eCall G_price_of (aCons (eVar 0) (aCons (eVar 7) (aCons (eVar 8) aNil)))) (eIx (eVar 2) (eVar 9))) (eIx (eVar 2) (eVar 10))))
    (sSeq (sIf (tOr (tBl (eOp oLt (eVar 5) (eC (.int 0)))) (tBl (eOp oLt (eVar 11) (eVar 5)))) (sPar 5 6 (aCons (eVar 11) (aCons (eC (.int 0)) aNil))) sNil)
    (sIf (tBl (eOp oEq (eVar 11) (eVar 5))) (sAug 6 oAddI (eOp (oMul false) (eIx (eVar 3) (eVar 9)) (eIx (eVar 3) (eVar 10)))) sNil)))))
    (sPutT [((eVar 2), (eVar 4)), ((eVar 3), (eVar 4))] (eTup (aCons (eVar 5) (aCons (eVar 6) aNil)))))) sNil)))
    (sRet (eTup (aCons (eVar 2) (aCons (eVar 3) aNil))))))
def G_costs_of : List DV → PR := runP 2 N_costs_of m_costs_of
abbrev N_Slab_owed : List Str := ["self", "known", "piece"]
def m_Slab_owed : SM :=
  (sSeq (sAsg (.nm 1) (eIx (eCall G_costs_of (aCons (eFld clsF "bar" (eVar 0)) (aCons (eFld clsF "most" (eVar 0)) aNil))) (eC (.int 0))))
    (sRet (eCB fSum (aCons (eComp false [2] (iSeq (eFld clsF "parts" (eVar 0))) (.nm 2) tYes1 (eIx (eVar 1) (eVar 2))) aNil))))
def G_Slab_owed : List DV → PR := runP 1 N_Slab_owed m_Slab_owed
abbrev N_Slab_bar_now : List Str := ["self"]
def m_Slab_bar_now : SM :=
  (sRet (eTup (aCons (eCB (fList false) (aCons (eIx (eFld clsF "bar" (eVar 0)) (eC (.int 0))) aNil)) (aCons (eCB (fList false) (aCons (eIx (eFld clsF "bar" (eVar 0)) (eC (.int 1))) aNil)) (aCons (eCB (fList false) (aCons (eIx (eFld clsF "bar" (eVar 0)) (eC (.int 2))) aNil)) aNil)))))
def G_Slab_bar_now : List DV → PR := runP 1 N_Slab_bar_now m_Slab_bar_now
abbrev N_Slab_helpful : List Str := ["self", "known", "piece", "way", "line", "one", "other"]
def m_Slab_helpful : SM :=
  (sSeq (sAsg (.nm 1) (eIx (eCall G_costs_of (aCons (eFld clsF "bar" (eVar 0)) (aCons (eFld clsF "most" (eVar 0)) aNil))) (eC (.int 0))))
    (sSeq (sFor (iSeq (eFld clsF "parts" (eVar 0))) (.nm 2) [2, 3, 4, 5, 6] (sIf (tBl (eOp oGt (eCall G_nuts_in (aCons (eFld clsF "bar" (eVar 0)) (aCons (eVar 2) aNil))) (eFld clsF "most" (eVar 0)))) (sFor (iSeq (eCall G_lines_in (aCons (eVar 2) aNil))) (.tp [(.nm 3), (.nm 4)]) [3, 4, 5, 6] (sSeq (sAsg (.tp [(.nm 5), (.nm 6)]) (eCall G_parts_of (aCons (eVar 2) (aCons (eVar 3) (aCons (eVar 4) aNil)))))
    (sIf (tBl (eOp oEq (eIx (eVar 1) (eVar 2)) (eOp (oAdd false) (eOp (oAdd false) (eCall G_price_of (aCons (eFld clsF "bar" (eVar 0)) (aCons (eVar 3) (aCons (eVar 4) aNil)))) (eIx (eVar 1) (eVar 5))) (eIx (eVar 1) (eVar 6))))) (sRet (eTup (aCons (eVar 2) (aCons (eVar 3) (aCons (eVar 4) aNil))))) sNil))) sNil))
    (sRet (eC .non))))
def G_Slab_helpful : List DV → PR := runP 1 N_Slab_helpful m_Slab_helpful
abbrev N__law_state : List Str := ["_law_slab"]
def m__law_state : SM :=
  (sRet (eLst false (aCons (eMeth [(5, (liftP G_Slab_pieces))] "pieces" (eVar 0) aNil) (aCons (eMeth [(5, (liftP G_Slab_plan))] "plan" (eVar 0) aNil) (aCons (eMeth [(5, (liftP G_Slab_spent))] "spent" (eVar 0) aNil) (aCons (eMeth [(5, (liftP G_Slab_owed))] "owed" (eVar 0) aNil) (aCons (eMeth [(5, (liftP G_Slab_bar_now))] "bar_now" (eVar 0) aNil) (aCons (eMeth [(5, (liftP G_Slab_helpful))] "helpful" (eVar 0) aNil) aNil))))))))
def G__law_state : List DV → PR := runP 1 N__law_state m__law_state
abbrev N_broken : List Str := ["pieces", "one", "parts", "piece"]
def m_broken : SM :=
  (sSeq (sAsg (.nm 2) (eCall G_parts_of (aCons (eSl false (eVar 1) pNone (pSome (eC (.int 4)))) (aCons (eIx (eVar 1) (eC (.int 4))) (aCons (eIx (eVar 1) (eC (.int 5))) aNil)))))
    (sRet (eCB (fSorted false) (aCons (eOp (oAdd false) (eComp false [3] (iSeq (eVar 0)) (.nm 3) (tBl (eOp oNe (eVar 3) (eSl false (eVar 1) pNone (pSome (eC (.int 4)))))) (eVar 3)) (eLst false (aCons (eIx (eVar 2) (eC (.int 0))) (aCons (eIx (eVar 2) (eC (.int 1))) aNil)))) aNil))))
def G_broken : List DV → PR := runP 2 N_broken m_broken
abbrev N_Slab_snap : List Str := ["self", "piece", "way", "line", "one"]
def m_Slab_snap : SM :=
  (sSeq (sIf (tOr (tNot (tBl (eCB fIsi (aCons (eVar 1) (aCons (eC (.ty "tuple")) aNil))))) (tOr (tBl (eOp oNe (eCB fLen (aCons (eVar 1) aNil)) (eC (.int 4)))) (tNot (tBl (eCB fAll (aCons (eComp false [4] (iSeq (eVar 1)) (.nm 4) tYes1 (eCall G_is_whole (aCons (eVar 4) aNil))) aNil)))))) (sRaise 15) sNil)
    (sSeq (sIf (tBl (eOp oNotIn (eVar 1) (eFld clsF "parts" (eVar 0)))) (sRaise 15) sNil)
    (sSeq (sIf (tOr (tNot (tBl (eCall G_is_whole (aCons (eVar 2) aNil)))) (tOr (tNot (tBl (eCall G_is_whole (aCons (eVar 3) aNil)))) (tBl (eOp oNotIn (eTup (aCons (eVar 2) (aCons (eVar 3) aNil))) (eCall G_lines_in (aCons (eVar 1) aNil)))))) (sRaise 16) sNil)
    (sSeq (sFld clsF "parts" (eVar 0) (eCall G_broken (aCons (eFld clsF "parts" (eVar 0)) (aCons (eOp (oAdd false) (eVar 1) (eTup (aCons (eVar 2) (aCons (eVar 3) aNil)))) aNil))))
    (sSeq (sFldAug clsF "paid" (eVar 0) (eCall G_price_of (aCons (eFld clsF "bar" (eVar 0)) (aCons (eVar 2) (aCons (eVar 3) aNil)))))
    (sSeq (sExpr (eBM mAppend (eFld clsF "done" (eVar 0)) (aCons (eOp (oAdd false) (eVar 1) (eTup (aCons (eVar 2) (aCons (eVar 3) aNil)))) aNil)))
    (sRet (eMeth [(5, (liftP G_Slab_owed))] "owed" (eVar 0) aNil))))))))
def T_Slab_snap : TF := runT 4 N_Slab_snap m_Slab_snap
abbrev N_Slab_nut : List Str := ["self", "column", "row", "cell"]
def m_Slab_nut : SM :=
  (sSeq (sAsg (.nm 3) (eTup (aCons (eVar 1) (aCons (eVar 2) aNil))))
    (sSeq (sIf (tOr (tNot (tBl (eCall G_is_cell (aCons (eVar 3) (aCons (eCB fLen (aCons (eIx (eFld clsF "bar" (eVar 0)) (eC (.int 0))) aNil)) (aCons (eCB fLen (aCons (eIx (eFld clsF "bar" (eVar 0)) (eC (.int 1))) aNil)) aNil)))))) (tBl (eOp oIn (eVar 3) (eIx (eFld clsF "bar" (eVar 0)) (eC (.int 2)))))) (sRaise 17) sNil)
    (sSeq (sFld clsF "bar" (eVar 0) (eTup (aCons (eIx (eFld clsF "bar" (eVar 0)) (eC (.int 0))) (aCons (eIx (eFld clsF "bar" (eVar 0)) (eC (.int 1))) (aCons (eCB (fSorted false) (aCons (eOp (oAdd false) (eIx (eFld clsF "bar" (eVar 0)) (eC (.int 2))) (eLst false (aCons (eVar 3) aNil))) aNil)) aNil)))))
    (sRet (eMeth [(5, (liftP G_Slab_owed))] "owed" (eVar 0) aNil)))))
def T_Slab_nut : TF := runT 3 N_Slab_nut m_Slab_nut
abbrev N_Slab_set_price : List Str := ["self", "way", "line", "price"]
def m_Slab_set_price : SM :=
  (sSeq (sIf (tOr (tNot (tBl (eCall G_is_whole (aCons (eVar 1) aNil)))) (tOr (tNot (tBl (eCall G_is_whole (aCons (eVar 2) aNil)))) (tBl (eOp oNotIn (eTup (aCons (eVar 1) (aCons (eVar 2) aNil))) (eCall G_lines_in (aCons (eCall G_whole_of (aCons (eFld clsF "bar" (eVar 0)) aNil)) aNil)))))) (sRaise 16) sNil)
    (sSeq (sIf (tNot (tBl (eCall G_is_between (aCons (eVar 3) (aCons (eC (.int 1)) (aCons (eC (.int 9)) aNil)))))) (sRaise 18) sNil)
    (sSeq (sPut (eIx (eFld clsF "bar" (eVar 0)) (eVar 1)) (eOp oSub (eVar 2) (eC (.int 1))) (eVar 3))
    (sRet (eMeth [(5, (liftP G_Slab_owed))] "owed" (eVar 0) aNil)))))
def T_Slab_set_price : TF := runT 4 N_Slab_set_price m_Slab_set_price
abbrev N__law_which : List Str := ["_law_error", "_law_found"]
def m__law_which (xc : Nat) : SM :=
  (sSeq (sAsg (.nm 1) (eLst false (aCons (eCB (fIsiE exB xc) (aCons (eVar 0) (aCons (eC (.cls 11)) aNil))) (aCons (eCB (fIsiE exB xc) (aCons (eVar 0) (aCons (eC (.cls 12)) aNil))) (aCons (eCB (fIsiE exB xc) (aCons (eVar 0) (aCons (eC (.cls 13)) aNil))) aNil)))))
    (sSeq (sAsg (.nm 1) (eOp (oAdd false) (eVar 1) (eLst false (aCons (eCB (fIsiE exB xc) (aCons (eVar 0) (aCons (eC (.cls 14)) aNil))) (aCons (eCB (fIsiE exB xc) (aCons (eVar 0) (aCons (eC (.cls 15)) aNil))) (aCons (eCB (fIsiE exB xc) (aCons (eVar 0) (aCons (eC (.cls 16)) aNil))) aNil))))))
    (sSeq (sAsg (.nm 1) (eOp (oAdd false) (eVar 1) (eLst false (aCons (eCB (fIsiE exB xc) (aCons (eVar 0) (aCons (eC (.cls 17)) aNil))) (aCons (eCB (fIsiE exB xc) (aCons (eVar 0) (aCons (eC (.cls 18)) aNil))) aNil)))))
    (sRet (eIf (tAnd (tBl (eOp oEq (eBMr mCount (eVar 1) (aCons (eC (.bl true)) aNil)) (eC (.int 1)))) (tBl (eCB (fIsiE exB xc) (aCons (eVar 0) (aCons (eC (.ty "ValueError")) aNil))))) (eBMr mIndex (eVar 1) (aCons (eC (.bl true)) aNil)) (eC (.int 99)))))))
def G__law_which (xc : Nat) : List DV → PR := runP 1 N__law_which (m__law_which xc)
abbrev N__law_refused : List Str := ["_law_ask", "_law_things", "_law_due", "_law_thing", "_law_found", "_law_error"]
def m__law_refused (I : AF) : SM :=
  (sSeq (sFor (iSeq (eVar 1)) (.nm 3) [3, 4] (sSeq (sAsg (.nm 4) (eUn uNeg (eC (.int 1))))
    (sSeq (sTryAs exm_BarError 5 4 (sExpr (eAsk I 0 (aCons (eVar 3) aNil))) (fun xc => (eCall (G__law_which xc) (aCons (eVar 5) aNil))))
    (sIf (tBl (eOp oNe (eVar 4) (eVar 2))) (sRet (eC (.bl false))) sNil))))
    (sRet (eC (.bl true))))
def T__law_refused (I : AF) : TF := runT 3 N__law_refused (m__law_refused I)
abbrev N__law_no_numbers : List Str := ["_law_more"]
def m__law_no_numbers : SM :=
  (sRet (eLst false (aCons (eC .non) (aCons (eC (.str "1")) (aCons (eC (.bl true)) (aCons (eC (.bl false)) (aCons (eLst false (aCons (eC (.int 1)) aNil)) (aCons (eTup (aCons (eC (.int 1)) aNil)) (aCons eDicF (aCons (eUn uNeg (eC (.int 1))) (aCons (eOp oSub (eUn uNeg (eC (.int 1))) (eVar 0)) aNil)))))))))))
def G__law_no_numbers : List DV → PR := runP 1 N__law_no_numbers m__law_no_numbers
abbrev N__law_no_pieces : List Str := ["_law_more", "_law_found", "_law_at", "_law_bad", "_law_row", "_law_spot"]
def m__law_no_pieces : SM :=
  (sSeq (sAsg (.nm 1) (eLst true (aCons (eC .non) (aCons (eC (.int 5)) (aCons (eC (.str "piece")) (aCons (eTup aNil) (aCons (eLst false (aCons (eC (.int 0)) (aCons (eC (.int 0)) (aCons (eC (.int 1)) (aCons (eC (.int 2)) aNil))))) (aCons (eTup (aCons (eC (.int 0)) (aCons (eC (.int 0)) (aCons (eC (.int 1)) aNil)))) (aCons (eTup (aCons (eC (.int 0)) (aCons (eC (.int 0)) (aCons (eC (.int 1)) (aCons (eC (.int 2)) (aCons (eC (.int 0)) aNil)))))) (aCons (eTup (aCons (eC (.int 0)) (aCons (eC (.int 0)) (aCons (eC (.int 3)) (aCons (eC (.int 2)) aNil))))) (aCons (eTup (aCons (eC (.int 1)) (aCons (eC (.int 0)) (aCons (eC (.int 2)) (aCons (eC (.int 2)) aNil))))) (aCons eDicF aNil))))))))))))
    (sSeq (sExpr (eBM mAppend (eVar 1) (aCons (eTup (aCons (eC (.int 0)) (aCons (eC (.int 0)) (aCons (eC (.int 1)) (aCons (eC (.int 1)) aNil))))) aNil)))
    (sSeq (sFor (iEnum (aCons (eOp (oAdd false) (eCall G__law_no_numbers (aCons (eVar 0) aNil)) (eLst false (aCons (eOp (oAdd false) (eC (.int 3)) (eVar 0)) aNil))) aNil)) (.tp [(.nm 2), (.nm 3)]) [2, 3, 4, 5] (sSeq (sAsg (.nm 4) (eTup (aCons (eC (.int 0)) (aCons (eC (.int 0)) (aCons (eC (.int 1)) (aCons (eC (.int 2)) aNil))))))
    (sSeq (sAsg (.nm 5) (eOp oMod (eOp (oAdd false) (eVar 2) (eVar 0)) (eC (.int 4))))
    (sExpr (eBM mAppend (eVar 1) (aCons (eOp (oAdd false) (eOp (oAdd false) (eSl false (eVar 4) pNone (pSome (eVar 5))) (eTup (aCons (eVar 3) aNil))) (eSl false (eVar 4) (pSome (eOp (oAdd false) (eVar 5) (eC (.int 1)))) pNone)) aNil))))))
    (sRet (eVar 1)))))
def G__law_no_pieces : List DV → PR := runP 1 N__law_no_pieces m__law_no_pieces
abbrev N__law_snaps_right : List Str := ["_law_slab", "_law_more", "_law_rows", "_law_long", "_law_piece", "_law_way", "_law_line", "_law_row"]
def m__law_snaps_right : SM :=
  (sSeq (sIf (tNot (tBl (eCallLam (fun I => runT 3 N__law_refused (m__law_refused I)) 4 (eMeth [(5, T_Slab_snap)] "snap" (eVar 0) (aCons (eVar 4) (aCons (eC .non) (aCons (eC .non) aNil)))) (aCons (eCall G__law_no_pieces (aCons (eVar 1) aNil)) (aCons (eC (.int 4)) aNil))))) (sRet (eC (.bl false))) sNil)
    (sSeq (sIf (tNot (tBl (eCallLam (fun I => runT 3 N__law_refused (m__law_refused I)) 5 (eMeth [(5, T_Slab_snap)] "snap" (eVar 0) (aCons (eTup (aCons (eC (.int 0)) (aCons (eC (.int 0)) (aCons (eC (.int 1)) (aCons (eC (.int 2)) aNil))))) (aCons (eVar 5) (aCons (eC (.int 1)) aNil)))) (aCons (eOp (oAdd false) (eCall G__law_no_numbers (aCons (eVar 1) aNil)) (eLst false (aCons (eC (.int 0)) (aCons (eC (.int 2)) (aCons (eOp (oAdd false) (eC (.int 2)) (eVar 1)) aNil))))) (aCons (eC (.int 5)) aNil))))) (sRet (eC (.bl false))) sNil)
    (sSeq (sIf (tNot (tBl (eCallLam (fun I => runT 3 N__law_refused (m__law_refused I)) 6 (eMeth [(5, T_Slab_snap)] "snap" (eVar 0) (aCons (eTup (aCons (eC (.int 1)) (aCons (eC (.int 0)) (aCons (eC (.int 3)) (aCons (eC (.int 2)) aNil))))) (aCons (eC (.int 0)) (aCons (eVar 6) aNil)))) (aCons (eOp (oAdd false) (eCall G__law_no_numbers (aCons (eVar 1) aNil)) (eLst false (aCons (eC (.int 0)) (aCons (eC (.int 1)) (aCons (eC (.int 3)) (aCons (eOp (oAdd false) (eC (.int 3)) (eVar 1)) aNil)))))) (aCons (eC (.int 5)) aNil))))) (sRet (eC (.bl false))) sNil)
    (sSeq (sAsg (.nm 2) (eOp (oAdd false) (eCall G__law_no_numbers (aCons (eVar 1) aNil)) (eLst false (aCons (eC (.int 0)) (aCons (eC (.int 2)) (aCons (eC (.int 3)) (aCons (eOp (oAdd false) (eC (.int 2)) (eVar 1)) aNil)))))))
    (sSeq (sIf (tNot (tBl (eCallLam (fun I => runT 3 N__law_refused (m__law_refused I)) 7 (eMeth [(5, T_Slab_snap)] "snap" (eVar 0) (aCons (eTup (aCons (eC (.int 1)) (aCons (eC (.int 0)) (aCons (eC (.int 3)) (aCons (eC (.int 2)) aNil))))) (aCons (eC (.int 1)) (aCons (eVar 7) aNil)))) (aCons (eVar 2) (aCons (eC (.int 5)) aNil))))) (sRet (eC (.bl false))) sNil)
    (sRet (eCallLam (fun I => runT 3 N__law_refused (m__law_refused I)) 3 (eMeth [(5, T_Slab_snap)] "snap" (eVar 0) (aCons (eTup (aCons (eC (.int 0)) (aCons (eC (.int 0)) (aCons (eC (.int 1)) (aCons (eC (.int 2)) aNil))))) (aCons (eC (.int 1)) (aCons (eVar 3) aNil)))) (aCons (eVar 2) (aCons (eC (.int 5)) aNil)))))))))
def T__law_snaps_right : TF := runT 2 N__law_snaps_right m__law_snaps_right
abbrev N__law_rest_right : List Str := ["_law_slab", "_law_more", "_law_lines", "_law_price", "_law_column", "_law_row", "_law_side", "_law_long"]
def m__law_rest_right : SM :=
  (sSeq (sAsg (.nm 2) (eOp (oAdd false) (eCall G__law_no_numbers (aCons (eVar 1) aNil)) (eLst false (aCons (eC (.int 0)) (aCons (eC (.int 3)) (aCons (eOp (oAdd false) (eC (.int 3)) (eVar 1)) aNil))))))
    (sSeq (sIf (tNot (tBl (eCallLam (fun I => runT 3 N__law_refused (m__law_refused I)) 4 (eMeth [(5, T_Slab_nut)] "nut" (eVar 0) (aCons (eVar 4) (aCons (eC (.int 0)) aNil))) (aCons (eVar 2) (aCons (eC (.int 6)) aNil))))) (sRet (eC (.bl false))) sNil)
    (sSeq (sIf (tNot (tBl (eCallLam (fun I => runT 3 N__law_refused (m__law_refused I)) 5 (eMeth [(5, T_Slab_nut)] "nut" (eVar 0) (aCons (eC (.int 0)) (aCons (eVar 5) aNil))) (aCons (eOp (oAdd false) (eCall G__law_no_numbers (aCons (eVar 1) aNil)) (eLst false (aCons (eC (.int 0)) (aCons (eC (.int 1)) (aCons (eC (.int 2)) (aCons (eOp (oAdd false) (eC (.int 2)) (eVar 1)) aNil)))))) (aCons (eC (.int 6)) aNil))))) (sRet (eC (.bl false))) sNil)
    (sSeq (sIf (tNot (tBl (eCallLam (fun I => runT 3 N__law_refused (m__law_refused I)) 6 (eMeth [(5, T_Slab_set_price)] "set_price" (eVar 0) (aCons (eVar 6) (aCons (eC (.int 1)) (aCons (eC .non) aNil)))) (aCons (eOp (oAdd false) (eCall G__law_no_numbers (aCons (eVar 1) aNil)) (eLst false (aCons (eC (.int 2)) (aCons (eOp (oAdd false) (eC (.int 2)) (eVar 1)) aNil)))) (aCons (eC (.int 5)) aNil))))) (sRet (eC (.bl false))) sNil)
    (sSeq (sIf (tNot (tBl (eCallLam (fun I => runT 3 N__law_refused (m__law_refused I)) 7 (eMeth [(5, T_Slab_set_price)] "set_price" (eVar 0) (aCons (eC (.int 0)) (aCons (eVar 7) (aCons (eC .non) aNil)))) (aCons (eVar 2) (aCons (eC (.int 5)) aNil))))) (sRet (eC (.bl false))) sNil)
    (sRet (eCallLam (fun I => runT 3 N__law_refused (m__law_refused I)) 3 (eMeth [(5, T_Slab_set_price)] "set_price" (eVar 0) (aCons (eC (.int 1)) (aCons (eC (.int 1)) (aCons (eVar 3) aNil)))) (aCons (eOp (oAdd false) (eCall G__law_no_numbers (aCons (eVar 1) aNil)) (eLst false (aCons (eC (.int 0)) (aCons (eC (.int 10)) (aCons (eOp (oAdd false) (eC (.int 10)) (eVar 1)) aNil))))) (aCons (eC (.int 7)) aNil)))))))))
def T__law_rest_right : TF := runT 2 N__law_rest_right m__law_rest_right
abbrev N_law : List Str := ["_law_script", "_law_cell", "_law_more", "_law_slab", "_law_before", "_law_row", "_law_line"]
def m_law : SM :=
  (sSeq (sFor (iSeq (eOp (oAdd false) (eSl false (eVar 0) pNone (pSome (eC (.int 3)))) (eLst false (aCons (eCB fLen (aCons (eVar 0) aNil)) aNil)))) (.nm 1) [1, 2, 3, 4] (sSeq (sAsg (.nm 2) (eOp oMod (eCB fAbs (aCons (eVar 1) aNil)) (eOp oPow (eC (.int 10)) (eC (.int 20)))))
    (sSeq (sAsg (.nm 3) (eMake 5 T_Slab___init__ (aCons (eTup (aCons (eLst false (aCons (eC (.int 1)) (aCons (eC (.int 2)) aNil))) (aCons (eLst false (aCons (eC (.int 3)) aNil)) (aCons (eLst false (aCons (eTup (aCons (eC (.int 0)) (aCons (eC (.int 0)) aNil))) (aCons (eTup (aCons (eC (.int 2)) (aCons (eC (.int 1)) aNil))) aNil))) aNil)))) (aCons (eC (.int 1)) aNil))))
    (sSeq (sIf (tOr (tBl (eOp oNe (eMeth [(5, T_Slab_snap)] "snap" (eVar 3) (aCons (eTup (aCons (eC (.int 0)) (aCons (eC (.int 0)) (aCons (eC (.int 3)) (aCons (eC (.int 2)) aNil))))) (aCons (eC (.int 0)) (aCons (eC (.int 1)) aNil)))) (eC (.int 0)))) (tBl (eOp oNe (eMeth [(5, T_Slab_nut)] "nut" (eVar 3) (aCons (eC (.int 0)) (aCons (eC (.int 1)) aNil))) (eC (.int 3))))) (sRet (eC (.bl false))) sNil)
    (sSeq (sAsg (.nm 4) (eCall G__law_state (aCons (eVar 3) aNil)))
    (sSeq (sIf (tOr (tNot (tBl (eCallT T__law_snaps_right (aCons (eVar 3) (aCons (eVar 2) aNil))))) (tNot (tBl (eCallT T__law_rest_right (aCons (eVar 3) (aCons (eVar 2) aNil)))))) (sRet (eC (.bl false))) sNil)
    (sSeq (sIf (tOr (tBl (eOp oNe (eCall G__law_state (aCons (eVar 3) aNil)) (eVar 4))) (tOr (tBl (eOp oNe (eMeth [(5, T_Slab_set_price)] "set_price" (eVar 3) (aCons (eC (.int 1)) (aCons (eC (.int 1)) (aCons (eC (.int 9)) aNil)))) (eC (.int 9)))) (tBl (eOp oNe (eMeth [(5, T_Slab_snap)] "snap" (eVar 3) (aCons (eTup (aCons (eC (.int 0)) (aCons (eC (.int 0)) (aCons (eC (.int 1)) (aCons (eC (.int 2)) aNil))))) (aCons (eC (.int 1)) (aCons (eC (.int 1)) aNil)))) (eC (.int 0)))))) (sRet (eC (.bl false))) sNil)
    (sSeq (sIf (tNot (tBl (eCallLam (fun I => runT 3 N__law_refused (m__law_refused I)) 5 (eMeth [(5, T_Slab_snap)] "snap" (eVar 3) (aCons (eTup (aCons (eC (.int 0)) (aCons (eC (.int 0)) (aCons (eC (.int 1)) (aCons (eC (.int 1)) aNil))))) (aCons (eC (.int 1)) (aCons (eVar 5) aNil)))) (aCons (eLst false (aCons (eC (.int 0)) (aCons (eC (.int 1)) (aCons (eC (.int 2)) aNil)))) (aCons (eC (.int 5)) aNil))))) (sRet (eC (.bl false))) sNil)
    (sSeq (sIf (tNot (tBl (eCallLam (fun I => runT 3 N__law_refused (m__law_refused I)) 6 (eMeth [(5, T_Slab_snap)] "snap" (eVar 3) (aCons (eTup (aCons (eC (.int 0)) (aCons (eC (.int 1)) (aCons (eC (.int 1)) (aCons (eC (.int 2)) aNil))))) (aCons (eC (.int 0)) (aCons (eVar 6) aNil)))) (aCons (eLst false (aCons (eC (.int 0)) (aCons (eC (.int 1)) (aCons (eC (.int 2)) (aCons (eC (.int 3)) aNil))))) (aCons (eC (.int 5)) aNil))))) (sRet (eC (.bl false))) sNil)
    (sSeq (sIf (tOr (tBl (eOp oNe (eMeth [(5, (liftP G_Slab_spent))] "spent" (eVar 3) aNil) (eC (.int 10)))) (tOr (tBl (eOp oNe (eMeth [(5, T_Slab_snap)] "snap" (eVar 3) (aCons (eTup (aCons (eC (.int 1)) (aCons (eC (.int 0)) (aCons (eC (.int 3)) (aCons (eC (.int 2)) aNil))))) (aCons (eC (.int 1)) (aCons (eC (.int 1)) aNil)))) (eC (.int 0)))) (tOr (tBl (eOp oNe (eMeth [(5, T_Slab_nut)] "nut" (eVar 3) (aCons (eC (.int 1)) (aCons (eC (.int 0)) aNil))) (eC (.int 0)))) (tBl (eOp oNe (eMeth [(5, T_Slab_nut)] "nut" (eVar 3) (aCons (eC (.int 2)) (aCons (eC (.int 0)) aNil))) (eC (.int 2))))))) (sRet (eC (.bl false))) sNil)
    (sIf (tOr (tBl (eOp oNe (eMeth [(5, (liftP G_Slab_pieces))] "pieces" (eVar 3) aNil) (eLst false (aCons (eTup (aCons (eC (.int 0)) (aCons (eC (.int 0)) (aCons (eC (.int 1)) (aCons (eC (.int 1)) aNil))))) (aCons (eTup (aCons (eC (.int 0)) (aCons (eC (.int 1)) (aCons (eC (.int 1)) (aCons (eC (.int 2)) aNil))))) (aCons (eTup (aCons (eC (.int 1)) (aCons (eC (.int 0)) (aCons (eC (.int 3)) (aCons (eC (.int 1)) aNil))))) (aCons (eTup (aCons (eC (.int 1)) (aCons (eC (.int 1)) (aCons (eC (.int 3)) (aCons (eC (.int 2)) aNil))))) aNil))))))) (tBl (eOp oNe (eMeth [(5, (liftP G_Slab_spent))] "spent" (eVar 3) aNil) (eC (.int 19))))) (sRet (eC (.bl false))) sNil)))))))))))
    (sRet (eC (.bl true))))
def G_law : List DV → PR := runP 1 N_law m_law
end BB
namespace BB
open PySem PySem.Spec PyProof.Rows L2
def topS (i : Nat) : Stmt := PySem.Challenge.pw_breakbars_k11_refused_slabs.main.body.getD i (.Pass ⟨0, 0, 0, 0⟩)
structure Facts (P : Program) (w : World) (K : PySem.W.Frag) (mg : Str → Option Value) (base : Heap) (cA : Nat → Addr) (tabs : List (Addr × Str)) : Prop where
  n_ValueError : mg "ValueError" = none
  n_abs : mg "abs" = none
  n_all : mg "all" = none
  n_any : mg "any" = none
  n_bool : mg "bool" = none
  n_enumerate : mg "enumerate" = none
  n_int : mg "int" = none
  n_isinstance : mg "isinstance" = none
  n_len : mg "len" = none
  n_list : mg "list" = none
  n_range : mg "range" = none
  n_sorted : mg "sorted" = none
  n_sum : mg "sum" = none
  n_tuple : mg "tuple" = none
  n_zip : mg "zip" = none
  k_MOST_LINES : ∃ t, mg "MOST_LINES" = some (.int 4 t)
  k_MOST_PRICE : ∃ t, mg "MOST_PRICE" = some (.int 9 t)
  k_MOST_NUTS : ∃ t, mg "MOST_NUTS" = some (.int 3 t)
  c_BarError : mg "BarError" = some (.ref (cA 10))
  c_BadBar : mg "BadBar" = some (.ref (cA 11))
  c_BadMost : mg "BadMost" = some (.ref (cA 12))
  c_BadPlan : mg "BadPlan" = some (.ref (cA 13))
  c_BadNumber : mg "BadNumber" = some (.ref (cA 14))
  c_BadPiece : mg "BadPiece" = some (.ref (cA 15))
  c_BadLine : mg "BadLine" = some (.ref (cA 16))
  c_BadNut : mg "BadNut" = some (.ref (cA 17))
  c_BadPrice : mg "BadPrice" = some (.ref (cA 18))
  c_Slab : mg "Slab" = some (.ref (cA 5))
  cls : ClsT K cA clsF
  isi : ClsI K cA clsB
  exi : ExcI K cA exB
  exm_BarError : ExmT K cA exm_BarError 10
  e_BadBar : ExcT K mg (cA 11) "BadBar"
  e_BadLine : ExcT K mg (cA 16) "BadLine"
  e_BadMost : ExcT K mg (cA 12) "BadMost"
  e_BadNut : ExcT K mg (cA 17) "BadNut"
  e_BadPiece : ExcT K mg (cA 15) "BadPiece"
  e_BadPrice : ExcT K mg (cA 18) "BadPrice"
  d_is_whole : DefAt K mg "is_whole" (topS 14) ["thing"]
  d_is_between : DefAt K mg "is_between" (topS 15) ["thing", "least", "most"]
  d_are_prices : DefAt K mg "are_prices" (topS 16) ["thing"]
  d_is_cell : DefAt K mg "is_cell" (topS 17) ["thing", "wide", "high"]
  d_check_bar : DefAt K mg "check_bar" (topS 18) ["bar"]
  d_check_both : DefAt K mg "check_both" (topS 19) ["bar", "most"]
  d_whole_of : DefAt K mg "whole_of" (topS 21) ["bar"]
  i_Slab : InitAt K mg (cA 5) "Slab" "Slab.__init__" (inClass (topS 32) 0) ["self", "bar", "most"]
  d_Slab_pieces : MethAt K (cA 5) "pieces" "Slab.pieces" (inClass (topS 32) 6) ["self"]
  d_Slab_plan : MethAt K (cA 5) "plan" "Slab.plan" (inClass (topS 32) 8) ["self"]
  d_Slab_spent : MethAt K (cA 5) "spent" "Slab.spent" (inClass (topS 32) 7) ["self"]
  d_size_of : DefAt K mg "size_of" (topS 27) ["piece"]
  d_pieces_of : DefAt K mg "pieces_of" (topS 22) ["bar"]
  d_by_size : DefAt K mg "by_size" (topS 28) ["bar"]
  d_nuts_in : DefAt K mg "nuts_in" (topS 23) ["bar", "piece"]
  d_lines_in : DefAt K mg "lines_in" (topS 24) ["piece"]
  d_parts_of : DefAt K mg "parts_of" (topS 26) ["piece", "way", "line"]
  d_price_of : DefAt K mg "price_of" (topS 25) ["bar", "way", "line"]
  d_costs_of : DefAt K mg "costs_of" (topS 29) ["bar", "most"]
  d_Slab_owed : MethAt K (cA 5) "owed" "Slab.owed" (inClass (topS 32) 1) ["self"]
  d_Slab_bar_now : MethAt K (cA 5) "bar_now" "Slab.bar_now" (inClass (topS 32) 9) ["self"]
  d_Slab_helpful : MethAt K (cA 5) "helpful" "Slab.helpful" (inClass (topS 32) 5) ["self"]
  d__law_state : DefAt K mg "_law_state" (topS 38) ["_law_slab"]
  d_broken : DefAt K mg "broken" (topS 30) ["pieces", "one"]
  d_Slab_snap : MethAt K (cA 5) "snap" "Slab.snap" (inClass (topS 32) 2) ["self", "piece", "way", "line"]
  d_Slab_nut : MethAt K (cA 5) "nut" "Slab.nut" (inClass (topS 32) 3) ["self", "column", "row"]
  d_Slab_set_price : MethAt K (cA 5) "set_price" "Slab.set_price" (inClass (topS 32) 4) ["self", "way", "line", "price"]
  d__law_which : DefAt K mg "_law_which" (topS 34) ["_law_error"]
  d__law_refused : DefAt K mg "_law_refused" (topS 35) ["_law_ask", "_law_things", "_law_due"]
  d__law_no_numbers : DefAt K mg "_law_no_numbers" (topS 36) ["_law_more"]
  d__law_no_pieces : DefAt K mg "_law_no_pieces" (topS 37) ["_law_more"]
  d__law_snaps_right : DefAtL K mg base tabs "_law_snaps_right" (topS 39) ["_law_slab", "_law_more"]
  d__law_rest_right : DefAtL K mg base tabs "_law_rest_right" (topS 40) ["_law_slab", "_law_more"]
theorem Facts.exo {P : Program} {w : World} {K : PySem.W.Frag} {mg : Str → Option Value} {base : Heap} {cA : Nat → Addr} {tabs : List (Addr × Str)} (T : Facts P w K mg base cA tabs) (a : Addr) : Facts P w K mg base (fun n => if n = 1000 then a else cA n) tabs where
  n_ValueError := T.n_ValueError
  n_abs := T.n_abs
  n_all := T.n_all
  n_any := T.n_any
  n_bool := T.n_bool
  n_enumerate := T.n_enumerate
  n_int := T.n_int
  n_isinstance := T.n_isinstance
  n_len := T.n_len
  n_list := T.n_list
  n_range := T.n_range
  n_sorted := T.n_sorted
  n_sum := T.n_sum
  n_tuple := T.n_tuple
  n_zip := T.n_zip
  k_MOST_LINES := T.k_MOST_LINES
  k_MOST_PRICE := T.k_MOST_PRICE
  k_MOST_NUTS := T.k_MOST_NUTS
  c_BarError := T.c_BarError
  c_BadBar := T.c_BadBar
  c_BadMost := T.c_BadMost
  c_BadPlan := T.c_BadPlan
  c_BadNumber := T.c_BadNumber
  c_BadPiece := T.c_BadPiece
  c_BadLine := T.c_BadLine
  c_BadNut := T.c_BadNut
  c_BadPrice := T.c_BadPrice
  c_Slab := T.c_Slab
  cls := T.cls.exo rfl
  isi := T.isi.exo (fun c => by unfold clsB; split <;> first | rfl | contradiction) (fun c => by unfold clsB; split <;> first | rfl | contradiction)
  exi := T.exi.exo
  exm_BarError := T.exm_BarError.exo rfl (by decide)
  e_BadBar := T.e_BadBar
  e_BadLine := T.e_BadLine
  e_BadMost := T.e_BadMost
  e_BadNut := T.e_BadNut
  e_BadPiece := T.e_BadPiece
  e_BadPrice := T.e_BadPrice
  d_is_whole := T.d_is_whole
  d_is_between := T.d_is_between
  d_are_prices := T.d_are_prices
  d_is_cell := T.d_is_cell
  d_check_bar := T.d_check_bar
  d_check_both := T.d_check_both
  d_whole_of := T.d_whole_of
  i_Slab := T.i_Slab
  d_Slab_pieces := T.d_Slab_pieces
  d_Slab_plan := T.d_Slab_plan
  d_Slab_spent := T.d_Slab_spent
  d_size_of := T.d_size_of
  d_pieces_of := T.d_pieces_of
  d_by_size := T.d_by_size
  d_nuts_in := T.d_nuts_in
  d_lines_in := T.d_lines_in
  d_parts_of := T.d_parts_of
  d_price_of := T.d_price_of
  d_costs_of := T.d_costs_of
  d_Slab_owed := T.d_Slab_owed
  d_Slab_bar_now := T.d_Slab_bar_now
  d_Slab_helpful := T.d_Slab_helpful
  d__law_state := T.d__law_state
  d_broken := T.d_broken
  d_Slab_snap := T.d_Slab_snap
  d_Slab_nut := T.d_Slab_nut
  d_Slab_set_price := T.d_Slab_set_price
  d__law_which := T.d__law_which
  d__law_refused := T.d__law_refused
  d__law_no_numbers := T.d__law_no_numbers
  d__law_no_pieces := T.d__law_no_pieces
  d__law_snaps_right := T.d__law_snaps_right
  d__law_rest_right := T.d__law_rest_right
section
variable {P : Program} {w : World} {K : PySem.W.Frag} {mg : Str → Option Value} {base : Heap} {cA : CA}
abbrev st_is_whole : Stmt := topS 14
theorem sc_is_whole : FnScope N_is_whole ["thing"] (defScope st_is_whole) := ⟨rfl, rfl, rfl, by decide +kernel, rfl, by decide +kernel, by decide +kernel⟩
theorem ok_is_whole (T : Facts P w K mg base cA.fn cA.tabs) : Callee P w K mg base cA "is_whole" 1 (liftP G_is_whole) :=
  callee T.d_is_whole sc_is_whole (fun f cdv A outer s H E hr => (gs_one (g_ret (g_and (g_callB s_isi n_isi T.n_isinstance (ga_cons (g_var 0) (ga_cons (g_ty T.n_int) ga_nil))) (g_one (g_not (g_callB s_isi n_isi T.n_isinstance (ga_cons (g_var 0) (ga_cons (g_ty T.n_bool) ga_nil)))))))))
abbrev st_is_between : Stmt := topS 15
theorem sc_is_between : FnScope N_is_between ["thing", "least", "most"] (defScope st_is_between) := ⟨rfl, rfl, rfl, by decide +kernel, rfl, by decide +kernel, by decide +kernel⟩
theorem ok_is_between (T : Facts P w K mg base cA.fn cA.tabs) : Callee P w K mg base cA "is_between" 2 (liftP G_is_between) :=
  callee T.d_is_between sc_is_between (fun f cdv A outer s H E hr => (gs_one (g_ret (g_and (g_callC gzB (ok_is_whole T) (hr.mono (by decide)) (ga_cons (g_var 0) ga_nil)) (g_one (g_chain s_le n_le s_le n_le (g_var 1) (g_var 0) (g_var 2)))))))
abbrev st_are_prices : Stmt := topS 16
theorem sc_are_prices : FnScope N_are_prices ["thing"] (defScope st_are_prices) := ⟨rfl, rfl, rfl, by decide +kernel, rfl, by decide +kernel, by decide +kernel⟩
theorem ok_are_prices (T : Facts P w K mg base cA.fn cA.tabs) : Callee P w K mg base cA "are_prices" 3 (liftP G_are_prices) :=
  callee T.d_are_prices sc_are_prices (fun f cdv A outer s H E hr => (gs_cons (g_ifS (GW.gt (gw_or (gt_not (gt_val (g_callB s_isi n_isi T.n_isinstance (ga_cons (g_var 0) (ga_cons (g_ty T.n_list) ga_nil))))) (gw_or1 (gt_cmp s_gt n_gt (g_callB s_len n_len T.n_len (ga_cons (g_var 0) ga_nil)) (g_gint T.k_MOST_LINES))))) (gs_one (g_ret g_bl)) gs_nil)
    (gs_one (g_ret (g_callB (s_all rfl) n_all T.n_all (ga_cons (g_comp false [("price", 1)] rfl sc_are_prices.nd (gi_seq (g_var 0)) (blkOk_by (N := N_are_prices) (sc := (defScope st_are_prices)) (own := [("price", 1)]) (by decide +kernel)) (by decide) (fun _ _ _ _ _ => (pg_name (i := 1) sc_are_prices.nd rfl (by first | exact Or.inl rfl | exact Or.inr rfl))) (fun _ _ _ _ _ => gts_nil) (fun _ _ _ _ _ => (g_callC gz0 (ok_is_between T) (hr.mono (by decide)) (ga_cons (g_var 1) (ga_cons g_int (ga_cons (g_gint T.k_MOST_PRICE) ga_nil)))))) ga_nil))))))
abbrev st_is_cell : Stmt := topS 17
theorem sc_is_cell : FnScope N_is_cell ["thing", "wide", "high"] (defScope st_is_cell) := ⟨rfl, rfl, rfl, by decide +kernel, rfl, by decide +kernel, by decide +kernel⟩
theorem ok_is_cell (T : Facts P w K mg base cA.fn cA.tabs) : Callee P w K mg base cA "is_cell" 3 (liftP G_is_cell) :=
  callee T.d_is_cell sc_is_cell (fun f cdv A outer s H E hr => (gs_cons (g_ifS (GW.gt (gw_or (gt_not (gt_val (g_callB s_isi n_isi T.n_isinstance (ga_cons (g_var 0) (ga_cons (g_ty T.n_tuple) ga_nil))))) (gw_or1 (gt_cmp (s_ne (u64 hr)) n_ne (g_callB s_len n_len T.n_len (ga_cons (g_var 0) ga_nil)) g_int)))) (gs_one (g_ret g_bl)) gs_nil)
    (gs_one (g_ret (g_and (g_callC gzB (ok_is_between T) (hr.mono (by decide)) (ga_cons (g_ix (u1 hr) (g_var 0) g_int) (ga_cons g_int (ga_cons (g_var 1) ga_nil)))) (g_one (g_callC gzB (ok_is_between T) (hr.mono (by decide)) (ga_cons (g_ix (u1 hr) (g_var 0) g_int) (ga_cons g_int (ga_cons (g_var 2) ga_nil))))))))))
abbrev st_check_bar : Stmt := topS 18
theorem sc_check_bar : FnScope N_check_bar ["bar"] (defScope st_check_bar) := ⟨rfl, rfl, rfl, by decide +kernel, rfl, by decide +kernel, by decide +kernel⟩
theorem ok_check_bar (T : Facts P w K mg base cA.fn cA.tabs) : Callee P w K mg base cA "check_bar" 4 (liftP G_check_bar) :=
  callee T.d_check_bar sc_check_bar (fun f cdv A outer s H E hr => (gs_cons (g_ifS (GW.gt (gw_or (gt_not (gt_val (g_callB s_isi n_isi T.n_isinstance (ga_cons (g_var 0) (ga_cons (g_ty T.n_tuple) ga_nil))))) (gw_or (gt_cmp (s_ne (u64 hr)) n_ne (g_callB s_len n_len T.n_len (ga_cons (g_var 0) ga_nil)) g_int) (gw_or (gt_not (gt_val (g_callC gzB (ok_are_prices T) (hr.mono (by decide)) (ga_cons (g_ix (u1 hr) (g_var 0) g_int) ga_nil)))) (gw_or1 (gt_not (gt_val (g_callC gzB (ok_are_prices T) (hr.mono (by decide)) (ga_cons (g_ix (u1 hr) (g_var 0) g_int) ga_nil))))))))) (gs_one (g_raise gzB rfl T.e_BadBar)) gs_nil)
    (gs_cons (g_ifS (GW.gt (gw_or (gt_not (gt_val (g_callB s_isi n_isi T.n_isinstance (ga_cons (g_ix (u1 hr) (g_var 0) g_int) (ga_cons (g_ty T.n_list) ga_nil))))) (gw_or1 (gt_not (gt_val (g_callB (s_all rfl) n_all T.n_all (ga_cons (g_comp false [("nut", 3)] rfl sc_check_bar.nd (gi_seq (g_ix (u1 hr) (g_var 0) g_int)) (blkOk_by (N := N_check_bar) (sc := (defScope st_check_bar)) (own := [("nut", 3)]) (by decide +kernel)) (by decide) (fun _ _ _ _ _ => (pg_name (i := 3) sc_check_bar.nd rfl (by first | exact Or.inl rfl | exact Or.inr rfl))) (fun _ _ _ _ _ => gts_nil) (fun _ _ _ _ _ => (g_callC gz0 (ok_is_cell T) (hr.mono (by decide)) (ga_cons (g_var 3) (ga_cons (g_callB s_len n_len T.n_len (ga_cons (g_ix (u1 hr) (g_var 0) g_int) ga_nil)) (ga_cons (g_callB s_len n_len T.n_len (ga_cons (g_ix (u1 hr) (g_var 0) g_int) ga_nil)) ga_nil)))))) ga_nil))))))) (gs_one (g_raise gzB rfl T.e_BadBar)) gs_nil)
    (gs_one (g_ifS (gt_val (g_callB (s_any rfl) n_any T.n_any (ga_cons (g_comp false [("one", 1), ("other", 2)] rfl sc_check_bar.nd (gi_zip T.n_zip (ga_cons (g_ix (u1 hr) (g_var 0) g_int) (ga_cons (g_sl false (g_ix (u1 hr) (g_var 0) g_int) (go_some g_int) go_none) ga_nil))) (blkOk_by (N := N_check_bar) (sc := (defScope st_check_bar)) (own := [("one", 1), ("other", 2)]) (by decide +kernel)) (by decide) (fun _ _ _ _ _ => (pg_tup rfl (pgs_cons (pg_name (i := 1) sc_check_bar.nd rfl (by first | exact Or.inl rfl | exact Or.inr rfl)) (pgs_cons (pg_name (i := 2) sc_check_bar.nd rfl (by first | exact Or.inl rfl | exact Or.inr rfl)) pgs_nil)))) (fun _ _ _ _ _ => gts_nil) (fun _ _ _ _ _ => (g_cmp (s_ge (u64 hr)) n_ge (g_var 1) (g_var 2)))) ga_nil))) (gs_one (g_raise gzB rfl T.e_BadBar)) gs_nil)))))
abbrev st_check_both : Stmt := topS 19
theorem sc_check_both : FnScope N_check_both ["bar", "most"] (defScope st_check_both) := ⟨rfl, rfl, rfl, by decide +kernel, rfl, by decide +kernel, by decide +kernel⟩
theorem ok_check_both (T : Facts P w K mg base cA.fn cA.tabs) : Callee P w K mg base cA "check_both" 5 (liftP G_check_both) :=
  callee T.d_check_both sc_check_both (fun f cdv A outer s H E hr => (gs_cons (g_expr (g_callC gzB (ok_check_bar T) (hr.mono (by decide)) (ga_cons (g_var 0) ga_nil)))
    (gs_one (g_ifS (gt_not (gt_val (g_callC gzB (ok_is_between T) (hr.mono (by decide)) (ga_cons (g_var 1) (ga_cons g_int (ga_cons (g_gint T.k_MOST_NUTS) ga_nil)))))) (gs_one (g_raise gzB rfl T.e_BadMost)) gs_nil))))
abbrev st_whole_of : Stmt := topS 21
theorem sc_whole_of : FnScope N_whole_of ["bar"] (defScope st_whole_of) := ⟨rfl, rfl, rfl, by decide +kernel, rfl, by decide +kernel, by decide +kernel⟩
theorem ok_whole_of (T : Facts P w K mg base cA.fn cA.tabs) : Callee P w K mg base cA "whole_of" 1 (liftP G_whole_of) :=
  callee T.d_whole_of sc_whole_of (fun f cdv A outer s H E hr => (gs_one (g_ret (g_tup (ga_cons g_int (ga_cons g_int (ga_cons (g_bin (s_add false) (n_add false) (g_callB s_len n_len T.n_len (ga_cons (g_ix (u1 hr) (g_var 0) g_int) ga_nil)) g_int) (ga_cons (g_bin (s_add false) (n_add false) (g_callB s_len n_len T.n_len (ga_cons (g_ix (u1 hr) (g_var 0) g_int) ga_nil)) g_int) ga_nil))))))))
abbrev st_Slab___init__ : Stmt := inClass (topS 32) 0
theorem sc_Slab___init__ : FnScope N_Slab___init__ ["self", "bar", "most"] (defScope st_Slab___init__) := ⟨rfl, rfl, rfl, by decide +kernel, rfl, by decide +kernel, by decide +kernel⟩
theorem mk_Slab (T : Facts P w K mg base cA.fn cA.tabs) : Maker P w K mg base cA "Slab" 5 6 T_Slab___init__ :=
  maker T.i_Slab sc_Slab___init__ (fun f cdv A outer s H E hr => (gs_cons (g_expr (g_callC gzB (ok_check_both T) (hr.mono (by decide)) (ga_cons (g_var 1) (ga_cons (g_var 2) ga_nil))))
    (gs_cons (g_sfld T.cls (g_var 0) (g_tup (ga_cons (g_callTy (s_list true) (n_list true) T.n_list (ga_cons (g_ix (u1 hr) (g_var 1) g_int) ga_nil)) (ga_cons (g_callTy (s_list true) (n_list true) T.n_list (ga_cons (g_ix (u1 hr) (g_var 1) g_int) ga_nil)) (ga_cons (g_callTy (s_list false) (n_list false) T.n_list (ga_cons (g_ix (u1 hr) (g_var 1) g_int) ga_nil)) ga_nil)))))
    (gs_cons (g_sfld T.cls (g_var 0) (g_var 2))
    (gs_cons (g_sfld T.cls (g_var 0) (g_lst false (ga_cons (g_callC gzB (ok_whole_of T) (hr.mono (by decide)) (ga_cons (g_var 1) ga_nil)) ga_nil)))
    (gs_cons (g_sfld T.cls (g_var 0) g_int)
    (gs_one (g_sfld T.cls (g_var 0) (g_lst true ga_nil)))))))))
abbrev st_Slab_pieces : Stmt := inClass (topS 32) 6
theorem sc_Slab_pieces : FnScope N_Slab_pieces ["self"] (defScope st_Slab_pieces) := ⟨rfl, rfl, rfl, by decide +kernel, rfl, by decide +kernel, by decide +kernel⟩
theorem ok_Slab_pieces (T : Facts P w K mg base cA.fn cA.tabs) : CalleeM P w K mg base cA 5 "pieces" 1 (liftP G_Slab_pieces) :=
  calleeM T.d_Slab_pieces sc_Slab_pieces (fun f cdv A outer s H E hr => (gs_one (g_ret (g_callTy (s_list false) (n_list false) T.n_list (ga_cons (g_fld T.cls (g_var 0)) ga_nil)))))
abbrev st_Slab_plan : Stmt := inClass (topS 32) 8
theorem sc_Slab_plan : FnScope N_Slab_plan ["self"] (defScope st_Slab_plan) := ⟨rfl, rfl, rfl, by decide +kernel, rfl, by decide +kernel, by decide +kernel⟩
theorem ok_Slab_plan (T : Facts P w K mg base cA.fn cA.tabs) : CalleeM P w K mg base cA 5 "plan" 1 (liftP G_Slab_plan) :=
  calleeM T.d_Slab_plan sc_Slab_plan (fun f cdv A outer s H E hr => (gs_one (g_ret (g_callTy (s_list false) (n_list false) T.n_list (ga_cons (g_fld T.cls (g_var 0)) ga_nil)))))
abbrev st_Slab_spent : Stmt := inClass (topS 32) 7
theorem sc_Slab_spent : FnScope N_Slab_spent ["self"] (defScope st_Slab_spent) := ⟨rfl, rfl, rfl, by decide +kernel, rfl, by decide +kernel, by decide +kernel⟩
theorem ok_Slab_spent (T : Facts P w K mg base cA.fn cA.tabs) : CalleeM P w K mg base cA 5 "spent" 1 (liftP G_Slab_spent) :=
  calleeM T.d_Slab_spent sc_Slab_spent (fun f cdv A outer s H E hr => (gs_one (g_ret (g_fld T.cls (g_var 0)))))
abbrev st_size_of : Stmt := topS 27
theorem sc_size_of : FnScope N_size_of ["piece"] (defScope st_size_of) := ⟨rfl, rfl, rfl, by decide +kernel, rfl, by decide +kernel, by decide +kernel⟩
theorem ok_size_of (T : Facts P w K mg base cA.fn cA.tabs) : Callee P w K mg base cA "size_of" 1 (liftP G_size_of) :=
  callee T.d_size_of sc_size_of (fun f cdv A outer s H E hr => (gs_one (g_ret (g_bin (s_mul false) (n_mul false) (g_bin s_sub n_sub (g_ix (u1 hr) (g_var 0) g_int) (g_ix (u1 hr) (g_var 0) g_int)) (g_bin s_sub n_sub (g_ix (u1 hr) (g_var 0) g_int) (g_ix (u1 hr) (g_var 0) g_int))))))
abbrev st_pieces_of : Stmt := topS 22
theorem sc_pieces_of : FnScope N_pieces_of ["bar"] (defScope st_pieces_of) := ⟨rfl, rfl, rfl, by decide +kernel, rfl, by decide +kernel, by decide +kernel⟩
theorem ok_pieces_of (T : Facts P w K mg base cA.fn cA.tabs) : Callee P w K mg base cA "pieces_of" 2 (liftP G_pieces_of) :=
  callee T.d_pieces_of sc_pieces_of (fun f cdv A outer s H E hr => (gs_cons (g_asg (pg_tup rfl (pgs_cons (pg_name (i := 1) sc_pieces_of.nd rfl (by first | exact Or.inl rfl | exact Or.inr rfl)) (pgs_cons (pg_name (i := 2) sc_pieces_of.nd rfl (by first | exact Or.inl rfl | exact Or.inr rfl)) (pgs_cons (pg_name (i := 3) sc_pieces_of.nd rfl (by first | exact Or.inl rfl | exact Or.inr rfl)) (pgs_cons (pg_name (i := 4) sc_pieces_of.nd rfl (by first | exact Or.inl rfl | exact Or.inr rfl)) pgs_nil))))) (g_callC gzB (ok_whole_of T) (hr.mono (by decide)) (ga_cons (g_var 0) ga_nil)))
    (gs_cons (g_set 5 sc_pieces_of.nd (g_lst true ga_nil))
    (gs_cons (g_for [6, 7, 8] ownB rfl (gi_range1 T.n_range (ga_cons (g_var 3) ga_nil)) (pg_name (i := 6) sc_pieces_of.nd rfl (by first | exact Or.inl rfl | exact Or.inr rfl)) (gs_one (g_for [7, 8] ownB rfl (gi_range1 T.n_range (ga_cons (g_var 4) ga_nil)) (pg_name (i := 7) sc_pieces_of.nd rfl (by first | exact Or.inl rfl | exact Or.inr rfl)) (gs_one (g_for [8] ownB rfl (gi_range2 T.n_range (ga_cons (g_bin (s_add false) (n_add false) (g_var 6) g_int) (ga_cons (g_bin (s_add false) (n_add false) (g_var 3) g_int) ga_nil))) (pg_name (i := 8) sc_pieces_of.nd rfl (by first | exact Or.inl rfl | exact Or.inr rfl)) (gs_one (g_expr (g_extend (g_var 5) (ga_cons (g_comp false [("last", 9)] rfl sc_pieces_of.nd (gi_range2 T.n_range (ga_cons (g_bin (s_add false) (n_add false) (g_var 7) g_int) (ga_cons (g_bin (s_add false) (n_add false) (g_var 4) g_int) ga_nil))) (blkOk_by (N := N_pieces_of) (sc := (defScope st_pieces_of)) (own := [("last", 9)]) (by decide +kernel)) (by decide) (fun _ _ _ _ _ => (pg_name (i := 9) sc_pieces_of.nd rfl (by first | exact Or.inl rfl | exact Or.inr rfl))) (fun _ _ _ _ _ => gts_nil) (fun _ _ _ _ _ => (g_tup (ga_cons (g_var 6) (ga_cons (g_var 7) (ga_cons (g_var 8) (ga_cons (g_var 9) ga_nil))))))) ga_nil)))))))))
    (gs_one (g_ret (g_var 5)))))))
abbrev st_by_size : Stmt := topS 28
theorem sc_by_size : FnScope N_by_size ["bar"] (defScope st_by_size) := ⟨rfl, rfl, rfl, by decide +kernel, rfl, by decide +kernel, by decide +kernel⟩
theorem ok_by_size (T : Facts P w K mg base cA.fn cA.tabs) : Callee P w K mg base cA "by_size" 3 (liftP G_by_size) :=
  callee T.d_by_size sc_by_size (fun f cdv A outer s H E hr => (gs_one (g_ret (g_comp false [("size", 1), ("piece", 2)] rfl sc_by_size.nd (gi_seq (g_callB (s_sorted false (u200 hr)) (n_sorted false) T.n_sorted (ga_cons (g_comp false [("piece", 2)] rfl sc_by_size.nd (gi_seq (g_callC gzB (ok_pieces_of T) (hr.mono (by decide)) (ga_cons (g_var 0) ga_nil))) (blkOk_by (N := N_by_size) (sc := (defScope st_by_size)) (own := [("piece", 2)]) (by decide +kernel)) (by decide) (fun _ _ _ _ _ => (pg_name (i := 2) sc_by_size.nd rfl (by first | exact Or.inl rfl | exact Or.inr rfl))) (fun _ _ _ _ _ => gts_nil) (fun _ _ _ _ _ => (g_tup (ga_cons (g_callC gz0 (ok_size_of T) (hr.mono (by decide)) (ga_cons (g_var 2) ga_nil)) (ga_cons (g_var 2) ga_nil))))) ga_nil))) (blkOk_by (N := N_by_size) (sc := (defScope st_by_size)) (own := [("size", 1), ("piece", 2)]) (by decide +kernel)) (by decide) (fun _ _ _ _ _ => (pg_tup rfl (pgs_cons (pg_name (i := 1) sc_by_size.nd rfl (by first | exact Or.inl rfl | exact Or.inr rfl)) (pgs_cons (pg_name (i := 2) sc_by_size.nd rfl (by first | exact Or.inl rfl | exact Or.inr rfl)) pgs_nil)))) (fun _ _ _ _ _ => gts_nil) (fun _ _ _ _ _ => (g_var 2))))))
abbrev st_nuts_in : Stmt := topS 23
theorem sc_nuts_in : FnScope N_nuts_in ["bar", "piece"] (defScope st_nuts_in) := ⟨rfl, rfl, rfl, by decide +kernel, rfl, by decide +kernel, by decide +kernel⟩
theorem ok_nuts_in (T : Facts P w K mg base cA.fn cA.tabs) : Callee P w K mg base cA "nuts_in" 1 (liftP G_nuts_in) :=
  callee T.d_nuts_in sc_nuts_in (fun f cdv A outer s H E hr => (gs_one (g_ret (g_callB s_len n_len T.n_len (ga_cons (g_comp false [("nut", 2)] rfl sc_nuts_in.nd (gi_seq (g_ix (u1 hr) (g_var 0) g_int)) (blkOk_by (N := N_nuts_in) (sc := (defScope st_nuts_in)) (own := [("nut", 2)]) (by decide +kernel)) (by decide) (fun _ _ _ _ _ => (pg_name (i := 2) sc_nuts_in.nd rfl (by first | exact Or.inl rfl | exact Or.inr rfl))) (fun _ _ _ _ _ => (gts_one (GW.gt (gw_and (gt_chain s_le n_le s_lt n_lt (g_ix (u1 hr) (g_var 1) g_int) (g_ix (u1 hr) (g_var 2) g_int) (g_ix (u1 hr) (g_var 1) g_int)) (gw_and1 (gt_chain s_le n_le s_lt n_lt (g_ix (u1 hr) (g_var 1) g_int) (g_ix (u1 hr) (g_var 2) g_int) (g_ix (u1 hr) (g_var 1) g_int))))))) (fun _ _ _ _ _ => (g_var 2))) ga_nil)))))
abbrev st_lines_in : Stmt := topS 24
theorem sc_lines_in : FnScope N_lines_in ["piece"] (defScope st_lines_in) := ⟨rfl, rfl, rfl, by decide +kernel, rfl, by decide +kernel, by decide +kernel⟩
theorem ok_lines_in (T : Facts P w K mg base cA.fn cA.tabs) : Callee P w K mg base cA "lines_in" 1 (liftP G_lines_in) :=
  callee T.d_lines_in sc_lines_in (fun f cdv A outer s H E hr => (gs_cons (g_setComp false [("line", 2)] 1 rfl sc_lines_in.nd (gi_range2 T.n_range (ga_cons (g_bin (s_add false) (n_add false) (g_ix (u1 hr) (g_var 0) g_int) g_int) (ga_cons (g_ix (u1 hr) (g_var 0) g_int) ga_nil))) (blkOk_by (N := N_lines_in) (sc := (defScope st_lines_in)) (own := [("line", 2)]) (by decide +kernel)) (by decide) (fun _ _ _ _ _ => (pg_name (i := 2) sc_lines_in.nd rfl (by first | exact Or.inl rfl | exact Or.inr rfl))) (fun _ _ _ _ _ => gts_nil) (fun _ _ _ _ _ => (g_tup (ga_cons g_int (ga_cons (g_var 2) ga_nil)))) (sw_true rfl rfl rfl (by decide +kernel)))
    (gs_one (g_ret (g_bin (s_add false) (n_add false) (g_var 1) (g_comp false [("line", 2)] rfl sc_lines_in.nd (gi_range2 T.n_range (ga_cons (g_bin (s_add false) (n_add false) (g_ix (u1 hr) (g_var 0) g_int) g_int) (ga_cons (g_ix (u1 hr) (g_var 0) g_int) ga_nil))) (blkOk_by (N := N_lines_in) (sc := (defScope st_lines_in)) (own := [("line", 2)]) (by decide +kernel)) (by decide) (fun _ _ _ _ _ => (pg_name (i := 2) sc_lines_in.nd rfl (by first | exact Or.inl rfl | exact Or.inr rfl))) (fun _ _ _ _ _ => gts_nil) (fun _ _ _ _ _ => (g_tup (ga_cons g_int (ga_cons (g_var 2) ga_nil))))))))))
abbrev st_parts_of : Stmt := topS 26
theorem sc_parts_of : FnScope N_parts_of ["piece", "way", "line"] (defScope st_parts_of) := ⟨rfl, rfl, rfl, by decide +kernel, rfl, by decide +kernel, by decide +kernel⟩
theorem ok_parts_of (T : Facts P w K mg base cA.fn cA.tabs) : Callee P w K mg base cA "parts_of" 1 (liftP G_parts_of) :=
  callee T.d_parts_of sc_parts_of (fun f cdv A outer s H E hr => (gs_cons (g_asg (pg_tup rfl (pgs_cons (pg_name (i := 3) sc_parts_of.nd rfl (by first | exact Or.inl rfl | exact Or.inr rfl)) (pgs_cons (pg_name (i := 4) sc_parts_of.nd rfl (by first | exact Or.inl rfl | exact Or.inr rfl)) (pgs_cons (pg_name (i := 5) sc_parts_of.nd rfl (by first | exact Or.inl rfl | exact Or.inr rfl)) (pgs_cons (pg_name (i := 6) sc_parts_of.nd rfl (by first | exact Or.inl rfl | exact Or.inr rfl)) pgs_nil))))) (g_var 0))
    (gs_cons (g_ifS (gt_cmp (s_eq (u64 hr)) n_eq (g_var 1) g_int) (gs_one (g_ret (g_tup (ga_cons (g_tup (ga_cons (g_var 3) (ga_cons (g_var 4) (ga_cons (g_var 2) (ga_cons (g_var 6) ga_nil))))) (ga_cons (g_tup (ga_cons (g_var 2) (ga_cons (g_var 4) (ga_cons (g_var 5) (ga_cons (g_var 6) ga_nil))))) ga_nil))))) gs_nil)
    (gs_one (g_ret (g_tup (ga_cons (g_tup (ga_cons (g_var 3) (ga_cons (g_var 4) (ga_cons (g_var 5) (ga_cons (g_var 2) ga_nil))))) (ga_cons (g_tup (ga_cons (g_var 3) (ga_cons (g_var 2) (ga_cons (g_var 5) (ga_cons (g_var 6) ga_nil))))) ga_nil))))))))
abbrev st_price_of : Stmt := topS 25
theorem sc_price_of : FnScope N_price_of ["bar", "way", "line"] (defScope st_price_of) := ⟨rfl, rfl, rfl, by decide +kernel, rfl, by decide +kernel, by decide +kernel⟩
theorem ok_price_of (T : Facts P w K mg base cA.fn cA.tabs) : Callee P w K mg base cA "price_of" 1 (liftP G_price_of) :=
  callee T.d_price_of sc_price_of (fun f cdv A outer s H E hr => (gs_one (g_ret (g_ix (u1 hr) (g_ix (u1 hr) (g_var 0) (g_var 1)) (g_bin s_sub n_sub (g_var 2) g_int)))))
abbrev st_costs_of : Stmt := topS 29
theorem sc_costs_of : FnScope N_costs_of ["bar", "most"] (defScope st_costs_of) := ⟨rfl, rfl, rfl, by decide +kernel, rfl, by decide +kernel, by decide +kernel⟩
theorem ok_costs_of (T : Facts P w K mg base cA.fn cA.tabs) : Callee P w K mg base cA "costs_of" 4 (liftP G_costs_of) :=
  callee T.d_costs_of sc_costs_of (fun f cdv A outer s H E hr => (gs_cons (g_par 2 3 rfl sc_costs_of.nd (ga_cons g_dicT (ga_cons g_dicT ga_nil)))
    (gs_cons (g_for [4, 5, 6, 7, 8, 9, 10, 11] ownB rfl (gi_seq (g_callC gzB (ok_by_size T) (hr.mono (by decide)) (ga_cons (g_var 0) ga_nil))) (pg_name (i := 4) sc_costs_of.nd rfl (by first | exact Or.inl rfl | exact Or.inr rfl)) (gs_cons (g_puts (u1 hr) rfl (gp_cons (g_var 2) (g_var 4) (gp_cons (g_var 3) (g_var 4) GPuts.nil)) (g_tup (ga_cons g_int (ga_cons g_int ga_nil))))
    (gs_one (g_ifS (gt_cmp s_gt n_gt (g_callC gzB (ok_nuts_in T) (hr.mono (by decide)) (ga_cons (g_var 0) (ga_cons (g_var 4) ga_nil))) (g_var 1)) (gs_cons (g_asg (pg_tup rfl (pgs_cons (pg_name (i := 5) sc_costs_of.nd rfl (by first | exact Or.inl rfl | exact Or.inr rfl)) (pgs_cons (pg_name (i := 6) sc_costs_of.nd rfl (by first | exact Or.inl rfl | exact Or.inr rfl)) pgs_nil))) (g_tup (ga_cons (g_neg g_int) (ga_cons g_int ga_nil))))
    (gs_cons (g_for [7, 8, 9, 10, 11] ownB rfl (gi_seq (g_callC gzB (ok_lines_in T) (hr.mono (by decide)) (ga_cons (g_var 4) ga_nil))) (pg_tup rfl (pgs_cons (pg_name (i := 7) sc_costs_of.nd rfl (by first | exact Or.inl rfl | exact Or.inr rfl)) (pgs_cons (pg_name (i := 8) sc_costs_of.nd rfl (by first | exact Or.inl rfl | exact Or.inr rfl)) pgs_nil))) (gs_cons (g_asg (pg_tup rfl (pgs_cons (pg_name (i := 9) sc_costs_of.nd rfl (by first | exact Or.inl rfl | exact Or.inr rfl)) (pgs_cons (pg_name (i := 10) sc_costs_of.nd rfl (by first | exact Or.inl rfl | exact Or.inr rfl)) pgs_nil))) (g_callC gzB (ok_parts_of T) (hr.mono (by decide)) (ga_cons (g_var 4) (ga_cons (g_var 7) (ga_cons (g_var 8) ga_nil)))))
    (gs_cons (g_set 11 sc_costs_of.nd (g_bin (s_add false) (n_add false) (g_bin (s_add false) (n_add false) (g_callC gzB (ok_price_of T) (hr.mono (by decide)) (ga_cons (g_var 0) (ga_cons (g_var 7) (ga_cons (g_var 8) ga_nil)))) (g_ix (u1 hr) (g_var 2) (g_var 9))) (g_ix (u1 hr) (g_var 2) (g_var 10))))
    (gs_cons (g_ifS (GW.gt (gw_or (gt_cmp s_lt n_lt (g_var 5) g_int) (gw_or1 (gt_cmp s_lt n_lt (g_var 11) (g_var 5))))) (gs_one (g_par 5 6 rfl sc_costs_of.nd (ga_cons (g_var 11) (ga_cons g_int ga_nil)))) gs_nil)
    (gs_one (g_ifS (gt_cmp (s_eq (u64 hr)) n_eq (g_var 11) (g_var 5)) (gs_one (g_augAdd 6 sc_costs_of.nd (g_bin (s_mul false) (n_mul false) (g_ix (u1 hr) (g_var 3) (g_var 9)) (g_ix (u1 hr) (g_var 3) (g_var 10))))) gs_nil))))))
    (gs_one (g_puts (u1 hr) rfl (gp_cons (g_var 2) (g_var 4) (gp_cons (g_var 3) (g_var 4) GPuts.nil)) (g_tup (ga_cons (g_var 5) (ga_cons (g_var 6) ga_nil))))))) gs_nil))))
    (gs_one (g_ret (g_tup (ga_cons (g_var 2) (ga_cons (g_var 3) ga_nil))))))))
abbrev st_Slab_owed : Stmt := inClass (topS 32) 1
theorem sc_Slab_owed : FnScope N_Slab_owed ["self"] (defScope st_Slab_owed) := ⟨rfl, rfl, rfl, by decide +kernel, rfl, by decide +kernel, by decide +kernel⟩
theorem ok_Slab_owed (T : Facts P w K mg base cA.fn cA.tabs) : CalleeM P w K mg base cA 5 "owed" 5 (liftP G_Slab_owed) :=
  calleeM T.d_Slab_owed sc_Slab_owed (fun f cdv A outer s H E hr => (gs_cons (g_set 1 sc_Slab_owed.nd (g_ix (u1 hr) (g_callC gzB (ok_costs_of T) (hr.mono (by decide)) (ga_cons (g_fld T.cls (g_var 0)) (ga_cons (g_fld T.cls (g_var 0)) ga_nil))) g_int))
    (gs_one (g_ret (g_callB (s_sum rfl) n_sum T.n_sum (ga_cons (g_comp false [("piece", 2)] rfl sc_Slab_owed.nd (gi_seq (g_fld T.cls (g_var 0))) (blkOk_by (N := N_Slab_owed) (sc := (defScope st_Slab_owed)) (own := [("piece", 2)]) (by decide +kernel)) (by decide) (fun _ _ _ _ _ => (pg_name (i := 2) sc_Slab_owed.nd rfl (by first | exact Or.inl rfl | exact Or.inr rfl))) (fun _ _ _ _ _ => gts_nil) (fun _ _ _ _ _ => (g_ix (u1 hr) (g_var 1) (g_var 2)))) ga_nil))))))
abbrev st_Slab_bar_now : Stmt := inClass (topS 32) 9
theorem sc_Slab_bar_now : FnScope N_Slab_bar_now ["self"] (defScope st_Slab_bar_now) := ⟨rfl, rfl, rfl, by decide +kernel, rfl, by decide +kernel, by decide +kernel⟩
theorem ok_Slab_bar_now (T : Facts P w K mg base cA.fn cA.tabs) : CalleeM P w K mg base cA 5 "bar_now" 1 (liftP G_Slab_bar_now) :=
  calleeM T.d_Slab_bar_now sc_Slab_bar_now (fun f cdv A outer s H E hr => (gs_one (g_ret (g_tup (ga_cons (g_callTy (s_list false) (n_list false) T.n_list (ga_cons (g_ix (u1 hr) (g_fld T.cls (g_var 0)) g_int) ga_nil)) (ga_cons (g_callTy (s_list false) (n_list false) T.n_list (ga_cons (g_ix (u1 hr) (g_fld T.cls (g_var 0)) g_int) ga_nil)) (ga_cons (g_callTy (s_list false) (n_list false) T.n_list (ga_cons (g_ix (u1 hr) (g_fld T.cls (g_var 0)) g_int) ga_nil)) ga_nil)))))))
abbrev st_Slab_helpful : Stmt := inClass (topS 32) 5
theorem sc_Slab_helpful : FnScope N_Slab_helpful ["self"] (defScope st_Slab_helpful) := ⟨rfl, rfl, rfl, by decide +kernel, rfl, by decide +kernel, by decide +kernel⟩
theorem ok_Slab_helpful (T : Facts P w K mg base cA.fn cA.tabs) : CalleeM P w K mg base cA 5 "helpful" 5 (liftP G_Slab_helpful) :=
  calleeM T.d_Slab_helpful sc_Slab_helpful (fun f cdv A outer s H E hr => (gs_cons (g_set 1 sc_Slab_helpful.nd (g_ix (u1 hr) (g_callC gzB (ok_costs_of T) (hr.mono (by decide)) (ga_cons (g_fld T.cls (g_var 0)) (ga_cons (g_fld T.cls (g_var 0)) ga_nil))) g_int))
    (gs_cons (g_for [2, 3, 4, 5, 6] ownB rfl (gi_seq (g_fld T.cls (g_var 0))) (pg_name (i := 2) sc_Slab_helpful.nd rfl (by first | exact Or.inl rfl | exact Or.inr rfl)) (gs_one (g_ifS (gt_cmp s_gt n_gt (g_callC gzB (ok_nuts_in T) (hr.mono (by decide)) (ga_cons (g_fld T.cls (g_var 0)) (ga_cons (g_var 2) ga_nil))) (g_fld T.cls (g_var 0))) (gs_one (g_for [3, 4, 5, 6] ownB rfl (gi_seq (g_callC gzB (ok_lines_in T) (hr.mono (by decide)) (ga_cons (g_var 2) ga_nil))) (pg_tup rfl (pgs_cons (pg_name (i := 3) sc_Slab_helpful.nd rfl (by first | exact Or.inl rfl | exact Or.inr rfl)) (pgs_cons (pg_name (i := 4) sc_Slab_helpful.nd rfl (by first | exact Or.inl rfl | exact Or.inr rfl)) pgs_nil))) (gs_cons (g_asg (pg_tup rfl (pgs_cons (pg_name (i := 5) sc_Slab_helpful.nd rfl (by first | exact Or.inl rfl | exact Or.inr rfl)) (pgs_cons (pg_name (i := 6) sc_Slab_helpful.nd rfl (by first | exact Or.inl rfl | exact Or.inr rfl)) pgs_nil))) (g_callC gzB (ok_parts_of T) (hr.mono (by decide)) (ga_cons (g_var 2) (ga_cons (g_var 3) (ga_cons (g_var 4) ga_nil)))))
    (gs_one (g_ifS (gt_cmp (s_eq (u64 hr)) n_eq (g_ix (u1 hr) (g_var 1) (g_var 2)) (g_bin (s_add false) (n_add false) (g_bin (s_add false) (n_add false) (g_callC gzB (ok_price_of T) (hr.mono (by decide)) (ga_cons (g_fld T.cls (g_var 0)) (ga_cons (g_var 3) (ga_cons (g_var 4) ga_nil)))) (g_ix (u1 hr) (g_var 1) (g_var 5))) (g_ix (u1 hr) (g_var 1) (g_var 6)))) (gs_one (g_ret (g_tup (ga_cons (g_var 2) (ga_cons (g_var 3) (ga_cons (g_var 4) ga_nil)))))) gs_nil))))) gs_nil)))
    (gs_one (g_ret g_non)))))
abbrev st__law_state : Stmt := topS 38
theorem sc__law_state : FnScope N__law_state ["_law_slab"] (defScope st__law_state) := ⟨rfl, rfl, rfl, by decide +kernel, rfl, by decide +kernel, by decide +kernel⟩
theorem ok__law_state (T : Facts P w K mg base cA.fn cA.tabs) : Callee P w K mg base cA "_law_state" 6 (liftP G__law_state) :=
  callee T.d__law_state sc__law_state (fun f cdv A outer s H E hr => (gs_one (g_ret (g_lst false (ga_cons (g_meth0 gzB (GAlts.cons (ok_Slab_pieces T) (hr.mono (by decide)) GAlts.nil) (g_var 0)) (ga_cons (g_meth0 gzB (GAlts.cons (ok_Slab_plan T) (hr.mono (by decide)) GAlts.nil) (g_var 0)) (ga_cons (g_meth0 gzB (GAlts.cons (ok_Slab_spent T) (hr.mono (by decide)) GAlts.nil) (g_var 0)) (ga_cons (g_meth0 gzB (GAlts.cons (ok_Slab_owed T) (hr.mono (by decide)) GAlts.nil) (g_var 0)) (ga_cons (g_meth0 gzB (GAlts.cons (ok_Slab_bar_now T) (hr.mono (by decide)) GAlts.nil) (g_var 0)) (ga_cons (g_meth0 gzB (GAlts.cons (ok_Slab_helpful T) (hr.mono (by decide)) GAlts.nil) (g_var 0)) ga_nil))))))))))
abbrev st_broken : Stmt := topS 30
theorem sc_broken : FnScope N_broken ["pieces", "one"] (defScope st_broken) := ⟨rfl, rfl, rfl, by decide +kernel, rfl, by decide +kernel, by decide +kernel⟩
theorem ok_broken (T : Facts P w K mg base cA.fn cA.tabs) : Callee P w K mg base cA "broken" 2 (liftP G_broken) :=
  callee T.d_broken sc_broken (fun f cdv A outer s H E hr => (gs_cons (g_set 2 sc_broken.nd (g_callC gzB (ok_parts_of T) (hr.mono (by decide)) (ga_cons (g_sl false (g_var 1) go_none (go_some g_int)) (ga_cons (g_ix (u1 hr) (g_var 1) g_int) (ga_cons (g_ix (u1 hr) (g_var 1) g_int) ga_nil)))))
    (gs_one (g_ret (g_callB (s_sorted false (u200 hr)) (n_sorted false) T.n_sorted (ga_cons (g_bin (s_add false) (n_add false) (g_comp false [("piece", 3)] rfl sc_broken.nd (gi_seq (g_var 0)) (blkOk_by (N := N_broken) (sc := (defScope st_broken)) (own := [("piece", 3)]) (by decide +kernel)) (by decide) (fun _ _ _ _ _ => (pg_name (i := 3) sc_broken.nd rfl (by first | exact Or.inl rfl | exact Or.inr rfl))) (fun _ _ _ _ _ => (gts_one (gt_cmp (s_ne (u64 hr)) n_ne (g_var 3) (g_sl false (g_var 1) go_none (go_some g_int))))) (fun _ _ _ _ _ => (g_var 3))) (g_lst false (ga_cons (g_ix (u1 hr) (g_var 2) g_int) (ga_cons (g_ix (u1 hr) (g_var 2) g_int) ga_nil)))) ga_nil))))))
abbrev st_Slab_snap : Stmt := inClass (topS 32) 2
theorem sc_Slab_snap : FnScope N_Slab_snap ["self", "piece", "way", "line"] (defScope st_Slab_snap) := ⟨rfl, rfl, rfl, by decide +kernel, rfl, by decide +kernel, by decide +kernel⟩
theorem ok_Slab_snap (T : Facts P w K mg base cA.fn cA.tabs) : CalleeM P w K mg base cA 5 "snap" 6 T_Slab_snap :=
  calleeMT T.d_Slab_snap sc_Slab_snap (fun f cdv A outer s H E hr => (gs_cons (g_ifS (GW.gt (gw_or (gt_not (gt_val (g_callB s_isi n_isi T.n_isinstance (ga_cons (g_var 1) (ga_cons (g_ty T.n_tuple) ga_nil))))) (gw_or (gt_cmp (s_ne (u64 hr)) n_ne (g_callB s_len n_len T.n_len (ga_cons (g_var 1) ga_nil)) g_int) (gw_or1 (gt_not (gt_val (g_callB (s_all rfl) n_all T.n_all (ga_cons (g_comp false [("one", 4)] rfl sc_Slab_snap.nd (gi_seq (g_var 1)) (blkOk_by (N := N_Slab_snap) (sc := (defScope st_Slab_snap)) (own := [("one", 4)]) (by decide +kernel)) (by decide) (fun _ _ _ _ _ => (pg_name (i := 4) sc_Slab_snap.nd rfl (by first | exact Or.inl rfl | exact Or.inr rfl))) (fun _ _ _ _ _ => gts_nil) (fun _ _ _ _ _ => (g_callC gz0 (ok_is_whole T) (hr.mono (by decide)) (ga_cons (g_var 4) ga_nil)))) ga_nil)))))))) (gs_one (g_raise gzB rfl T.e_BadPiece)) gs_nil)
    (gs_cons (g_ifS (gt_cmp (s_notIn (u65 hr)) n_notIn (g_var 1) (g_fld T.cls (g_var 0))) (gs_one (g_raise gzB rfl T.e_BadPiece)) gs_nil)
    (gs_cons (g_ifS (GW.gt (gw_or (gt_not (gt_val (g_callC gzB (ok_is_whole T) (hr.mono (by decide)) (ga_cons (g_var 2) ga_nil)))) (gw_or (gt_not (gt_val (g_callC gzB (ok_is_whole T) (hr.mono (by decide)) (ga_cons (g_var 3) ga_nil)))) (gw_or1 (gt_cmp (s_notIn (u65 hr)) n_notIn (g_tup (ga_cons (g_var 2) (ga_cons (g_var 3) ga_nil))) (g_callC gzB (ok_lines_in T) (hr.mono (by decide)) (ga_cons (g_var 1) ga_nil))))))) (gs_one (g_raise gzB rfl T.e_BadLine)) gs_nil)
    (gs_cons (g_sfld T.cls (g_var 0) (g_callC gzB (ok_broken T) (hr.mono (by decide)) (ga_cons (g_fld T.cls (g_var 0)) (ga_cons (g_bin (s_add false) (n_add false) (g_var 1) (g_tup (ga_cons (g_var 2) (ga_cons (g_var 3) ga_nil)))) ga_nil))))
    (gs_cons (g_augFld T.cls (g_var 0) (g_callC gzB (ok_price_of T) (hr.mono (by decide)) (ga_cons (g_fld T.cls (g_var 0)) (ga_cons (g_var 2) (ga_cons (g_var 3) ga_nil)))))
    (gs_cons (g_expr (g_append (g_fld T.cls (g_var 0)) (ga_cons (g_bin (s_add false) (n_add false) (g_var 1) (g_tup (ga_cons (g_var 2) (ga_cons (g_var 3) ga_nil)))) ga_nil)))
    (gs_one (g_ret (g_meth0 gzB (GAlts.cons (ok_Slab_owed T) (hr.mono (by decide)) GAlts.nil) (g_var 0)))))))))))
abbrev st_Slab_nut : Stmt := inClass (topS 32) 3
theorem sc_Slab_nut : FnScope N_Slab_nut ["self", "column", "row"] (defScope st_Slab_nut) := ⟨rfl, rfl, rfl, by decide +kernel, rfl, by decide +kernel, by decide +kernel⟩
theorem ok_Slab_nut (T : Facts P w K mg base cA.fn cA.tabs) : CalleeM P w K mg base cA 5 "nut" 6 T_Slab_nut :=
  calleeMT T.d_Slab_nut sc_Slab_nut (fun f cdv A outer s H E hr => (gs_cons (g_set 3 sc_Slab_nut.nd (g_tup (ga_cons (g_var 1) (ga_cons (g_var 2) ga_nil))))
    (gs_cons (g_ifS (GW.gt (gw_or (gt_not (gt_val (g_callC gzB (ok_is_cell T) (hr.mono (by decide)) (ga_cons (g_var 3) (ga_cons (g_callB s_len n_len T.n_len (ga_cons (g_ix (u1 hr) (g_fld T.cls (g_var 0)) g_int) ga_nil)) (ga_cons (g_callB s_len n_len T.n_len (ga_cons (g_ix (u1 hr) (g_fld T.cls (g_var 0)) g_int) ga_nil)) ga_nil)))))) (gw_or1 (gt_cmp (s_in (u65 hr)) n_in (g_var 3) (g_ix (u1 hr) (g_fld T.cls (g_var 0)) g_int))))) (gs_one (g_raise gzB rfl T.e_BadNut)) gs_nil)
    (gs_cons (g_sfld T.cls (g_var 0) (g_tup (ga_cons (g_ix (u1 hr) (g_fld T.cls (g_var 0)) g_int) (ga_cons (g_ix (u1 hr) (g_fld T.cls (g_var 0)) g_int) (ga_cons (g_callB (s_sorted false (u200 hr)) (n_sorted false) T.n_sorted (ga_cons (g_bin (s_add false) (n_add false) (g_ix (u1 hr) (g_fld T.cls (g_var 0)) g_int) (g_lst false (ga_cons (g_var 3) ga_nil))) ga_nil)) ga_nil)))))
    (gs_one (g_ret (g_meth0 gzB (GAlts.cons (ok_Slab_owed T) (hr.mono (by decide)) GAlts.nil) (g_var 0))))))))
abbrev st_Slab_set_price : Stmt := inClass (topS 32) 4
theorem sc_Slab_set_price : FnScope N_Slab_set_price ["self", "way", "line", "price"] (defScope st_Slab_set_price) := ⟨rfl, rfl, rfl, by decide +kernel, rfl, by decide +kernel, by decide +kernel⟩
theorem ok_Slab_set_price (T : Facts P w K mg base cA.fn cA.tabs) : CalleeM P w K mg base cA 5 "set_price" 6 T_Slab_set_price :=
  calleeMT T.d_Slab_set_price sc_Slab_set_price (fun f cdv A outer s H E hr => (gs_cons (g_ifS (GW.gt (gw_or (gt_not (gt_val (g_callC gzB (ok_is_whole T) (hr.mono (by decide)) (ga_cons (g_var 1) ga_nil)))) (gw_or (gt_not (gt_val (g_callC gzB (ok_is_whole T) (hr.mono (by decide)) (ga_cons (g_var 2) ga_nil)))) (gw_or1 (gt_cmp (s_notIn (u65 hr)) n_notIn (g_tup (ga_cons (g_var 1) (ga_cons (g_var 2) ga_nil))) (g_callC gzB (ok_lines_in T) (hr.mono (by decide)) (ga_cons (g_callC gzB (ok_whole_of T) (hr.mono (by decide)) (ga_cons (g_fld T.cls (g_var 0)) ga_nil)) ga_nil))))))) (gs_one (g_raise gzB rfl T.e_BadLine)) gs_nil)
    (gs_cons (g_ifS (gt_not (gt_val (g_callC gzB (ok_is_between T) (hr.mono (by decide)) (ga_cons (g_var 3) (ga_cons g_int (ga_cons (g_gint T.k_MOST_PRICE) ga_nil)))))) (gs_one (g_raise gzB rfl T.e_BadPrice)) gs_nil)
    (gs_cons (g_put (u1 hr) (g_ix (u1 hr) (g_fld T.cls (g_var 0)) (g_var 1)) (g_bin s_sub n_sub (g_var 2) g_int) (g_var 3))
    (gs_one (g_ret (g_meth0 gzB (GAlts.cons (ok_Slab_owed T) (hr.mono (by decide)) GAlts.nil) (g_var 0))))))))
abbrev st__law_which : Stmt := topS 34
theorem sc__law_which : FnScope N__law_which ["_law_error"] (defScope st__law_which) := ⟨rfl, rfl, rfl, by decide +kernel, rfl, by decide +kernel, by decide +kernel⟩
theorem ok__law_which (T : Facts P w K mg base cA.fn cA.tabs) (xc : Nat) : CalleeH P w K mg base cA "_law_which" 1 xc (G__law_which xc) :=
  ⟨⟨_, N__law_which, _, m__law_which xc, T.d__law_which, sc__law_which, rfl, fun f cdv A outer s H E p hr hp => (gs_cons (g_set 1 sc__law_which.nd (g_lst false (ga_cons (g_callB (s_isiE T.exi hp) n_isiE T.n_isinstance (ga_cons (g_var 0) (ga_cons (g_cls T.c_BadBar) ga_nil))) (ga_cons (g_callB (s_isiE T.exi hp) n_isiE T.n_isinstance (ga_cons (g_var 0) (ga_cons (g_cls T.c_BadMost) ga_nil))) (ga_cons (g_callB (s_isiE T.exi hp) n_isiE T.n_isinstance (ga_cons (g_var 0) (ga_cons (g_cls T.c_BadPlan) ga_nil))) ga_nil)))))
    (gs_cons (g_set 1 sc__law_which.nd (g_bin (s_add false) (n_add false) (g_var 1) (g_lst false (ga_cons (g_callB (s_isiE T.exi hp) n_isiE T.n_isinstance (ga_cons (g_var 0) (ga_cons (g_cls T.c_BadNumber) ga_nil))) (ga_cons (g_callB (s_isiE T.exi hp) n_isiE T.n_isinstance (ga_cons (g_var 0) (ga_cons (g_cls T.c_BadPiece) ga_nil))) (ga_cons (g_callB (s_isiE T.exi hp) n_isiE T.n_isinstance (ga_cons (g_var 0) (ga_cons (g_cls T.c_BadLine) ga_nil))) ga_nil))))))
    (gs_cons (g_set 1 sc__law_which.nd (g_bin (s_add false) (n_add false) (g_var 1) (g_lst false (ga_cons (g_callB (s_isiE T.exi hp) n_isiE T.n_isinstance (ga_cons (g_var 0) (ga_cons (g_cls T.c_BadNut) ga_nil))) (ga_cons (g_callB (s_isiE T.exi hp) n_isiE T.n_isinstance (ga_cons (g_var 0) (ga_cons (g_cls T.c_BadPrice) ga_nil))) ga_nil)))))
    (gs_one (g_ret (g_if (GW.gt (gw_and (gt_cmp (s_eq (u64H hr)) n_eq (g_bmr PySem.F.plainAttrs_list PySem.F.slot_list_count PySem.F.type_list_count (s_count (u65H hr)) n_count (g_var 1) (ga_cons g_bl ga_nil)) g_int) (gw_and1 (gt_val (g_callB (s_isiE T.exi hp) n_isiE T.n_isinstance (ga_cons (g_var 0) (ga_cons (g_ty T.n_ValueError) ga_nil))))))) (g_bmr PySem.F.plainAttrs_list PySem.F.slot_list_index PySem.F.type_list_index (s_index (u65H hr)) n_index (g_var 1) (ga_cons g_bl ga_nil)) g_int))))))⟩⟩
abbrev st__law_refused : Stmt := topS 35
theorem sc__law_refused : FnScope N__law_refused ["_law_ask", "_law_things", "_law_due"] (defScope st__law_refused) := ⟨rfl, rfl, rfl, by decide +kernel, rfl, by decide +kernel, by decide +kernel⟩
theorem ok__law_refused (T : Facts P w K mg base cA.fn cA.tabs) : CalleeA P w K mg base cA "_law_refused" 3 3 N__law_refused m__law_refused :=
  ⟨⟨_, _, T.d__law_refused, rfl, sc__law_refused, fun J mono lam lmono I f cdv A outer s H E hr hA => (gs_cons (g_for [3, 4] ownB rfl (gi_seq (g_var 1)) (pg_name (i := 3) sc__law_refused.nd rfl (by first | exact Or.inl rfl | exact Or.inr rfl)) (gs_cons (g_set 4 sc__law_refused.nd (g_neg g_int))
    (gs_cons (g_tryAs 5 4 gzB sc__law_refused.nd T.exm_BarError T.c_BarError (fun W pn xe tk po => (gs_one (g_expr (g_ask 0 (askT hA tk) (ga_cons (g_var 3) ga_nil))))) (fun xc a oe pn hp => (g_callH gz0 hp (ok__law_which (T.exo a) xc) (rmk hr (by decide)) (ga_cons (g_var 5) ga_nil))))
    (gs_one (g_ifS (gt_cmp (s_ne (u64 hr)) n_ne (g_var 4) (g_var 2)) (gs_one (g_ret g_bl)) gs_nil)))))
    (gs_one (g_ret g_bl)))⟩⟩
abbrev st__law_no_numbers : Stmt := topS 36
theorem sc__law_no_numbers : FnScope N__law_no_numbers ["_law_more"] (defScope st__law_no_numbers) := ⟨rfl, rfl, rfl, by decide +kernel, rfl, by decide +kernel, by decide +kernel⟩
theorem ok__law_no_numbers (T : Facts P w K mg base cA.fn cA.tabs) : Callee P w K mg base cA "_law_no_numbers" 1 (liftP G__law_no_numbers) :=
  callee T.d__law_no_numbers sc__law_no_numbers (fun f cdv A outer s H E hr => (gs_one (g_ret (g_lst false (ga_cons g_non (ga_cons g_str (ga_cons g_bl (ga_cons g_bl (ga_cons (g_lst false (ga_cons g_int ga_nil)) (ga_cons (g_tup (ga_cons g_int ga_nil)) (ga_cons g_dicF (ga_cons (g_neg g_int) (ga_cons (g_bin s_sub n_sub (g_neg g_int) (g_var 0)) ga_nil)))))))))))))
abbrev st__law_no_pieces : Stmt := topS 37
theorem sc__law_no_pieces : FnScope N__law_no_pieces ["_law_more"] (defScope st__law_no_pieces) := ⟨rfl, rfl, rfl, by decide +kernel, rfl, by decide +kernel, by decide +kernel⟩
theorem ok__law_no_pieces (T : Facts P w K mg base cA.fn cA.tabs) : Callee P w K mg base cA "_law_no_pieces" 2 (liftP G__law_no_pieces) :=
  callee T.d__law_no_pieces sc__law_no_pieces (fun f cdv A outer s H E hr => (gs_cons (g_set 1 sc__law_no_pieces.nd (g_lst true (ga_cons g_non (ga_cons g_int (ga_cons g_str (ga_cons (g_tup ga_nil) (ga_cons (g_lst false (ga_cons g_int (ga_cons g_int (ga_cons g_int (ga_cons g_int ga_nil))))) (ga_cons (g_tup (ga_cons g_int (ga_cons g_int (ga_cons g_int ga_nil)))) (ga_cons (g_tup (ga_cons g_int (ga_cons g_int (ga_cons g_int (ga_cons g_int (ga_cons g_int ga_nil)))))) (ga_cons (g_tup (ga_cons g_int (ga_cons g_int (ga_cons g_int (ga_cons g_int ga_nil))))) (ga_cons (g_tup (ga_cons g_int (ga_cons g_int (ga_cons g_int (ga_cons g_int ga_nil))))) (ga_cons g_dicF ga_nil))))))))))))
    (gs_cons (g_expr (g_append (g_var 1) (ga_cons (g_tup (ga_cons g_int (ga_cons g_int (ga_cons g_int (ga_cons g_int ga_nil))))) ga_nil)))
    (gs_cons (g_for [2, 3, 4, 5] ownB rfl (gi_enum T.n_enumerate (ga_cons (g_bin (s_add false) (n_add false) (g_callC gzB (ok__law_no_numbers T) (hr.mono (by decide)) (ga_cons (g_var 0) ga_nil)) (g_lst false (ga_cons (g_bin (s_add false) (n_add false) g_int (g_var 0)) ga_nil))) ga_nil)) (pg_tup rfl (pgs_cons (pg_name (i := 2) sc__law_no_pieces.nd rfl (by first | exact Or.inl rfl | exact Or.inr rfl)) (pgs_cons (pg_name (i := 3) sc__law_no_pieces.nd rfl (by first | exact Or.inl rfl | exact Or.inr rfl)) pgs_nil))) (gs_cons (g_set 4 sc__law_no_pieces.nd (g_tup (ga_cons g_int (ga_cons g_int (ga_cons g_int (ga_cons g_int ga_nil))))))
    (gs_cons (g_set 5 sc__law_no_pieces.nd (g_bin s_mod n_mod (g_bin (s_add false) (n_add false) (g_var 2) (g_var 0)) g_int))
    (gs_one (g_expr (g_append (g_var 1) (ga_cons (g_bin (s_add false) (n_add false) (g_bin (s_add false) (n_add false) (g_sl false (g_var 4) go_none (go_some (g_var 5))) (g_tup (ga_cons (g_var 3) ga_nil))) (g_sl false (g_var 4) (go_some (g_bin (s_add false) (n_add false) (g_var 5) g_int)) go_none)) ga_nil)))))))
    (gs_one (g_ret (g_var 1)))))))
abbrev st__law_snaps_right : Stmt := topS 39
theorem sc__law_snaps_right : FnScope N__law_snaps_right ["_law_slab", "_law_more"] (defScope st__law_snaps_right) := ⟨rfl, rfl, rfl, by decide +kernel, rfl, by decide +kernel, by decide +kernel⟩
theorem ok__law_snaps_right (T : Facts P w K mg base cA.fn cA.tabs) (hF : ∀ k a H, ¬ cA.lam k a H) : Callee P w K mg base cA "_law_snaps_right" 9 T__law_snaps_right :=
  calleeLT T.d__law_snaps_right sc__law_snaps_right (fun f cdv A outer s H E hr hM => (gs_cons (g_ifS (gt_not (gt_val (g_callLam (kl := 6) 4 "_law_piece" gzB hM (ok__law_refused T) (hr.mono (by decide)) (hr.mono (by decide)) hF sc__law_snaps_right.nd (lamS1_by (sc := (defScope st__law_snaps_right)) (by decide +kernel)) (fun _ _ _ _ _ _ _ _ _ _ _ hr => (g_meth gzL (GAlts.cons (ok_Slab_snap T) (hr.mono (by decide)) GAlts.nil) (g_var 0) (ga_cons (g_var 4) (ga_cons g_non (ga_cons g_non ga_nil))))) (ga_cons (g_callC gzB (ok__law_no_pieces T) (hr.mono (by decide)) (ga_cons (g_var 1) ga_nil)) (ga_cons g_int ga_nil))))) (gs_one (g_ret g_bl)) gs_nil)
    (gs_cons (g_ifS (gt_not (gt_val (g_callLam (kl := 6) 5 "_law_way" gzB hM (ok__law_refused T) (hr.mono (by decide)) (hr.mono (by decide)) hF sc__law_snaps_right.nd (lamS1_by (sc := (defScope st__law_snaps_right)) (by decide +kernel)) (fun _ _ _ _ _ _ _ _ _ _ _ hr => (g_meth gzL (GAlts.cons (ok_Slab_snap T) (hr.mono (by decide)) GAlts.nil) (g_var 0) (ga_cons (g_tup (ga_cons g_int (ga_cons g_int (ga_cons g_int (ga_cons g_int ga_nil))))) (ga_cons (g_var 5) (ga_cons g_int ga_nil))))) (ga_cons (g_bin (s_add false) (n_add false) (g_callC gzB (ok__law_no_numbers T) (hr.mono (by decide)) (ga_cons (g_var 1) ga_nil)) (g_lst false (ga_cons g_int (ga_cons g_int (ga_cons (g_bin (s_add false) (n_add false) g_int (g_var 1)) ga_nil))))) (ga_cons g_int ga_nil))))) (gs_one (g_ret g_bl)) gs_nil)
    (gs_cons (g_ifS (gt_not (gt_val (g_callLam (kl := 6) 6 "_law_line" gzB hM (ok__law_refused T) (hr.mono (by decide)) (hr.mono (by decide)) hF sc__law_snaps_right.nd (lamS1_by (sc := (defScope st__law_snaps_right)) (by decide +kernel)) (fun _ _ _ _ _ _ _ _ _ _ _ hr => (g_meth gzL (GAlts.cons (ok_Slab_snap T) (hr.mono (by decide)) GAlts.nil) (g_var 0) (ga_cons (g_tup (ga_cons g_int (ga_cons g_int (ga_cons g_int (ga_cons g_int ga_nil))))) (ga_cons g_int (ga_cons (g_var 6) ga_nil))))) (ga_cons (g_bin (s_add false) (n_add false) (g_callC gzB (ok__law_no_numbers T) (hr.mono (by decide)) (ga_cons (g_var 1) ga_nil)) (g_lst false (ga_cons g_int (ga_cons g_int (ga_cons g_int (ga_cons (g_bin (s_add false) (n_add false) g_int (g_var 1)) ga_nil)))))) (ga_cons g_int ga_nil))))) (gs_one (g_ret g_bl)) gs_nil)
    (gs_cons (g_set 2 sc__law_snaps_right.nd (g_bin (s_add false) (n_add false) (g_callC gzB (ok__law_no_numbers T) (hr.mono (by decide)) (ga_cons (g_var 1) ga_nil)) (g_lst false (ga_cons g_int (ga_cons g_int (ga_cons g_int (ga_cons (g_bin (s_add false) (n_add false) g_int (g_var 1)) ga_nil)))))))
    (gs_cons (g_ifS (gt_not (gt_val (g_callLam (kl := 6) 7 "_law_row" gzB hM (ok__law_refused T) (hr.mono (by decide)) (hr.mono (by decide)) hF sc__law_snaps_right.nd (lamS1_by (sc := (defScope st__law_snaps_right)) (by decide +kernel)) (fun _ _ _ _ _ _ _ _ _ _ _ hr => (g_meth gzL (GAlts.cons (ok_Slab_snap T) (hr.mono (by decide)) GAlts.nil) (g_var 0) (ga_cons (g_tup (ga_cons g_int (ga_cons g_int (ga_cons g_int (ga_cons g_int ga_nil))))) (ga_cons g_int (ga_cons (g_var 7) ga_nil))))) (ga_cons (g_var 2) (ga_cons g_int ga_nil))))) (gs_one (g_ret g_bl)) gs_nil)
    (gs_one (g_ret (g_callLam (kl := 6) 3 "_law_long" gzB hM (ok__law_refused T) (hr.mono (by decide)) (hr.mono (by decide)) hF sc__law_snaps_right.nd (lamS1_by (sc := (defScope st__law_snaps_right)) (by decide +kernel)) (fun _ _ _ _ _ _ _ _ _ _ _ hr => (g_meth gzL (GAlts.cons (ok_Slab_snap T) (hr.mono (by decide)) GAlts.nil) (g_var 0) (ga_cons (g_tup (ga_cons g_int (ga_cons g_int (ga_cons g_int (ga_cons g_int ga_nil))))) (ga_cons g_int (ga_cons (g_var 3) ga_nil))))) (ga_cons (g_var 2) (ga_cons g_int ga_nil)))))))))))
abbrev st__law_rest_right : Stmt := topS 40
theorem sc__law_rest_right : FnScope N__law_rest_right ["_law_slab", "_law_more"] (defScope st__law_rest_right) := ⟨rfl, rfl, rfl, by decide +kernel, rfl, by decide +kernel, by decide +kernel⟩
theorem ok__law_rest_right (T : Facts P w K mg base cA.fn cA.tabs) (hF : ∀ k a H, ¬ cA.lam k a H) : Callee P w K mg base cA "_law_rest_right" 9 T__law_rest_right :=
  calleeLT T.d__law_rest_right sc__law_rest_right (fun f cdv A outer s H E hr hM => (gs_cons (g_set 2 sc__law_rest_right.nd (g_bin (s_add false) (n_add false) (g_callC gzB (ok__law_no_numbers T) (hr.mono (by decide)) (ga_cons (g_var 1) ga_nil)) (g_lst false (ga_cons g_int (ga_cons g_int (ga_cons (g_bin (s_add false) (n_add false) g_int (g_var 1)) ga_nil))))))
    (gs_cons (g_ifS (gt_not (gt_val (g_callLam (kl := 6) 4 "_law_column" gzB hM (ok__law_refused T) (hr.mono (by decide)) (hr.mono (by decide)) hF sc__law_rest_right.nd (lamS1_by (sc := (defScope st__law_rest_right)) (by decide +kernel)) (fun _ _ _ _ _ _ _ _ _ _ _ hr => (g_meth gzL (GAlts.cons (ok_Slab_nut T) (hr.mono (by decide)) GAlts.nil) (g_var 0) (ga_cons (g_var 4) (ga_cons g_int ga_nil)))) (ga_cons (g_var 2) (ga_cons g_int ga_nil))))) (gs_one (g_ret g_bl)) gs_nil)
    (gs_cons (g_ifS (gt_not (gt_val (g_callLam (kl := 6) 5 "_law_row" gzB hM (ok__law_refused T) (hr.mono (by decide)) (hr.mono (by decide)) hF sc__law_rest_right.nd (lamS1_by (sc := (defScope st__law_rest_right)) (by decide +kernel)) (fun _ _ _ _ _ _ _ _ _ _ _ hr => (g_meth gzL (GAlts.cons (ok_Slab_nut T) (hr.mono (by decide)) GAlts.nil) (g_var 0) (ga_cons g_int (ga_cons (g_var 5) ga_nil)))) (ga_cons (g_bin (s_add false) (n_add false) (g_callC gzB (ok__law_no_numbers T) (hr.mono (by decide)) (ga_cons (g_var 1) ga_nil)) (g_lst false (ga_cons g_int (ga_cons g_int (ga_cons g_int (ga_cons (g_bin (s_add false) (n_add false) g_int (g_var 1)) ga_nil)))))) (ga_cons g_int ga_nil))))) (gs_one (g_ret g_bl)) gs_nil)
    (gs_cons (g_ifS (gt_not (gt_val (g_callLam (kl := 6) 6 "_law_side" gzB hM (ok__law_refused T) (hr.mono (by decide)) (hr.mono (by decide)) hF sc__law_rest_right.nd (lamS1_by (sc := (defScope st__law_rest_right)) (by decide +kernel)) (fun _ _ _ _ _ _ _ _ _ _ _ hr => (g_meth gzL (GAlts.cons (ok_Slab_set_price T) (hr.mono (by decide)) GAlts.nil) (g_var 0) (ga_cons (g_var 6) (ga_cons g_int (ga_cons g_non ga_nil))))) (ga_cons (g_bin (s_add false) (n_add false) (g_callC gzB (ok__law_no_numbers T) (hr.mono (by decide)) (ga_cons (g_var 1) ga_nil)) (g_lst false (ga_cons g_int (ga_cons (g_bin (s_add false) (n_add false) g_int (g_var 1)) ga_nil)))) (ga_cons g_int ga_nil))))) (gs_one (g_ret g_bl)) gs_nil)
    (gs_cons (g_ifS (gt_not (gt_val (g_callLam (kl := 6) 7 "_law_long" gzB hM (ok__law_refused T) (hr.mono (by decide)) (hr.mono (by decide)) hF sc__law_rest_right.nd (lamS1_by (sc := (defScope st__law_rest_right)) (by decide +kernel)) (fun _ _ _ _ _ _ _ _ _ _ _ hr => (g_meth gzL (GAlts.cons (ok_Slab_set_price T) (hr.mono (by decide)) GAlts.nil) (g_var 0) (ga_cons g_int (ga_cons (g_var 7) (ga_cons g_non ga_nil))))) (ga_cons (g_var 2) (ga_cons g_int ga_nil))))) (gs_one (g_ret g_bl)) gs_nil)
    (gs_one (g_ret (g_callLam (kl := 6) 3 "_law_price" gzB hM (ok__law_refused T) (hr.mono (by decide)) (hr.mono (by decide)) hF sc__law_rest_right.nd (lamS1_by (sc := (defScope st__law_rest_right)) (by decide +kernel)) (fun _ _ _ _ _ _ _ _ _ _ _ hr => (g_meth gzL (GAlts.cons (ok_Slab_set_price T) (hr.mono (by decide)) GAlts.nil) (g_var 0) (ga_cons g_int (ga_cons g_int (ga_cons (g_var 3) ga_nil))))) (ga_cons (g_bin (s_add false) (n_add false) (g_callC gzB (ok__law_no_numbers T) (hr.mono (by decide)) (ga_cons (g_var 1) ga_nil)) (g_lst false (ga_cons g_int (ga_cons g_int (ga_cons (g_bin (s_add false) (n_add false) g_int (g_var 1)) ga_nil))))) (ga_cons g_int ga_nil)))))))))))
end
end BB
namespace BB
open PySem PySem.Spec PyProof.Rows L2
section
variable {P : Program} {w : World} {K : PySem.W.Frag} {mg : Str → Option Value} {base : Heap} {cA : CA}
abbrev st_law : Stmt := topS 41
theorem sc_law : FnScope N_law ["_law_script"] (defScope st_law) := ⟨rfl, rfl, rfl, by decide +kernel, rfl, by decide +kernel, by decide +kernel⟩
theorem okf_law (T : Facts P w K mg base cA.fn cA.tabs) {f : Addr} {oc kV doc pm ct : Value} {od an : Option Addr} {c Pt : Addr} {osl : Array (Option Value)} (lk : K.lookup f = some ⟨oc, od, .func (PySem.W.fnOf "law" "law" (defArgs st_law) (defBody st_law) (defScope st_law) .none kV doc pm an (.ref c) ct), osl⟩) (hcd : PySem.W.codeIn K (.ref c) "law" = true) (TB : LamX.TabB base mg c Pt) (hmT : (Pt, ("law" : Str) ++ ".<locals>." ++ "<lambda>") ∈ cA.tabs) (hu : ∀ p ∈ cA.tabs, p.1 = Pt → p.2 = ("law" : Str) ++ ".<locals>." ++ "<lambda>") : FnOk P w K mg base (L2.CX P w) 11 f (PySem.W.fnOf "law" "law" (defArgs st_law) (defBody st_law) (defScope st_law) .none kV doc pm an (.ref c) ct) ["_law_script"] (PSp K cA G_law) :=
  pfunL lk hcd sc_law TB hmT hu (fun cdv A outer s H E hr hM => (gs_cons (g_for [1, 2, 3, 4] ownB rfl (gi_seq (g_bin (s_add false) (n_add false) (g_sl false (g_var 0) go_none (go_some g_int)) (g_lst false (ga_cons (g_callB s_len n_len T.n_len (ga_cons (g_var 0) ga_nil)) ga_nil)))) (pg_name (i := 1) sc_law.nd rfl (by first | exact Or.inl rfl | exact Or.inr rfl)) (gs_cons (g_set 2 sc_law.nd (g_bin s_mod n_mod (g_callB s_abs n_abs T.n_abs (ga_cons (g_var 1) ga_nil)) (g_bin s_pow n_pow g_int g_int)))
    (gs_cons (g_set 3 sc_law.nd (g_make gzB (mk_Slab T) (hr.mono (by decide)) (ga_cons (g_tup (ga_cons (g_lst false (ga_cons g_int (ga_cons g_int ga_nil))) (ga_cons (g_lst false (ga_cons g_int ga_nil)) (ga_cons (g_lst false (ga_cons (g_tup (ga_cons g_int (ga_cons g_int ga_nil))) (ga_cons (g_tup (ga_cons g_int (ga_cons g_int ga_nil))) ga_nil))) ga_nil)))) (ga_cons g_int ga_nil))))
    (gs_cons (g_ifS (GW.gt (gw_or (gt_cmp (s_ne (u64 hr)) n_ne (g_meth gzB (GAlts.cons (ok_Slab_snap T) (hr.mono (by decide)) GAlts.nil) (g_var 3) (ga_cons (g_tup (ga_cons g_int (ga_cons g_int (ga_cons g_int (ga_cons g_int ga_nil))))) (ga_cons g_int (ga_cons g_int ga_nil)))) g_int) (gw_or1 (gt_cmp (s_ne (u64 hr)) n_ne (g_meth gzB (GAlts.cons (ok_Slab_nut T) (hr.mono (by decide)) GAlts.nil) (g_var 3) (ga_cons g_int (ga_cons g_int ga_nil))) g_int)))) (gs_one (g_ret g_bl)) gs_nil)
    (gs_cons (g_set 4 sc_law.nd (g_callC gzB (ok__law_state T) (hr.mono (by decide)) (ga_cons (g_var 3) ga_nil)))
    (gs_cons (g_ifS (GW.gt (gw_or (gt_not (gt_val (g_callC gzB (ok__law_snaps_right T free_pl) (hr.mono (by decide)) (ga_cons (g_var 3) (ga_cons (g_var 2) ga_nil))))) (gw_or1 (gt_not (gt_val (g_callC gzB (ok__law_rest_right T free_pl) (hr.mono (by decide)) (ga_cons (g_var 3) (ga_cons (g_var 2) ga_nil)))))))) (gs_one (g_ret g_bl)) gs_nil)
    (gs_cons (g_ifS (GW.gt (gw_or (gt_cmp (s_ne (u64 hr)) n_ne (g_callC gzB (ok__law_state T) (hr.mono (by decide)) (ga_cons (g_var 3) ga_nil)) (g_var 4)) (gw_or (gt_cmp (s_ne (u64 hr)) n_ne (g_meth gzB (GAlts.cons (ok_Slab_set_price T) (hr.mono (by decide)) GAlts.nil) (g_var 3) (ga_cons g_int (ga_cons g_int (ga_cons g_int ga_nil)))) g_int) (gw_or1 (gt_cmp (s_ne (u64 hr)) n_ne (g_meth gzB (GAlts.cons (ok_Slab_snap T) (hr.mono (by decide)) GAlts.nil) (g_var 3) (ga_cons (g_tup (ga_cons g_int (ga_cons g_int (ga_cons g_int (ga_cons g_int ga_nil))))) (ga_cons g_int (ga_cons g_int ga_nil)))) g_int))))) (gs_one (g_ret g_bl)) gs_nil)
    (gs_cons (g_ifS (gt_not (gt_val (g_callLam (kl := 6) 5 "_law_row" gzB hM (ok__law_refused T) (hr.mono (by decide)) (hr.mono (by decide)) free_pl sc_law.nd (lamS1_by (sc := (defScope st_law)) (by decide +kernel)) (fun _ _ _ _ _ _ _ _ _ _ _ hr => (g_meth gzL (GAlts.cons (ok_Slab_snap T) (hr.mono (by decide)) GAlts.nil) (g_var 3) (ga_cons (g_tup (ga_cons g_int (ga_cons g_int (ga_cons g_int (ga_cons g_int ga_nil))))) (ga_cons g_int (ga_cons (g_var 5) ga_nil))))) (ga_cons (g_lst false (ga_cons g_int (ga_cons g_int (ga_cons g_int ga_nil)))) (ga_cons g_int ga_nil))))) (gs_one (g_ret g_bl)) gs_nil)
    (gs_cons (g_ifS (gt_not (gt_val (g_callLam (kl := 6) 6 "_law_line" gzB hM (ok__law_refused T) (hr.mono (by decide)) (hr.mono (by decide)) free_pl sc_law.nd (lamS1_by (sc := (defScope st_law)) (by decide +kernel)) (fun _ _ _ _ _ _ _ _ _ _ _ hr => (g_meth gzL (GAlts.cons (ok_Slab_snap T) (hr.mono (by decide)) GAlts.nil) (g_var 3) (ga_cons (g_tup (ga_cons g_int (ga_cons g_int (ga_cons g_int (ga_cons g_int ga_nil))))) (ga_cons g_int (ga_cons (g_var 6) ga_nil))))) (ga_cons (g_lst false (ga_cons g_int (ga_cons g_int (ga_cons g_int (ga_cons g_int ga_nil))))) (ga_cons g_int ga_nil))))) (gs_one (g_ret g_bl)) gs_nil)
    (gs_cons (g_ifS (GW.gt (gw_or (gt_cmp (s_ne (u64 hr)) n_ne (g_meth0 gzB (GAlts.cons (ok_Slab_spent T) (hr.mono (by decide)) GAlts.nil) (g_var 3)) g_int) (gw_or (gt_cmp (s_ne (u64 hr)) n_ne (g_meth gzB (GAlts.cons (ok_Slab_snap T) (hr.mono (by decide)) GAlts.nil) (g_var 3) (ga_cons (g_tup (ga_cons g_int (ga_cons g_int (ga_cons g_int (ga_cons g_int ga_nil))))) (ga_cons g_int (ga_cons g_int ga_nil)))) g_int) (gw_or (gt_cmp (s_ne (u64 hr)) n_ne (g_meth gzB (GAlts.cons (ok_Slab_nut T) (hr.mono (by decide)) GAlts.nil) (g_var 3) (ga_cons g_int (ga_cons g_int ga_nil))) g_int) (gw_or1 (gt_cmp (s_ne (u64 hr)) n_ne (g_meth gzB (GAlts.cons (ok_Slab_nut T) (hr.mono (by decide)) GAlts.nil) (g_var 3) (ga_cons g_int (ga_cons g_int ga_nil))) g_int)))))) (gs_one (g_ret g_bl)) gs_nil)
    (gs_one (g_ifS (GW.gt (gw_or (gt_cmp (s_ne (u64 hr)) n_ne (g_meth0 gzB (GAlts.cons (ok_Slab_pieces T) (hr.mono (by decide)) GAlts.nil) (g_var 3)) (g_lst false (ga_cons (g_tup (ga_cons g_int (ga_cons g_int (ga_cons g_int (ga_cons g_int ga_nil))))) (ga_cons (g_tup (ga_cons g_int (ga_cons g_int (ga_cons g_int (ga_cons g_int ga_nil))))) (ga_cons (g_tup (ga_cons g_int (ga_cons g_int (ga_cons g_int (ga_cons g_int ga_nil))))) (ga_cons (g_tup (ga_cons g_int (ga_cons g_int (ga_cons g_int (ga_cons g_int ga_nil))))) ga_nil)))))) (gw_or1 (gt_cmp (s_ne (u64 hr)) n_ne (g_meth0 gzB (GAlts.cons (ok_Slab_spent T) (hr.mono (by decide)) GAlts.nil) (g_var 3)) g_int)))) (gs_one (g_ret g_bl)) gs_nil))))))))))))
    (gs_one (g_ret g_bl))))
end
end BB
namespace BB
open PySem L2
local macro_rules | `(tactic| walk_at "ev") => `(tactic| simp [sRet, sSeq, sIf, sAsg, sPar, sExpr, sNever, sNil, sAug, tBl, tAnd, tOr, tNot, eTup, eLst, aCons, aNil, eC, eOp, eUn, uNeg, eCB, eCallT, liftP, lend_id, eIx, eSl, pSome, pNone, eVar, eAnd, eOr, eNot, eIf, eChain, fLen, fIsi, tyD, seqOf, lstOf, ixD, dicOf, atI, ixN, oAdd, oSub, oLt, oLe, oGt, oAddI, bindP, bindPs, kb_int_int, kb_int_bool, kb_list_list, kb_tuple_tuple, iSeq, srcOf, iRange1, iRange2])
structure Bar where
  p : List Int
  q : List Int
  nuts : List (Int × Int)
structure Pc where
  l : Int
  t : Int
  r : Int
  b : Int
  deriving DecidableEq
def encC (c : Int × Int) : DV := .tup [.int c.1, .int c.2]
abbrev Tg := Bool × Bool × Bool
def encB (tg : Tg) (B : Bar) : DV := .tup [.lstG tg.1 (B.p.map .int), .lstG tg.2.1 (B.q.map .int), .lstG tg.2.2 (B.nuts.map encC)]
abbrev ff : Tg := (false, false, false)
variable {tg : Tg}
def encP (P : Pc) : DV := .tup [.int P.l, .int P.t, .int P.r, .int P.b]
@[simp] theorem noLoc_encC (c : Int × Int) : noLoc (encC c) = true := by simp [encC]
@[simp] theorem noLoc_encP (P : Pc) : noLoc (encP P) = true := by simp [encP]
@[simp] theorem noLocL_encC (ns : List (Int × Int)) : noLocL (ns.map encC) = true := noLocL_map (fun _ => by simp) ns
@[simp] theorem clean_encC (c : Int × Int) : clean (encC c) = true := by simp [encC]
@[simp] theorem clean_encP (P : Pc) : clean (encP P) = true := by simp [encP]
@[simp] theorem cleanL_encC (ns : List (Int × Int)) : cleanL (ns.map encC) = true := cleanL_map (fun _ => by simp) ns
@[simp] theorem cleanL_encP (ns : List Pc) : cleanL (ns.map encP) = true := cleanL_map (fun _ => by simp) ns
@[simp] theorem noLocL_encP (ns : List Pc) : noLocL (ns.map encP) = true := noLocL_map (fun _ => by simp) ns
@[simp] theorem noLoc_encB (B : Bar) : noLoc (encB tg B) = true := by simp [encB]

def inP (P : Pc) (c : Int × Int) : Bool := decide (P.l ≤ c.1) && decide (c.1 < P.r) && (decide (P.t ≤ c.2) && decide (c.2 < P.b))
def cnt (B : Bar) (P : Pc) : Int := ((B.nuts.filter (inP P)).length : Nat)
def irange (lo hi : Int) : List Int := (List.range (hi - lo).toNat).map fun i => lo + (i : Nat)
def linesD (P : Pc) : List (Int × Int) := (irange (P.l + 1) P.r).map (fun x => (0, x)) ++ (irange (P.t + 1) P.b).map (fun x => (1, x))
def part1 (P : Pc) (w x : Int) : Pc := if w = 0 then ⟨P.l, P.t, x, P.b⟩ else ⟨P.l, P.t, P.r, x⟩
def part2 (P : Pc) (w x : Int) : Pc := if w = 0 then ⟨x, P.t, P.r, P.b⟩ else ⟨P.l, x, P.r, P.b⟩
def price (B : Bar) (w x : Int) : Int := if w = 0 then B.p.getD (x - 1).toNat 0 else B.q.getD (x - 1).toNat 0
def size (P : Pc) : Int := (P.r - P.l) * (P.b - P.t)
theorem rng_irange (lo hi : Int) : rngD lo (hi - lo).toNat = (irange lo hi).map DV.int := by simp [rngD, irange, Function.comp_def]
theorem mem_irange {lo hi x : Int} : x ∈ irange lo hi ↔ lo ≤ x ∧ x < hi := by
  unfold irange
  simp only [List.mem_map, List.mem_range]
  constructor
  · rintro ⟨i, h1, rfl⟩; omega
  · rintro ⟨h1, h2⟩; exact ⟨(x - lo).toNat, by omega, by omega⟩


theorem e_whole (B : Bar) : G_whole_of [encB tg B] = .ok (encP ⟨0, 0, B.p.length + 1, B.q.length + 1⟩) := by
  refine runP_rt (sto := []) rfl ?_ (by simp)
  simp only [m_whole_of, encB, encP]
  walk_at "ev"
theorem e_parts (P : Pc) (w x : Int) : G_parts_of [encP P, .int w, .int x] = .ok (.tup [encP (part1 P w x), encP (part2 P w x)]) := by
  refine runP_rt (sto := []) rfl ?_ (by simp)
  simp only [m_parts_of, encP, part1, part2]
  by_cases h : w = 0
  · subst h
    walk_at "ev"
  · walk_at "ev"
    simp [h]
theorem e_size (P : Pc) (h1 : (P.r - P.l).natAbs < 2 ^ 250) (h2 : (P.b - P.t).natAbs < 2 ^ 250) : G_size_of [encP P] = .ok (.int (size P)) := by
  refine runP_rt (sto := []) rfl ?_ (by simp)
  simp only [m_size_of, encP]
  walk_at "ev"
  simp [oMul, h1, h2, size]
theorem e_nuts (B : Bar) (P : Pc) (h : B.nuts.length ≤ 1000) : G_nuts_in [encB tg B, encP P] = .ok (.int (cnt B P)) := by
  refine runP_rt (sto := []) rfl ?_ (by simp)
  simp only [m_nuts_in, encB]
  unfold sRet eCB aCons
  rw [comp_filter (enc := encC) (b := inP P) (Y := encC) (ys := B.nuts) (s := [])]
  · walk_at "ev"
    simp [cnt]
  · walk_at "ev"
  · omega
  · intro y hy
    simp only [encC, encP]
    refine ⟨_, rfl, ?_, ?_⟩
    · walk_at "ev"
      by_cases h1 : P.l ≤ y.1 <;> by_cases h2 : y.1 < P.r <;> by_cases h3 : P.t ≤ y.2 <;> by_cases h4 : y.2 < P.b <;> simp [h1, h2, h3, h4, inP]
    · intro _
      walk_at "ev"
theorem iRange2_ok {t : AM} {env : Env} {sto s : Sto} {i j : Int} (h : t env sto = .ok [.int i, .int j] s) (hi : -1000000 ≤ i ∧ i ≤ 1000000) (hj : -1000000 ≤ j ∧ j ≤ 1000000) : iRange2 t env sto = .ok (.fix ((irange i j).map DV.int)) s := by
  simp only [iRange2, h, Res.bind_ok]
  rw [if_pos (by omega), rng_irange]
theorem iRange1_ok {t : AM} {env : Env} {sto s : Sto} {j : Int} (h : t env sto = .ok [.int j] s) (hj : -1000000 ≤ j ∧ j ≤ 1000000) : iRange1 t env sto = .ok (.fix ((irange 0 j).map DV.int)) s := by
  simp only [iRange1, h, Res.bind_ok]
  rw [if_pos (by omega)]
  have := rng_irange 0 j
  rw [Int.sub_zero] at this
  rw [this]
theorem irange_len (lo hi : Int) : (irange lo hi).length = (hi - lo).toNat := by simp [irange]
structure Small (P : Pc) : Prop where
  l : -1000 ≤ P.l ∧ P.l ≤ 1000
  t : -1000 ≤ P.t ∧ P.t ≤ 1000
  r : -1000 ≤ P.r ∧ P.r ≤ 1000
  b : -1000 ≤ P.b ∧ P.b ≤ 1000
theorem e_lines (P : Pc) (h : Small P) : G_lines_in [encP P] = .ok (.lst ((linesD P).map encC)) := by
  obtain ⟨h1, h2, h3, h4⟩ := h
  refine runP_rt (sto := []) rfl ?_ (by simp)
  simp only [m_lines_in, encP]
  rw [sSeq_nx (sAsg_ok (comp_map (enc := DV.int) (Y := fun x => encC (0, x)) (ys := irange (P.l + 1) P.r) (s := []) (iRange2_ok (i := P.l + 1) (j := P.r) (by walk_at "ev") (by omega) (by omega)) (by rw [irange_len]; omega) fun y hy => ⟨_, rfl, by walk_at "ev"; simp [encC]⟩) rfl)]
  rw [sRet_ok (d := .lst ((linesD P).map encC)) (s := [])]
  rw [eOp_ok (x := .lst ((irange (P.l + 1) P.r).map fun x => encC (0, x))) (s1 := []) (y := .lst ((irange (P.t + 1) P.b).map fun x => encC (1, x))) (s2 := [])]
  · simp only [oAdd, lstOf, List.length_map, irange_len]
    rw [if_pos (by omega)]
    simp [linesD, Function.comp_def]
  · walk_at "ev"
  · rw [comp_map (enc := DV.int) (Y := fun x => encC (1, x)) (ys := irange (P.t + 1) P.b) (s := []) (iRange2_ok (i := P.t + 1) (j := P.b) (by walk_at "ev") (by omega) (by omega)) (by rw [irange_len]; omega) fun y hy => ⟨_, rfl, by walk_at "ev"; simp [encC]⟩]
    rfl
/-- all pieces -/
def allP (B : Bar) : List Pc := (irange 0 (B.p.length + 1)).flatMap fun l => (irange 0 (B.q.length + 1)).flatMap fun t => (irange (l + 1) (B.p.length + 1 + 1)).flatMap fun r => (irange (t + 1) (B.q.length + 1 + 1)).map fun b => ⟨l, t, r, b⟩

abbrev envPO (tg : Tg) (B : Bar) (a b c d : Option DV) : Env := [some (encB tg B), some (.int 0), some (.int 0), some (.int (B.p.length + 1)), some (.int (B.q.length + 1)), some (.loc 0), a, b, c, d]
theorem e_pieces (B : Bar) (hp : B.p.length ≤ 20) (hq : B.q.length ≤ 20) : G_pieces_of [encB tg B] = .ok (.lst ((allP B).map encP)) := by
  refine runP_frz (d := .loc 0) (sto := [.lst ((allP B).map encP)]) rfl ?_ (by simp [frz, frzW, flk, flookW, frzWL_id])
  simp only [m_pieces_of]
  rw [sSeq_nx (sAsg_ok (eCall_ok (a1_ok (d := encB tg B) (s1 := []) (by walk_at "ev")) (by simp) (e_whole B)) rfl)]
  rw [sSeq_nx (e := (envPO tg B none none none none)) (s := [.lst []]) (by walk_at "ev")]
  have i4 : ∀ t : Int, 0 ≤ t → ((irange (t + 1) (B.q.length + 1 + 1)).length) ≤ 21 := fun t ht => by rw [irange_len]; omega
  have i3 : ∀ l : Int, 0 ≤ l → ((irange (l + 1) (B.p.length + 1 + 1)).length) ≤ 21 := fun t ht => by rw [irange_len]; omega
  have i1 : (irange 0 (B.p.length + 1)).length ≤ 21 := by rw [irange_len]; omega
  have i2 : (irange 0 (B.q.length + 1)).length ≤ 21 := by rw [irange_len]; omega
  have b3 : ∀ l t : Int, 0 ≤ l → 0 ≤ t → ((irange (l + 1) (B.p.length + 1 + 1)).flatMap fun r => (irange (t + 1) (B.q.length + 1 + 1)).map fun b => encP ⟨l, t, r, b⟩).length ≤ 441 := fun l t hl ht => by
    refine Nat.le_trans (flatMap_len (n := 21) fun r _ => by simpa using i4 t ht) ?_
    have := i3 l hl
    omega
  have b2 : ∀ l : Int, 0 ≤ l → ((irange 0 (B.q.length + 1)).flatMap fun t => (irange (l + 1) (B.p.length + 1 + 1)).flatMap fun r => (irange (t + 1) (B.q.length + 1 + 1)).map fun b => encP ⟨l, t, r, b⟩).length ≤ 9261 := fun l hl => by
    refine Nat.le_trans (flatMap_len (n := 441) fun t ht => b3 l t hl (mem_irange.mp ht).1) ?_
    omega
  rw [sSeq_nx (e := (envPO tg B none none none none)) (s := [.lst ((allP B).map encP)])]
  · exact sRet_ok rfl
  rw [sFor_fix (xs := (irange 0 (B.p.length + 1)).map DV.int) (s := [.lst []]) (iRange1_ok (by walk_at "ev") (by omega))]
  rw [show wipeE (envPO tg B none none none none) [6, 7, 8] = (envPO tg B none none none none) from rfl]
  rw [runL_ext (St := fun a => [.lst a]) (M := 1000000) (n := 9261) (f := fun l => (irange 0 (B.q.length + 1)).flatMap fun t => (irange (l + 1) (B.p.length + 1 + 1)).flatMap fun r => (irange (t + 1) (B.q.length + 1 + 1)).map fun b => encP ⟨l, t, r, b⟩) (irange 0 (B.p.length + 1)) []]
  · simp [allP, List.map_flatMap, Function.comp_def]
  · exact fun l hl => b2 l (mem_irange.mp hl).1
  · simp; omega
  intro acc l hl hacc
  have hl0 := mem_irange.mp hl
  refine ⟨(envPO tg B (some (.int l)) none none none), rfl, (envPO tg B (some (.int l)) none none none), ?_, rfl⟩
  rw [sFor_fix (xs := (irange 0 (B.q.length + 1)).map DV.int) (s := [.lst acc]) (iRange1_ok (by walk_at "ev") (by omega))]
  refine runL_ext (St := fun a => [.lst a]) (M := 1000000) (n := 441) (f := fun t => (irange (l + 1) (B.p.length + 1 + 1)).flatMap fun r => (irange (t + 1) (B.q.length + 1 + 1)).map fun b => encP ⟨l, t, r, b⟩) (irange 0 (B.q.length + 1)) acc ?_ ?_ ?_
  · exact fun t ht => b3 l t hl0.1 (mem_irange.mp ht).1
  · omega
  intro acc t ht hacc
  have ht0 := mem_irange.mp ht
  refine ⟨(envPO tg B (some (.int l)) (some (.int t)) none none), rfl, (envPO tg B (some (.int l)) (some (.int t)) none none), ?_, rfl⟩
  rw [sFor_fix (xs := (irange (l + 1) (B.p.length + 1 + 1)).map DV.int) (s := [.lst acc]) (iRange2_ok (by walk_at "ev") (by omega) (by omega))]
  refine runL_ext (St := fun a => [.lst a]) (M := 1000000) (n := 21) (f := fun r => (irange (t + 1) (B.q.length + 1 + 1)).map fun b => encP ⟨l, t, r, b⟩) (irange (l + 1) (B.p.length + 1 + 1)) acc ?_ ?_ ?_
  · exact fun r hr => by simpa using i4 t ht0.1
  · have := i3 l hl0.1
    omega
  intro acc r hr hacc
  have hr0 := mem_irange.mp hr
  have i5 := i4 t ht0.1
  refine ⟨(envPO tg B (some (.int l)) (some (.int t)) (some (.int r)) none), rfl, (envPO tg B (some (.int l)) (some (.int t)) (some (.int r)) none), sExpr_ok (d := .non) ?_, rfl⟩
  have hc := a1_ok (comp_map (bb := false) (own := [9]) (p := .nm 9) (elt := eTup (aCons (eVar 6) (aCons (eVar 7) (aCons (eVar 8) (aCons (eVar 9) aNil))))) (env := (envPO tg B (some (.int l)) (some (.int t)) (some (.int r)) none)) (enc := DV.int) (Y := fun b => encP ⟨l, t, r, b⟩) (ys := irange (t + 1) (B.q.length + 1 + 1)) (sto := [.lst acc]) (s := [.lst acc]) (iRange2_ok (t := aCons (eOp (oAdd false) (eVar 7) (eC (.int 1))) (aCons (eOp (oAdd false) (eVar 4) (eC (.int 1))) aNil)) (by walk_at "ev") (by omega) (by omega)) (by omega) fun y hy => ⟨_, rfl, by walk_at "ev"; simp [encP]⟩)
  unfold eBM
  rw [show eVar 5 ((envPO tg B (some (.int l)) (some (.int t)) (some (.int r)) none)) [.lst acc] = .ok (.loc 0) [.lst acc] from rfl]
  simp only [Res.bind_ok, List.getElem?_cons_zero]
  rw [hc]
  simp only [Res.bind_ok, List.getElem?_cons_zero, mExtend, lstOf, List.length_map]
  rw [if_pos (by omega)]
  rfl

def itemD (P : Pc) : DV := .tup [.int (size P), encP P]
def leP (P Q : Pc) : Bool := PySem.W.dataLe false encD (itemD P) (itemD Q)
def byS (B : Bar) : List Pc := (allP B).mergeSort leP
@[simp] theorem noLoc_itemD (P : Pc) : noLoc (itemD P) = true := by simp [itemD]
@[simp] theorem clean_itemD (P : Pc) : clean (itemD P) = true := by simp [itemD]
theorem enc_itemD (P : Pc) : encD (itemD P) = .tuple [.int (size P), .tuple [.int P.l, .int P.t, .int P.r, .int P.b]] := by
  simp [encD, itemD, encP, pyW, pyWL]
theorem leP_size {P Q : Pc} (h : leP P Q = true) : size P ≤ size Q := by
  unfold leP PySem.W.dataLe PySem.W.sortLe at h
  simp only [cond_false, enc_itemD, PySem.W.keyToks, PySem.W.keyToksAll] at h
  rw [Bool.not_eq_true'] at h
  have h : PyProof.Rows.lexLt PyProof.Rows.itemOrd _ _ = false := h
  rw [PyProof.Rows.lex_self] at h
  by_cases e : size P = size Q
  · omega
  · simp only [List.singleton_append, List.cons_append, List.nil_append] at h
    rw [PyProof.Rows.lex_diff (fun z => e (Sum.inl.inj z).symm)] at h
    have h : decide (size Q < size P) = false := h
    simp at h
    exact h
theorem pyWL_map {α : Type} {f : α → DV} (h : ∀ x, (pyW look0 (f x)).isSome = true) : ∀ xs : List α, (pyWL look0 (xs.map f)).isSome = true
  | [] => by simp [pyWL]
  | x :: xs => by
    obtain ⟨a, ha⟩ := Option.isSome_iff_exists.mp (h x)
    obtain ⟨b, hb⟩ := Option.isSome_iff_exists.mp (pyWL_map h xs)
    simp [pyWL, ha, hb]
theorem sortB_map {α : Type} {f : α → DV} (h1 : ∀ x y, PySem.W.alike (encD (f x)) (encD (f y)) = true) (h2 : ∀ x, isTup1 (encD (f x)) = true) (h3 : ∀ x, (encD (f x)).depth ≤ 64) (xs : List α) : sortB ((xs.map f).map encD) = true := by
  unfold sortB
  simp only [Bool.and_eq_true, Bool.or_eq_true, List.all_eq_true, List.mem_map, decide_eq_true_eq]
  refine ⟨⟨?_, .inl ?_⟩, ?_⟩
  · rintro _ ⟨_, ⟨x, _, rfl⟩, rfl⟩ _ ⟨_, ⟨y, _, rfl⟩, rfl⟩; exact h1 x y
  · rintro _ ⟨_, ⟨x, _, rfl⟩, rfl⟩; exact h2 x
  · rintro _ ⟨_, ⟨x, _, rfl⟩, rfl⟩; exact h3 x
theorem fSorted_map {α : Type} {f : α → DV} {b : Bool} {xs : List α} {sto : Sto} (h0 : ∀ x, (pyW look0 (f x)).isSome = true) (h1 : ∀ x y, PySem.W.alike (encD (f x)) (encD (f y)) = true) (h2 : ∀ x, isTup1 (encD (f x)) = true) (h3 : ∀ x, (encD (f x)).depth ≤ 64) (hl : xs.length ≤ 1000000) :
    fSorted b [.lst (xs.map f)] sto = newL b ((xs.mergeSort fun x y => PySem.W.dataLe false encD (f x) (f y)).map f) sto := by
  simp only [fSorted, lsqOf, lstOf]
  rw [if_pos ⟨pyWL_map h0 xs, sortB_map h1 h2 h3 xs, by simpa using hl⟩]
  rw [PySem.W.sort_maps (r := fun x y => PySem.W.dataLe false encD (f x) (f y)) (s := PySem.W.dataLe false encD) f (fun a _ b _ => rfl)]
theorem allP_len (B : Bar) (hp : B.p.length ≤ 20) (hq : B.q.length ≤ 20) : (allP B).length ≤ 194481 := by
  unfold allP
  refine Nat.le_trans (flatMap_len (n := 9261) fun l hl => Nat.le_trans (flatMap_len (n := 441) fun t ht => Nat.le_trans (flatMap_len (n := 21) fun r hr => ?_) ?_) ?_) ?_
  · have := mem_irange.mp ht
    simp [irange_len]; omega
  · have := mem_irange.mp hl
    rw [irange_len]; omega
  · rw [irange_len]; omega
  · rw [irange_len]; omega
theorem mem_allP {B : Bar} {P : Pc} : P ∈ allP B ↔ 0 ≤ P.l ∧ P.l < P.r ∧ P.r ≤ B.p.length + 1 ∧ 0 ≤ P.t ∧ P.t < P.b ∧ P.b ≤ B.q.length + 1 := by
  unfold allP
  simp only [List.mem_flatMap, List.mem_map, mem_irange]
  constructor
  · rintro ⟨l, hl, t, ht, r, hr, b, hb, rfl⟩
    simp only
    omega
  · intro h
    exact ⟨P.l, by omega, P.t, by omega, P.r, by omega, P.b, by omega, rfl⟩
theorem small_of {B : Bar} {P : Pc} (hp : B.p.length ≤ 20) (hq : B.q.length ≤ 20) (h : P ∈ allP B) : Small P := by
  have := mem_allP.mp h
  exact ⟨by omega, by omega, by omega, by omega⟩
theorem e_bysize (B : Bar) (hp : B.p.length ≤ 20) (hq : B.q.length ≤ 20) : G_by_size [encB tg B] = .ok (.lst ((byS B).map encP)) := by
  refine runP_rt (sto := []) rfl ?_ (by simp)
  simp only [m_by_size]
  have hl := allP_len B hp hq
  refine sRet_ok ?_
  have h1 : eComp false [2] (iSeq (eCall G_pieces_of (aCons (eVar 0) aNil))) (.nm 2) tYes1 (eTup (aCons (eCall G_size_of (aCons (eVar 2) aNil)) (aCons (eVar 2) aNil))) (startE N_by_size [encB tg B]) [] = .ok (.lst ((allP B).map itemD)) [] := by
    rw [comp_map (enc := encP) (Y := itemD) (ys := allP B) (s := []) (iSeq_lst (eCall_ok (a1_ok (d := encB tg B) (s1 := []) (by walk_at "ev")) (by simp) (e_pieces B hp hq))) (by omega) fun P hP => ?_]
    · rfl
    · have hs := small_of hp hq hP
      refine ⟨[some (encB tg B), none, some (encP P)], rfl, ?_⟩
      have := eCall_ok (G := G_size_of) (env := [some (encB tg B), none, some (encP P)]) (sto := []) (a1_ok (m := eVar 2) (d := encP P) (s1 := []) rfl) (by simp) (e_size P (by have := hs.l; have := hs.r; omega) (by have := hs.t; have := hs.b; omega))
      rw [eTup, aCons, this]
      simp [aCons, aNil, eVar, itemD]
  rw [comp_map (enc := itemD) (Y := encP) (ys := byS B) (s := []) (iSeq_lst (gg := false) (s := []) ?_) (by unfold byS; rw [List.length_mergeSort]; omega) fun P hP => ⟨[some (encB tg B), some (.int (size P)), some (encP P)], rfl, rfl⟩]
  · rfl
  · rw [eCB_ok (a1_ok h1)]
    rw [fSorted_map (f := itemD) (by intro x; simp [itemD, encP, pyW, pyWL]) (by intro x y; simp [enc_itemD, PySem.W.alike, PySem.W.alikeAll]) (by intro x; simp [enc_itemD, isTup1]) (by intro x; simp [enc_itemD, PyData.depth, PyData.depthAll]) (by omega)]
    rfl
theorem byS_perm (B : Bar) : (byS B).Perm (allP B) := List.mergeSort_perm _ _
theorem byS_sorted (B : Bar) : (byS B).Pairwise (fun P Q => size P ≤ size Q) := by
  have := PySem.W.sort_pairwise (le := leP) ⟨fun a b c => (PySem.W.sortLe_total (PyProof.Rows.listOrd PyProof.Rows.itemOrd) false fun d => PySem.W.keyToks (encD (itemD d))).trans a b c, fun a b => (PySem.W.sortLe_total (PyProof.Rows.listOrd PyProof.Rows.itemOrd) false fun d => PySem.W.keyToks (encD (itemD d))).total a b⟩ (allP B)
  exact this.imp leP_size

/-! ### keyed stores -/
def tk (P : Pc) : List Key := [.inl P.l, .inl P.t, .inl P.r, .inl P.b]
@[simp] theorem tkeyOf_encP (P : Pc) : tkeyOf (encP P) = some (tk P) := by simp [tkeyOf, encP, keysOf, keyOf, tk]
theorem tk_inj {P Q : Pc} (h : tk P = tk Q) : P = Q := by
  obtain ⟨a, b, c, d⟩ := P
  obtain ⟨a', b', c', d'⟩ := Q
  simp [tk] at h
  simp [h]
theorem putDs_len {κ : Type} [DecidableEq κ] (k : κ) (v : DV) : ∀ (ks : List κ) (ds : List DV), ks.length = ds.length → (putDs ks ds k v).length = (putKs ks k).length
  | [], [], _ => by simp [putDs, putKs]
  | [], _ :: _, h => by simp at h
  | _ :: _, [], h => by simp at h
  | k' :: ks, d :: ds, h => by
    have ih := putDs_len k v ks ds (by simpa using h)
    unfold putDs
    by_cases e : k' = k
    · subst e; simp [putKs]; simpa using h.symm
    · have e' : ¬ k = k' := fun z => e z.symm
      simp only [e, if_false, List.length_cons, ih, putKs, List.mem_cons, e', false_or]
      by_cases m : k ∈ ks <;> simp [m]
theorem putKs_len {κ : Type} [DecidableEq κ] (k : κ) (ks : List κ) : (putKs ks k).length ≤ ks.length + 1 := by
  unfold putKs; split <;> simp
theorem look_put {κ : Type} [DecidableEq κ] (k : κ) (v : DV) (x : κ) : ∀ (ks : List κ) (ds : List DV), ks.length = ds.length → lookK (putKs ks k) (putDs ks ds k v) x = if x = k then some v else lookK ks ds x
  | [], [], _ => by
    by_cases e : k = x
    · simp [putKs, putDs, lookK, e]
    · have : ¬ x = k := fun z => e z.symm
      simp [putKs, putDs, lookK, e, this]
  | [], _ :: _, h => by simp at h
  | _ :: _, [], h => by simp at h
  | k' :: ks, d :: ds, h => by
    have ih := look_put k v x ks ds (by simpa using h)
    by_cases e : k' = k
    · subst e
      simp only [putKs, List.mem_cons, true_or, if_true, putDs, lookK]
      by_cases e2 : k' = x
      · simp [e2]
      · have : ¬ x = k' := fun z => e2 z.symm
        simp [e2, this]
    · have e' : ¬ k = k' := fun z => e z.symm
      have hk : putKs (k' :: ks) k = k' :: putKs ks k := by
        simp only [putKs, List.mem_cons, e', false_or]
        by_cases m : k ∈ ks <;> simp [m]
      rw [hk]
      simp only [putDs, e, if_false, lookK, ih]
      by_cases e2 : k' = x
      · subst e2; simp [e]
      · simp [e2]
theorem put_noLoc {κ : Type} [DecidableEq κ] {k : κ} {v : DV} (hv : noLoc v = true) : ∀ (ks : List κ) (ds : List DV), noLocL ds = true → noLocL (putDs ks ds k v) = true
  | [], ds, h => by
    have : ∀ es : List DV, noLocL es = true → noLocL (es ++ [v]) = true := by
      intro es
      induction es with
      | nil => intro _; simp [hv]
      | cons a r ih => intro q; simp at q; simp [q.1, ih q.2]
    unfold putDs
    exact this ds h
  | _ :: _, [], h => by simp [putDs, hv]
  | k' :: ks, d :: ds, h => by
    simp at h
    unfold putDs
    split
    · simp [hv, h.2]
    · simp [h.1, put_noLoc hv ks ds h.2]
theorem lookK_len {κ : Type} [DecidableEq κ] (x : κ) : True := trivial
/-! ### the price -/
theorem getD_some {xs : List Int} {i : Int} (h1 : 0 ≤ i) (h2 : i < xs.length) : (xs.map DV.int)[i.toNat]? = some (.int (xs.getD i.toNat 0)) := by
  have h : i.toNat < xs.length := by omega
  simp [h, List.getD]
theorem atI_ok {ds : List DV} {i : Int} {d : DV} (h1 : 0 ≤ i) (h : ds[i.toNat]? = some d) : atI ds i = some d := by
  have hl := (List.getElem?_eq_some_iff.mp h).1
  simp only [atI, ixN]
  rw [if_pos h1, if_pos (by omega)]
  simp [h]
theorem ix_lst {gg : Bool} {ds : List DV} {i : Int} {d : DV} {sto : Sto} (h1 : 0 ≤ i) (h : ds[i.toNat]? = some d) : ixD (.lstG gg ds) (.int i) sto = .ok d sto := by
  simp [ixD, dicOf, seqOf, lstOf, atI_ok h1 h]
theorem ix_tup {ds : List DV} {i : Int} {d : DV} {sto : Sto} (h1 : 0 ≤ i) (h : ds[i.toNat]? = some d) : ixD (.tup ds) (.int i) sto = .ok d sto := by
  simp [ixD, dicOf, seqOf, lstOf, atI_ok h1 h]
theorem eIx_ok {a b : EM} {env : Env} {sto s1 s2 : Sto} {x y : DV} (h1 : a env sto = .ok x s1) (h2 : b env s1 = .ok y s2) : eIx a b env sto = ixD x y s2 := by simp [eIx, h1, h2]
theorem e_price (B : Bar) (w x : Int) (hw : w = 0 ∨ w = 1) (h : 1 ≤ x ∧ x ≤ if w = 0 then B.p.length else B.q.length) : G_price_of [encB tg B, .int w, .int x] = .ok (.int (price B w x)) := by
  refine runP_rt (sto := []) rfl ?_ (by simp)
  simp only [m_price_of, encB]
  refine sRet_ok ?_
  rcases hw with rfl | rfl
  · simp at h
    rw [eIx_ok (x := .lstG tg.1 (B.p.map .int)) (y := .int (x - 1)) (s1 := []) (s2 := []) (by walk_at "ev") (by walk_at "ev"), ix_lst (by omega) (getD_some (by omega) (by omega))]
    simp [price]
  · simp at h
    rw [eIx_ok (x := .lstG tg.2.1 (B.q.map .int)) (y := .int (x - 1)) (s1 := []) (s2 := []) (by walk_at "ev") (by walk_at "ev"), ix_lst (by omega) (getD_some (by omega) (by omega))]
    simp [price]
end BB
namespace BB
open PySem L2
variable {tg : Tg}
local macro_rules | `(tactic| walk_at "ev") => `(tactic| simp [sRet, sSeq, sIf, sAsg, sPar, sExpr, sNever, sNil, sAug, tBl, tAnd, tOr, tNot, eTup, eLst, aCons, aNil, eC, eOp, eUn, uNeg, eCB, eCallT, liftP, lend_id, eIx, eSl, pSome, pNone, eVar, eAnd, eOr, eNot, eIf, eChain, fLen, fIsi, tyD, seqOf, lstOf, ixD, dicOf, atI, ixN, oAdd, oSub, oLt, oLe, oGt, oAddI, bindP, bindPs, kb_int_int, kb_int_bool, kb_list_list, kb_tuple_tuple, iSeq, srcOf, iRange1, iRange2])
/-! ### the least cost and how many ways, as the program finds them -/
def addW (a : Int × Int) (c w : Int) : Int × Int :=
  let a1 : Int × Int := if a.1 < 0 ∨ c < a.1 then (c, 0) else a
  if c = a1.1 then (a1.1, a1.2 + w) else a1
def stepC (f : Pc → Int × Int) (B : Bar) (P : Pc) (a : Int × Int) (y : Int × Int) : Int × Int :=
  addW a (price B y.1 y.2 + (f (part1 P y.1 y.2)).1 + (f (part2 P y.1 y.2)).1) ((f (part1 P y.1 y.2)).2 * (f (part2 P y.1 y.2)).2)
def cwF (B : Bar) (m : Int) : Nat → Pc → Int × Int
  | 0, P => if cnt B P > m then (-1, 0) else (0, 1)
  | n + 1, P => if cnt B P > m then (linesD P).foldl (stepC (cwF B m n) B P) (-1, 0) else (0, 1)
def semi (P : Pc) : Nat := (P.r - P.l).toNat + (P.b - P.t).toNat
def cw (B : Bar) (m : Int) (P : Pc) : Int × Int := cwF B m (semi P) P
theorem mem_lines {P : Pc} {y : Int × Int} : y ∈ linesD P ↔ (y.1 = 0 ∧ P.l < y.2 ∧ y.2 < P.r) ∨ (y.1 = 1 ∧ P.t < y.2 ∧ y.2 < P.b) := by
  obtain ⟨w, x⟩ := y
  simp only [linesD, List.mem_append, List.mem_map, mem_irange]
  constructor
  · rintro (⟨z, hz, e⟩ | ⟨z, hz, e⟩) <;> (simp at e; obtain ⟨e1, e2⟩ := e; subst e1; subst e2)
    · left; simp; omega
    · right; simp; omega
  · rintro (⟨h, h1, h2⟩ | ⟨h, h1, h2⟩)
    · left; exact ⟨x, ⟨by omega, h2⟩, by rw [show w = _ from h]⟩
    · right; exact ⟨x, ⟨by omega, h2⟩, by rw [show w = _ from h]⟩
theorem semi_part {P : Pc} {y : Int × Int} (h : y ∈ linesD P) : semi (part1 P y.1 y.2) < semi P ∧ semi (part2 P y.1 y.2) < semi P := by
  rcases mem_lines.mp h with ⟨h0, h1, h2⟩ | ⟨h0, h1, h2⟩
  · simp only [part1, part2, h0, if_true, semi]; omega
  · simp only [part1, part2, h0, semi]; simp; omega
theorem foldl_mem {α β : Type} {f g : α → β → α} : ∀ {xs : List β} {a : α}, (∀ x ∈ xs, ∀ a, f a x = g a x) → xs.foldl f a = xs.foldl g a
  | [], _, _ => rfl
  | x :: xs, a, h => by
    simp only [List.foldl_cons]
    rw [h x (by simp), foldl_mem fun y hy => h y (by simp [hy])]
theorem stepC_congr {f g : Pc → Int × Int} {B : Bar} {P : Pc} {y : Int × Int} (h1 : f (part1 P y.1 y.2) = g (part1 P y.1 y.2)) (h2 : f (part2 P y.1 y.2) = g (part2 P y.1 y.2)) (a : Int × Int) : stepC f B P a y = stepC g B P a y := by
  simp only [stepC, h1, h2]
theorem lines_zero {P : Pc} (h : semi P = 0) : linesD P = [] := by
  apply List.eq_nil_iff_forall_not_mem.mpr
  intro y hy
  have := semi_part hy
  omega
theorem cwF_stable (B : Bar) (m : Int) : ∀ (n k : Nat) (P : Pc), semi P ≤ n → semi P ≤ k → cwF B m n P = cwF B m k P
  | 0, 0, P, _, _ => rfl
  | 0, k + 1, P, h, _ => by simp [cwF, lines_zero (Nat.le_zero.mp h)]
  | n + 1, 0, P, _, h => by simp [cwF, lines_zero (Nat.le_zero.mp h)]
  | n + 1, k + 1, P, h1, h2 => by
    simp only [cwF]
    congr 1
    refine foldl_mem fun y hy a => ?_
    have := semi_part hy
    exact stepC_congr (cwF_stable B m n k _ (by omega) (by omega)) (cwF_stable B m n k _ (by omega) (by omega)) a
theorem cw_eq (B : Bar) (m : Int) (P : Pc) : cw B m P = if cnt B P > m then (linesD P).foldl (stepC (cw B m) B P) (-1, 0) else (0, 1) := by
  rw [cw, cwF_stable B m (semi P) (semi P + 1) P (Nat.le_refl _) (by omega)]
  simp only [cwF]
  congr 1
  refine foldl_mem fun y hy a => ?_
  have := semi_part hy
  exact stepC_congr (f := cwF B m (semi P)) (g := cw B m) (cwF_stable B m (semi P) (semi (part1 P y.1 y.2)) (part1 P y.1 y.2) (by omega) (by omega)) (cwF_stable B m (semi P) (semi (part2 P y.1 y.2)) (part2 P y.1 y.2) (by omega) (by omega)) a
/-- induction over cuts -/
theorem pc_ind {M : Pc → Prop} (h : ∀ P, (∀ y ∈ linesD P, M (part1 P y.1 y.2) ∧ M (part2 P y.1 y.2)) → M P) (P : Pc) : M P := by
  suffices H : ∀ n, ∀ P, semi P ≤ n → M P from H _ P (Nat.le_refl _)
  intro n
  induction n with
  | zero => intro P hP; exact h P fun y hy => by rw [lines_zero (Nat.le_zero.mp hP)] at hy; cases hy
  | succ n ih => intro P hP; exact h P fun y hy => by have := semi_part hy; exact ⟨ih _ (by omega), ih _ (by omega)⟩
/-! ### a bound for the ways -/
theorem addW_bound {a : Int × Int} {c w M S : Int} (h0 : 0 ≤ a.2) (h1 : a.2 ≤ S) (hw : 0 ≤ w) (hM : w ≤ M) : 0 ≤ (addW a c w).2 ∧ (addW a c w).2 ≤ S + M := by
  by_cases h : a.1 < 0 ∨ c < a.1
  · simp only [addW, if_pos h, if_true]; omega
  · simp only [addW, if_neg h]
    split
    · dsimp only; omega
    · omega
theorem fold_bound {g : β → Int} {w : β → Int} {M : Int} (hM : 0 ≤ M) : ∀ (ys : List β) (a : Int × Int) (S : Int), 0 ≤ a.2 → a.2 ≤ S → (∀ y ∈ ys, 0 ≤ w y ∧ w y ≤ M) →
    0 ≤ (ys.foldl (fun a y => addW a (g y) (w y)) a).2 ∧ (ys.foldl (fun a y => addW a (g y) (w y)) a).2 ≤ S + ys.length * M
  | [], a, S, h0, h1, _ => by simp; omega
  | y :: ys, a, S, h0, h1, h => by
    have hy := h y (by simp)
    have hb := addW_bound (c := g y) h0 h1 hy.1 hy.2
    have := fold_bound (g := g) hM ys (addW a (g y) (w y)) (S + M) hb.1 hb.2 fun z hz => h z (by simp [hz])
    simp only [List.foldl_cons, List.length_cons]
    refine ⟨this.1, Int.le_trans this.2 ?_⟩
    have e : ((ys.length + 1 : Nat) : Int) * M = ys.length * M + M := by rw [Int.natCast_add, Int.add_mul]; simp
    omega
def area (P : Pc) : Nat := (P.r - P.l).toNat * (P.b - P.t).toNat
theorem lines_len (P : Pc) : (linesD P).length = (P.r - (P.l + 1)).toNat + (P.b - (P.t + 1)).toNat := by simp [linesD, irange_len]
theorem area_part {P : Pc} {y : Int × Int} (hl : P.l < P.r) (ht : P.t < P.b) (h : y ∈ linesD P) : area (part1 P y.1 y.2) + area (part2 P y.1 y.2) = area P ∧ 0 < area (part1 P y.1 y.2) ∧ 0 < area (part2 P y.1 y.2) := by
  rcases mem_lines.mp h with ⟨h0, h1, h2⟩ | ⟨h0, h1, h2⟩
  · simp only [part1, part2, h0, if_true, area]
    rw [← Nat.add_mul]
    refine ⟨?_, Nat.mul_pos (by omega) (by omega), Nat.mul_pos (by omega) (by omega)⟩
    congr 1
    omega
  · simp only [part1, part2, h0, area]
    simp only [Int.reduceEq, if_false]
    rw [← Nat.mul_add]
    refine ⟨?_, Nat.mul_pos (by omega) (by omega), Nat.mul_pos (by omega) (by omega)⟩
    congr 1
    omega
structure Fits (P : Pc) (n : Int) : Prop where
  l : P.l < P.r
  t : P.t < P.b
  w : P.r - P.l ≤ n
  h : P.b - P.t ≤ n
theorem Fits.part {P : Pc} {n : Int} (f : Fits P n) {y : Int × Int} (h : y ∈ linesD P) : Fits (part1 P y.1 y.2) n ∧ Fits (part2 P y.1 y.2) n := by
  obtain ⟨f1, f2, f3, f4⟩ := f
  rcases mem_lines.mp h with ⟨h0, h1, h2⟩ | ⟨h0, h1, h2⟩
  · simp only [part1, part2, h0, if_true]
    exact ⟨⟨h1, f2, by simp; omega, f4⟩, ⟨h2, f2, by simp; omega, f4⟩⟩
  · simp only [part1, part2, h0, Int.reduceEq, if_false]
    exact ⟨⟨f1, h1, f3, by simp; omega⟩, ⟨f1, h2, f3, by simp; omega⟩⟩
theorem ways_bound (B : Bar) (m : Int) (P : Pc) : Fits P 5 → 0 ≤ (cw B m P).2 ∧ (cw B m P).2 ≤ 8 ^ (area P - 1) := by
  refine pc_ind (M := fun P => Fits P 5 → 0 ≤ (cw B m P).2 ∧ (cw B m P).2 ≤ 8 ^ (area P - 1)) (fun P ih f => ?_) P
  have hpos : (1 : Int) ≤ 8 ^ (area P - 1) := by
    have : 0 < (8 : Int) ^ (area P - 1) := Int.pow_pos (by omega)
    omega
  rw [cw_eq]
  split
  · by_cases hn : linesD P = []
    · rw [hn]; simp; omega
    · obtain ⟨y0, hy0⟩ := List.exists_mem_of_ne_nil _ hn
      have ha0 := area_part f.l f.t hy0
      have e8 : (8 : Int) ^ (area P - 1) = 8 * 8 ^ (area P - 2) := by
        rw [show area P - 1 = (area P - 2) + 1 by omega, Int.pow_succ, Int.mul_comm]
      have hp2 : 0 < (8 : Int) ^ (area P - 2) := Int.pow_pos (by omega)
      have := fold_bound (g := fun y => price B y.1 y.2 + (cw B m (part1 P y.1 y.2)).1 + (cw B m (part2 P y.1 y.2)).1) (w := fun y => (cw B m (part1 P y.1 y.2)).2 * (cw B m (part2 P y.1 y.2)).2) (M := 8 ^ (area P - 2)) (by omega) (linesD P) (-1, 0) 0 (by simp) (by simp) fun y hy => by
        have i := ih y hy
        have ff := f.part hy
        have i1 := i.1 ff.1
        have i2 := i.2 ff.2
        have ha := area_part f.l f.t hy
        refine ⟨Int.mul_nonneg i1.1 i2.1, ?_⟩
        have e : (8 : Int) ^ (area P - 2) = 8 ^ (area (part1 P y.1 y.2) - 1) * 8 ^ (area (part2 P y.1 y.2) - 1) := by
          rw [← Int.pow_add]
          congr 1
          omega
        rw [e]
        exact Int.mul_le_mul i1.2 i2.2 i2.1 (by have : 0 < (8 : Int) ^ (area (part1 P y.1 y.2) - 1) := Int.pow_pos (by omega); omega)
      refine ⟨this.1, Int.le_trans this.2 ?_⟩
      rw [e8, Int.zero_add]
      refine Int.mul_le_mul_of_nonneg_right ?_ (by omega)
      rw [lines_len]
      have := f.w; have := f.h; have := f.l; have := f.t
      omega
  · simp; omega
theorem area_le {P : Pc} (f : Fits P 5) : area P ≤ 25 := by
  have : area P ≤ 5 * 5 := Nat.mul_le_mul (by have := f.w; omega) (by have := f.h; omega)
  omega
theorem ways_small (B : Bar) (m : Int) (P : Pc) (f : Fits P 5) : (cw B m P).2.natAbs < 2 ^ 250 := by
  have h := ways_bound B m P f
  have ha := area_le f
  have : (8 : Int) ^ (area P - 1) ≤ 8 ^ 24 := by
    have := Nat.pow_le_pow_right (n := 8) (by omega) (show area P - 1 ≤ 24 by omega)
    exact_mod_cast this
  have h2 : (8 : Int) ^ 24 < 2 ^ 250 := by decide
  omega

abbrev envC (tg : Tg) (B : Bar) (m : Int) (a b c d e f g h : Option DV) : Env := [some (encB tg B), some (.int m), some (.loc 0), some (.loc 1), a, b, c, d, e, f, g, h]
theorem putT2 {B : Bar} {m : Int} {P : Pc} {b c d e f g h : Option DV} {t : EM} {ks : List (List Key)} {cs ws : List DV} {x w : DV} (hl : ks.length < 1000000)
    (ht : t (envC tg B m (some (encP P)) b c d e f g h) [.dT ks cs, .dT ks ws] = .ok (.tup [x, w]) [.dT ks cs, .dT ks ws]) :
    sPutT [((eVar 2), (eVar 4)), ((eVar 3), (eVar 4))] t (envC tg B m (some (encP P)) b c d e f g h) [.dT ks cs, .dT ks ws] =
      .nx (envC tg B m (some (encP P)) b c d e f g h) [.dT (putKs ks (tk P)) (putDs ks cs (tk P) x), .dT (putKs ks (tk P)) (putDs ks ws (tk P) w)] := by
  simp [sPutT, ht, sPuts, eVar, putD, hl]
/-- a loop whose environment and store are told by what is done -/
theorem runL_eq_aux {β : Type} {p : Pat} {ws : List Nat} {body : SM} {enc : β → DV} {xs : List β} {E : List β → Env} {St : List β → Sto}
    (hs : ∀ done y rest, xs = done ++ y :: rest → ∃ e1, bindP p (enc y) (E done) = some e1 ∧ ∃ e2, body e1 (St done) = .nx e2 (St (done ++ [y])) ∧ wipeE e2 ws = E (done ++ [y])) :
    ∀ (ys done : List β), xs = done ++ ys → runL p ws body (ys.map enc) (E done) (St done) = .nx (E xs) (St xs)
  | [], done, hx => by rw [hx]; simp [runL]
  | y :: ys, done, hx => by
    obtain ⟨e1, h1, e2, h2, h3⟩ := hs done y ys hx
    simp only [List.map_cons, runL, h1, h2, h3]
    exact runL_eq_aux hs ys (done ++ [y]) (by simp [hx])
theorem runL_eq {β : Type} {p : Pat} {ws : List Nat} {body : SM} {enc : β → DV} {xs : List β} (E : List β → Env) (St : List β → Sto)
    (hs : ∀ done y rest, xs = done ++ y :: rest → ∃ e1, bindP p (enc y) (E done) = some e1 ∧ ∃ e2, body e1 (St done) = .nx e2 (St (done ++ [y])) ∧ wipeE e2 ws = E (done ++ [y])) :
    runL p ws body (xs.map enc) (E []) (St []) = .nx (E xs) (St xs) := runL_eq_aux hs xs [] rfl
theorem irange_lt (lo hi : Int) : (irange lo hi).Pairwise (· < ·) := by
  unfold irange
  rw [List.pairwise_map]
  exact List.pairwise_lt_range.imp fun h => by omega
theorem allP_nodup (B : Bar) : (allP B).Nodup := by
  unfold allP List.Nodup
  simp only [List.pairwise_flatMap, List.pairwise_map, List.mem_flatMap, List.mem_map]
  refine ⟨fun l _ => ⟨fun t _ => ⟨fun r _ => (irange_lt _ _).imp fun h z => ?_, (irange_lt _ _).imp fun h => ?_⟩, (irange_lt _ _).imp fun h => ?_⟩, (irange_lt _ _).imp fun h => ?_⟩
  · cases z; omega
  · rintro x ⟨b, _, rfl⟩ y ⟨b', _, rfl⟩ z; cases z; omega
  · rintro x ⟨r, _, b, _, rfl⟩ y ⟨r', _, b', _, rfl⟩ z; cases z; omega
  · rintro x ⟨t, _, r, _, b, _, rfl⟩ y ⟨t', _, r', _, b', _, rfl⟩ z; cases z; omega
theorem byS_nodup (B : Bar) : (byS B).Nodup := (byS_perm B).symm.nodup (allP_nodup B)
theorem look_map {v : Pc → DV} {P : Pc} : ∀ {xs : List Pc}, P ∈ xs → lookK (xs.map tk) (xs.map v) (tk P) = some (v P)
  | [], h => by cases h
  | x :: xs, h => by
    simp only [List.map_cons, lookK]
    by_cases e : tk x = tk P
    · rw [if_pos e, tk_inj e]
    · rw [if_neg e]
      rcases List.mem_cons.mp h with rfl | h
      · exact absurd rfl e
      · exact look_map h
theorem putKs_new {P : Pc} {xs : List Pc} (h : P ∉ xs) : putKs (xs.map tk) (tk P) = xs.map tk ++ [tk P] := by
  unfold putKs
  rw [if_neg]
  simp only [List.mem_map, not_exists, not_and]
  exact fun Q hQ e => h (tk_inj e ▸ hQ)
theorem putDs_new {v : Pc → DV} {P : Pc} {d : DV} : ∀ {xs : List Pc}, P ∉ xs → putDs (xs.map tk) (xs.map v) (tk P) d = xs.map v ++ [d]
  | [], h => by simp [putDs]
  | x :: xs, h => by
    simp only [List.mem_cons, not_or] at h
    simp only [List.map_cons, putDs]
    rw [if_neg fun e => h.1 (tk_inj e).symm, putDs_new h.2]
    rfl
theorem putKs_old {P : Pc} {xs : List Pc} : putKs (xs.map tk ++ [tk P]) (tk P) = xs.map tk ++ [tk P] := by simp [putKs]
theorem putDs_old {v : Pc → DV} {P : Pc} {d e : DV} : ∀ {xs : List Pc}, P ∉ xs → putDs (xs.map tk ++ [tk P]) (xs.map v ++ [e]) (tk P) d = xs.map v ++ [d]
  | [], h => by simp [putDs]
  | x :: xs, h => by
    simp only [List.mem_cons, not_or] at h
    simp only [List.map_cons, List.cons_append, putDs]
    rw [if_neg fun e => h.1 (tk_inj e).symm, putDs_old h.2]
theorem part_ne {P : Pc} {y : Int × Int} (h : y ∈ linesD P) : part1 P y.1 y.2 ≠ P ∧ part2 P y.1 y.2 ≠ P := by
  have := semi_part h
  refine ⟨fun e => ?_, fun e => ?_⟩
  · rw [e] at this; omega
  · rw [e] at this; omega
theorem part_mem {B : Bar} {P : Pc} (hP : P ∈ allP B) {y : Int × Int} (hy : y ∈ linesD P) : part1 P y.1 y.2 ∈ allP B ∧ part2 P y.1 y.2 ∈ allP B := by
  have := mem_allP.mp hP
  simp only [mem_allP]
  rcases mem_lines.mp hy with ⟨h0, h1, h2⟩ | ⟨h0, h1, h2⟩
  · simp only [part1, part2, h0, if_true]; omega
  · simp only [part1, part2, h0, Int.reduceEq, if_false]; omega
theorem size_area {P : Pc} (hl : P.l < P.r) (ht : P.t < P.b) : size P = (area P : Int) := by
  simp only [size, area, Int.natCast_mul]
  rw [Int.toNat_of_nonneg (by omega), Int.toNat_of_nonneg (by omega)]
theorem size_part {B : Bar} {P : Pc} (hP : P ∈ allP B) {y : Int × Int} (hy : y ∈ linesD P) : size (part1 P y.1 y.2) < size P ∧ size (part2 P y.1 y.2) < size P := by
  have h := mem_allP.mp hP
  have hp := part_mem hP hy
  have h1 := mem_allP.mp hp.1
  have h2 := mem_allP.mp hp.2
  have ha := area_part (by omega) (by omega) hy
  rw [size_area (P := P) (by omega) (by omega), size_area (P := part1 P y.1 y.2) (by omega) (by omega), size_area (P := part2 P y.1 y.2) (by omega) (by omega)]
  omega
theorem earlier {B : Bar} {done rest : List Pc} {P Q : Pc} (hb : byS B = done ++ P :: rest) (hQ : Q ∈ allP B) (hs : size Q < size P) : Q ∈ done := by
  have h1 := (byS_perm B).mem_iff.mpr hQ
  have h2 := byS_sorted B
  rw [hb] at h1 h2
  simp only [List.mem_append, List.mem_cons] at h1
  rcases h1 with h1 | rfl | h1
  · exact h1
  · omega
  · have := (List.pairwise_cons.mp (List.pairwise_append.mp h2).2.1).1 Q h1
    omega
theorem fits_of {B : Bar} {P : Pc} (hp : B.p.length ≤ 4) (hq : B.q.length ≤ 4) (h : P ∈ allP B) : Fits P 5 := by
  have := mem_allP.mp h
  exact ⟨by omega, by omega, by omega, by omega⟩
theorem line_ok {B : Bar} {P : Pc} (hP : P ∈ allP B) {y : Int × Int} (hy : y ∈ linesD P) : (y.1 = 0 ∨ y.1 = 1) ∧ 1 ≤ y.2 ∧ y.2 ≤ if y.1 = 0 then B.p.length else B.q.length := by
  have := mem_allP.mp hP
  rcases mem_lines.mp hy with ⟨h0, h1, h2⟩ | ⟨h0, h1, h2⟩
  · simp [h0]; omega
  · simp [h0]; omega
theorem ix_loc {n : Nat} {ks : List (List Key)} {ds : List DV} {P : Pc} {d : DV} {sto : Sto} (h : sto[n]? = some (.dT ks ds)) (hk : lookK ks ds (tk P) = some d) : ixD (.loc n) (encP P) sto = .ok d sto := by
  simp [ixD, dicOf, h, hk]
theorem look_app {κ : Type} [DecidableEq κ] {k x : κ} {d e : DV} : ∀ {ks : List κ} {ds : List DV}, lookK ks ds x = some d → lookK (ks ++ [k]) (ds ++ [e]) x = some d
  | [], _, h => by unfold lookK at h; simp at h
  | _ :: _, [], h => by unfold lookK at h; simp at h
  | k' :: ks, d' :: ds, h => by
    simp only [lookK, List.cons_append] at h ⊢
    split
    · rename_i q; rw [if_pos q] at h; exact h
    · rename_i q; rw [if_neg q] at h; exact look_app h
theorem sNil_ok {env : Env} {sto : Sto} : sNil env sto = .nx env sto := rfl
theorem tOr_ok {a b : TM} {env : Env} {sto s1 : Sto} {c : Bool} (h : a env sto = .ok c s1) : tOr a b env sto = if c = true then .ok true s1 else b env s1 := by simp [tOr, h]
def vC (B : Bar) (m : Int) (P : Pc) : DV := .int (cw B m P).1
def vW (B : Bar) (m : Int) (P : Pc) : DV := .int (cw B m P).2
abbrev stC (B : Bar) (m : Int) (done : List Pc) : Sto := [.dT (done.map tk) (done.map (vC B m)), .dT (done.map tk) (done.map (vW B m))]
theorem e_costs (B : Bar) (m : Int) (hp : B.p.length ≤ 4) (hq : B.q.length ≤ 4) (hn : B.nuts.length ≤ 1000) : G_costs_of [encB tg B, .int m] = .ok (.tup [.dic ((byS B).map tk) ((byS B).map (vC B m)), .dic ((byS B).map tk) ((byS B).map (vW B m))]) := by
  have hbl : (byS B).length ≤ 194481 := by unfold byS; rw [List.length_mergeSort]; exact allP_len B (by omega) (by omega)
  refine runP_frz (d := .tup [.loc 0, .loc 1]) (sto := stC B m (byS B)) rfl ?_ ?_
  rotate_left
  · have n1 : ∀ xs : List Pc, cleanL (xs.map (vC B m)) = true := fun xs => cleanL_map (fun _ => by simp [vC]) xs
    have n2 : ∀ xs : List Pc, cleanL (xs.map (vW B m)) = true := fun xs => cleanL_map (fun _ => by simp [vW]) xs
    simp [frz, frzW, frzWL, flk, flookW, frzWL_id _ _ (n1 _), frzWL_id _ _ (n2 _)]
  simp only [m_costs_of]
  rw [sSeq_nx (e := envC tg B m none none none none none none none none) (s := stC B m []) (by walk_at "ev"; simp [eDicT])]
  rw [sSeq_nx (e := envC tg B m none none none none none none none none) (s := stC B m (byS B))]
  · simp [sRet, eTup, aCons, aNil, eVar]
  rw [sFor_fix (iSeq_lst (eCall_ok (a1_ok (d := encB tg B) (s1 := stC B m []) rfl) (by simp) (e_bysize B (by omega) (by omega))))]
  refine runL_eq (E := fun _ => envC tg B m none none none none none none none none) (St := stC B m) ?_
  intro done P rest hb
  have hP : P ∈ allP B := (byS_perm B).mem_iff.mp (by rw [hb]; simp)
  have hnd : P ∉ done := by
    have h := byS_nodup B
    rw [hb] at h
    intro z
    exact (List.pairwise_append.mp h).2.2 P z P (by simp) rfl
  have hdl : done.length < 194481 := by
    have h2 : (byS B).length = done.length + (rest.length + 1) := by rw [hb]; simp
    omega
  refine ⟨envC tg B m (some (encP P)) none none none none none none none, rfl, ?_⟩
  rw [sSeq_nx (putT2 (x := .int 0) (w := .int 1) (by simp; omega) (by simp [eTup, aCons, aNil, eC]))]
  rw [putKs_new hnd, putDs_new hnd, putDs_new hnd]
  have hcw := cw_eq B m P
  have hcnt : (tBl (eOp oGt (eCall G_nuts_in (aCons (eVar 0) (aCons (eVar 4) aNil))) (eVar 1))) (envC tg B m (some (encP P)) none none none none none none none) = fun s => .ok (decide (m < cnt B P)) s := by
    funext s
    have h1 := eCall_ok (G := G_nuts_in) (env := envC tg B m (some (encP P)) none none none none none none none) (sto := s) (t := aCons (eVar 0) (aCons (eVar 4) aNil)) (ds := [encB tg B, encP P]) (s := s) (by simp [aCons, aNil, eVar]) (by simp) (e_nuts B P hn)
    simp [tBl, eOp, h1, eVar, oGt]
  rw [sIf_ok (congrFun hcnt _)]
  by_cases hc : m < cnt B P
  rotate_left
  · rw [if_neg (by simpa using hc)]
    rw [if_neg hc] at hcw
    refine ⟨envC tg B m (some (encP P)) none none none none none none none, ?_, rfl⟩
    simp [sNil, vC, vW, hcw]
  rw [if_pos (by simpa using hc)]
  rw [if_pos hc] at hcw
  generalize hst : [DO.dT (done.map tk ++ [tk P]) (done.map (vC B m) ++ [DV.int 0]), DO.dT (done.map tk ++ [tk P]) (done.map (vW B m) ++ [DV.int 1])] = st
  have hlook : ∀ Q, Q ∈ done → ixD (.loc 0) (encP Q) st = .ok (vC B m Q) st ∧ ixD (.loc 1) (encP Q) st = .ok (vW B m Q) st := by
    intro Q hQ
    subst hst
    exact ⟨ix_loc rfl (look_app (look_map hQ)), ix_loc rfl (look_app (look_map hQ))⟩
  rw [sSeq_nx (e := envC tg B m (some (encP P)) (some (.int (-1))) (some (.int 0)) none none none none none) (s := st) (by walk_at "ev")]
  rw [sSeq_nx (e := envC tg B m (some (encP P)) (some (.int (cw B m P).1)) (some (.int (cw B m P).2)) none none none none none) (s := st)]
  · subst hst
    rw [putT2 (x := vC B m P) (w := vW B m P) (by simp; omega) (by simp [eTup, aCons, aNil, eVar, vC, vW])]
    refine ⟨envC tg B m (some (encP P)) (some (.int (cw B m P).1)) (some (.int (cw B m P).2)) none none none none none, ?_, rfl⟩
    rw [putKs_old, putDs_old hnd, putDs_old hnd]
    simp
  rw [sFor_fix (iSeq_lst (eCall_ok (a1_ok (d := encP P) (s1 := st) rfl) (by simp) (e_lines P (small_of (by omega) (by omega) hP))))]
  rw [hcw]
  refine (runL_fold (E := fun a => envC tg B m (some (encP P)) (some (.int a.1)) (some (.int a.2)) none none none none none) (St := fun _ => st) (I := fun _ => True) (linesD P) ((-1, 0) : Int × Int) trivial ?_).1
  intro a _ y hy
  refine ⟨trivial, envC tg B m (some (encP P)) (some (.int a.1)) (some (.int a.2)) (some (.int y.1)) (some (.int y.2)) none none none, rfl, ?_⟩
  have hpm := part_mem hP hy
  have hsz := size_part hP hy
  have d1 := hlook _ (earlier hb hpm.1 hsz.1)
  have d2 := hlook _ (earlier hb hpm.2 hsz.2)
  have w1 := ways_small B m _ (fits_of hp hq hpm.1)
  have w2 := ways_small B m _ (fits_of hp hq hpm.2)
  have hl := line_ok hP hy
  rw [sSeq_nx (e := envC tg B m (some (encP P)) (some (.int a.1)) (some (.int a.2)) (some (.int y.1)) (some (.int y.2)) (some (encP (part1 P y.1 y.2))) (some (encP (part2 P y.1 y.2))) none) (s := st) (sAsg_ok (eCall_ok (ds := [encP P, .int y.1, .int y.2]) (by simp [aCons, aNil, eVar]) (by simp) (e_parts P y.1 y.2)) rfl)]
  generalize hcost : price B y.1 y.2 + (cw B m (part1 P y.1 y.2)).1 + (cw B m (part2 P y.1 y.2)).1 = c
  rw [sSeq_nx (e := envC tg B m (some (encP P)) (some (.int a.1)) (some (.int a.2)) (some (.int y.1)) (some (.int y.2)) (some (encP (part1 P y.1 y.2))) (some (encP (part2 P y.1 y.2))) (some (.int c))) (s := st) (sAsg_ok (d := .int c) (by
    have hpr := eCall_ok (G := G_price_of) (env := envC tg B m (some (encP P)) (some (.int a.1)) (some (.int a.2)) (some (.int y.1)) (some (.int y.2)) (some (encP (part1 P y.1 y.2))) (some (encP (part2 P y.1 y.2))) none) (sto := st) (t := aCons (eVar 0) (aCons (eVar 7) (aCons (eVar 8) aNil))) (ds := [encB tg B, .int y.1, .int y.2]) (s := st) (by simp [aCons, aNil, eVar]) (by simp) (e_price B y.1 y.2 hl.1 hl.2)
    simp [eOp, hpr, eIx, eVar, d1, d2, oAdd, vC, hcost]) rfl)]
  have hmul : (eOp (oMul false) (eIx (eVar 3) (eVar 9)) (eIx (eVar 3) (eVar 10))) = fun (e : Env) s => eOp (oMul false) (eIx (eVar 3) (eVar 9)) (eIx (eVar 3) (eVar 10)) e s := rfl
  by_cases hr : a.1 < 0 ∨ c < a.1
  · rw [sSeq_nx (e := envC tg B m (some (encP P)) (some (.int c)) (some (.int 0)) (some (.int y.1)) (some (.int y.2)) (some (encP (part1 P y.1 y.2))) (some (encP (part2 P y.1 y.2))) (some (.int c))) (s := st) (by
      rcases hr with h | h
      · walk_at "ev"; simp [h]
      · walk_at "ev"; by_cases h0 : a.1 < 0 <;> simp [h, h0])]
    refine ⟨envC tg B m (some (encP P)) (some (.int c)) (some (.int ((cw B m (part1 P y.1 y.2)).2 * (cw B m (part2 P y.1 y.2)).2))) (some (.int y.1)) (some (.int y.2)) (some (encP (part1 P y.1 y.2))) (some (encP (part2 P y.1 y.2))) (some (.int c)), ?_, ?_⟩
    · simp [sIf, tBl, eOp, eVar, sAug, eIx, d1, d2, vW, oMul, w1, w2, oAddI]
    · simp [stepC, hcost, addW, hr]
  · rw [sSeq_nx (e := envC tg B m (some (encP P)) (some (.int a.1)) (some (.int a.2)) (some (.int y.1)) (some (.int y.2)) (some (encP (part1 P y.1 y.2))) (some (encP (part2 P y.1 y.2))) (some (.int c))) (s := st) (by
      have h1 : ¬ a.1 < 0 := fun z => hr (.inl z)
      have h2 : ¬ c < a.1 := fun z => hr (.inr z)
      walk_at "ev"; simp [h1, h2])]
    by_cases he : c = a.1
    · refine ⟨envC tg B m (some (encP P)) (some (.int a.1)) (some (.int (a.2 + (cw B m (part1 P y.1 y.2)).2 * (cw B m (part2 P y.1 y.2)).2))) (some (.int y.1)) (some (.int y.2)) (some (encP (part1 P y.1 y.2))) (some (encP (part2 P y.1 y.2))) (some (.int c)), ?_, ?_⟩
      · simp [sIf, tBl, eOp, eVar, sAug, eIx, d1, d2, vW, oMul, w1, w2, oAddI, he]
      · simp only [stepC, hcost, addW, if_neg hr, if_pos he]
        rfl
    · refine ⟨envC tg B m (some (encP P)) (some (.int a.1)) (some (.int a.2)) (some (.int y.1)) (some (.int y.2)) (some (encP (part1 P y.1 y.2))) (some (encP (part2 P y.1 y.2))) (some (.int c)), ?_, ?_⟩
      · simp [sIf, tBl, eOp, eVar, sNil, he]
      · simp [stepC, hcost, addW, hr, he]
end BB
namespace BB
open PySem L2
variable {tg : Tg}
local macro_rules | `(tactic| walk_at "ev") => `(tactic| simp [sRet, sSeq, sIf, sAsg, sPar, sExpr, sNever, sNil, sAug, tBl, tAnd, tOr, tNot, eTup, eLst, aCons, aNil, eC, eOp, eUn, uNeg, eCB, eCallT, liftP, lend_id, eIx, eSl, pSome, pNone, eVar, eAnd, eOr, eNot, eIf, eChain, fLen, fIsi, tyD, seqOf, lstOf, ixD, dicOf, atI, ixN, oAdd, oSub, oLt, oLe, oGt, oAddI, bindP, bindPs, kb_int_int, kb_int_bool, kb_list_list, kb_tuple_tuple, iSeq, srcOf, iRange1, iRange2])
def ltC (a b : Int × Int) : Prop := a.1 < b.1 ∨ (a.1 = b.1 ∧ a.2 < b.2)
structure OkBar (B : Bar) : Prop where
  pl : B.p.length ≤ 4
  ql : B.q.length ≤ 4
  pv : ∀ x ∈ B.p, 1 ≤ x ∧ x ≤ 9
  qv : ∀ x ∈ B.q, 1 ≤ x ∧ x ≤ 9
  nl : B.nuts.length ≤ 1000
  nv : ∀ c ∈ B.nuts, 0 ≤ c.1 ∧ c.1 ≤ B.p.length ∧ 0 ≤ c.2 ∧ c.2 ≤ B.q.length
  up : B.nuts.Pairwise ltC
theorem e_iswhole (i : Int) : G_is_whole [.int i] = .ok (.bl true) := by
  refine runP_rt (sto := []) rfl ?_ (by simp)
  simp only [m_is_whole]
  walk_at "ev"
theorem e_between (i a b : Int) : G_is_between [.int i, .int a, .int b] = .ok (.bl (decide (a ≤ i) && decide (i ≤ b))) := by
  refine runP_rt (sto := []) rfl ?_ (by simp)
  simp only [m_is_between]
  refine sRet_ok ?_
  rw [eAnd, eCall_ok (a1_ok (d := .int i) (s1 := []) rfl) (by simp) (e_iswhole i)]
  walk_at "ev"
  by_cases h1 : a ≤ i <;> by_cases h2 : i ≤ b <;> simp [h1, h2]
theorem e_prices {gg : Bool} (xs : List Int) (hl : xs.length ≤ 4) (hv : ∀ x ∈ xs, 1 ≤ x ∧ x ≤ 9) : G_are_prices [.lstG gg (xs.map .int)] = .ok (.bl true) := by
  refine runP_rt (sto := []) rfl ?_ (by simp)
  simp only [m_are_prices]
  rw [sSeq_nx (e := startE N_are_prices [.lstG gg (xs.map .int)]) (s := []) (by
    have h4 : ¬ (4 : Int) < xs.length := by omega
    walk_at "ev"; omega)]
  refine sRet_ok ?_
  rw [eCB_ok (a1_ok (comp_map (enc := DV.int) (Y := fun _ => .bl true) (ys := xs) (s := []) (iSeq_lst rfl) (by omega) fun y hy => ⟨[some (.lstG gg (xs.map .int)), some (.int y)], rfl, by
    rw [eCall_ok (ds := [.int y, .int 1, .int 9]) (by simp [aCons, aNil, eVar, eC]; rfl) (by simp) (e_between y 1 9)]
    have := hv y hy
    simp [this.1, this.2]⟩))]
  have h := blsOf_map (xs.map fun _ => true)
  rw [List.map_map] at h
  have e : (xs.map fun _ => DV.bl true) = xs.map (DV.bl ∘ fun _ => true) := rfl
  simp only [fAll, lsqOf, lstOf, e, Option.bind_some, h]
  simp
theorem e_cell (c : Int × Int) (w h : Int) (hv : 0 ≤ c.1 ∧ c.1 ≤ w ∧ 0 ≤ c.2 ∧ c.2 ≤ h) : G_is_cell [encC c, .int w, .int h] = .ok (.bl true) := by
  refine runP_rt (sto := []) rfl ?_ (by simp)
  simp only [m_is_cell]
  have h1 := e_between c.1 0 w
  have h2 := e_between c.2 0 h
  simp only [hv, decide_true, Bool.and_self] at h1 h2
  simp only [encC]
  walk_at "ev"
  simp [h1, h2]
theorem zip_tail {α : Type} {R : α → α → Prop} : ∀ {xs : List α}, xs.Pairwise R → ∀ q ∈ xs.zip (xs.drop 1), R q.1 q.2
  | [], _, q, hq => by simp at hq
  | [x], _, q, hq => by simp at hq
  | x :: y :: xs, h, q, hq => by
    have h0 := List.pairwise_cons.mp h
    simp only [List.drop_succ_cons, List.drop_zero, List.zip_cons_cons, List.mem_cons] at hq
    rcases hq with rfl | hq
    · exact h0.1 y (by simp)
    · exact zip_tail h0.2 q (by simpa using hq)
theorem iZip_ok {g1 g2 : Bool} {t : AM} {env : Env} {sto s : Sto} {xs ys : List DV} (h : t env sto = .ok [.lstG g1 xs, .lstG g2 ys] s) : iZip t env sto = .ok (.fix ((xs.zip ys).map fun q => .tup [q.1, q.2])) s := by
  simp [iZip, h, frzL]
theorem cut_drop1 (xs : List DV) : cutD xs (some 1) none = xs.drop 1 := by
  unfold cutD HT.sIx
  cases xs <;> simp
theorem zip_enc (xs ys : List (Int × Int)) : ((xs.map encC).zip (ys.map encC)).map (fun q => DV.tup [q.1, q.2]) = (xs.zip ys).map fun q => DV.tup [encC q.1, encC q.2] := by
  rw [List.zip_map]
  simp [Function.comp_def]
theorem ge_cell {a b : Int × Int} {sto : Sto} (h : ltC a b) : oGe (encC a) (encC b) sto = .ok (.bl false) sto := by
  simp only [encC, oGe, py, pyW, pyWL, Option.map]
  rw [if_pos (by simp [PySem.W.alike, PySem.W.alikeAll, notNone, PyData.depth, PyData.depthAll]), PySem.W.dataLt_ii]
  have : (a.1 < b.1 ∨ (a.1 = b.1 ∧ a.2 < b.2)) := h
  simp [this]
theorem any_false {β : Type} (xs : List β) {sto : Sto} : fAny [.lst (xs.map fun _ => .bl false)] sto = .ok (.bl false) sto := by
  have h := blsOf_map (xs.map fun _ => false)
  rw [List.map_map] at h
  have e : (xs.map fun _ => DV.bl false) = xs.map (DV.bl ∘ fun _ => false) := rfl
  simp only [fAny, lsqOf, lstOf, e, Option.bind_some, h]
  simp
theorem all_true {β : Type} (xs : List β) {sto : Sto} : fAll [.lst (xs.map fun _ => .bl true)] sto = .ok (.bl true) sto := by
  have h := blsOf_map (xs.map fun _ => true)
  rw [List.map_map] at h
  have e : (xs.map fun _ => DV.bl true) = xs.map (DV.bl ∘ fun _ => true) := rfl
  simp only [fAll, lsqOf, lstOf, e, Option.bind_some, h]
  simp
theorem e_check (B : Bar) (o : OkBar B) : G_check_bar [encB tg B] = .ok .non := by
  refine runP_nx (e := [some (encB tg B), none, none, none]) (sto := []) rfl ?_
  simp only [m_check_bar]
  have h1 := e_prices (gg := tg.1) B.p o.pl o.pv
  have h2 := e_prices (gg := tg.2.1) B.q o.ql o.qv
  rw [sSeq_nx (e := [some (encB tg B), none, none, none]) (s := []) (by
    simp only [encB]
    walk_at "ev"; simp [h1, h2])]
  have hl : ∀ y, eCall G_is_cell (aCons (eVar 3) (aCons (eCB fLen (aCons (eIx (eVar 0) (eC (.int 0))) aNil)) (aCons (eCB fLen (aCons (eIx (eVar 0) (eC (.int 1))) aNil)) aNil))) [some (encB tg B), none, none, some (encC y)] [] = eCall G_is_cell (fun _ s => .ok [encC y, .int B.p.length, .int B.q.length] s) [some (encB tg B), none, none, some (encC y)] [] := by
    intro y
    simp only [encB]
    walk_at "ev"
  rw [sSeq_nx (e := [some (encB tg B), none, none, none]) (s := []) (by
    rw [sIf_ok (c := false) (s := [])]
    · simp [sNil]
    rw [tOr_ok (c := false) (s1 := []) (by simp only [encB]; walk_at "ev")]
    simp only [Bool.false_eq_true, if_false, tNot, tBl]
    rw [eCB_ok (a1_ok (comp_map (enc := encC) (Y := fun _ => .bl true) (ys := B.nuts) (s := []) (iSeq_lst (gg := tg.2.2) (by simp only [encB]; walk_at "ev")) (by have := o.nl; omega) fun y hy => ⟨[some (encB tg B), none, none, some (encC y)], rfl, by
      rw [hl, eCall_ok rfl (by simp) (e_cell y B.p.length B.q.length (o.nv y hy))]⟩))]
    rw [all_true]
    simp)]
  rw [sIf_ok (c := false) (s := [])]
  · simp [sNil]
  simp only [tBl]
  rw [eCB_ok (a1_ok (comp_map (enc := fun q : (Int × Int) × (Int × Int) => .tup [encC q.1, encC q.2]) (Y := fun _ => .bl false) (ys := B.nuts.zip (B.nuts.drop 1)) (s := []) (by
    simp only [encB]
    rw [iZip_ok (g1 := tg.2.2) (g2 := false) (xs := B.nuts.map encC) (ys := (B.nuts.drop 1).map encC) (s := []) (by
      walk_at "ev"
      simp [slD, newL, lstOf, cut_drop1])]
    rw [zip_enc]) (by have := o.nl; simp; omega) fun y hy => ⟨[some (encB tg B), some (encC y.1), some (encC y.2), none], rfl, by
      simp [eOp, eVar, ge_cell (zip_tail o.up y hy)]⟩))]
  rw [any_false]
  simp
theorem e_both (B : Bar) (m : Int) (o : OkBar B) (hm : 1 ≤ m ∧ m ≤ 3) : G_check_both [encB tg B, .int m] = .ok .non := by
  refine runP_nx (e := [some (encB tg B), some (.int m)]) (sto := []) rfl ?_
  simp only [m_check_both]
  rw [sSeq_nx (sExpr_ok (eCall_ok (a1_ok (d := encB tg B) (s1 := []) rfl) (by simp) (e_check B o)))]
  have := e_between m 1 3
  simp only [hm, decide_true, Bool.and_self] at this
  walk_at "ev"
  simp [this]
def wholeP (B : Bar) : Pc := ⟨0, 0, B.p.length + 1, B.q.length + 1⟩
theorem whole_mem (B : Bar) : wholeP B ∈ allP B := mem_allP.mpr (by simp [wholeP])
theorem ix_dic {ks : List (List Key)} {ds : List DV} {P : Pc} {d : DV} {sto : Sto} (hk : lookK ks ds (tk P) = some d) : ixD (.dic ks ds) (encP P) sto = .ok d sto := by
  simp [ixD, dicOf, hk]
/-- the rule's sum -/
def ruleS (p q : List Int) : Int := p.sum + q.sum + (p.map fun x => (q.map fun y => if y < x then y else x).sum).sum
theorem sum_ok {gg : Bool} (xs : List Int) {sto : Sto} : fSum [.lstG gg (xs.map .int)] sto = .ok (.int xs.sum) sto := by
  simp [fSum, lsqOf, lstOf, intsOf_map]
theorem foldl_sum {β : Type} {f : β → Int} : ∀ (xs : List β) (a : Int), xs.foldl (fun a x => a + f x) a = a + (xs.map f).sum
  | [], a => by simp
  | x :: xs, a => by simp only [List.foldl_cons, List.map_cons, List.sum_cons]; rw [foldl_sum xs]; omega
end BB
namespace BB
open PySem L2
/-! Values that compare as what they stand for. -/
structure IsDat {α : Type} [DecidableEq α] (f : α → DV) (g : α → PyData) (n : Nat) : Prop where
  py : ∀ look x, pyW look (f x) = some (g x)
  lay : ∀ x, (g x).canLay0 = true
  dep : ∀ x, (g x).depth ≤ n
  eqv : ∀ x y, PyData.eqv (g x) (g y) = decide (x = y)
section
variable {α β : Type} [DecidableEq α] [DecidableEq β] {f f1 f2 : α → DV} {g : α → PyData} {n : Nat} {sto : Sto}
theorem IsDat.shaped (d : IsDat f g n) (hn : n ≤ 64) (x : α) : SeqAt.shaped (g x) = true := by
  simp [SeqAt.shaped, d.lay x, Nat.le_trans (d.dep x) hn]
theorem dInt : IsDat DV.int PyData.int 0 := ⟨fun _ _ => by simp [pyW], fun _ => by simp [PyData.canLay0], fun _ => by simp [PyData.depth], fun x y => by simp [PyData.eqv]; rfl⟩
theorem dBl : IsDat DV.bl PyData.bool 0 := ⟨fun _ _ => by simp [pyW], fun _ => by simp [PyData.canLay0], fun _ => by simp [PyData.depth], fun x y => by cases x <;> cases y <;> simp [PyData.eqv]⟩
theorem IsDat.pyL (d : IsDat f g n) (look : Nat → Option PyData) : ∀ xs : List α, pyWL look (xs.map f) = some (xs.map g)
  | [] => by simp [pyWL]
  | x :: xs => by simp [pyWL, d.py, d.pyL look xs]
theorem IsDat.layL (d : IsDat f g n) : ∀ xs : List α, PyData.canLayAll0 (xs.map g) = true
  | [] => by simp [PyData.canLayAll0]
  | x :: xs => by simp [PyData.canLayAll0, d.lay, d.layL xs]
theorem IsDat.depL (d : IsDat f g n) : ∀ xs : List α, PyData.depthAll (xs.map g) ≤ n
  | [] => by simp [PyData.depthAll]
  | x :: xs => by simp only [List.map_cons, PyData.depthAll]; exact Nat.max_le.mpr ⟨d.dep x, d.depL xs⟩
theorem IsDat.eqvL (d : IsDat f g n) : ∀ xs ys : List α, PyData.eqvAll (xs.map g) (ys.map g) = decide (xs = ys)
  | [], [] => by simp [PyData.eqvAll]
  | [], y :: ys => by simp [PyData.eqvAll]
  | x :: xs, [] => by simp [PyData.eqvAll]
  | x :: xs, y :: ys => by simp [PyData.eqvAll, d.eqv, d.eqvL xs ys]
theorem IsDat.lst (gg : Bool) (d : IsDat f g n) : IsDat (fun xs : List α => DV.lstG gg (xs.map f)) (fun xs => .list (xs.map g)) (n + 1) :=
  ⟨fun look xs => by simp [pyW, d.pyL], fun xs => by simp [PyData.canLay0, d.layL], fun xs => by simp [PyData.depth]; exact d.depL xs, fun xs ys => by simp [PyData.eqv, d.eqvL]⟩
theorem IsDat.tup (d : IsDat f g n) : IsDat (fun xs : List α => DV.tup (xs.map f)) (fun xs => .tuple (xs.map g)) (n + 1) :=
  ⟨fun look xs => by simp [pyW, d.pyL], fun xs => by simp [PyData.canLay0, d.layL], fun xs => by simp [PyData.depth]; exact d.depL xs, fun xs ys => by simp [PyData.eqv, d.eqvL]⟩
theorem IsDat.of (d : IsDat f g n) (h : β → α) (hi : ∀ x y, h x = h y → x = y) : IsDat (fun x => f (h x)) (fun x => g (h x)) n :=
  ⟨fun look x => d.py look _, fun x => d.lay _, fun x => d.dep _, fun x y => by rw [d.eqv]; exact decide_eq_decide.mpr ⟨hi x y, fun e => e ▸ rfl⟩⟩
theorem oEq_dat (d1 : IsDat f1 g n) (d2 : IsDat f2 g n) (hn : n ≤ 64) (x y : α) : oEq (f1 x) (f2 y) sto = .ok (.bl (decide (x = y))) sto := by
  simp only [oEq, BB.py, d1.py, d2.py, d1.shaped hn, and_self, if_true, d1.eqv]
theorem oNe_dat (d1 : IsDat f1 g n) (d2 : IsDat f2 g n) (hn : n ≤ 64) (x y : α) : oNe (f1 x) (f2 y) sto = .ok (.bl (!decide (x = y))) sto := by
  simp only [oNe, BB.py, d1.py, d2.py, d1.shaped hn, and_self, if_true, d1.eqv]
theorem any_dat (d : IsDat f g n) (x : α) : ∀ xs : List α, ((xs.map g).any fun z => PyData.eqv z (g x)) = decide (x ∈ xs)
  | [] => by simp
  | y :: ys => by
    have := any_dat d x ys
    simp only [List.map_cons, List.any_cons, this, d.eqv, List.mem_cons]
    by_cases h : x = y
    · subst h; simp
    · have h' : ¬ y = x := fun e => h e.symm
      simp [h, h']
theorem oIn_dat {gg : Bool} (d1 : IsDat f1 g n) (d2 : IsDat f2 g n) (hn : n ≤ 63) (x : α) (xs : List α) : oIn (f1 x) (.lstG gg (xs.map f2)) sto = .ok (.bl (decide (x ∈ xs))) sto := by
  have h := (d2.lst gg).py (look2 sto) xs
  have hs := (d2.lst gg).shaped (by omega) xs
  simp only [oIn, BB.py, d1.py, h]
  rw [if_pos ⟨d1.shaped (by omega) x, hs⟩, any_dat d1]
theorem oIn_loc {i : Nat} (d1 : IsDat f1 g n) (d2 : IsDat f2 g n) (hn : n ≤ 63) (x : α) (xs : List α) (hi : sto[i]? = some (.lst (xs.map f2))) : oIn (f1 x) (.loc i) sto = .ok (.bl (decide (x ∈ xs))) sto := by
  have hs := (d2.lst true).shaped (by omega) xs
  have h : pyW (look2 sto) (.loc i) = some (.list (xs.map g)) := by simp [pyW, look2, hi, d2.pyL]
  simp only [oIn, BB.py, d1.py, h]
  rw [if_pos ⟨d1.shaped (by omega) x, hs⟩, any_dat d1]
end
def tI (P : Pc) : List Int := [P.l, P.t, P.r, P.b]
theorem tI_inj (P Q : Pc) (h : tI P = tI Q) : P = Q := by
  obtain ⟨a, b, c, d⟩ := P
  obtain ⟨a', b', c', d'⟩ := Q
  simp [tI] at h
  simp [h]
theorem dP : IsDat encP (fun P => .tuple ((tI P).map .int)) 1 := dInt.tup.of tI tI_inj
theorem dC : IsDat encC (fun c => .tuple ([c.1, c.2].map .int)) 1 := dInt.tup.of (fun c : Int × Int => [c.1, c.2]) fun x y h => by
  simp at h; exact Prod.ext h.1 h.2
/-- a break -/
structure Bk where
  P : Pc
  w : Int
  x : Int
  deriving DecidableEq
def encBk (k : Bk) : DV := .tup [.int k.P.l, .int k.P.t, .int k.P.r, .int k.P.b, .int k.w, .int k.x]
theorem dBk : IsDat encBk (fun k => .tuple ((tI k.P ++ [k.w, k.x]).map .int)) 1 := dInt.tup.of (fun k : Bk => tI k.P ++ [k.w, k.x]) fun x y h => by
  obtain ⟨P, w, z⟩ := x
  obtain ⟨P', w', z'⟩ := y
  simp [tI] at h
  simp [tI_inj P P' (by simp [tI, h]), h]
@[simp] theorem noLoc_encBk (k : Bk) : noLoc (encBk k) = true := by simp [encBk]
@[simp] theorem clean_encBk (k : Bk) : clean (encBk k) = true := by simp [encBk]
@[simp] theorem cleanL_encBk (ns : List Bk) : cleanL (ns.map encBk) = true := cleanL_map (fun _ => by simp) ns
@[simp] theorem noLocL_encBk (ns : List Bk) : noLocL (ns.map encBk) = true := noLocL_map (fun _ => by simp) ns
theorem oEq_nil {α : Type} {f : α → DV} {g : α → PyData} {n : Nat} (hn : n ≤ 63) (h1 : ∀ look x, pyW look (f x) = some (g x)) (h2 : ∀ x, (g x).canLay0 = true) (h3 : ∀ x, (g x).depth ≤ n) {gg g2 : Bool} (xs : List α) (sto : Sto) : oEq (.lstG gg (xs.map f)) (.lstG g2 []) sto = .ok (.bl (decide (xs = []))) sto ∧ oNe (.lstG gg (xs.map f)) (.lstG g2 []) sto = .ok (.bl (!decide (xs = []))) sto := by
  have p1 : ∀ look (xs : List α), pyWL look (xs.map f) = some (xs.map g) := fun look xs => by
    induction xs with
    | nil => simp [pyWL]
    | cons x xs ih => simp [pyWL, h1, ih]
  have p2 : ∀ (xs : List α), PyData.canLayAll0 (xs.map g) = true := fun xs => by
    induction xs with
    | nil => simp [PyData.canLayAll0]
    | cons x xs ih => simp [PyData.canLayAll0, h2, ih]
  have p3 : ∀ (xs : List α), PyData.depthAll (xs.map g) ≤ n := fun xs => by
    induction xs with
    | nil => simp [PyData.depthAll]
    | cons x xs ih => simp only [List.map_cons, PyData.depthAll]; exact Nat.max_le.mpr ⟨h3 x, ih⟩
  have s1 : SeqAt.shaped (.list (xs.map g)) = true := by
    have := p3 xs
    simp [SeqAt.shaped, PyData.canLay0, PyData.depth, p2]; omega
  have s2 : SeqAt.shaped (.list []) = true := by simp [SeqAt.shaped, PyData.canLay0, PyData.canLayAll0, PyData.depth, PyData.depthAll]
  have e1 : pyW (look2 sto) (.lstG gg (xs.map f)) = some (.list (xs.map g)) := by simp [pyW, p1]
  have e2 : pyW (look2 sto) (.lstG g2 []) = some (.list []) := by simp [pyW, pyWL]
  have e3 : PyData.eqv (.list (xs.map g)) (.list []) = decide (xs = []) := by cases xs <;> simp [PyData.eqv, PyData.eqvAll]
  simp only [oEq, oNe, py, e1, e2, s1, s2, and_self, if_true, e3]
end BB
namespace BB
open PySem L2
variable {tg : Tg}
local macro_rules | `(tactic| walk_at "ev") => `(tactic| simp [sRet, sSeq, sIf, sAsg, sPar, sExpr, sNever, sNil, sAug, tBl, tAnd, tOr, tNot, eTup, eLst, aCons, aNil, eC, eOp, eUn, uNeg, eCB, eCallT, liftP, lend_id, eIx, eSl, pSome, pNone, eVar, eAnd, eOr, eNot, eIf, eChain, fLen, fIsi, tyD, seqOf, lstOf, ixD, dicOf, atI, ixN, oAdd, oSub, oLt, oLe, oGt, oAddI, bindP, bindPs, kb_int_int, kb_int_bool, kb_list_list, kb_tuple_tuple, iSeq, srcOf, iRange1, iRange2])
def isBk (Ps : List Pc) (k : Bk) : Bool := decide (k.P ∈ Ps) && decide ((k.w, k.x) ∈ linesD k.P)
def lePc (P Q : Pc) : Bool := PySem.W.dataLe false encD (encP P) (encP Q)
def brk (Ps : List Pc) (k : Bk) : List Pc := (Ps.filter (fun P => !decide (P = k.P)) ++ [part1 k.P k.w k.x, part2 k.P k.w k.x]).mergeSort lePc
theorem cut4 (k : Bk) : slD false (encBk k) none (some 4) = fun sto => .ok (encP k.P) sto := rfl
theorem bk4 (k : Bk) (sto : Sto) : ixD (encBk k) (.int 4) sto = .ok (.int k.w) sto := rfl
theorem bk5 (k : Bk) (sto : Sto) : ixD (encBk k) (.int 5) sto = .ok (.int k.x) sto := rfl
theorem enc_P (P : Pc) : encD (encP P) = .tuple [.int P.l, .int P.t, .int P.r, .int P.b] := by simp [encD, encP, pyW, pyWL]
theorem sort_P {b : Bool} {xs : List Pc} {sto : Sto} (hl : xs.length ≤ 1000000) : fSorted b [.lst (xs.map encP)] sto = newL b ((xs.mergeSort lePc).map encP) sto :=
  fSorted_map (f := encP) (by intro x; simp [encP, pyW, pyWL]) (by intro x y; simp [enc_P, PySem.W.alike, PySem.W.alikeAll]) (by intro x; simp [enc_P, isTup1]) (by intro x; simp [enc_P, PyData.depth, PyData.depthAll]) hl
theorem add_lst {g1 g2 : Bool} {xs ys : List DV} {sto : Sto} (h : xs.length + ys.length ≤ 1000000) : oAdd false (.lstG g1 xs) (.lstG g2 ys) sto = .ok (.lst (xs ++ ys)) sto := by
  simp [oAdd, lstOf, h]
def courseF : List Pc → Nat → List Bk → List Pc × Int
  | Ps, _, [] => (Ps, -1)
  | Ps, i, k :: ks => if isBk Ps k = true then courseF (brk Ps k) (i + 1) ks else (Ps, i)
theorem brk_perm (Ps : List Pc) (k : Bk) : (brk Ps k).Perm (Ps.filter (fun P => !decide (P = k.P)) ++ [part1 k.P k.w k.x, part2 k.P k.w k.x]) := List.mergeSort_perm _ _
theorem brk_mem {B : Bar} {Ps : List Pc} {k : Bk} (h : ∀ P ∈ Ps, P ∈ allP B) (hb : isBk Ps k = true) : ∀ P ∈ brk Ps k, P ∈ allP B := by
  intro P hP
  rw [(brk_perm Ps k).mem_iff] at hP
  simp only [isBk, Bool.and_eq_true, decide_eq_true_eq] at hb
  have := part_mem (h _ hb.1) hb.2
  simp only [List.mem_append, List.mem_filter, List.mem_cons, List.not_mem_nil, or_false] at hP
  rcases hP with hP | rfl | rfl
  · exact h _ hP.1
  · exact this.1
  · exact this.2
theorem brk_len (Ps : List Pc) (k : Bk) : (brk Ps k).length ≤ Ps.length + 2 := by
  rw [(brk_perm Ps k).length_eq]
  have := List.length_filter_le (fun P => !decide (P = k.P)) Ps
  simp; omega
theorem course_sign : ∀ (ks : List Bk) (Ps : List Pc) (i : Nat), (courseF Ps i ks).2 = -1 ∨ 0 ≤ (courseF Ps i ks).2
  | [], Ps, i => .inl rfl
  | k :: ks, Ps, i => by
    unfold courseF
    split
    · exact course_sign ks _ _
    · right; simp
/-- where a plan fails -/
def outF (B : Bar) (m : Int) (ks : List Bk) : Int :=
  if 0 ≤ (courseF [wholeP B] 0 ks).2 then (courseF [wholeP B] 0 ks).2 else if ((courseF [wholeP B] 0 ks).1.all fun P => decide (cnt B P ≤ m)) = true then -1 else ks.length
theorem course_len : ∀ (ks : List Bk) (Ps : List Pc) (i : Nat), (courseF Ps i ks).1.length ≤ Ps.length + 2 * ks.length
  | [], Ps, i => by simp [courseF]
  | k :: ks, Ps, i => by
    unfold courseF
    split
    · have := course_len ks (brk Ps k) (i + 1)
      have := brk_len Ps k
      simp only [List.length_cons]; omega
    · simp only [List.length_cons]; omega
theorem fAll_map {β : Type} {c : β → Bool} (xs : List β) {sto : Sto} : fAll [.lst (xs.map fun x => .bl (c x))] sto = .ok (.bl (xs.all c)) sto := by
  have h := blsOf_map (xs.map c)
  rw [List.map_map] at h
  have e : (xs.map fun x => DV.bl (c x)) = xs.map (DV.bl ∘ c) := rfl
  simp only [fAll, lsqOf, lstOf, e, Option.bind_some, h]
  simp [List.all_map]
theorem fAny_map {β : Type} {c : β → Bool} (xs : List β) {sto : Sto} : fAny [.lst (xs.map fun x => .bl (c x))] sto = .ok (.bl (xs.any c)) sto := by
  have h := blsOf_map (xs.map c)
  rw [List.map_map] at h
  have e : (xs.map fun x => DV.bl (c x)) = xs.map (DV.bl ∘ c) := rfl
  simp only [fAny, lsqOf, lstOf, e, Option.bind_some, h]
  simp [List.any_map]
end BB
namespace BB
open PySem L2
/-! The least cost and the count, as least and as sum. -/
theorem price_b {B : Bar} (o : OkBar B) {P : Pc} (hP : P ∈ allP B) {y : Int × Int} (hy : y ∈ linesD P) : 1 ≤ price B y.1 y.2 ∧ price B y.1 y.2 ≤ 9 := by
  have h := line_ok hP hy
  have key : ∀ xs : List Int, (∀ x ∈ xs, 1 ≤ x ∧ x ≤ 9) → y.2 ≤ xs.length → 1 ≤ xs.getD (y.2 - 1).toNat 0 ∧ xs.getD (y.2 - 1).toNat 0 ≤ 9 := by
    intro xs hx hl
    have hl' : (y.2 - 1).toNat < xs.length := by omega
    have : xs.getD (y.2 - 1).toNat 0 = xs[(y.2 - 1).toNat] := by rw [List.getD_eq_getElem?_getD, List.getElem?_eq_getElem hl']; rfl
    rw [this]
    exact hx _ (List.getElem_mem hl')
  unfold price
  split
  · rename_i e; rw [if_pos e] at h; exact key B.p o.pv h.2.2
  · rename_i e; rw [if_neg e] at h; exact key B.q o.qv h.2.2
theorem ltC_nodup {ns : List (Int × Int)} (h : ns.Pairwise ltC) : ns.Nodup := h.imp fun {a b} h z => by
  subst z
  rcases h with h | h <;> omega
theorem one_cell {B : Bar} (o : OkBar B) {P : Pc} (h1 : P.r ≤ P.l + 1) (h2 : P.b ≤ P.t + 1) : cnt B P ≤ 1 := by
  have hn : (B.nuts.filter (inP P)).Nodup := List.Pairwise.filter _ (ltC_nodup o.up)
  have hs : B.nuts.filter (inP P) ⊆ [(P.l, P.t)] := fun c hc => by
    have := (List.mem_filter.mp hc).2
    simp only [inP, Bool.and_eq_true, decide_eq_true_eq] at this
    simp only [List.mem_singleton]
    exact Prod.ext (by omega) (by omega)
  have := List.Nodup.length_le_of_subset hn hs
  simp only [List.length_singleton] at this
  unfold cnt
  omega
theorem lines_ne {B : Bar} (o : OkBar B) {m : Int} (hm : 1 ≤ m) {P : Pc} (hP : P ∈ allP B) (hc : m < cnt B P) : linesD P ≠ [] := by
  intro z
  have hl := lines_len P
  rw [z] at hl
  have := one_cell o (P := P) (by simp at hl; omega) (by simp at hl; omega)
  omega
theorem area_pos {B : Bar} {P : Pc} (hP : P ∈ allP B) : 0 < area P := by
  have := mem_allP.mp hP
  exact Nat.mul_pos (by omega) (by omega)
theorem addW_best {a : Int × Int} {c w : Int} (hc : 0 ≤ c) : 0 ≤ (addW a c w).1 ∧ (addW a c w).1 ≤ c := by
  by_cases e : a.1 < 0 ∨ c < a.1
  · simp only [addW, if_pos e, if_true]; omega
  · simp only [addW, if_neg e]; split
    · dsimp only; omega
    · omega
/-- the least of a fold -/
theorem fold_least {β : Type} {g w : β → Int} : ∀ (ys : List β) (a : Int × Int), (∀ y ∈ ys, 0 ≤ g y) → (a.1 < 0 → ys ≠ []) →
    (∀ y ∈ ys, (ys.foldl (fun a y => addW a (g y) (w y)) a).1 ≤ g y) ∧ (0 ≤ a.1 → (ys.foldl (fun a y => addW a (g y) (w y)) a).1 ≤ a.1) ∧ ((0 ≤ a.1 ∧ (ys.foldl (fun a y => addW a (g y) (w y)) a).1 = a.1) ∨ ∃ y ∈ ys, (ys.foldl (fun a y => addW a (g y) (w y)) a).1 = g y)
  | [], a, _, h => by
    by_cases e : a.1 < 0
    · exact absurd rfl (h e)
    · simp; omega
  | y :: ys, a, hg, h => by
    have hy := hg y (by simp)
    have hb := addW_best (a := a) (c := g y) (w := w y) hy
    have ih := fold_least (g := g) (w := w) ys (addW a (g y) (w y)) (fun z hz => hg z (by simp [hz])) (fun z => by omega)
    have hv : (0 ≤ a.1 ∧ (addW a (g y) (w y)).1 = a.1 ∧ a.1 ≤ g y) ∨ ((addW a (g y) (w y)).1 = g y ∧ (0 ≤ a.1 → g y ≤ a.1)) := by
      by_cases e : a.1 < 0 ∨ g y < a.1
      · right
        simp only [addW, if_pos e, if_true]
        exact ⟨trivial, fun _ => by omega⟩
      · left
        simp only [addW, if_neg e]
        split
        · dsimp only; omega
        · omega
    simp only [List.foldl_cons]
    have ih2 := ih.2.1 hb.1
    refine ⟨fun z hz => ?_, fun ha => ?_, ?_⟩
    · rcases List.mem_cons.mp hz with rfl | hz
      · omega
      · exact ih.1 z hz
    · omega
    · rcases ih.2.2 with ⟨_, e⟩ | ⟨z, hz, e⟩
      · rcases hv with ⟨v1, v2, _⟩ | ⟨v1, _⟩
        · exact .inl ⟨v1, by omega⟩
        · exact .inr ⟨y, by simp, by omega⟩
      · exact .inr ⟨z, by simp [hz], e⟩
/-- the dearest line -/
theorem dearest {β : Type} (f : β → Int) : ∀ (xs : List β), xs ≠ [] → ∃ x ∈ xs, ∀ z ∈ xs, f z ≤ f x
  | [], h => absurd rfl h
  | [x], _ => ⟨x, by simp, by simp⟩
  | x :: y :: xs, _ => by
    obtain ⟨z, hz, h⟩ := dearest f (y :: xs) (by simp)
    by_cases e : f z ≤ f x
    · refine ⟨x, by simp, fun u hu => ?_⟩
      rcases List.mem_cons.mp hu with rfl | hu
      · omega
      · have := h u hu; omega
    · refine ⟨z, List.mem_cons_of_mem _ hz, fun u hu => ?_⟩
      rcases List.mem_cons.mp hu with rfl | hu
      · omega
      · exact h u hu
theorem fold_sum {β : Type} {g w : β → Int} : ∀ (ys : List β) (a : Int × Int), (∀ y ∈ ys, 0 ≤ g y) → (0 ≤ a.1 ∨ a.2 = 0) →
    (ys.foldl (fun a y => addW a (g y) (w y)) a).2 = (if a.1 = (ys.foldl (fun a y => addW a (g y) (w y)) a).1 then a.2 else 0) + ((ys.filter fun y => decide (g y = (ys.foldl (fun a y => addW a (g y) (w y)) a).1)).map w).sum
  | [], a, _, _ => by simp
  | y :: ys, a, hg, ha => by
    have hy := hg y (by simp)
    have hb := addW_best (a := a) (c := g y) (w := w y) hy
    have ih := fold_sum (g := g) (w := w) ys (addW a (g y) (w y)) (fun z hz => hg z (by simp [hz])) (.inl hb.1)
    have hle := (fold_least (g := g) (w := w) ys (addW a (g y) (w y)) (fun z hz => hg z (by simp [hz])) (fun z => by omega)).2.1 hb.1
    rw [List.foldl_cons]
    generalize ys.foldl (fun a y => addW a (g y) (w y)) (addW a (g y) (w y)) = r at ih hle ⊢
    rw [ih, List.filter_cons]
    by_cases e : a.1 < 0 ∨ g y < a.1
    · have ea : addW a (g y) (w y) = (g y, w y) := by simp [addW, e]
      rw [ea] at hle ⊢
      have h0 : (if a.1 = r.1 then a.2 else 0) = 0 := by
        split
        · rcases e with e | e
          · rcases ha with ha | ha
            · omega
            · exact ha
          · simp only at hle; omega
        · rfl
      rw [h0]
      by_cases h : g y = r.1
      · simp [h]
      · simp [h]
    · by_cases ec : g y = a.1
      · have ea : addW a (g y) (w y) = (a.1, a.2 + w y) := by simp only [addW, if_neg e, if_pos ec]
        rw [ea]
        simp only
        by_cases h : a.1 = r.1
        · have h' : g y = r.1 := by omega
          simp [h, h']; omega
        · have h' : ¬ g y = r.1 := by omega
          simp [h, h']
      · have ea : addW a (g y) (w y) = a := by simp only [addW, if_neg e, if_neg ec]
        rw [ea] at hle ⊢
        have h' : ¬ g y = r.1 := by omega
        simp [h']
/-- what breaking along a line costs -/
def gC (B : Bar) (m : Int) (P : Pc) (y : Int × Int) : Int := price B y.1 y.2 + (cw B m (part1 P y.1 y.2)).1 + (cw B m (part2 P y.1 y.2)).1
def gW (B : Bar) (m : Int) (P : Pc) (y : Int × Int) : Int := (cw B m (part1 P y.1 y.2)).2 * (cw B m (part2 P y.1 y.2)).2
theorem cw_fold {B : Bar} {m : Int} {P : Pc} (h : m < cnt B P) : cw B m P = (linesD P).foldl (fun a y => addW a (gC B m P y) (gW B m P y)) (-1, 0) := by
  rw [cw_eq, if_pos h]; rfl
theorem cw_small {B : Bar} {m : Int} {P : Pc} (h : cnt B P ≤ m) : cw B m P = (0, 1) := by
  rw [cw_eq, if_neg (by omega)]
theorem cost_nonneg {B : Bar} (o : OkBar B) {m : Int} (hm : 1 ≤ m) (P : Pc) : P ∈ allP B → 0 ≤ (cw B m P).1 := by
  refine pc_ind (M := fun P => P ∈ allP B → 0 ≤ (cw B m P).1) (fun P ih hP => ?_) P
  by_cases h : m < cnt B P
  · have hg : ∀ y ∈ linesD P, 0 ≤ gC B m P y := fun y hy => by
      have := part_mem hP hy
      have := (ih y hy).1 this.1
      have := (ih y hy).2 (part_mem hP hy).2
      have := price_b o hP hy
      unfold gC; omega
    have := (fold_least (g := gC B m P) (w := gW B m P) (linesD P) (-1, 0) hg (fun _ => lines_ne o hm hP h)).2.2
    rw [cw_fold h]
    rcases this with ⟨z, _⟩ | ⟨y, hy, e⟩
    · simp at z
    · rw [e]; exact hg y hy
  · rw [cw_small (by omega)]; simp
theorem gC_nonneg {B : Bar} (o : OkBar B) {m : Int} (hm : 1 ≤ m) {P : Pc} (hP : P ∈ allP B) {y : Int × Int} (hy : y ∈ linesD P) : 1 ≤ gC B m P y := by
  have := part_mem hP hy
  have := cost_nonneg o hm _ this.1
  have := cost_nonneg o hm _ (part_mem hP hy).2
  have := price_b o hP hy
  unfold gC; omega
theorem cw_le {B : Bar} (o : OkBar B) {m : Int} (hm : 1 ≤ m) {P : Pc} (hP : P ∈ allP B) (h : m < cnt B P) {y : Int × Int} (hy : y ∈ linesD P) : (cw B m P).1 ≤ gC B m P y := by
  rw [cw_fold h]
  exact (fold_least (g := gC B m P) (w := gW B m P) (linesD P) (-1, 0) (fun y hy => by have := gC_nonneg o hm hP hy; omega) (fun _ => lines_ne o hm hP h)).1 y hy
theorem cw_ex {B : Bar} (o : OkBar B) {m : Int} (hm : 1 ≤ m) {P : Pc} (hP : P ∈ allP B) (h : m < cnt B P) : ∃ y ∈ linesD P, (cw B m P).1 = gC B m P y := by
  have := (fold_least (g := gC B m P) (w := gW B m P) (linesD P) (-1, 0) (fun y hy => by have := gC_nonneg o hm hP hy; omega) (fun _ => lines_ne o hm hP h)).2.2
  rw [cw_fold h]
  rcases this with ⟨z, _⟩ | ⟨y, hy, e⟩
  · simp at z
  · exact ⟨y, hy, e⟩
theorem cw_sum {B : Bar} (o : OkBar B) {m : Int} (hm : 1 ≤ m) {P : Pc} (hP : P ∈ allP B) (h : m < cnt B P) : (cw B m P).2 = (((linesD P).filter fun y => decide (gC B m P y = (cw B m P).1)).map (gW B m P)).sum := by
  have := fold_sum (g := gC B m P) (w := gW B m P) (linesD P) (-1, 0) (fun y hy => by have := gC_nonneg o hm hP hy; omega) (.inr rfl)
  rw [← cw_fold h] at this
  rw [this]
  simp
theorem sum_pos {β : Type} {w : β → Int} : ∀ {xs : List β}, (∀ x ∈ xs, 1 ≤ w x) → 0 ≤ (xs.map w).sum ∧ (xs ≠ [] → 1 ≤ (xs.map w).sum)
  | [], _ => by simp
  | x :: xs, h => by
    have h1 := h x (by simp)
    have := (sum_pos (xs := xs) fun y hy => h y (by simp [hy])).1
    simp only [List.map_cons, List.sum_cons]
    refine ⟨by omega, fun _ => by omega⟩
theorem ways_pos {B : Bar} (o : OkBar B) {m : Int} (hm : 1 ≤ m) (P : Pc) : P ∈ allP B → 1 ≤ (cw B m P).2 := by
  refine pc_ind (M := fun P => P ∈ allP B → 1 ≤ (cw B m P).2) (fun P ih hP => ?_) P
  by_cases h : m < cnt B P
  · rw [cw_sum o hm hP h]
    refine (sum_pos (w := gW B m P) fun y hy => ?_).2 ?_
    · have hy := (List.mem_filter.mp hy).1
      have h1 := (ih y hy).1 (part_mem hP hy).1
      have h2 := (ih y hy).2 (part_mem hP hy).2
      have := Int.mul_le_mul h1 h2 (by omega) (by omega)
      unfold gW; omega
    · obtain ⟨y, hy, e⟩ := cw_ex o hm hP h
      exact List.ne_nil_of_mem (List.mem_filter.mpr ⟨hy, by simp [e]⟩)
  · rw [cw_small (by omega)]; simp
end BB
namespace BB
open PySem L2
variable {tg : Tg}
/-- the breaks of a number -/
def pickW (f : Pc → Int → List Bk) (B : Bar) (m : Int) (P : Pc) : List (Int × Int) → Int → List Bk
  | [], _ => []
  | y :: ys, n => if gC B m P y = (cw B m P).1 then
      (if n < gW B m P y then [⟨P, y.1, y.2⟩] ++ f (part1 P y.1 y.2) (n / (cw B m (part2 P y.1 y.2)).2) ++ f (part2 P y.1 y.2) (n % (cw B m (part2 P y.1 y.2)).2) else pickW f B m P ys (n - gW B m P y))
    else pickW f B m P ys n
def wayF (B : Bar) (m : Int) : Nat → Pc → Int → List Bk
  | 0, _, _ => []
  | k + 1, P, n => if cnt B P ≤ m then [] else pickW (wayF B m k) B m P (linesD P) n
theorem pick_len {f : Pc → Int → List Bk} {B : Bar} {m : Int} {P : Pc} (hP : P ∈ allP B) (hf : ∀ y ∈ linesD P, ∀ n, (f (part1 P y.1 y.2) n).length + 1 ≤ area (part1 P y.1 y.2) ∧ (f (part2 P y.1 y.2) n).length + 1 ≤ area (part2 P y.1 y.2)) : ∀ (ys : List (Int × Int)) (n : Int), (∀ y ∈ ys, y ∈ linesD P) → (pickW f B m P ys n).length + 1 ≤ area P
  | [], n, _ => by
    have := mem_allP.mp hP
    have : 0 < area P := Nat.mul_pos (by omega) (by omega)
    simp [pickW]; omega
  | y :: ys, n, h => by
    have hm := mem_allP.mp hP
    have hy := h y (by simp)
    have := area_part (by omega) (by omega) hy
    have h1 := (hf y hy (n / (cw B m (part2 P y.1 y.2)).2)).1
    have h2 := (hf y hy (n % (cw B m (part2 P y.1 y.2)).2)).2
    unfold pickW
    split
    · split
      · simp only [List.length_append, List.length_singleton]; omega
      · exact pick_len hP hf ys _ fun z hz => h z (by simp [hz])
    · exact pick_len hP hf ys _ fun z hz => h z (by simp [hz])
theorem way_len (B : Bar) (m : Int) : ∀ (k : Nat) (P : Pc) (n : Int), P ∈ allP B → (wayF B m k P n).length + 1 ≤ area P
  | 0, P, n, hP => by
    have := area_pos hP
    simp [wayF]; omega
  | k + 1, P, n, hP => by
    have := area_pos hP
    unfold wayF
    split
    · simp; omega
    · exact pick_len hP (fun y hy n => ⟨way_len B m k _ n (part_mem hP hy).1, way_len B m k _ n (part_mem hP hy).2⟩) _ _ fun _ h => h
def dC' (B : Bar) (m : Int) : DV := .dic ((byS B).map tk) ((byS B).map (vC B m))
def dW' (B : Bar) (m : Int) : DV := .dic ((byS B).map tk) ((byS B).map (vW B m))
def encK (B : Bar) (m : Int) : DV := .tup [dC' B m, dW' B m]
@[simp] theorem noLoc_dC (B : Bar) (m : Int) : noLoc (dC' B m) = true := by simp [dC', noLocL_map (f := vC B m) (fun _ => by simp [vC])]
@[simp] theorem noLoc_dW (B : Bar) (m : Int) : noLoc (dW' B m) = true := by simp [dW', noLocL_map (f := vW B m) (fun _ => by simp [vW])]
@[simp] theorem noLoc_encK (B : Bar) (m : Int) : noLoc (encK B m) = true := by simp [encK]
@[simp] theorem clean_dC (B : Bar) (m : Int) : clean (dC' B m) = true := by simp [dC', cleanL_map (f := vC B m) (fun _ => by simp [vC])]
@[simp] theorem clean_dW (B : Bar) (m : Int) : clean (dW' B m) = true := by simp [dW', cleanL_map (f := vW B m) (fun _ => by simp [vW])]
theorem ix_dC {B : Bar} {m : Int} {P : Pc} (h : P ∈ allP B) (sto : Sto) : ixD (dC' B m) (encP P) sto = .ok (.int (cw B m P).1) sto := ix_dic (look_map ((byS_perm B).mem_iff.mpr h))
theorem ix_dW {B : Bar} {m : Int} {P : Pc} (h : P ∈ allP B) (sto : Sto) : ixD (dW' B m) (encP P) sto = .ok (.int (cw B m P).2) sto := ix_dic (look_map ((byS_perm B).mem_iff.mpr h))
theorem cat6 (P : Pc) (y : Int × Int) (sto : Sto) : oAdd false (encP P) (.tup [.int y.1, .int y.2]) sto = .ok (encBk ⟨P, y.1, y.2⟩) sto := by
  simp [oAdd, lstOf, encP, encBk]
theorem add_l {xs ys : List DV} {sto : Sto} (h : xs.length + ys.length ≤ 1000000) : oAdd false (.lst xs) (.lst ys) sto = .ok (.lst (xs ++ ys)) sto := by
  simp [oAdd, lstOf, h]
def wayW (B : Bar) (m : Int) : List Bk := wayF B m 10 (wholeP B) 0
def bnds (B : Bar) (m : Int) : List Int := (allP B).map fun P => (cw B m P).1
end BB
namespace BB
open PySem L2
variable {tg : Tg}
theorem get_end (s : Sto) (x : DO) : (s ++ [x])[s.length]? = some x := by simp
theorem set_end (s : Sto) (x y : DO) : (s ++ [x]).set s.length y = s ++ [y] := by simp
/-- an object lent -/
theorem lend_ins {sto : Sto} {n c : Nat} {ns : List Str} {fs ds : List DV} (h : sto[n]? = some (.ins c ns fs)) (h1 : noLocL fs = true) (h2 : noLocL ds = true) : lend sto (.loc n :: ds) = some (.insG true c ns fs :: ds) := by
  simp [lend, frzWL, frzW, flk, flookW, h, lendWL_id _ fs h1, lendWL_id _ ds h2]
theorem eMeth_ok {alts : List (Nat × TF)} {mm : Str} {o : EM} {t : AM} {env : Env} {sto s1 s2 : Sto} {n c : Nat} {ns : List Str} {fs ds : List DV} {G : List DV → PR} {D : DV} (ho : o env sto = .ok (.loc n) s1) (h1 : s1[n]? = some (.ins c ns fs)) (hm : mm ∉ ns) (ha : altOf alts c = some (liftP G)) (ht : t env s1 = .ok ds s2) (h2 : s2[n]? = some (.ins c ns fs)) (hf : noLocL fs = true) (hd : noLocL ds = true) (hG : G (.insG true c ns fs :: ds) = .ok D) : eMeth alts mm o t env sto = .ok D s2 := by
  simp [eMeth, ho, insOf, h1, hm, ha, ht, liftP, lend_ins h2 hf hd, hG]
theorem eFld_ok {F : Nat → List Str} {f : Str} {o : EM} {env : Env} {sto s1 : Sto} {n c : Nat} {ns : List Str} {fs : List DV} {d : DV} (ho : o env sto = .ok (.loc n) s1) (h1 : s1[n]? = some (.ins c ns fs)) (hf : f ∈ F c) (hd : lookK ns fs f = some d) : eFld F f o env sto = .ok d s1 := by
  simp [eFld, ho, fldD, insOf, h1, hf, hd]
theorem eFld_ins {F : Nat → List Str} {f : Str} {o : EM} {env : Env} {sto s1 : Sto} {g : Bool} {c : Nat} {ns : List Str} {fs : List DV} {d : DV} (ho : o env sto = .ok (.insG g c ns fs) s1) (hf : f ∈ F c) (hd : lookK ns fs f = some d) : eFld F f o env sto = .ok d s1 := by
  simp [eFld, ho, fldD, insOf, hf, hd]
theorem sFld_end {F : Nat → List Str} {f : Str} {o m : EM} {env : Env} {s : Sto} {c : Nat} {ns : List Str} {fs : List DV} {d : DV} (hm : m env (s ++ [.ins c ns fs]) = .ok d (s ++ [.ins c ns fs])) (ho : o env (s ++ [.ins c ns fs]) = .ok (.loc s.length) (s ++ [.ins c ns fs])) (hf : f ∈ F c) (hn : ns.length < 1000) : sFld F f o m env (s ++ [.ins c ns fs]) = .nx env (s ++ [.ins c (putKs ns f) (putDs ns fs f d)]) := by
  simp [sFld, hm, ho, putFld, hf, hn]
theorem eMake_ok {c : Nat} {T : TF} {t : AM} {env : Env} {sto s : Sto} {ds : List DV} {ob : DO} (ht : t env sto = .ok ds s) (hT : T (.loc s.length :: ds) (s ++ [.ins c [] []]) = .ok .non (s ++ [ob])) : eMake c T t env sto = .ok (.loc s.length) (s ++ [ob]) := by
  simp [eMake, ht, hT]
theorem runT_nx {n : Nat} {N : List Str} {m : SM} {ds : List DV} {e : Env} {sto s : Sto} (hl : ds.length = n) (h : m (startE N ds) sto = .nx e s) : runT n N m ds sto = .ok .non s := by
  unfold runT
  rw [if_pos hl, h]
  rfl
theorem runT_rt {n : Nat} {N : List Str} {m : SM} {ds : List DV} {d : DV} {sto s : Sto} (hl : ds.length = n) (h : m (startE N ds) sto = .rt d s) : runT n N m ds sto = .ok d s := by
  unfold runT
  rw [if_pos hl, h]
  rfl
theorem eCallT_ok {T : TF} {t : AM} {env : Env} {sto s s2 : Sto} {ds : List DV} {D : DV} (h : t env sto = .ok ds s) (hT : T ds s = .ok D s2) : eCallT T t env sto = .ok D s2 := by simp [eCallT, h, hT]
end BB
namespace BB
open PySem L2
/-! Comprehensions and loops over lists of the store. -/
section
variable {β : Type} {src : Src} {p : Pat} {test : TM} {elt : EM} {env : Env} {enc : β → DV} {b : β → Bool} {Y : β → DV} {s : Sto} {ys : List β}
theorem compM_keep (hv : src.view s = some (ys.map enc)) (h : ∀ y ∈ ys, ∃ e1, bindP p (enc y) env = some e1 ∧ test e1 s = .ok (b y) s ∧ (b y = true → elt e1 s = .ok (Y y) s)) : ∀ (f i : Nat) (acc : List DV), ys.length ≤ f + i → acc.length + (ys.drop i).length ≤ 1000000 →
    compM src p test elt env f i acc s = .ok (acc ++ ((ys.drop i).filter b).map Y) s
  | 0, i, acc, hf, _ => by
    have e : (ys.map enc)[i]? = none := List.getElem?_eq_none_iff.mpr (by simp; omega)
    rw [List.drop_of_length_le (by omega)]
    simp [compM, hv, e, -List.getElem?_map]
  | f + 1, i, acc, hf, hl => by
    by_cases hi : i < ys.length
    · have e : (ys.map enc)[i]? = some (enc ys[i]) := by simp [hi]
      obtain ⟨e1, h1, h2, h3⟩ := h ys[i] (List.getElem_mem hi)
      have hd : ys.drop i = ys[i] :: ys.drop (i + 1) := List.drop_eq_getElem_cons hi
      rw [hd] at hl ⊢
      simp only [List.length_cons] at hl
      simp only [compM, hv, e, h1, h2]
      cases hb : b ys[i] with
      | false =>
        simp only [List.filter_cons, hb, Bool.false_eq_true, if_false]
        exact compM_keep hv h f (i + 1) acc (by omega) (by omega)
      | true =>
        simp only [h3 hb, List.filter_cons, hb, if_true]
        rw [if_pos (by omega), compM_keep hv h f (i + 1) (acc ++ [Y ys[i]]) (by omega) (by simp only [List.length_append, List.length_singleton]; omega)]
        simp
    · have e : (ys.map enc)[i]? = none := List.getElem?_eq_none_iff.mpr (by simp; omega)
      rw [List.drop_of_length_le (by omega)]
      simp [compM, hv, e, -List.getElem?_map]
end
theorem comp_live {β : Type} {bb : Bool} {own : List Nat} {it : IM} {p : Pat} {test : TM} {elt : EM} {env : Env} {enc : β → DV} {b : β → Bool} {Y : β → DV} {sto s : Sto} {ys : List β} {n : Nat} (hi : it env sto = .ok (.live n) s) (hn : s[n]? = some (.lst (ys.map enc))) (hl : ys.length ≤ 1000000)
    (h : ∀ y ∈ ys, ∃ e1, bindP p (enc y) (wipeE env own) = some e1 ∧ test e1 s = .ok (b y) s ∧ (b y = true → elt e1 s = .ok (Y y) s)) : eComp bb own it p test elt env sto = newL bb ((ys.filter b).map Y) s := by
  unfold eComp
  rw [hi]
  have hv : (Src.live n).view s = some (ys.map enc) := by simp [Src.view, hn]
  simp only [Res.bind_ok]
  rw [compM_keep hv h _ 0 [] (by simp [Src.len, hv]) (by simpa using hl)]
  simp
theorem comp_live_map {β : Type} {bb : Bool} {own : List Nat} {it : IM} {p : Pat} {elt : EM} {env : Env} {enc : β → DV} {Y : β → DV} {sto s : Sto} {ys : List β} {n : Nat} (hi : it env sto = .ok (.live n) s) (hn : s[n]? = some (.lst (ys.map enc))) (hl : ys.length ≤ 1000000)
    (h : ∀ y ∈ ys, ∃ e1, bindP p (enc y) (wipeE env own) = some e1 ∧ elt e1 s = .ok (Y y) s) : eComp bb own it p tYes1 elt env sto = newL bb (ys.map Y) s := by
  rw [comp_live (b := fun _ => true) (Y := Y) hi hn hl fun y hy => by
    obtain ⟨e1, h1, h2⟩ := h y hy
    exact ⟨e1, h1, rfl, fun _ => h2⟩]
  have e : ys.filter (fun _ => true) = ys := List.filter_eq_self.mpr (by simp)
  rw [e]
theorem iSeq_live {m : EM} {env : Env} {sto s : Sto} {n : Nat} {ds : List DV} (h : m env sto = .ok (.loc n) s) (hn : s[n]? = some (.lst ds)) : iSeq m env sto = .ok (.live n) s := by simp [iSeq, h, srcOf, hn]
/-- a loop that only makes the store other -/
theorem runL_any {β : Type} {p : Pat} {ws : List Nat} {body : SM} {enc : β → DV} {E : Env} (J : Sto → Prop) : ∀ (ys : List β) (sto : Sto), J sto →
    (∀ y ∈ ys, ∀ sto, J sto → ∃ e1, bindP p (enc y) E = some e1 ∧ ∃ e2 s2, body e1 sto = .nx e2 s2 ∧ wipeE e2 ws = E ∧ J s2) → ∃ s2, runL p ws body (ys.map enc) E sto = .nx E s2 ∧ J s2
  | [], sto, hJ, _ => ⟨sto, rfl, hJ⟩
  | y :: ys, sto, hJ, h => by
    obtain ⟨e1, h1, e2, s2, h2, h3, h4⟩ := h y (by simp) sto hJ
    obtain ⟨s3, h5, h6⟩ := runL_any J ys s2 h4 fun z hz => h z (by simp [hz])
    exact ⟨s3, by simp only [List.map_cons, runL, h1, h2, h3, h5], h6⟩
theorem runL_invK {β : Type} {p : Pat} {ws : List Nat} {body : SM} {enc : β → DV} {xs : List β} {env : Env} {sto : Sto} {goal : Prop} (I : List β → Env → Sto → Prop) (h0 : I [] env sto)
    (hs : ∀ done y rest env sto, xs = done ++ y :: rest → I done env sto → ∃ e1, bindP p (enc y) env = some e1 ∧ ∃ e2 s2, body e1 sto = .nx e2 s2 ∧ I (done ++ [y]) (wipeE e2 ws) s2)
    (k : ∀ e s, runL p ws body (xs.map enc) env sto = .nx e s → I xs e s → goal) : goal := by
  obtain ⟨e, s, h1, h2⟩ := runL_inv I h0 hs
  exact k e s h1 h2
theorem leastI_eq {r : Int} : ∀ {xs : List Int}, r ∈ xs → (∀ x ∈ xs, r ≤ x) → leastI xs = r
  | [x], h, _ => by simp at h; simp [leastI, h]
  | x :: y :: xs, h, hl => by
    have hx := hl x (by simp)
    have h1 : ∀ z ∈ y :: xs, r ≤ z := fun z hz => hl z (List.mem_cons_of_mem _ hz)
    rcases List.mem_cons.mp h with rfl | h
    · have : r ≤ leastI (y :: xs) := by
        have : ∀ (ys : List Int), ys ≠ [] → (∀ z ∈ ys, r ≤ z) → r ≤ leastI ys := by
          intro ys
          induction ys with
          | nil => intro h; exact absurd rfl h
          | cons a as ih =>
            intro _ h
            cases as with
            | nil => simpa [leastI] using h
            | cons b bs =>
              have i1 := ih (by simp) fun z hz => h z (List.mem_cons_of_mem _ hz)
              have i2 := h a (by simp)
              simp only [leastI]; omega
        exact this _ (by simp) h1
      simp only [leastI]; omega
    · have := leastI_eq h h1
      simp only [leastI, this]; omega
end BB
namespace BB
open PySem L2
/-! What holds behind a run. -/
def Nx (o : Out) (Q : Env → Sto → Prop) : Prop := ∃ e s, o = .nx e s ∧ Q e s
def Rt (o : Out) (D : DV → Sto → Prop) : Prop := ∃ d s, o = .rt d s ∧ D d s
section
variable {a b body : SM} {p : Pat} {m : EM} {tt : TM} {it : IM} {env e : Env} {sto s : Sto} {d : DV} {Q R : Env → Sto → Prop} {D : DV → Sto → Prop} {ws : List Nat}
theorem nx_of (h : a env sto = .nx e s) (q : Q e s) : Nx (a env sto) Q := ⟨e, s, h, q⟩
theorem Nx.imp {o : Out} (h : Nx o Q) (k : ∀ e s, Q e s → R e s) : Nx o R := by obtain ⟨e, s, h1, h2⟩ := h; exact ⟨e, s, h1, k e s h2⟩
theorem nx_seq (h : Nx (a env sto) Q) (k : ∀ e s, Q e s → Nx (b e s) R) : Nx (sSeq a b env sto) R := by
  obtain ⟨e, s, h1, h2⟩ := h
  rw [sSeq_nx h1]
  exact k e s h2
theorem rt_seq (h : Nx (a env sto) Q) (k : ∀ e s, Q e s → Rt (b e s) D) : Rt (sSeq a b env sto) D := by
  obtain ⟨e, s, h1, h2⟩ := h
  rw [sSeq_nx h1]
  exact k e s h2
theorem nx_if {c : Bool} (h : tt env sto = .ok c s) (h1 : c = true → Nx (a env s) Q) (h2 : c = false → Nx (b env s) Q) : Nx (sIf tt a b env sto) Q := by
  rw [sIf_ok h]
  cases c
  · simpa using h2 rfl
  · simpa using h1 rfl
theorem nx_for {β : Type} {enc : β → DV} {xs : List β} (hi : it env sto = .ok (.fix (xs.map enc)) s) (I : List β → Env → Sto → Prop) (h0 : I [] (wipeE env ws) s)
    (hs : ∀ done y rest env sto, xs = done ++ y :: rest → I done env sto → ∃ e1, bindP p (enc y) env = some e1 ∧ Nx (body e1 sto) fun e2 s2 => I (done ++ [y]) (wipeE e2 ws) s2) : Nx (sFor it p ws body env sto) (I xs) := by
  rw [sFor_fix hi]
  exact runL_inv I h0 hs
end
theorem get_mod {α : Type} {f : α → DV} {xs : List α} (hx : xs ≠ []) (i : Int) : 0 ≤ i % (xs.length : Int) ∧ ∃ x ∈ xs, (xs.map f)[(i % (xs.length : Int)).toNat]? = some (f x) := by
  have hl : 0 < xs.length := List.length_pos_iff.mpr hx
  have h1 := Int.emod_nonneg i (show (xs.length : Int) ≠ 0 by omega)
  have h2 := Int.emod_lt_of_pos i (show (0 : Int) < xs.length by omega)
  have h3 : (i % (xs.length : Int)).toNat < xs.length := by omega
  exact ⟨h1, xs[(i % (xs.length : Int)).toNat], List.getElem_mem h3, by simp [h3]⟩
theorem ix_loc_lst {n : Nat} {ds : List DV} {i : Int} {d : DV} {sto : Sto} (hn : sto[n]? = some (.lst ds)) (h1 : 0 ≤ i) (h : ds[i.toNat]? = some d) : ixD (.loc n) (.int i) sto = .ok d sto := by
  simp [ixD, dicOf, seqOf, lstOf, hn, atI_ok h1 h]
def cutG {α : Type} (xs : List α) (lo hi : Option Int) : List α := (xs.drop (HT.sIx xs.length 0 lo)).take (HT.sIx xs.length xs.length hi - HT.sIx xs.length 0 lo)
theorem cutG_map {α : Type} (f : α → DV) (xs : List α) (lo hi : Option Int) : cutD (xs.map f) lo hi = (cutG xs lo hi).map f := by
  simp [cutD, cutG]
theorem cutG_len {α : Type} (xs : List α) (lo hi : Option Int) : (cutG xs lo hi).length ≤ xs.length := by
  simp [cutG]; omega
theorem pickD_map {α : Type} (f : α → DV) (xs : List α) (lo hi st : Option Int) : pickD (xs.map f) lo hi st = (pickD xs lo hi st).map f := by
  unfold pickD
  rw [List.length_map, List.map_filterMap]
  congr 1
  funext i
  simp
theorem pickD_mem {α : Type} {xs : List α} {lo hi st : Option Int} {x : α} (h : x ∈ pickD xs lo hi st) : x ∈ xs := by
  unfold pickD at h
  obtain ⟨i, _, h⟩ := List.mem_filterMap.mp h
  exact List.mem_of_getElem? h
theorem cutG_mem {α : Type} {xs : List α} {lo hi : Option Int} {x : α} (h : x ∈ cutG xs lo hi) : x ∈ xs := List.mem_of_mem_drop (List.mem_of_mem_take h)
theorem done_lt {α : Type} {xs done rest : List α} {y : α} (h : xs = done ++ y :: rest) : done.length < xs.length ∧ y ∈ xs := by
  rw [h]; simp
end BB
namespace BB
open PySem L2
variable {tg : Tg}
/-- what a plan costs -/
def paid (B : Bar) (ks : List Bk) : Int := (ks.map fun k => price B k.w k.x).sum
def owed (B : Bar) (m : Int) : Int := (cw B m (wholeP B)).1
theorem course_good {B : Bar} : ∀ (ks : List Bk) (Ps : List Pc) (i : Nat), (∀ P ∈ Ps, P ∈ allP B) → (courseF Ps i ks).2 = -1 → ∀ k ∈ ks, (k.w = 0 ∨ k.w = 1) ∧ 1 ≤ k.x ∧ k.x ≤ if k.w = 0 then B.p.length else B.q.length
  | [], _, _, _, _, k, hk => by cases hk
  | k :: ks, Ps, i, hm, h, k', hk => by
    unfold courseF at h
    split at h
    · rename_i hb
      rcases List.mem_cons.mp hk with rfl | hk
      · simp only [isBk, Bool.and_eq_true, decide_eq_true_eq] at hb
        exact line_ok (hm _ hb.1) hb.2
      · exact course_good ks _ _ (brk_mem hm hb) h k' hk
    · simp at h
theorem out_course {B : Bar} {m : Int} {ks : List Bk} (h : outF B m ks < 0) : (courseF [wholeP B] 0 ks).2 = -1 := by
  unfold outF at h
  have := course_sign ks [wholeP B] 0
  split at h
  · omega
  · omega
theorem out_sign (B : Bar) (m : Int) (ks : List Bk) : -1 ≤ outF B m ks := by
  unfold outF
  split
  · omega
  · split <;> omega
end BB
namespace BB
open PySem L2
/-! Pieces behind breaks lie apart. -/
def Dj (P Q : Pc) : Prop := P.r ≤ Q.l ∨ Q.r ≤ P.l ∨ P.b ≤ Q.t ∨ Q.b ≤ P.t
theorem Dj.symm {P Q : Pc} (h : Dj P Q) : Dj Q P := by unfold Dj at *; omega
theorem pw_mem {α : Type} {R : α → α → Prop} (hs : ∀ {a b}, R a b → R b a) : ∀ {xs : List α}, xs.Pairwise R → ∀ {a b}, a ∈ xs → b ∈ xs → a ≠ b → R a b
  | [], _, _, _, h, _, _ => by cases h
  | x :: xs, h, a, b, ha, hb, hn => by
    have h0 := List.pairwise_cons.mp h
    rcases List.mem_cons.mp ha with rfl | ha'
    · rcases List.mem_cons.mp hb with rfl | hb'
      · exact absurd rfl hn
      · exact h0.1 b hb'
    · rcases List.mem_cons.mp hb with rfl | hb'
      · exact hs (h0.1 a ha')
      · exact pw_mem hs h0.2 ha' hb' hn
structure Apart (B : Bar) (Ps : List Pc) : Prop where
  mem : ∀ P ∈ Ps, P ∈ allP B
  dj : Ps.Pairwise Dj
theorem Apart.nodup {B : Bar} {Ps : List Pc} (a : Apart B Ps) : Ps.Nodup := by
  have : ∀ {xs : List Pc}, (∀ P ∈ xs, P ∈ allP B) → xs.Pairwise Dj → xs.Nodup := by
    intro xs
    induction xs with
    | nil => intro _ _; exact List.nodup_nil
    | cons x xs ih =>
      intro hm hd
      have h0 := List.pairwise_cons.mp hd
      refine List.nodup_cons.mpr ⟨fun hx => ?_, ih (fun P hP => hm P (by simp [hP])) h0.2⟩
      have h1 := h0.1 x hx
      have h2 := mem_allP.mp (hm x (by simp))
      unfold Dj at h1; omega
  exact this a.mem a.dj
theorem Apart.perm {B : Bar} {Ps Qs : List Pc} (a : Apart B Ps) (h : Ps.Perm Qs) : Apart B Qs :=
  ⟨fun P hP => a.mem P (h.mem_iff.mpr hP), (h.pairwise_iff fun {x y} => Dj.symm).mp a.dj⟩
theorem Apart.whole (B : Bar) : Apart B [wholeP B] := ⟨by simp [whole_mem], by simp⟩
def cutL (Ps : List Pc) (k : Bk) : List Pc := Ps.filter (fun P => !decide (P = k.P)) ++ [part1 k.P k.w k.x, part2 k.P k.w k.x]
theorem Apart.cut {B : Bar} {Ps : List Pc} (a : Apart B Ps) {k : Bk} (h : isBk Ps k = true) : Apart B (cutL Ps k) := by
  have hb := h
  simp only [isBk, Bool.and_eq_true, decide_eq_true_eq] at hb
  have hP := mem_allP.mp (a.mem _ hb.1)
  have hl := mem_lines.mp hb.2
  refine ⟨fun P hP => brk_mem a.mem h P ((brk_perm Ps k).mem_iff.mpr hP), ?_⟩
  unfold cutL
  rw [List.pairwise_append]
  refine ⟨a.dj.filter _, ?_, ?_⟩
  · simp only [List.pairwise_cons, List.mem_singleton, forall_eq, List.not_mem_nil, false_implies, implies_true, List.Pairwise.nil, and_true]
    rcases hl with ⟨h0, h1, h2⟩ | ⟨h0, h1, h2⟩
    · simp only at h0; simp only [part1, part2, h0, if_true, Dj]; omega
    · simp only at h0; simp only [part1, part2, h0, Int.reduceEq, if_false, Dj]; omega
  · intro Q hQ R hR
    have hQ := List.mem_filter.mp hQ
    have hd := pw_mem Dj.symm a.dj hQ.1 hb.1 (by simpa using hQ.2)
    simp only [List.mem_cons, List.not_mem_nil, or_false] at hR
    unfold Dj at hd ⊢
    rcases hl with ⟨h0, h1, h2⟩ | ⟨h0, h1, h2⟩ <;> simp only at h0 h1 h2
    · rcases hR with rfl | rfl <;> simp only [part1, part2, h0, if_true] <;> omega
    · rcases hR with rfl | rfl <;> simp only [part1, part2, h0, Int.reduceEq, if_false] <;> omega
theorem Apart.brk {B : Bar} {Ps : List Pc} (a : Apart B Ps) {k : Bk} (h : isBk Ps k = true) : Apart B (brk Ps k) := (a.cut h).perm (brk_perm Ps k).symm
theorem isBk_perm {Ps Qs : List Pc} (h : Ps.Perm Qs) (k : Bk) : isBk Ps k = isBk Qs k := by
  unfold isBk
  congr 1
  exact decide_eq_decide.mpr h.mem_iff
theorem erase_cut {B : Bar} {Ps Qs : List Pc} (a : Apart B Ps) (h : Ps.Perm Qs) (k : Bk) : (brk Ps k).Perm (Qs.erase k.P ++ [part1 k.P k.w k.x, part2 k.P k.w k.x]) := by
  refine (brk_perm Ps k).trans (List.Perm.append_right _ ?_)
  have h1 := (a.perm h).nodup.erase_eq_filter k.P
  rw [h1]
  have : (fun P => !decide (P = k.P)) = (fun x : Pc => x != k.P) := by
    funext P
    by_cases e : P = k.P <;> simp [e]
  rw [this]
  exact h.filter _
/-! ### the law's walk -/
def lawCo (B : Bar) : List Pc → Nat → Int → List Bk → Option Nat × List Pc × Int
  | L, _, p, [] => (none, L, p)
  | L, i, p, k :: ks => if isBk L k = true then lawCo B (L.erase k.P ++ [part1 k.P k.w k.x, part2 k.P k.w k.x]) (i + 1) (p + price B k.w k.x) ks else (some i, L, p)
def lawOutF (B : Bar) (m : Int) (ks : List Bk) : Int × Int := match lawCo B [wholeP B] 0 0 ks with
  | (some i, _, _) => ((i : Int), 0)
  | (none, L, p) => (if (L.any fun P => decide (m < cnt B P)) = true then (ks.length : Int) else -1, p)
theorem lawCo_course {B : Bar} : ∀ (ks : List Bk) (Ps L : List Pc) (i : Nat) (p : Int), Apart B Ps → Ps.Perm L →
    match lawCo B L i p ks with
    | (some j, _, _) => (courseF Ps i ks).2 = (j : Int)
    | (none, L', p') => (courseF Ps i ks).2 = -1 ∧ (courseF Ps i ks).1.Perm L' ∧ p' = p + paid B ks
  | [], Ps, L, i, p, a, h => by simp [lawCo, courseF, paid, h]
  | k :: ks, Ps, L, i, p, a, h => by
    unfold lawCo courseF
    rw [isBk_perm h k]
    by_cases hb : isBk L k = true
    · simp only [hb, if_true]
      have hb' : isBk Ps k = true := by rw [isBk_perm h k]; exact hb
      have := lawCo_course ks (brk Ps k) (L.erase k.P ++ [part1 k.P k.w k.x, part2 k.P k.w k.x]) (i + 1) (p + price B k.w k.x) (a.brk hb') (erase_cut a h k)
      split at this
      · exact this
      · refine ⟨this.1, this.2.1, ?_⟩
        rw [this.2.2]
        simp [paid]; omega
    · simp [hb]
theorem all_any {B : Bar} {m : Int} {Ps L : List Pc} (h : Ps.Perm L) : (Ps.all fun P => decide (cnt B P ≤ m)) = !(L.any fun P => decide (m < cnt B P)) := by
  rw [Bool.eq_iff_iff]
  simp only [List.all_eq_true, decide_eq_true_eq, Bool.not_eq_true', List.any_eq_false]
  constructor
  · intro g P hP; have := g P (h.mem_iff.mpr hP); omega
  · intro g P hP; have := g P (h.mem_iff.mp hP); omega
theorem law_out (B : Bar) (m : Int) (ks : List Bk) : (lawOutF B m ks).1 = outF B m ks ∧ (outF B m ks < 0 → (lawOutF B m ks).2 = paid B ks) := by
  have := lawCo_course (B := B) ks [wholeP B] [wholeP B] 0 0 (Apart.whole B) (List.Perm.refl _)
  unfold lawOutF outF
  split at this
  · rename_i j _ _ e
    rw [this]
    simp only [Int.natCast_nonneg, if_true]
    refine ⟨trivial, fun h => by omega⟩
  · rename_i L p e
    rw [this.1, all_any (m := m) this.2.1]
    have h0 : ¬ (0 : Int) ≤ -1 := by omega
    simp only [h0, if_false]
    refine ⟨?_, fun _ => by rw [this.2.2]; omega⟩
    cases (L.any fun P => decide (m < cnt B P)) <;> simp
end BB
namespace BB
open PySem L2
/-! The breaks of a number do, at the least cost. -/
theorem pick_spec {f : Pc → Int → List Bk} {B : Bar} {m : Int} {P : Pc} : ∀ (ys : List (Int × Int)) (n : Int), (∀ y ∈ ys, 0 ≤ gW B m P y) → 0 ≤ n → n < ((ys.filter fun y => decide (gC B m P y = (cw B m P).1)).map (gW B m P)).sum →
    ∃ y ∈ ys, gC B m P y = (cw B m P).1 ∧ ∃ n', 0 ≤ n' ∧ n' < gW B m P y ∧ pickW f B m P ys n = [⟨P, y.1, y.2⟩] ++ f (part1 P y.1 y.2) (n' / (cw B m (part2 P y.1 y.2)).2) ++ f (part2 P y.1 y.2) (n' % (cw B m (part2 P y.1 y.2)).2)
  | [], n, _, h0, h => by simp at h; omega
  | y :: ys, n, hw, h0, h => by
    have hy := hw y (by simp)
    have hr : ∀ z ∈ ys, 0 ≤ gW B m P z := fun z hz => hw z (by simp [hz])
    by_cases hc : gC B m P y = (cw B m P).1
    · simp only [List.filter_cons, hc, decide_true, if_true, List.map_cons, List.sum_cons] at h
      by_cases hn : n < gW B m P y
      · exact ⟨y, by simp, hc, n, h0, hn, by simp only [pickW, if_pos hc, if_pos hn]⟩
      · obtain ⟨z, hz, h1, n', h2, h3, h4⟩ := pick_spec (f := f) ys (n - gW B m P y) hr (by omega) (by omega)
        exact ⟨z, by simp [hz], h1, n', h2, h3, by simp only [pickW, if_pos hc, if_neg hn, h4]⟩
    · simp only [List.filter_cons, hc, decide_false, Bool.false_eq_true, if_false] at h
      obtain ⟨z, hz, h1, n', h2, h3, h4⟩ := pick_spec (f := f) ys n hr h0 h
      exact ⟨z, by simp [hz], h1, n', h2, h3, by simp only [pickW, if_neg hc, h4]⟩
theorem course_append : ∀ (ks ls : List Bk) (Ps : List Pc) (i : Nat), (courseF Ps i ks).2 = -1 → courseF Ps i (ks ++ ls) = courseF (courseF Ps i ks).1 (i + ks.length) ls
  | [], ls, Ps, i, _ => by simp [courseF]
  | k :: ks, ls, Ps, i, h => by
    simp only [List.cons_append, courseF] at h ⊢
    split
    · rename_i hb
      rw [if_pos hb] at h
      rw [course_append ks ls _ _ h]
      simp [Nat.add_comm 1, Nat.add_assoc]
    · rename_i hb
      rw [if_neg hb] at h
      simp at h
theorem course_apart {B : Bar} : ∀ (ks : List Bk) (Ps : List Pc) (i : Nat), Apart B Ps → Apart B (courseF Ps i ks).1
  | [], Ps, i, a => a
  | k :: ks, Ps, i, a => by
    unfold courseF
    split
    · rename_i hb; exact course_apart ks _ _ (a.brk hb)
    · exact a
theorem paid_append (B : Bar) (ks ls : List Bk) : paid B (ks ++ ls) = paid B ks + paid B ls := by simp [paid]
/-- breaks that do for a piece -/
structure Does (B : Bar) (m : Int) (P : Pc) (ks : List Bk) : Prop where
  run : ∀ Ps i, Apart B Ps → P ∈ Ps → (courseF Ps i ks).2 = -1 ∧ ∃ Qs, (courseF Ps i ks).1.Perm (Ps.erase P ++ Qs) ∧ ∀ Q ∈ Qs, cnt B Q ≤ m
theorem Does.nil {B : Bar} {m : Int} {P : Pc} (h : cnt B P ≤ m) : Does B m P [] := ⟨fun Ps i a hP => ⟨rfl, [P], by
  show Ps.Perm _
  exact (List.perm_cons_erase hP).trans (List.perm_append_comm (l₁ := [P])), by simpa using h⟩⟩
theorem Does.cut {B : Bar} {m : Int} {P : Pc} {y : Int × Int} {k1 k2 : List Bk} (hy : y ∈ linesD P) (d1 : Does B m (part1 P y.1 y.2) k1) (d2 : Does B m (part2 P y.1 y.2) k2) : Does B m P ([⟨P, y.1, y.2⟩] ++ k1 ++ k2) := ⟨fun Ps i a hP => by
  have hb : isBk Ps ⟨P, y.1, y.2⟩ = true := by simp [isBk, hP, hy]
  have e1 : courseF Ps i [⟨P, y.1, y.2⟩] = (brk Ps ⟨P, y.1, y.2⟩, -1) := by simp [courseF, hb]
  have a1 := a.brk hb
  have p1 : (brk Ps ⟨P, y.1, y.2⟩).Perm (Ps.erase P ++ [part1 P y.1 y.2, part2 P y.1 y.2]) := erase_cut a (List.Perm.refl _) ⟨P, y.1, y.2⟩
  obtain ⟨f1, Q1, g1, h1⟩ := d1.run (brk Ps ⟨P, y.1, y.2⟩) (i + 1) a1 (p1.mem_iff.mpr (by simp))
  have a2 := course_apart k1 _ (i + 1) a1
  have nd := a1.nodup
  have q1 : ((brk Ps ⟨P, y.1, y.2⟩).erase (part1 P y.1 y.2)).Perm (Ps.erase P ++ [part2 P y.1 y.2]) := by
    refine (p1.erase _).trans ?_
    have : (Ps.erase P ++ [part1 P y.1 y.2, part2 P y.1 y.2]).Perm (part1 P y.1 y.2 :: (Ps.erase P ++ [part2 P y.1 y.2])) := List.perm_middle
    refine (this.erase _).trans ?_
    simp
  have r1 : (courseF (brk Ps ⟨P, y.1, y.2⟩) (i + 1) k1).1.Perm (part2 P y.1 y.2 :: (Ps.erase P ++ Q1)) := by
    refine g1.trans ((q1.append_right Q1).trans ?_)
    rw [List.append_assoc]
    exact List.perm_middle
  obtain ⟨f2, Q2, g2, h2⟩ := d2.run _ (i + 1 + k1.length) a2 (r1.mem_iff.mpr (by simp))
  have q2 : ((courseF (brk Ps ⟨P, y.1, y.2⟩) (i + 1) k1).1.erase (part2 P y.1 y.2)).Perm (Ps.erase P ++ Q1) := by
    refine (r1.erase _).trans ?_
    simp
  have c1 : courseF Ps i ([⟨P, y.1, y.2⟩] ++ k1) = courseF (brk Ps ⟨P, y.1, y.2⟩) (i + 1) k1 := by
    rw [course_append _ _ _ _ (by rw [e1]), e1]; rfl
  have c2 : courseF Ps i ([⟨P, y.1, y.2⟩] ++ k1 ++ k2) = courseF (courseF (brk Ps ⟨P, y.1, y.2⟩) (i + 1) k1).1 (i + 1 + k1.length) k2 := by
    rw [course_append _ _ _ _ (by rw [c1]; exact f1), c1]
    congr 1
    simp; omega
  rw [c2]
  refine ⟨f2, Q1 ++ Q2, g2.trans ?_, ?_⟩
  · refine (q2.append_right Q2).trans ?_
    rw [List.append_assoc]
  · intro Q hQ
    rcases List.mem_append.mp hQ with hQ | hQ
    · exact h1 Q hQ
    · exact h2 Q hQ⟩
theorem way_good {B : Bar} (o : OkBar B) {m : Int} (hm : 1 ≤ m) : ∀ (k : Nat) (P : Pc) (n : Int), P ∈ allP B → semi P ≤ k + 1 → 0 ≤ n → n < (cw B m P).2 → Does B m P (wayF B m k P n) ∧ paid B (wayF B m k P n) = (cw B m P).1
  | 0, P, n, hP, hk, _, _ => by
    have h := mem_allP.mp hP
    unfold semi at hk
    omega
  | k + 1, P, n, hP, hk, h0, hn => by
    by_cases hc : cnt B P ≤ m
    · simp only [wayF, if_pos hc, cw_small hc]
      exact ⟨Does.nil hc, rfl⟩
    · simp only [wayF, if_neg hc]
      have hc : m < cnt B P := by omega
      have hw : ∀ y ∈ linesD P, 0 ≤ gW B m P y := fun y hy => by
        have h1 := ways_pos o hm _ (part_mem hP hy).1
        have h2 := ways_pos o hm _ (part_mem hP hy).2
        exact Int.mul_nonneg (by omega) (by omega)
      rw [cw_sum o hm hP hc] at hn
      obtain ⟨y, hy, h1, n', h2, h3, h4⟩ := pick_spec (f := wayF B m k) (linesD P) n hw h0 hn
      have hpm := part_mem hP hy
      have p2 := ways_pos o hm _ hpm.2
      have hs := semi_part hy
      have i1 := way_good o hm k _ (n' / (cw B m (part2 P y.1 y.2)).2) hpm.1 (by omega) (Int.ediv_nonneg h2 (by omega)) (by
        rw [Int.ediv_lt_iff_lt_mul (by omega)]; exact h3)
      have i2 := way_good o hm k _ (n' % (cw B m (part2 P y.1 y.2)).2) hpm.2 (by omega) (Int.emod_nonneg _ (by omega)) (Int.emod_lt_of_pos _ (by omega))
      rw [h4]
      refine ⟨Does.cut hy i1.1 i2.1, ?_⟩
      rw [paid_append, paid_append, i1.2, i2.2, ← h1]
      simp [paid, gC]
theorem does_whole {B : Bar} {m : Int} {ks : List Bk} (d : Does B m (wholeP B) ks) : outF B m ks = -1 := by
  obtain ⟨h1, Qs, h2, h3⟩ := d.run [wholeP B] 0 (Apart.whole B) (by simp)
  unfold outF
  rw [h1]
  have h0 : ¬ (0 : Int) ≤ -1 := by omega
  rw [if_neg h0, if_pos]
  simp only [List.all_eq_true, decide_eq_true_eq]
  intro P hP
  have := h2.mem_iff.mp hP
  simp at this
  exact h3 P this
/-! ### no plan costs less -/
theorem perm_sum {β : Type} {g : β → Int} {xs ys : List β} (h : xs.Perm ys) : (xs.map g).sum = (ys.map g).sum := by
  induction h with
  | nil => rfl
  | cons x _ ih => simp only [List.map_cons, List.sum_cons, ih]
  | swap x y l => simp only [List.map_cons, List.sum_cons]; omega
  | trans _ _ h1 h2 => exact h1.trans h2
def costs (B : Bar) (m : Int) (Ps : List Pc) : Int := (Ps.map fun P => (cw B m P).1).sum
theorem cw_cut {B : Bar} (o : OkBar B) {m : Int} (hm : 1 ≤ m) {P : Pc} (hP : P ∈ allP B) {y : Int × Int} (hy : y ∈ linesD P) : (cw B m P).1 ≤ gC B m P y := by
  by_cases h : m < cnt B P
  · exact cw_le o hm hP h hy
  · rw [cw_small (by omega)]
    have := gC_nonneg o hm hP hy
    simp; omega
theorem costs_brk {B : Bar} {m : Int} {Ps : List Pc} (a : Apart B Ps) {k : Bk} (hk : k.P ∈ Ps) : costs B m (brk Ps k) + (cw B m k.P).1 = costs B m Ps + (cw B m (part1 k.P k.w k.x)).1 + (cw B m (part2 k.P k.w k.x)).1 := by
  have h1 := perm_sum (g := fun P => (cw B m P).1) (erase_cut a (List.Perm.refl _) k)
  have h2 := perm_sum (g := fun P => (cw B m P).1) (List.perm_cons_erase hk)
  unfold costs
  rw [h1, h2]
  simp; omega
theorem course_cost {B : Bar} (o : OkBar B) {m : Int} (hm : 1 ≤ m) : ∀ (ks : List Bk) (Ps : List Pc) (i : Nat), Apart B Ps → (courseF Ps i ks).2 = -1 → costs B m Ps ≤ paid B ks + costs B m (courseF Ps i ks).1
  | [], Ps, i, a, _ => by simp [courseF, paid]
  | k :: ks, Ps, i, a, h => by
    unfold courseF at h ⊢
    by_cases hb : isBk Ps k = true
    · rw [if_pos hb] at h ⊢
      have hb' := hb
      simp only [isBk, Bool.and_eq_true, decide_eq_true_eq] at hb'
      have ih := course_cost o hm ks (brk Ps k) (i + 1) (a.brk hb) h
      have h1 := costs_brk (m := m) a hb'.1
      have h2 := cw_cut o hm (a.mem _ hb'.1) hb'.2
      unfold gC at h2
      simp only at h2
      have h3 : paid B (k :: ks) = price B k.w k.x + paid B ks := by simp [paid]
      rw [h3]
      omega
    · rw [if_neg hb] at h
      simp at h
theorem costs_zero {B : Bar} {m : Int} : ∀ {Ps : List Pc}, (∀ P ∈ Ps, cnt B P ≤ m) → costs B m Ps = 0
  | [], _ => rfl
  | P :: Ps, h => by
    have := costs_zero (B := B) (m := m) (Ps := Ps) fun Q hQ => h Q (by simp [hQ])
    unfold costs at this ⊢
    simp only [List.map_cons, List.sum_cons, this, cw_small (h P (by simp))]
    rfl
theorem paid_least {B : Bar} (o : OkBar B) {m : Int} (hm : 1 ≤ m) {ks : List Bk} (h : outF B m ks < 0) : owed B m ≤ paid B ks := by
  have hc := out_course h
  have h1 := course_cost o hm ks [wholeP B] 0 (Apart.whole B) hc
  have hz : costs B m (courseF [wholeP B] 0 ks).1 = 0 := by
    refine costs_zero fun P hP => ?_
    unfold outF at h
    rw [hc] at h
    have h0 : ¬ (0 : Int) ≤ -1 := by omega
    rw [if_neg h0] at h
    split at h
    · rename_i ha
      simp only [List.all_eq_true, decide_eq_true_eq] at ha
      exact ha P hP
    · omega
  rw [hz] at h1
  simp only [costs, List.map_cons, List.map_nil, List.sum_cons, List.sum_nil] at h1
  unfold owed; omega
theorem way_thrifty {B : Bar} (o : OkBar B) {m : Int} (hm : 1 ≤ m) {n : Int} (h0 : 0 ≤ n) (hn : n < (cw B m (wholeP B)).2) : outF B m (wayF B m 10 (wholeP B) n) = -1 ∧ paid B (wayF B m 10 (wholeP B) n) = owed B m := by
  have hs : semi (wholeP B) ≤ 10 + 1 := by
    have := o.pl; have := o.ql
    simp only [semi, wholeP]; omega
  have := way_good o hm 10 (wholeP B) n (whole_mem B) hs h0 hn
  exact ⟨does_whole this.1, this.2⟩
end BB
namespace BB
open PySem L2
variable {tg : Tg}
/-! Values with objects of the store within, as a callee sees them. -/
def Ld (s : Sto) (d e : DV) : Prop := frzW true (flk true s) d = some e
theorem Ld.id {s : Sto} {d : DV} (h : noLoc d = true) : Ld s d d := lendW_id _ d h
theorem lend_nil {s : Sto} : lend s [] = some [] := by simp [lend, frzWL]
theorem lend_cons {s : Sto} {d e : DV} {ds es : List DV} (h : Ld s d e) (hs : lend s ds = some es) : lend s (d :: ds) = some (e :: es) := by
  unfold Ld at h; unfold lend at hs ⊢; simp [frzWL, h, hs]
theorem eCallL {G : List DV → PR} {t : AM} {env : Env} {sto s : Sto} {ds es : List DV} {D : DV} (h : t env sto = .ok ds s) (hn : lend s ds = some es) (hG : G es = .ok D) : eCall G t env sto = .ok D s := by simp [eCall, eCallT, liftP, h, hn, hG]
mutual
theorem frzW_mono {g : Bool} {l1 l2 : Nat → Option DV} (hl : ∀ n D, l1 n = some D → l2 n = some D) : ∀ (d D : DV), frzW g l1 d = some D → frzW g l2 d = some D
  | .non, D, h => by simpa [frzW] using h
  | .bl b, D, h => by simpa [frzW] using h
  | .int i, D, h => by simpa [frzW] using h
  | .str x, D, h => by simpa [frzW] using h
  | .ty x, D, h => by simpa [frzW] using h
  | .cls x, D, h => by simpa [frzW] using h
  | .scr x, D, h => by simpa [frzW] using h
  | .tup ds, D, h => by
    simp only [frzW, Option.map_eq_some_iff] at h ⊢
    obtain ⟨es, h1, h2⟩ := h
    exact ⟨es, frzWL_mono hl ds es h1, h2⟩
  | .lstG g' ds, D, h => by
    simp only [frzW] at h ⊢
    split at h
    · cases h
    · rename_i hg
      rw [if_neg hg]
      simp only [Option.map_eq_some_iff] at h ⊢
      obtain ⟨es, h1, h2⟩ := h
      exact ⟨es, frzWL_mono hl ds es h1, h2⟩
  | .dicG g' ks ds, D, h => by
    simp only [frzW] at h ⊢
    split at h
    · cases h
    · rename_i hg
      rw [if_neg hg]
      simp only [Option.map_eq_some_iff] at h ⊢
      obtain ⟨es, h1, h2⟩ := h
      exact ⟨es, frzWL_mono hl ds es h1, h2⟩
  | .insG g' c ns ds, D, h => by
    simp only [frzW] at h ⊢
    split at h
    · cases h
    · rename_i hg
      rw [if_neg hg]
      simp only [Option.map_eq_some_iff] at h ⊢
      obtain ⟨es, h1, h2⟩ := h
      exact ⟨es, frzWL_mono hl ds es h1, h2⟩
  | .loc n, D, h => by
    simp only [frzW] at h ⊢
    exact hl n D h
theorem frzWL_mono {g : Bool} {l1 l2 : Nat → Option DV} (hl : ∀ n D, l1 n = some D → l2 n = some D) : ∀ (ds Ds : List DV), frzWL g l1 ds = some Ds → frzWL g l2 ds = some Ds
  | [], Ds, h => by simpa [frzWL] using h
  | d :: ds, Ds, h => by
    unfold frzWL at h ⊢
    split at h
    · rename_i x xs e1 e2
      rw [frzW_mono hl d x e1, frzWL_mono hl ds xs e2]
      exact h
    · cases h
end
theorem flookW_mono {g : Bool} {l1 l2 : Nat → Option DV} (hl : ∀ n D, l1 n = some D → l2 n = some D) {s x : Sto} : ∀ n D, flookW g l1 s n = some D → flookW g l2 (s ++ x) n = some D := by
  intro n D h
  unfold flookW at h ⊢
  cases e : s[n]? with
  | none => rw [e] at h; cases h
  | some o =>
    have : (s ++ x)[n]? = some o := by
      have hn := (List.getElem?_eq_some_iff.mp e).1
      rw [List.getElem?_append_left hn, e]
    rw [this]
    rw [e] at h
    cases o <;> simp only [Option.map_eq_some_iff] at h ⊢ <;> first | (obtain ⟨es, h1, h2⟩ := h; exact ⟨es, frzWL_mono hl _ es h1, h2⟩) | (cases h)
theorem Ld.mono {s x : Sto} {d e : DV} (h : Ld s d e) : Ld (s ++ x) d e := by
  refine frzW_mono (fun n D hn => ?_) d e h
  exact flookW_mono (flookW_mono (flookW_mono fun _ _ z => z)) n D hn
theorem Ld.lst {s : Sto} {n : Nat} {ds : List DV} (h : s[n]? = some (.lst ds)) (hd : noLocL ds = true) : Ld s (.loc n) (.lstG true ds) := by
  simp [Ld, frzW, flk, flookW, h, lendWL_id _ ds hd]
theorem Ld.ins {s : Sto} {n c : Nat} {ns : List Str} {ds : List DV} (h : s[n]? = some (.ins c ns ds)) (hd : noLocL ds = true) : Ld s (.loc n) (.insG true c ns ds) := by
  simp [Ld, frzW, flk, flookW, h, lendWL_id _ ds hd]
theorem Ld.tup3 {s : Sto} {a b c a' b' c' : DV} (h1 : Ld s a a') (h2 : Ld s b b') (h3 : Ld s c c') : Ld s (.tup [a, b, c]) (.tup [a', b', c']) := by
  unfold Ld at *; simp [frzW, frzWL, h1, h2, h3]
/-- a bar of the store -/
theorem Ld.bar {s : Sto} {i j k : Nat} {B : Bar} (h1 : s[i]? = some (.lst (B.p.map .int))) (h2 : s[j]? = some (.lst (B.q.map .int))) (h3 : s[k]? = some (.lst (B.nuts.map encC))) : Ld s (.tup [.loc i, .loc j, .loc k]) (encB (true, true, true) B) :=
  Ld.tup3 (.lst h1 (by simp)) (.lst h2 (by simp)) (.lst h3 (by simp))
theorem eMethL {alts : List (Nat × TF)} {mm : Str} {o : EM} {t : AM} {env : Env} {sto s1 s2 : Sto} {n c : Nat} {ns : List Str} {fs ds es : List DV} {G : List DV → PR} {D : DV} (ho : o env sto = .ok (.loc n) s1) (h1 : s1[n]? = some (.ins c ns fs)) (hm : mm ∉ ns) (ha : altOf alts c = some (liftP G)) (ht : t env s1 = .ok ds s2) (hn : lend s2 (.loc n :: ds) = some es) (hG : G es = .ok D) : eMeth alts mm o t env sto = .ok D s2 := by
  simp [eMeth, ho, insOf, h1, hm, ha, ht, liftP, hn, hG]
end BB
namespace BB
open PySem L2
/-! Runs by simp: a bind's second half is looked at only when its first half is known. -/
section
variable {α β : Type}
def Res.bind0 (r : Res α) (f : α → Sto → Res β) : Res β := match r with
  | .ok a s => f a s
  | _ => .stuck
theorem bind0_ok (a : α) (s : Sto) (f : α → Sto → Res β) : (Res.ok a s).bind0 f = f a s := rfl
def Out.seq (o : Out) (f : SM) : Out := match o with
  | .nx e s => f e s
  | o => o
theorem seq_nx (e : Env) (s : Sto) (f : SM) : (Out.nx e s).seq f = f e s := rfl
theorem seq_rt (d : DV) (s : Sto) (f : SM) : (Out.rt d s).seq f = .rt d s := rfl
end
section
variable {a b : SM} {m o : EM} {t : AM} {env : Env} {sto s : Sto} {f : DV → DV → Sto → Res DV} {g : List DV → Sto → Res DV} {T : TF} {G : List DV → PR} {D : DV} {ds es : List DV}
theorem v_seq : sSeq a b env sto = (a env sto).seq b := rfl
def v_fm (alts : List (Nat × TF)) (mm : Str) (t : AM) (env : Env) (x : DV) (s1 : Sto) : Option (Nat × List Str × List DV) → Res DV
  | some (c, ns, _) => if mm ∈ ns then .stuck else (match altOf alts c with
      | some T => (t env s1).bind fun ds s2 => T (x :: ds) s2
      | none => .stuck)
  | none => .stuck
theorem v_meth {alts : List (Nat × TF)} {mm : Str} : eMeth alts mm o t env sto = (o env sto).bind0 fun x s1 => v_fm alts mm t env x s1 (insOf s1 x) := by
  unfold eMeth Res.bind0
  cases o env sto with
  | ok x s1 =>
    simp only
    unfold v_fm
    cases insOf s1 x with
    | none => rfl
    | some q => rfl
  | exc c s1 => rfl
  | stuck => rfl
theorem v_fm1 {alts : List (Nat × TF)} {mm : Str} {x : DV} {c : Nat} {ns : List Str} {fs : List DV} (hm : mm ∉ ns) (hT : altOf alts c = some T) : v_fm alts mm t env x s (some (c, ns, fs)) = (t env s).bind fun ds s2 => T (x :: ds) s2 := by
  simp [v_fm, hm, hT]
/-- a pure def called -/
def v_call (G : List DV → PR) (s : Sto) : Option (List DV) → Res DV
  | some es => (match G es with
    | .ok D => .ok D s
    | .exc c => .exc c s
    | .stuck => .stuck)
  | none => .stuck
theorem v_lift : liftP G ds s = v_call G s (lend s ds) := rfl
theorem v_call1 (h : G es = .ok D) : v_call G s (some es) = .ok D s := by simp [v_call, h]
def lendD (s : Sto) (d : DV) : Option DV := frzW true (flk true s) d
def consO {α : Type} : Option α → Option (List α) → Option (List α)
  | some x, some xs => some (x :: xs)
  | _, _ => none
theorem consO_some {α : Type} (x : α) (xs : List α) : consO (some x) (some xs) = some (x :: xs) := rfl
theorem v_lend0 : lend s [] = some [] := lend_nil
theorem v_lend1 {d : DV} {ds : List DV} : lend s (d :: ds) = consO (lendD s d) (lend s ds) := by
  simp only [lend, frzWL, lendD, consO]
  cases frzW true (flk true s) d <;> cases frzWL true (flk true s) ds <;> rfl
theorem v_lendD {d : DV} (h : noLoc d = true) : lendD s d = some d := lendW_id _ d h
theorem Ld.v {d e : DV} (h : Ld s d e) : lendD s d = some e := h
theorem v_var0 {d : DV} {i : Nat} (h : env[i]? = some (some d)) : eVar i env sto = .ok d sto := by simp [eVar, h]
end
section
variable {s l : Sto}
theorem app_get (k : Nat) : (s ++ l)[s.length + k]? = l[k]? := by
  rw [List.getElem?_append_right (by omega)]; congr 1; omega
theorem app_get0 : (s ++ l)[s.length]? = l[0]? := app_get 0
theorem app_set (k : Nat) (x : DO) : (s ++ l).set (s.length + k) x = s ++ l.set k x := by
  rw [List.set_append_right _ _ (by omega)]; congr 2; omega
theorem app_set0 (x : DO) : (s ++ l).set s.length x = s ++ l.set 0 x := app_set 0 x
theorem app_old {n : Nat} {x : DO} (h : s[n]? = some x) (l : Sto) : (s ++ l)[n]? = some x := by
  rw [List.getElem?_append_left (List.getElem?_eq_some_iff.mp h).1, h]
theorem set_same {n : Nat} {x : DO} (h : s[n]? = some x) : s.set n x = s := by
  apply List.ext_getElem?
  intro i
  by_cases e : n = i
  · subst e; rw [List.getElem?_set_self (List.getElem?_eq_some_iff.mp h).1, h]
  · rw [List.getElem?_set_ne e]
theorem set_get {n : Nat} {x y : DO} (h : s[n]? = some x) : (s.set n y)[n]? = some y := List.getElem?_set_self (List.getElem?_eq_some_iff.mp h).1
end
theorem nx_go {a b : SM} {env e : Env} {sto s : Sto} {Q : Env → Sto → Prop} (h : a env sto = .nx e s) (k : Nx (b e s) Q) : Nx (sSeq a b env sto) Q := by rw [sSeq_nx h]; exact k
theorem rt_go {a b : SM} {env e : Env} {sto s : Sto} {D : DV → Sto → Prop} (h : a env sto = .nx e s) (k : Rt (b e s) D) : Rt (sSeq a b env sto) D := by rw [sSeq_nx h]; exact k
theorem rt_end {a : SM} {env : Env} {sto s : Sto} {d : DV} {D : DV → Sto → Prop} (h : a env sto = .rt d s) (k : D d s) : Rt (a env sto) D := ⟨d, s, h, k⟩
theorem nx_end {a : SM} {env e : Env} {sto s : Sto} {Q : Env → Sto → Prop} (h : a env sto = .nx e s) (k : Q e s) : Nx (a env sto) Q := ⟨e, s, h, k⟩
section
variable {s : Sto} {g : Bool} {x y z u v w : DV} {r : List DV}
theorem altOf_hd {c : Nat} {T : TF} {r : List (Nat × TF)} : altOf ((c, T) :: r) c = some T := by simp [altOf]
theorem altOf_tl {c c' : Nat} {T : TF} {r : List (Nat × TF)} (h : c' ≠ c) : altOf ((c, T) :: r) c' = altOf r c' := by
  have : (c' == c) = false := by simpa using h
  simp [altOf, List.lookup_cons, this]
theorem ixL0 : ixD (.lstG g (x :: r)) (.int 0) s = .ok x s := ix_lst (by omega) rfl
theorem ixL1 : ixD (.lstG g (x :: y :: r)) (.int 1) s = .ok y s := ix_lst (by omega) rfl
theorem ixL2 : ixD (.lstG g (x :: y :: z :: r)) (.int 2) s = .ok z s := ix_lst (by omega) rfl
theorem ixT0 : ixD (.tup (x :: r)) (.int 0) s = .ok x s := ix_tup (by omega) rfl
theorem ixT1 : ixD (.tup (x :: y :: r)) (.int 1) s = .ok y s := ix_tup (by omega) rfl
theorem ixT2 : ixD (.tup (x :: y :: z :: r)) (.int 2) s = .ok z s := ix_tup (by omega) rfl
theorem ixT3 : ixD (.tup (x :: y :: z :: u :: r)) (.int 3) s = .ok u s := ix_tup (by omega) rfl
theorem ixT4 : ixD (.tup (x :: y :: z :: u :: v :: r)) (.int 4) s = .ok v s := ix_tup (by omega) rfl
theorem ixT5 : ixD (.tup (x :: y :: z :: u :: v :: w :: r)) (.int 5) s = .ok w s := ix_tup (by omega) rfl
theorem add_int {b : Bool} {i j : Int} : oAdd b (.int i) (.int j) s = .ok (.int (i + j)) s := rfl
theorem add_ls {b g1 g2 : Bool} {xs ys : List DV} (h : xs.length + ys.length ≤ 1000000) : oAdd b (.lstG g1 xs) (.lstG g2 ys) s = newL b (xs ++ ys) s := by
  simp [oAdd, lstOf, h]
theorem add_tup {b : Bool} {xs ys : List DV} (h : xs.length + ys.length ≤ 1000000) : oAdd b (.tup xs) (.tup ys) s = .ok (.tup (xs ++ ys)) s := by
  simp [oAdd, h]
theorem mPop_end {α : Type} {f : α → DV} {n : Nat} (xs : List α) (a : α) : mPop n ((xs ++ [a]).map f) [] s = .ok (f a) (s.set n (.lst (xs.map f))) := by
  simp [mPop]
theorem putD_at {n : Nat} {ds : List DV} {i : Int} {d : DV} (h : s[n]? = some (.lst ds)) (h0 : 0 ≤ i) (hi : i < ds.length) : putD (.loc n) (.int i) d s = .ok () (s.set n (.lst (ds.set i.toNat d))) := by
  have hx : ixN ds.length i = some i.toNat := by
    simp only [ixN]
    rw [if_pos (by omega), if_pos (by omega)]
  simp only [putD, h, hx]
theorem len_lst {g : Bool} {xs : List DV} : fLen [.lstG g xs] s = .ok (.int xs.length) s := by simp [fLen, seqOf, lstOf]
theorem len_tup {xs : List DV} : fLen [.tup xs] s = .ok (.int xs.length) s := by simp [fLen, seqOf, lstOf]
theorem len_loc {n : Nat} {xs : List DV} (h : s[n]? = some (.lst xs)) : fLen [.loc n] s = .ok (.int xs.length) s := by simp [fLen, seqOf, lstOf, h]
theorem fst_ok {b : Bool} {g : Bool} {xs : List DV} : fList b [.lstG g xs] s = newL b xs s := by simp [fList, seqOf, lstOf]
theorem fst_loc {b : Bool} {n : Nat} {xs : List DV} (h : s[n]? = some (.lst xs)) : fList b [.loc n] s = newL b xs s := by simp [fList, seqOf, lstOf, h]
theorem mod_ok {i j : Int} (h : 0 < j) : oMod (.int i) (.int j) s = .ok (.int (i % j)) s := by simp [oMod, h]
theorem div_ok {i j : Int} (h : 0 < j) (h2 : j < 1000000) : oDiv (.int i) (.int j) s = .ok (.int (i / j)) s := by
  have : j < 2 ^ 250 := by omega
  simp only [oDiv, if_pos (And.intro h this)]
end
theorem sto_assoc (a b c : Sto) : a ++ b ++ c = a ++ (b ++ c) := List.append_assoc a b c
theorem sto_cons (x : DO) (a b : Sto) : x :: a ++ b = x :: (a ++ b) := rfl
theorem sto_nil (a : Sto) : [] ++ a = a := rfl
theorem set_int {xs : List Int} {i : Nat} {v : Int} : (xs.map DV.int).set i (.int v) = (xs.set i v).map .int := by simp
theorem app_int {xs : List Int} {v : Int} : xs.map DV.int ++ [.int v] = (xs ++ [v]).map .int := by simp
theorem app_bk {xs : List Bk} {k : Bk} : xs.map encBk ++ [encBk k] = (xs ++ [k]).map encBk := by simp
theorem app_P {xs : List Pc} {k : Pc} : xs.map encP ++ [encP k] = (xs ++ [k]).map encP := by simp
theorem app_C {xs : List (Int × Int)} {k : Int × Int} : xs.map encC ++ [encC k] = (xs ++ [k]).map encC := by simp
/-! comparisons -/
section
variable {s : Sto} {α : Type} [DecidableEq α] {f : α → DV} {g : α → PyData} {n : Nat}
theorem py_loc (d : IsDat f g n) {i : Nat} {xs : List α} (gg : Bool) (h : s[i]? = some (.lst (xs.map f))) : py s (.loc i) = py s (.lstG gg (xs.map f)) := by
  simp [py, pyW, look2, h, d.pyL]
theorem oNe_py {x x' y y' : DV} (h : py s x = py s x') (h2 : py s y = py s y') : oNe x y s = oNe x' y' s := by simp [oNe, h, h2]
theorem oEq_py {x x' y y' : DV} (h : py s x = py s x') (h2 : py s y = py s y') : oEq x y s = oEq x' y' s := by simp [oEq, h, h2]
theorem ne_nil (d : IsDat f g n) (hn : n ≤ 63) {g1 g2 : Bool} (xs : List α) : oNe (.lstG g1 (xs.map f)) (.lstG g2 []) s = .ok (.bl (!decide (xs = []))) s :=
  oNe_dat (d.lst g1) (d.lst g2) (by omega) xs []
theorem eq_nil (d : IsDat f g n) (hn : n ≤ 63) {g1 g2 : Bool} (xs : List α) : oEq (.lstG g1 (xs.map f)) (.lstG g2 []) s = .ok (.bl (decide (xs = []))) s :=
  oEq_dat (d.lst g1) (d.lst g2) (by omega) xs []
theorem ne_nilL (d : IsDat f g n) (hn : n ≤ 63) {g2 : Bool} {i : Nat} {xs : List α} (h : s[i]? = some (.lst (xs.map f))) : oNe (.loc i) (.lstG g2 []) s = .ok (.bl (!decide (xs = []))) s := by
  rw [oNe_py (py_loc d false h) rfl, ne_nil d hn]
theorem ne_locs (d : IsDat f g n) (hn : n ≤ 63) {g2 : Bool} {i : Nat} {xs ys : List α} (h : s[i]? = some (.lst (xs.map f))) : oNe (.loc i) (.lstG g2 (ys.map f)) s = .ok (.bl (!decide (xs = ys))) s := by
  rw [oNe_py (py_loc d false h) rfl]
  exact oNe_dat (d.lst false) (d.lst g2) (by omega) xs ys
theorem eq_locs (d : IsDat f g n) (hn : n ≤ 63) {g2 : Bool} {i : Nat} {xs ys : List α} (h : s[i]? = some (.lst (xs.map f))) : oEq (.loc i) (.lstG g2 (ys.map f)) s = .ok (.bl (decide (xs = ys))) s := by
  rw [oEq_py (py_loc d false h) rfl]
  exact oEq_dat (d.lst false) (d.lst g2) (by omega) xs ys
theorem ne_pair {a b c e : Int} : oNe (.tup [.int a, .int b]) (.tup [.int c, .int e]) s = .ok (.bl (!decide ((a, b) = (c, e)))) s := oNe_dat dC dC (by omega) (a, b) (c, e)
theorem eq_pair {a b c e : Int} : oEq (.tup [.int a, .int b]) (.tup [.int c, .int e]) s = .ok (.bl (decide ((a, b) = (c, e)))) s := oEq_dat dC dC (by omega) (a, b) (c, e)
end
theorem nx_for2 {it : IM} {p : Pat} {ws : List Nat} {body : SM} {env e1 : Env} {sto s : Sto} {x y : DV} {Q : Env → Sto → Prop} (hi : it env sto = .ok (.fix [x, y]) s) (hb : bindP p x (wipeE env ws) = some e1)
    (k : Nx (body e1 s) fun e2 s2 => ∃ e3, bindP p y (wipeE e2 ws) = some e3 ∧ Nx (body e3 s2) fun e4 s4 => Q (wipeE e4 ws) s4) : Nx (sFor it p ws body env sto) Q := by
  rw [sFor_fix hi]
  obtain ⟨e2, s2, h2, e3, h3, e4, s4, h4, h5⟩ := k
  exact ⟨wipeE e4 ws, s4, by simp only [runL, hb, h2, h3, h4], h5⟩
theorem mPop_at {s : Sto} {n : Nat} {ds : List DV} {i : Int} (h0 : 0 ≤ i) (hi : i < ds.length) (hl : ds.length ≤ 1000000) : ∃ d, mPop n ds [.int i] s = .ok d (s.set n (.lst (ds.eraseIdx i.toNat))) := by
  have h1 : i.toNat < ds.length := by omega
  have hx : seqIndex? i ds.length = some i.toNat := by
    unfold seqIndex?
    simp only [if_neg (show ¬ i < 0 by omega)]
    rw [if_pos (by simp; omega)]
  refine ⟨ds[i.toNat], ?_⟩
  simp only [mPop, hx, List.getElem?_eq_getElem h1]
  rw [if_pos (by omega)]
theorem ix_last {s : Sto} {n : Nat} {α : Type} {f : α → DV} {xs : List α} {a : α} (h : s[n]? = some (.lst ((xs ++ [a]).map f))) : ixD (.loc n) (.int (-1)) s = .ok (f a) s := by
  have : atI ((xs ++ [a]).map f) (-1) = some (f a) := by
    simp only [atI, ixN, List.length_map, List.length_append, List.length_singleton]
    rw [if_neg (by omega), if_pos (by omega)]
    have e : (-1 + ((xs.length + 1 : Nat) : Int)).toNat = xs.length := by omega
    show ((xs ++ [a]).map f)[(-1 + ((xs.length + 1 : Nat) : Int)).toNat]? = some (f a)
    rw [e]; simp
  simp [ixD, dicOf, seqOf, lstOf, h, this, -List.map_append]
theorem put_last {s : Sto} {n : Nat} {α : Type} {f : α → DV} {xs : List α} {a : α} {d : DV} (h : s[n]? = some (.lst ((xs ++ [a]).map f))) : putD (.loc n) (.int (-1)) d s = .ok () (s.set n (.lst (xs.map f ++ [d]))) := by
  have hx : ixN ((xs ++ [a]).map f).length (-1) = some xs.length := by
    simp only [ixN, List.length_map, List.length_append, List.length_singleton]
    rw [if_neg (by omega), if_pos (by omega)]
    congr 1
    omega
  simp only [putD, h, hx]
  simp
theorem erase_map {α β : Type} {f : α → β} : ∀ (xs : List α) (i : Nat), (xs.map f).eraseIdx i = (xs.eraseIdx i).map f
  | [], i => by simp
  | x :: xs, 0 => by simp
  | x :: xs, i + 1 => by simp [erase_map xs i]
section
variable {tg : Tg} {B : Bar} {s : Sto}
theorem ixB0 : ixD (encB tg B) (.int 0) s = .ok (.lstG tg.1 (B.p.map .int)) s := rfl
theorem ixB1 : ixD (encB tg B) (.int 1) s = .ok (.lstG tg.2.1 (B.q.map .int)) s := rfl
theorem ixB2 : ixD (encB tg B) (.int 2) s = .ok (.lstG tg.2.2 (B.nuts.map encC)) s := rfl
end
theorem sl_map {α : Type} {f : α → DV} {b g : Bool} {xs : List α} {lo hi : Option Int} {s : Sto} : slD b (.lstG g (xs.map f)) lo hi s = newL b ((cutG xs lo hi).map f) s := by
  simp [slD, lstOf, cutG_map]
theorem cutG_sub {α : Type} (xs : List α) (lo hi : Option Int) : (cutG xs lo hi).Sublist xs := (List.take_sublist _ _).trans (List.drop_sublist _ _)
theorem OkBar.sub {B : Bar} (o : OkBar B) {xs : List (Int × Int)} (h : xs.Sublist B.nuts) : OkBar ⟨B.p, B.q, xs⟩ :=
  ⟨o.pl, o.ql, o.pv, o.qv, Nat.le_trans h.length_le o.nl, fun c hc => o.nv c (h.subset hc), o.up.sublist h⟩
theorem ne_bl {a b : Bool} {s : Sto} : oNe (.bl a) (.bl b) s = .ok (.bl (!decide (a = b))) s := oNe_dat dBl dBl (by omega) a b
theorem eq_bl {a b : Bool} {s : Sto} : oEq (.bl a) (.bl b) s = .ok (.bl (decide (a = b))) s := oEq_dat dBl dBl (by omega) a b
theorem ns_ls : (("shows" : Str) ∉ (["breaks", "bounds"] : List Str)) := by decide
theorem cut_to {α : Type} {xs : List α} {i : Int} (h : 0 ≤ i) : cutG xs none (some i) = xs.take i.toNat := by
  unfold cutG HT.sIx
  simp only [Nat.sub_zero, List.drop_zero]
  rw [if_neg (by omega)]
  by_cases h2 : i.toNat ≤ xs.length
  · congr 1; omega
  · rw [List.take_of_length_le (by omega), List.take_of_length_le (by omega)]
theorem cut_from {α : Type} {xs : List α} {i : Int} (h : 0 ≤ i) : cutG xs (some i) none = xs.drop i.toNat := by
  unfold cutG HT.sIx
  simp only
  rw [if_neg (by omega)]
  rw [List.take_of_length_le (by simp)]
  by_cases h2 : i.toNat ≤ xs.length
  · congr 1; omega
  · rw [List.drop_of_length_le (by omega), List.drop_of_length_le (by omega)]
theorem fm_some {α β : Type} {f : α → Option β} {g : α → β} : ∀ (xs : List α), (∀ x ∈ xs, f x = some (g x)) → xs.filterMap f = xs.map g
  | [], _ => rfl
  | x :: xs, h => by
    rw [List.filterMap_cons, h x (by simp), List.map_cons, fm_some xs fun y hy => h y (by simp [hy])]
theorem pick_rev {α : Type} (xs : List α) : pickD xs none none (some (-1)) = xs.reverse := by
  unfold pickD
  simp only [sliceBounds, sliceRange, Option.getD_some]
  have h0 : ¬ ((-1 : Int) > 0) := by omega
  simp only [h0, if_false]
  have hc : (if (xs.length : Int) - 1 > -1 then ((xs.length : Int) - 1 - -1 - -1 - 1) / (- -1) else 0).toNat = xs.length := by
    rw [show (- -1 : Int) = 1 by rfl, Int.ediv_one]
    split <;> omega
  rw [hc]
  cases xs with
  | nil => rfl
  | cons a r =>
    generalize hx : a :: r = xs
    have hl : 0 < xs.length := by rw [← hx]; simp
    rw [fm_some (g := fun i => xs.getD i a) _ (by
      intro i hi
      obtain ⟨k, hk, rfl⟩ := List.mem_map.mp hi
      have hk := List.mem_range.mp hk
      have : ((xs.length : Int) - 1 + -1 * (k : Int)).toNat < xs.length := by omega
      rw [List.getElem?_eq_getElem this, List.getD_eq_getElem?_getD, List.getElem?_eq_getElem this]; rfl), List.map_map]
    apply List.ext_getElem
    · simp
    · intro i h1 h2
      simp only [List.length_map, List.length_range] at h1
      simp only [List.getElem_map, List.getElem_range, Function.comp, List.getElem_reverse]
      have : ((xs.length : Int) - 1 + -1 * (i : Int)).toNat = xs.length - 1 - i := by omega
      rw [this, List.getD_eq_getElem?_getD, List.getElem?_eq_getElem (by omega)]; rfl
end BB
namespace BB
open PySem L2
/-! What are whole numbers, of any sort of thing. -/
def isW : DV → Bool
  | .int _ => true
  | _ => false
def knd : DV → Bool
  | .non => true
  | .bl _ => true
  | .int _ => true
  | .str _ => true
  | .tup _ => true
  | .lstG _ _ => true
  | .dicG _ _ _ => true
  | _ => false
def isTp : DV → Bool
  | .tup _ => true
  | _ => false
def isLs : DV → Bool
  | .lstG _ _ => true
  | _ => false
theorem kbs : (kitB "NoneType" "int" = some false ∧ kitB "bool" "int" = some true ∧ kitB "str" "int" = some false ∧ kitB "tuple" "int" = some false ∧ kitB "list" "int" = some false ∧ kitB "dict" "int" = some false) ∧
    (kitB "NoneType" "bool" = some false ∧ kitB "bool" "bool" = some true ∧ kitB "str" "bool" = some false ∧ kitB "tuple" "bool" = some false ∧ kitB "list" "bool" = some false ∧ kitB "dict" "bool" = some false) ∧
    (kitB "NoneType" "tuple" = some false ∧ kitB "bool" "tuple" = some false ∧ kitB "int" "tuple" = some false ∧ kitB "str" "tuple" = some false ∧ kitB "list" "tuple" = some false ∧ kitB "dict" "tuple" = some false) ∧
    (kitB "NoneType" "list" = some false ∧ kitB "bool" "list" = some false ∧ kitB "int" "list" = some false ∧ kitB "str" "list" = some false ∧ kitB "tuple" "list" = some false ∧ kitB "dict" "list" = some false) := by decide +kernel
section
variable {s : Sto} {x : DV}
theorem isi_tp (h : knd x = true) : fIsi [x, .ty "tuple"] s = .ok (.bl (isTp x)) s := by
  have := kbs
  cases x <;> first | (cases h; done) | simp [fIsi, tyD, this, kb_tuple_tuple, isTp]
theorem isi_ls (h : knd x = true) : fIsi [x, .ty "list"] s = .ok (.bl (isLs x)) s := by
  have := kbs
  cases x <;> first | (cases h; done) | simp [fIsi, tyD, this, kb_list_list, isLs]
theorem isi_int (h : knd x = true) : ∃ b, fIsi [x, .ty "int"] s = .ok (.bl b) s ∧ ∃ c, fIsi [x, .ty "bool"] s = .ok (.bl c) s ∧ (b && !c) = isW x := by
  have := kbs
  cases x <;> first | (cases h; done) | simp [fIsi, tyD, this, kb_int_int, kb_int_bool, isW]
end
theorem e_isw {x : DV} (h : knd x = true) : G_is_whole [x] = .ok (.bl (isW x)) := by
  obtain ⟨b, h1, c, h2, h3⟩ := isi_int (s := []) h
  refine runP_rt (sto := []) (d := .bl (isW x)) rfl ?_ (by simp)
  unfold m_is_whole
  rw [show startE N_is_whole [x] = [some x] from rfl]
  cases b with
  | false =>
    rw [← h3]
    simp only [v_seq, seq_nx, seq_rt, v_meth, bind0_ok, v_lift, v_lend0, v_lend1, consO_some, v_lendD, Res.bind_ok, Res.out_ok, List.getElem?_cons_zero, List.getElem?_cons_succ, List.set_cons_zero, List.set_cons_succ, eVar, eC, eOp, eUn, uNeg, eIx, aNil, aCons, eTup, eLst, eDicF, newL, eCB, eCallT, eAnd, eOr, eNot, eIf, tBl, tNot, tAnd, tOr, eFld, eBM, mAppend, eMake0, pNone, pSome, eSl, eSl3, sAsg, sExpr, sRet, sIf, sNil, sPar, sPar3, sAug, sPut, sPuts, bindP, bindPs, wipeE_nil, wipeE_cons, startE_eq, List.replicate, List.length_cons, List.length_nil, List.length_append, oIsN, oIsNot, oSub, oLt, oLe, oGt, oAddI, Bool.false_eq_true, Bool.not_true, Bool.not_false, decide_true, decide_false, reduceIte, reduceCtorEq, Nat.reduceAdd, Nat.reduceSub, Nat.add_zero, Nat.zero_add, app_get, app_get0, app_set, app_set0, oEq_int, oNe_int, noLocL_nil, noLocL_cons, noLoc_non, noLoc_int, noLoc_bl, noLoc_str, noLoc_scr, noLoc_tup, noLoc_lst, noLoc_dic, noLoc_ins, noLocL_ints, Bool.and_self, Bool.and_true, Bool.true_and, and_self, isNonD, Nat.reduceLeDiff, Nat.reduceLT, Nat.reduceEqDiff, Int.reduceAdd, Int.reduceSub, Int.reduceLT, Int.reduceLE, Int.reduceEq, Int.reduceNeg, Int.reduceMod, Int.reduceToNat, v_fm, v_call, altOf_hd, altOf_tl, ixL0, ixL1, ixL2, ixT0, ixT1, ixT2, ixT3, ixT4, ixT5, add_int, len_lst, len_tup, fst_ok, mPop_end, noLoc_encB, ne_eq, not_true, not_false_eq_true, not_true_eq_false, mod_ok, div_ok, sto_assoc, sto_cons, sto_nil, set_int, app_int, app_bk, app_P, app_C, ne_pair, eq_pair, eq_self, List.getElem?_nil, ixB0, ixB1, ixB2, sl_map, ne_bl, eq_bl, h1]
    all_goals rfl
  | true =>
    rw [← h3]
    simp only [v_seq, seq_nx, seq_rt, v_meth, bind0_ok, v_lift, v_lend0, v_lend1, consO_some, v_lendD, Res.bind_ok, Res.out_ok, List.getElem?_cons_zero, List.getElem?_cons_succ, List.set_cons_zero, List.set_cons_succ, eVar, eC, eOp, eUn, uNeg, eIx, aNil, aCons, eTup, eLst, eDicF, newL, eCB, eCallT, eAnd, eOr, eNot, eIf, tBl, tNot, tAnd, tOr, eFld, eBM, mAppend, eMake0, pNone, pSome, eSl, eSl3, sAsg, sExpr, sRet, sIf, sNil, sPar, sPar3, sAug, sPut, sPuts, bindP, bindPs, wipeE_nil, wipeE_cons, startE_eq, List.replicate, List.length_cons, List.length_nil, List.length_append, oIsN, oIsNot, oSub, oLt, oLe, oGt, oAddI, Bool.false_eq_true, Bool.not_true, Bool.not_false, decide_true, decide_false, reduceIte, reduceCtorEq, Nat.reduceAdd, Nat.reduceSub, Nat.add_zero, Nat.zero_add, app_get, app_get0, app_set, app_set0, oEq_int, oNe_int, noLocL_nil, noLocL_cons, noLoc_non, noLoc_int, noLoc_bl, noLoc_str, noLoc_scr, noLoc_tup, noLoc_lst, noLoc_dic, noLoc_ins, noLocL_ints, Bool.and_self, Bool.and_true, Bool.true_and, and_self, isNonD, Nat.reduceLeDiff, Nat.reduceLT, Nat.reduceEqDiff, Int.reduceAdd, Int.reduceSub, Int.reduceLT, Int.reduceLE, Int.reduceEq, Int.reduceNeg, Int.reduceMod, Int.reduceToNat, v_fm, v_call, altOf_hd, altOf_tl, ixL0, ixL1, ixL2, ixT0, ixT1, ixT2, ixT3, ixT4, ixT5, add_int, len_lst, len_tup, fst_ok, mPop_end, noLoc_encB, ne_eq, not_true, not_false_eq_true, not_true_eq_false, mod_ok, div_ok, sto_assoc, sto_cons, sto_nil, set_int, app_int, app_bk, app_P, app_C, ne_pair, eq_pair, eq_self, List.getElem?_nil, ixB0, ixB1, ixB2, sl_map, ne_bl, eq_bl, h1, h2]
    all_goals rfl
/-- a whole number between a and b -/
def btw (x : DV) (a b : Int) : Bool := match x with
  | .int i => decide (a ≤ i) && decide (i ≤ b)
  | _ => false
theorem btw_no {x : DV} {a b : Int} (h : isW x = false) : btw x a b = false := by
  cases x <;> first | rfl | cases h
theorem e_btw {x : DV} {a b : Int} (h : knd x = true) (hl : noLoc x = true) : G_is_between [x, .int a, .int b] = .ok (.bl (btw x a b)) := by
  cases hw : isW x with
  | true =>
    cases x <;> first | (cases hw; done) | exact e_between _ _ _
  | false =>
    rw [btw_no hw]
    have h1 := e_isw h
    rw [hw] at h1
    refine runP_rt (sto := []) (d := .bl false) rfl ?_ (by simp)
    unfold m_is_between
    rw [show startE N_is_between [x, .int a, .int b] = [some x, some (.int a), some (.int b)] from rfl]
    simp only [v_seq, seq_nx, seq_rt, v_meth, bind0_ok, v_lift, v_lend0, v_lend1, consO_some, v_lendD, Res.bind_ok, Res.out_ok, List.getElem?_cons_zero, List.getElem?_cons_succ, List.set_cons_zero, List.set_cons_succ, eVar, eC, eOp, eUn, uNeg, eIx, aNil, aCons, eTup, eLst, eDicF, newL, eCB, eCallT, eAnd, eOr, eNot, eIf, tBl, tNot, tAnd, tOr, eFld, eBM, mAppend, eMake0, pNone, pSome, eSl, eSl3, sAsg, sExpr, sRet, sIf, sNil, sPar, sPar3, sAug, sPut, sPuts, bindP, bindPs, wipeE_nil, wipeE_cons, startE_eq, List.replicate, List.length_cons, List.length_nil, List.length_append, oIsN, oIsNot, oSub, oLt, oLe, oGt, oAddI, Bool.false_eq_true, Bool.not_true, Bool.not_false, decide_true, decide_false, reduceIte, reduceCtorEq, Nat.reduceAdd, Nat.reduceSub, Nat.add_zero, Nat.zero_add, app_get, app_get0, app_set, app_set0, oEq_int, oNe_int, noLocL_nil, noLocL_cons, noLoc_non, noLoc_int, noLoc_bl, noLoc_str, noLoc_scr, noLoc_tup, noLoc_lst, noLoc_dic, noLoc_ins, noLocL_ints, Bool.and_self, Bool.and_true, Bool.true_and, and_self, isNonD, Nat.reduceLeDiff, Nat.reduceLT, Nat.reduceEqDiff, Int.reduceAdd, Int.reduceSub, Int.reduceLT, Int.reduceLE, Int.reduceEq, Int.reduceNeg, Int.reduceMod, Int.reduceToNat, v_fm, v_call, altOf_hd, altOf_tl, ixL0, ixL1, ixL2, ixT0, ixT1, ixT2, ixT3, ixT4, ixT5, add_int, len_lst, len_tup, fst_ok, mPop_end, noLoc_encB, ne_eq, not_true, not_false_eq_true, not_true_eq_false, mod_ok, div_ok, sto_assoc, sto_cons, sto_nil, set_int, app_int, app_bk, app_P, app_C, ne_pair, eq_pair, eq_self, List.getElem?_nil, ixB0, ixB1, ixB2, sl_map, ne_bl, eq_bl, h1, hl]
theorem e_cellX {c r : DV} {w h : Int} (hc : knd c = true) (hr : knd r = true) (lc : noLoc c = true) (lr : noLoc r = true) : G_is_cell [.tup [c, r], .int w, .int h] = .ok (.bl (btw c 0 w && btw r 0 h)) := by
  have h1 := e_btw (a := 0) (b := w) hc lc
  have h2 := e_btw (a := 0) (b := h) hr lr
  have ht : fIsi [.tup [c, r], .ty "tuple"] [] = .ok (.bl true) [] := isi_tp rfl
  have c2 : ((2 : Nat) : Int) = 2 := rfl
  refine runP_rt (sto := []) (d := .bl (btw c 0 w && btw r 0 h)) rfl ?_ (by simp)
  unfold m_is_cell
  rw [show startE N_is_cell [.tup [c, r], .int w, .int h] = [some (.tup [c, r]), some (.int w), some (.int h)] from rfl]
  cases hb : btw c 0 w with
  | true =>
    rw [hb] at h1
    simp only [v_seq, seq_nx, seq_rt, v_meth, bind0_ok, v_lift, v_lend0, v_lend1, consO_some, v_lendD, Res.bind_ok, Res.out_ok, List.getElem?_cons_zero, List.getElem?_cons_succ, List.set_cons_zero, List.set_cons_succ, eVar, eC, eOp, eUn, uNeg, eIx, aNil, aCons, eTup, eLst, eDicF, newL, eCB, eCallT, eAnd, eOr, eNot, eIf, tBl, tNot, tAnd, tOr, eFld, eBM, mAppend, eMake0, pNone, pSome, eSl, eSl3, sAsg, sExpr, sRet, sIf, sNil, sPar, sPar3, sAug, sPut, sPuts, bindP, bindPs, wipeE_nil, wipeE_cons, startE_eq, List.replicate, List.length_cons, List.length_nil, List.length_append, oIsN, oIsNot, oSub, oLt, oLe, oGt, oAddI, Bool.false_eq_true, Bool.not_true, Bool.not_false, decide_true, decide_false, reduceIte, reduceCtorEq, Nat.reduceAdd, Nat.reduceSub, Nat.add_zero, Nat.zero_add, app_get, app_get0, app_set, app_set0, oEq_int, oNe_int, noLocL_nil, noLocL_cons, noLoc_non, noLoc_int, noLoc_bl, noLoc_str, noLoc_scr, noLoc_tup, noLoc_lst, noLoc_dic, noLoc_ins, noLocL_ints, Bool.and_self, Bool.and_true, Bool.true_and, and_self, isNonD, Nat.reduceLeDiff, Nat.reduceLT, Nat.reduceEqDiff, Int.reduceAdd, Int.reduceSub, Int.reduceLT, Int.reduceLE, Int.reduceEq, Int.reduceNeg, Int.reduceMod, Int.reduceToNat, v_fm, v_call, altOf_hd, altOf_tl, ixL0, ixL1, ixL2, ixT0, ixT1, ixT2, ixT3, ixT4, ixT5, add_int, len_lst, len_tup, fst_ok, mPop_end, noLoc_encB, ne_eq, not_true, not_false_eq_true, not_true_eq_false, mod_ok, div_ok, sto_assoc, sto_cons, sto_nil, set_int, app_int, app_bk, app_P, app_C, ne_pair, eq_pair, eq_self, List.getElem?_nil, ixB0, ixB1, ixB2, sl_map, ne_bl, eq_bl, ht, h1, h2, lc, lr, c2]
    all_goals rfl
  | false =>
    rw [hb] at h1
    simp only [v_seq, seq_nx, seq_rt, v_meth, bind0_ok, v_lift, v_lend0, v_lend1, consO_some, v_lendD, Res.bind_ok, Res.out_ok, List.getElem?_cons_zero, List.getElem?_cons_succ, List.set_cons_zero, List.set_cons_succ, eVar, eC, eOp, eUn, uNeg, eIx, aNil, aCons, eTup, eLst, eDicF, newL, eCB, eCallT, eAnd, eOr, eNot, eIf, tBl, tNot, tAnd, tOr, eFld, eBM, mAppend, eMake0, pNone, pSome, eSl, eSl3, sAsg, sExpr, sRet, sIf, sNil, sPar, sPar3, sAug, sPut, sPuts, bindP, bindPs, wipeE_nil, wipeE_cons, startE_eq, List.replicate, List.length_cons, List.length_nil, List.length_append, oIsN, oIsNot, oSub, oLt, oLe, oGt, oAddI, Bool.false_eq_true, Bool.not_true, Bool.not_false, decide_true, decide_false, reduceIte, reduceCtorEq, Nat.reduceAdd, Nat.reduceSub, Nat.add_zero, Nat.zero_add, app_get, app_get0, app_set, app_set0, oEq_int, oNe_int, noLocL_nil, noLocL_cons, noLoc_non, noLoc_int, noLoc_bl, noLoc_str, noLoc_scr, noLoc_tup, noLoc_lst, noLoc_dic, noLoc_ins, noLocL_ints, Bool.and_self, Bool.and_true, Bool.true_and, and_self, isNonD, Nat.reduceLeDiff, Nat.reduceLT, Nat.reduceEqDiff, Int.reduceAdd, Int.reduceSub, Int.reduceLT, Int.reduceLE, Int.reduceEq, Int.reduceNeg, Int.reduceMod, Int.reduceToNat, v_fm, v_call, altOf_hd, altOf_tl, ixL0, ixL1, ixL2, ixT0, ixT1, ixT2, ixT3, ixT4, ixT5, add_int, len_lst, len_tup, fst_ok, mPop_end, noLoc_encB, ne_eq, not_true, not_false_eq_true, not_true_eq_false, mod_ok, div_ok, sto_assoc, sto_cons, sto_nil, set_int, app_int, app_bk, app_P, app_C, ne_pair, eq_pair, eq_self, List.getElem?_nil, ixB0, ixB1, ixB2, sl_map, ne_bl, eq_bl, ht, h1, h2, lc, lr, c2]
    all_goals rfl
theorem all_bl {α : Type} (f : α → Bool) (xs : List α) {s : Sto} : fAll [.lst (xs.map fun x => .bl (f x))] s = .ok (.bl (xs.all f)) s := by
  have h := blsOf_map (xs.map f)
  rw [List.map_map] at h
  have e : (xs.map fun x => DV.bl (f x)) = xs.map (DV.bl ∘ f) := rfl
  simp only [fAll, lsqOf, lstOf, e, Option.bind_some, h]
  simp [List.all_map]
  all_goals rfl
end BB
namespace BB
open PySem L2
/-! A slab in hand. -/
structure Sl where
  B : Bar
  m : Int
  Ps : List Pc
  paid : Int
  done : List Bk
abbrev slabN : List Str := ["bar", "most", "parts", "paid", "done"]
def slabO (bar most parts paid done : DV) : DO := .ins 5 slabN [bar, most, parts, paid, done]
/-- a slab as a callee sees it -/
def slabI (S : Sl) : DV := .insG true 5 slabN [encB (true, true, false) S.B, .int S.m, .lst (S.Ps.map encP), .int S.paid, .lstG true (S.done.map encBk)]
structure SlabAt (s : Sto) (j a b d : Nat) (S : Sl) : Prop where
  o : s[j]? = some (slabO (.tup [.loc a, .loc b, .lst (S.B.nuts.map encC)]) (.int S.m) (.lst (S.Ps.map encP)) (.int S.paid) (.loc d))
  p : s[a]? = some (.lst (S.B.p.map .int))
  q : s[b]? = some (.lst (S.B.q.map .int))
  k : s[d]? = some (.lst (S.done.map encBk))
  ab : a ≠ b
  ad : a ≠ d
  bd : b ≠ d
structure OkS (S : Sl) : Prop where
  b : OkBar S.B
  m : 1 ≤ S.m ∧ S.m ≤ 3
  ps : Apart S.B S.Ps
  dl : S.done.length + 1 = S.Ps.length
theorem allP_few {B : Bar} (o : OkBar B) : (allP B).length ≤ 625 := by
  have h1 := o.pl
  have h2 := o.ql
  unfold allP
  refine Nat.le_trans (flatMap_len (n := 125) fun l hl => Nat.le_trans (flatMap_len (n := 25) fun t ht => Nat.le_trans (flatMap_len (n := 5) fun r hr => ?_) ?_) ?_) ?_
  · have := mem_irange.mp ht
    simp [irange_len]; omega
  · have := mem_irange.mp hl
    rw [irange_len]; omega
  · rw [irange_len]; omega
  · rw [irange_len]; omega
theorem OkS.pl {S : Sl} (o : OkS S) : S.Ps.length ≤ 625 :=
  Nat.le_trans (List.Nodup.length_le_of_subset o.ps.nodup fun P hP => o.ps.mem P hP) (allP_few o.b)
section
variable {s : Sto} {j a b d : Nat} {S : Sl} {x1 x2 x3 x4 x5 y : DV}
theorem SlabAt.ld (h : SlabAt s j a b d S) : Ld s (.loc j) (slabI S) := by
  have h1 : noLocL (S.B.p.map DV.int) = true := by simp
  have h2 : noLocL (S.B.q.map DV.int) = true := by simp
  have h3 : noLocL (S.B.nuts.map encC) = true := by simp
  have h4 : noLocL (S.Ps.map encP) = true := by simp
  have h5 : noLocL (S.done.map encBk) = true := by simp
  simp [Ld, frzW, flk, flookW, h.o, slabO, h.p, h.q, h.k, frzWL, lendWL_id _ _ h1, lendWL_id _ _ h2, lendWL_id _ _ h3, lendWL_id _ _ h4, lendWL_id _ _ h5, slabI, encB]
theorem SlabAt.ja (h : SlabAt s j a b d S) : j ≠ a := fun z => by have := h.o; rw [z, h.p] at this; cases this
theorem SlabAt.jb (h : SlabAt s j a b d S) : j ≠ b := fun z => by have := h.o; rw [z, h.q] at this; cases this
theorem SlabAt.jd (h : SlabAt s j a b d S) : j ≠ d := fun z => by have := h.o; rw [z, h.k] at this; cases this
theorem SlabAt.app (h : SlabAt s j a b d S) (x : Sto) : SlabAt (s ++ x) j a b d S := ⟨app_old h.o x, app_old h.p x, app_old h.q x, app_old h.k x, h.ab, h.ad, h.bd⟩
theorem SlabAt.ins (h : SlabAt s j a b d S) : insOf s (.loc j) = some (5, slabN, [DV.tup [.loc a, .loc b, .lst (S.B.nuts.map encC)], .int S.m, .lst (S.Ps.map encP), .int S.paid, .loc d]) := by simp only [insOf, h.o, slabO]
theorem sf_bar (h : s[j]? = some (slabO x1 x2 x3 x4 x5)) : fldD clsF "bar" (.loc j) s = .ok x1 s := by
  simp only [fldD, insOf, h, slabO]; rw [if_pos (by decide)]; rfl
theorem sf_most (h : s[j]? = some (slabO x1 x2 x3 x4 x5)) : fldD clsF "most" (.loc j) s = .ok x2 s := by
  simp only [fldD, insOf, h, slabO]; rw [if_pos (by decide)]; rfl
theorem sf_parts (h : s[j]? = some (slabO x1 x2 x3 x4 x5)) : fldD clsF "parts" (.loc j) s = .ok x3 s := by
  simp only [fldD, insOf, h, slabO]; rw [if_pos (by decide)]; rfl
theorem sf_paid (h : s[j]? = some (slabO x1 x2 x3 x4 x5)) : fldD clsF "paid" (.loc j) s = .ok x4 s := by
  simp only [fldD, insOf, h, slabO]; rw [if_pos (by decide)]; rfl
theorem sf_done (h : s[j]? = some (slabO x1 x2 x3 x4 x5)) : fldD clsF "done" (.loc j) s = .ok x5 s := by
  simp only [fldD, insOf, h, slabO]; rw [if_pos (by decide)]; rfl
theorem sp_bar (h : s[j]? = some (slabO x1 x2 x3 x4 x5)) : putFld clsF "bar" (.loc j) y s = .ok () (s.set j (slabO y x2 x3 x4 x5)) := by
  simp only [putFld, h, slabO]; rw [if_pos (by decide)]; rfl
theorem sp_parts (h : s[j]? = some (slabO x1 x2 x3 x4 x5)) : putFld clsF "parts" (.loc j) y s = .ok () (s.set j (slabO x1 x2 y x4 x5)) := by
  simp only [putFld, h, slabO]; rw [if_pos (by decide)]; rfl
theorem sp_paid (h : s[j]? = some (slabO x1 x2 x3 x4 x5)) : putFld clsF "paid" (.loc j) y s = .ok () (s.set j (slabO x1 x2 x3 y x5)) := by
  simp only [putFld, h, slabO]; rw [if_pos (by decide)]; rfl
theorem si_bar : fldD clsF "bar" (slabI S) s = .ok (encB (true, true, false) S.B) s := rfl
theorem si_most : fldD clsF "most" (slabI S) s = .ok (.int S.m) s := rfl
theorem si_parts : fldD clsF "parts" (slabI S) s = .ok (.lst (S.Ps.map encP)) s := rfl
theorem si_paid : fldD clsF "paid" (slabI S) s = .ok (.int S.paid) s := rfl
theorem si_done : fldD clsF "done" (slabI S) s = .ok (.lstG true (S.done.map encBk)) s := rfl
theorem ns_owed : (("owed" : Str) ∉ slabN) := by decide
theorem ns_slab : (("owed" : Str) ∉ slabN) ∧ (("snap" : Str) ∉ slabN) ∧ (("nut" : Str) ∉ slabN) ∧ (("set_price" : Str) ∉ slabN) ∧ (("helpful" : Str) ∉ slabN) ∧ (("pieces" : Str) ∉ slabN) ∧ (("spent" : Str) ∉ slabN) ∧ (("plan" : Str) ∉ slabN) ∧ (("bar_now" : Str) ∉ slabN) := by decide
theorem SlabAt.setParts (h : SlabAt s j a b d S) (Ps : List Pc) (paid : Int) : SlabAt (s.set j (slabO (.tup [.loc a, .loc b, .lst (S.B.nuts.map encC)]) (.int S.m) (.lst (Ps.map encP)) (.int paid) (.loc d))) j a b d ⟨S.B, S.m, Ps, paid, S.done⟩ :=
  ⟨set_get h.o, by rw [List.getElem?_set_ne h.ja]; exact h.p, by rw [List.getElem?_set_ne h.jb]; exact h.q, by rw [List.getElem?_set_ne h.jd]; exact h.k, h.ab, h.ad, h.bd⟩
theorem SlabAt.setDone (h : SlabAt s j a b d S) (ks : List Bk) : SlabAt (s.set d (.lst (ks.map encBk))) j a b d ⟨S.B, S.m, S.Ps, S.paid, ks⟩ :=
  ⟨by rw [List.getElem?_set_ne (Ne.symm h.jd)]; exact h.o, by rw [List.getElem?_set_ne (Ne.symm h.ad)]; exact h.p, by rw [List.getElem?_set_ne (Ne.symm h.bd)]; exact h.q, set_get h.k, h.ab, h.ad, h.bd⟩
theorem SlabAt.setP (h : SlabAt s j a b d S) (p : List Int) : SlabAt (s.set a (.lst (p.map .int))) j a b d ⟨⟨p, S.B.q, S.B.nuts⟩, S.m, S.Ps, S.paid, S.done⟩ :=
  ⟨by rw [List.getElem?_set_ne (Ne.symm h.ja)]; exact h.o, set_get h.p, by rw [List.getElem?_set_ne h.ab]; exact h.q, by rw [List.getElem?_set_ne h.ad]; exact h.k, h.ab, h.ad, h.bd⟩
theorem SlabAt.setQ (h : SlabAt s j a b d S) (q : List Int) : SlabAt (s.set b (.lst (q.map .int))) j a b d ⟨⟨S.B.p, q, S.B.nuts⟩, S.m, S.Ps, S.paid, S.done⟩ :=
  ⟨by rw [List.getElem?_set_ne (Ne.symm h.jb)]; exact h.o, by rw [List.getElem?_set_ne (Ne.symm h.ab)]; exact h.p, set_get h.q, by rw [List.getElem?_set_ne h.bd]; exact h.k, h.ab, h.ad, h.bd⟩
theorem SlabAt.setN (h : SlabAt s j a b d S) (nu : List (Int × Int)) : SlabAt (s.set j (slabO (.tup [.loc a, .loc b, .lst (nu.map encC)]) (.int S.m) (.lst (S.Ps.map encP)) (.int S.paid) (.loc d))) j a b d ⟨⟨S.B.p, S.B.q, nu⟩, S.m, S.Ps, S.paid, S.done⟩ :=
  ⟨set_get h.o, by rw [List.getElem?_set_ne h.ja]; exact h.p, by rw [List.getElem?_set_ne h.jb]; exact h.q, by rw [List.getElem?_set_ne h.jd]; exact h.k, h.ab, h.ad, h.bd⟩
/-- a cell of the store that is none of the slab's -/
theorem SlabAt.other (h : SlabAt s j a b d S) {n : Nat} {x : DO} (h1 : j ≠ n) (h2 : a ≠ n) (h3 : b ≠ n) (h4 : d ≠ n) : SlabAt (s.set n x) j a b d S :=
  ⟨by rw [List.getElem?_set_ne (Ne.symm h1)]; exact h.o, by rw [List.getElem?_set_ne (Ne.symm h2)]; exact h.p, by rw [List.getElem?_set_ne (Ne.symm h3)]; exact h.q, by rw [List.getElem?_set_ne (Ne.symm h4)]; exact h.k, h.ab, h.ad, h.bd⟩
end
/-! what is owed -/
theorem e_owed {S : Sl} (o : OkS S) : G_Slab_owed [slabI S] = .ok (.int (costs S.B S.m S.Ps)) := by
  refine runP_rt (sto := []) (d := .int (costs S.B S.m S.Ps)) rfl ?_ (by simp)
  unfold m_Slab_owed
  rw [show startE N_Slab_owed [slabI S] = [some (slabI S), none, none] from rfl]
  have hc := e_costs (tg := (true, true, false)) S.B S.m o.b.pl o.b.ql o.b.nl
  have h1 : sAsg (.nm 1) (eIx (eCall G_costs_of (aCons (eFld clsF "bar" (eVar 0)) (aCons (eFld clsF "most" (eVar 0)) aNil))) (eC (.int 0))) [some (slabI S), none, none] [] = .nx [some (slabI S), some (dC' S.B S.m), none] [] := by
    simp only [v_seq, seq_nx, seq_rt, v_meth, bind0_ok, v_lift, v_lend0, v_lend1, consO_some, v_lendD, Res.bind_ok, Res.out_ok, List.getElem?_cons_zero, List.getElem?_cons_succ, List.set_cons_zero, List.set_cons_succ, eVar, eC, eOp, eUn, uNeg, eIx, aNil, aCons, eTup, eLst, eDicF, newL, eCB, eCallT, eAnd, eOr, eNot, eIf, tBl, tNot, tAnd, tOr, eFld, eBM, mAppend, eMake0, pNone, pSome, eSl, eSl3, sAsg, sExpr, sRet, sIf, sNil, sPar, sPar3, sAug, sPut, sPuts, bindP, bindPs, wipeE_nil, wipeE_cons, startE_eq, List.replicate, List.length_cons, List.length_nil, List.length_append, oIsN, oIsNot, oSub, oLt, oLe, oGt, oAddI, Bool.false_eq_true, Bool.not_true, Bool.not_false, decide_true, decide_false, reduceIte, reduceCtorEq, Nat.reduceAdd, Nat.reduceSub, Nat.add_zero, Nat.zero_add, app_get, app_get0, app_set, app_set0, oEq_int, oNe_int, noLocL_nil, noLocL_cons, noLoc_non, noLoc_int, noLoc_bl, noLoc_str, noLoc_scr, noLoc_tup, noLoc_lst, noLoc_dic, noLoc_ins, noLocL_ints, Bool.and_self, Bool.and_true, Bool.true_and, and_self, isNonD, Nat.reduceLeDiff, Nat.reduceLT, Nat.reduceEqDiff, Int.reduceAdd, Int.reduceSub, Int.reduceLT, Int.reduceLE, Int.reduceEq, Int.reduceNeg, Int.reduceMod, Int.reduceToNat, v_fm, v_call, altOf_hd, altOf_tl, ixL0, ixL1, ixL2, ixT0, ixT1, ixT2, ixT3, ixT4, ixT5, add_int, len_lst, len_tup, fst_ok, mPop_end, noLoc_encB, ne_eq, not_true, not_false_eq_true, not_true_eq_false, mod_ok, div_ok, sto_assoc, sto_cons, sto_nil, set_int, app_int, app_bk, app_P, app_C, ne_pair, eq_pair, eq_self, List.getElem?_nil, ixB0, ixB1, ixB2, sl_map, ne_bl, eq_bl, si_bar, si_most, hc]
    rfl
  rw [sSeq_nx h1]
  have hcomp : eComp false [2] (iSeq (eFld clsF "parts" (eVar 0))) (.nm 2) tYes1 (eIx (eVar 1) (eVar 2)) [some (slabI S), some (dC' S.B S.m), none] [] = .ok (.lst (S.Ps.map fun P => .int (cw S.B S.m P).1)) [] := by
    rw [comp_map (enc := encP) (Y := fun P => .int (cw S.B S.m P).1) (ys := S.Ps) (s := []) (iSeq_lst (gg := false) rfl) (by have := o.pl; omega) fun P hP => ⟨[some (slabI S), some (dC' S.B S.m), some (encP P)], rfl, by
      rw [eIx_ok (x := dC' S.B S.m) (y := encP P) (s1 := []) (s2 := []) rfl rfl, ix_dC (o.ps.mem P hP)]⟩]
    rfl
  refine sRet_ok ?_
  rw [eCB_ok (a1_ok hcomp)]
  simp only [fSum, lsqOf, lstOf, Option.bind_some]
  rw [show (S.Ps.map fun P => DV.int (cw S.B S.m P).1) = (S.Ps.map fun P => (cw S.B S.m P).1).map .int by simp, intsOf_map]
  rfl
theorem SlabAt.owed {s : Sto} {j a b d : Nat} {S : Sl} (h : SlabAt s j a b d S) (o : OkS S) {e : EM} {env : Env} (he : e env s = .ok (.loc j) s) : eMeth [(5, (liftP G_Slab_owed))] "owed" e aNil env s = .ok (.int (costs S.B S.m S.Ps)) s :=
  eMethL he h.o ns_owed rfl rfl (lend_cons h.ld lend_nil) (e_owed o)
end BB
namespace BB
open PySem L2
variable {tg : Tg}
local macro_rules | `(tactic| walk_at "ev") => `(tactic| simp [sRet, sSeq, sIf, sAsg, sPar, sExpr, sNever, sNil, sAug, tBl, tAnd, tOr, tNot, eTup, eLst, aCons, aNil, eC, eOp, eUn, uNeg, eCB, eCallT, liftP, lend_id, eIx, eSl, pSome, pNone, eVar, eAnd, eOr, eNot, eIf, eChain, fLen, fIsi, tyD, seqOf, lstOf, ixD, dicOf, atI, ixN, oAdd, oSub, oLt, oLe, oGt, oAddI, bindP, bindPs, kb_int_int, kb_int_bool, kb_list_list, kb_tuple_tuple, iSeq, srcOf, iRange1, iRange2])
theorem e_broken {gg : Bool} (Ps : List Pc) (k : Bk) (hl : Ps.length ≤ 900000) : G_broken [.lstG gg (Ps.map encP), encBk k] = .ok (.lst ((brk Ps k).map encP)) := by
  refine runP_rt (sto := []) rfl ?_ (by simp)
  simp only [m_broken]
  rw [sSeq_nx (sAsg_ok (e := [some (.lstG gg (Ps.map encP)), some (encBk k), some (.tup [encP (part1 k.P k.w k.x), encP (part2 k.P k.w k.x)]), none]) (eCall_ok (ds := [encP k.P, .int k.w, .int k.x]) (s := []) rfl (by simp) (e_parts _ _ _)) rfl)]
  refine sRet_ok ?_
  have hf : (Ps.filter (fun P => !decide (P = k.P))).length ≤ Ps.length := List.length_filter_le _ _
  rw [eCB_ok (a1_ok (d := .lst ((Ps.filter (fun P => !decide (P = k.P)) ++ [part1 k.P k.w k.x, part2 k.P k.w k.x]).map encP)) (s1 := []) ?_)]
  · rw [sort_P (by simp; omega)]; rfl
  rw [eOp_ok (x := .lst ((Ps.filter (fun P => !decide (P = k.P))).map encP)) (y := .lst ([part1 k.P k.w k.x, part2 k.P k.w k.x].map encP)) (s1 := []) (s2 := [])]
  · rw [add_lst (by simp; omega)]; simp
  · rw [comp_filter (enc := encP) (b := fun P => !decide (P = k.P)) (Y := encP) (ys := Ps) (s := []) (iSeq_lst rfl) (by omega)]
    · rfl
    intro P hP
    refine ⟨[some (.lstG gg (Ps.map encP)), some (encBk k), some (.tup [encP (part1 k.P k.w k.x), encP (part2 k.P k.w k.x)]), some (encP P)], rfl, ?_, fun _ => rfl⟩
    simp only [tBl]
    rw [eOp_ok (x := encP P) (y := encP k.P) (s1 := []) (s2 := []) rfl rfl, oNe_dat dP dP (by omega)]
    rfl
  · rfl
end BB
namespace BB
open PySem L2
def snapS (S : Sl) (k : Bk) : Sl := ⟨S.B, S.m, brk S.Ps k, S.paid + price S.B k.w k.x, S.done ++ [k]⟩
theorem snap_ok {S : Sl} (o : OkS S) {k : Bk} (h : isBk S.Ps k = true) : OkS (snapS S k) := by
  refine ⟨o.b, o.m, o.ps.brk h, ?_⟩
  have hp := erase_cut o.ps (List.Perm.refl S.Ps) k
  have hk : k.P ∈ S.Ps := by simp only [isBk, Bool.and_eq_true, decide_eq_true_eq] at h; exact h.1
  have hl := hp.length_eq
  have hpos := List.length_pos_of_mem hk
  simp only [List.length_append, List.length_erase_of_mem hk, List.length_cons, List.length_nil] at hl
  simp only [snapS, List.length_append, List.length_cons, List.length_nil, hl]
  have := o.dl
  omega
theorem isi_tup {s : Sto} {xs : List DV} : fIsi [.tup xs, .ty "tuple"] s = .ok (.bl true) s := by simp [fIsi, tyD, kb_tuple_tuple]
theorem whole4 {e : Env} {s : Sto} {P : Pc} (h1 : e[1]? = some (some (encP P))) (hn : e.length = 5) : eComp false [4] (iSeq (eVar 1)) (.nm 4) tYes1 (eCall G_is_whole (aCons (eVar 4) aNil)) e s = .ok (.lst ((tI P).map fun _ => .bl true)) s :=
  comp_map (enc := DV.int) (Y := fun _ => .bl true) (ys := tI P) (s := s) (iSeq_tup (ds := (tI P).map .int) (by simp only [eVar, h1]; rfl)) (by simp [tI]) fun y hy => ⟨(wipeE e [4]).set 4 (some (.int y)), rfl, eCall_ok (ds := [.int y]) (by
    have : ((wipeE e [4]).set 4 (some (.int y)))[4]? = some (some (.int y)) := by simp [wipeE, hn]
    simp only [aCons, aNil, eVar, this, Res.bind_ok]) (by simp) (e_iswhole y)⟩
theorem notIn_P {s : Sto} {g : Bool} (P : Pc) (Ps : List Pc) : oNotIn (encP P) (.lstG g (Ps.map encP)) s = .ok (.bl (!decide (P ∈ Ps))) s := by
  have h := oIn_dat (sto := s) (gg := g) dP dP (by omega) P Ps
  unfold oIn at h
  unfold oNotIn
  split at h
  · split at h
    · rename_i h1 h2
      rw [if_pos h2]
      simp only [Res.ok.injEq, DV.bl.injEq, and_true] at h
      rw [h]
      first | done | congr
    · cases h
  · cases h
theorem notIn_C {s : Sto} {g : Bool} (P : Int × Int) (Ps : List (Int × Int)) : oNotIn (encC P) (.lstG g (Ps.map encC)) s = .ok (.bl (!decide (P ∈ Ps))) s := by
  have h := oIn_dat (sto := s) (gg := g) dC dC (by omega) P Ps
  unfold oIn at h
  unfold oNotIn
  split at h
  · split at h
    · rename_i h1 h2
      rw [if_pos h2]
      simp only [Res.ok.injEq, DV.bl.injEq, and_true] at h
      rw [h]
      first | done | congr
    · cases h
  · cases h
theorem ls_P (P : Pc) : fLen [encP P] = fun s => .ok (.int 4) s := rfl
/-- a piece broken along one of its lines -/
theorem e_snap {s : Sto} {j a b d : Nat} {S : Sl} (h : SlabAt s j a b d S) (o : OkS S) {P : Pc} {w x : Int} (hP : P ∈ S.Ps) (hl : (w, x) ∈ linesD P) :
    ∃ s', T_Slab_snap [.loc j, encP P, .int w, .int x] s = .ok (.int (costs S.B S.m (brk S.Ps ⟨P, w, x⟩))) s' ∧ SlabAt s' j a b d (snapS S ⟨P, w, x⟩) ∧ (∀ n, n ≠ j → n ≠ d → s'[n]? = s[n]?) ∧ s'.length = s.length := by
  have hpm := o.ps.mem P hP
  have hlo := line_ok hpm hl
  have hpl := o.b.pl
  have hql := o.b.ql
  have hbk : isBk S.Ps ⟨P, w, x⟩ = true := by simp only [isBk, Bool.and_eq_true, decide_eq_true_eq]; exact ⟨hP, hl⟩
  have o' := snap_ok o hbk
  have hsl := o.pl
  have hdl := o.dl
  have eb : DV.tup [.int P.l, .int P.t, .int P.r, .int P.b, .int w, .int x] = encBk ⟨P, w, x⟩ := rfl
  have hadd : ∀ s, oAdd false (encP P) (.tup [.int w, .int x]) s = .ok (encBk ⟨P, w, x⟩) s := fun s => rfl
  have ec : DV.tup [.int w, .int x] = encC (w, x) := rfl
  have hpr := e_price (tg := (true, true, false)) S.B w x hlo.1 hlo.2
  have hbr := e_broken (gg := false) S.Ps ⟨P, w, x⟩ (by omega)
  have hli := e_lines P (small_of (by omega) (by omega) hpm)
  have main : Rt (m_Slab_snap (startE N_Slab_snap [.loc j, encP P, .int w, .int x]) s) fun r s' => r = .int (costs S.B S.m (brk S.Ps ⟨P, w, x⟩)) ∧ SlabAt s' j a b d (snapS S ⟨P, w, x⟩) ∧ (∀ n, n ≠ j → n ≠ d → s'[n]? = s[n]?) ∧ s'.length = s.length := by
    unfold m_Slab_snap
    rw [show startE N_Slab_snap [.loc j, encP P, .int w, .int x] = [some (.loc j), some (encP P), some (.int w), some (.int x), none] from rfl]
    have t1 : fIsi [encP P, .ty "tuple"] s = .ok (.bl true) s := isi_tup
    (first | apply rt_go | apply nx_go); focus (simp only [v_seq, seq_nx, seq_rt, v_meth, bind0_ok, v_lift, v_lend0, v_lend1, consO_some, v_lendD, Res.bind_ok, Res.out_ok, List.getElem?_cons_zero, List.getElem?_cons_succ, List.set_cons_zero, List.set_cons_succ, eVar, eC, eOp, eUn, uNeg, eIx, aNil, aCons, eTup, eLst, eDicF, newL, eCB, eCallT, eAnd, eOr, eNot, eIf, tBl, tNot, tAnd, tOr, eFld, eBM, mAppend, eMake0, pNone, pSome, eSl, eSl3, sAsg, sExpr, sRet, sIf, sNil, sPar, sPar3, sAug, sPut, sPuts, bindP, bindPs, wipeE_nil, wipeE_cons, startE_eq, List.replicate, List.length_cons, List.length_nil, List.length_append, oIsN, oIsNot, oSub, oLt, oLe, oGt, oAddI, Bool.false_eq_true, Bool.not_true, Bool.not_false, decide_true, decide_false, reduceIte, reduceCtorEq, Nat.reduceAdd, Nat.reduceSub, Nat.add_zero, Nat.zero_add, app_get, app_get0, app_set, app_set0, oEq_int, oNe_int, noLocL_nil, noLocL_cons, noLoc_non, noLoc_int, noLoc_bl, noLoc_str, noLoc_scr, noLoc_tup, noLoc_lst, noLoc_dic, noLoc_ins, noLocL_ints, Bool.and_self, Bool.and_true, Bool.true_and, and_self, isNonD, Nat.reduceLeDiff, Nat.reduceLT, Nat.reduceEqDiff, Int.reduceAdd, Int.reduceSub, Int.reduceLT, Int.reduceLE, Int.reduceEq, Int.reduceNeg, Int.reduceMod, Int.reduceToNat, v_fm, v_call, altOf_hd, altOf_tl, ixL0, ixL1, ixL2, ixT0, ixT1, ixT2, ixT3, ixT4, ixT5, add_int, len_lst, len_tup, fst_ok, mPop_end, noLoc_encB, ne_eq, not_true, not_false_eq_true, not_true_eq_false, mod_ok, div_ok, sto_assoc, sto_cons, sto_nil, set_int, app_int, app_bk, app_P, app_C, ne_pair, eq_pair, eq_self, List.getElem?_nil, ixB0, ixB1, ixB2, sl_map, ne_bl, eq_bl, t1, ls_P, whole4 (P := P), all_true]; first | done | exact rfl)
    (first | apply rt_go | apply nx_go); focus (simp only [v_seq, seq_nx, seq_rt, v_meth, bind0_ok, v_lift, v_lend0, v_lend1, consO_some, v_lendD, Res.bind_ok, Res.out_ok, List.getElem?_cons_zero, List.getElem?_cons_succ, List.set_cons_zero, List.set_cons_succ, eVar, eC, eOp, eUn, uNeg, eIx, aNil, aCons, eTup, eLst, eDicF, newL, eCB, eCallT, eAnd, eOr, eNot, eIf, tBl, tNot, tAnd, tOr, eFld, eBM, mAppend, eMake0, pNone, pSome, eSl, eSl3, sAsg, sExpr, sRet, sIf, sNil, sPar, sPar3, sAug, sPut, sPuts, bindP, bindPs, wipeE_nil, wipeE_cons, startE_eq, List.replicate, List.length_cons, List.length_nil, List.length_append, oIsN, oIsNot, oSub, oLt, oLe, oGt, oAddI, Bool.false_eq_true, Bool.not_true, Bool.not_false, decide_true, decide_false, reduceIte, reduceCtorEq, Nat.reduceAdd, Nat.reduceSub, Nat.add_zero, Nat.zero_add, app_get, app_get0, app_set, app_set0, oEq_int, oNe_int, noLocL_nil, noLocL_cons, noLoc_non, noLoc_int, noLoc_bl, noLoc_str, noLoc_scr, noLoc_tup, noLoc_lst, noLoc_dic, noLoc_ins, noLocL_ints, Bool.and_self, Bool.and_true, Bool.true_and, and_self, isNonD, Nat.reduceLeDiff, Nat.reduceLT, Nat.reduceEqDiff, Int.reduceAdd, Int.reduceSub, Int.reduceLT, Int.reduceLE, Int.reduceEq, Int.reduceNeg, Int.reduceMod, Int.reduceToNat, v_fm, v_call, altOf_hd, altOf_tl, ixL0, ixL1, ixL2, ixT0, ixT1, ixT2, ixT3, ixT4, ixT5, add_int, len_lst, len_tup, fst_ok, mPop_end, noLoc_encB, ne_eq, not_true, not_false_eq_true, not_true_eq_false, mod_ok, div_ok, sto_assoc, sto_cons, sto_nil, set_int, app_int, app_bk, app_P, app_C, ne_pair, eq_pair, eq_self, List.getElem?_nil, ixB0, ixB1, ixB2, sl_map, ne_bl, eq_bl, sf_parts h.o, notIn_P, hP]; first | done | exact rfl)
    have hnin : oNotIn (.tup [.int w, .int x]) (.lst ((linesD P).map encC)) s = .ok (.bl false) s := by
      rw [ec, notIn_C, decide_eq_true hl]; rfl
    (first | apply rt_go | apply nx_go); focus (simp only [v_seq, seq_nx, seq_rt, v_meth, bind0_ok, v_lift, v_lend0, v_lend1, consO_some, v_lendD, Res.bind_ok, Res.out_ok, List.getElem?_cons_zero, List.getElem?_cons_succ, List.set_cons_zero, List.set_cons_succ, eVar, eC, eOp, eUn, uNeg, eIx, aNil, aCons, eTup, eLst, eDicF, newL, eCB, eCallT, eAnd, eOr, eNot, eIf, tBl, tNot, tAnd, tOr, eFld, eBM, mAppend, eMake0, pNone, pSome, eSl, eSl3, sAsg, sExpr, sRet, sIf, sNil, sPar, sPar3, sAug, sPut, sPuts, bindP, bindPs, wipeE_nil, wipeE_cons, startE_eq, List.replicate, List.length_cons, List.length_nil, List.length_append, oIsN, oIsNot, oSub, oLt, oLe, oGt, oAddI, Bool.false_eq_true, Bool.not_true, Bool.not_false, decide_true, decide_false, reduceIte, reduceCtorEq, Nat.reduceAdd, Nat.reduceSub, Nat.add_zero, Nat.zero_add, app_get, app_get0, app_set, app_set0, oEq_int, oNe_int, noLocL_nil, noLocL_cons, noLoc_non, noLoc_int, noLoc_bl, noLoc_str, noLoc_scr, noLoc_tup, noLoc_lst, noLoc_dic, noLoc_ins, noLocL_ints, Bool.and_self, Bool.and_true, Bool.true_and, and_self, isNonD, Nat.reduceLeDiff, Nat.reduceLT, Nat.reduceEqDiff, Int.reduceAdd, Int.reduceSub, Int.reduceLT, Int.reduceLE, Int.reduceEq, Int.reduceNeg, Int.reduceMod, Int.reduceToNat, v_fm, v_call, altOf_hd, altOf_tl, ixL0, ixL1, ixL2, ixT0, ixT1, ixT2, ixT3, ixT4, ixT5, add_int, len_lst, len_tup, fst_ok, mPop_end, noLoc_encB, ne_eq, not_true, not_false_eq_true, not_true_eq_false, mod_ok, div_ok, sto_assoc, sto_cons, sto_nil, set_int, app_int, app_bk, app_P, app_C, ne_pair, eq_pair, eq_self, List.getElem?_nil, ixB0, ixB1, ixB2, sl_map, ne_bl, eq_bl, e_iswhole, hli, hnin, noLoc_encP]; first | done | exact rfl)
    (first | apply rt_go | apply nx_go); focus (simp only [v_seq, seq_nx, seq_rt, v_meth, bind0_ok, v_lift, v_lend0, v_lend1, consO_some, v_lendD, Res.bind_ok, Res.out_ok, List.getElem?_cons_zero, List.getElem?_cons_succ, List.set_cons_zero, List.set_cons_succ, eVar, eC, eOp, eUn, uNeg, eIx, aNil, aCons, eTup, eLst, eDicF, newL, eCB, eCallT, eAnd, eOr, eNot, eIf, tBl, tNot, tAnd, tOr, eFld, eBM, mAppend, eMake0, pNone, pSome, eSl, eSl3, sAsg, sExpr, sRet, sIf, sNil, sPar, sPar3, sAug, sPut, sPuts, bindP, bindPs, wipeE_nil, wipeE_cons, startE_eq, List.replicate, List.length_cons, List.length_nil, List.length_append, oIsN, oIsNot, oSub, oLt, oLe, oGt, oAddI, Bool.false_eq_true, Bool.not_true, Bool.not_false, decide_true, decide_false, reduceIte, reduceCtorEq, Nat.reduceAdd, Nat.reduceSub, Nat.add_zero, Nat.zero_add, app_get, app_get0, app_set, app_set0, oEq_int, oNe_int, noLocL_nil, noLocL_cons, noLoc_non, noLoc_int, noLoc_bl, noLoc_str, noLoc_scr, noLoc_tup, noLoc_lst, noLoc_dic, noLoc_ins, noLocL_ints, Bool.and_self, Bool.and_true, Bool.true_and, and_self, isNonD, Nat.reduceLeDiff, Nat.reduceLT, Nat.reduceEqDiff, Int.reduceAdd, Int.reduceSub, Int.reduceLT, Int.reduceLE, Int.reduceEq, Int.reduceNeg, Int.reduceMod, Int.reduceToNat, v_fm, v_call, altOf_hd, altOf_tl, ixL0, ixL1, ixL2, ixT0, ixT1, ixT2, ixT3, ixT4, ixT5, add_int, len_lst, len_tup, fst_ok, mPop_end, noLoc_encB, ne_eq, not_true, not_false_eq_true, not_true_eq_false, mod_ok, div_ok, sto_assoc, sto_cons, sto_nil, set_int, app_int, app_bk, app_P, app_C, ne_pair, eq_pair, eq_self, List.getElem?_nil, ixB0, ixB1, ixB2, sl_map, ne_bl, eq_bl, sFld, sf_parts h.o, hadd, hbr, sp_parts h.o, noLocL_encP, noLoc_encBk]; first | done | exact rfl)
    have h2 := h.setParts (brk S.Ps ⟨P, w, x⟩) S.paid
    have lb : lendD (s.set j (slabO (.tup [.loc a, .loc b, .lst (S.B.nuts.map encC)]) (.int S.m) (.lst ((brk S.Ps ⟨P, w, x⟩).map encP)) (.int S.paid) (.loc d))) (.tup [.loc a, .loc b, .lst (S.B.nuts.map encC)]) = some (encB (true, true, false) S.B) := (Ld.tup3 (.lst h2.p (by simp)) (.lst h2.q (by simp)) (.id (by simp))).v
    (first | apply rt_go | apply nx_go); focus (simp only [v_seq, seq_nx, seq_rt, v_meth, bind0_ok, v_lift, v_lend0, v_lend1, consO_some, v_lendD, Res.bind_ok, Res.out_ok, List.getElem?_cons_zero, List.getElem?_cons_succ, List.set_cons_zero, List.set_cons_succ, eVar, eC, eOp, eUn, uNeg, eIx, aNil, aCons, eTup, eLst, eDicF, newL, eCB, eCallT, eAnd, eOr, eNot, eIf, tBl, tNot, tAnd, tOr, eFld, eBM, mAppend, eMake0, pNone, pSome, eSl, eSl3, sAsg, sExpr, sRet, sIf, sNil, sPar, sPar3, sAug, sPut, sPuts, bindP, bindPs, wipeE_nil, wipeE_cons, startE_eq, List.replicate, List.length_cons, List.length_nil, List.length_append, oIsN, oIsNot, oSub, oLt, oLe, oGt, oAddI, Bool.false_eq_true, Bool.not_true, Bool.not_false, decide_true, decide_false, reduceIte, reduceCtorEq, Nat.reduceAdd, Nat.reduceSub, Nat.add_zero, Nat.zero_add, app_get, app_get0, app_set, app_set0, oEq_int, oNe_int, noLocL_nil, noLocL_cons, noLoc_non, noLoc_int, noLoc_bl, noLoc_str, noLoc_scr, noLoc_tup, noLoc_lst, noLoc_dic, noLoc_ins, noLocL_ints, Bool.and_self, Bool.and_true, Bool.true_and, and_self, isNonD, Nat.reduceLeDiff, Nat.reduceLT, Nat.reduceEqDiff, Int.reduceAdd, Int.reduceSub, Int.reduceLT, Int.reduceLE, Int.reduceEq, Int.reduceNeg, Int.reduceMod, Int.reduceToNat, v_fm, v_call, altOf_hd, altOf_tl, ixL0, ixL1, ixL2, ixT0, ixT1, ixT2, ixT3, ixT4, ixT5, add_int, len_lst, len_tup, fst_ok, mPop_end, noLoc_encB, ne_eq, not_true, not_false_eq_true, not_true_eq_false, mod_ok, div_ok, sto_assoc, sto_cons, sto_nil, set_int, app_int, app_bk, app_P, app_C, ne_pair, eq_pair, eq_self, List.getElem?_nil, ixB0, ixB1, ixB2, sl_map, ne_bl, eq_bl, sFldAug, sf_paid h2.o, sf_bar h2.o, lb, hpr, sp_paid h2.o]; first | done | exact rfl)
    rw [show ∀ x y : DO, (s.set j x).set j y = s.set j y from fun x y => List.set_set ..]
    have h3 := h.setParts (brk S.Ps ⟨P, w, x⟩) (S.paid + price S.B w x)
    have hd2 : S.done.length < 1000000 := by omega
    (first | apply rt_go | apply nx_go); focus (simp only [v_seq, seq_nx, seq_rt, v_meth, bind0_ok, v_lift, v_lend0, v_lend1, consO_some, v_lendD, Res.bind_ok, Res.out_ok, List.getElem?_cons_zero, List.getElem?_cons_succ, List.set_cons_zero, List.set_cons_succ, eVar, eC, eOp, eUn, uNeg, eIx, aNil, aCons, eTup, eLst, eDicF, newL, eCB, eCallT, eAnd, eOr, eNot, eIf, tBl, tNot, tAnd, tOr, eFld, eBM, mAppend, eMake0, pNone, pSome, eSl, eSl3, sAsg, sExpr, sRet, sIf, sNil, sPar, sPar3, sAug, sPut, sPuts, bindP, bindPs, wipeE_nil, wipeE_cons, startE_eq, List.replicate, List.length_cons, List.length_nil, List.length_append, oIsN, oIsNot, oSub, oLt, oLe, oGt, oAddI, Bool.false_eq_true, Bool.not_true, Bool.not_false, decide_true, decide_false, reduceIte, reduceCtorEq, Nat.reduceAdd, Nat.reduceSub, Nat.add_zero, Nat.zero_add, app_get, app_get0, app_set, app_set0, oEq_int, oNe_int, noLocL_nil, noLocL_cons, noLoc_non, noLoc_int, noLoc_bl, noLoc_str, noLoc_scr, noLoc_tup, noLoc_lst, noLoc_dic, noLoc_ins, noLocL_ints, Bool.and_self, Bool.and_true, Bool.true_and, and_self, isNonD, Nat.reduceLeDiff, Nat.reduceLT, Nat.reduceEqDiff, Int.reduceAdd, Int.reduceSub, Int.reduceLT, Int.reduceLE, Int.reduceEq, Int.reduceNeg, Int.reduceMod, Int.reduceToNat, v_fm, v_call, altOf_hd, altOf_tl, ixL0, ixL1, ixL2, ixT0, ixT1, ixT2, ixT3, ixT4, ixT5, add_int, len_lst, len_tup, fst_ok, mPop_end, noLoc_encB, ne_eq, not_true, not_false_eq_true, not_true_eq_false, mod_ok, div_ok, sto_assoc, sto_cons, sto_nil, set_int, app_int, app_bk, app_P, app_C, ne_pair, eq_pair, eq_self, List.getElem?_nil, ixB0, ixB1, ixB2, sl_map, ne_bl, eq_bl, sf_done h3.o, h3.k, hadd, List.length_map, hd2]; first | done | exact rfl)
    have h4 := h3.setDone (S.done ++ [⟨P, w, x⟩])
    have how := e_owed o'
    simp only [snapS] at how
    (first | apply rt_end | apply nx_end); focus (simp only [v_seq, seq_nx, seq_rt, v_meth, bind0_ok, v_lift, v_lend0, v_lend1, consO_some, v_lendD, Res.bind_ok, Res.out_ok, List.getElem?_cons_zero, List.getElem?_cons_succ, List.set_cons_zero, List.set_cons_succ, eVar, eC, eOp, eUn, uNeg, eIx, aNil, aCons, eTup, eLst, eDicF, newL, eCB, eCallT, eAnd, eOr, eNot, eIf, tBl, tNot, tAnd, tOr, eFld, eBM, mAppend, eMake0, pNone, pSome, eSl, eSl3, sAsg, sExpr, sRet, sIf, sNil, sPar, sPar3, sAug, sPut, sPuts, bindP, bindPs, wipeE_nil, wipeE_cons, startE_eq, List.replicate, List.length_cons, List.length_nil, List.length_append, oIsN, oIsNot, oSub, oLt, oLe, oGt, oAddI, Bool.false_eq_true, Bool.not_true, Bool.not_false, decide_true, decide_false, reduceIte, reduceCtorEq, Nat.reduceAdd, Nat.reduceSub, Nat.add_zero, Nat.zero_add, app_get, app_get0, app_set, app_set0, oEq_int, oNe_int, noLocL_nil, noLocL_cons, noLoc_non, noLoc_int, noLoc_bl, noLoc_str, noLoc_scr, noLoc_tup, noLoc_lst, noLoc_dic, noLoc_ins, noLocL_ints, Bool.and_self, Bool.and_true, Bool.true_and, and_self, isNonD, Nat.reduceLeDiff, Nat.reduceLT, Nat.reduceEqDiff, Int.reduceAdd, Int.reduceSub, Int.reduceLT, Int.reduceLE, Int.reduceEq, Int.reduceNeg, Int.reduceMod, Int.reduceToNat, v_fm, v_call, altOf_hd, altOf_tl, ixL0, ixL1, ixL2, ixT0, ixT1, ixT2, ixT3, ixT4, ixT5, add_int, len_lst, len_tup, fst_ok, mPop_end, noLoc_encB, ne_eq, not_true, not_false_eq_true, not_true_eq_false, mod_ok, div_ok, sto_assoc, sto_cons, sto_nil, set_int, app_int, app_bk, app_P, app_C, ne_pair, eq_pair, eq_self, List.getElem?_nil, ixB0, ixB1, ixB2, sl_map, ne_bl, eq_bl, h4.ins, ns_owed, h4.ld.v, how]; first | done | exact rfl)
    refine ⟨rfl, h4, fun n h1 h2 => ?_, by simp⟩
    rw [List.getElem?_set_ne (Ne.symm h2), List.getElem?_set_ne (Ne.symm h1)]
  obtain ⟨r, s', h1, rfl, h2, h3, h4⟩ := main
  exact ⟨s', runT_rt rfl h1, h2, h3, h4⟩
end BB
namespace BB
open PySem L2
def setB (B : Bar) (w x v : Int) : Bar := if w = 0 then ⟨B.p.set (x - 1).toNat v, B.q, B.nuts⟩ else ⟨B.p, B.q.set (x - 1).toNat v, B.nuts⟩
def setS (S : Sl) (w x v : Int) : Sl := ⟨setB S.B w x v, S.m, S.Ps, S.paid, S.done⟩
theorem set_b {xs : List Int} {k : Nat} {v : Int} (h : ∀ x ∈ xs, 1 ≤ x ∧ x ≤ 9) (hv : 1 ≤ v ∧ v ≤ 9) : ∀ x ∈ xs.set k v, 1 ≤ x ∧ x ≤ 9 := by
  intro x hx
  rcases List.mem_or_eq_of_mem_set hx with hx | rfl
  · exact h x hx
  · exact hv
theorem setB_len (B : Bar) (w x v : Int) : (setB B w x v).p.length = B.p.length ∧ (setB B w x v).q.length = B.q.length ∧ (setB B w x v).nuts = B.nuts := by
  unfold setB; split <;> simp
theorem setB_ok {B : Bar} (o : OkBar B) {w x v : Int} (hv : 1 ≤ v ∧ v ≤ 9) : OkBar (setB B w x v) := by
  unfold setB
  split
  · exact ⟨by simpa using o.pl, o.ql, set_b o.pv hv, o.qv, o.nl, by simpa using o.nv, o.up⟩
  · exact ⟨o.pl, by simpa using o.ql, o.pv, set_b o.qv hv, o.nl, by simpa using o.nv, o.up⟩
theorem set_ok {S : Sl} (o : OkS S) {w x v : Int} (hv : 1 ≤ v ∧ v ≤ 9) : OkS (setS S w x v) := by
  have hl := setB_len S.B w x v
  exact ⟨setB_ok o.b hv, o.m, ⟨fun P hP => mem_allP.mpr (by have := mem_allP.mp (o.ps.mem P hP); simp only [setS]; rw [hl.1, hl.2.1]; exact this), o.ps.dj⟩, o.dl⟩
theorem e_set_aux {s : Sto} {j a b d : Nat} {S : Sl} (h : SlabAt s j a b d S) (o : OkS S) {w x v : Int} {P0 : Pc} (hwh : G_whole_of [encB (true, true, false) S.B] = .ok (encP P0)) (hli : G_lines_in [encP P0] = .ok (.lst ((linesD P0).map encC))) (hl : (w, x) ∈ linesD P0) (hv : 1 ≤ v ∧ v ≤ 9)
    (hlo : (w = 0 ∨ w = 1) ∧ 1 ≤ x ∧ x ≤ if w = 0 then S.B.p.length else S.B.q.length) : Rt (m_Slab_set_price (startE N_Slab_set_price [.loc j, .int w, .int x, .int v]) s) fun r s' => r = .int (costs (setB S.B w x v) S.m S.Ps) ∧ SlabAt s' j a b d (setS S w x v) ∧ (∀ n, n ≠ a → n ≠ b → s'[n]? = s[n]?) ∧ s'.length = s.length := by
  have o' := set_ok o (w := w) (x := x) hv
  have hbt : G_is_between [.int v, .int 1, .int 9] = .ok (.bl true) := by rw [e_between, decide_eq_true hv.1, decide_eq_true hv.2]; rfl
  unfold m_Slab_set_price
  rw [show startE N_Slab_set_price [.loc j, .int w, .int x, .int v] = [some (.loc j), some (.int w), some (.int x), some (.int v)] from rfl]
  have lb : lendD s (.tup [.loc a, .loc b, .lst (S.B.nuts.map encC)]) = some (encB (true, true, false) S.B) := (Ld.tup3 (.lst h.p (by simp)) (.lst h.q (by simp)) (.id (by simp))).v
  have hnin : oNotIn (.tup [.int w, .int x]) (.lst ((linesD P0).map encC)) s = .ok (.bl false) s := by
    rw [show DV.tup [.int w, .int x] = encC (w, x) from rfl, notIn_C, decide_eq_true hl]; rfl
  (first | apply rt_go | apply nx_go); focus (simp only [v_seq, seq_nx, seq_rt, v_meth, bind0_ok, v_lift, v_lend0, v_lend1, consO_some, v_lendD, Res.bind_ok, Res.out_ok, List.getElem?_cons_zero, List.getElem?_cons_succ, List.set_cons_zero, List.set_cons_succ, eVar, eC, eOp, eUn, uNeg, eIx, aNil, aCons, eTup, eLst, eDicF, newL, eCB, eCallT, eAnd, eOr, eNot, eIf, tBl, tNot, tAnd, tOr, eFld, eBM, mAppend, eMake0, pNone, pSome, eSl, eSl3, sAsg, sExpr, sRet, sIf, sNil, sPar, sPar3, sAug, sPut, sPuts, bindP, bindPs, wipeE_nil, wipeE_cons, startE_eq, List.replicate, List.length_cons, List.length_nil, List.length_append, oIsN, oIsNot, oSub, oLt, oLe, oGt, oAddI, Bool.false_eq_true, Bool.not_true, Bool.not_false, decide_true, decide_false, reduceIte, reduceCtorEq, Nat.reduceAdd, Nat.reduceSub, Nat.add_zero, Nat.zero_add, app_get, app_get0, app_set, app_set0, oEq_int, oNe_int, noLocL_nil, noLocL_cons, noLoc_non, noLoc_int, noLoc_bl, noLoc_str, noLoc_scr, noLoc_tup, noLoc_lst, noLoc_dic, noLoc_ins, noLocL_ints, Bool.and_self, Bool.and_true, Bool.true_and, and_self, isNonD, Nat.reduceLeDiff, Nat.reduceLT, Nat.reduceEqDiff, Int.reduceAdd, Int.reduceSub, Int.reduceLT, Int.reduceLE, Int.reduceEq, Int.reduceNeg, Int.reduceMod, Int.reduceToNat, v_fm, v_call, altOf_hd, altOf_tl, ixL0, ixL1, ixL2, ixT0, ixT1, ixT2, ixT3, ixT4, ixT5, add_int, len_lst, len_tup, fst_ok, mPop_end, noLoc_encB, ne_eq, not_true, not_false_eq_true, not_true_eq_false, mod_ok, div_ok, sto_assoc, sto_cons, sto_nil, set_int, app_int, app_bk, app_P, app_C, ne_pair, eq_pair, eq_self, List.getElem?_nil, ixB0, ixB1, ixB2, sl_map, ne_bl, eq_bl, e_iswhole, sf_bar h.o, lb, hwh, noLoc_encP, hli, hnin]; first | done | exact rfl)
  (first | apply rt_go | apply nx_go); focus (simp only [v_seq, seq_nx, seq_rt, v_meth, bind0_ok, v_lift, v_lend0, v_lend1, consO_some, v_lendD, Res.bind_ok, Res.out_ok, List.getElem?_cons_zero, List.getElem?_cons_succ, List.set_cons_zero, List.set_cons_succ, eVar, eC, eOp, eUn, uNeg, eIx, aNil, aCons, eTup, eLst, eDicF, newL, eCB, eCallT, eAnd, eOr, eNot, eIf, tBl, tNot, tAnd, tOr, eFld, eBM, mAppend, eMake0, pNone, pSome, eSl, eSl3, sAsg, sExpr, sRet, sIf, sNil, sPar, sPar3, sAug, sPut, sPuts, bindP, bindPs, wipeE_nil, wipeE_cons, startE_eq, List.replicate, List.length_cons, List.length_nil, List.length_append, oIsN, oIsNot, oSub, oLt, oLe, oGt, oAddI, Bool.false_eq_true, Bool.not_true, Bool.not_false, decide_true, decide_false, reduceIte, reduceCtorEq, Nat.reduceAdd, Nat.reduceSub, Nat.add_zero, Nat.zero_add, app_get, app_get0, app_set, app_set0, oEq_int, oNe_int, noLocL_nil, noLocL_cons, noLoc_non, noLoc_int, noLoc_bl, noLoc_str, noLoc_scr, noLoc_tup, noLoc_lst, noLoc_dic, noLoc_ins, noLocL_ints, Bool.and_self, Bool.and_true, Bool.true_and, and_self, isNonD, Nat.reduceLeDiff, Nat.reduceLT, Nat.reduceEqDiff, Int.reduceAdd, Int.reduceSub, Int.reduceLT, Int.reduceLE, Int.reduceEq, Int.reduceNeg, Int.reduceMod, Int.reduceToNat, v_fm, v_call, altOf_hd, altOf_tl, ixL0, ixL1, ixL2, ixT0, ixT1, ixT2, ixT3, ixT4, ixT5, add_int, len_lst, len_tup, fst_ok, mPop_end, noLoc_encB, ne_eq, not_true, not_false_eq_true, not_true_eq_false, mod_ok, div_ok, sto_assoc, sto_cons, sto_nil, set_int, app_int, app_bk, app_P, app_C, ne_pair, eq_pair, eq_self, List.getElem?_nil, ixB0, ixB1, ixB2, sl_map, ne_bl, eq_bl, hbt]; first | done | exact rfl)
  have hz : (0 : Int) ≤ x - 1 := by omega
  rcases hlo.1 with hw | hw
  · subst hw
    simp only [if_true] at hlo
    have hx : x - 1 < (S.B.p.length : Int) := by omega
    (first | apply rt_go | apply nx_go); focus (simp only [v_seq, seq_nx, seq_rt, v_meth, bind0_ok, v_lift, v_lend0, v_lend1, consO_some, v_lendD, Res.bind_ok, Res.out_ok, List.getElem?_cons_zero, List.getElem?_cons_succ, List.set_cons_zero, List.set_cons_succ, eVar, eC, eOp, eUn, uNeg, eIx, aNil, aCons, eTup, eLst, eDicF, newL, eCB, eCallT, eAnd, eOr, eNot, eIf, tBl, tNot, tAnd, tOr, eFld, eBM, mAppend, eMake0, pNone, pSome, eSl, eSl3, sAsg, sExpr, sRet, sIf, sNil, sPar, sPar3, sAug, sPut, sPuts, bindP, bindPs, wipeE_nil, wipeE_cons, startE_eq, List.replicate, List.length_cons, List.length_nil, List.length_append, oIsN, oIsNot, oSub, oLt, oLe, oGt, oAddI, Bool.false_eq_true, Bool.not_true, Bool.not_false, decide_true, decide_false, reduceIte, reduceCtorEq, Nat.reduceAdd, Nat.reduceSub, Nat.add_zero, Nat.zero_add, app_get, app_get0, app_set, app_set0, oEq_int, oNe_int, noLocL_nil, noLocL_cons, noLoc_non, noLoc_int, noLoc_bl, noLoc_str, noLoc_scr, noLoc_tup, noLoc_lst, noLoc_dic, noLoc_ins, noLocL_ints, Bool.and_self, Bool.and_true, Bool.true_and, and_self, isNonD, Nat.reduceLeDiff, Nat.reduceLT, Nat.reduceEqDiff, Int.reduceAdd, Int.reduceSub, Int.reduceLT, Int.reduceLE, Int.reduceEq, Int.reduceNeg, Int.reduceMod, Int.reduceToNat, v_fm, v_call, altOf_hd, altOf_tl, ixL0, ixL1, ixL2, ixT0, ixT1, ixT2, ixT3, ixT4, ixT5, add_int, len_lst, len_tup, fst_ok, mPop_end, noLoc_encB, ne_eq, not_true, not_false_eq_true, not_true_eq_false, mod_ok, div_ok, sto_assoc, sto_cons, sto_nil, set_int, app_int, app_bk, app_P, app_C, ne_pair, eq_pair, eq_self, List.getElem?_nil, ixB0, ixB1, ixB2, sl_map, ne_bl, eq_bl, sf_bar h.o, putD_at h.p, hz, hx, List.length_map]; first | done | exact rfl)
    have h2 := h.setP (S.B.p.set (x - 1).toNat v)
    have how := e_owed o'
    have eb : setB S.B 0 x v = ⟨S.B.p.set (x - 1).toNat v, S.B.q, S.B.nuts⟩ := by simp [setB]
    simp only [setS, eb] at how ⊢
    (first | apply rt_end | apply nx_end); focus (simp only [v_seq, seq_nx, seq_rt, v_meth, bind0_ok, v_lift, v_lend0, v_lend1, consO_some, v_lendD, Res.bind_ok, Res.out_ok, List.getElem?_cons_zero, List.getElem?_cons_succ, List.set_cons_zero, List.set_cons_succ, eVar, eC, eOp, eUn, uNeg, eIx, aNil, aCons, eTup, eLst, eDicF, newL, eCB, eCallT, eAnd, eOr, eNot, eIf, tBl, tNot, tAnd, tOr, eFld, eBM, mAppend, eMake0, pNone, pSome, eSl, eSl3, sAsg, sExpr, sRet, sIf, sNil, sPar, sPar3, sAug, sPut, sPuts, bindP, bindPs, wipeE_nil, wipeE_cons, startE_eq, List.replicate, List.length_cons, List.length_nil, List.length_append, oIsN, oIsNot, oSub, oLt, oLe, oGt, oAddI, Bool.false_eq_true, Bool.not_true, Bool.not_false, decide_true, decide_false, reduceIte, reduceCtorEq, Nat.reduceAdd, Nat.reduceSub, Nat.add_zero, Nat.zero_add, app_get, app_get0, app_set, app_set0, oEq_int, oNe_int, noLocL_nil, noLocL_cons, noLoc_non, noLoc_int, noLoc_bl, noLoc_str, noLoc_scr, noLoc_tup, noLoc_lst, noLoc_dic, noLoc_ins, noLocL_ints, Bool.and_self, Bool.and_true, Bool.true_and, and_self, isNonD, Nat.reduceLeDiff, Nat.reduceLT, Nat.reduceEqDiff, Int.reduceAdd, Int.reduceSub, Int.reduceLT, Int.reduceLE, Int.reduceEq, Int.reduceNeg, Int.reduceMod, Int.reduceToNat, v_fm, v_call, altOf_hd, altOf_tl, ixL0, ixL1, ixL2, ixT0, ixT1, ixT2, ixT3, ixT4, ixT5, add_int, len_lst, len_tup, fst_ok, mPop_end, noLoc_encB, ne_eq, not_true, not_false_eq_true, not_true_eq_false, mod_ok, div_ok, sto_assoc, sto_cons, sto_nil, set_int, app_int, app_bk, app_P, app_C, ne_pair, eq_pair, eq_self, List.getElem?_nil, ixB0, ixB1, ixB2, sl_map, ne_bl, eq_bl, h2.ins, ns_owed, h2.ld.v, how]; first | done | exact rfl)
    refine ⟨rfl, h2, fun n h1 _ => ?_, by simp⟩
    rw [List.getElem?_set_ne (Ne.symm h1)]
  · subst hw
    simp only [Int.reduceEq, if_false] at hlo
    have hx : x - 1 < (S.B.q.length : Int) := by omega
    (first | apply rt_go | apply nx_go); focus (simp only [v_seq, seq_nx, seq_rt, v_meth, bind0_ok, v_lift, v_lend0, v_lend1, consO_some, v_lendD, Res.bind_ok, Res.out_ok, List.getElem?_cons_zero, List.getElem?_cons_succ, List.set_cons_zero, List.set_cons_succ, eVar, eC, eOp, eUn, uNeg, eIx, aNil, aCons, eTup, eLst, eDicF, newL, eCB, eCallT, eAnd, eOr, eNot, eIf, tBl, tNot, tAnd, tOr, eFld, eBM, mAppend, eMake0, pNone, pSome, eSl, eSl3, sAsg, sExpr, sRet, sIf, sNil, sPar, sPar3, sAug, sPut, sPuts, bindP, bindPs, wipeE_nil, wipeE_cons, startE_eq, List.replicate, List.length_cons, List.length_nil, List.length_append, oIsN, oIsNot, oSub, oLt, oLe, oGt, oAddI, Bool.false_eq_true, Bool.not_true, Bool.not_false, decide_true, decide_false, reduceIte, reduceCtorEq, Nat.reduceAdd, Nat.reduceSub, Nat.add_zero, Nat.zero_add, app_get, app_get0, app_set, app_set0, oEq_int, oNe_int, noLocL_nil, noLocL_cons, noLoc_non, noLoc_int, noLoc_bl, noLoc_str, noLoc_scr, noLoc_tup, noLoc_lst, noLoc_dic, noLoc_ins, noLocL_ints, Bool.and_self, Bool.and_true, Bool.true_and, and_self, isNonD, Nat.reduceLeDiff, Nat.reduceLT, Nat.reduceEqDiff, Int.reduceAdd, Int.reduceSub, Int.reduceLT, Int.reduceLE, Int.reduceEq, Int.reduceNeg, Int.reduceMod, Int.reduceToNat, v_fm, v_call, altOf_hd, altOf_tl, ixL0, ixL1, ixL2, ixT0, ixT1, ixT2, ixT3, ixT4, ixT5, add_int, len_lst, len_tup, fst_ok, mPop_end, noLoc_encB, ne_eq, not_true, not_false_eq_true, not_true_eq_false, mod_ok, div_ok, sto_assoc, sto_cons, sto_nil, set_int, app_int, app_bk, app_P, app_C, ne_pair, eq_pair, eq_self, List.getElem?_nil, ixB0, ixB1, ixB2, sl_map, ne_bl, eq_bl, sf_bar h.o, putD_at h.q, hz, hx, List.length_map]; first | done | exact rfl)
    have h2 := h.setQ (S.B.q.set (x - 1).toNat v)
    have how := e_owed o'
    have eb : setB S.B 1 x v = ⟨S.B.p, S.B.q.set (x - 1).toNat v, S.B.nuts⟩ := by simp [setB]
    simp only [setS, eb] at how ⊢
    (first | apply rt_end | apply nx_end); focus (simp only [v_seq, seq_nx, seq_rt, v_meth, bind0_ok, v_lift, v_lend0, v_lend1, consO_some, v_lendD, Res.bind_ok, Res.out_ok, List.getElem?_cons_zero, List.getElem?_cons_succ, List.set_cons_zero, List.set_cons_succ, eVar, eC, eOp, eUn, uNeg, eIx, aNil, aCons, eTup, eLst, eDicF, newL, eCB, eCallT, eAnd, eOr, eNot, eIf, tBl, tNot, tAnd, tOr, eFld, eBM, mAppend, eMake0, pNone, pSome, eSl, eSl3, sAsg, sExpr, sRet, sIf, sNil, sPar, sPar3, sAug, sPut, sPuts, bindP, bindPs, wipeE_nil, wipeE_cons, startE_eq, List.replicate, List.length_cons, List.length_nil, List.length_append, oIsN, oIsNot, oSub, oLt, oLe, oGt, oAddI, Bool.false_eq_true, Bool.not_true, Bool.not_false, decide_true, decide_false, reduceIte, reduceCtorEq, Nat.reduceAdd, Nat.reduceSub, Nat.add_zero, Nat.zero_add, app_get, app_get0, app_set, app_set0, oEq_int, oNe_int, noLocL_nil, noLocL_cons, noLoc_non, noLoc_int, noLoc_bl, noLoc_str, noLoc_scr, noLoc_tup, noLoc_lst, noLoc_dic, noLoc_ins, noLocL_ints, Bool.and_self, Bool.and_true, Bool.true_and, and_self, isNonD, Nat.reduceLeDiff, Nat.reduceLT, Nat.reduceEqDiff, Int.reduceAdd, Int.reduceSub, Int.reduceLT, Int.reduceLE, Int.reduceEq, Int.reduceNeg, Int.reduceMod, Int.reduceToNat, v_fm, v_call, altOf_hd, altOf_tl, ixL0, ixL1, ixL2, ixT0, ixT1, ixT2, ixT3, ixT4, ixT5, add_int, len_lst, len_tup, fst_ok, mPop_end, noLoc_encB, ne_eq, not_true, not_false_eq_true, not_true_eq_false, mod_ok, div_ok, sto_assoc, sto_cons, sto_nil, set_int, app_int, app_bk, app_P, app_C, ne_pair, eq_pair, eq_self, List.getElem?_nil, ixB0, ixB1, ixB2, sl_map, ne_bl, eq_bl, h2.ins, ns_owed, h2.ld.v, how]; first | done | exact rfl)
    refine ⟨rfl, h2, fun n _ h1 => ?_, by simp⟩
    rw [List.getElem?_set_ne (Ne.symm h1)]
/-- a price changed -/
theorem e_set {s : Sto} {j a b d : Nat} {S : Sl} (h : SlabAt s j a b d S) (o : OkS S) {w x v : Int} (hl : (w, x) ∈ linesD (wholeP S.B)) (hv : 1 ≤ v ∧ v ≤ 9) :
    ∃ s', T_Slab_set_price [.loc j, .int w, .int x, .int v] s = .ok (.int (costs (setB S.B w x v) S.m S.Ps)) s' ∧ SlabAt s' j a b d (setS S w x v) ∧ (∀ n, n ≠ a → n ≠ b → s'[n]? = s[n]?) ∧ s'.length = s.length := by
  have hpl := o.b.pl
  have hql := o.b.ql
  obtain ⟨r, s', h1, rfl, h2, h3, h4⟩ := e_set_aux h o (e_whole (tg := (true, true, false)) S.B) (e_lines (wholeP S.B) (small_of (by omega) (by omega) (whole_mem S.B))) hl hv (line_ok (whole_mem S.B) hl)
  exact ⟨s', runT_rt rfl h1, h2, h3, h4⟩
end BB
namespace BB
open PySem L2
/-! cells sorted -/
def leC (a b : Int × Int) : Bool := PySem.W.dataLe false encD (encC a) (encC b)
def sortC (xs : List (Int × Int)) : List (Int × Int) := xs.mergeSort leC
theorem enc_C (c : Int × Int) : encD (encC c) = .tuple [.int c.1, .int c.2] := by
  simp [encD, encC, pyW, pyWL]
theorem leC_le {a b : Int × Int} (h : leC a b = true) : a.1 < b.1 ∨ (a.1 = b.1 ∧ a.2 ≤ b.2) := by
  unfold leC PySem.W.dataLe PySem.W.sortLe at h
  simp only [cond_false, enc_C, PySem.W.keyToks, PySem.W.keyToksAll] at h
  rw [Bool.not_eq_true'] at h
  have h : PyProof.Rows.lexLt PyProof.Rows.itemOrd _ _ = false := h
  rw [PyProof.Rows.lex_self] at h
  simp only [List.singleton_append, List.cons_append, List.nil_append] at h
  by_cases e : a.1 = b.1
  · rw [e, PyProof.Rows.lex_self, PyProof.Rows.lex_self] at h
    by_cases e2 : a.2 = b.2
    · omega
    · rw [PyProof.Rows.lex_diff (fun z => e2 (Sum.inl.inj z).symm)] at h
      have h : decide (b.2 < a.2) = false := h
      simp at h
      omega
  · rw [PyProof.Rows.lex_diff (fun z => e (Sum.inl.inj z).symm)] at h
    have h : decide (b.1 < a.1) = false := h
    simp at h
    omega
theorem sortC_perm (xs : List (Int × Int)) : (sortC xs).Perm xs := List.mergeSort_perm _ _
theorem sortC_le (xs : List (Int × Int)) : (sortC xs).Pairwise (fun a b => leC a b = true) :=
  PySem.W.sort_pairwise (le := leC) ⟨fun a b c => (PySem.W.sortLe_total (PyProof.Rows.listOrd PyProof.Rows.itemOrd) false fun d => PySem.W.keyToks (encD (encC d))).trans a b c, fun a b => (PySem.W.sortLe_total (PyProof.Rows.listOrd PyProof.Rows.itemOrd) false fun d => PySem.W.keyToks (encD (encC d))).total a b⟩ xs
theorem sortC_up {xs : List (Int × Int)} (h : xs.Nodup) : (sortC xs).Pairwise ltC := by
  have h2 : (sortC xs).Nodup := (sortC_perm xs).nodup_iff.mpr h
  refine (List.pairwise_and_iff.mpr ⟨sortC_le xs, h2⟩).imp fun {a b} hab => ?_
  have h1 := leC_le hab.1
  unfold ltC
  by_cases e : a.1 = b.1
  · have : a.2 ≠ b.2 := fun z => hab.2 (Prod.ext e z)
    omega
  · omega
theorem sort_C {b : Bool} {xs : List (Int × Int)} {sto : Sto} (hl : xs.length ≤ 1000000) : fSorted b [.lst (xs.map encC)] sto = newL b ((sortC xs).map encC) sto := by
  rw [fSorted_map (f := encC) (by intro x; simp [encC, pyW, pyWL]) (by intro x y; simp [enc_C, PySem.W.alike, PySem.W.alikeAll]) (by intro x; simp [enc_C, isTup1]) (by intro x; simp [enc_C, PyData.depth, PyData.depthAll]) hl]
  rfl
theorem cnt_perm {B B' : Bar} (h : B.nuts.Perm B'.nuts) (P : Pc) : cnt B P = cnt B' P := by
  unfold cnt
  rw [(h.filter (inP P)).length_eq]
end BB
namespace BB
open PySem L2
def nutB (B : Bar) (c : Int × Int) : Bar := ⟨B.p, B.q, sortC (B.nuts ++ [c])⟩
def nutS (S : Sl) (c : Int × Int) : Sl := ⟨nutB S.B c, S.m, S.Ps, S.paid, S.done⟩
theorem nutB_ok {B : Bar} (o : OkBar B) {c : Int × Int} (hc : 0 ≤ c.1 ∧ c.1 ≤ B.p.length ∧ 0 ≤ c.2 ∧ c.2 ≤ B.q.length) (hn : c ∉ B.nuts) (hl : B.nuts.length < 1000) : OkBar (nutB B c) := by
  have hp := sortC_perm (B.nuts ++ [c])
  refine ⟨o.pl, o.ql, o.pv, o.qv, ?_, ?_, sortC_up ?_⟩
  · simp only [nutB, hp.length_eq, List.length_append, List.length_singleton]; omega
  · intro x hx
    simp only [nutB, hp.mem_iff, List.mem_append, List.mem_singleton] at hx
    rcases hx with hx | rfl
    · exact o.nv x hx
    · exact hc
  · rw [List.nodup_append]
    refine ⟨ltC_nodup o.up, by simp, ?_⟩
    intro x hx y hy
    simp only [List.mem_singleton] at hy
    subst hy
    exact fun z => hn (z ▸ hx)
/-- nuts lie in cells, so they are few -/
theorem nuts_few {B : Bar} (o : OkBar B) : B.nuts.length ≤ 25 := by
  have hs : B.nuts ⊆ (irange 0 (B.p.length + 1)).flatMap fun c => (irange 0 (B.q.length + 1)).map fun r => (c, r) := by
    intro c hc
    have := o.nv c hc
    simp only [List.mem_flatMap, List.mem_map, mem_irange]
    exact ⟨c.1, by omega, c.2, by omega, rfl⟩
  refine Nat.le_trans (List.Nodup.length_le_of_subset (ltC_nodup o.up) hs) ?_
  refine Nat.le_trans (flatMap_len (n := 5) fun c _ => ?_) ?_
  · rw [List.length_map, irange_len]; have := o.ql; omega
  · rw [irange_len]; have := o.pl; omega
theorem nut_ok {S : Sl} (o : OkS S) {c : Int × Int} (hc : 0 ≤ c.1 ∧ c.1 ≤ S.B.p.length ∧ 0 ≤ c.2 ∧ c.2 ≤ S.B.q.length) (hn : c ∉ S.B.nuts) : OkS (nutS S c) :=
  ⟨nutB_ok o.b hc hn (by have := nuts_few o.b; omega), o.m, ⟨fun P hP => mem_allP.mpr (mem_allP.mp (o.ps.mem P hP)), o.ps.dj⟩, o.dl⟩
theorem in_C {s : Sto} {g : Bool} (P : Int × Int) (Ps : List (Int × Int)) : oIn (encC P) (.lstG g (Ps.map encC)) s = .ok (.bl (decide (P ∈ Ps))) s :=
  (oIn_dat (sto := s) (gg := g) dC dC (by omega) P Ps).trans (by congr)
/-- a nut more -/
theorem e_nut {s : Sto} {j a b d : Nat} {S : Sl} (h : SlabAt s j a b d S) (o : OkS S) {c : Int × Int} (hc : 0 ≤ c.1 ∧ c.1 ≤ S.B.p.length ∧ 0 ≤ c.2 ∧ c.2 ≤ S.B.q.length) (hn : c ∉ S.B.nuts) :
    ∃ s', T_Slab_nut [.loc j, .int c.1, .int c.2] s = .ok (.int (costs (nutB S.B c) S.m S.Ps)) s' ∧ SlabAt s' j a b d (nutS S c) ∧ (∀ n, n ≠ j → s'[n]? = s[n]?) ∧ s'.length = s.length := by
  have o' := nut_ok o hc hn
  have hnl := nuts_few o.b
  have hce := e_cell c S.B.p.length S.B.q.length (by omega)
  have main : Rt (m_Slab_nut (startE N_Slab_nut [.loc j, .int c.1, .int c.2]) s) fun r s' => r = .int (costs (nutB S.B c) S.m S.Ps) ∧ SlabAt s' j a b d (nutS S c) ∧ (∀ n, n ≠ j → s'[n]? = s[n]?) ∧ s'.length = s.length := by
    unfold m_Slab_nut
    rw [show startE N_Slab_nut [.loc j, .int c.1, .int c.2] = [some (.loc j), some (.int c.1), some (.int c.2), none] from rfl]
    (first | apply rt_go | apply nx_go); focus (simp only [v_seq, seq_nx, seq_rt, v_meth, bind0_ok, v_lift, v_lend0, v_lend1, consO_some, v_lendD, Res.bind_ok, Res.out_ok, List.getElem?_cons_zero, List.getElem?_cons_succ, List.set_cons_zero, List.set_cons_succ, eVar, eC, eOp, eUn, uNeg, eIx, aNil, aCons, eTup, eLst, eDicF, newL, eCB, eCallT, eAnd, eOr, eNot, eIf, tBl, tNot, tAnd, tOr, eFld, eBM, mAppend, eMake0, pNone, pSome, eSl, eSl3, sAsg, sExpr, sRet, sIf, sNil, sPar, sPar3, sAug, sPut, sPuts, bindP, bindPs, wipeE_nil, wipeE_cons, startE_eq, List.replicate, List.length_cons, List.length_nil, List.length_append, oIsN, oIsNot, oSub, oLt, oLe, oGt, oAddI, Bool.false_eq_true, Bool.not_true, Bool.not_false, decide_true, decide_false, reduceIte, reduceCtorEq, Nat.reduceAdd, Nat.reduceSub, Nat.add_zero, Nat.zero_add, app_get, app_get0, app_set, app_set0, oEq_int, oNe_int, noLocL_nil, noLocL_cons, noLoc_non, noLoc_int, noLoc_bl, noLoc_str, noLoc_scr, noLoc_tup, noLoc_lst, noLoc_dic, noLoc_ins, noLocL_ints, Bool.and_self, Bool.and_true, Bool.true_and, and_self, isNonD, Nat.reduceLeDiff, Nat.reduceLT, Nat.reduceEqDiff, Int.reduceAdd, Int.reduceSub, Int.reduceLT, Int.reduceLE, Int.reduceEq, Int.reduceNeg, Int.reduceMod, Int.reduceToNat, v_fm, v_call, altOf_hd, altOf_tl, ixL0, ixL1, ixL2, ixT0, ixT1, ixT2, ixT3, ixT4, ixT5, add_int, len_lst, len_tup, fst_ok, mPop_end, noLoc_encB, ne_eq, not_true, not_false_eq_true, not_true_eq_false, mod_ok, div_ok, sto_assoc, sto_cons, sto_nil, set_int, app_int, app_bk, app_P, app_C, ne_pair, eq_pair, eq_self, List.getElem?_nil, ixB0, ixB1, ixB2, sl_map, ne_bl, eq_bl]; first | done | exact rfl)
    have ec : DV.tup [.int c.1, .int c.2] = encC c := rfl
    (first | apply rt_go | apply nx_go); focus (simp only [v_seq, seq_nx, seq_rt, v_meth, bind0_ok, v_lift, v_lend0, v_lend1, consO_some, v_lendD, Res.bind_ok, Res.out_ok, List.getElem?_cons_zero, List.getElem?_cons_succ, List.set_cons_zero, List.set_cons_succ, eVar, eC, eOp, eUn, uNeg, eIx, aNil, aCons, eTup, eLst, eDicF, newL, eCB, eCallT, eAnd, eOr, eNot, eIf, tBl, tNot, tAnd, tOr, eFld, eBM, mAppend, eMake0, pNone, pSome, eSl, eSl3, sAsg, sExpr, sRet, sIf, sNil, sPar, sPar3, sAug, sPut, sPuts, bindP, bindPs, wipeE_nil, wipeE_cons, startE_eq, List.replicate, List.length_cons, List.length_nil, List.length_append, oIsN, oIsNot, oSub, oLt, oLe, oGt, oAddI, Bool.false_eq_true, Bool.not_true, Bool.not_false, decide_true, decide_false, reduceIte, reduceCtorEq, Nat.reduceAdd, Nat.reduceSub, Nat.add_zero, Nat.zero_add, app_get, app_get0, app_set, app_set0, oEq_int, oNe_int, noLocL_nil, noLocL_cons, noLoc_non, noLoc_int, noLoc_bl, noLoc_str, noLoc_scr, noLoc_tup, noLoc_lst, noLoc_dic, noLoc_ins, noLocL_ints, Bool.and_self, Bool.and_true, Bool.true_and, and_self, isNonD, Nat.reduceLeDiff, Nat.reduceLT, Nat.reduceEqDiff, Int.reduceAdd, Int.reduceSub, Int.reduceLT, Int.reduceLE, Int.reduceEq, Int.reduceNeg, Int.reduceMod, Int.reduceToNat, v_fm, v_call, altOf_hd, altOf_tl, ixL0, ixL1, ixL2, ixT0, ixT1, ixT2, ixT3, ixT4, ixT5, add_int, len_lst, len_tup, fst_ok, mPop_end, noLoc_encB, ne_eq, not_true, not_false_eq_true, not_true_eq_false, mod_ok, div_ok, sto_assoc, sto_cons, sto_nil, set_int, app_int, app_bk, app_P, app_C, ne_pair, eq_pair, eq_self, List.getElem?_nil, ixB0, ixB1, ixB2, sl_map, ne_bl, eq_bl, sf_bar h.o, len_loc h.p, len_loc h.q, List.length_map, ec, hce, noLoc_encC, in_C, hn]; first | done | exact rfl)
    have hadd : oAdd false (.lst (S.B.nuts.map encC)) (.lst [encC c]) s = .ok (.lst ((S.B.nuts ++ [c]).map encC)) s := by
      rw [add_ls (by simp; omega)]; simp [newL]
    have hso : fSorted false [.lst ((S.B.nuts ++ [c]).map encC)] s = .ok (.lst ((nutB S.B c).nuts.map encC)) s := by
      rw [sort_C (by simp; omega)]; rfl
    (first | apply rt_go | apply nx_go); focus (simp only [v_seq, seq_nx, seq_rt, v_meth, bind0_ok, v_lift, v_lend0, v_lend1, consO_some, v_lendD, Res.bind_ok, Res.out_ok, List.getElem?_cons_zero, List.getElem?_cons_succ, List.set_cons_zero, List.set_cons_succ, eVar, eC, eOp, eUn, uNeg, eIx, aNil, aCons, eTup, eLst, eDicF, newL, eCB, eCallT, eAnd, eOr, eNot, eIf, tBl, tNot, tAnd, tOr, eFld, eBM, mAppend, eMake0, pNone, pSome, eSl, eSl3, sAsg, sExpr, sRet, sIf, sNil, sPar, sPar3, sAug, sPut, sPuts, bindP, bindPs, wipeE_nil, wipeE_cons, startE_eq, List.replicate, List.length_cons, List.length_nil, List.length_append, oIsN, oIsNot, oSub, oLt, oLe, oGt, oAddI, Bool.false_eq_true, Bool.not_true, Bool.not_false, decide_true, decide_false, reduceIte, reduceCtorEq, Nat.reduceAdd, Nat.reduceSub, Nat.add_zero, Nat.zero_add, app_get, app_get0, app_set, app_set0, oEq_int, oNe_int, noLocL_nil, noLocL_cons, noLoc_non, noLoc_int, noLoc_bl, noLoc_str, noLoc_scr, noLoc_tup, noLoc_lst, noLoc_dic, noLoc_ins, noLocL_ints, Bool.and_self, Bool.and_true, Bool.true_and, and_self, isNonD, Nat.reduceLeDiff, Nat.reduceLT, Nat.reduceEqDiff, Int.reduceAdd, Int.reduceSub, Int.reduceLT, Int.reduceLE, Int.reduceEq, Int.reduceNeg, Int.reduceMod, Int.reduceToNat, v_fm, v_call, altOf_hd, altOf_tl, ixL0, ixL1, ixL2, ixT0, ixT1, ixT2, ixT3, ixT4, ixT5, add_int, len_lst, len_tup, fst_ok, mPop_end, noLoc_encB, ne_eq, not_true, not_false_eq_true, not_true_eq_false, mod_ok, div_ok, sto_assoc, sto_cons, sto_nil, set_int, app_int, app_bk, app_P, app_C, ne_pair, eq_pair, eq_self, List.getElem?_nil, ixB0, ixB1, ixB2, sl_map, ne_bl, eq_bl, sFld, sf_bar h.o, hadd, hso, sp_bar h.o]; first | done | exact rfl)
    have h2 := h.setN (nutB S.B c).nuts
    have how := e_owed o'
    (first | apply rt_end | apply nx_end); focus (simp only [v_seq, seq_nx, seq_rt, v_meth, bind0_ok, v_lift, v_lend0, v_lend1, consO_some, v_lendD, Res.bind_ok, Res.out_ok, List.getElem?_cons_zero, List.getElem?_cons_succ, List.set_cons_zero, List.set_cons_succ, eVar, eC, eOp, eUn, uNeg, eIx, aNil, aCons, eTup, eLst, eDicF, newL, eCB, eCallT, eAnd, eOr, eNot, eIf, tBl, tNot, tAnd, tOr, eFld, eBM, mAppend, eMake0, pNone, pSome, eSl, eSl3, sAsg, sExpr, sRet, sIf, sNil, sPar, sPar3, sAug, sPut, sPuts, bindP, bindPs, wipeE_nil, wipeE_cons, startE_eq, List.replicate, List.length_cons, List.length_nil, List.length_append, oIsN, oIsNot, oSub, oLt, oLe, oGt, oAddI, Bool.false_eq_true, Bool.not_true, Bool.not_false, decide_true, decide_false, reduceIte, reduceCtorEq, Nat.reduceAdd, Nat.reduceSub, Nat.add_zero, Nat.zero_add, app_get, app_get0, app_set, app_set0, oEq_int, oNe_int, noLocL_nil, noLocL_cons, noLoc_non, noLoc_int, noLoc_bl, noLoc_str, noLoc_scr, noLoc_tup, noLoc_lst, noLoc_dic, noLoc_ins, noLocL_ints, Bool.and_self, Bool.and_true, Bool.true_and, and_self, isNonD, Nat.reduceLeDiff, Nat.reduceLT, Nat.reduceEqDiff, Int.reduceAdd, Int.reduceSub, Int.reduceLT, Int.reduceLE, Int.reduceEq, Int.reduceNeg, Int.reduceMod, Int.reduceToNat, v_fm, v_call, altOf_hd, altOf_tl, ixL0, ixL1, ixL2, ixT0, ixT1, ixT2, ixT3, ixT4, ixT5, add_int, len_lst, len_tup, fst_ok, mPop_end, noLoc_encB, ne_eq, not_true, not_false_eq_true, not_true_eq_false, mod_ok, div_ok, sto_assoc, sto_cons, sto_nil, set_int, app_int, app_bk, app_P, app_C, ne_pair, eq_pair, eq_self, List.getElem?_nil, ixB0, ixB1, ixB2, sl_map, ne_bl, eq_bl, h2.ins, ns_owed, h2.ld.v, how, show slabI ⟨⟨S.B.p, S.B.q, (nutB S.B c).nuts⟩, S.m, S.Ps, S.paid, S.done⟩ = slabI (nutS S c) from rfl]; first | done | exact rfl)
    refine ⟨rfl, h2, fun n h1 => ?_, by simp⟩
    rw [List.getElem?_set_ne (Ne.symm h1)]
  obtain ⟨r, s', h1, rfl, h2, h3, h4⟩ := main
  exact ⟨s', runT_rt rfl h1, h2, h3, h4⟩
end BB
namespace BB
open PySem L2
/-! What a slab refuses. -/
section
variable {s : Sto} {j a b d : Nat} {S : Sl}
theorem excT {n : Nat} {N : List Str} {m : SM} {ds : List DV} {s s' : Sto} {c : Nat} {e : Env} (hl : ds.length = n) (h : m (startE N ds) s = .exc c e s') : runT n N m ds s = .exc c s' := by
  unfold runT
  rw [if_pos hl, h]
  rfl
theorem wholeX {e : Env} {s : Sto} {xs : List DV} (hk : ∀ x ∈ xs, knd x = true ∧ noLoc x = true) (h1 : e[1]? = some (some (.tup xs))) (hn : e.length = 5) (hl : xs.length ≤ 1000) : eComp false [4] (iSeq (eVar 1)) (.nm 4) tYes1 (eCall G_is_whole (aCons (eVar 4) aNil)) e s = .ok (.lst (xs.map fun x => .bl (isW x))) s := by
  rw [comp_map (enc := fun x : DV => x) (Y := fun x => .bl (isW x)) (ys := xs) (s := s) (by rw [List.map_id']; exact iSeq_tup (by simp only [eVar, h1])) (by omega) fun y hy => ⟨(wipeE e [4]).set 4 (some y), rfl, eCall_ok (ds := [y]) (by
    have : ((wipeE e [4]).set 4 (some y))[4]? = some (some y) := by simp [wipeE, hn]
    simp only [aCons, aNil, eVar, this, Res.bind_ok]) (by simp [(hk y hy).2]) (e_isw (hk y hy).1)⟩]
  rfl
/-- no tuple of four numbers -/
def noP (x : DV) : Bool := match x with
  | .tup xs => !(decide (xs.length = 4) && xs.all isW)
  | _ => true
theorem snap_noP {x w l : DV} (hk : knd x = true) (hx : ∀ xs, x = .tup xs → (∀ y ∈ xs, knd y = true ∧ noLoc y = true) ∧ xs.length ≤ 1000) (h : noP x = true) : T_Slab_snap [.loc j, x, w, l] s = .exc 15 s := by
  refine excT (e := [some (.loc j), some x, some w, some l, none]) rfl ?_
  unfold m_Slab_snap
  rw [show startE N_Slab_snap [.loc j, x, w, l] = [some (.loc j), some x, some w, some l, none] from rfl]
  have t1 := isi_tp (s := s) hk
  cases ht : isTp x with
  | false =>
    rw [ht] at t1
    simp only [v_seq, seq_nx, seq_rt, v_meth, bind0_ok, v_lift, v_lend0, v_lend1, consO_some, v_lendD, Res.bind_ok, Res.out_ok, List.getElem?_cons_zero, List.getElem?_cons_succ, List.set_cons_zero, List.set_cons_succ, eVar, eC, eOp, eUn, uNeg, eIx, aNil, aCons, eTup, eLst, eDicF, newL, eCB, eCallT, eAnd, eOr, eNot, eIf, tBl, tNot, tAnd, tOr, eFld, eBM, mAppend, eMake0, pNone, pSome, eSl, eSl3, sAsg, sExpr, sRet, sIf, sNil, sPar, sPar3, sAug, sPut, sPuts, bindP, bindPs, wipeE_nil, wipeE_cons, startE_eq, List.replicate, List.length_cons, List.length_nil, List.length_append, oIsN, oIsNot, oSub, oLt, oLe, oGt, oAddI, Bool.false_eq_true, Bool.not_true, Bool.not_false, decide_true, decide_false, reduceIte, reduceCtorEq, Nat.reduceAdd, Nat.reduceSub, Nat.add_zero, Nat.zero_add, app_get, app_get0, app_set, app_set0, oEq_int, oNe_int, noLocL_nil, noLocL_cons, noLoc_non, noLoc_int, noLoc_bl, noLoc_str, noLoc_scr, noLoc_tup, noLoc_lst, noLoc_dic, noLoc_ins, noLocL_ints, Bool.and_self, Bool.and_true, Bool.true_and, and_self, isNonD, Nat.reduceLeDiff, Nat.reduceLT, Nat.reduceEqDiff, Int.reduceAdd, Int.reduceSub, Int.reduceLT, Int.reduceLE, Int.reduceEq, Int.reduceNeg, Int.reduceMod, Int.reduceToNat, v_fm, v_call, altOf_hd, altOf_tl, ixL0, ixL1, ixL2, ixT0, ixT1, ixT2, ixT3, ixT4, ixT5, add_int, len_lst, len_tup, fst_ok, mPop_end, noLoc_encB, ne_eq, not_true, not_false_eq_true, not_true_eq_false, mod_ok, div_ok, sto_assoc, sto_cons, sto_nil, set_int, app_int, app_bk, app_P, app_C, ne_pair, eq_pair, eq_self, List.getElem?_nil, ixB0, ixB1, ixB2, sl_map, ne_bl, eq_bl, t1, sRaise, Out.seq]
  | true =>
    rw [ht] at t1
    cases x <;> try (cases ht; done)
    rename_i xs
    have hxs := hx xs rfl
    by_cases h4 : xs.length = 4
    · have hw : xs.all isW = false := by
        simp only [noP, h4, decide_true, Bool.true_and, Bool.not_eq_true'] at h
        exact h
      have hc := wholeX (e := [some (.loc j), some (.tup xs), some w, some l, none]) (s := s) hxs.1 rfl rfl hxs.2
      have h4' : ((xs.length : Nat) : Int) = 4 := by omega
      simp only [v_seq, seq_nx, seq_rt, v_meth, bind0_ok, v_lift, v_lend0, v_lend1, consO_some, v_lendD, Res.bind_ok, Res.out_ok, List.getElem?_cons_zero, List.getElem?_cons_succ, List.set_cons_zero, List.set_cons_succ, eVar, eC, eOp, eUn, uNeg, eIx, aNil, aCons, eTup, eLst, eDicF, newL, eCB, eCallT, eAnd, eOr, eNot, eIf, tBl, tNot, tAnd, tOr, eFld, eBM, mAppend, eMake0, pNone, pSome, eSl, eSl3, sAsg, sExpr, sRet, sIf, sNil, sPar, sPar3, sAug, sPut, sPuts, bindP, bindPs, wipeE_nil, wipeE_cons, startE_eq, List.replicate, List.length_cons, List.length_nil, List.length_append, oIsN, oIsNot, oSub, oLt, oLe, oGt, oAddI, Bool.false_eq_true, Bool.not_true, Bool.not_false, decide_true, decide_false, reduceIte, reduceCtorEq, Nat.reduceAdd, Nat.reduceSub, Nat.add_zero, Nat.zero_add, app_get, app_get0, app_set, app_set0, oEq_int, oNe_int, noLocL_nil, noLocL_cons, noLoc_non, noLoc_int, noLoc_bl, noLoc_str, noLoc_scr, noLoc_tup, noLoc_lst, noLoc_dic, noLoc_ins, noLocL_ints, Bool.and_self, Bool.and_true, Bool.true_and, and_self, isNonD, Nat.reduceLeDiff, Nat.reduceLT, Nat.reduceEqDiff, Int.reduceAdd, Int.reduceSub, Int.reduceLT, Int.reduceLE, Int.reduceEq, Int.reduceNeg, Int.reduceMod, Int.reduceToNat, v_fm, v_call, altOf_hd, altOf_tl, ixL0, ixL1, ixL2, ixT0, ixT1, ixT2, ixT3, ixT4, ixT5, add_int, len_lst, len_tup, fst_ok, mPop_end, noLoc_encB, ne_eq, not_true, not_false_eq_true, not_true_eq_false, mod_ok, div_ok, sto_assoc, sto_cons, sto_nil, set_int, app_int, app_bk, app_P, app_C, ne_pair, eq_pair, eq_self, List.getElem?_nil, ixB0, ixB1, ixB2, sl_map, ne_bl, eq_bl, t1, h4', hc, all_bl, hw, sRaise, Out.seq]
    · have h4' : ¬ ((xs.length : Nat) : Int) = 4 := by omega
      simp only [v_seq, seq_nx, seq_rt, v_meth, bind0_ok, v_lift, v_lend0, v_lend1, consO_some, v_lendD, Res.bind_ok, Res.out_ok, List.getElem?_cons_zero, List.getElem?_cons_succ, List.set_cons_zero, List.set_cons_succ, eVar, eC, eOp, eUn, uNeg, eIx, aNil, aCons, eTup, eLst, eDicF, newL, eCB, eCallT, eAnd, eOr, eNot, eIf, tBl, tNot, tAnd, tOr, eFld, eBM, mAppend, eMake0, pNone, pSome, eSl, eSl3, sAsg, sExpr, sRet, sIf, sNil, sPar, sPar3, sAug, sPut, sPuts, bindP, bindPs, wipeE_nil, wipeE_cons, startE_eq, List.replicate, List.length_cons, List.length_nil, List.length_append, oIsN, oIsNot, oSub, oLt, oLe, oGt, oAddI, Bool.false_eq_true, Bool.not_true, Bool.not_false, decide_true, decide_false, reduceIte, reduceCtorEq, Nat.reduceAdd, Nat.reduceSub, Nat.add_zero, Nat.zero_add, app_get, app_get0, app_set, app_set0, oEq_int, oNe_int, noLocL_nil, noLocL_cons, noLoc_non, noLoc_int, noLoc_bl, noLoc_str, noLoc_scr, noLoc_tup, noLoc_lst, noLoc_dic, noLoc_ins, noLocL_ints, Bool.and_self, Bool.and_true, Bool.true_and, and_self, isNonD, Nat.reduceLeDiff, Nat.reduceLT, Nat.reduceEqDiff, Int.reduceAdd, Int.reduceSub, Int.reduceLT, Int.reduceLE, Int.reduceEq, Int.reduceNeg, Int.reduceMod, Int.reduceToNat, v_fm, v_call, altOf_hd, altOf_tl, ixL0, ixL1, ixL2, ixT0, ixT1, ixT2, ixT3, ixT4, ixT5, add_int, len_lst, len_tup, fst_ok, mPop_end, noLoc_encB, ne_eq, not_true, not_false_eq_true, not_true_eq_false, mod_ok, div_ok, sto_assoc, sto_cons, sto_nil, set_int, app_int, app_bk, app_P, app_C, ne_pair, eq_pair, eq_self, List.getElem?_nil, ixB0, ixB1, ixB2, sl_map, ne_bl, eq_bl, t1, h4', sRaise, Out.seq]
theorem snap_noT (h : SlabAt s j a b d S) {P : Pc} {w l : DV} (hP : P ∉ S.Ps) : T_Slab_snap [.loc j, encP P, w, l] s = .exc 15 s := by
  refine excT (e := [some (.loc j), some (encP P), some w, some l, none]) rfl ?_
  unfold m_Slab_snap
  rw [show startE N_Slab_snap [.loc j, encP P, w, l] = [some (.loc j), some (encP P), some w, some l, none] from rfl]
  have t1 : fIsi [encP P, .ty "tuple"] s = .ok (.bl true) s := isi_tup
  have hc := whole4 (e := [some (.loc j), some (encP P), some w, some l, none]) (s := s) (P := P) rfl rfl
  simp only [v_seq, seq_nx, seq_rt, v_meth, bind0_ok, v_lift, v_lend0, v_lend1, consO_some, v_lendD, Res.bind_ok, Res.out_ok, List.getElem?_cons_zero, List.getElem?_cons_succ, List.set_cons_zero, List.set_cons_succ, eVar, eC, eOp, eUn, uNeg, eIx, aNil, aCons, eTup, eLst, eDicF, newL, eCB, eCallT, eAnd, eOr, eNot, eIf, tBl, tNot, tAnd, tOr, eFld, eBM, mAppend, eMake0, pNone, pSome, eSl, eSl3, sAsg, sExpr, sRet, sIf, sNil, sPar, sPar3, sAug, sPut, sPuts, bindP, bindPs, wipeE_nil, wipeE_cons, startE_eq, List.replicate, List.length_cons, List.length_nil, List.length_append, oIsN, oIsNot, oSub, oLt, oLe, oGt, oAddI, Bool.false_eq_true, Bool.not_true, Bool.not_false, decide_true, decide_false, reduceIte, reduceCtorEq, Nat.reduceAdd, Nat.reduceSub, Nat.add_zero, Nat.zero_add, app_get, app_get0, app_set, app_set0, oEq_int, oNe_int, noLocL_nil, noLocL_cons, noLoc_non, noLoc_int, noLoc_bl, noLoc_str, noLoc_scr, noLoc_tup, noLoc_lst, noLoc_dic, noLoc_ins, noLocL_ints, Bool.and_self, Bool.and_true, Bool.true_and, and_self, isNonD, Nat.reduceLeDiff, Nat.reduceLT, Nat.reduceEqDiff, Int.reduceAdd, Int.reduceSub, Int.reduceLT, Int.reduceLE, Int.reduceEq, Int.reduceNeg, Int.reduceMod, Int.reduceToNat, v_fm, v_call, altOf_hd, altOf_tl, ixL0, ixL1, ixL2, ixT0, ixT1, ixT2, ixT3, ixT4, ixT5, add_int, len_lst, len_tup, fst_ok, mPop_end, noLoc_encB, ne_eq, not_true, not_false_eq_true, not_true_eq_false, mod_ok, div_ok, sto_assoc, sto_cons, sto_nil, set_int, app_int, app_bk, app_P, app_C, ne_pair, eq_pair, eq_self, List.getElem?_nil, ixB0, ixB1, ixB2, sl_map, ne_bl, eq_bl, t1, ls_P, hc, all_true, sf_parts h.o, notIn_P, hP, sRaise, Out.seq]
theorem snap_noL (h : SlabAt s j a b d S) (o : OkS S) {P : Pc} {w l : DV} (hP : P ∈ S.Ps) (hw : knd w = true) (hl : knd l = true) (lw : noLoc w = true) (ll : noLoc l = true) (hn : ∀ i k : Int, w = .int i → l = .int k → (i, k) ∉ linesD P) : T_Slab_snap [.loc j, encP P, w, l] s = .exc 16 s := by
  refine excT (e := [some (.loc j), some (encP P), some w, some l, none]) rfl ?_
  unfold m_Slab_snap
  rw [show startE N_Slab_snap [.loc j, encP P, w, l] = [some (.loc j), some (encP P), some w, some l, none] from rfl]
  have hpm := o.ps.mem P hP
  have hli := e_lines P (small_of (by have := o.b.pl; omega) (by have := o.b.ql; omega) hpm)
  have t1 : fIsi [encP P, .ty "tuple"] s = .ok (.bl true) s := isi_tup
  have hc := whole4 (e := [some (.loc j), some (encP P), some w, some l, none]) (s := s) (P := P) rfl rfl
  have w1 := e_isw hw
  have w2 := e_isw hl
  cases e1 : isW w with
  | false =>
    rw [e1] at w1
    simp only [v_seq, seq_nx, seq_rt, v_meth, bind0_ok, v_lift, v_lend0, v_lend1, consO_some, v_lendD, Res.bind_ok, Res.out_ok, List.getElem?_cons_zero, List.getElem?_cons_succ, List.set_cons_zero, List.set_cons_succ, eVar, eC, eOp, eUn, uNeg, eIx, aNil, aCons, eTup, eLst, eDicF, newL, eCB, eCallT, eAnd, eOr, eNot, eIf, tBl, tNot, tAnd, tOr, eFld, eBM, mAppend, eMake0, pNone, pSome, eSl, eSl3, sAsg, sExpr, sRet, sIf, sNil, sPar, sPar3, sAug, sPut, sPuts, bindP, bindPs, wipeE_nil, wipeE_cons, startE_eq, List.replicate, List.length_cons, List.length_nil, List.length_append, oIsN, oIsNot, oSub, oLt, oLe, oGt, oAddI, Bool.false_eq_true, Bool.not_true, Bool.not_false, decide_true, decide_false, reduceIte, reduceCtorEq, Nat.reduceAdd, Nat.reduceSub, Nat.add_zero, Nat.zero_add, app_get, app_get0, app_set, app_set0, oEq_int, oNe_int, noLocL_nil, noLocL_cons, noLoc_non, noLoc_int, noLoc_bl, noLoc_str, noLoc_scr, noLoc_tup, noLoc_lst, noLoc_dic, noLoc_ins, noLocL_ints, Bool.and_self, Bool.and_true, Bool.true_and, and_self, isNonD, Nat.reduceLeDiff, Nat.reduceLT, Nat.reduceEqDiff, Int.reduceAdd, Int.reduceSub, Int.reduceLT, Int.reduceLE, Int.reduceEq, Int.reduceNeg, Int.reduceMod, Int.reduceToNat, v_fm, v_call, altOf_hd, altOf_tl, ixL0, ixL1, ixL2, ixT0, ixT1, ixT2, ixT3, ixT4, ixT5, add_int, len_lst, len_tup, fst_ok, mPop_end, noLoc_encB, ne_eq, not_true, not_false_eq_true, not_true_eq_false, mod_ok, div_ok, sto_assoc, sto_cons, sto_nil, set_int, app_int, app_bk, app_P, app_C, ne_pair, eq_pair, eq_self, List.getElem?_nil, ixB0, ixB1, ixB2, sl_map, ne_bl, eq_bl, t1, ls_P, hc, all_true, sf_parts h.o, notIn_P, hP, w1, lw, sRaise, Out.seq]
  | true =>
    rw [e1] at w1
    cases e2 : isW l with
    | false =>
      rw [e2] at w2
      simp only [v_seq, seq_nx, seq_rt, v_meth, bind0_ok, v_lift, v_lend0, v_lend1, consO_some, v_lendD, Res.bind_ok, Res.out_ok, List.getElem?_cons_zero, List.getElem?_cons_succ, List.set_cons_zero, List.set_cons_succ, eVar, eC, eOp, eUn, uNeg, eIx, aNil, aCons, eTup, eLst, eDicF, newL, eCB, eCallT, eAnd, eOr, eNot, eIf, tBl, tNot, tAnd, tOr, eFld, eBM, mAppend, eMake0, pNone, pSome, eSl, eSl3, sAsg, sExpr, sRet, sIf, sNil, sPar, sPar3, sAug, sPut, sPuts, bindP, bindPs, wipeE_nil, wipeE_cons, startE_eq, List.replicate, List.length_cons, List.length_nil, List.length_append, oIsN, oIsNot, oSub, oLt, oLe, oGt, oAddI, Bool.false_eq_true, Bool.not_true, Bool.not_false, decide_true, decide_false, reduceIte, reduceCtorEq, Nat.reduceAdd, Nat.reduceSub, Nat.add_zero, Nat.zero_add, app_get, app_get0, app_set, app_set0, oEq_int, oNe_int, noLocL_nil, noLocL_cons, noLoc_non, noLoc_int, noLoc_bl, noLoc_str, noLoc_scr, noLoc_tup, noLoc_lst, noLoc_dic, noLoc_ins, noLocL_ints, Bool.and_self, Bool.and_true, Bool.true_and, and_self, isNonD, Nat.reduceLeDiff, Nat.reduceLT, Nat.reduceEqDiff, Int.reduceAdd, Int.reduceSub, Int.reduceLT, Int.reduceLE, Int.reduceEq, Int.reduceNeg, Int.reduceMod, Int.reduceToNat, v_fm, v_call, altOf_hd, altOf_tl, ixL0, ixL1, ixL2, ixT0, ixT1, ixT2, ixT3, ixT4, ixT5, add_int, len_lst, len_tup, fst_ok, mPop_end, noLoc_encB, ne_eq, not_true, not_false_eq_true, not_true_eq_false, mod_ok, div_ok, sto_assoc, sto_cons, sto_nil, set_int, app_int, app_bk, app_P, app_C, ne_pair, eq_pair, eq_self, List.getElem?_nil, ixB0, ixB1, ixB2, sl_map, ne_bl, eq_bl, t1, ls_P, hc, all_true, sf_parts h.o, notIn_P, hP, w1, w2, lw, ll, sRaise, Out.seq]
    | true =>
      rw [e2] at w2
      cases w <;> try (cases e1; done)
      cases l <;> try (cases e2; done)
      rename_i i k
      have hnot := hn i k rfl rfl
      have hnin : oNotIn (.tup [.int i, .int k]) (.lst ((linesD P).map encC)) s = .ok (.bl true) s := by
        rw [show DV.tup [.int i, .int k] = encC (i, k) from rfl, notIn_C, decide_eq_false hnot]; rfl
      simp only [v_seq, seq_nx, seq_rt, v_meth, bind0_ok, v_lift, v_lend0, v_lend1, consO_some, v_lendD, Res.bind_ok, Res.out_ok, List.getElem?_cons_zero, List.getElem?_cons_succ, List.set_cons_zero, List.set_cons_succ, eVar, eC, eOp, eUn, uNeg, eIx, aNil, aCons, eTup, eLst, eDicF, newL, eCB, eCallT, eAnd, eOr, eNot, eIf, tBl, tNot, tAnd, tOr, eFld, eBM, mAppend, eMake0, pNone, pSome, eSl, eSl3, sAsg, sExpr, sRet, sIf, sNil, sPar, sPar3, sAug, sPut, sPuts, bindP, bindPs, wipeE_nil, wipeE_cons, startE_eq, List.replicate, List.length_cons, List.length_nil, List.length_append, oIsN, oIsNot, oSub, oLt, oLe, oGt, oAddI, Bool.false_eq_true, Bool.not_true, Bool.not_false, decide_true, decide_false, reduceIte, reduceCtorEq, Nat.reduceAdd, Nat.reduceSub, Nat.add_zero, Nat.zero_add, app_get, app_get0, app_set, app_set0, oEq_int, oNe_int, noLocL_nil, noLocL_cons, noLoc_non, noLoc_int, noLoc_bl, noLoc_str, noLoc_scr, noLoc_tup, noLoc_lst, noLoc_dic, noLoc_ins, noLocL_ints, Bool.and_self, Bool.and_true, Bool.true_and, and_self, isNonD, Nat.reduceLeDiff, Nat.reduceLT, Nat.reduceEqDiff, Int.reduceAdd, Int.reduceSub, Int.reduceLT, Int.reduceLE, Int.reduceEq, Int.reduceNeg, Int.reduceMod, Int.reduceToNat, v_fm, v_call, altOf_hd, altOf_tl, ixL0, ixL1, ixL2, ixT0, ixT1, ixT2, ixT3, ixT4, ixT5, add_int, len_lst, len_tup, fst_ok, mPop_end, noLoc_encB, ne_eq, not_true, not_false_eq_true, not_true_eq_false, mod_ok, div_ok, sto_assoc, sto_cons, sto_nil, set_int, app_int, app_bk, app_P, app_C, ne_pair, eq_pair, eq_self, List.getElem?_nil, ixB0, ixB1, ixB2, sl_map, ne_bl, eq_bl, t1, ls_P, hc, all_true, sf_parts h.o, notIn_P, hP, w1, w2, lw, ll, hli, hnin, noLoc_encP, sRaise, Out.seq]
theorem nut_no (h : SlabAt s j a b d S) {c r : DV} (hc : knd c = true) (hr : knd r = true) (lc : noLoc c = true) (lr : noLoc r = true) (hn : ∀ i k : Int, c = .int i → r = .int k → 0 ≤ i → i ≤ S.B.p.length → 0 ≤ k → k ≤ S.B.q.length → (i, k) ∈ S.B.nuts) : T_Slab_nut [.loc j, c, r] s = .exc 17 s := by
  refine excT (e := [some (.loc j), some c, some r, some (.tup [c, r])]) rfl ?_
  unfold m_Slab_nut
  rw [show startE N_Slab_nut [.loc j, c, r] = [some (.loc j), some c, some r, none] from rfl]
  have hce := e_cellX (w := S.B.p.length) (h := S.B.q.length) hc hr lc lr
  cases hb : btw c 0 S.B.p.length && btw r 0 S.B.q.length with
  | false =>
    rw [hb] at hce
    simp only [v_seq, seq_nx, seq_rt, v_meth, bind0_ok, v_lift, v_lend0, v_lend1, consO_some, v_lendD, Res.bind_ok, Res.out_ok, List.getElem?_cons_zero, List.getElem?_cons_succ, List.set_cons_zero, List.set_cons_succ, eVar, eC, eOp, eUn, uNeg, eIx, aNil, aCons, eTup, eLst, eDicF, newL, eCB, eCallT, eAnd, eOr, eNot, eIf, tBl, tNot, tAnd, tOr, eFld, eBM, mAppend, eMake0, pNone, pSome, eSl, eSl3, sAsg, sExpr, sRet, sIf, sNil, sPar, sPar3, sAug, sPut, sPuts, bindP, bindPs, wipeE_nil, wipeE_cons, startE_eq, List.replicate, List.length_cons, List.length_nil, List.length_append, oIsN, oIsNot, oSub, oLt, oLe, oGt, oAddI, Bool.false_eq_true, Bool.not_true, Bool.not_false, decide_true, decide_false, reduceIte, reduceCtorEq, Nat.reduceAdd, Nat.reduceSub, Nat.add_zero, Nat.zero_add, app_get, app_get0, app_set, app_set0, oEq_int, oNe_int, noLocL_nil, noLocL_cons, noLoc_non, noLoc_int, noLoc_bl, noLoc_str, noLoc_scr, noLoc_tup, noLoc_lst, noLoc_dic, noLoc_ins, noLocL_ints, Bool.and_self, Bool.and_true, Bool.true_and, and_self, isNonD, Nat.reduceLeDiff, Nat.reduceLT, Nat.reduceEqDiff, Int.reduceAdd, Int.reduceSub, Int.reduceLT, Int.reduceLE, Int.reduceEq, Int.reduceNeg, Int.reduceMod, Int.reduceToNat, v_fm, v_call, altOf_hd, altOf_tl, ixL0, ixL1, ixL2, ixT0, ixT1, ixT2, ixT3, ixT4, ixT5, add_int, len_lst, len_tup, fst_ok, mPop_end, noLoc_encB, ne_eq, not_true, not_false_eq_true, not_true_eq_false, mod_ok, div_ok, sto_assoc, sto_cons, sto_nil, set_int, app_int, app_bk, app_P, app_C, ne_pair, eq_pair, eq_self, List.getElem?_nil, ixB0, ixB1, ixB2, sl_map, ne_bl, eq_bl, sf_bar h.o, len_loc h.p, len_loc h.q, List.length_map, hce, lc, lr, sRaise, Out.seq]
  | true =>
    rw [hb] at hce
    obtain ⟨b1, b2⟩ := Bool.and_eq_true_iff.mp hb
    cases c <;> try (cases b1; done)
    cases r <;> try (cases b2; done)
    rename_i i k
    simp only [btw, Bool.and_eq_true, decide_eq_true_eq] at b1 b2
    have hin : oIn (.tup [.int i, .int k]) (.lst (S.B.nuts.map encC)) s = .ok (.bl true) s := by
      rw [show DV.tup [.int i, .int k] = encC (i, k) from rfl, in_C, decide_eq_true (hn i k rfl rfl b1.1 b1.2 b2.1 b2.2)]
    simp only [v_seq, seq_nx, seq_rt, v_meth, bind0_ok, v_lift, v_lend0, v_lend1, consO_some, v_lendD, Res.bind_ok, Res.out_ok, List.getElem?_cons_zero, List.getElem?_cons_succ, List.set_cons_zero, List.set_cons_succ, eVar, eC, eOp, eUn, uNeg, eIx, aNil, aCons, eTup, eLst, eDicF, newL, eCB, eCallT, eAnd, eOr, eNot, eIf, tBl, tNot, tAnd, tOr, eFld, eBM, mAppend, eMake0, pNone, pSome, eSl, eSl3, sAsg, sExpr, sRet, sIf, sNil, sPar, sPar3, sAug, sPut, sPuts, bindP, bindPs, wipeE_nil, wipeE_cons, startE_eq, List.replicate, List.length_cons, List.length_nil, List.length_append, oIsN, oIsNot, oSub, oLt, oLe, oGt, oAddI, Bool.false_eq_true, Bool.not_true, Bool.not_false, decide_true, decide_false, reduceIte, reduceCtorEq, Nat.reduceAdd, Nat.reduceSub, Nat.add_zero, Nat.zero_add, app_get, app_get0, app_set, app_set0, oEq_int, oNe_int, noLocL_nil, noLocL_cons, noLoc_non, noLoc_int, noLoc_bl, noLoc_str, noLoc_scr, noLoc_tup, noLoc_lst, noLoc_dic, noLoc_ins, noLocL_ints, Bool.and_self, Bool.and_true, Bool.true_and, and_self, isNonD, Nat.reduceLeDiff, Nat.reduceLT, Nat.reduceEqDiff, Int.reduceAdd, Int.reduceSub, Int.reduceLT, Int.reduceLE, Int.reduceEq, Int.reduceNeg, Int.reduceMod, Int.reduceToNat, v_fm, v_call, altOf_hd, altOf_tl, ixL0, ixL1, ixL2, ixT0, ixT1, ixT2, ixT3, ixT4, ixT5, add_int, len_lst, len_tup, fst_ok, mPop_end, noLoc_encB, ne_eq, not_true, not_false_eq_true, not_true_eq_false, mod_ok, div_ok, sto_assoc, sto_cons, sto_nil, set_int, app_int, app_bk, app_P, app_C, ne_pair, eq_pair, eq_self, List.getElem?_nil, ixB0, ixB1, ixB2, sl_map, ne_bl, eq_bl, sf_bar h.o, len_loc h.p, len_loc h.q, List.length_map, hce, hin, sRaise, Out.seq]
theorem set_no16_aux (h : SlabAt s j a b d S) {w l v : DV} {P0 : Pc} (hwh : G_whole_of [encB (true, true, false) S.B] = .ok (encP P0)) (hli : G_lines_in [encP P0] = .ok (.lst ((linesD P0).map encC))) (hw : knd w = true) (hl : knd l = true) (lw : noLoc w = true) (ll : noLoc l = true) (hn : ∀ i k : Int, w = .int i → l = .int k → (i, k) ∉ linesD P0) : T_Slab_set_price [.loc j, w, l, v] s = .exc 16 s := by
  refine excT (e := [some (.loc j), some w, some l, some v]) rfl ?_
  unfold m_Slab_set_price
  rw [show startE N_Slab_set_price [.loc j, w, l, v] = [some (.loc j), some w, some l, some v] from rfl]
  have lb : lendD s (.tup [.loc a, .loc b, .lst (S.B.nuts.map encC)]) = some (encB (true, true, false) S.B) := (Ld.tup3 (.lst h.p (by simp)) (.lst h.q (by simp)) (.id (by simp))).v
  have w1 := e_isw hw
  have w2 := e_isw hl
  cases e1 : isW w with
  | false =>
    rw [e1] at w1
    simp only [v_seq, seq_nx, seq_rt, v_meth, bind0_ok, v_lift, v_lend0, v_lend1, consO_some, v_lendD, Res.bind_ok, Res.out_ok, List.getElem?_cons_zero, List.getElem?_cons_succ, List.set_cons_zero, List.set_cons_succ, eVar, eC, eOp, eUn, uNeg, eIx, aNil, aCons, eTup, eLst, eDicF, newL, eCB, eCallT, eAnd, eOr, eNot, eIf, tBl, tNot, tAnd, tOr, eFld, eBM, mAppend, eMake0, pNone, pSome, eSl, eSl3, sAsg, sExpr, sRet, sIf, sNil, sPar, sPar3, sAug, sPut, sPuts, bindP, bindPs, wipeE_nil, wipeE_cons, startE_eq, List.replicate, List.length_cons, List.length_nil, List.length_append, oIsN, oIsNot, oSub, oLt, oLe, oGt, oAddI, Bool.false_eq_true, Bool.not_true, Bool.not_false, decide_true, decide_false, reduceIte, reduceCtorEq, Nat.reduceAdd, Nat.reduceSub, Nat.add_zero, Nat.zero_add, app_get, app_get0, app_set, app_set0, oEq_int, oNe_int, noLocL_nil, noLocL_cons, noLoc_non, noLoc_int, noLoc_bl, noLoc_str, noLoc_scr, noLoc_tup, noLoc_lst, noLoc_dic, noLoc_ins, noLocL_ints, Bool.and_self, Bool.and_true, Bool.true_and, and_self, isNonD, Nat.reduceLeDiff, Nat.reduceLT, Nat.reduceEqDiff, Int.reduceAdd, Int.reduceSub, Int.reduceLT, Int.reduceLE, Int.reduceEq, Int.reduceNeg, Int.reduceMod, Int.reduceToNat, v_fm, v_call, altOf_hd, altOf_tl, ixL0, ixL1, ixL2, ixT0, ixT1, ixT2, ixT3, ixT4, ixT5, add_int, len_lst, len_tup, fst_ok, mPop_end, noLoc_encB, ne_eq, not_true, not_false_eq_true, not_true_eq_false, mod_ok, div_ok, sto_assoc, sto_cons, sto_nil, set_int, app_int, app_bk, app_P, app_C, ne_pair, eq_pair, eq_self, List.getElem?_nil, ixB0, ixB1, ixB2, sl_map, ne_bl, eq_bl, w1, lw, sRaise, Out.seq]
  | true =>
    rw [e1] at w1
    cases e2 : isW l with
    | false =>
      rw [e2] at w2
      simp only [v_seq, seq_nx, seq_rt, v_meth, bind0_ok, v_lift, v_lend0, v_lend1, consO_some, v_lendD, Res.bind_ok, Res.out_ok, List.getElem?_cons_zero, List.getElem?_cons_succ, List.set_cons_zero, List.set_cons_succ, eVar, eC, eOp, eUn, uNeg, eIx, aNil, aCons, eTup, eLst, eDicF, newL, eCB, eCallT, eAnd, eOr, eNot, eIf, tBl, tNot, tAnd, tOr, eFld, eBM, mAppend, eMake0, pNone, pSome, eSl, eSl3, sAsg, sExpr, sRet, sIf, sNil, sPar, sPar3, sAug, sPut, sPuts, bindP, bindPs, wipeE_nil, wipeE_cons, startE_eq, List.replicate, List.length_cons, List.length_nil, List.length_append, oIsN, oIsNot, oSub, oLt, oLe, oGt, oAddI, Bool.false_eq_true, Bool.not_true, Bool.not_false, decide_true, decide_false, reduceIte, reduceCtorEq, Nat.reduceAdd, Nat.reduceSub, Nat.add_zero, Nat.zero_add, app_get, app_get0, app_set, app_set0, oEq_int, oNe_int, noLocL_nil, noLocL_cons, noLoc_non, noLoc_int, noLoc_bl, noLoc_str, noLoc_scr, noLoc_tup, noLoc_lst, noLoc_dic, noLoc_ins, noLocL_ints, Bool.and_self, Bool.and_true, Bool.true_and, and_self, isNonD, Nat.reduceLeDiff, Nat.reduceLT, Nat.reduceEqDiff, Int.reduceAdd, Int.reduceSub, Int.reduceLT, Int.reduceLE, Int.reduceEq, Int.reduceNeg, Int.reduceMod, Int.reduceToNat, v_fm, v_call, altOf_hd, altOf_tl, ixL0, ixL1, ixL2, ixT0, ixT1, ixT2, ixT3, ixT4, ixT5, add_int, len_lst, len_tup, fst_ok, mPop_end, noLoc_encB, ne_eq, not_true, not_false_eq_true, not_true_eq_false, mod_ok, div_ok, sto_assoc, sto_cons, sto_nil, set_int, app_int, app_bk, app_P, app_C, ne_pair, eq_pair, eq_self, List.getElem?_nil, ixB0, ixB1, ixB2, sl_map, ne_bl, eq_bl, w1, w2, lw, ll, sRaise, Out.seq]
    | true =>
      rw [e2] at w2
      cases w <;> try (cases e1; done)
      cases l <;> try (cases e2; done)
      rename_i i k
      have hnot := hn i k rfl rfl
      have hnin : oNotIn (.tup [.int i, .int k]) (.lst ((linesD P0).map encC)) s = .ok (.bl true) s := by
        rw [show DV.tup [.int i, .int k] = encC (i, k) from rfl, notIn_C, decide_eq_false hnot]; rfl
      simp only [v_seq, seq_nx, seq_rt, v_meth, bind0_ok, v_lift, v_lend0, v_lend1, consO_some, v_lendD, Res.bind_ok, Res.out_ok, List.getElem?_cons_zero, List.getElem?_cons_succ, List.set_cons_zero, List.set_cons_succ, eVar, eC, eOp, eUn, uNeg, eIx, aNil, aCons, eTup, eLst, eDicF, newL, eCB, eCallT, eAnd, eOr, eNot, eIf, tBl, tNot, tAnd, tOr, eFld, eBM, mAppend, eMake0, pNone, pSome, eSl, eSl3, sAsg, sExpr, sRet, sIf, sNil, sPar, sPar3, sAug, sPut, sPuts, bindP, bindPs, wipeE_nil, wipeE_cons, startE_eq, List.replicate, List.length_cons, List.length_nil, List.length_append, oIsN, oIsNot, oSub, oLt, oLe, oGt, oAddI, Bool.false_eq_true, Bool.not_true, Bool.not_false, decide_true, decide_false, reduceIte, reduceCtorEq, Nat.reduceAdd, Nat.reduceSub, Nat.add_zero, Nat.zero_add, app_get, app_get0, app_set, app_set0, oEq_int, oNe_int, noLocL_nil, noLocL_cons, noLoc_non, noLoc_int, noLoc_bl, noLoc_str, noLoc_scr, noLoc_tup, noLoc_lst, noLoc_dic, noLoc_ins, noLocL_ints, Bool.and_self, Bool.and_true, Bool.true_and, and_self, isNonD, Nat.reduceLeDiff, Nat.reduceLT, Nat.reduceEqDiff, Int.reduceAdd, Int.reduceSub, Int.reduceLT, Int.reduceLE, Int.reduceEq, Int.reduceNeg, Int.reduceMod, Int.reduceToNat, v_fm, v_call, altOf_hd, altOf_tl, ixL0, ixL1, ixL2, ixT0, ixT1, ixT2, ixT3, ixT4, ixT5, add_int, len_lst, len_tup, fst_ok, mPop_end, noLoc_encB, ne_eq, not_true, not_false_eq_true, not_true_eq_false, mod_ok, div_ok, sto_assoc, sto_cons, sto_nil, set_int, app_int, app_bk, app_P, app_C, ne_pair, eq_pair, eq_self, List.getElem?_nil, ixB0, ixB1, ixB2, sl_map, ne_bl, eq_bl, w1, w2, sf_bar h.o, lb, hwh, noLoc_encP, hli, hnin, sRaise, Out.seq]
theorem set_no16 (h : SlabAt s j a b d S) (o : OkS S) {w l v : DV} (hw : knd w = true) (hl : knd l = true) (lw : noLoc w = true) (ll : noLoc l = true) (hn : ∀ i k : Int, w = .int i → l = .int k → (i, k) ∉ linesD (wholeP S.B)) : T_Slab_set_price [.loc j, w, l, v] s = .exc 16 s :=
  set_no16_aux h (e_whole S.B) (e_lines (wholeP S.B) (small_of (by have := o.b.pl; omega) (by have := o.b.ql; omega) (whole_mem S.B))) hw hl lw ll hn
theorem set_no18_aux (h : SlabAt s j a b d S) {i k : Int} {v : DV} {P0 : Pc} (hwh : G_whole_of [encB (true, true, false) S.B] = .ok (encP P0)) (hli : G_lines_in [encP P0] = .ok (.lst ((linesD P0).map encC))) (hin : (i, k) ∈ linesD P0) (hv : knd v = true) (lv : noLoc v = true) (hb : btw v 1 9 = false) : T_Slab_set_price [.loc j, .int i, .int k, v] s = .exc 18 s := by
  refine excT (e := [some (.loc j), some (.int i), some (.int k), some v]) rfl ?_
  unfold m_Slab_set_price
  rw [show startE N_Slab_set_price [.loc j, .int i, .int k, v] = [some (.loc j), some (.int i), some (.int k), some v] from rfl]
  have lb : lendD s (.tup [.loc a, .loc b, .lst (S.B.nuts.map encC)]) = some (encB (true, true, false) S.B) := (Ld.tup3 (.lst h.p (by simp)) (.lst h.q (by simp)) (.id (by simp))).v
  have hnin : oNotIn (.tup [.int i, .int k]) (.lst ((linesD P0).map encC)) s = .ok (.bl false) s := by
    rw [show DV.tup [.int i, .int k] = encC (i, k) from rfl, notIn_C, decide_eq_true hin]; rfl
  have hbt := e_btw (a := 1) (b := 9) hv lv
  rw [hb] at hbt
  simp only [v_seq, seq_nx, seq_rt, v_meth, bind0_ok, v_lift, v_lend0, v_lend1, consO_some, v_lendD, Res.bind_ok, Res.out_ok, List.getElem?_cons_zero, List.getElem?_cons_succ, List.set_cons_zero, List.set_cons_succ, eVar, eC, eOp, eUn, uNeg, eIx, aNil, aCons, eTup, eLst, eDicF, newL, eCB, eCallT, eAnd, eOr, eNot, eIf, tBl, tNot, tAnd, tOr, eFld, eBM, mAppend, eMake0, pNone, pSome, eSl, eSl3, sAsg, sExpr, sRet, sIf, sNil, sPar, sPar3, sAug, sPut, sPuts, bindP, bindPs, wipeE_nil, wipeE_cons, startE_eq, List.replicate, List.length_cons, List.length_nil, List.length_append, oIsN, oIsNot, oSub, oLt, oLe, oGt, oAddI, Bool.false_eq_true, Bool.not_true, Bool.not_false, decide_true, decide_false, reduceIte, reduceCtorEq, Nat.reduceAdd, Nat.reduceSub, Nat.add_zero, Nat.zero_add, app_get, app_get0, app_set, app_set0, oEq_int, oNe_int, noLocL_nil, noLocL_cons, noLoc_non, noLoc_int, noLoc_bl, noLoc_str, noLoc_scr, noLoc_tup, noLoc_lst, noLoc_dic, noLoc_ins, noLocL_ints, Bool.and_self, Bool.and_true, Bool.true_and, and_self, isNonD, Nat.reduceLeDiff, Nat.reduceLT, Nat.reduceEqDiff, Int.reduceAdd, Int.reduceSub, Int.reduceLT, Int.reduceLE, Int.reduceEq, Int.reduceNeg, Int.reduceMod, Int.reduceToNat, v_fm, v_call, altOf_hd, altOf_tl, ixL0, ixL1, ixL2, ixT0, ixT1, ixT2, ixT3, ixT4, ixT5, add_int, len_lst, len_tup, fst_ok, mPop_end, noLoc_encB, ne_eq, not_true, not_false_eq_true, not_true_eq_false, mod_ok, div_ok, sto_assoc, sto_cons, sto_nil, set_int, app_int, app_bk, app_P, app_C, ne_pair, eq_pair, eq_self, List.getElem?_nil, ixB0, ixB1, ixB2, sl_map, ne_bl, eq_bl, e_iswhole, sf_bar h.o, lb, hwh, noLoc_encP, hli, hnin, hbt, lv, sRaise, Out.seq]
theorem set_no18 (h : SlabAt s j a b d S) (o : OkS S) {i k : Int} {v : DV} (hin : (i, k) ∈ linesD (wholeP S.B)) (hv : knd v = true) (lv : noLoc v = true) (hb : btw v 1 9 = false) : T_Slab_set_price [.loc j, .int i, .int k, v] s = .exc 18 s :=
  set_no18_aux h (e_whole S.B) (e_lines (wholeP S.B) (small_of (by have := o.b.pl; omega) (by have := o.b.ql; omega) (whole_mem S.B))) hin hv lv hb
end
end BB
namespace BB
open PySem L2
/-! Refusals: the def that asks, and what is caught. -/
theorem callLam_ok {T : AF → TF} {ip : Nat} {mb : EM} {t : AM} {env : Env} {sto : Sto} {ds : List DV} {r : DV} (ht : t env (sto ++ [.dead]) = .ok ds (sto ++ [.dead]))
    (hT : T (fun _ d st => mb (env.set ip (some d)) st) (.loc sto.length :: ds) (sto ++ [.fn 0]) = .ok r (sto ++ [.fn 0])) : eCallLam T ip mb t env sto = .ok r (sto ++ [.dead]) := by
  have h1 : (sto ++ [DO.dead]).set sto.length (.fn 0) = sto ++ [.fn 0] := by simp
  have h2 : (sto ++ [DO.fn 0]).set sto.length .dead = sto ++ [.dead] := by simp
  simp only [eCallLam, ht, Res.bind_ok, h1, hT, Res.kill, h2]
theorem e_which (xc : Nat) (h : 10 < xc ∧ xc < 19) : G__law_which xc [.cls 1000] = .ok (.int (xc - 11 : Int)) := by
  have : xc = 11 ∨ xc = 12 ∨ xc = 13 ∨ xc = 14 ∨ xc = 15 ∨ xc = 16 ∨ xc = 17 ∨ xc = 18 := by omega
  rcases this with rfl | rfl | rfl | rfl | rfl | rfl | rfl | rfl <;> rfl
theorem exm_ok' {c : Nat} (h : 10 < c ∧ c < 19) : exm_BarError c = some true := if_pos h
abbrev envRf (n0 : Nat) (gg : Bool) (things : List DV) (u : Int) (x y : Option DV) : Env := [some (.loc n0), some (.lstG gg things), some (.int u), x, y, none]
theorem which_run {c : Nat} (hc : 10 < c ∧ c < 19) : eCall (G__law_which c) (aCons (eVar 5) aNil) ((List.replicate 6 none).set 5 (some (.cls 1000))) [] = .ok (.int (c - 11 : Int)) [] := by
  have h1 : aCons (eVar 5) aNil ((List.replicate 6 none).set 5 (some (.cls 1000))) [] = .ok [.cls 1000] [] := rfl
  have h2 : lend [] [DV.cls 1000] = some [.cls 1000] := rfl
  simp only [eCallT, h1, Res.bind_ok, liftP, h2, e_which c hc]
theorem refused_step {I : AF} {n0 : Nat} {gg : Bool} {things : List DV} {c : Nat} {s : Sto} (hc : 10 < c ∧ c < 19) (hn : s[n0]? = some (.fn 0)) {x : DV} (hI : I 0 x s = .exc c s) :
    sSeq (sAsg (.nm 4) (eUn uNeg (eC (.int 1)))) (sSeq (sTryAs exm_BarError 5 4 (sExpr (eAsk I 0 (aCons (eVar 3) aNil))) (fun xc => (eCall (G__law_which xc) (aCons (eVar 5) aNil))))
    (sIf (tBl (eOp oNe (eVar 4) (eVar 2))) (sRet (eC (.bl false))) sNil)) (envRf n0 gg things (c - 11) (some x) none) s = .nx (envRf n0 gg things (c - 11) (some x) (some (.int (c - 11)))) s := by
  rw [sSeq_nx (a := sAsg (.nm 4) (eUn uNeg (eC (.int 1)))) (e := envRf n0 gg things (c - 11) (some x) (some (.int (-1)))) (s := s) (by rfl)]
  have h1 : sExpr (eAsk I 0 (aCons (eVar 3) aNil)) (envRf n0 gg things (c - 11) (some x) (some (.int (-1)))) s = .exc c (envRf n0 gg things (c - 11) (some x) (some (.int (-1)))) s := by
    have : eAsk I 0 (aCons (eVar 3) aNil) (envRf n0 gg things (c - 11) (some x) (some (.int (-1)))) s = .exc c s := by
      simp only [eAsk, List.getElem?_cons_zero, hn]
      have ha : aCons (eVar 3) aNil (envRf n0 gg things (c - 11) (some x) (some (.int (-1)))) s = .ok [x] s := rfl
      simp only [ha, Res.bind_ok, hn, hI]
    simp only [sExpr, this, Res.out_exc]
  have h2 : sTryAs exm_BarError 5 4 (sExpr (eAsk I 0 (aCons (eVar 3) aNil))) (fun xc => (eCall (G__law_which xc) (aCons (eVar 5) aNil))) (envRf n0 gg things (c - 11) (some x) (some (.int (-1)))) s = .nx (envRf n0 gg things (c - 11) (some x) (some (.int (c - 11)))) s := by
    simp only [sTryAs, h1, exm_ok' hc]
    rw [show (envRf n0 gg things (c - 11) (some x) (some (.int (-1)))).length = 6 from rfl, which_run hc]
    rfl
  rw [sSeq_nx h2]
  have h3 : tBl (eOp oNe (eVar 4) (eVar 2)) (envRf n0 gg things (c - 11) (some x) (some (.int (c - 11)))) s = .ok false s := by
    simp only [tBl, eOp, eVar, List.getElem?_cons_zero, List.getElem?_cons_succ, Res.bind_ok, oNe_int]
    simp
  rw [sIf_ok h3]
  rfl
/-- all things are refused by the class c alone -/
theorem e_refused {I : AF} {n0 : Nat} {gg : Bool} {things : List DV} {c : Nat} {s : Sto} (hc : 10 < c ∧ c < 19) (hn : s[n0]? = some (.fn 0)) (hI : ∀ x ∈ things, I 0 x s = .exc c s) :
    runT 3 N__law_refused (m__law_refused I) [.loc n0, .lstG gg things, .int (c - 11)] s = .ok (.bl true) s := by
  refine runT_rt rfl ?_
  unfold m__law_refused
  rw [show startE N__law_refused [.loc n0, .lstG gg things, .int (c - 11)] = envRf n0 gg things (c - 11) none none from rfl]
  have loop : ∀ xs : List DV, (∀ x ∈ xs, x ∈ things) → runL (.nm 3) [3, 4] (sSeq (sAsg (.nm 4) (eUn uNeg (eC (.int 1)))) (sSeq (sTryAs exm_BarError 5 4 (sExpr (eAsk I 0 (aCons (eVar 3) aNil))) (fun xc => (eCall (G__law_which xc) (aCons (eVar 5) aNil))))
    (sIf (tBl (eOp oNe (eVar 4) (eVar 2))) (sRet (eC (.bl false))) sNil))) xs (envRf n0 gg things (c - 11) none none) s = .nx (envRf n0 gg things (c - 11) none none) s := by
    intro xs
    induction xs with
    | nil => intro _; rfl
    | cons x xs ih =>
      intro h
      unfold runL
      rw [show bindP (.nm 3) x (envRf n0 gg things (c - 11) none none) = some (envRf n0 gg things (c - 11) (some x) none) from rfl]
      simp only
      rw [refused_step hc hn (hI x (h x (by simp)))]
      exact ih fun y hy => h y (by simp [hy])
  rw [sSeq_nx (e := envRf n0 gg things (c - 11) none none) (s := s) (by rw [sFor_fix (iSeq_lst rfl)]; exact loop things fun _ h => h)]
  rfl
end BB
namespace BB
open PySem L2
def zipI {α : Type} : Nat → List α → List (Nat × α)
  | _, [] => []
  | k, x :: xs => (k, x) :: zipI (k + 1) xs
theorem enum_map {α : Type} (f : α → DV) : ∀ (k : Nat) (xs : List α), enumD k (xs.map f) = (zipI k xs).map fun q => .tup [.int (q.1 : Nat), f q.2]
  | k, [] => rfl
  | k, x :: xs => by simp [enumD, zipI, enum_map f (k + 1) xs]
theorem zipI_mem {α : Type} : ∀ (k : Nat) (xs : List α) (q : Nat × α), q ∈ zipI k xs → k ≤ q.1 ∧ xs[q.1 - k]? = some q.2
  | k, [], q, h => by simp [zipI] at h
  | k, x :: xs, q, h => by
    simp only [zipI, List.mem_cons] at h
    rcases h with rfl | h
    · simp
    · obtain ⟨h1, h2⟩ := zipI_mem (k + 1) xs q h
      refine ⟨by omega, ?_⟩
      rw [show q.1 - k = (q.1 - (k + 1)) + 1 by omega, List.getElem?_cons_succ]
      exact h2
theorem zipI_len {α : Type} : ∀ (k : Nat) (xs : List α), (zipI k xs).length = xs.length
  | k, [] => rfl
  | k, x :: xs => by simp [zipI, zipI_len (k + 1) xs]
/-! lines by their prices -/
def encL (t : Int × Int × Int) : DV := .tup [.int t.1, .int t.2.1, .int t.2.2]
def leL (a b : Int × Int × Int) : Bool := PySem.W.dataLe false encD (encL a) (encL b)
theorem enc_L (t : Int × Int × Int) : encD (encL t) = .tuple [.int t.1, .int t.2.1, .int t.2.2] := by
  simp [encD, encL, pyW, pyWL]
theorem leL_le {a b : Int × Int × Int} (h : leL a b = true) : a.1 ≤ b.1 := by
  unfold leL PySem.W.dataLe PySem.W.sortLe at h
  simp only [cond_false, enc_L, PySem.W.keyToks, PySem.W.keyToksAll] at h
  rw [Bool.not_eq_true'] at h
  have h : PyProof.Rows.lexLt PyProof.Rows.itemOrd _ _ = false := h
  rw [PyProof.Rows.lex_self] at h
  simp only [List.singleton_append, List.cons_append, List.nil_append] at h
  by_cases e : a.1 = b.1
  · omega
  · rw [PyProof.Rows.lex_diff (fun z => e (Sum.inl.inj z).symm)] at h
    have h : decide (b.1 < a.1) = false := h
    simp at h
    omega
def sortL (xs : List (Int × Int × Int)) : List (Int × Int × Int) := xs.mergeSort leL
theorem sortL_perm (xs : List (Int × Int × Int)) : (sortL xs).Perm xs := List.mergeSort_perm _ _
theorem sortL_le (xs : List (Int × Int × Int)) : (sortL xs).Pairwise (fun a b => a.1 ≤ b.1) :=
  (PySem.W.sort_pairwise (le := leL) ⟨fun a b c => (PySem.W.sortLe_total (PyProof.Rows.listOrd PyProof.Rows.itemOrd) false fun d => PySem.W.keyToks (encD (encL d))).trans a b c, fun a b => (PySem.W.sortLe_total (PyProof.Rows.listOrd PyProof.Rows.itemOrd) false fun d => PySem.W.keyToks (encD (encL d))).total a b⟩ xs).imp leL_le
theorem sort_L {b : Bool} {xs : List (Int × Int × Int)} {sto : Sto} (hl : xs.length ≤ 1000000) : fSorted b [.lst (xs.map encL)] sto = newL b ((sortL xs).map encL) sto := by
  rw [fSorted_map (f := encL) (by intro x; simp [encL, pyW, pyWL]) (by intro x y; simp [enc_L, PySem.W.alike, PySem.W.alikeAll]) (by intro x; simp [enc_L, isTup1]) (by intro x; simp [enc_L, PyData.depth, PyData.depthAll]) hl]
  rfl
end BB
namespace BB
open PySem L2
def noN (mo : Int) : List DV := [.non, .str "1", .bl true, .bl false, .lst [.int 1], .tup [.int 1], .dic [] [], .int (-1), .int (-1 - mo)]
theorem e_noN (mo : Int) : G__law_no_numbers [.int mo] = .ok (.lst (noN mo)) := rfl
/-- things that are no whole numbers in their place -/
theorem noN_mem {mo : Int} {x : DV} (h : x ∈ noN mo) : knd x = true ∧ noLoc x = true ∧ (isW x = false ∨ x = .int (-1) ∨ x = .int (-1 - mo)) := by
  simp only [noN, List.mem_cons, List.not_mem_nil, or_false] at h
  rcases h with rfl | rfl | rfl | rfl | rfl | rfl | rfl | rfl | rfl <;> simp [knd, isW]
def rowP : List DV := [.int 0, .int 0, .int 1, .int 2]
def noB : List DV := [.non, .int 5, .str "piece", .tup [], .lst [.int 0, .int 0, .int 1, .int 2], .tup [.int 0, .int 0, .int 1], .tup [.int 0, .int 0, .int 1, .int 2, .int 0], .tup [.int 0, .int 0, .int 3, .int 2], .tup [.int 1, .int 0, .int 2, .int 2], .dic [] [], .tup [.int 0, .int 0, .int 1, .int 1]]
def spotT (mo : Int) (q : Nat × DV) : DV := .tup (rowP.set (((q.1 : Int) + mo) % 4).toNat q.2)
def noPs (mo : Int) : List DV := noB ++ (zipI 0 (noN mo ++ [.int (3 + mo)])).map (spotT mo)
theorem spot_cut {k : Int} (hk : 0 ≤ k ∧ k < 4) (x : DV) (s : Sto) : ∃ u v, slD false (.tup rowP) none (some k) s = .ok (.tup u) s ∧ slD false (.tup rowP) (some (k + 1)) none s = .ok (.tup v) s ∧ u ++ [x] ++ v = rowP.set k.toNat x ∧ u.length ≤ 4 ∧ v.length ≤ 4 := by
  have : k = 0 ∨ k = 1 ∨ k = 2 ∨ k = 3 := by omega
  rcases this with rfl | rfl | rfl | rfl
  · exact ⟨[], [.int 0, .int 1, .int 2], rfl, rfl, rfl, by decide, by decide⟩
  · exact ⟨[.int 0], [.int 1, .int 2], rfl, rfl, rfl, by decide, by decide⟩
  · exact ⟨[.int 0, .int 0], [.int 2], rfl, rfl, rfl, by decide, by decide⟩
  · exact ⟨[.int 0, .int 0, .int 1], [], rfl, rfl, rfl, by decide, by decide⟩
theorem noPs_aux (mo : Int) : Rt (m__law_no_pieces (startE N__law_no_pieces [.int mo]) []) fun d s => d = .loc 0 ∧ s[0]? = some (.lst (noPs mo)) := by
  unfold m__law_no_pieces
  rw [show startE N__law_no_pieces [.int mo] = [some (.int mo), none, none, none, none, none] from rfl]
  (first | apply rt_go | apply nx_go); focus (simp only [v_seq, seq_nx, seq_rt, v_meth, bind0_ok, v_lift, v_lend0, v_lend1, consO_some, v_lendD, Res.bind_ok, Res.out_ok, List.getElem?_cons_zero, List.getElem?_cons_succ, List.set_cons_zero, List.set_cons_succ, eVar, eC, eOp, eUn, uNeg, eIx, aNil, aCons, eTup, eLst, eDicF, newL, eCB, eCallT, eAnd, eOr, eNot, eIf, tBl, tNot, tAnd, tOr, eFld, eBM, mAppend, eMake0, pNone, pSome, eSl, eSl3, sAsg, sExpr, sRet, sIf, sNil, sPar, sPar3, sAug, sPut, sPuts, bindP, bindPs, wipeE_nil, wipeE_cons, startE_eq, List.replicate, List.length_cons, List.length_nil, List.length_append, oIsN, oIsNot, oSub, oLt, oLe, oGt, oAddI, Bool.false_eq_true, Bool.not_true, Bool.not_false, decide_true, decide_false, reduceIte, reduceCtorEq, Nat.reduceAdd, Nat.reduceSub, Nat.add_zero, Nat.zero_add, app_get, app_get0, app_set, app_set0, oEq_int, oNe_int, noLocL_nil, noLocL_cons, noLoc_non, noLoc_int, noLoc_bl, noLoc_str, noLoc_scr, noLoc_tup, noLoc_lst, noLoc_dic, noLoc_ins, noLocL_ints, Bool.and_self, Bool.and_true, Bool.true_and, and_self, isNonD, Nat.reduceLeDiff, Nat.reduceLT, Nat.reduceEqDiff, Int.reduceAdd, Int.reduceSub, Int.reduceLT, Int.reduceLE, Int.reduceEq, Int.reduceNeg, Int.reduceMod, Int.reduceToNat, v_fm, v_call, altOf_hd, altOf_tl, ixL0, ixL1, ixL2, ixT0, ixT1, ixT2, ixT3, ixT4, ixT5, add_int, len_lst, len_tup, fst_ok, mPop_end, noLoc_encB, ne_eq, not_true, not_false_eq_true, not_true_eq_false, mod_ok, div_ok, sto_assoc, sto_cons, sto_nil, set_int, app_int, app_bk, app_P, app_C, ne_pair, eq_pair, eq_self, List.getElem?_nil, ixB0, ixB1, ixB2, sl_map, ne_bl, eq_bl]; first | done | exact rfl)
  have hl0 : (10 : Nat) < 1000000 := by omega
  (first | apply rt_go | apply nx_go); focus (simp only [v_seq, seq_nx, seq_rt, v_meth, bind0_ok, v_lift, v_lend0, v_lend1, consO_some, v_lendD, Res.bind_ok, Res.out_ok, List.getElem?_cons_zero, List.getElem?_cons_succ, List.set_cons_zero, List.set_cons_succ, eVar, eC, eOp, eUn, uNeg, eIx, aNil, aCons, eTup, eLst, eDicF, newL, eCB, eCallT, eAnd, eOr, eNot, eIf, tBl, tNot, tAnd, tOr, eFld, eBM, mAppend, eMake0, pNone, pSome, eSl, eSl3, sAsg, sExpr, sRet, sIf, sNil, sPar, sPar3, sAug, sPut, sPuts, bindP, bindPs, wipeE_nil, wipeE_cons, startE_eq, List.replicate, List.length_cons, List.length_nil, List.length_append, oIsN, oIsNot, oSub, oLt, oLe, oGt, oAddI, Bool.false_eq_true, Bool.not_true, Bool.not_false, decide_true, decide_false, reduceIte, reduceCtorEq, Nat.reduceAdd, Nat.reduceSub, Nat.add_zero, Nat.zero_add, app_get, app_get0, app_set, app_set0, oEq_int, oNe_int, noLocL_nil, noLocL_cons, noLoc_non, noLoc_int, noLoc_bl, noLoc_str, noLoc_scr, noLoc_tup, noLoc_lst, noLoc_dic, noLoc_ins, noLocL_ints, Bool.and_self, Bool.and_true, Bool.true_and, and_self, isNonD, Nat.reduceLeDiff, Nat.reduceLT, Nat.reduceEqDiff, Int.reduceAdd, Int.reduceSub, Int.reduceLT, Int.reduceLE, Int.reduceEq, Int.reduceNeg, Int.reduceMod, Int.reduceToNat, v_fm, v_call, altOf_hd, altOf_tl, ixL0, ixL1, ixL2, ixT0, ixT1, ixT2, ixT3, ixT4, ixT5, add_int, len_lst, len_tup, fst_ok, mPop_end, noLoc_encB, ne_eq, not_true, not_false_eq_true, not_true_eq_false, mod_ok, div_ok, sto_assoc, sto_cons, sto_nil, set_int, app_int, app_bk, app_P, app_C, ne_pair, eq_pair, eq_self, List.getElem?_nil, ixB0, ixB1, ixB2, sl_map, ne_bl, eq_bl]; first | done | exact rfl)
  refine rt_seq (Q := fun e s => e = [some (.int mo), some (.loc 0), none, none, none, none] ∧ s[0]? = some (.lst (noPs mo))) (Nx.imp (nx_for (ws := [2, 3, 4, 5]) (enc := fun q : Nat × DV => .tup [.int (q.1 : Nat), q.2]) (xs := zipI 0 (noN mo ++ [.int (3 + mo)])) (s := [.lst noB]) ?hi (fun dn e s => e = [some (.int mo), some (.loc 0), none, none, none, none] ∧ s[0]? = some (.lst (noB ++ dn.map (spotT mo)))) ⟨rfl, by simp⟩ ?_) (fun _ _ h => h)) ?_
  case hi =>
    have he : enumD 0 (noN mo ++ [.int (3 + mo)]) = (zipI 0 (noN mo ++ [.int (3 + mo)])).map fun q => .tup [.int (q.1 : Nat), q.2] := by
      have := enum_map (fun x : DV => x) 0 (noN mo ++ [.int (3 + mo)])
      simpa using this
    have hadd : oAdd false (.lst (noN mo)) (.lst [.int (3 + mo)]) [.lst noB] = .ok (.lst (noN mo ++ [.int (3 + mo)])) [.lst noB] := by rw [add_ls (by simp [noN])]; rfl
    simp only [v_seq, seq_nx, seq_rt, v_meth, bind0_ok, v_lift, v_lend0, v_lend1, consO_some, v_lendD, Res.bind_ok, Res.out_ok, List.getElem?_cons_zero, List.getElem?_cons_succ, List.set_cons_zero, List.set_cons_succ, eVar, eC, eOp, eUn, uNeg, eIx, aNil, aCons, eTup, eLst, eDicF, newL, eCB, eCallT, eAnd, eOr, eNot, eIf, tBl, tNot, tAnd, tOr, eFld, eBM, mAppend, eMake0, pNone, pSome, eSl, eSl3, sAsg, sExpr, sRet, sIf, sNil, sPar, sPar3, sAug, sPut, sPuts, bindP, bindPs, wipeE_nil, wipeE_cons, startE_eq, List.replicate, List.length_cons, List.length_nil, List.length_append, oIsN, oIsNot, oSub, oLt, oLe, oGt, oAddI, Bool.false_eq_true, Bool.not_true, Bool.not_false, decide_true, decide_false, reduceIte, reduceCtorEq, Nat.reduceAdd, Nat.reduceSub, Nat.add_zero, Nat.zero_add, app_get, app_get0, app_set, app_set0, oEq_int, oNe_int, noLocL_nil, noLocL_cons, noLoc_non, noLoc_int, noLoc_bl, noLoc_str, noLoc_scr, noLoc_tup, noLoc_lst, noLoc_dic, noLoc_ins, noLocL_ints, Bool.and_self, Bool.and_true, Bool.true_and, and_self, isNonD, Nat.reduceLeDiff, Nat.reduceLT, Nat.reduceEqDiff, Int.reduceAdd, Int.reduceSub, Int.reduceLT, Int.reduceLE, Int.reduceEq, Int.reduceNeg, Int.reduceMod, Int.reduceToNat, v_fm, v_call, altOf_hd, altOf_tl, ixL0, ixL1, ixL2, ixT0, ixT1, ixT2, ixT3, ixT4, ixT5, add_int, len_lst, len_tup, fst_ok, mPop_end, noLoc_encB, ne_eq, not_true, not_false_eq_true, not_true_eq_false, mod_ok, div_ok, sto_assoc, sto_cons, sto_nil, set_int, app_int, app_bk, app_P, app_C, ne_pair, eq_pair, eq_self, List.getElem?_nil, ixB0, ixB1, ixB2, sl_map, ne_bl, eq_bl, iEnum, frzL, e_noN, hadd, he]
    rfl
  · rintro dn ⟨i, x⟩ rst _ s hd ⟨rfl, hs⟩
    refine ⟨[some (.int mo), some (.loc 0), some (.int (i : Nat)), some x, none, none], rfl, ?_⟩
    (first | apply rt_go | apply nx_go); focus (simp only [v_seq, seq_nx, seq_rt, v_meth, bind0_ok, v_lift, v_lend0, v_lend1, consO_some, v_lendD, Res.bind_ok, Res.out_ok, List.getElem?_cons_zero, List.getElem?_cons_succ, List.set_cons_zero, List.set_cons_succ, eVar, eC, eOp, eUn, uNeg, eIx, aNil, aCons, eTup, eLst, eDicF, newL, eCB, eCallT, eAnd, eOr, eNot, eIf, tBl, tNot, tAnd, tOr, eFld, eBM, mAppend, eMake0, pNone, pSome, eSl, eSl3, sAsg, sExpr, sRet, sIf, sNil, sPar, sPar3, sAug, sPut, sPuts, bindP, bindPs, wipeE_nil, wipeE_cons, startE_eq, List.replicate, List.length_cons, List.length_nil, List.length_append, oIsN, oIsNot, oSub, oLt, oLe, oGt, oAddI, Bool.false_eq_true, Bool.not_true, Bool.not_false, decide_true, decide_false, reduceIte, reduceCtorEq, Nat.reduceAdd, Nat.reduceSub, Nat.add_zero, Nat.zero_add, app_get, app_get0, app_set, app_set0, oEq_int, oNe_int, noLocL_nil, noLocL_cons, noLoc_non, noLoc_int, noLoc_bl, noLoc_str, noLoc_scr, noLoc_tup, noLoc_lst, noLoc_dic, noLoc_ins, noLocL_ints, Bool.and_self, Bool.and_true, Bool.true_and, and_self, isNonD, Nat.reduceLeDiff, Nat.reduceLT, Nat.reduceEqDiff, Int.reduceAdd, Int.reduceSub, Int.reduceLT, Int.reduceLE, Int.reduceEq, Int.reduceNeg, Int.reduceMod, Int.reduceToNat, v_fm, v_call, altOf_hd, altOf_tl, ixL0, ixL1, ixL2, ixT0, ixT1, ixT2, ixT3, ixT4, ixT5, add_int, len_lst, len_tup, fst_ok, mPop_end, noLoc_encB, ne_eq, not_true, not_false_eq_true, not_true_eq_false, mod_ok, div_ok, sto_assoc, sto_cons, sto_nil, set_int, app_int, app_bk, app_P, app_C, ne_pair, eq_pair, eq_self, List.getElem?_nil, ixB0, ixB1, ixB2, sl_map, ne_bl, eq_bl]; first | done | exact rfl)
    have h4 : (0 : Int) < 4 := by omega
    (first | apply rt_go | apply nx_go); focus (simp only [v_seq, seq_nx, seq_rt, v_meth, bind0_ok, v_lift, v_lend0, v_lend1, consO_some, v_lendD, Res.bind_ok, Res.out_ok, List.getElem?_cons_zero, List.getElem?_cons_succ, List.set_cons_zero, List.set_cons_succ, eVar, eC, eOp, eUn, uNeg, eIx, aNil, aCons, eTup, eLst, eDicF, newL, eCB, eCallT, eAnd, eOr, eNot, eIf, tBl, tNot, tAnd, tOr, eFld, eBM, mAppend, eMake0, pNone, pSome, eSl, eSl3, sAsg, sExpr, sRet, sIf, sNil, sPar, sPar3, sAug, sPut, sPuts, bindP, bindPs, wipeE_nil, wipeE_cons, startE_eq, List.replicate, List.length_cons, List.length_nil, List.length_append, oIsN, oIsNot, oSub, oLt, oLe, oGt, oAddI, Bool.false_eq_true, Bool.not_true, Bool.not_false, decide_true, decide_false, reduceIte, reduceCtorEq, Nat.reduceAdd, Nat.reduceSub, Nat.add_zero, Nat.zero_add, app_get, app_get0, app_set, app_set0, oEq_int, oNe_int, noLocL_nil, noLocL_cons, noLoc_non, noLoc_int, noLoc_bl, noLoc_str, noLoc_scr, noLoc_tup, noLoc_lst, noLoc_dic, noLoc_ins, noLocL_ints, Bool.and_self, Bool.and_true, Bool.true_and, and_self, isNonD, Nat.reduceLeDiff, Nat.reduceLT, Nat.reduceEqDiff, Int.reduceAdd, Int.reduceSub, Int.reduceLT, Int.reduceLE, Int.reduceEq, Int.reduceNeg, Int.reduceMod, Int.reduceToNat, v_fm, v_call, altOf_hd, altOf_tl, ixL0, ixL1, ixL2, ixT0, ixT1, ixT2, ixT3, ixT4, ixT5, add_int, len_lst, len_tup, fst_ok, mPop_end, noLoc_encB, ne_eq, not_true, not_false_eq_true, not_true_eq_false, mod_ok, div_ok, sto_assoc, sto_cons, sto_nil, set_int, app_int, app_bk, app_P, app_C, ne_pair, eq_pair, eq_self, List.getElem?_nil, ixB0, ixB1, ixB2, sl_map, ne_bl, eq_bl, mod_ok h4]; first | done | exact rfl)
    have k0 := Int.emod_nonneg ((i : Int) + mo) (show (4 : Int) ≠ 0 by omega)
    have k1 := Int.emod_lt_of_pos ((i : Int) + mo) h4
    obtain ⟨u, v, c1, c2, c3, c4, c5⟩ := spot_cut ⟨k0, k1⟩ x s
    have a1 : oAdd false (.tup u) (.tup [x]) s = .ok (.tup (u ++ [x])) s := add_tup (by simp; omega)
    have a2 : oAdd false (.tup (u ++ [x])) (.tup v) s = .ok (.tup (u ++ [x] ++ v)) s := add_tup (by simp; omega)
    have hlen : dn.length < 20 := by
      have := congrArg List.length hd
      rw [zipI_len] at this
      simp [noN] at this
      omega
    have hlt : noB.length + (dn.map (spotT mo)).length < 1000000 := by simp [noB]; omega
    have er : DV.tup [.int 0, .int 0, .int 1, .int 2] = .tup rowP := rfl
    (first | apply rt_end | apply nx_end); focus (simp only [v_seq, seq_nx, seq_rt, v_meth, bind0_ok, v_lift, v_lend0, v_lend1, consO_some, v_lendD, Res.bind_ok, Res.out_ok, List.getElem?_cons_zero, List.getElem?_cons_succ, List.set_cons_zero, List.set_cons_succ, eVar, eC, eOp, eUn, uNeg, eIx, aNil, aCons, eTup, eLst, eDicF, newL, eCB, eCallT, eAnd, eOr, eNot, eIf, tBl, tNot, tAnd, tOr, eFld, eBM, mAppend, eMake0, pNone, pSome, eSl, eSl3, sAsg, sExpr, sRet, sIf, sNil, sPar, sPar3, sAug, sPut, sPuts, bindP, bindPs, wipeE_nil, wipeE_cons, startE_eq, List.replicate, List.length_cons, List.length_nil, List.length_append, oIsN, oIsNot, oSub, oLt, oLe, oGt, oAddI, Bool.false_eq_true, Bool.not_true, Bool.not_false, decide_true, decide_false, reduceIte, reduceCtorEq, Nat.reduceAdd, Nat.reduceSub, Nat.add_zero, Nat.zero_add, app_get, app_get0, app_set, app_set0, oEq_int, oNe_int, noLocL_nil, noLocL_cons, noLoc_non, noLoc_int, noLoc_bl, noLoc_str, noLoc_scr, noLoc_tup, noLoc_lst, noLoc_dic, noLoc_ins, noLocL_ints, Bool.and_self, Bool.and_true, Bool.true_and, and_self, isNonD, Nat.reduceLeDiff, Nat.reduceLT, Nat.reduceEqDiff, Int.reduceAdd, Int.reduceSub, Int.reduceLT, Int.reduceLE, Int.reduceEq, Int.reduceNeg, Int.reduceMod, Int.reduceToNat, v_fm, v_call, altOf_hd, altOf_tl, ixL0, ixL1, ixL2, ixT0, ixT1, ixT2, ixT3, ixT4, ixT5, add_int, len_lst, len_tup, fst_ok, mPop_end, noLoc_encB, ne_eq, not_true, not_false_eq_true, not_true_eq_false, mod_ok, div_ok, sto_assoc, sto_cons, sto_nil, set_int, app_int, app_bk, app_P, app_C, ne_pair, eq_pair, eq_self, List.getElem?_nil, ixB0, ixB1, ixB2, sl_map, ne_bl, eq_bl, er, c1, c2, a1, a2, hs, hlt]; first | done | exact rfl)
    refine ⟨rfl, ?_⟩
    rw [set_get hs, c3]
    simp [spotT]
  · rintro _ s ⟨rfl, hs⟩
    exact ⟨_, _, rfl, rfl, hs⟩
theorem cleanL_set {xs : List DV} {x : DV} {k : Nat} (h : cleanL xs = true) (hx : clean x = true) : cleanL (xs.set k x) = true := by
  induction xs generalizing k with
  | nil => simpa using h
  | cons y ys ih =>
    rw [cleanL, Bool.and_eq_true] at h
    cases k with
    | zero => simp [cleanL, hx, h.2]
    | succ k => simp [cleanL, h.1, ih h.2]
theorem cleanL_mem {xs : List DV} (h : ∀ x ∈ xs, clean x = true) : cleanL xs = true := by
  induction xs with
  | nil => rfl
  | cons y ys ih => simp [cleanL, h y (by simp), ih fun x hx => h x (by simp [hx])]
theorem runP_loc {n j : Nat} {N : List Str} {m : SM} {ds es : List DV} {s : Sto} (hl : ds.length = n) (h : m (startE N ds) [] = .rt (.loc j) s) (hs : s[j]? = some (.lst es)) (hc : cleanL es = true) : runP n N m ds = .ok (.lst es) := by
  refine runP_frz hl h ?_
  simp [frz, frzW, flk, flookW, hs, frzWL_id _ _ hc]
theorem noLoc_set {xs : List DV} {x : DV} {k : Nat} (h : noLocL xs = true) (hx : noLoc x = true) : noLocL (xs.set k x) = true := by
  induction xs generalizing k with
  | nil => simp
  | cons y ys ih =>
    simp only [noLocL_cons, Bool.and_eq_true] at h
    cases k with
    | zero => simp [hx, h.2]
    | succ k => simp [h.1, ih h.2]
theorem noPs_mem {mo : Int} {x : DV} (h : x ∈ noPs mo) : x ∈ noB ∨ ∃ i : Nat, ∃ y ∈ noN mo ++ [.int (3 + mo)], x = spotT mo (i, y) := by
  unfold noPs at h
  rcases List.mem_append.mp h with h | h
  · exact .inl h
  · obtain ⟨q, hq, rfl⟩ := List.mem_map.mp h
    obtain ⟨_, h2⟩ := zipI_mem 0 _ q hq
    exact .inr ⟨q.1, q.2, List.mem_of_getElem? h2, rfl⟩
theorem noLocL_mem {xs : List DV} (h : ∀ x ∈ xs, noLoc x = true) : noLocL xs = true := by
  induction xs with
  | nil => rfl
  | cons y ys ih => simp [h y (by simp), ih fun x hx => h x (by simp [hx])]
theorem noPs_loc (mo : Int) : noLocL (noPs mo) = true := by
  refine noLocL_mem fun x hx => ?_
  rcases noPs_mem hx with h | ⟨i, y, hy, rfl⟩
  · simp only [noB, List.mem_cons, List.not_mem_nil, or_false] at h
    rcases h with rfl | rfl | rfl | rfl | rfl | rfl | rfl | rfl | rfl | rfl | rfl <;> rfl
  · have : noLoc y = true := by
      rcases List.mem_append.mp hy with hy | hy
      · exact (noN_mem hy).2.1
      · simp only [List.mem_singleton] at hy; subst hy; rfl
    simp only [spotT, noLoc_tup]
    exact noLoc_set rfl this
theorem noPs_clean (mo : Int) : cleanL (noPs mo) = true := by
  refine cleanL_mem fun x hx => ?_
  rcases noPs_mem hx with h | ⟨i, y, hy, rfl⟩
  · simp only [noB, List.mem_cons, List.not_mem_nil, or_false] at h
    rcases h with rfl | rfl | rfl | rfl | rfl | rfl | rfl | rfl | rfl | rfl | rfl <;> rfl
  · have : clean y = true := by
      simp only [noN, List.mem_append, List.mem_cons, List.not_mem_nil, or_false] at hy
      rcases hy with (rfl | rfl | rfl | rfl | rfl | rfl | rfl | rfl | rfl) | rfl <;> rfl
    simp only [spotT, clean_tup]
    exact cleanL_set rfl this
theorem e_noPs (mo : Int) : G__law_no_pieces [.int mo] = .ok (.lst (noPs mo)) := by
  obtain ⟨d, s, h, rfl, hs⟩ := noPs_aux mo
  exact runP_loc rfl h hs (noPs_clean mo)
end BB
namespace BB
open PySem L2
/-! things refused, asked by a lambda -/
theorem lam_ref {ip : Nat} {mb : EM} {t : AM} {env : Env} {sto : Sto} {gg : Bool} {things : List DV} {c : Nat} {due : Int} (hc : 10 < c ∧ c < 19) (hd : due = (c : Int) - 11) (ht : t env (sto ++ [.dead]) = .ok [.lstG gg things, .int due] (sto ++ [.dead]))
    (hI : ∀ x ∈ things, mb (env.set ip (some x)) (sto ++ [.fn 0]) = .exc c (sto ++ [.fn 0])) : eCallLam (fun I => runT 3 N__law_refused (m__law_refused I)) ip mb t env sto = .ok (.bl true) (sto ++ [.dead]) := by
  refine callLam_ok ht ?_
  subst hd
  exact e_refused hc (by simp) hI
theorem meth_exc {s : Sto} {j a b d c : Nat} {S : Sl} {T : TF} {mm : Str} (h : SlabAt s j a b d S) (hm : mm ∉ slabN) {o : EM} {t : AM} {env : Env} {ds : List DV} (ho : o env s = .ok (.loc j) s) (ht : t env s = .ok ds s) (hT : T (.loc j :: ds) s = .exc c s) : eMeth [(5, T)] mm o t env s = .exc c s := by
  simp only [v_meth, ho, bind0_ok, h.ins, v_fm1 hm altOf_hd, ht, Res.bind_ok, hT]
end BB
namespace BB
open PySem L2
theorem noN_app {mo : Int} {L : List Int} {x : DV} (h : x ∈ noN mo ++ L.map .int) : knd x = true ∧ noLoc x = true ∧ ∀ i, x = .int i → i = -1 ∨ i = -1 - mo ∨ i ∈ L := by
  rcases List.mem_append.mp h with h | h
  · obtain ⟨h1, h2, h3⟩ := noN_mem h
    refine ⟨h1, h2, fun i e => ?_⟩
    subst e
    rcases h3 with h3 | h3 | h3
    · cases h3
    · exact .inl (DV.int.inj h3)
    · exact .inr (.inl (DV.int.inj h3))
  · obtain ⟨i, hi, rfl⟩ := List.mem_map.mp h
    exact ⟨rfl, rfl, fun k e => by cases e; exact .inr (.inr hi)⟩
theorem isW_int {x : DV} (h : isW x = true) : ∃ i, x = .int i := by
  cases x <;> first | (cases h; done) | exact ⟨_, rfl⟩
section
variable {s : Sto} {j a b d : Nat} {S : Sl}
theorem bad_piece (h : SlabAt s j a b d S) (hP : S.Ps = [⟨0, 0, 1, 2⟩, ⟨1, 0, 3, 2⟩]) {mo : Int} (h0 : 0 ≤ mo) {x : DV} (hx : x ∈ noPs mo) : T_Slab_snap [.loc j, x, .non, .non] s = .exc 15 s := by
  rcases noPs_mem hx with hx | ⟨i, y, hy, rfl⟩
  · simp only [noB, List.mem_cons, List.not_mem_nil, or_false] at hx
    have no : ∀ P : Pc, P ≠ ⟨0, 0, 1, 2⟩ → P ≠ ⟨1, 0, 3, 2⟩ → P ∉ S.Ps := fun P h1 h2 => by rw [hP]; simp [h1, h2]
    rcases hx with rfl | rfl | rfl | rfl | rfl | rfl | rfl | rfl | rfl | rfl | rfl
    · exact snap_noP rfl (fun xs e => by cases e) rfl
    · exact snap_noP rfl (fun xs e => by cases e) rfl
    · exact snap_noP rfl (fun xs e => by cases e) rfl
    · exact snap_noP rfl (fun xs e => by cases e; simp) rfl
    · exact snap_noP rfl (fun xs e => by cases e) rfl
    · exact snap_noP rfl (fun xs e => by cases e; simp [knd]) rfl
    · exact snap_noP rfl (fun xs e => by cases e; simp [knd]) rfl
    · exact snap_noT h (P := ⟨0, 0, 3, 2⟩) (no _ (by simp) (by simp))
    · exact snap_noT h (P := ⟨1, 0, 2, 2⟩) (no _ (by simp) (by simp))
    · exact snap_noP rfl (fun xs e => by cases e) rfl
    · exact snap_noT h (P := ⟨0, 0, 1, 1⟩) (no _ (by simp) (by simp))
  · have hy := noN_app (L := [3 + mo]) hy
    unfold spotT
    have k0 := Int.emod_nonneg ((i : Int) + mo) (show (4 : Int) ≠ 0 by omega)
    have k1 := Int.emod_lt_of_pos ((i : Int) + mo) (show (0 : Int) < 4 by omega)
    generalize (((i : Int) + mo) % 4) = k at k0 k1
    cases hw : isW y with
    | false =>
      refine snap_noP rfl (fun xs e => ?_) ?_
      · cases e
        refine ⟨fun z hz => ?_, by simp [rowP]⟩
        rcases List.mem_or_eq_of_mem_set hz with hz | rfl
        · simp only [rowP, List.mem_cons, List.not_mem_nil, or_false] at hz
          rcases hz with rfl | rfl | rfl | rfl <;> simp [knd]
        · exact ⟨hy.1, hy.2.1⟩
      · have : k = 0 ∨ k = 1 ∨ k = 2 ∨ k = 3 := by omega
        rcases this with rfl | rfl | rfl | rfl <;> simp [noP, rowP, hw]
    | true =>
      obtain ⟨v, rfl⟩ := isW_int hw
      have hv := hy.2.2 v rfl
      simp only [List.mem_singleton] at hv
      have no : ∀ P : Pc, P ≠ ⟨0, 0, 1, 2⟩ → P ≠ ⟨1, 0, 3, 2⟩ → P ∉ S.Ps := fun P h1 h2 => by rw [hP]; simp [h1, h2]
      have : k = 0 ∨ k = 1 ∨ k = 2 ∨ k = 3 := by omega
      rcases this with rfl | rfl | rfl | rfl
      · exact snap_noT h (P := ⟨v, 0, 1, 2⟩) (no _ (by simp; omega) (by simp))
      · exact snap_noT h (P := ⟨0, v, 1, 2⟩) (no _ (by simp; omega) (by simp))
      · exact snap_noT h (P := ⟨0, 0, v, 2⟩) (no _ (by simp; omega) (by simp))
      · exact snap_noT h (P := ⟨0, 0, 1, v⟩) (no _ (by simp; omega) (by simp))
theorem e_snaps (h : SlabAt s j a b d S) (o : OkS S) (hP : S.Ps = [⟨0, 0, 1, 2⟩, ⟨1, 0, 3, 2⟩]) {mo : Int} (h0 : 0 ≤ mo) : ∃ l, T__law_snaps_right [.loc j, .int mo] s = .ok (.bl true) (s ++ l) := by
  have P1 : (⟨0, 0, 1, 2⟩ : Pc) ∈ S.Ps := by rw [hP]; simp
  have P2 : (⟨1, 0, 3, 2⟩ : Pc) ∈ S.Ps := by rw [hP]; simp
  have n1 := e_noN mo
  have ad2 : ∀ (x y : DV) (s : Sto), oAdd false (.lst (noN mo)) (.lst [x, y]) s = .ok (.lst (noN mo ++ [x, y])) s := fun x y s => by rw [add_ls (by simp [noN])]; rfl
  have ad3 : ∀ (x y z : DV) (s : Sto), oAdd false (.lst (noN mo)) (.lst [x, y, z]) s = .ok (.lst (noN mo ++ [x, y, z])) s := fun x y z s => by rw [add_ls (by simp [noN])]; rfl
  have ad4 : ∀ (x y z u : DV) (s : Sto), oAdd false (.lst (noN mo)) (.lst [x, y, z, u]) s = .ok (.lst (noN mo ++ [x, y, z, u])) s := fun x y z u s => by rw [add_ls (by simp [noN])]; rfl
  generalize hNN : noN mo = NN at n1 ad2 ad3 ad4
  have n2 := e_noPs mo
  have hns := ns_slab
  have main : Rt (m__law_snaps_right (startE N__law_snaps_right [.loc j, .int mo]) s) fun r s' => r = .bl true ∧ ∃ l, s' = s ++ l := by
    unfold m__law_snaps_right
    rw [show startE N__law_snaps_right [.loc j, .int mo] = [some (.loc j), some (.int mo), none, none, none, none, none, none] from rfl]
    have f1 : eCallLam (fun I => runT 3 N__law_refused (m__law_refused I)) 4 (eMeth [(5, T_Slab_snap)] "snap" (eVar 0) (aCons (eVar 4) (aCons (eC .non) (aCons (eC .non) aNil)))) (aCons (eCall G__law_no_pieces (aCons (eVar 1) aNil)) (aCons (eC (.int 4)) aNil)) [some (.loc j), some (.int mo), none, none, none, none, none, none] s = .ok (.bl true) (s ++ [.dead]) :=
      lam_ref (c := 15) (gg := false) (things := noPs mo) (by omega) rfl (by simp only [v_seq, seq_nx, seq_rt, v_meth, bind0_ok, v_lift, v_lend0, v_lend1, consO_some, v_lendD, Res.bind_ok, Res.out_ok, List.getElem?_cons_zero, List.getElem?_cons_succ, List.set_cons_zero, List.set_cons_succ, eVar, eC, eOp, eUn, uNeg, eIx, aNil, aCons, eTup, eLst, eDicF, newL, eCB, eCallT, eAnd, eOr, eNot, eIf, tBl, tNot, tAnd, tOr, eFld, eBM, mAppend, eMake0, pNone, pSome, eSl, eSl3, sAsg, sExpr, sRet, sIf, sNil, sPar, sPar3, sAug, sPut, sPuts, bindP, bindPs, wipeE_nil, wipeE_cons, startE_eq, List.replicate, List.length_cons, List.length_nil, List.length_append, oIsN, oIsNot, oSub, oLt, oLe, oGt, oAddI, Bool.false_eq_true, Bool.not_true, Bool.not_false, decide_true, decide_false, reduceIte, reduceCtorEq, Nat.reduceAdd, Nat.reduceSub, Nat.add_zero, Nat.zero_add, app_get, app_get0, app_set, app_set0, oEq_int, oNe_int, noLocL_nil, noLocL_cons, noLoc_non, noLoc_int, noLoc_bl, noLoc_str, noLoc_scr, noLoc_tup, noLoc_lst, noLoc_dic, noLoc_ins, noLocL_ints, Bool.and_self, Bool.and_true, Bool.true_and, and_self, isNonD, Nat.reduceLeDiff, Nat.reduceLT, Nat.reduceEqDiff, Int.reduceAdd, Int.reduceSub, Int.reduceLT, Int.reduceLE, Int.reduceEq, Int.reduceNeg, Int.reduceMod, Int.reduceToNat, v_fm, v_call, altOf_hd, altOf_tl, ixL0, ixL1, ixL2, ixT0, ixT1, ixT2, ixT3, ixT4, ixT5, add_int, len_lst, len_tup, fst_ok, mPop_end, noLoc_encB, ne_eq, not_true, not_false_eq_true, not_true_eq_false, mod_ok, div_ok, sto_assoc, sto_cons, sto_nil, set_int, app_int, app_bk, app_P, app_C, ne_pair, eq_pair, eq_self, List.getElem?_nil, ixB0, ixB1, ixB2, sl_map, ne_bl, eq_bl, n2]; all_goals rfl) fun x hx => meth_exc (h.app [.fn 0]) hns.2.1 rfl rfl (bad_piece (h.app [.fn 0]) hP h0 hx)
    (first | apply rt_go | apply nx_go); focus (simp only [v_seq, seq_nx, seq_rt, v_meth, bind0_ok, v_lift, v_lend0, v_lend1, consO_some, v_lendD, Res.bind_ok, Res.out_ok, List.getElem?_cons_zero, List.getElem?_cons_succ, List.set_cons_zero, List.set_cons_succ, eVar, eC, eOp, eUn, uNeg, eIx, aNil, aCons, eTup, eLst, eDicF, newL, eCB, eCallT, eAnd, eOr, eNot, eIf, tBl, tNot, tAnd, tOr, eFld, eBM, mAppend, eMake0, pNone, pSome, eSl, eSl3, sAsg, sExpr, sRet, sIf, sNil, sPar, sPar3, sAug, sPut, sPuts, bindP, bindPs, wipeE_nil, wipeE_cons, startE_eq, List.replicate, List.length_cons, List.length_nil, List.length_append, oIsN, oIsNot, oSub, oLt, oLe, oGt, oAddI, Bool.false_eq_true, Bool.not_true, Bool.not_false, decide_true, decide_false, reduceIte, reduceCtorEq, Nat.reduceAdd, Nat.reduceSub, Nat.add_zero, Nat.zero_add, app_get, app_get0, app_set, app_set0, oEq_int, oNe_int, noLocL_nil, noLocL_cons, noLoc_non, noLoc_int, noLoc_bl, noLoc_str, noLoc_scr, noLoc_tup, noLoc_lst, noLoc_dic, noLoc_ins, noLocL_ints, Bool.and_self, Bool.and_true, Bool.true_and, and_self, isNonD, Nat.reduceLeDiff, Nat.reduceLT, Nat.reduceEqDiff, Int.reduceAdd, Int.reduceSub, Int.reduceLT, Int.reduceLE, Int.reduceEq, Int.reduceNeg, Int.reduceMod, Int.reduceToNat, v_fm, v_call, altOf_hd, altOf_tl, ixL0, ixL1, ixL2, ixT0, ixT1, ixT2, ixT3, ixT4, ixT5, add_int, len_lst, len_tup, fst_ok, mPop_end, noLoc_encB, ne_eq, not_true, not_false_eq_true, not_true_eq_false, mod_ok, div_ok, sto_assoc, sto_cons, sto_nil, set_int, app_int, app_bk, app_P, app_C, ne_pair, eq_pair, eq_self, List.getElem?_nil, ixB0, ixB1, ixB2, sl_map, ne_bl, eq_bl, f1]; first | done | exact rfl)
    have h := h.app [.dead]
    generalize hs1 : s ++ [DO.dead] = s1 at *
    have f2 : eCallLam (fun I => runT 3 N__law_refused (m__law_refused I)) 5 (eMeth [(5, T_Slab_snap)] "snap" (eVar 0) (aCons (eTup (aCons (eC (.int 0)) (aCons (eC (.int 0)) (aCons (eC (.int 1)) (aCons (eC (.int 2)) aNil))))) (aCons (eVar 5) (aCons (eC (.int 1)) aNil)))) (aCons (eOp (oAdd false) (eCall G__law_no_numbers (aCons (eVar 1) aNil)) (eLst false (aCons (eC (.int 0)) (aCons (eC (.int 2)) (aCons (eOp (oAdd false) (eC (.int 2)) (eVar 1)) aNil))))) (aCons (eC (.int 5)) aNil)) [some (.loc j), some (.int mo), none, none, none, none, none, none] s1 = .ok (.bl true) (s1 ++ [.dead]) :=
      lam_ref (c := 16) (gg := false) (things := NN ++ [.int 0, .int 2, .int (2 + mo)]) (by omega) rfl (by simp only [v_seq, seq_nx, seq_rt, v_meth, bind0_ok, v_lift, v_lend0, v_lend1, consO_some, v_lendD, Res.bind_ok, Res.out_ok, List.getElem?_cons_zero, List.getElem?_cons_succ, List.set_cons_zero, List.set_cons_succ, eVar, eC, eOp, eUn, uNeg, eIx, aNil, aCons, eTup, eLst, eDicF, newL, eCB, eCallT, eAnd, eOr, eNot, eIf, tBl, tNot, tAnd, tOr, eFld, eBM, mAppend, eMake0, pNone, pSome, eSl, eSl3, sAsg, sExpr, sRet, sIf, sNil, sPar, sPar3, sAug, sPut, sPuts, bindP, bindPs, wipeE_nil, wipeE_cons, startE_eq, List.replicate, List.length_cons, List.length_nil, List.length_append, oIsN, oIsNot, oSub, oLt, oLe, oGt, oAddI, Bool.false_eq_true, Bool.not_true, Bool.not_false, decide_true, decide_false, reduceIte, reduceCtorEq, Nat.reduceAdd, Nat.reduceSub, Nat.add_zero, Nat.zero_add, app_get, app_get0, app_set, app_set0, oEq_int, oNe_int, noLocL_nil, noLocL_cons, noLoc_non, noLoc_int, noLoc_bl, noLoc_str, noLoc_scr, noLoc_tup, noLoc_lst, noLoc_dic, noLoc_ins, noLocL_ints, Bool.and_self, Bool.and_true, Bool.true_and, and_self, isNonD, Nat.reduceLeDiff, Nat.reduceLT, Nat.reduceEqDiff, Int.reduceAdd, Int.reduceSub, Int.reduceLT, Int.reduceLE, Int.reduceEq, Int.reduceNeg, Int.reduceMod, Int.reduceToNat, v_fm, v_call, altOf_hd, altOf_tl, ixL0, ixL1, ixL2, ixT0, ixT1, ixT2, ixT3, ixT4, ixT5, add_int, len_lst, len_tup, fst_ok, mPop_end, noLoc_encB, ne_eq, not_true, not_false_eq_true, not_true_eq_false, mod_ok, div_ok, sto_assoc, sto_cons, sto_nil, set_int, app_int, app_bk, app_P, app_C, ne_pair, eq_pair, eq_self, List.getElem?_nil, ixB0, ixB1, ixB2, sl_map, ne_bl, eq_bl, n1, ad3]; all_goals rfl) fun x hx => by
        have hx := noN_app (mo := mo) (L := [0, 2, 2 + mo]) (by rw [hNN]; exact hx)
        refine meth_exc (h.app [.fn 0]) hns.2.1 rfl rfl (snap_noL (P := ⟨0, 0, 1, 2⟩) (h.app [.fn 0]) o P1 hx.1 rfl hx.2.1 rfl fun i k e1 e2 hm => ?_)
        have := hx.2.2 i e1
        cases e2
        simp only [List.mem_cons, List.not_mem_nil, or_false] at this
        rcases mem_lines.mp hm with ⟨z, z2, z3⟩ | ⟨z, z2, z3⟩ <;> simp only at z z2 z3 <;> omega
    (first | apply rt_go | apply nx_go); focus (simp only [v_seq, seq_nx, seq_rt, v_meth, bind0_ok, v_lift, v_lend0, v_lend1, consO_some, v_lendD, Res.bind_ok, Res.out_ok, List.getElem?_cons_zero, List.getElem?_cons_succ, List.set_cons_zero, List.set_cons_succ, eVar, eC, eOp, eUn, uNeg, eIx, aNil, aCons, eTup, eLst, eDicF, newL, eCB, eCallT, eAnd, eOr, eNot, eIf, tBl, tNot, tAnd, tOr, eFld, eBM, mAppend, eMake0, pNone, pSome, eSl, eSl3, sAsg, sExpr, sRet, sIf, sNil, sPar, sPar3, sAug, sPut, sPuts, bindP, bindPs, wipeE_nil, wipeE_cons, startE_eq, List.replicate, List.length_cons, List.length_nil, List.length_append, oIsN, oIsNot, oSub, oLt, oLe, oGt, oAddI, Bool.false_eq_true, Bool.not_true, Bool.not_false, decide_true, decide_false, reduceIte, reduceCtorEq, Nat.reduceAdd, Nat.reduceSub, Nat.add_zero, Nat.zero_add, app_get, app_get0, app_set, app_set0, oEq_int, oNe_int, noLocL_nil, noLocL_cons, noLoc_non, noLoc_int, noLoc_bl, noLoc_str, noLoc_scr, noLoc_tup, noLoc_lst, noLoc_dic, noLoc_ins, noLocL_ints, Bool.and_self, Bool.and_true, Bool.true_and, and_self, isNonD, Nat.reduceLeDiff, Nat.reduceLT, Nat.reduceEqDiff, Int.reduceAdd, Int.reduceSub, Int.reduceLT, Int.reduceLE, Int.reduceEq, Int.reduceNeg, Int.reduceMod, Int.reduceToNat, v_fm, v_call, altOf_hd, altOf_tl, ixL0, ixL1, ixL2, ixT0, ixT1, ixT2, ixT3, ixT4, ixT5, add_int, len_lst, len_tup, fst_ok, mPop_end, noLoc_encB, ne_eq, not_true, not_false_eq_true, not_true_eq_false, mod_ok, div_ok, sto_assoc, sto_cons, sto_nil, set_int, app_int, app_bk, app_P, app_C, ne_pair, eq_pair, eq_self, List.getElem?_nil, ixB0, ixB1, ixB2, sl_map, ne_bl, eq_bl, f2]; first | done | exact rfl)
    have h := h.app [.dead]
    generalize hs2 : s1 ++ [DO.dead] = s2 at *
    have f3 : eCallLam (fun I => runT 3 N__law_refused (m__law_refused I)) 6 (eMeth [(5, T_Slab_snap)] "snap" (eVar 0) (aCons (eTup (aCons (eC (.int 1)) (aCons (eC (.int 0)) (aCons (eC (.int 3)) (aCons (eC (.int 2)) aNil))))) (aCons (eC (.int 0)) (aCons (eVar 6) aNil)))) (aCons (eOp (oAdd false) (eCall G__law_no_numbers (aCons (eVar 1) aNil)) (eLst false (aCons (eC (.int 0)) (aCons (eC (.int 1)) (aCons (eC (.int 3)) (aCons (eOp (oAdd false) (eC (.int 3)) (eVar 1)) aNil)))))) (aCons (eC (.int 5)) aNil)) [some (.loc j), some (.int mo), none, none, none, none, none, none] s2 = .ok (.bl true) (s2 ++ [.dead]) :=
      lam_ref (c := 16) (gg := false) (things := NN ++ [.int 0, .int 1, .int 3, .int (3 + mo)]) (by omega) rfl (by simp only [v_seq, seq_nx, seq_rt, v_meth, bind0_ok, v_lift, v_lend0, v_lend1, consO_some, v_lendD, Res.bind_ok, Res.out_ok, List.getElem?_cons_zero, List.getElem?_cons_succ, List.set_cons_zero, List.set_cons_succ, eVar, eC, eOp, eUn, uNeg, eIx, aNil, aCons, eTup, eLst, eDicF, newL, eCB, eCallT, eAnd, eOr, eNot, eIf, tBl, tNot, tAnd, tOr, eFld, eBM, mAppend, eMake0, pNone, pSome, eSl, eSl3, sAsg, sExpr, sRet, sIf, sNil, sPar, sPar3, sAug, sPut, sPuts, bindP, bindPs, wipeE_nil, wipeE_cons, startE_eq, List.replicate, List.length_cons, List.length_nil, List.length_append, oIsN, oIsNot, oSub, oLt, oLe, oGt, oAddI, Bool.false_eq_true, Bool.not_true, Bool.not_false, decide_true, decide_false, reduceIte, reduceCtorEq, Nat.reduceAdd, Nat.reduceSub, Nat.add_zero, Nat.zero_add, app_get, app_get0, app_set, app_set0, oEq_int, oNe_int, noLocL_nil, noLocL_cons, noLoc_non, noLoc_int, noLoc_bl, noLoc_str, noLoc_scr, noLoc_tup, noLoc_lst, noLoc_dic, noLoc_ins, noLocL_ints, Bool.and_self, Bool.and_true, Bool.true_and, and_self, isNonD, Nat.reduceLeDiff, Nat.reduceLT, Nat.reduceEqDiff, Int.reduceAdd, Int.reduceSub, Int.reduceLT, Int.reduceLE, Int.reduceEq, Int.reduceNeg, Int.reduceMod, Int.reduceToNat, v_fm, v_call, altOf_hd, altOf_tl, ixL0, ixL1, ixL2, ixT0, ixT1, ixT2, ixT3, ixT4, ixT5, add_int, len_lst, len_tup, fst_ok, mPop_end, noLoc_encB, ne_eq, not_true, not_false_eq_true, not_true_eq_false, mod_ok, div_ok, sto_assoc, sto_cons, sto_nil, set_int, app_int, app_bk, app_P, app_C, ne_pair, eq_pair, eq_self, List.getElem?_nil, ixB0, ixB1, ixB2, sl_map, ne_bl, eq_bl, n1, ad4]; all_goals rfl) fun x hx => by
        have hx := noN_app (mo := mo) (L := [0, 1, 3, 3 + mo]) (by rw [hNN]; exact hx)
        refine meth_exc (h.app [.fn 0]) hns.2.1 rfl rfl (snap_noL (P := ⟨1, 0, 3, 2⟩) (h.app [.fn 0]) o P2 rfl hx.1 rfl hx.2.1 fun i k e1 e2 hm => ?_)
        have := hx.2.2 k e2
        cases e1
        simp only [List.mem_cons, List.not_mem_nil, or_false] at this
        rcases mem_lines.mp hm with ⟨z, z2, z3⟩ | ⟨z, z2, z3⟩ <;> simp only at z z2 z3 <;> omega
    (first | apply rt_go | apply nx_go); focus (simp only [v_seq, seq_nx, seq_rt, v_meth, bind0_ok, v_lift, v_lend0, v_lend1, consO_some, v_lendD, Res.bind_ok, Res.out_ok, List.getElem?_cons_zero, List.getElem?_cons_succ, List.set_cons_zero, List.set_cons_succ, eVar, eC, eOp, eUn, uNeg, eIx, aNil, aCons, eTup, eLst, eDicF, newL, eCB, eCallT, eAnd, eOr, eNot, eIf, tBl, tNot, tAnd, tOr, eFld, eBM, mAppend, eMake0, pNone, pSome, eSl, eSl3, sAsg, sExpr, sRet, sIf, sNil, sPar, sPar3, sAug, sPut, sPuts, bindP, bindPs, wipeE_nil, wipeE_cons, startE_eq, List.replicate, List.length_cons, List.length_nil, List.length_append, oIsN, oIsNot, oSub, oLt, oLe, oGt, oAddI, Bool.false_eq_true, Bool.not_true, Bool.not_false, decide_true, decide_false, reduceIte, reduceCtorEq, Nat.reduceAdd, Nat.reduceSub, Nat.add_zero, Nat.zero_add, app_get, app_get0, app_set, app_set0, oEq_int, oNe_int, noLocL_nil, noLocL_cons, noLoc_non, noLoc_int, noLoc_bl, noLoc_str, noLoc_scr, noLoc_tup, noLoc_lst, noLoc_dic, noLoc_ins, noLocL_ints, Bool.and_self, Bool.and_true, Bool.true_and, and_self, isNonD, Nat.reduceLeDiff, Nat.reduceLT, Nat.reduceEqDiff, Int.reduceAdd, Int.reduceSub, Int.reduceLT, Int.reduceLE, Int.reduceEq, Int.reduceNeg, Int.reduceMod, Int.reduceToNat, v_fm, v_call, altOf_hd, altOf_tl, ixL0, ixL1, ixL2, ixT0, ixT1, ixT2, ixT3, ixT4, ixT5, add_int, len_lst, len_tup, fst_ok, mPop_end, noLoc_encB, ne_eq, not_true, not_false_eq_true, not_true_eq_false, mod_ok, div_ok, sto_assoc, sto_cons, sto_nil, set_int, app_int, app_bk, app_P, app_C, ne_pair, eq_pair, eq_self, List.getElem?_nil, ixB0, ixB1, ixB2, sl_map, ne_bl, eq_bl, f3]; first | done | exact rfl)
    have h := h.app [.dead]
    generalize hs3 : s2 ++ [DO.dead] = s3 at *
    have fr : eOp (oAdd false) (eCall G__law_no_numbers (aCons (eVar 1) aNil)) (eLst false (aCons (eC (.int 0)) (aCons (eC (.int 2)) (aCons (eC (.int 3)) (aCons (eOp (oAdd false) (eC (.int 2)) (eVar 1)) aNil))))) [some (.loc j), some (.int mo), none, none, none, none, none, none] s3 = .ok (.lst (NN ++ [.int 0, .int 2, .int 3, .int (2 + mo)])) s3 := by
      simp only [v_seq, seq_nx, seq_rt, v_meth, bind0_ok, v_lift, v_lend0, v_lend1, consO_some, v_lendD, Res.bind_ok, Res.out_ok, List.getElem?_cons_zero, List.getElem?_cons_succ, List.set_cons_zero, List.set_cons_succ, eVar, eC, eOp, eUn, uNeg, eIx, aNil, aCons, eTup, eLst, eDicF, newL, eCB, eCallT, eAnd, eOr, eNot, eIf, tBl, tNot, tAnd, tOr, eFld, eBM, mAppend, eMake0, pNone, pSome, eSl, eSl3, sAsg, sExpr, sRet, sIf, sNil, sPar, sPar3, sAug, sPut, sPuts, bindP, bindPs, wipeE_nil, wipeE_cons, startE_eq, List.replicate, List.length_cons, List.length_nil, List.length_append, oIsN, oIsNot, oSub, oLt, oLe, oGt, oAddI, Bool.false_eq_true, Bool.not_true, Bool.not_false, decide_true, decide_false, reduceIte, reduceCtorEq, Nat.reduceAdd, Nat.reduceSub, Nat.add_zero, Nat.zero_add, app_get, app_get0, app_set, app_set0, oEq_int, oNe_int, noLocL_nil, noLocL_cons, noLoc_non, noLoc_int, noLoc_bl, noLoc_str, noLoc_scr, noLoc_tup, noLoc_lst, noLoc_dic, noLoc_ins, noLocL_ints, Bool.and_self, Bool.and_true, Bool.true_and, and_self, isNonD, Nat.reduceLeDiff, Nat.reduceLT, Nat.reduceEqDiff, Int.reduceAdd, Int.reduceSub, Int.reduceLT, Int.reduceLE, Int.reduceEq, Int.reduceNeg, Int.reduceMod, Int.reduceToNat, v_fm, v_call, altOf_hd, altOf_tl, ixL0, ixL1, ixL2, ixT0, ixT1, ixT2, ixT3, ixT4, ixT5, add_int, len_lst, len_tup, fst_ok, mPop_end, noLoc_encB, ne_eq, not_true, not_false_eq_true, not_true_eq_false, mod_ok, div_ok, sto_assoc, sto_cons, sto_nil, set_int, app_int, app_bk, app_P, app_C, ne_pair, eq_pair, eq_self, List.getElem?_nil, ixB0, ixB1, ixB2, sl_map, ne_bl, eq_bl, n1, ad4]
    refine rt_go (e := [some (.loc j), some (.int mo), some (.lst (NN ++ [.int 0, .int 2, .int 3, .int (2 + mo)])), none, none, none, none, none]) (s := s3) (sAsg_ok fr rfl) ?_
    have f4 : eCallLam (fun I => runT 3 N__law_refused (m__law_refused I)) 7 (eMeth [(5, T_Slab_snap)] "snap" (eVar 0) (aCons (eTup (aCons (eC (.int 1)) (aCons (eC (.int 0)) (aCons (eC (.int 3)) (aCons (eC (.int 2)) aNil))))) (aCons (eC (.int 1)) (aCons (eVar 7) aNil)))) (aCons (eVar 2) (aCons (eC (.int 5)) aNil)) [some (.loc j), some (.int mo), some (.lst (NN ++ [.int 0, .int 2, .int 3, .int (2 + mo)])), none, none, none, none, none] s3 = .ok (.bl true) (s3 ++ [.dead]) :=
      lam_ref (c := 16) (gg := false) (things := NN ++ [.int 0, .int 2, .int 3, .int (2 + mo)]) (by omega) rfl rfl fun x hx => by
        have hx := noN_app (mo := mo) (L := [0, 2, 3, 2 + mo]) (by rw [hNN]; exact hx)
        refine meth_exc (h.app [.fn 0]) hns.2.1 rfl rfl (snap_noL (P := ⟨1, 0, 3, 2⟩) (h.app [.fn 0]) o P2 rfl hx.1 rfl hx.2.1 fun i k e1 e2 hm => ?_)
        have := hx.2.2 k e2
        cases e1
        simp only [List.mem_cons, List.not_mem_nil, or_false] at this
        rcases mem_lines.mp hm with ⟨z, z2, z3⟩ | ⟨z, z2, z3⟩ <;> simp only at z z2 z3 <;> omega
    (first | apply rt_go | apply nx_go); focus (simp only [v_seq, seq_nx, seq_rt, v_meth, bind0_ok, v_lift, v_lend0, v_lend1, consO_some, v_lendD, Res.bind_ok, Res.out_ok, List.getElem?_cons_zero, List.getElem?_cons_succ, List.set_cons_zero, List.set_cons_succ, eVar, eC, eOp, eUn, uNeg, eIx, aNil, aCons, eTup, eLst, eDicF, newL, eCB, eCallT, eAnd, eOr, eNot, eIf, tBl, tNot, tAnd, tOr, eFld, eBM, mAppend, eMake0, pNone, pSome, eSl, eSl3, sAsg, sExpr, sRet, sIf, sNil, sPar, sPar3, sAug, sPut, sPuts, bindP, bindPs, wipeE_nil, wipeE_cons, startE_eq, List.replicate, List.length_cons, List.length_nil, List.length_append, oIsN, oIsNot, oSub, oLt, oLe, oGt, oAddI, Bool.false_eq_true, Bool.not_true, Bool.not_false, decide_true, decide_false, reduceIte, reduceCtorEq, Nat.reduceAdd, Nat.reduceSub, Nat.add_zero, Nat.zero_add, app_get, app_get0, app_set, app_set0, oEq_int, oNe_int, noLocL_nil, noLocL_cons, noLoc_non, noLoc_int, noLoc_bl, noLoc_str, noLoc_scr, noLoc_tup, noLoc_lst, noLoc_dic, noLoc_ins, noLocL_ints, Bool.and_self, Bool.and_true, Bool.true_and, and_self, isNonD, Nat.reduceLeDiff, Nat.reduceLT, Nat.reduceEqDiff, Int.reduceAdd, Int.reduceSub, Int.reduceLT, Int.reduceLE, Int.reduceEq, Int.reduceNeg, Int.reduceMod, Int.reduceToNat, v_fm, v_call, altOf_hd, altOf_tl, ixL0, ixL1, ixL2, ixT0, ixT1, ixT2, ixT3, ixT4, ixT5, add_int, len_lst, len_tup, fst_ok, mPop_end, noLoc_encB, ne_eq, not_true, not_false_eq_true, not_true_eq_false, mod_ok, div_ok, sto_assoc, sto_cons, sto_nil, set_int, app_int, app_bk, app_P, app_C, ne_pair, eq_pair, eq_self, List.getElem?_nil, ixB0, ixB1, ixB2, sl_map, ne_bl, eq_bl, f4]; first | done | exact rfl)
    have h := h.app [.dead]
    generalize hs4 : s3 ++ [DO.dead] = s4 at *
    have f5 : eCallLam (fun I => runT 3 N__law_refused (m__law_refused I)) 3 (eMeth [(5, T_Slab_snap)] "snap" (eVar 0) (aCons (eTup (aCons (eC (.int 0)) (aCons (eC (.int 0)) (aCons (eC (.int 1)) (aCons (eC (.int 2)) aNil))))) (aCons (eC (.int 1)) (aCons (eVar 3) aNil)))) (aCons (eVar 2) (aCons (eC (.int 5)) aNil)) [some (.loc j), some (.int mo), some (.lst (NN ++ [.int 0, .int 2, .int 3, .int (2 + mo)])), none, none, none, none, none] s4 = .ok (.bl true) (s4 ++ [.dead]) :=
      lam_ref (c := 16) (gg := false) (things := NN ++ [.int 0, .int 2, .int 3, .int (2 + mo)]) (by omega) rfl rfl fun x hx => by
        have hx := noN_app (mo := mo) (L := [0, 2, 3, 2 + mo]) (by rw [hNN]; exact hx)
        refine meth_exc (h.app [.fn 0]) hns.2.1 rfl rfl (snap_noL (P := ⟨0, 0, 1, 2⟩) (h.app [.fn 0]) o P1 rfl hx.1 rfl hx.2.1 fun i k e1 e2 hm => ?_)
        have := hx.2.2 k e2
        cases e1
        simp only [List.mem_cons, List.not_mem_nil, or_false] at this
        rcases mem_lines.mp hm with ⟨z, z2, z3⟩ | ⟨z, z2, z3⟩ <;> simp only at z z2 z3 <;> omega
    refine ⟨_, _, sRet_ok f5, rfl, [.dead, .dead, .dead, .dead, .dead], ?_⟩
    rw [← hs4, ← hs3, ← hs2, ← hs1]
    simp
  obtain ⟨r, s', h1, rfl, l, rfl⟩ := main
  exact ⟨l, runT_rt rfl h1⟩
/-- squares and prices -/
theorem e_rest (h : SlabAt s j a b d S) (o : OkS S) (hB : S.B = ⟨[1, 2], [3], [(0, 0), (0, 1), (2, 1)]⟩) {mo : Int} (h0 : 0 ≤ mo) : ∃ l, T__law_rest_right [.loc j, .int mo] s = .ok (.bl true) (s ++ l) := by
  have n1 := e_noN mo
  have ad2 : ∀ (x y : DV) (s : Sto), oAdd false (.lst (noN mo)) (.lst [x, y]) s = .ok (.lst (noN mo ++ [x, y])) s := fun x y s => by rw [add_ls (by simp [noN])]; rfl
  have ad3 : ∀ (x y z : DV) (s : Sto), oAdd false (.lst (noN mo)) (.lst [x, y, z]) s = .ok (.lst (noN mo ++ [x, y, z])) s := fun x y z s => by rw [add_ls (by simp [noN])]; rfl
  have ad4 : ∀ (x y z u : DV) (s : Sto), oAdd false (.lst (noN mo)) (.lst [x, y, z, u]) s = .ok (.lst (noN mo ++ [x, y, z, u])) s := fun x y z u s => by rw [add_ls (by simp [noN])]; rfl
  generalize hNN : noN mo = NN at n1 ad2 ad3 ad4
  have hns := ns_slab
  have hpl : (S.B.p.length : Int) = 2 := by rw [hB]; rfl
  have hql : (S.B.q.length : Int) = 1 := by rw [hB]; rfl
  have hw : wholeP S.B = ⟨0, 0, 3, 2⟩ := by rw [hB]; rfl
  have main : Rt (m__law_rest_right (startE N__law_rest_right [.loc j, .int mo]) s) fun r s' => r = .bl true ∧ ∃ l, s' = s ++ l := by
    unfold m__law_rest_right
    rw [show startE N__law_rest_right [.loc j, .int mo] = [some (.loc j), some (.int mo), none, none, none, none, none, none] from rfl]
    have fr : eOp (oAdd false) (eCall G__law_no_numbers (aCons (eVar 1) aNil)) (eLst false (aCons (eC (.int 0)) (aCons (eC (.int 3)) (aCons (eOp (oAdd false) (eC (.int 3)) (eVar 1)) aNil)))) [some (.loc j), some (.int mo), none, none, none, none, none, none] s = .ok (.lst (NN ++ [.int 0, .int 3, .int (3 + mo)])) s := by
      simp only [v_seq, seq_nx, seq_rt, v_meth, bind0_ok, v_lift, v_lend0, v_lend1, consO_some, v_lendD, Res.bind_ok, Res.out_ok, List.getElem?_cons_zero, List.getElem?_cons_succ, List.set_cons_zero, List.set_cons_succ, eVar, eC, eOp, eUn, uNeg, eIx, aNil, aCons, eTup, eLst, eDicF, newL, eCB, eCallT, eAnd, eOr, eNot, eIf, tBl, tNot, tAnd, tOr, eFld, eBM, mAppend, eMake0, pNone, pSome, eSl, eSl3, sAsg, sExpr, sRet, sIf, sNil, sPar, sPar3, sAug, sPut, sPuts, bindP, bindPs, wipeE_nil, wipeE_cons, startE_eq, List.replicate, List.length_cons, List.length_nil, List.length_append, oIsN, oIsNot, oSub, oLt, oLe, oGt, oAddI, Bool.false_eq_true, Bool.not_true, Bool.not_false, decide_true, decide_false, reduceIte, reduceCtorEq, Nat.reduceAdd, Nat.reduceSub, Nat.add_zero, Nat.zero_add, app_get, app_get0, app_set, app_set0, oEq_int, oNe_int, noLocL_nil, noLocL_cons, noLoc_non, noLoc_int, noLoc_bl, noLoc_str, noLoc_scr, noLoc_tup, noLoc_lst, noLoc_dic, noLoc_ins, noLocL_ints, Bool.and_self, Bool.and_true, Bool.true_and, and_self, isNonD, Nat.reduceLeDiff, Nat.reduceLT, Nat.reduceEqDiff, Int.reduceAdd, Int.reduceSub, Int.reduceLT, Int.reduceLE, Int.reduceEq, Int.reduceNeg, Int.reduceMod, Int.reduceToNat, v_fm, v_call, altOf_hd, altOf_tl, ixL0, ixL1, ixL2, ixT0, ixT1, ixT2, ixT3, ixT4, ixT5, add_int, len_lst, len_tup, fst_ok, mPop_end, noLoc_encB, ne_eq, not_true, not_false_eq_true, not_true_eq_false, mod_ok, div_ok, sto_assoc, sto_cons, sto_nil, set_int, app_int, app_bk, app_P, app_C, ne_pair, eq_pair, eq_self, List.getElem?_nil, ixB0, ixB1, ixB2, sl_map, ne_bl, eq_bl, n1, ad3]
    refine rt_go (e := [some (.loc j), some (.int mo), some (.lst (NN ++ [.int 0, .int 3, .int (3 + mo)])), none, none, none, none, none]) (s := s) (sAsg_ok fr rfl) ?_
    have f1 : eCallLam (fun I => runT 3 N__law_refused (m__law_refused I)) 4 (eMeth [(5, T_Slab_nut)] "nut" (eVar 0) (aCons (eVar 4) (aCons (eC (.int 0)) aNil))) (aCons (eVar 2) (aCons (eC (.int 6)) aNil)) [some (.loc j), some (.int mo), some (.lst (NN ++ [.int 0, .int 3, .int (3 + mo)])), none, none, none, none, none] s = .ok (.bl true) (s ++ [.dead]) :=
      lam_ref (c := 17) (gg := false) (things := NN ++ [.int 0, .int 3, .int (3 + mo)]) (by omega) rfl rfl fun x hx => by
        have hx := noN_app (mo := mo) (L := [0, 3, 3 + mo]) (by rw [hNN]; exact hx)
        refine meth_exc (h.app [.fn 0]) hns.2.2.1 rfl rfl (nut_no (h.app [.fn 0]) hx.1 rfl hx.2.1 rfl fun i k e1 e2 a1 a2 a3 a4 => ?_)
        have := hx.2.2 i e1
        cases e2
        simp only [List.mem_cons, List.not_mem_nil, or_false] at this
        have : i = 0 := by omega
        subst this
        rw [hB]; simp
    (first | apply rt_go | apply nx_go); focus (simp only [v_seq, seq_nx, seq_rt, v_meth, bind0_ok, v_lift, v_lend0, v_lend1, consO_some, v_lendD, Res.bind_ok, Res.out_ok, List.getElem?_cons_zero, List.getElem?_cons_succ, List.set_cons_zero, List.set_cons_succ, eVar, eC, eOp, eUn, uNeg, eIx, aNil, aCons, eTup, eLst, eDicF, newL, eCB, eCallT, eAnd, eOr, eNot, eIf, tBl, tNot, tAnd, tOr, eFld, eBM, mAppend, eMake0, pNone, pSome, eSl, eSl3, sAsg, sExpr, sRet, sIf, sNil, sPar, sPar3, sAug, sPut, sPuts, bindP, bindPs, wipeE_nil, wipeE_cons, startE_eq, List.replicate, List.length_cons, List.length_nil, List.length_append, oIsN, oIsNot, oSub, oLt, oLe, oGt, oAddI, Bool.false_eq_true, Bool.not_true, Bool.not_false, decide_true, decide_false, reduceIte, reduceCtorEq, Nat.reduceAdd, Nat.reduceSub, Nat.add_zero, Nat.zero_add, app_get, app_get0, app_set, app_set0, oEq_int, oNe_int, noLocL_nil, noLocL_cons, noLoc_non, noLoc_int, noLoc_bl, noLoc_str, noLoc_scr, noLoc_tup, noLoc_lst, noLoc_dic, noLoc_ins, noLocL_ints, Bool.and_self, Bool.and_true, Bool.true_and, and_self, isNonD, Nat.reduceLeDiff, Nat.reduceLT, Nat.reduceEqDiff, Int.reduceAdd, Int.reduceSub, Int.reduceLT, Int.reduceLE, Int.reduceEq, Int.reduceNeg, Int.reduceMod, Int.reduceToNat, v_fm, v_call, altOf_hd, altOf_tl, ixL0, ixL1, ixL2, ixT0, ixT1, ixT2, ixT3, ixT4, ixT5, add_int, len_lst, len_tup, fst_ok, mPop_end, noLoc_encB, ne_eq, not_true, not_false_eq_true, not_true_eq_false, mod_ok, div_ok, sto_assoc, sto_cons, sto_nil, set_int, app_int, app_bk, app_P, app_C, ne_pair, eq_pair, eq_self, List.getElem?_nil, ixB0, ixB1, ixB2, sl_map, ne_bl, eq_bl, f1]; first | done | exact rfl)
    have h := h.app [.dead]
    generalize hs1 : s ++ [DO.dead] = s1 at *
    have f2 : eCallLam (fun I => runT 3 N__law_refused (m__law_refused I)) 5 (eMeth [(5, T_Slab_nut)] "nut" (eVar 0) (aCons (eC (.int 0)) (aCons (eVar 5) aNil))) (aCons (eOp (oAdd false) (eCall G__law_no_numbers (aCons (eVar 1) aNil)) (eLst false (aCons (eC (.int 0)) (aCons (eC (.int 1)) (aCons (eC (.int 2)) (aCons (eOp (oAdd false) (eC (.int 2)) (eVar 1)) aNil)))))) (aCons (eC (.int 6)) aNil)) [some (.loc j), some (.int mo), some (.lst (NN ++ [.int 0, .int 3, .int (3 + mo)])), none, none, none, none, none] s1 = .ok (.bl true) (s1 ++ [.dead]) :=
      lam_ref (c := 17) (gg := false) (things := NN ++ [.int 0, .int 1, .int 2, .int (2 + mo)]) (by omega) rfl (by simp only [v_seq, seq_nx, seq_rt, v_meth, bind0_ok, v_lift, v_lend0, v_lend1, consO_some, v_lendD, Res.bind_ok, Res.out_ok, List.getElem?_cons_zero, List.getElem?_cons_succ, List.set_cons_zero, List.set_cons_succ, eVar, eC, eOp, eUn, uNeg, eIx, aNil, aCons, eTup, eLst, eDicF, newL, eCB, eCallT, eAnd, eOr, eNot, eIf, tBl, tNot, tAnd, tOr, eFld, eBM, mAppend, eMake0, pNone, pSome, eSl, eSl3, sAsg, sExpr, sRet, sIf, sNil, sPar, sPar3, sAug, sPut, sPuts, bindP, bindPs, wipeE_nil, wipeE_cons, startE_eq, List.replicate, List.length_cons, List.length_nil, List.length_append, oIsN, oIsNot, oSub, oLt, oLe, oGt, oAddI, Bool.false_eq_true, Bool.not_true, Bool.not_false, decide_true, decide_false, reduceIte, reduceCtorEq, Nat.reduceAdd, Nat.reduceSub, Nat.add_zero, Nat.zero_add, app_get, app_get0, app_set, app_set0, oEq_int, oNe_int, noLocL_nil, noLocL_cons, noLoc_non, noLoc_int, noLoc_bl, noLoc_str, noLoc_scr, noLoc_tup, noLoc_lst, noLoc_dic, noLoc_ins, noLocL_ints, Bool.and_self, Bool.and_true, Bool.true_and, and_self, isNonD, Nat.reduceLeDiff, Nat.reduceLT, Nat.reduceEqDiff, Int.reduceAdd, Int.reduceSub, Int.reduceLT, Int.reduceLE, Int.reduceEq, Int.reduceNeg, Int.reduceMod, Int.reduceToNat, v_fm, v_call, altOf_hd, altOf_tl, ixL0, ixL1, ixL2, ixT0, ixT1, ixT2, ixT3, ixT4, ixT5, add_int, len_lst, len_tup, fst_ok, mPop_end, noLoc_encB, ne_eq, not_true, not_false_eq_true, not_true_eq_false, mod_ok, div_ok, sto_assoc, sto_cons, sto_nil, set_int, app_int, app_bk, app_P, app_C, ne_pair, eq_pair, eq_self, List.getElem?_nil, ixB0, ixB1, ixB2, sl_map, ne_bl, eq_bl, n1, ad4]; all_goals rfl) fun x hx => by
        have hx := noN_app (mo := mo) (L := [0, 1, 2, 2 + mo]) (by rw [hNN]; exact hx)
        refine meth_exc (h.app [.fn 0]) hns.2.2.1 rfl rfl (nut_no (h.app [.fn 0]) rfl hx.1 rfl hx.2.1 fun i k e1 e2 a1 a2 a3 a4 => ?_)
        have := hx.2.2 k e2
        cases e1
        simp only [List.mem_cons, List.not_mem_nil, or_false] at this
        have : k = 0 ∨ k = 1 := by omega
        rcases this with rfl | rfl <;> (rw [hB]; simp)
    (first | apply rt_go | apply nx_go); focus (simp only [v_seq, seq_nx, seq_rt, v_meth, bind0_ok, v_lift, v_lend0, v_lend1, consO_some, v_lendD, Res.bind_ok, Res.out_ok, List.getElem?_cons_zero, List.getElem?_cons_succ, List.set_cons_zero, List.set_cons_succ, eVar, eC, eOp, eUn, uNeg, eIx, aNil, aCons, eTup, eLst, eDicF, newL, eCB, eCallT, eAnd, eOr, eNot, eIf, tBl, tNot, tAnd, tOr, eFld, eBM, mAppend, eMake0, pNone, pSome, eSl, eSl3, sAsg, sExpr, sRet, sIf, sNil, sPar, sPar3, sAug, sPut, sPuts, bindP, bindPs, wipeE_nil, wipeE_cons, startE_eq, List.replicate, List.length_cons, List.length_nil, List.length_append, oIsN, oIsNot, oSub, oLt, oLe, oGt, oAddI, Bool.false_eq_true, Bool.not_true, Bool.not_false, decide_true, decide_false, reduceIte, reduceCtorEq, Nat.reduceAdd, Nat.reduceSub, Nat.add_zero, Nat.zero_add, app_get, app_get0, app_set, app_set0, oEq_int, oNe_int, noLocL_nil, noLocL_cons, noLoc_non, noLoc_int, noLoc_bl, noLoc_str, noLoc_scr, noLoc_tup, noLoc_lst, noLoc_dic, noLoc_ins, noLocL_ints, Bool.and_self, Bool.and_true, Bool.true_and, and_self, isNonD, Nat.reduceLeDiff, Nat.reduceLT, Nat.reduceEqDiff, Int.reduceAdd, Int.reduceSub, Int.reduceLT, Int.reduceLE, Int.reduceEq, Int.reduceNeg, Int.reduceMod, Int.reduceToNat, v_fm, v_call, altOf_hd, altOf_tl, ixL0, ixL1, ixL2, ixT0, ixT1, ixT2, ixT3, ixT4, ixT5, add_int, len_lst, len_tup, fst_ok, mPop_end, noLoc_encB, ne_eq, not_true, not_false_eq_true, not_true_eq_false, mod_ok, div_ok, sto_assoc, sto_cons, sto_nil, set_int, app_int, app_bk, app_P, app_C, ne_pair, eq_pair, eq_self, List.getElem?_nil, ixB0, ixB1, ixB2, sl_map, ne_bl, eq_bl, f2]; first | done | exact rfl)
    have h := h.app [.dead]
    generalize hs2 : s1 ++ [DO.dead] = s2 at *
    have f3 : eCallLam (fun I => runT 3 N__law_refused (m__law_refused I)) 6 (eMeth [(5, T_Slab_set_price)] "set_price" (eVar 0) (aCons (eVar 6) (aCons (eC (.int 1)) (aCons (eC .non) aNil)))) (aCons (eOp (oAdd false) (eCall G__law_no_numbers (aCons (eVar 1) aNil)) (eLst false (aCons (eC (.int 2)) (aCons (eOp (oAdd false) (eC (.int 2)) (eVar 1)) aNil)))) (aCons (eC (.int 5)) aNil)) [some (.loc j), some (.int mo), some (.lst (NN ++ [.int 0, .int 3, .int (3 + mo)])), none, none, none, none, none] s2 = .ok (.bl true) (s2 ++ [.dead]) :=
      lam_ref (c := 16) (gg := false) (things := NN ++ [.int 2, .int (2 + mo)]) (by omega) rfl (by simp only [v_seq, seq_nx, seq_rt, v_meth, bind0_ok, v_lift, v_lend0, v_lend1, consO_some, v_lendD, Res.bind_ok, Res.out_ok, List.getElem?_cons_zero, List.getElem?_cons_succ, List.set_cons_zero, List.set_cons_succ, eVar, eC, eOp, eUn, uNeg, eIx, aNil, aCons, eTup, eLst, eDicF, newL, eCB, eCallT, eAnd, eOr, eNot, eIf, tBl, tNot, tAnd, tOr, eFld, eBM, mAppend, eMake0, pNone, pSome, eSl, eSl3, sAsg, sExpr, sRet, sIf, sNil, sPar, sPar3, sAug, sPut, sPuts, bindP, bindPs, wipeE_nil, wipeE_cons, startE_eq, List.replicate, List.length_cons, List.length_nil, List.length_append, oIsN, oIsNot, oSub, oLt, oLe, oGt, oAddI, Bool.false_eq_true, Bool.not_true, Bool.not_false, decide_true, decide_false, reduceIte, reduceCtorEq, Nat.reduceAdd, Nat.reduceSub, Nat.add_zero, Nat.zero_add, app_get, app_get0, app_set, app_set0, oEq_int, oNe_int, noLocL_nil, noLocL_cons, noLoc_non, noLoc_int, noLoc_bl, noLoc_str, noLoc_scr, noLoc_tup, noLoc_lst, noLoc_dic, noLoc_ins, noLocL_ints, Bool.and_self, Bool.and_true, Bool.true_and, and_self, isNonD, Nat.reduceLeDiff, Nat.reduceLT, Nat.reduceEqDiff, Int.reduceAdd, Int.reduceSub, Int.reduceLT, Int.reduceLE, Int.reduceEq, Int.reduceNeg, Int.reduceMod, Int.reduceToNat, v_fm, v_call, altOf_hd, altOf_tl, ixL0, ixL1, ixL2, ixT0, ixT1, ixT2, ixT3, ixT4, ixT5, add_int, len_lst, len_tup, fst_ok, mPop_end, noLoc_encB, ne_eq, not_true, not_false_eq_true, not_true_eq_false, mod_ok, div_ok, sto_assoc, sto_cons, sto_nil, set_int, app_int, app_bk, app_P, app_C, ne_pair, eq_pair, eq_self, List.getElem?_nil, ixB0, ixB1, ixB2, sl_map, ne_bl, eq_bl, n1, ad2]; all_goals rfl) fun x hx => by
        have hx := noN_app (mo := mo) (L := [2, 2 + mo]) (by rw [hNN]; exact hx)
        refine meth_exc (h.app [.fn 0]) hns.2.2.2.1 rfl rfl (set_no16 (h.app [.fn 0]) o hx.1 rfl hx.2.1 rfl fun i k e1 e2 hm => ?_)
        have := hx.2.2 i e1
        simp only [List.mem_cons, List.not_mem_nil, or_false] at this
        rcases mem_lines.mp hm with ⟨z, z2, z3⟩ | ⟨z, z2, z3⟩ <;> simp only at z z2 z3 <;> omega
    (first | apply rt_go | apply nx_go); focus (simp only [v_seq, seq_nx, seq_rt, v_meth, bind0_ok, v_lift, v_lend0, v_lend1, consO_some, v_lendD, Res.bind_ok, Res.out_ok, List.getElem?_cons_zero, List.getElem?_cons_succ, List.set_cons_zero, List.set_cons_succ, eVar, eC, eOp, eUn, uNeg, eIx, aNil, aCons, eTup, eLst, eDicF, newL, eCB, eCallT, eAnd, eOr, eNot, eIf, tBl, tNot, tAnd, tOr, eFld, eBM, mAppend, eMake0, pNone, pSome, eSl, eSl3, sAsg, sExpr, sRet, sIf, sNil, sPar, sPar3, sAug, sPut, sPuts, bindP, bindPs, wipeE_nil, wipeE_cons, startE_eq, List.replicate, List.length_cons, List.length_nil, List.length_append, oIsN, oIsNot, oSub, oLt, oLe, oGt, oAddI, Bool.false_eq_true, Bool.not_true, Bool.not_false, decide_true, decide_false, reduceIte, reduceCtorEq, Nat.reduceAdd, Nat.reduceSub, Nat.add_zero, Nat.zero_add, app_get, app_get0, app_set, app_set0, oEq_int, oNe_int, noLocL_nil, noLocL_cons, noLoc_non, noLoc_int, noLoc_bl, noLoc_str, noLoc_scr, noLoc_tup, noLoc_lst, noLoc_dic, noLoc_ins, noLocL_ints, Bool.and_self, Bool.and_true, Bool.true_and, and_self, isNonD, Nat.reduceLeDiff, Nat.reduceLT, Nat.reduceEqDiff, Int.reduceAdd, Int.reduceSub, Int.reduceLT, Int.reduceLE, Int.reduceEq, Int.reduceNeg, Int.reduceMod, Int.reduceToNat, v_fm, v_call, altOf_hd, altOf_tl, ixL0, ixL1, ixL2, ixT0, ixT1, ixT2, ixT3, ixT4, ixT5, add_int, len_lst, len_tup, fst_ok, mPop_end, noLoc_encB, ne_eq, not_true, not_false_eq_true, not_true_eq_false, mod_ok, div_ok, sto_assoc, sto_cons, sto_nil, set_int, app_int, app_bk, app_P, app_C, ne_pair, eq_pair, eq_self, List.getElem?_nil, ixB0, ixB1, ixB2, sl_map, ne_bl, eq_bl, f3]; first | done | exact rfl)
    have h := h.app [.dead]
    generalize hs3 : s2 ++ [DO.dead] = s3 at *
    have f4 : eCallLam (fun I => runT 3 N__law_refused (m__law_refused I)) 7 (eMeth [(5, T_Slab_set_price)] "set_price" (eVar 0) (aCons (eC (.int 0)) (aCons (eVar 7) (aCons (eC .non) aNil)))) (aCons (eVar 2) (aCons (eC (.int 5)) aNil)) [some (.loc j), some (.int mo), some (.lst (NN ++ [.int 0, .int 3, .int (3 + mo)])), none, none, none, none, none] s3 = .ok (.bl true) (s3 ++ [.dead]) :=
      lam_ref (c := 16) (gg := false) (things := NN ++ [.int 0, .int 3, .int (3 + mo)]) (by omega) rfl rfl fun x hx => by
        have hx := noN_app (mo := mo) (L := [0, 3, 3 + mo]) (by rw [hNN]; exact hx)
        refine meth_exc (h.app [.fn 0]) hns.2.2.2.1 rfl rfl (set_no16 (h.app [.fn 0]) o rfl hx.1 rfl hx.2.1 fun i k e1 e2 hm => ?_)
        have := hx.2.2 k e2
        cases e1
        simp only [List.mem_cons, List.not_mem_nil, or_false] at this
        rw [hw] at hm
        rcases mem_lines.mp hm with ⟨z, z2, z3⟩ | ⟨z, z2, z3⟩ <;> simp only at z z2 z3 <;> omega
    (first | apply rt_go | apply nx_go); focus (simp only [v_seq, seq_nx, seq_rt, v_meth, bind0_ok, v_lift, v_lend0, v_lend1, consO_some, v_lendD, Res.bind_ok, Res.out_ok, List.getElem?_cons_zero, List.getElem?_cons_succ, List.set_cons_zero, List.set_cons_succ, eVar, eC, eOp, eUn, uNeg, eIx, aNil, aCons, eTup, eLst, eDicF, newL, eCB, eCallT, eAnd, eOr, eNot, eIf, tBl, tNot, tAnd, tOr, eFld, eBM, mAppend, eMake0, pNone, pSome, eSl, eSl3, sAsg, sExpr, sRet, sIf, sNil, sPar, sPar3, sAug, sPut, sPuts, bindP, bindPs, wipeE_nil, wipeE_cons, startE_eq, List.replicate, List.length_cons, List.length_nil, List.length_append, oIsN, oIsNot, oSub, oLt, oLe, oGt, oAddI, Bool.false_eq_true, Bool.not_true, Bool.not_false, decide_true, decide_false, reduceIte, reduceCtorEq, Nat.reduceAdd, Nat.reduceSub, Nat.add_zero, Nat.zero_add, app_get, app_get0, app_set, app_set0, oEq_int, oNe_int, noLocL_nil, noLocL_cons, noLoc_non, noLoc_int, noLoc_bl, noLoc_str, noLoc_scr, noLoc_tup, noLoc_lst, noLoc_dic, noLoc_ins, noLocL_ints, Bool.and_self, Bool.and_true, Bool.true_and, and_self, isNonD, Nat.reduceLeDiff, Nat.reduceLT, Nat.reduceEqDiff, Int.reduceAdd, Int.reduceSub, Int.reduceLT, Int.reduceLE, Int.reduceEq, Int.reduceNeg, Int.reduceMod, Int.reduceToNat, v_fm, v_call, altOf_hd, altOf_tl, ixL0, ixL1, ixL2, ixT0, ixT1, ixT2, ixT3, ixT4, ixT5, add_int, len_lst, len_tup, fst_ok, mPop_end, noLoc_encB, ne_eq, not_true, not_false_eq_true, not_true_eq_false, mod_ok, div_ok, sto_assoc, sto_cons, sto_nil, set_int, app_int, app_bk, app_P, app_C, ne_pair, eq_pair, eq_self, List.getElem?_nil, ixB0, ixB1, ixB2, sl_map, ne_bl, eq_bl, f4]; first | done | exact rfl)
    have h := h.app [.dead]
    generalize hs4 : s3 ++ [DO.dead] = s4 at *
    have f5 : eCallLam (fun I => runT 3 N__law_refused (m__law_refused I)) 3 (eMeth [(5, T_Slab_set_price)] "set_price" (eVar 0) (aCons (eC (.int 1)) (aCons (eC (.int 1)) (aCons (eVar 3) aNil)))) (aCons (eOp (oAdd false) (eCall G__law_no_numbers (aCons (eVar 1) aNil)) (eLst false (aCons (eC (.int 0)) (aCons (eC (.int 10)) (aCons (eOp (oAdd false) (eC (.int 10)) (eVar 1)) aNil))))) (aCons (eC (.int 7)) aNil)) [some (.loc j), some (.int mo), some (.lst (NN ++ [.int 0, .int 3, .int (3 + mo)])), none, none, none, none, none] s4 = .ok (.bl true) (s4 ++ [.dead]) :=
      lam_ref (c := 18) (gg := false) (things := NN ++ [.int 0, .int 10, .int (10 + mo)]) (by omega) rfl (by simp only [v_seq, seq_nx, seq_rt, v_meth, bind0_ok, v_lift, v_lend0, v_lend1, consO_some, v_lendD, Res.bind_ok, Res.out_ok, List.getElem?_cons_zero, List.getElem?_cons_succ, List.set_cons_zero, List.set_cons_succ, eVar, eC, eOp, eUn, uNeg, eIx, aNil, aCons, eTup, eLst, eDicF, newL, eCB, eCallT, eAnd, eOr, eNot, eIf, tBl, tNot, tAnd, tOr, eFld, eBM, mAppend, eMake0, pNone, pSome, eSl, eSl3, sAsg, sExpr, sRet, sIf, sNil, sPar, sPar3, sAug, sPut, sPuts, bindP, bindPs, wipeE_nil, wipeE_cons, startE_eq, List.replicate, List.length_cons, List.length_nil, List.length_append, oIsN, oIsNot, oSub, oLt, oLe, oGt, oAddI, Bool.false_eq_true, Bool.not_true, Bool.not_false, decide_true, decide_false, reduceIte, reduceCtorEq, Nat.reduceAdd, Nat.reduceSub, Nat.add_zero, Nat.zero_add, app_get, app_get0, app_set, app_set0, oEq_int, oNe_int, noLocL_nil, noLocL_cons, noLoc_non, noLoc_int, noLoc_bl, noLoc_str, noLoc_scr, noLoc_tup, noLoc_lst, noLoc_dic, noLoc_ins, noLocL_ints, Bool.and_self, Bool.and_true, Bool.true_and, and_self, isNonD, Nat.reduceLeDiff, Nat.reduceLT, Nat.reduceEqDiff, Int.reduceAdd, Int.reduceSub, Int.reduceLT, Int.reduceLE, Int.reduceEq, Int.reduceNeg, Int.reduceMod, Int.reduceToNat, v_fm, v_call, altOf_hd, altOf_tl, ixL0, ixL1, ixL2, ixT0, ixT1, ixT2, ixT3, ixT4, ixT5, add_int, len_lst, len_tup, fst_ok, mPop_end, noLoc_encB, ne_eq, not_true, not_false_eq_true, not_true_eq_false, mod_ok, div_ok, sto_assoc, sto_cons, sto_nil, set_int, app_int, app_bk, app_P, app_C, ne_pair, eq_pair, eq_self, List.getElem?_nil, ixB0, ixB1, ixB2, sl_map, ne_bl, eq_bl, n1, ad3]; all_goals rfl) fun x hx => by
        have hx := noN_app (mo := mo) (L := [0, 10, 10 + mo]) (by rw [hNN]; exact hx)
        refine meth_exc (h.app [.fn 0]) hns.2.2.2.1 rfl rfl (set_no18 (h.app [.fn 0]) o ?_ hx.1 hx.2.1 ?_)
        · rw [hw]; exact mem_lines.mpr (.inr ⟨rfl, by simp, by simp⟩)
        · cases hx1 : isW x with
          | false => exact btw_no hx1
          | true =>
            obtain ⟨i, rfl⟩ := isW_int hx1
            have := hx.2.2 i rfl
            simp only [List.mem_cons, List.not_mem_nil, or_false] at this
            simp only [btw, Bool.and_eq_false_iff, decide_eq_false_iff_not]
            omega
    refine ⟨_, _, sRet_ok f5, rfl, [.dead, .dead, .dead, .dead, .dead], ?_⟩
    rw [← hs4, ← hs3, ← hs2, ← hs1]
    simp
  obtain ⟨r, s', h1, rfl, l, rfl⟩ := main
  exact ⟨l, runT_rt rfl h1⟩
end
end BB
namespace BB
open PySem L2
variable {tg : Tg}
def newS (B : Bar) (m : Int) : Sl := ⟨B, m, [wholeP B], 0, []⟩
theorem new_ok {B : Bar} (o : OkBar B) {m : Int} (hm : 1 ≤ m ∧ m ≤ 3) : OkS (newS B m) := ⟨o, hm, Apart.whole B, rfl⟩
def slabL (n : Nat) (B : Bar) (m : Int) : Sto := [slabO (.tup [.loc (n + 1), .loc (n + 2), .lst (B.nuts.map encC)]) (.int m) (.lst ([wholeP B].map encP)) (.int 0) (.loc (n + 3)), .lst (B.p.map .int), .lst (B.q.map .int), .lst (([] : List Bk).map encBk)]
theorem SlabAt.new (s : Sto) (B : Bar) (m : Int) : SlabAt (s ++ slabL s.length B m) s.length (s.length + 1) (s.length + 2) (s.length + 3) (newS B m) :=
  ⟨by simp [slabL, newS], by simp [slabL, newS], by simp [slabL, newS], by simp [slabL, newS], by omega, by omega, by omega⟩
section
variable {s l : Sto} {x1 x2 x3 x4 y : DV}
theorem pf_bar : putFld clsF "bar" (.loc s.length) y (s ++ .ins 5 [] [] :: l) = .ok () (s ++ .ins 5 ["bar"] [y] :: l) := by
  simp only [putFld, app_get0, List.getElem?_cons_zero]; rw [if_pos (by decide)]; simp only [app_set0, List.set_cons_zero]; rfl
theorem pf_most : putFld clsF "most" (.loc s.length) y (s ++ .ins 5 ["bar"] [x1] :: l) = .ok () (s ++ .ins 5 ["bar", "most"] [x1, y] :: l) := by
  simp only [putFld, app_get0, List.getElem?_cons_zero]; rw [if_pos (by decide)]; simp only [app_set0, List.set_cons_zero]; rfl
theorem pf_parts : putFld clsF "parts" (.loc s.length) y (s ++ .ins 5 ["bar", "most"] [x1, x2] :: l) = .ok () (s ++ .ins 5 ["bar", "most", "parts"] [x1, x2, y] :: l) := by
  simp only [putFld, app_get0, List.getElem?_cons_zero]; rw [if_pos (by decide)]; simp only [app_set0, List.set_cons_zero]; rfl
theorem pf_paid : putFld clsF "paid" (.loc s.length) y (s ++ .ins 5 ["bar", "most", "parts"] [x1, x2, x3] :: l) = .ok () (s ++ .ins 5 ["bar", "most", "parts", "paid"] [x1, x2, x3, y] :: l) := by
  simp only [putFld, app_get0, List.getElem?_cons_zero]; rw [if_pos (by decide)]; simp only [app_set0, List.set_cons_zero]; rfl
theorem pf_done : putFld clsF "done" (.loc s.length) y (s ++ .ins 5 ["bar", "most", "parts", "paid"] [x1, x2, x3, x4] :: l) = .ok () (s ++ slabO x1 x2 x3 x4 y :: l) := by
  simp only [putFld, app_get0, List.getElem?_cons_zero]; rw [if_pos (by decide)]; simp only [app_set0, List.set_cons_zero]; rfl
end
theorem i_slab_aux {B : Bar} {m : Int} (o : OkBar B) (hm : 1 ≤ m ∧ m ≤ 3) {s : Sto} {P0 : Pc} (hwh : G_whole_of [encB tg B] = .ok (encP P0)) : Nx (m_Slab___init__ (startE N_Slab___init__ [.loc s.length, encB tg B, .int m]) (s ++ [.ins 5 [] []])) fun e s' => s' = s ++ [slabO (.tup [.loc (s.length + 1), .loc (s.length + 2), .lst (B.nuts.map encC)]) (.int m) (.lst [encP P0]) (.int 0) (.loc (s.length + 3)), .lst (B.p.map .int), .lst (B.q.map .int), .lst []] := by
  unfold m_Slab___init__
  rw [show startE N_Slab___init__ [.loc s.length, encB tg B, .int m] = [some (.loc s.length), some (encB tg B), some (.int m)] from rfl]
  (first | apply rt_go | apply nx_go); focus (simp only [v_seq, seq_nx, seq_rt, v_meth, bind0_ok, v_lift, v_lend0, v_lend1, consO_some, v_lendD, Res.bind_ok, Res.out_ok, List.getElem?_cons_zero, List.getElem?_cons_succ, List.set_cons_zero, List.set_cons_succ, eVar, eC, eOp, eUn, uNeg, eIx, aNil, aCons, eTup, eLst, eDicF, newL, eCB, eCallT, eAnd, eOr, eNot, eIf, tBl, tNot, tAnd, tOr, eFld, eBM, mAppend, eMake0, pNone, pSome, eSl, eSl3, sAsg, sExpr, sRet, sIf, sNil, sPar, sPar3, sAug, sPut, sPuts, bindP, bindPs, wipeE_nil, wipeE_cons, startE_eq, List.replicate, List.length_cons, List.length_nil, List.length_append, oIsN, oIsNot, oSub, oLt, oLe, oGt, oAddI, Bool.false_eq_true, Bool.not_true, Bool.not_false, decide_true, decide_false, reduceIte, reduceCtorEq, Nat.reduceAdd, Nat.reduceSub, Nat.add_zero, Nat.zero_add, app_get, app_get0, app_set, app_set0, oEq_int, oNe_int, noLocL_nil, noLocL_cons, noLoc_non, noLoc_int, noLoc_bl, noLoc_str, noLoc_scr, noLoc_tup, noLoc_lst, noLoc_dic, noLoc_ins, noLocL_ints, Bool.and_self, Bool.and_true, Bool.true_and, and_self, isNonD, Nat.reduceLeDiff, Nat.reduceLT, Nat.reduceEqDiff, Int.reduceAdd, Int.reduceSub, Int.reduceLT, Int.reduceLE, Int.reduceEq, Int.reduceNeg, Int.reduceMod, Int.reduceToNat, v_fm, v_call, altOf_hd, altOf_tl, ixL0, ixL1, ixL2, ixT0, ixT1, ixT2, ixT3, ixT4, ixT5, add_int, len_lst, len_tup, fst_ok, mPop_end, noLoc_encB, ne_eq, not_true, not_false_eq_true, not_true_eq_false, mod_ok, div_ok, sto_assoc, sto_cons, sto_nil, set_int, app_int, app_bk, app_P, app_C, ne_pair, eq_pair, eq_self, List.getElem?_nil, ixB0, ixB1, ixB2, sl_map, ne_bl, eq_bl, e_both (tg := tg) B m o hm]; first | done | exact rfl)
  (first | apply rt_go | apply nx_go); focus (simp only [v_seq, seq_nx, seq_rt, v_meth, bind0_ok, v_lift, v_lend0, v_lend1, consO_some, v_lendD, Res.bind_ok, Res.out_ok, List.getElem?_cons_zero, List.getElem?_cons_succ, List.set_cons_zero, List.set_cons_succ, eVar, eC, eOp, eUn, uNeg, eIx, aNil, aCons, eTup, eLst, eDicF, newL, eCB, eCallT, eAnd, eOr, eNot, eIf, tBl, tNot, tAnd, tOr, eFld, eBM, mAppend, eMake0, pNone, pSome, eSl, eSl3, sAsg, sExpr, sRet, sIf, sNil, sPar, sPar3, sAug, sPut, sPuts, bindP, bindPs, wipeE_nil, wipeE_cons, startE_eq, List.replicate, List.length_cons, List.length_nil, List.length_append, oIsN, oIsNot, oSub, oLt, oLe, oGt, oAddI, Bool.false_eq_true, Bool.not_true, Bool.not_false, decide_true, decide_false, reduceIte, reduceCtorEq, Nat.reduceAdd, Nat.reduceSub, Nat.add_zero, Nat.zero_add, app_get, app_get0, app_set, app_set0, oEq_int, oNe_int, noLocL_nil, noLocL_cons, noLoc_non, noLoc_int, noLoc_bl, noLoc_str, noLoc_scr, noLoc_tup, noLoc_lst, noLoc_dic, noLoc_ins, noLocL_ints, Bool.and_self, Bool.and_true, Bool.true_and, and_self, isNonD, Nat.reduceLeDiff, Nat.reduceLT, Nat.reduceEqDiff, Int.reduceAdd, Int.reduceSub, Int.reduceLT, Int.reduceLE, Int.reduceEq, Int.reduceNeg, Int.reduceMod, Int.reduceToNat, v_fm, v_call, altOf_hd, altOf_tl, ixL0, ixL1, ixL2, ixT0, ixT1, ixT2, ixT3, ixT4, ixT5, add_int, len_lst, len_tup, fst_ok, mPop_end, noLoc_encB, ne_eq, not_true, not_false_eq_true, not_true_eq_false, mod_ok, div_ok, sto_assoc, sto_cons, sto_nil, set_int, app_int, app_bk, app_P, app_C, ne_pair, eq_pair, eq_self, List.getElem?_nil, ixB0, ixB1, ixB2, sl_map, ne_bl, eq_bl, sFld, pf_bar]; first | done | exact rfl)
  (first | apply rt_go | apply nx_go); focus (simp only [v_seq, seq_nx, seq_rt, v_meth, bind0_ok, v_lift, v_lend0, v_lend1, consO_some, v_lendD, Res.bind_ok, Res.out_ok, List.getElem?_cons_zero, List.getElem?_cons_succ, List.set_cons_zero, List.set_cons_succ, eVar, eC, eOp, eUn, uNeg, eIx, aNil, aCons, eTup, eLst, eDicF, newL, eCB, eCallT, eAnd, eOr, eNot, eIf, tBl, tNot, tAnd, tOr, eFld, eBM, mAppend, eMake0, pNone, pSome, eSl, eSl3, sAsg, sExpr, sRet, sIf, sNil, sPar, sPar3, sAug, sPut, sPuts, bindP, bindPs, wipeE_nil, wipeE_cons, startE_eq, List.replicate, List.length_cons, List.length_nil, List.length_append, oIsN, oIsNot, oSub, oLt, oLe, oGt, oAddI, Bool.false_eq_true, Bool.not_true, Bool.not_false, decide_true, decide_false, reduceIte, reduceCtorEq, Nat.reduceAdd, Nat.reduceSub, Nat.add_zero, Nat.zero_add, app_get, app_get0, app_set, app_set0, oEq_int, oNe_int, noLocL_nil, noLocL_cons, noLoc_non, noLoc_int, noLoc_bl, noLoc_str, noLoc_scr, noLoc_tup, noLoc_lst, noLoc_dic, noLoc_ins, noLocL_ints, Bool.and_self, Bool.and_true, Bool.true_and, and_self, isNonD, Nat.reduceLeDiff, Nat.reduceLT, Nat.reduceEqDiff, Int.reduceAdd, Int.reduceSub, Int.reduceLT, Int.reduceLE, Int.reduceEq, Int.reduceNeg, Int.reduceMod, Int.reduceToNat, v_fm, v_call, altOf_hd, altOf_tl, ixL0, ixL1, ixL2, ixT0, ixT1, ixT2, ixT3, ixT4, ixT5, add_int, len_lst, len_tup, fst_ok, mPop_end, noLoc_encB, ne_eq, not_true, not_false_eq_true, not_true_eq_false, mod_ok, div_ok, sto_assoc, sto_cons, sto_nil, set_int, app_int, app_bk, app_P, app_C, ne_pair, eq_pair, eq_self, List.getElem?_nil, ixB0, ixB1, ixB2, sl_map, ne_bl, eq_bl, sFld, pf_most]; first | done | exact rfl)
  (first | apply rt_go | apply nx_go); focus (simp only [v_seq, seq_nx, seq_rt, v_meth, bind0_ok, v_lift, v_lend0, v_lend1, consO_some, v_lendD, Res.bind_ok, Res.out_ok, List.getElem?_cons_zero, List.getElem?_cons_succ, List.set_cons_zero, List.set_cons_succ, eVar, eC, eOp, eUn, uNeg, eIx, aNil, aCons, eTup, eLst, eDicF, newL, eCB, eCallT, eAnd, eOr, eNot, eIf, tBl, tNot, tAnd, tOr, eFld, eBM, mAppend, eMake0, pNone, pSome, eSl, eSl3, sAsg, sExpr, sRet, sIf, sNil, sPar, sPar3, sAug, sPut, sPuts, bindP, bindPs, wipeE_nil, wipeE_cons, startE_eq, List.replicate, List.length_cons, List.length_nil, List.length_append, oIsN, oIsNot, oSub, oLt, oLe, oGt, oAddI, Bool.false_eq_true, Bool.not_true, Bool.not_false, decide_true, decide_false, reduceIte, reduceCtorEq, Nat.reduceAdd, Nat.reduceSub, Nat.add_zero, Nat.zero_add, app_get, app_get0, app_set, app_set0, oEq_int, oNe_int, noLocL_nil, noLocL_cons, noLoc_non, noLoc_int, noLoc_bl, noLoc_str, noLoc_scr, noLoc_tup, noLoc_lst, noLoc_dic, noLoc_ins, noLocL_ints, Bool.and_self, Bool.and_true, Bool.true_and, and_self, isNonD, Nat.reduceLeDiff, Nat.reduceLT, Nat.reduceEqDiff, Int.reduceAdd, Int.reduceSub, Int.reduceLT, Int.reduceLE, Int.reduceEq, Int.reduceNeg, Int.reduceMod, Int.reduceToNat, v_fm, v_call, altOf_hd, altOf_tl, ixL0, ixL1, ixL2, ixT0, ixT1, ixT2, ixT3, ixT4, ixT5, add_int, len_lst, len_tup, fst_ok, mPop_end, noLoc_encB, ne_eq, not_true, not_false_eq_true, not_true_eq_false, mod_ok, div_ok, sto_assoc, sto_cons, sto_nil, set_int, app_int, app_bk, app_P, app_C, ne_pair, eq_pair, eq_self, List.getElem?_nil, ixB0, ixB1, ixB2, sl_map, ne_bl, eq_bl, sFld, pf_parts, hwh]; first | done | exact rfl)
  (first | apply rt_go | apply nx_go); focus (simp only [v_seq, seq_nx, seq_rt, v_meth, bind0_ok, v_lift, v_lend0, v_lend1, consO_some, v_lendD, Res.bind_ok, Res.out_ok, List.getElem?_cons_zero, List.getElem?_cons_succ, List.set_cons_zero, List.set_cons_succ, eVar, eC, eOp, eUn, uNeg, eIx, aNil, aCons, eTup, eLst, eDicF, newL, eCB, eCallT, eAnd, eOr, eNot, eIf, tBl, tNot, tAnd, tOr, eFld, eBM, mAppend, eMake0, pNone, pSome, eSl, eSl3, sAsg, sExpr, sRet, sIf, sNil, sPar, sPar3, sAug, sPut, sPuts, bindP, bindPs, wipeE_nil, wipeE_cons, startE_eq, List.replicate, List.length_cons, List.length_nil, List.length_append, oIsN, oIsNot, oSub, oLt, oLe, oGt, oAddI, Bool.false_eq_true, Bool.not_true, Bool.not_false, decide_true, decide_false, reduceIte, reduceCtorEq, Nat.reduceAdd, Nat.reduceSub, Nat.add_zero, Nat.zero_add, app_get, app_get0, app_set, app_set0, oEq_int, oNe_int, noLocL_nil, noLocL_cons, noLoc_non, noLoc_int, noLoc_bl, noLoc_str, noLoc_scr, noLoc_tup, noLoc_lst, noLoc_dic, noLoc_ins, noLocL_ints, Bool.and_self, Bool.and_true, Bool.true_and, and_self, isNonD, Nat.reduceLeDiff, Nat.reduceLT, Nat.reduceEqDiff, Int.reduceAdd, Int.reduceSub, Int.reduceLT, Int.reduceLE, Int.reduceEq, Int.reduceNeg, Int.reduceMod, Int.reduceToNat, v_fm, v_call, altOf_hd, altOf_tl, ixL0, ixL1, ixL2, ixT0, ixT1, ixT2, ixT3, ixT4, ixT5, add_int, len_lst, len_tup, fst_ok, mPop_end, noLoc_encB, ne_eq, not_true, not_false_eq_true, not_true_eq_false, mod_ok, div_ok, sto_assoc, sto_cons, sto_nil, set_int, app_int, app_bk, app_P, app_C, ne_pair, eq_pair, eq_self, List.getElem?_nil, ixB0, ixB1, ixB2, sl_map, ne_bl, eq_bl, sFld, pf_paid]; first | done | exact rfl)
  (first | apply rt_end | apply nx_end); focus (simp only [v_seq, seq_nx, seq_rt, v_meth, bind0_ok, v_lift, v_lend0, v_lend1, consO_some, v_lendD, Res.bind_ok, Res.out_ok, List.getElem?_cons_zero, List.getElem?_cons_succ, List.set_cons_zero, List.set_cons_succ, eVar, eC, eOp, eUn, uNeg, eIx, aNil, aCons, eTup, eLst, eDicF, newL, eCB, eCallT, eAnd, eOr, eNot, eIf, tBl, tNot, tAnd, tOr, eFld, eBM, mAppend, eMake0, pNone, pSome, eSl, eSl3, sAsg, sExpr, sRet, sIf, sNil, sPar, sPar3, sAug, sPut, sPuts, bindP, bindPs, wipeE_nil, wipeE_cons, startE_eq, List.replicate, List.length_cons, List.length_nil, List.length_append, oIsN, oIsNot, oSub, oLt, oLe, oGt, oAddI, Bool.false_eq_true, Bool.not_true, Bool.not_false, decide_true, decide_false, reduceIte, reduceCtorEq, Nat.reduceAdd, Nat.reduceSub, Nat.add_zero, Nat.zero_add, app_get, app_get0, app_set, app_set0, oEq_int, oNe_int, noLocL_nil, noLocL_cons, noLoc_non, noLoc_int, noLoc_bl, noLoc_str, noLoc_scr, noLoc_tup, noLoc_lst, noLoc_dic, noLoc_ins, noLocL_ints, Bool.and_self, Bool.and_true, Bool.true_and, and_self, isNonD, Nat.reduceLeDiff, Nat.reduceLT, Nat.reduceEqDiff, Int.reduceAdd, Int.reduceSub, Int.reduceLT, Int.reduceLE, Int.reduceEq, Int.reduceNeg, Int.reduceMod, Int.reduceToNat, v_fm, v_call, altOf_hd, altOf_tl, ixL0, ixL1, ixL2, ixT0, ixT1, ixT2, ixT3, ixT4, ixT5, add_int, len_lst, len_tup, fst_ok, mPop_end, noLoc_encB, ne_eq, not_true, not_false_eq_true, not_true_eq_false, mod_ok, div_ok, sto_assoc, sto_cons, sto_nil, set_int, app_int, app_bk, app_P, app_C, ne_pair, eq_pair, eq_self, List.getElem?_nil, ixB0, ixB1, ixB2, sl_map, ne_bl, eq_bl, sFld, pf_done]; first | done | exact rfl)
  rfl
theorem i_slab {B : Bar} {m : Int} (o : OkBar B) (hm : 1 ≤ m ∧ m ≤ 3) {s : Sto} : T_Slab___init__ [.loc s.length, encB tg B, .int m] (s ++ [.ins 5 [] []]) = .ok .non (s ++ slabL s.length B m) := by
  obtain ⟨e, s', h, rfl⟩ := i_slab_aux (tg := tg) o hm (s := s) (e_whole B)
  exact runT_nx rfl h
/-- a bar of three lists of the store -/
theorem i_slabL_aux {B : Bar} {m : Int} (o : OkBar B) (hm : 1 ≤ m ∧ m ≤ 3) {s : Sto} {a b c : Nat} (ha : s[a]? = some (.lst (B.p.map .int))) (hb : s[b]? = some (.lst (B.q.map .int))) (hc : s[c]? = some (.lst (B.nuts.map encC))) {P0 : Pc} (hwh : G_whole_of [encB (true, true, true) B] = .ok (encP P0)) : Nx (m_Slab___init__ (startE N_Slab___init__ [.loc s.length, .tup [.loc a, .loc b, .loc c], .int m]) (s ++ [.ins 5 [] []])) fun e s' => s' = s ++ [slabO (.tup [.loc (s.length + 1), .loc (s.length + 2), .lst (B.nuts.map encC)]) (.int m) (.lst [encP P0]) (.int 0) (.loc (s.length + 3)), .lst (B.p.map .int), .lst (B.q.map .int), .lst []] := by
  unfold m_Slab___init__
  rw [show startE N_Slab___init__ [.loc s.length, .tup [.loc a, .loc b, .loc c], .int m] = [some (.loc s.length), some (.tup [.loc a, .loc b, .loc c]), some (.int m)] from rfl]
  have ld : ∀ l, lendD (s ++ l) (.tup [.loc a, .loc b, .loc c]) = some (encB (true, true, true) B) := fun l => (Ld.bar (app_old ha l) (app_old hb l) (app_old hc l)).v
  have f1 : ∀ l, fList true [.loc a] (s ++ l) = newL true (B.p.map .int) (s ++ l) := fun l => fst_loc (app_old ha l)
  have f2 : ∀ l, fList true [.loc b] (s ++ l) = newL true (B.q.map .int) (s ++ l) := fun l => fst_loc (app_old hb l)
  have f3 : ∀ l, fList false [.loc c] (s ++ l) = newL false (B.nuts.map encC) (s ++ l) := fun l => fst_loc (app_old hc l)
  (first | apply rt_go | apply nx_go); focus (simp only [v_seq, seq_nx, seq_rt, v_meth, bind0_ok, v_lift, v_lend0, v_lend1, consO_some, v_lendD, Res.bind_ok, Res.out_ok, List.getElem?_cons_zero, List.getElem?_cons_succ, List.set_cons_zero, List.set_cons_succ, eVar, eC, eOp, eUn, uNeg, eIx, aNil, aCons, eTup, eLst, eDicF, newL, eCB, eCallT, eAnd, eOr, eNot, eIf, tBl, tNot, tAnd, tOr, eFld, eBM, mAppend, eMake0, pNone, pSome, eSl, eSl3, sAsg, sExpr, sRet, sIf, sNil, sPar, sPar3, sAug, sPut, sPuts, bindP, bindPs, wipeE_nil, wipeE_cons, startE_eq, List.replicate, List.length_cons, List.length_nil, List.length_append, oIsN, oIsNot, oSub, oLt, oLe, oGt, oAddI, Bool.false_eq_true, Bool.not_true, Bool.not_false, decide_true, decide_false, reduceIte, reduceCtorEq, Nat.reduceAdd, Nat.reduceSub, Nat.add_zero, Nat.zero_add, app_get, app_get0, app_set, app_set0, oEq_int, oNe_int, noLocL_nil, noLocL_cons, noLoc_non, noLoc_int, noLoc_bl, noLoc_str, noLoc_scr, noLoc_tup, noLoc_lst, noLoc_dic, noLoc_ins, noLocL_ints, Bool.and_self, Bool.and_true, Bool.true_and, and_self, isNonD, Nat.reduceLeDiff, Nat.reduceLT, Nat.reduceEqDiff, Int.reduceAdd, Int.reduceSub, Int.reduceLT, Int.reduceLE, Int.reduceEq, Int.reduceNeg, Int.reduceMod, Int.reduceToNat, v_fm, v_call, altOf_hd, altOf_tl, ixL0, ixL1, ixL2, ixT0, ixT1, ixT2, ixT3, ixT4, ixT5, add_int, len_lst, len_tup, fst_ok, mPop_end, noLoc_encB, ne_eq, not_true, not_false_eq_true, not_true_eq_false, mod_ok, div_ok, sto_assoc, sto_cons, sto_nil, set_int, app_int, app_bk, app_P, app_C, ne_pair, eq_pair, eq_self, List.getElem?_nil, ixB0, ixB1, ixB2, sl_map, ne_bl, eq_bl, e_both (tg := (true, true, true)) B m o hm, ld]; first | done | exact rfl)
  (first | apply rt_go | apply nx_go); focus (simp only [v_seq, seq_nx, seq_rt, v_meth, bind0_ok, v_lift, v_lend0, v_lend1, consO_some, v_lendD, Res.bind_ok, Res.out_ok, List.getElem?_cons_zero, List.getElem?_cons_succ, List.set_cons_zero, List.set_cons_succ, eVar, eC, eOp, eUn, uNeg, eIx, aNil, aCons, eTup, eLst, eDicF, newL, eCB, eCallT, eAnd, eOr, eNot, eIf, tBl, tNot, tAnd, tOr, eFld, eBM, mAppend, eMake0, pNone, pSome, eSl, eSl3, sAsg, sExpr, sRet, sIf, sNil, sPar, sPar3, sAug, sPut, sPuts, bindP, bindPs, wipeE_nil, wipeE_cons, startE_eq, List.replicate, List.length_cons, List.length_nil, List.length_append, oIsN, oIsNot, oSub, oLt, oLe, oGt, oAddI, Bool.false_eq_true, Bool.not_true, Bool.not_false, decide_true, decide_false, reduceIte, reduceCtorEq, Nat.reduceAdd, Nat.reduceSub, Nat.add_zero, Nat.zero_add, app_get, app_get0, app_set, app_set0, oEq_int, oNe_int, noLocL_nil, noLocL_cons, noLoc_non, noLoc_int, noLoc_bl, noLoc_str, noLoc_scr, noLoc_tup, noLoc_lst, noLoc_dic, noLoc_ins, noLocL_ints, Bool.and_self, Bool.and_true, Bool.true_and, and_self, isNonD, Nat.reduceLeDiff, Nat.reduceLT, Nat.reduceEqDiff, Int.reduceAdd, Int.reduceSub, Int.reduceLT, Int.reduceLE, Int.reduceEq, Int.reduceNeg, Int.reduceMod, Int.reduceToNat, v_fm, v_call, altOf_hd, altOf_tl, ixL0, ixL1, ixL2, ixT0, ixT1, ixT2, ixT3, ixT4, ixT5, add_int, len_lst, len_tup, fst_ok, mPop_end, noLoc_encB, ne_eq, not_true, not_false_eq_true, not_true_eq_false, mod_ok, div_ok, sto_assoc, sto_cons, sto_nil, set_int, app_int, app_bk, app_P, app_C, ne_pair, eq_pair, eq_self, List.getElem?_nil, ixB0, ixB1, ixB2, sl_map, ne_bl, eq_bl, sFld, pf_bar, f1, f2, f3]; first | done | exact rfl)
  (first | apply rt_go | apply nx_go); focus (simp only [v_seq, seq_nx, seq_rt, v_meth, bind0_ok, v_lift, v_lend0, v_lend1, consO_some, v_lendD, Res.bind_ok, Res.out_ok, List.getElem?_cons_zero, List.getElem?_cons_succ, List.set_cons_zero, List.set_cons_succ, eVar, eC, eOp, eUn, uNeg, eIx, aNil, aCons, eTup, eLst, eDicF, newL, eCB, eCallT, eAnd, eOr, eNot, eIf, tBl, tNot, tAnd, tOr, eFld, eBM, mAppend, eMake0, pNone, pSome, eSl, eSl3, sAsg, sExpr, sRet, sIf, sNil, sPar, sPar3, sAug, sPut, sPuts, bindP, bindPs, wipeE_nil, wipeE_cons, startE_eq, List.replicate, List.length_cons, List.length_nil, List.length_append, oIsN, oIsNot, oSub, oLt, oLe, oGt, oAddI, Bool.false_eq_true, Bool.not_true, Bool.not_false, decide_true, decide_false, reduceIte, reduceCtorEq, Nat.reduceAdd, Nat.reduceSub, Nat.add_zero, Nat.zero_add, app_get, app_get0, app_set, app_set0, oEq_int, oNe_int, noLocL_nil, noLocL_cons, noLoc_non, noLoc_int, noLoc_bl, noLoc_str, noLoc_scr, noLoc_tup, noLoc_lst, noLoc_dic, noLoc_ins, noLocL_ints, Bool.and_self, Bool.and_true, Bool.true_and, and_self, isNonD, Nat.reduceLeDiff, Nat.reduceLT, Nat.reduceEqDiff, Int.reduceAdd, Int.reduceSub, Int.reduceLT, Int.reduceLE, Int.reduceEq, Int.reduceNeg, Int.reduceMod, Int.reduceToNat, v_fm, v_call, altOf_hd, altOf_tl, ixL0, ixL1, ixL2, ixT0, ixT1, ixT2, ixT3, ixT4, ixT5, add_int, len_lst, len_tup, fst_ok, mPop_end, noLoc_encB, ne_eq, not_true, not_false_eq_true, not_true_eq_false, mod_ok, div_ok, sto_assoc, sto_cons, sto_nil, set_int, app_int, app_bk, app_P, app_C, ne_pair, eq_pair, eq_self, List.getElem?_nil, ixB0, ixB1, ixB2, sl_map, ne_bl, eq_bl, sFld, pf_most]; first | done | exact rfl)
  (first | apply rt_go | apply nx_go); focus (simp only [v_seq, seq_nx, seq_rt, v_meth, bind0_ok, v_lift, v_lend0, v_lend1, consO_some, v_lendD, Res.bind_ok, Res.out_ok, List.getElem?_cons_zero, List.getElem?_cons_succ, List.set_cons_zero, List.set_cons_succ, eVar, eC, eOp, eUn, uNeg, eIx, aNil, aCons, eTup, eLst, eDicF, newL, eCB, eCallT, eAnd, eOr, eNot, eIf, tBl, tNot, tAnd, tOr, eFld, eBM, mAppend, eMake0, pNone, pSome, eSl, eSl3, sAsg, sExpr, sRet, sIf, sNil, sPar, sPar3, sAug, sPut, sPuts, bindP, bindPs, wipeE_nil, wipeE_cons, startE_eq, List.replicate, List.length_cons, List.length_nil, List.length_append, oIsN, oIsNot, oSub, oLt, oLe, oGt, oAddI, Bool.false_eq_true, Bool.not_true, Bool.not_false, decide_true, decide_false, reduceIte, reduceCtorEq, Nat.reduceAdd, Nat.reduceSub, Nat.add_zero, Nat.zero_add, app_get, app_get0, app_set, app_set0, oEq_int, oNe_int, noLocL_nil, noLocL_cons, noLoc_non, noLoc_int, noLoc_bl, noLoc_str, noLoc_scr, noLoc_tup, noLoc_lst, noLoc_dic, noLoc_ins, noLocL_ints, Bool.and_self, Bool.and_true, Bool.true_and, and_self, isNonD, Nat.reduceLeDiff, Nat.reduceLT, Nat.reduceEqDiff, Int.reduceAdd, Int.reduceSub, Int.reduceLT, Int.reduceLE, Int.reduceEq, Int.reduceNeg, Int.reduceMod, Int.reduceToNat, v_fm, v_call, altOf_hd, altOf_tl, ixL0, ixL1, ixL2, ixT0, ixT1, ixT2, ixT3, ixT4, ixT5, add_int, len_lst, len_tup, fst_ok, mPop_end, noLoc_encB, ne_eq, not_true, not_false_eq_true, not_true_eq_false, mod_ok, div_ok, sto_assoc, sto_cons, sto_nil, set_int, app_int, app_bk, app_P, app_C, ne_pair, eq_pair, eq_self, List.getElem?_nil, ixB0, ixB1, ixB2, sl_map, ne_bl, eq_bl, sFld, pf_parts, hwh, ld]; first | done | exact rfl)
  (first | apply rt_go | apply nx_go); focus (simp only [v_seq, seq_nx, seq_rt, v_meth, bind0_ok, v_lift, v_lend0, v_lend1, consO_some, v_lendD, Res.bind_ok, Res.out_ok, List.getElem?_cons_zero, List.getElem?_cons_succ, List.set_cons_zero, List.set_cons_succ, eVar, eC, eOp, eUn, uNeg, eIx, aNil, aCons, eTup, eLst, eDicF, newL, eCB, eCallT, eAnd, eOr, eNot, eIf, tBl, tNot, tAnd, tOr, eFld, eBM, mAppend, eMake0, pNone, pSome, eSl, eSl3, sAsg, sExpr, sRet, sIf, sNil, sPar, sPar3, sAug, sPut, sPuts, bindP, bindPs, wipeE_nil, wipeE_cons, startE_eq, List.replicate, List.length_cons, List.length_nil, List.length_append, oIsN, oIsNot, oSub, oLt, oLe, oGt, oAddI, Bool.false_eq_true, Bool.not_true, Bool.not_false, decide_true, decide_false, reduceIte, reduceCtorEq, Nat.reduceAdd, Nat.reduceSub, Nat.add_zero, Nat.zero_add, app_get, app_get0, app_set, app_set0, oEq_int, oNe_int, noLocL_nil, noLocL_cons, noLoc_non, noLoc_int, noLoc_bl, noLoc_str, noLoc_scr, noLoc_tup, noLoc_lst, noLoc_dic, noLoc_ins, noLocL_ints, Bool.and_self, Bool.and_true, Bool.true_and, and_self, isNonD, Nat.reduceLeDiff, Nat.reduceLT, Nat.reduceEqDiff, Int.reduceAdd, Int.reduceSub, Int.reduceLT, Int.reduceLE, Int.reduceEq, Int.reduceNeg, Int.reduceMod, Int.reduceToNat, v_fm, v_call, altOf_hd, altOf_tl, ixL0, ixL1, ixL2, ixT0, ixT1, ixT2, ixT3, ixT4, ixT5, add_int, len_lst, len_tup, fst_ok, mPop_end, noLoc_encB, ne_eq, not_true, not_false_eq_true, not_true_eq_false, mod_ok, div_ok, sto_assoc, sto_cons, sto_nil, set_int, app_int, app_bk, app_P, app_C, ne_pair, eq_pair, eq_self, List.getElem?_nil, ixB0, ixB1, ixB2, sl_map, ne_bl, eq_bl, sFld, pf_paid]; first | done | exact rfl)
  (first | apply rt_end | apply nx_end); focus (simp only [v_seq, seq_nx, seq_rt, v_meth, bind0_ok, v_lift, v_lend0, v_lend1, consO_some, v_lendD, Res.bind_ok, Res.out_ok, List.getElem?_cons_zero, List.getElem?_cons_succ, List.set_cons_zero, List.set_cons_succ, eVar, eC, eOp, eUn, uNeg, eIx, aNil, aCons, eTup, eLst, eDicF, newL, eCB, eCallT, eAnd, eOr, eNot, eIf, tBl, tNot, tAnd, tOr, eFld, eBM, mAppend, eMake0, pNone, pSome, eSl, eSl3, sAsg, sExpr, sRet, sIf, sNil, sPar, sPar3, sAug, sPut, sPuts, bindP, bindPs, wipeE_nil, wipeE_cons, startE_eq, List.replicate, List.length_cons, List.length_nil, List.length_append, oIsN, oIsNot, oSub, oLt, oLe, oGt, oAddI, Bool.false_eq_true, Bool.not_true, Bool.not_false, decide_true, decide_false, reduceIte, reduceCtorEq, Nat.reduceAdd, Nat.reduceSub, Nat.add_zero, Nat.zero_add, app_get, app_get0, app_set, app_set0, oEq_int, oNe_int, noLocL_nil, noLocL_cons, noLoc_non, noLoc_int, noLoc_bl, noLoc_str, noLoc_scr, noLoc_tup, noLoc_lst, noLoc_dic, noLoc_ins, noLocL_ints, Bool.and_self, Bool.and_true, Bool.true_and, and_self, isNonD, Nat.reduceLeDiff, Nat.reduceLT, Nat.reduceEqDiff, Int.reduceAdd, Int.reduceSub, Int.reduceLT, Int.reduceLE, Int.reduceEq, Int.reduceNeg, Int.reduceMod, Int.reduceToNat, v_fm, v_call, altOf_hd, altOf_tl, ixL0, ixL1, ixL2, ixT0, ixT1, ixT2, ixT3, ixT4, ixT5, add_int, len_lst, len_tup, fst_ok, mPop_end, noLoc_encB, ne_eq, not_true, not_false_eq_true, not_true_eq_false, mod_ok, div_ok, sto_assoc, sto_cons, sto_nil, set_int, app_int, app_bk, app_P, app_C, ne_pair, eq_pair, eq_self, List.getElem?_nil, ixB0, ixB1, ixB2, sl_map, ne_bl, eq_bl, sFld, pf_done]; first | done | exact rfl)
  rfl
theorem i_slabL {B : Bar} {m : Int} (o : OkBar B) (hm : 1 ≤ m ∧ m ≤ 3) {s : Sto} {a b c : Nat} (ha : s[a]? = some (.lst (B.p.map .int))) (hb : s[b]? = some (.lst (B.q.map .int))) (hc : s[c]? = some (.lst (B.nuts.map encC))) : T_Slab___init__ [.loc s.length, .tup [.loc a, .loc b, .loc c], .int m] (s ++ [.ins 5 [] []]) = .ok .non (s ++ slabL s.length B m) := by
  obtain ⟨e, s', h, rfl⟩ := i_slabL_aux o hm ha hb hc (e_whole B)
  exact runT_nx rfl h
theorem mk_slab {B : Bar} {m : Int} (o : OkBar B) (hm : 1 ≤ m ∧ m ≤ 3) {t : AM} {env : Env} {sto s : Sto} (ht : t env sto = .ok [encB tg B, .int m] s) : eMake 5 T_Slab___init__ t env sto = .ok (.loc s.length) (s ++ slabL s.length B m) := by
  simp only [eMake, ht, Res.bind_ok]
  rw [i_slab o hm]
  rfl
end BB
namespace BB
open PySem L2
theorem e_spent (S : Sl) : G_Slab_spent [slabI S] = .ok (.int S.paid) := by
  refine runP_rt (sto := []) (d := .int S.paid) rfl ?_ (by simp)
  rfl
theorem e_plan (S : Sl) : G_Slab_plan [slabI S] = .ok (.lst (S.done.map encBk)) := by
  refine runP_rt (sto := []) (d := .lst (S.done.map encBk)) rfl ?_ (by simp)
  rfl
theorem e_piecesS (S : Sl) : G_Slab_pieces [slabI S] = .ok (.lst (S.Ps.map encP)) := by
  refine runP_rt (sto := []) (d := .lst (S.Ps.map encP)) rfl ?_ (by simp)
  rfl
end BB
namespace BB
open PySem L2
/-- a loop that tells the first thing that is so -/
theorem runL_find {β : Type} {p : Pat} {ws : List Nat} {body : SM} {enc : β → DV} {E : Env} {s : Sto} {c : β → Bool} {D : β → DV} : ∀ ys : List β, (∀ y ∈ ys, ∃ e1, bindP p (enc y) E = some e1 ∧ (c y = false → ∃ e2, body e1 s = .nx e2 s ∧ wipeE e2 ws = E) ∧ (c y = true → body e1 s = .rt (D y) s)) →
    runL p ws body (ys.map enc) E s = match ys.find? c with
      | some y => .rt (D y) s
      | none => .nx E s
  | [], _ => by simp [runL]
  | y :: ys, h => by
    obtain ⟨e1, h1, h2, h3⟩ := h y (by simp)
    have ih := runL_find (c := c) (D := D) ys fun z hz => h z (by simp [hz])
    cases hc : c y with
    | true => simp only [List.map_cons, runL, h1, h3 hc, List.find?_cons, hc]
    | false =>
      obtain ⟨e2, h4, h5⟩ := h2 hc
      simp only [List.map_cons, runL, h1, h4, h5, ih, List.find?_cons, hc]
def bestL (B : Bar) (m : Int) (P : Pc) : Option (Int × Int) := (linesD P).find? fun y => decide ((cw B m P).1 = gC B m P y)
def helpC (B : Bar) (m : Int) (P : Pc) : Bool := decide (m < cnt B P) && (bestL B m P).isSome
def bestD (B : Bar) (m : Int) (P : Pc) : Int × Int := (bestL B m P).getD (0, 0)
def helpP (S : Sl) : Option Pc := S.Ps.find? (helpC S.B S.m)
def helpD (S : Sl) : DV := match helpP S with
  | some P => .tup [encP P, .int (bestD S.B S.m P).1, .int (bestD S.B S.m P).2]
  | none => .non
theorem e_help {S : Sl} (o : OkS S) : G_Slab_helpful [slabI S] = .ok (helpD S) := by
  have hpl := o.b.pl
  have hql := o.b.ql
  have hcl : clean (helpD S) = true := by
    unfold helpD
    split <;> simp
  refine runP_rt (sto := []) (d := helpD S) rfl ?_ hcl
  unfold m_Slab_helpful
  rw [show startE N_Slab_helpful [slabI S] = [some (slabI S), none, none, none, none, none, none] from rfl]
  have hc := e_costs (tg := (true, true, false)) S.B S.m o.b.pl o.b.ql o.b.nl
  have h1 : sAsg (.nm 1) (eIx (eCall G_costs_of (aCons (eFld clsF "bar" (eVar 0)) (aCons (eFld clsF "most" (eVar 0)) aNil))) (eC (.int 0))) [some (slabI S), none, none, none, none, none, none] [] = .nx [some (slabI S), some (dC' S.B S.m), none, none, none, none, none] [] := by
    simp only [v_seq, seq_nx, seq_rt, v_meth, bind0_ok, v_lift, v_lend0, v_lend1, consO_some, v_lendD, Res.bind_ok, Res.out_ok, List.getElem?_cons_zero, List.getElem?_cons_succ, List.set_cons_zero, List.set_cons_succ, eVar, eC, eOp, eUn, uNeg, eIx, aNil, aCons, eTup, eLst, eDicF, newL, eCB, eCallT, eAnd, eOr, eNot, eIf, tBl, tNot, tAnd, tOr, eFld, eBM, mAppend, eMake0, pNone, pSome, eSl, eSl3, sAsg, sExpr, sRet, sIf, sNil, sPar, sPar3, sAug, sPut, sPuts, bindP, bindPs, wipeE_nil, wipeE_cons, startE_eq, List.replicate, List.length_cons, List.length_nil, List.length_append, oIsN, oIsNot, oSub, oLt, oLe, oGt, oAddI, Bool.false_eq_true, Bool.not_true, Bool.not_false, decide_true, decide_false, reduceIte, reduceCtorEq, Nat.reduceAdd, Nat.reduceSub, Nat.add_zero, Nat.zero_add, app_get, app_get0, app_set, app_set0, oEq_int, oNe_int, noLocL_nil, noLocL_cons, noLoc_non, noLoc_int, noLoc_bl, noLoc_str, noLoc_scr, noLoc_tup, noLoc_lst, noLoc_dic, noLoc_ins, noLocL_ints, Bool.and_self, Bool.and_true, Bool.true_and, and_self, isNonD, Nat.reduceLeDiff, Nat.reduceLT, Nat.reduceEqDiff, Int.reduceAdd, Int.reduceSub, Int.reduceLT, Int.reduceLE, Int.reduceEq, Int.reduceNeg, Int.reduceMod, Int.reduceToNat, v_fm, v_call, altOf_hd, altOf_tl, ixL0, ixL1, ixL2, ixT0, ixT1, ixT2, ixT3, ixT4, ixT5, add_int, len_lst, len_tup, fst_ok, mPop_end, noLoc_encB, ne_eq, not_true, not_false_eq_true, not_true_eq_false, mod_ok, div_ok, sto_assoc, sto_cons, sto_nil, set_int, app_int, app_bk, app_P, app_C, ne_pair, eq_pair, eq_self, List.getElem?_nil, ixB0, ixB1, ixB2, sl_map, ne_bl, eq_bl, si_bar, si_most, hc]
    rfl
  rw [sSeq_nx h1]
  have key : sFor (iSeq (eFld clsF "parts" (eVar 0))) (.nm 2) [2, 3, 4, 5, 6] (sIf (tBl (eOp oGt (eCall G_nuts_in (aCons (eFld clsF "bar" (eVar 0)) (aCons (eVar 2) aNil))) (eFld clsF "most" (eVar 0)))) (sFor (iSeq (eCall G_lines_in (aCons (eVar 2) aNil))) (.tp [(.nm 3), (.nm 4)]) [3, 4, 5, 6] (sSeq (sAsg (.tp [(.nm 5), (.nm 6)]) (eCall G_parts_of (aCons (eVar 2) (aCons (eVar 3) (aCons (eVar 4) aNil)))))
    (sIf (tBl (eOp oEq (eIx (eVar 1) (eVar 2)) (eOp (oAdd false) (eOp (oAdd false) (eCall G_price_of (aCons (eFld clsF "bar" (eVar 0)) (aCons (eVar 3) (aCons (eVar 4) aNil)))) (eIx (eVar 1) (eVar 5))) (eIx (eVar 1) (eVar 6))))) (sRet (eTup (aCons (eVar 2) (aCons (eVar 3) (aCons (eVar 4) aNil))))) sNil))) sNil) [some (slabI S), some (dC' S.B S.m), none, none, none, none, none] [] = match helpP S with
      | some P => .rt (.tup [encP P, .int (bestD S.B S.m P).1, .int (bestD S.B S.m P).2]) []
      | none => .nx [some (slabI S), some (dC' S.B S.m), none, none, none, none, none] [] := by
    rw [sFor_fix (xs := S.Ps.map encP) (s := []) (iSeq_lst (gg := false) rfl)]
    rw [show wipeE [some (slabI S), some (dC' S.B S.m), none, none, none, none, none] [2, 3, 4, 5, 6] = [some (slabI S), some (dC' S.B S.m), none, none, none, none, none] from rfl]
    refine Eq.trans (runL_find (p := .nm 2) (ws := [2, 3, 4, 5, 6]) (enc := encP) (E := [some (slabI S), some (dC' S.B S.m), none, none, none, none, none]) (s := []) (c := helpC S.B S.m) (D := fun P => .tup [encP P, .int (bestD S.B S.m P).1, .int (bestD S.B S.m P).2]) S.Ps fun P hP => ⟨[some (slabI S), some (dC' S.B S.m), some (encP P), none, none, none, none], rfl, ?_⟩) (by unfold helpP; cases S.Ps.find? (helpC S.B S.m) <;> rfl)
    have hpm := o.ps.mem P hP
    have hnu := e_nuts (tg := (true, true, false)) S.B P o.b.nl
    have ht : tBl (eOp oGt (eCall G_nuts_in (aCons (eFld clsF "bar" (eVar 0)) (aCons (eVar 2) aNil))) (eFld clsF "most" (eVar 0))) [some (slabI S), some (dC' S.B S.m), some (encP P), none, none, none, none] [] = .ok (decide (S.m < cnt S.B P)) [] := by
      simp only [v_seq, seq_nx, seq_rt, v_meth, bind0_ok, v_lift, v_lend0, v_lend1, consO_some, v_lendD, Res.bind_ok, Res.out_ok, List.getElem?_cons_zero, List.getElem?_cons_succ, List.set_cons_zero, List.set_cons_succ, eVar, eC, eOp, eUn, uNeg, eIx, aNil, aCons, eTup, eLst, eDicF, newL, eCB, eCallT, eAnd, eOr, eNot, eIf, tBl, tNot, tAnd, tOr, eFld, eBM, mAppend, eMake0, pNone, pSome, eSl, eSl3, sAsg, sExpr, sRet, sIf, sNil, sPar, sPar3, sAug, sPut, sPuts, bindP, bindPs, wipeE_nil, wipeE_cons, startE_eq, List.replicate, List.length_cons, List.length_nil, List.length_append, oIsN, oIsNot, oSub, oLt, oLe, oGt, oAddI, Bool.false_eq_true, Bool.not_true, Bool.not_false, decide_true, decide_false, reduceIte, reduceCtorEq, Nat.reduceAdd, Nat.reduceSub, Nat.add_zero, Nat.zero_add, app_get, app_get0, app_set, app_set0, oEq_int, oNe_int, noLocL_nil, noLocL_cons, noLoc_non, noLoc_int, noLoc_bl, noLoc_str, noLoc_scr, noLoc_tup, noLoc_lst, noLoc_dic, noLoc_ins, noLocL_ints, Bool.and_self, Bool.and_true, Bool.true_and, and_self, isNonD, Nat.reduceLeDiff, Nat.reduceLT, Nat.reduceEqDiff, Int.reduceAdd, Int.reduceSub, Int.reduceLT, Int.reduceLE, Int.reduceEq, Int.reduceNeg, Int.reduceMod, Int.reduceToNat, v_fm, v_call, altOf_hd, altOf_tl, ixL0, ixL1, ixL2, ixT0, ixT1, ixT2, ixT3, ixT4, ixT5, add_int, len_lst, len_tup, fst_ok, mPop_end, noLoc_encB, ne_eq, not_true, not_false_eq_true, not_true_eq_false, mod_ok, div_ok, sto_assoc, sto_cons, sto_nil, set_int, app_int, app_bk, app_P, app_C, ne_pair, eq_pair, eq_self, List.getElem?_nil, ixB0, ixB1, ixB2, sl_map, ne_bl, eq_bl, si_bar, si_most, hnu, noLoc_encP]
    rw [sIf_ok ht]
    by_cases hcn : S.m < cnt S.B P
    rotate_left
    · refine ⟨fun _ => ⟨[some (slabI S), some (dC' S.B S.m), some (encP P), none, none, none, none], ?_, rfl⟩, fun h => ?_⟩
      · simp [hcn, sNil]
      · simp [helpC, hcn] at h
    rw [decide_eq_true hcn]
    simp only [if_true]
    have hli := e_lines P (small_of (by omega) (by omega) hpm)
    rw [sFor_fix (iSeq_lst (eCall_ok (a1_ok (d := encP P) (s1 := []) rfl) (by simp) hli))]
    rw [show wipeE [some (slabI S), some (dC' S.B S.m), some (encP P), none, none, none, none] [3, 4, 5, 6] = [some (slabI S), some (dC' S.B S.m), some (encP P), none, none, none, none] from rfl]
    rw [runL_find (E := [some (slabI S), some (dC' S.B S.m), some (encP P), none, none, none, none]) (s := []) (c := fun y => decide ((cw S.B S.m P).1 = gC S.B S.m P y)) (D := fun y => .tup [encP P, .int y.1, .int y.2]) (linesD P) fun y hy => ⟨[some (slabI S), some (dC' S.B S.m), some (encP P), some (.int y.1), some (.int y.2), none, none], rfl, by
      have hpt := part_mem hpm hy
      have hlo := line_ok hpm hy
      have hpa := e_parts P y.1 y.2
      have hpr := e_price (tg := (true, true, false)) S.B y.1 y.2 hlo.1 hlo.2
      have hrun : (sSeq (sAsg (.tp [(.nm 5), (.nm 6)]) (eCall G_parts_of (aCons (eVar 2) (aCons (eVar 3) (aCons (eVar 4) aNil)))))
    (sIf (tBl (eOp oEq (eIx (eVar 1) (eVar 2)) (eOp (oAdd false) (eOp (oAdd false) (eCall G_price_of (aCons (eFld clsF "bar" (eVar 0)) (aCons (eVar 3) (aCons (eVar 4) aNil)))) (eIx (eVar 1) (eVar 5))) (eIx (eVar 1) (eVar 6))))) (sRet (eTup (aCons (eVar 2) (aCons (eVar 3) (aCons (eVar 4) aNil))))) sNil)) [some (slabI S), some (dC' S.B S.m), some (encP P), some (.int y.1), some (.int y.2), none, none] [] = if (cw S.B S.m P).1 = gC S.B S.m P y then .rt (.tup [encP P, .int y.1, .int y.2]) [] else .nx [some (slabI S), some (dC' S.B S.m), some (encP P), some (.int y.1), some (.int y.2), some (encP (part1 P y.1 y.2)), some (encP (part2 P y.1 y.2))] [] := by
        by_cases hg : (cw S.B S.m P).1 = gC S.B S.m P y
        · rw [if_pos hg]
          unfold gC at hg
          simp only [v_seq, seq_nx, seq_rt, v_meth, bind0_ok, v_lift, v_lend0, v_lend1, consO_some, v_lendD, Res.bind_ok, Res.out_ok, List.getElem?_cons_zero, List.getElem?_cons_succ, List.set_cons_zero, List.set_cons_succ, eVar, eC, eOp, eUn, uNeg, eIx, aNil, aCons, eTup, eLst, eDicF, newL, eCB, eCallT, eAnd, eOr, eNot, eIf, tBl, tNot, tAnd, tOr, eFld, eBM, mAppend, eMake0, pNone, pSome, eSl, eSl3, sAsg, sExpr, sRet, sIf, sNil, sPar, sPar3, sAug, sPut, sPuts, bindP, bindPs, wipeE_nil, wipeE_cons, startE_eq, List.replicate, List.length_cons, List.length_nil, List.length_append, oIsN, oIsNot, oSub, oLt, oLe, oGt, oAddI, Bool.false_eq_true, Bool.not_true, Bool.not_false, decide_true, decide_false, reduceIte, reduceCtorEq, Nat.reduceAdd, Nat.reduceSub, Nat.add_zero, Nat.zero_add, app_get, app_get0, app_set, app_set0, oEq_int, oNe_int, noLocL_nil, noLocL_cons, noLoc_non, noLoc_int, noLoc_bl, noLoc_str, noLoc_scr, noLoc_tup, noLoc_lst, noLoc_dic, noLoc_ins, noLocL_ints, Bool.and_self, Bool.and_true, Bool.true_and, and_self, isNonD, Nat.reduceLeDiff, Nat.reduceLT, Nat.reduceEqDiff, Int.reduceAdd, Int.reduceSub, Int.reduceLT, Int.reduceLE, Int.reduceEq, Int.reduceNeg, Int.reduceMod, Int.reduceToNat, v_fm, v_call, altOf_hd, altOf_tl, ixL0, ixL1, ixL2, ixT0, ixT1, ixT2, ixT3, ixT4, ixT5, add_int, len_lst, len_tup, fst_ok, mPop_end, noLoc_encB, ne_eq, not_true, not_false_eq_true, not_true_eq_false, mod_ok, div_ok, sto_assoc, sto_cons, sto_nil, set_int, app_int, app_bk, app_P, app_C, ne_pair, eq_pair, eq_self, List.getElem?_nil, ixB0, ixB1, ixB2, sl_map, ne_bl, eq_bl, hpa, hpr, si_bar, noLoc_encP, ix_dC hpm, ix_dC hpt.1, ix_dC hpt.2, hg]
        · rw [if_neg hg]
          unfold gC at hg
          simp only [v_seq, seq_nx, seq_rt, v_meth, bind0_ok, v_lift, v_lend0, v_lend1, consO_some, v_lendD, Res.bind_ok, Res.out_ok, List.getElem?_cons_zero, List.getElem?_cons_succ, List.set_cons_zero, List.set_cons_succ, eVar, eC, eOp, eUn, uNeg, eIx, aNil, aCons, eTup, eLst, eDicF, newL, eCB, eCallT, eAnd, eOr, eNot, eIf, tBl, tNot, tAnd, tOr, eFld, eBM, mAppend, eMake0, pNone, pSome, eSl, eSl3, sAsg, sExpr, sRet, sIf, sNil, sPar, sPar3, sAug, sPut, sPuts, bindP, bindPs, wipeE_nil, wipeE_cons, startE_eq, List.replicate, List.length_cons, List.length_nil, List.length_append, oIsN, oIsNot, oSub, oLt, oLe, oGt, oAddI, Bool.false_eq_true, Bool.not_true, Bool.not_false, decide_true, decide_false, reduceIte, reduceCtorEq, Nat.reduceAdd, Nat.reduceSub, Nat.add_zero, Nat.zero_add, app_get, app_get0, app_set, app_set0, oEq_int, oNe_int, noLocL_nil, noLocL_cons, noLoc_non, noLoc_int, noLoc_bl, noLoc_str, noLoc_scr, noLoc_tup, noLoc_lst, noLoc_dic, noLoc_ins, noLocL_ints, Bool.and_self, Bool.and_true, Bool.true_and, and_self, isNonD, Nat.reduceLeDiff, Nat.reduceLT, Nat.reduceEqDiff, Int.reduceAdd, Int.reduceSub, Int.reduceLT, Int.reduceLE, Int.reduceEq, Int.reduceNeg, Int.reduceMod, Int.reduceToNat, v_fm, v_call, altOf_hd, altOf_tl, ixL0, ixL1, ixL2, ixT0, ixT1, ixT2, ixT3, ixT4, ixT5, add_int, len_lst, len_tup, fst_ok, mPop_end, noLoc_encB, ne_eq, not_true, not_false_eq_true, not_true_eq_false, mod_ok, div_ok, sto_assoc, sto_cons, sto_nil, set_int, app_int, app_bk, app_P, app_C, ne_pair, eq_pair, eq_self, List.getElem?_nil, ixB0, ixB1, ixB2, sl_map, ne_bl, eq_bl, hpa, hpr, si_bar, noLoc_encP, ix_dC hpm, ix_dC hpt.1, ix_dC hpt.2, hg]
      rw [hrun]
      refine ⟨fun hk => ⟨_, by rw [if_neg (by simpa using hk)], rfl⟩, fun hk => by rw [if_pos (by simpa using hk)]⟩⟩]
    show _ ∧ _
    unfold helpC bestD bestL
    cases hf : (linesD P).find? fun y => decide ((cw S.B S.m P).1 = gC S.B S.m P y) with
    | none => exact ⟨fun _ => ⟨_, rfl, rfl⟩, fun h => by simp at h⟩
    | some y => exact ⟨fun h => by simp [hcn] at h, fun _ => rfl⟩
  unfold helpD
  cases hh : helpP S with
  | none =>
    rw [hh] at key
    rw [sSeq_nx key]
    rfl
  | some P =>
    rw [hh] at key
    rw [sSeq_rt key]
/-! what a helpful break is -/
theorem best_some {B : Bar} (o : OkBar B) {m : Int} (hm : 1 ≤ m) {P : Pc} (hP : P ∈ allP B) (hc : m < cnt B P) : ∃ y, bestL B m P = some y ∧ y ∈ linesD P ∧ (cw B m P).1 = gC B m P y := by
  obtain ⟨y, hy, e⟩ := cw_ex o hm hP hc
  cases hf : bestL B m P with
  | none =>
    have := List.find?_eq_none.mp hf y hy
    simp [e] at this
  | some z =>
    have h1 := List.find?_some hf
    have h2 := List.mem_of_find?_eq_some hf
    exact ⟨z, rfl, h2, by simpa using h1⟩
theorem help_none {S : Sl} (o : OkS S) (h : helpP S = none) : ∀ P ∈ S.Ps, cnt S.B P ≤ S.m := by
  intro P hP
  have := List.find?_eq_none.mp h P hP
  by_cases hc : S.m < cnt S.B P
  · obtain ⟨y, e, _⟩ := best_some o.b o.m.1 (o.ps.mem P hP) hc
    simp [helpC, hc, e] at this
  · omega
theorem help_some {S : Sl} (o : OkS S) {P : Pc} (h : helpP S = some P) : P ∈ S.Ps ∧ S.m < cnt S.B P ∧ bestD S.B S.m P ∈ linesD P ∧ (cw S.B S.m P).1 = gC S.B S.m P (bestD S.B S.m P) := by
  have h1 := List.find?_some h
  have h2 := List.mem_of_find?_eq_some h
  simp only [helpC, Bool.and_eq_true, decide_eq_true_eq] at h1
  obtain ⟨y, e, hy, hg⟩ := best_some o.b o.m.1 (o.ps.mem P h2) h1.1
  unfold bestD
  rw [e]
  exact ⟨h2, h1.1, hy, hg⟩
theorem owed_pos {S : Sl} (o : OkS S) : costs S.B S.m S.Ps = 0 ↔ helpP S = none := by
  constructor
  · intro h
    cases hh : helpP S with
    | none => rfl
    | some P =>
      exfalso
      obtain ⟨h1, h2, h3, h4⟩ := help_some o hh
      have hpm := o.ps.mem P h1
      have h5 := gC_nonneg o.b o.m.1 hpm h3
      have h6 : ∀ Q ∈ S.Ps, 0 ≤ (cw S.B S.m Q).1 := fun Q hQ => cost_nonneg o.b o.m.1 Q (o.ps.mem Q hQ)
      have h7 : (cw S.B S.m P).1 ≤ costs S.B S.m S.Ps := by
        unfold costs
        clear h hh o hpm h2 h3 h4 h5
        generalize S.Ps = xs at *
        induction xs with
        | nil => cases h1
        | cons x xs ih =>
          rw [List.map_cons, List.sum_cons]
          have hx := h6 x (by simp)
          have hs : 0 ≤ (xs.map fun P => (cw S.B S.m P).1).sum := by
            have : ∀ z ∈ xs, 0 ≤ (cw S.B S.m z).1 := fun z hz => h6 z (by simp [hz])
            clear ih h6 h1
            induction xs with
            | nil => simp
            | cons y ys ih2 =>
              rw [List.map_cons, List.sum_cons]
              have := ih2 fun z hz => this z (by simp [hz])
              have := ‹∀ z ∈ y :: ys, 0 ≤ (cw S.B S.m z).1› y (by simp)
              omega
          rcases List.mem_cons.mp h1 with rfl | h1
          · omega
          · have := ih h1 (fun Q hQ => h6 Q (by simp [hQ]))
            omega
      omega
  · intro h
    exact costs_zero (help_none o h)
theorem help_owed {S : Sl} (o : OkS S) {P : Pc} (h : helpP S = some P) : costs S.B S.m (brk S.Ps ⟨P, (bestD S.B S.m P).1, (bestD S.B S.m P).2⟩) = costs S.B S.m S.Ps - price S.B (bestD S.B S.m P).1 (bestD S.B S.m P).2 := by
  obtain ⟨h1, h2, h3, h4⟩ := help_some o h
  have := costs_brk (m := S.m) o.ps (k := ⟨P, (bestD S.B S.m P).1, (bestD S.B S.m P).2⟩) h1
  simp only at this
  unfold gC at h4
  omega
end BB
namespace BB
open PySem L2
theorem e_barnow (S : Sl) : G_Slab_bar_now [slabI S] = .ok (encB ff S.B) := by
  refine runP_rt (sto := []) (d := encB ff S.B) rfl ?_ (by simp [encB])
  rfl
end BB
namespace BB
open PySem L2
/-! sorted lists by hand -/
theorem lePc_anti {a b : Pc} (h1 : lePc a b = true) (h2 : lePc b a = true) : a = b := by
  unfold lePc PySem.W.dataLe PySem.W.sortLe at h1 h2
  simp only [cond_false, enc_P, Bool.not_eq_true'] at h1 h2
  have h := PyProof.Rows.lex_total _ _ h2 h1
  simp only [PySem.W.keyToks, PySem.W.keyToksAll, List.cons_append, List.nil_append, List.cons.injEq, Sum.inl.injEq, and_true, true_and] at h
  obtain ⟨al, at', ar, ab⟩ := a
  obtain ⟨bl, bt, br, bb⟩ := b
  simp only at h
  obtain ⟨rfl, rfl, rfl, rfl⟩ := h
  rfl
theorem sortP_eq {xs ys : List Pc} (hp : ys.Perm xs) (hs : ys.Pairwise (fun a b => lePc a b = true)) : xs.mergeSort lePc = ys := by
  have srt : (xs.mergeSort lePc).Pairwise (fun a b => lePc a b = true) :=
    PySem.W.sort_pairwise (le := lePc) ⟨fun a b c => (PySem.W.sortLe_total (PyProof.Rows.listOrd PyProof.Rows.itemOrd) false fun d => PySem.W.keyToks (encD (encP d))).trans a b c, fun a b => (PySem.W.sortLe_total (PyProof.Rows.listOrd PyProof.Rows.itemOrd) false fun d => PySem.W.keyToks (encD (encP d))).total a b⟩ xs
  exact List.Perm.eq_of_pairwise (fun a b _ _ h1 h2 => lePc_anti h1 h2) srt hs ((List.mergeSort_perm _ _).trans hp.symm)
theorem brk_eq {Ps L : List Pc} {k : Bk} (hp : L.Perm (Ps.filter (fun P => !decide (P = k.P)) ++ [part1 k.P k.w k.x, part2 k.P k.w k.x])) (hs : L.Pairwise (fun a b => lePc a b = true)) : brk Ps k = L := sortP_eq hp hs
theorem leC_anti {a b : Int × Int} (h1 : leC a b = true) (h2 : leC b a = true) : a = b := by
  have h1 := leC_le h1
  have h2 := leC_le h2
  exact Prod.ext (by omega) (by omega)
theorem sortC_eq {xs ys : List (Int × Int)} (hp : ys.Perm xs) (hs : ys.Pairwise (fun a b => leC a b = true)) : sortC xs = ys :=
  List.Perm.eq_of_pairwise (fun a b _ _ h1 h2 => leC_anti h1 h2) (sortC_le xs) hs ((sortC_perm xs).trans hp.symm)
theorem tst1 : sortC [(0, 0), (2, 1), (0, 1)] = [(0, 0), (0, 1), (2, 1)] := sortC_eq (by decide) (by decide +kernel)
theorem tst2 : brk [⟨0, 0, 1, 2⟩, ⟨1, 0, 3, 2⟩] ⟨⟨0, 0, 1, 2⟩, 1, 1⟩ = [⟨0, 0, 1, 1⟩, ⟨0, 1, 1, 2⟩, ⟨1, 0, 3, 2⟩] := brk_eq (by decide) (by decide +kernel)
end BB
namespace BB
open PySem L2
def B0 : Bar := ⟨[1, 2], [3], [(0, 0), (2, 1)]⟩
theorem okB0 : OkBar B0 := ⟨by simp [B0], by simp [B0], by simp [B0], by simp [B0], by simp [B0], by simp [B0], by simp [B0, ltC]⟩
abbrev N1 : List (Int × Int) := [(0, 0), (0, 1), (2, 1)]
def Sa : Sl := ⟨B0, 1, [⟨0, 0, 3, 2⟩], 0, []⟩
def Sb : Sl := ⟨B0, 1, [⟨0, 0, 1, 2⟩, ⟨1, 0, 3, 2⟩], 1, [⟨⟨0, 0, 3, 2⟩, 0, 1⟩]⟩
def Sc : Sl := ⟨⟨[1, 2], [3], N1⟩, 1, [⟨0, 0, 1, 2⟩, ⟨1, 0, 3, 2⟩], 1, [⟨⟨0, 0, 3, 2⟩, 0, 1⟩]⟩
def Sd : Sl := ⟨⟨[1, 2], [9], N1⟩, 1, [⟨0, 0, 1, 2⟩, ⟨1, 0, 3, 2⟩], 1, [⟨⟨0, 0, 3, 2⟩, 0, 1⟩]⟩
def Se : Sl := ⟨⟨[1, 2], [9], N1⟩, 1, [⟨0, 0, 1, 1⟩, ⟨0, 1, 1, 2⟩, ⟨1, 0, 3, 2⟩], 10, [⟨⟨0, 0, 3, 2⟩, 0, 1⟩, ⟨⟨0, 0, 1, 2⟩, 1, 1⟩]⟩
def Sf : Sl := ⟨⟨[1, 2], [9], N1⟩, 1, [⟨0, 0, 1, 1⟩, ⟨0, 1, 1, 2⟩, ⟨1, 0, 3, 1⟩, ⟨1, 1, 3, 2⟩], 19, [⟨⟨0, 0, 3, 2⟩, 0, 1⟩, ⟨⟨0, 0, 1, 2⟩, 1, 1⟩, ⟨⟨1, 0, 3, 2⟩, 1, 1⟩]⟩
def Sg : Sl := ⟨⟨[1, 2], [9], [(0, 0), (0, 1), (1, 0), (2, 1)]⟩, 1, Sf.Ps, 19, Sf.done⟩
def Sh : Sl := ⟨⟨[1, 2], [9], [(0, 0), (0, 1), (1, 0), (2, 0), (2, 1)]⟩, 1, Sf.Ps, 19, Sf.done⟩
theorem bb : brk Sa.Ps ⟨⟨0, 0, 3, 2⟩, 0, 1⟩ = Sb.Ps := brk_eq (by decide) (by decide +kernel)
theorem be : brk Sd.Ps ⟨⟨0, 0, 1, 2⟩, 1, 1⟩ = Se.Ps := brk_eq (by decide) (by decide +kernel)
theorem bf : brk Se.Ps ⟨⟨1, 0, 3, 2⟩, 1, 1⟩ = Sf.Ps := brk_eq (by decide) (by decide +kernel)
theorem nc : nutB Sb.B (0, 1) = Sc.B := by
  unfold nutB
  rw [sortC_eq (ys := N1) (by decide) (by decide +kernel)]
  rfl
theorem ng : nutB Sf.B (1, 0) = Sg.B := by
  unfold nutB
  rw [sortC_eq (ys := [(0, 0), (0, 1), (1, 0), (2, 1)]) (by decide) (by decide +kernel)]
  rfl
theorem nh : nutB Sg.B (2, 0) = Sh.B := by
  unfold nutB
  rw [sortC_eq (ys := [(0, 0), (0, 1), (1, 0), (2, 0), (2, 1)]) (by decide) (by decide +kernel)]
  rfl
theorem eSb : snapS Sa ⟨⟨0, 0, 3, 2⟩, 0, 1⟩ = Sb := by unfold snapS; rw [bb]; rfl
theorem eSc : nutS Sb (0, 1) = Sc := by unfold nutS; rw [nc]; rfl
theorem eSe : snapS Sd ⟨⟨0, 0, 1, 2⟩, 1, 1⟩ = Se := by unfold snapS; rw [be]; rfl
theorem eSf : snapS Se ⟨⟨1, 0, 3, 2⟩, 1, 1⟩ = Sf := by unfold snapS; rw [bf]; rfl
theorem eSg : nutS Sf (1, 0) = Sg := by unfold nutS; rw [ng]; rfl
theorem eSh : nutS Sg (2, 0) = Sh := by unfold nutS; rw [nh]; rfl
theorem okSa : OkS Sa := new_ok okB0 (by omega)
theorem okSb : OkS Sb := eSb ▸ snap_ok okSa (by decide +kernel)
theorem okSc : OkS Sc := eSc ▸ nut_ok okSb (by decide) (by decide)
theorem okSd : OkS Sd := set_ok (w := 1) (x := 1) (v := 9) okSc (by omega)
theorem okSe : OkS Se := eSe ▸ snap_ok okSd (by decide +kernel)
theorem okSf : OkS Sf := eSf ▸ snap_ok okSe (by decide +kernel)
theorem okSg : OkS Sg := eSg ▸ nut_ok okSf (by decide) (by decide)
theorem okSh : OkS Sh := eSh ▸ nut_ok okSg (by decide) (by decide)
theorem cosS : costs Sb.B 1 Sb.Ps = 0 ∧ costs Sc.B 1 Sc.Ps = 3 ∧ costs Sd.B 1 Sd.Ps = 9 ∧ costs Se.B 1 Se.Ps = 0 ∧ costs Sf.B 1 Sf.Ps = 0 ∧ costs Sg.B 1 Sg.Ps = 0 ∧ costs Sh.B 1 Sh.Ps = 2 := by decide +kernel
def stateD (S : Sl) : DV := .lst [.lst (S.Ps.map encP), .lst (S.done.map encBk), .int S.paid, .int (costs S.B S.m S.Ps), encB ff S.B, helpD S]
theorem e_state {S : Sl} (o : OkS S) (hc : clean (helpD S) = true) : G__law_state [slabI S] = .ok (stateD S) := by
  have hns := ns_slab
  have hi : ∀ s, insOf s (slabI S) = some (5, slabN, [encB (true, true, false) S.B, .int S.m, .lst (S.Ps.map encP), .int S.paid, .lstG true (S.done.map encBk)]) := fun s => rfl
  have hl : ∀ s, lendD s (slabI S) = some (slabI S) := fun s => v_lendD (by simp [slabI])
  refine runP_rt (sto := []) (d := stateD S) rfl ?_ (by simp [stateD, hc, encB, ff])
  unfold m__law_state
  rw [show startE N__law_state [slabI S] = [some (slabI S)] from rfl]
  simp only [v_seq, seq_nx, seq_rt, v_meth, bind0_ok, v_lift, v_lend0, v_lend1, consO_some, v_lendD, Res.bind_ok, Res.out_ok, List.getElem?_cons_zero, List.getElem?_cons_succ, List.set_cons_zero, List.set_cons_succ, eVar, eC, eOp, eUn, uNeg, eIx, aNil, aCons, eTup, eLst, eDicF, newL, eCB, eCallT, eAnd, eOr, eNot, eIf, tBl, tNot, tAnd, tOr, eFld, eBM, mAppend, eMake0, pNone, pSome, eSl, eSl3, sAsg, sExpr, sRet, sIf, sNil, sPar, sPar3, sAug, sPut, sPuts, bindP, bindPs, wipeE_nil, wipeE_cons, startE_eq, List.replicate, List.length_cons, List.length_nil, List.length_append, oIsN, oIsNot, oSub, oLt, oLe, oGt, oAddI, Bool.false_eq_true, Bool.not_true, Bool.not_false, decide_true, decide_false, reduceIte, reduceCtorEq, Nat.reduceAdd, Nat.reduceSub, Nat.add_zero, Nat.zero_add, app_get, app_get0, app_set, app_set0, oEq_int, oNe_int, noLocL_nil, noLocL_cons, noLoc_non, noLoc_int, noLoc_bl, noLoc_str, noLoc_scr, noLoc_tup, noLoc_lst, noLoc_dic, noLoc_ins, noLocL_ints, Bool.and_self, Bool.and_true, Bool.true_and, and_self, isNonD, Nat.reduceLeDiff, Nat.reduceLT, Nat.reduceEqDiff, Int.reduceAdd, Int.reduceSub, Int.reduceLT, Int.reduceLE, Int.reduceEq, Int.reduceNeg, Int.reduceMod, Int.reduceToNat, v_fm, v_call, altOf_hd, altOf_tl, ixL0, ixL1, ixL2, ixT0, ixT1, ixT2, ixT3, ixT4, ixT5, add_int, len_lst, len_tup, fst_ok, mPop_end, noLoc_encB, ne_eq, not_true, not_false_eq_true, not_true_eq_false, mod_ok, div_ok, sto_assoc, sto_cons, sto_nil, set_int, app_int, app_bk, app_P, app_C, ne_pair, eq_pair, eq_self, List.getElem?_nil, ixB0, ixB1, ixB2, sl_map, ne_bl, eq_bl, hi, hns.2.2.2.2.2.1, hns.2.2.2.2.2.2.2.1, hns.2.2.2.2.2.2.1, hns.1, hns.2.2.2.2.2.2.2.2, hns.2.2.2.2.1, hl, e_piecesS, e_plan, e_spent, e_owed o, e_barnow, e_help o]
  rfl
def SDc : DV := .lst [.lst [encP ⟨0, 0, 1, 2⟩, encP ⟨1, 0, 3, 2⟩], .lst [encBk ⟨⟨0, 0, 3, 2⟩, 0, 1⟩], .int 1, .int 3, encB ff ⟨[1, 2], [3], N1⟩, .tup [encP ⟨0, 0, 1, 2⟩, .int 1, .int 1]]
theorem help_Sc : helpD Sc = .tup [encP ⟨0, 0, 1, 2⟩, .int 1, .int 1] := by
  have h1 : helpP Sc = some ⟨0, 0, 1, 2⟩ := by decide +kernel
  have h2 : bestD Sc.B Sc.m ⟨0, 0, 1, 2⟩ = (1, 1) := by decide +kernel
  simp only [helpD, h1, h2]
theorem st_Sc : G__law_state [slabI Sc] = .ok SDc := by
  rw [e_state okSc (by rw [help_Sc]; rfl)]
  unfold stateD
  rw [help_Sc, show costs Sc.B Sc.m Sc.Ps = 3 from cosS.2.1]
  rfl
theorem ne_SDc (s : Sto) : oNe SDc SDc s = .ok (.bl false) s := rfl
theorem law_true : ∀ ns : List Int, ns.length ≤ 63 → G_law [.scr ns] = .ok (.bl true) := by
  intro ns hns63
  have main : Rt (m_law (startE N_law [.scr ns]) []) fun d s => d = .bl true := by
    unfold m_law
    rw [show startE N_law [.scr ns] = [some (.scr ns), none, none, none, none, none, none] from rfl]
    have hns := ns_slab
    have hcs := cosS
    refine rt_seq (Q := fun e s => e = [some (.scr ns), none, none, none, none, none, none]) (Nx.imp (nx_for (ws := [1, 2, 3, 4]) (enc := DV.int) (xs := ns.take 3 ++ [(ns.length : Int)]) (s := []) ?hi (fun _ e s => e = [some (.scr ns), none, none, none, none, none, none]) rfl ?_) (fun _ _ h => h)) ?_
    case hi =>
      have hsl : slD false (.scr ns) none (some 3) [] = .ok (.lst ((ns.take 3).map .int)) [] := by
        simp only [slD, newL, cutG_map]
        rw [cut_to (by omega)]
        simp
      have hle : fLen [.scr ns] [] = .ok (.int ns.length) [] := by simp [fLen, seqOf]
      have had : oAdd false (.lst ((ns.take 3).map .int)) (.lst [.int ns.length]) [] = .ok (.lst ((ns.take 3 ++ [(ns.length : Int)]).map .int)) [] := by
        rw [add_ls (by simp; omega)]; simp [newL]
      refine iSeq_lst (gg := false) ?_
      simp only [v_seq, seq_nx, seq_rt, v_meth, bind0_ok, v_lift, v_lend0, v_lend1, consO_some, v_lendD, Res.bind_ok, Res.out_ok, List.getElem?_cons_zero, List.getElem?_cons_succ, List.set_cons_zero, List.set_cons_succ, eVar, eC, eOp, eUn, uNeg, eIx, aNil, aCons, eTup, eLst, eDicF, newL, eCB, eCallT, eAnd, eOr, eNot, eIf, tBl, tNot, tAnd, tOr, eFld, eBM, mAppend, eMake0, pNone, pSome, eSl, eSl3, sAsg, sExpr, sRet, sIf, sNil, sPar, sPar3, sAug, sPut, sPuts, bindP, bindPs, wipeE_nil, wipeE_cons, startE_eq, List.replicate, List.length_cons, List.length_nil, List.length_append, oIsN, oIsNot, oSub, oLt, oLe, oGt, oAddI, Bool.false_eq_true, Bool.not_true, Bool.not_false, decide_true, decide_false, reduceIte, reduceCtorEq, Nat.reduceAdd, Nat.reduceSub, Nat.add_zero, Nat.zero_add, app_get, app_get0, app_set, app_set0, oEq_int, oNe_int, noLocL_nil, noLocL_cons, noLoc_non, noLoc_int, noLoc_bl, noLoc_str, noLoc_scr, noLoc_tup, noLoc_lst, noLoc_dic, noLoc_ins, noLocL_ints, Bool.and_self, Bool.and_true, Bool.true_and, and_self, isNonD, Nat.reduceLeDiff, Nat.reduceLT, Nat.reduceEqDiff, Int.reduceAdd, Int.reduceSub, Int.reduceLT, Int.reduceLE, Int.reduceEq, Int.reduceNeg, Int.reduceMod, Int.reduceToNat, v_fm, v_call, altOf_hd, altOf_tl, ixL0, ixL1, ixL2, ixT0, ixT1, ixT2, ixT3, ixT4, ixT5, add_int, len_lst, len_tup, fst_ok, mPop_end, noLoc_encB, ne_eq, not_true, not_false_eq_true, not_true_eq_false, mod_ok, div_ok, sto_assoc, sto_cons, sto_nil, set_int, app_int, app_bk, app_P, app_C, ne_pair, eq_pair, eq_self, List.getElem?_nil, ixB0, ixB1, ixB2, sl_map, ne_bl, eq_bl, hsl, hle, had]
    · rintro dn c rst _ s hd rfl
      refine ⟨[some (.scr ns), some (.int c), none, none, none, none, none], rfl, ?_⟩
      have hpw : ∀ s : Sto, oPow (.int 10) (.int 20) s = .ok (.int (10 ^ 20)) s := fun s => rfl
      have hab : ∀ s : Sto, fAbs [.int c] s = .ok (.int (if c < 0 then -c else c)) s := fun s => rfl
      have hbig : (0 : Int) < 10 ^ 20 := by decide
      (first | apply rt_go | apply nx_go); focus (simp only [v_seq, seq_nx, seq_rt, v_meth, bind0_ok, v_lift, v_lend0, v_lend1, consO_some, v_lendD, Res.bind_ok, Res.out_ok, List.getElem?_cons_zero, List.getElem?_cons_succ, List.set_cons_zero, List.set_cons_succ, eVar, eC, eOp, eUn, uNeg, eIx, aNil, aCons, eTup, eLst, eDicF, newL, eCB, eCallT, eAnd, eOr, eNot, eIf, tBl, tNot, tAnd, tOr, eFld, eBM, mAppend, eMake0, pNone, pSome, eSl, eSl3, sAsg, sExpr, sRet, sIf, sNil, sPar, sPar3, sAug, sPut, sPuts, bindP, bindPs, wipeE_nil, wipeE_cons, startE_eq, List.replicate, List.length_cons, List.length_nil, List.length_append, oIsN, oIsNot, oSub, oLt, oLe, oGt, oAddI, Bool.false_eq_true, Bool.not_true, Bool.not_false, decide_true, decide_false, reduceIte, reduceCtorEq, Nat.reduceAdd, Nat.reduceSub, Nat.add_zero, Nat.zero_add, app_get, app_get0, app_set, app_set0, oEq_int, oNe_int, noLocL_nil, noLocL_cons, noLoc_non, noLoc_int, noLoc_bl, noLoc_str, noLoc_scr, noLoc_tup, noLoc_lst, noLoc_dic, noLoc_ins, noLocL_ints, Bool.and_self, Bool.and_true, Bool.true_and, and_self, isNonD, Nat.reduceLeDiff, Nat.reduceLT, Nat.reduceEqDiff, Int.reduceAdd, Int.reduceSub, Int.reduceLT, Int.reduceLE, Int.reduceEq, Int.reduceNeg, Int.reduceMod, Int.reduceToNat, v_fm, v_call, altOf_hd, altOf_tl, ixL0, ixL1, ixL2, ixT0, ixT1, ixT2, ixT3, ixT4, ixT5, add_int, len_lst, len_tup, fst_ok, mPop_end, noLoc_encB, ne_eq, not_true, not_false_eq_true, not_true_eq_false, mod_ok, div_ok, sto_assoc, sto_cons, sto_nil, set_int, app_int, app_bk, app_P, app_C, ne_pair, eq_pair, eq_self, List.getElem?_nil, ixB0, ixB1, ixB2, sl_map, ne_bl, eq_bl, hpw, hab, mod_ok hbig]; first | done | exact rfl)
      have h0 := Int.emod_nonneg (if c < 0 then -c else c) (show (10 ^ 20 : Int) ≠ 0 by decide)
      generalize (if c < 0 then -c else c) % 10 ^ 20 = mo at h0
      refine nx_go (e := [some (.scr ns), some (.int c), some (.int mo), some (.loc s.length), none, none, none]) (s := s ++ slabL s.length B0 1) (sAsg_ok (mk_slab (tg := ff) okB0 (m := 1) (by omega) (s := s) rfl) rfl) ?_
      have h := SlabAt.new s B0 1
      have h : SlabAt (s ++ slabL s.length B0 1) s.length (s.length + 1) (s.length + 2) (s.length + 3) Sa := h
      generalize s ++ slabL s.length B0 1 = s1 at *
      generalize s.length + 1 = a at *
      generalize s.length + 2 = b at *
      generalize s.length + 3 = d at *
      generalize s.length = j at *
      obtain ⟨s2, r2, h2, _⟩ := e_snap h okSa (P := ⟨0, 0, 3, 2⟩) (w := 0) (x := 1) (by decide) (by decide)
      have r2 : T_Slab_snap [.loc j, .tup [.int 0, .int 0, .int 3, .int 2], .int 0, .int 1] s1 = .ok (.int 0) s2 := by
        rw [bb, show costs Sa.B Sa.m Sb.Ps = costs Sb.B 1 Sb.Ps from rfl, hcs.1] at r2
        exact r2
      rw [eSb] at h2
      obtain ⟨s3, r3, h3, _⟩ := e_nut h2 okSb (c := (0, 1)) (by decide) (by decide)
      have r3 : T_Slab_nut [.loc j, .int 0, .int 1] s2 = .ok (.int 3) s3 := by
        rw [nc, show costs Sc.B Sb.m Sb.Ps = costs Sc.B 1 Sc.Ps from rfl, hcs.2.1] at r3
        exact r3
      rw [eSc] at h3
      (first | apply rt_go | apply nx_go); focus (simp only [v_seq, seq_nx, seq_rt, v_meth, bind0_ok, v_lift, v_lend0, v_lend1, consO_some, v_lendD, Res.bind_ok, Res.out_ok, List.getElem?_cons_zero, List.getElem?_cons_succ, List.set_cons_zero, List.set_cons_succ, eVar, eC, eOp, eUn, uNeg, eIx, aNil, aCons, eTup, eLst, eDicF, newL, eCB, eCallT, eAnd, eOr, eNot, eIf, tBl, tNot, tAnd, tOr, eFld, eBM, mAppend, eMake0, pNone, pSome, eSl, eSl3, sAsg, sExpr, sRet, sIf, sNil, sPar, sPar3, sAug, sPut, sPuts, bindP, bindPs, wipeE_nil, wipeE_cons, startE_eq, List.replicate, List.length_cons, List.length_nil, List.length_append, oIsN, oIsNot, oSub, oLt, oLe, oGt, oAddI, Bool.false_eq_true, Bool.not_true, Bool.not_false, decide_true, decide_false, reduceIte, reduceCtorEq, Nat.reduceAdd, Nat.reduceSub, Nat.add_zero, Nat.zero_add, app_get, app_get0, app_set, app_set0, oEq_int, oNe_int, noLocL_nil, noLocL_cons, noLoc_non, noLoc_int, noLoc_bl, noLoc_str, noLoc_scr, noLoc_tup, noLoc_lst, noLoc_dic, noLoc_ins, noLocL_ints, Bool.and_self, Bool.and_true, Bool.true_and, and_self, isNonD, Nat.reduceLeDiff, Nat.reduceLT, Nat.reduceEqDiff, Int.reduceAdd, Int.reduceSub, Int.reduceLT, Int.reduceLE, Int.reduceEq, Int.reduceNeg, Int.reduceMod, Int.reduceToNat, v_fm, v_call, altOf_hd, altOf_tl, ixL0, ixL1, ixL2, ixT0, ixT1, ixT2, ixT3, ixT4, ixT5, add_int, len_lst, len_tup, fst_ok, mPop_end, noLoc_encB, ne_eq, not_true, not_false_eq_true, not_true_eq_false, mod_ok, div_ok, sto_assoc, sto_cons, sto_nil, set_int, app_int, app_bk, app_P, app_C, ne_pair, eq_pair, eq_self, List.getElem?_nil, ixB0, ixB1, ixB2, sl_map, ne_bl, eq_bl, h.ins, hns.2.1, r2, h2.ins, hns.2.2.1, r3]; first | done | exact rfl)
      have hst := st_Sc
      have hne := ne_SDc
      have hcl : noLoc SDc = true := rfl
      generalize SDc = SD at hst hne hcl
      (first | apply rt_go | apply nx_go); focus (simp only [v_seq, seq_nx, seq_rt, v_meth, bind0_ok, v_lift, v_lend0, v_lend1, consO_some, v_lendD, Res.bind_ok, Res.out_ok, List.getElem?_cons_zero, List.getElem?_cons_succ, List.set_cons_zero, List.set_cons_succ, eVar, eC, eOp, eUn, uNeg, eIx, aNil, aCons, eTup, eLst, eDicF, newL, eCB, eCallT, eAnd, eOr, eNot, eIf, tBl, tNot, tAnd, tOr, eFld, eBM, mAppend, eMake0, pNone, pSome, eSl, eSl3, sAsg, sExpr, sRet, sIf, sNil, sPar, sPar3, sAug, sPut, sPuts, bindP, bindPs, wipeE_nil, wipeE_cons, startE_eq, List.replicate, List.length_cons, List.length_nil, List.length_append, oIsN, oIsNot, oSub, oLt, oLe, oGt, oAddI, Bool.false_eq_true, Bool.not_true, Bool.not_false, decide_true, decide_false, reduceIte, reduceCtorEq, Nat.reduceAdd, Nat.reduceSub, Nat.add_zero, Nat.zero_add, app_get, app_get0, app_set, app_set0, oEq_int, oNe_int, noLocL_nil, noLocL_cons, noLoc_non, noLoc_int, noLoc_bl, noLoc_str, noLoc_scr, noLoc_tup, noLoc_lst, noLoc_dic, noLoc_ins, noLocL_ints, Bool.and_self, Bool.and_true, Bool.true_and, and_self, isNonD, Nat.reduceLeDiff, Nat.reduceLT, Nat.reduceEqDiff, Int.reduceAdd, Int.reduceSub, Int.reduceLT, Int.reduceLE, Int.reduceEq, Int.reduceNeg, Int.reduceMod, Int.reduceToNat, v_fm, v_call, altOf_hd, altOf_tl, ixL0, ixL1, ixL2, ixT0, ixT1, ixT2, ixT3, ixT4, ixT5, add_int, len_lst, len_tup, fst_ok, mPop_end, noLoc_encB, ne_eq, not_true, not_false_eq_true, not_true_eq_false, mod_ok, div_ok, sto_assoc, sto_cons, sto_nil, set_int, app_int, app_bk, app_P, app_C, ne_pair, eq_pair, eq_self, List.getElem?_nil, ixB0, ixB1, ixB2, sl_map, ne_bl, eq_bl, h3.ld.v, hst]; first | done | exact rfl)
      obtain ⟨l4, r4⟩ := e_snaps h3 okSc rfl h0
      have h4 := h3.app l4
      obtain ⟨l5, r5⟩ := e_rest h4 okSc rfl h0
      have h5 := h4.app l5
      (first | apply rt_go | apply nx_go); focus (simp only [v_seq, seq_nx, seq_rt, v_meth, bind0_ok, v_lift, v_lend0, v_lend1, consO_some, v_lendD, Res.bind_ok, Res.out_ok, List.getElem?_cons_zero, List.getElem?_cons_succ, List.set_cons_zero, List.set_cons_succ, eVar, eC, eOp, eUn, uNeg, eIx, aNil, aCons, eTup, eLst, eDicF, newL, eCB, eCallT, eAnd, eOr, eNot, eIf, tBl, tNot, tAnd, tOr, eFld, eBM, mAppend, eMake0, pNone, pSome, eSl, eSl3, sAsg, sExpr, sRet, sIf, sNil, sPar, sPar3, sAug, sPut, sPuts, bindP, bindPs, wipeE_nil, wipeE_cons, startE_eq, List.replicate, List.length_cons, List.length_nil, List.length_append, oIsN, oIsNot, oSub, oLt, oLe, oGt, oAddI, Bool.false_eq_true, Bool.not_true, Bool.not_false, decide_true, decide_false, reduceIte, reduceCtorEq, Nat.reduceAdd, Nat.reduceSub, Nat.add_zero, Nat.zero_add, app_get, app_get0, app_set, app_set0, oEq_int, oNe_int, noLocL_nil, noLocL_cons, noLoc_non, noLoc_int, noLoc_bl, noLoc_str, noLoc_scr, noLoc_tup, noLoc_lst, noLoc_dic, noLoc_ins, noLocL_ints, Bool.and_self, Bool.and_true, Bool.true_and, and_self, isNonD, Nat.reduceLeDiff, Nat.reduceLT, Nat.reduceEqDiff, Int.reduceAdd, Int.reduceSub, Int.reduceLT, Int.reduceLE, Int.reduceEq, Int.reduceNeg, Int.reduceMod, Int.reduceToNat, v_fm, v_call, altOf_hd, altOf_tl, ixL0, ixL1, ixL2, ixT0, ixT1, ixT2, ixT3, ixT4, ixT5, add_int, len_lst, len_tup, fst_ok, mPop_end, noLoc_encB, ne_eq, not_true, not_false_eq_true, not_true_eq_false, mod_ok, div_ok, sto_assoc, sto_cons, sto_nil, set_int, app_int, app_bk, app_P, app_C, ne_pair, eq_pair, eq_self, List.getElem?_nil, ixB0, ixB1, ixB2, sl_map, ne_bl, eq_bl, r4, r5]; first | done | exact rfl)
      rw [List.append_assoc] at h5
      generalize s3 ++ (l4 ++ l5) = s5 at h5 ⊢
      obtain ⟨s6, r6, h6, _⟩ := e_set h5 okSc (w := 1) (x := 1) (v := 9) (by decide) (by omega)
      have r6 : T_Slab_set_price [.loc j, .int 1, .int 1, .int 9] s5 = .ok (.int 9) s6 := by
        rw [show costs (setB Sc.B 1 1 9) Sc.m Sc.Ps = costs Sd.B 1 Sd.Ps from rfl, hcs.2.2.1] at r6
        exact r6
      have h6 : SlabAt s6 j a b d Sd := h6
      obtain ⟨s7, r7, h7, _⟩ := e_snap h6 okSd (P := ⟨0, 0, 1, 2⟩) (w := 1) (x := 1) (by decide) (by decide)
      have r7 : T_Slab_snap [.loc j, .tup [.int 0, .int 0, .int 1, .int 2], .int 1, .int 1] s6 = .ok (.int 0) s7 := by
        rw [be, show costs Sd.B Sd.m Se.Ps = costs Se.B 1 Se.Ps from rfl, hcs.2.2.2.1] at r7
        exact r7
      rw [eSe] at h7
      (first | apply rt_go | apply nx_go); focus (simp only [v_seq, seq_nx, seq_rt, v_meth, bind0_ok, v_lift, v_lend0, v_lend1, consO_some, v_lendD, Res.bind_ok, Res.out_ok, List.getElem?_cons_zero, List.getElem?_cons_succ, List.set_cons_zero, List.set_cons_succ, eVar, eC, eOp, eUn, uNeg, eIx, aNil, aCons, eTup, eLst, eDicF, newL, eCB, eCallT, eAnd, eOr, eNot, eIf, tBl, tNot, tAnd, tOr, eFld, eBM, mAppend, eMake0, pNone, pSome, eSl, eSl3, sAsg, sExpr, sRet, sIf, sNil, sPar, sPar3, sAug, sPut, sPuts, bindP, bindPs, wipeE_nil, wipeE_cons, startE_eq, List.replicate, List.length_cons, List.length_nil, List.length_append, oIsN, oIsNot, oSub, oLt, oLe, oGt, oAddI, Bool.false_eq_true, Bool.not_true, Bool.not_false, decide_true, decide_false, reduceIte, reduceCtorEq, Nat.reduceAdd, Nat.reduceSub, Nat.add_zero, Nat.zero_add, app_get, app_get0, app_set, app_set0, oEq_int, oNe_int, noLocL_nil, noLocL_cons, noLoc_non, noLoc_int, noLoc_bl, noLoc_str, noLoc_scr, noLoc_tup, noLoc_lst, noLoc_dic, noLoc_ins, noLocL_ints, Bool.and_self, Bool.and_true, Bool.true_and, and_self, isNonD, Nat.reduceLeDiff, Nat.reduceLT, Nat.reduceEqDiff, Int.reduceAdd, Int.reduceSub, Int.reduceLT, Int.reduceLE, Int.reduceEq, Int.reduceNeg, Int.reduceMod, Int.reduceToNat, v_fm, v_call, altOf_hd, altOf_tl, ixL0, ixL1, ixL2, ixT0, ixT1, ixT2, ixT3, ixT4, ixT5, add_int, len_lst, len_tup, fst_ok, mPop_end, noLoc_encB, ne_eq, not_true, not_false_eq_true, not_true_eq_false, mod_ok, div_ok, sto_assoc, sto_cons, sto_nil, set_int, app_int, app_bk, app_P, app_C, ne_pair, eq_pair, eq_self, List.getElem?_nil, ixB0, ixB1, ixB2, sl_map, ne_bl, eq_bl, h5.ld.v, hst, hne, h5.ins, hns.2.2.2.1, r6, h6.ins, hns.2.1, r7]; first | done | exact rfl)
      have f1 : eCallLam (fun I => runT 3 N__law_refused (m__law_refused I)) 5 (eMeth [(5, T_Slab_snap)] "snap" (eVar 3) (aCons (eTup (aCons (eC (.int 0)) (aCons (eC (.int 0)) (aCons (eC (.int 1)) (aCons (eC (.int 1)) aNil))))) (aCons (eC (.int 1)) (aCons (eVar 5) aNil)))) (aCons (eLst false (aCons (eC (.int 0)) (aCons (eC (.int 1)) (aCons (eC (.int 2)) aNil)))) (aCons (eC (.int 5)) aNil)) [some (.scr ns), some (.int c), some (.int mo), some (.loc j), some SD, none, none] s7 = .ok (.bl true) (s7 ++ [.dead]) :=
        lam_ref (c := 16) (gg := false) (things := [.int 0, .int 1, .int 2]) (by omega) rfl rfl fun x hx => by
          simp only [List.mem_cons, List.not_mem_nil, or_false] at hx
          obtain ⟨i, rfl⟩ : ∃ i, x = .int i := by rcases hx with rfl | rfl | rfl <;> exact ⟨_, rfl⟩
          refine meth_exc (h7.app [.fn 0]) hns.2.1 rfl rfl (snap_noL (P := ⟨0, 0, 1, 1⟩) (h7.app [.fn 0]) okSe (by decide) rfl rfl rfl rfl fun i k e1 e2 hm => ?_)
          cases e1
          rcases mem_lines.mp hm with ⟨z, z2, z3⟩ | ⟨z, z2, z3⟩ <;> simp only at z z2 z3 <;> omega
      (first | apply rt_go | apply nx_go); focus (simp only [v_seq, seq_nx, seq_rt, v_meth, bind0_ok, v_lift, v_lend0, v_lend1, consO_some, v_lendD, Res.bind_ok, Res.out_ok, List.getElem?_cons_zero, List.getElem?_cons_succ, List.set_cons_zero, List.set_cons_succ, eVar, eC, eOp, eUn, uNeg, eIx, aNil, aCons, eTup, eLst, eDicF, newL, eCB, eCallT, eAnd, eOr, eNot, eIf, tBl, tNot, tAnd, tOr, eFld, eBM, mAppend, eMake0, pNone, pSome, eSl, eSl3, sAsg, sExpr, sRet, sIf, sNil, sPar, sPar3, sAug, sPut, sPuts, bindP, bindPs, wipeE_nil, wipeE_cons, startE_eq, List.replicate, List.length_cons, List.length_nil, List.length_append, oIsN, oIsNot, oSub, oLt, oLe, oGt, oAddI, Bool.false_eq_true, Bool.not_true, Bool.not_false, decide_true, decide_false, reduceIte, reduceCtorEq, Nat.reduceAdd, Nat.reduceSub, Nat.add_zero, Nat.zero_add, app_get, app_get0, app_set, app_set0, oEq_int, oNe_int, noLocL_nil, noLocL_cons, noLoc_non, noLoc_int, noLoc_bl, noLoc_str, noLoc_scr, noLoc_tup, noLoc_lst, noLoc_dic, noLoc_ins, noLocL_ints, Bool.and_self, Bool.and_true, Bool.true_and, and_self, isNonD, Nat.reduceLeDiff, Nat.reduceLT, Nat.reduceEqDiff, Int.reduceAdd, Int.reduceSub, Int.reduceLT, Int.reduceLE, Int.reduceEq, Int.reduceNeg, Int.reduceMod, Int.reduceToNat, v_fm, v_call, altOf_hd, altOf_tl, ixL0, ixL1, ixL2, ixT0, ixT1, ixT2, ixT3, ixT4, ixT5, add_int, len_lst, len_tup, fst_ok, mPop_end, noLoc_encB, ne_eq, not_true, not_false_eq_true, not_true_eq_false, mod_ok, div_ok, sto_assoc, sto_cons, sto_nil, set_int, app_int, app_bk, app_P, app_C, ne_pair, eq_pair, eq_self, List.getElem?_nil, ixB0, ixB1, ixB2, sl_map, ne_bl, eq_bl, f1]; first | done | exact rfl)
      have h8 := h7.app [.dead]
      generalize s7 ++ [DO.dead] = s8 at *
      have f2 : eCallLam (fun I => runT 3 N__law_refused (m__law_refused I)) 6 (eMeth [(5, T_Slab_snap)] "snap" (eVar 3) (aCons (eTup (aCons (eC (.int 0)) (aCons (eC (.int 1)) (aCons (eC (.int 1)) (aCons (eC (.int 2)) aNil))))) (aCons (eC (.int 0)) (aCons (eVar 6) aNil)))) (aCons (eLst false (aCons (eC (.int 0)) (aCons (eC (.int 1)) (aCons (eC (.int 2)) (aCons (eC (.int 3)) aNil))))) (aCons (eC (.int 5)) aNil)) [some (.scr ns), some (.int c), some (.int mo), some (.loc j), some SD, none, none] s8 = .ok (.bl true) (s8 ++ [.dead]) :=
        lam_ref (c := 16) (gg := false) (things := [.int 0, .int 1, .int 2, .int 3]) (by omega) rfl rfl fun x hx => by
          simp only [List.mem_cons, List.not_mem_nil, or_false] at hx
          obtain ⟨i, rfl⟩ : ∃ i, x = .int i := by rcases hx with rfl | rfl | rfl | rfl <;> exact ⟨_, rfl⟩
          refine meth_exc (h8.app [.fn 0]) hns.2.1 rfl rfl (snap_noL (P := ⟨0, 1, 1, 2⟩) (h8.app [.fn 0]) okSe (by decide) rfl rfl rfl rfl fun i k e1 e2 hm => ?_)
          cases e1
          rcases mem_lines.mp hm with ⟨z, z2, z3⟩ | ⟨z, z2, z3⟩ <;> simp only at z z2 z3 <;> omega
      (first | apply rt_go | apply nx_go); focus (simp only [v_seq, seq_nx, seq_rt, v_meth, bind0_ok, v_lift, v_lend0, v_lend1, consO_some, v_lendD, Res.bind_ok, Res.out_ok, List.getElem?_cons_zero, List.getElem?_cons_succ, List.set_cons_zero, List.set_cons_succ, eVar, eC, eOp, eUn, uNeg, eIx, aNil, aCons, eTup, eLst, eDicF, newL, eCB, eCallT, eAnd, eOr, eNot, eIf, tBl, tNot, tAnd, tOr, eFld, eBM, mAppend, eMake0, pNone, pSome, eSl, eSl3, sAsg, sExpr, sRet, sIf, sNil, sPar, sPar3, sAug, sPut, sPuts, bindP, bindPs, wipeE_nil, wipeE_cons, startE_eq, List.replicate, List.length_cons, List.length_nil, List.length_append, oIsN, oIsNot, oSub, oLt, oLe, oGt, oAddI, Bool.false_eq_true, Bool.not_true, Bool.not_false, decide_true, decide_false, reduceIte, reduceCtorEq, Nat.reduceAdd, Nat.reduceSub, Nat.add_zero, Nat.zero_add, app_get, app_get0, app_set, app_set0, oEq_int, oNe_int, noLocL_nil, noLocL_cons, noLoc_non, noLoc_int, noLoc_bl, noLoc_str, noLoc_scr, noLoc_tup, noLoc_lst, noLoc_dic, noLoc_ins, noLocL_ints, Bool.and_self, Bool.and_true, Bool.true_and, and_self, isNonD, Nat.reduceLeDiff, Nat.reduceLT, Nat.reduceEqDiff, Int.reduceAdd, Int.reduceSub, Int.reduceLT, Int.reduceLE, Int.reduceEq, Int.reduceNeg, Int.reduceMod, Int.reduceToNat, v_fm, v_call, altOf_hd, altOf_tl, ixL0, ixL1, ixL2, ixT0, ixT1, ixT2, ixT3, ixT4, ixT5, add_int, len_lst, len_tup, fst_ok, mPop_end, noLoc_encB, ne_eq, not_true, not_false_eq_true, not_true_eq_false, mod_ok, div_ok, sto_assoc, sto_cons, sto_nil, set_int, app_int, app_bk, app_P, app_C, ne_pair, eq_pair, eq_self, List.getElem?_nil, ixB0, ixB1, ixB2, sl_map, ne_bl, eq_bl, f2]; first | done | exact rfl)
      have h9 := h8.app [.dead]
      generalize s8 ++ [DO.dead] = s9 at *
      obtain ⟨t1, q1, g1, _⟩ := e_snap h9 okSe (P := ⟨1, 0, 3, 2⟩) (w := 1) (x := 1) (by decide) (by decide)
      have q1 : T_Slab_snap [.loc j, .tup [.int 1, .int 0, .int 3, .int 2], .int 1, .int 1] s9 = .ok (.int 0) t1 := by
        rw [bf, show costs Se.B Se.m Sf.Ps = costs Sf.B 1 Sf.Ps from rfl, hcs.2.2.2.2.1] at q1
        exact q1
      rw [eSf] at g1
      obtain ⟨t2, q2, g2, _⟩ := e_nut g1 okSf (c := (1, 0)) (by decide) (by decide)
      have q2 : T_Slab_nut [.loc j, .int 1, .int 0] t1 = .ok (.int 0) t2 := by
        rw [ng, show costs Sg.B Sf.m Sf.Ps = costs Sg.B 1 Sg.Ps from rfl, hcs.2.2.2.2.2.1] at q2
        exact q2
      rw [eSg] at g2
      obtain ⟨t3, q3, g3, _⟩ := e_nut g2 okSg (c := (2, 0)) (by decide) (by decide)
      have q3 : T_Slab_nut [.loc j, .int 2, .int 0] t2 = .ok (.int 2) t3 := by
        rw [nh, show costs Sh.B Sg.m Sg.Ps = costs Sh.B 1 Sh.Ps from rfl, hcs.2.2.2.2.2.2] at q3
        exact q3
      rw [eSh] at g3
      have p1 : G_Slab_spent [slabI Se] = .ok (.int 10) := e_spent Se
      have p2 : G_Slab_spent [slabI Sh] = .ok (.int 19) := e_spent Sh
      (first | apply rt_go | apply nx_go); focus (simp only [v_seq, seq_nx, seq_rt, v_meth, bind0_ok, v_lift, v_lend0, v_lend1, consO_some, v_lendD, Res.bind_ok, Res.out_ok, List.getElem?_cons_zero, List.getElem?_cons_succ, List.set_cons_zero, List.set_cons_succ, eVar, eC, eOp, eUn, uNeg, eIx, aNil, aCons, eTup, eLst, eDicF, newL, eCB, eCallT, eAnd, eOr, eNot, eIf, tBl, tNot, tAnd, tOr, eFld, eBM, mAppend, eMake0, pNone, pSome, eSl, eSl3, sAsg, sExpr, sRet, sIf, sNil, sPar, sPar3, sAug, sPut, sPuts, bindP, bindPs, wipeE_nil, wipeE_cons, startE_eq, List.replicate, List.length_cons, List.length_nil, List.length_append, oIsN, oIsNot, oSub, oLt, oLe, oGt, oAddI, Bool.false_eq_true, Bool.not_true, Bool.not_false, decide_true, decide_false, reduceIte, reduceCtorEq, Nat.reduceAdd, Nat.reduceSub, Nat.add_zero, Nat.zero_add, app_get, app_get0, app_set, app_set0, oEq_int, oNe_int, noLocL_nil, noLocL_cons, noLoc_non, noLoc_int, noLoc_bl, noLoc_str, noLoc_scr, noLoc_tup, noLoc_lst, noLoc_dic, noLoc_ins, noLocL_ints, Bool.and_self, Bool.and_true, Bool.true_and, and_self, isNonD, Nat.reduceLeDiff, Nat.reduceLT, Nat.reduceEqDiff, Int.reduceAdd, Int.reduceSub, Int.reduceLT, Int.reduceLE, Int.reduceEq, Int.reduceNeg, Int.reduceMod, Int.reduceToNat, v_fm, v_call, altOf_hd, altOf_tl, ixL0, ixL1, ixL2, ixT0, ixT1, ixT2, ixT3, ixT4, ixT5, add_int, len_lst, len_tup, fst_ok, mPop_end, noLoc_encB, ne_eq, not_true, not_false_eq_true, not_true_eq_false, mod_ok, div_ok, sto_assoc, sto_cons, sto_nil, set_int, app_int, app_bk, app_P, app_C, ne_pair, eq_pair, eq_self, List.getElem?_nil, ixB0, ixB1, ixB2, sl_map, ne_bl, eq_bl, h9.ins, hns.2.2.2.2.2.2.1, h9.ld.v, p1, hns.2.1, q1, g1.ins, hns.2.2.1, q2, g2.ins, q3]; first | done | exact rfl)
      have p3 : G_Slab_pieces [slabI Sh] = .ok (.lst ([(⟨0, 0, 1, 1⟩ : Pc), ⟨0, 1, 1, 2⟩, ⟨1, 0, 3, 1⟩, ⟨1, 1, 3, 2⟩].map encP)) := e_piecesS Sh
      have hnp : oNe (.lst ([(⟨0, 0, 1, 1⟩ : Pc), ⟨0, 1, 1, 2⟩, ⟨1, 0, 3, 1⟩, ⟨1, 1, 3, 2⟩].map encP)) (.lst [.tup [.int 0, .int 0, .int 1, .int 1], .tup [.int 0, .int 1, .int 1, .int 2], .tup [.int 1, .int 0, .int 3, .int 1], .tup [.int 1, .int 1, .int 3, .int 2]]) t3 = .ok (.bl false) t3 :=
        (oNe_dat (sto := t3) (dP.lst false) (dP.lst false) (by omega) [⟨0, 0, 1, 1⟩, ⟨0, 1, 1, 2⟩, ⟨1, 0, 3, 1⟩, ⟨1, 1, 3, 2⟩] [⟨0, 0, 1, 1⟩, ⟨0, 1, 1, 2⟩, ⟨1, 0, 3, 1⟩, ⟨1, 1, 3, 2⟩]).trans (by simp)
      (first | apply rt_end | apply nx_end); focus (simp only [v_seq, seq_nx, seq_rt, v_meth, bind0_ok, v_lift, v_lend0, v_lend1, consO_some, v_lendD, Res.bind_ok, Res.out_ok, List.getElem?_cons_zero, List.getElem?_cons_succ, List.set_cons_zero, List.set_cons_succ, eVar, eC, eOp, eUn, uNeg, eIx, aNil, aCons, eTup, eLst, eDicF, newL, eCB, eCallT, eAnd, eOr, eNot, eIf, tBl, tNot, tAnd, tOr, eFld, eBM, mAppend, eMake0, pNone, pSome, eSl, eSl3, sAsg, sExpr, sRet, sIf, sNil, sPar, sPar3, sAug, sPut, sPuts, bindP, bindPs, wipeE_nil, wipeE_cons, startE_eq, List.replicate, List.length_cons, List.length_nil, List.length_append, oIsN, oIsNot, oSub, oLt, oLe, oGt, oAddI, Bool.false_eq_true, Bool.not_true, Bool.not_false, decide_true, decide_false, reduceIte, reduceCtorEq, Nat.reduceAdd, Nat.reduceSub, Nat.add_zero, Nat.zero_add, app_get, app_get0, app_set, app_set0, oEq_int, oNe_int, noLocL_nil, noLocL_cons, noLoc_non, noLoc_int, noLoc_bl, noLoc_str, noLoc_scr, noLoc_tup, noLoc_lst, noLoc_dic, noLoc_ins, noLocL_ints, Bool.and_self, Bool.and_true, Bool.true_and, and_self, isNonD, Nat.reduceLeDiff, Nat.reduceLT, Nat.reduceEqDiff, Int.reduceAdd, Int.reduceSub, Int.reduceLT, Int.reduceLE, Int.reduceEq, Int.reduceNeg, Int.reduceMod, Int.reduceToNat, v_fm, v_call, altOf_hd, altOf_tl, ixL0, ixL1, ixL2, ixT0, ixT1, ixT2, ixT3, ixT4, ixT5, add_int, len_lst, len_tup, fst_ok, mPop_end, noLoc_encB, ne_eq, not_true, not_false_eq_true, not_true_eq_false, mod_ok, div_ok, sto_assoc, sto_cons, sto_nil, set_int, app_int, app_bk, app_P, app_C, ne_pair, eq_pair, eq_self, List.getElem?_nil, ixB0, ixB1, ixB2, sl_map, ne_bl, eq_bl, g3.ins, hns.2.2.2.2.2.1, g3.ld.v, p3, hnp, hns.2.2.2.2.2.2.1, p2]; first | done | exact rfl)
      rfl
    · rintro _ s rfl
      exact ⟨_, _, rfl, rfl⟩
  obtain ⟨d, s, h, rfl⟩ := main
  exact runP_rt rfl h (by simp)
end BB
namespace BB
open PySem PySem.Spec PyProof.Rows L2 He
/-- facts read off the written part, and more of them by Bools -/
abbrev AlM : Type := Al × Bool
def obsM (n : Nat) (fa : List Fa) (fn : List FnD) (more : List (PySem.W.Frag → Bool)) (g : Addr → Option Obj) : AlM := (obsE fa fn (frG g (asG g n)), more.all fun f => f (frG g (asG g n)))
def SaysM (fa : List Fa) (fn : List FnD) (more : List (PySem.W.Frag → Bool)) (K : PySem.W.Frag) : Prop := SaysE fa fn K ∧ (more.all fun f => f K) = true
def hookM (n : Nat) (fa : List Fa) (fn : List FnD) (more : List (PySem.W.Frag → Bool)) : PySem.W.Hook where
  α := AlM
  obs := fun s => obsM n fa fn more s.heap.get?
  val := fun _ => (valE fn, true)
  says := fun _ h => ∃ K : PySem.W.Frag, K.In h ∧ SaysM fa fn more K
  of := fun _ _ e => ⟨_, frG_in, congrArg Prod.fst e, congrArg Prod.snd e⟩
  keeps := fun _ _ _ ⟨K, hK, c⟩ k => ⟨K, PySem.W.Frag.In.keeps hK k, c⟩
theorem obsM_eq {n : Nat} {fa : List Fa} {fn : List FnD} {more : List (PySem.W.Frag → Bool)} {g : Addr → Option Obj} {s : Shared} (h : ∀ a, g a = s.heap.get? a) : obsM n fa fn more g = (hookM n fa fn more).obs s := by
  have e : g = s.heap.get? := funext h
  rw [e] <;> rfl
theorem SaysM.more {fa : List Fa} {fn : List FnD} {more : List (PySem.W.Frag → Bool)} {K : PySem.W.Frag} (c : SaysM fa fn more K) (i : Nat) {f : PySem.W.Frag → Bool} (h : more[i]? = some f := by rfl) : f K = true := List.all_eq_true.mp c.2 f (List.mem_of_getElem? h)
/-- a class without __init__ -/
def mk0B (x : Str) (K : PySem.W.Frag) : Bool := PySem.W.makesIn K (ga K x) && (eqO (PySem.W.findIn K (.ref (ga K x)) "__init__") (some (some (.builtin "object.__init__"))) && PySem.W.keepIn K (.ref (ga K x)))
theorem mk0_ok {x : Str} {K : PySem.W.Frag} (c : mk0B x K = true) : Mk0 K (ga K x) := by
  obtain ⟨c1, c⟩ := ba c
  obtain ⟨c2, c3⟩ := ba c
  exact ⟨c1, eqO_ok c2, c3⟩
/-- what isinstance asks of a class; of two classes -/
def isiB (x : Str) (K : PySem.W.Frag) : Bool := eqO (PySem.W.findIn K (.ref (ga K x)) "__class__") (some (some (.builtin "object.__class__"))) && (decide (PySem.W.specialIn K (.builtin "object.__class__") "__get__" = some (some (.builtin "getset_descriptor.__get__"))) &&
  (decide (PySem.W.takesIn K (.builtin "object.__class__") = some true) && decide (PySem.W.mroIn K (ga K x) (.type "object") = some true)))
def isi2B (x y : Str) (b : Bool) (K : PySem.W.Frag) : Bool := decide (PySem.W.kitOne K (.ref (ga K x)) (.ref (ga K y)) = some b)
theorem isi_ok {x : Str} {K : PySem.W.Frag} (c : isiB x K = true) : PySem.W.findIn K (.ref (ga K x)) "__class__" = some (some (.builtin "object.__class__")) ∧ PySem.W.specialIn K (.builtin "object.__class__") "__get__" = some (some (.builtin "getset_descriptor.__get__")) ∧
    PySem.W.takesIn K (.builtin "object.__class__") = some true ∧ PySem.W.mroIn K (ga K x) (.type "object") = some true := by
  obtain ⟨c1, c⟩ := ba c
  obtain ⟨c2, c⟩ := ba c
  obtain ⟨c3, c4⟩ := ba c
  exact ⟨eqO_ok c1, of_decide_eq_true c2, of_decide_eq_true c3, of_decide_eq_true c4⟩
theorem isi2_ok {x y : Str} {b : Bool} {K : PySem.W.Frag} (c : isi2B x y b K = true) : PySem.W.kitOne K (.ref (ga K x)) (.ref (ga K y)) = some b := of_decide_eq_true c
theorem exc_mk {K : PySem.W.Frag} {h : Heap} {mg : Str → Option Value} (X : K.In h) (G : h.Ns mainGlobals mg) {x : Str} (c0 : (Fa.glo x).ok K = true) (c : (Fa.exc x).ok K = true) : ExcT K mg (ga K x) x := by
  obtain ⟨h1, h2, h3, h4⟩ := exc_ok c
  exact ⟨glo_ok X G c0, h1, h2, h3, h4⟩
end BB
/-! The head's facts, with tables of code objects. -/
namespace BB
open PySem PySem.Spec PyProof.Rows L2 He LamX
def isTab (o : Option Obj) : Bool := match o with
  | some ⟨.none, none, .fields vs, sl⟩ => vs.toList.isEmpty && sl.toList.isEmpty
  | _ => false
theorem isTab_ok {o : Option Obj} (h : isTab o = true) : o = some { cls := .none, data := .fields #[] } := by
  unfold isTab at h
  split at h
  · rename_i vs sl
    simp only [Bool.and_eq_true, List.isEmpty_iff] at h
    obtain ⟨h1, h2⟩ := h
    have e1 : vs = #[] := by cases vs; simp at h1; subst h1; rfl
    have e2 : sl = #[] := by cases sl; simp at h2; subst h2; rfl
    subst e1 e2; rfl
  · cases h
def asT (g : Addr → Option Obj) (n : Nat) : List Addr := (asG g n).filter fun a => !isTab (g a)
theorem frG_mem {g : Addr → Option Obj} {a : Addr} {o : Obj} : ∀ as : List Addr, (frG g as).lookup a = some o → a ∈ as
  | [], e => nomatch (show (none : Option Obj) = some o from e)
  | b :: r, e => by
    unfold frG at e
    cases hb : g b with
    | none =>
      have e2 : (frG g r).lookup a = some o := by
        unfold frG
        rw [List.filterMap_cons, hb] at e
        exact e
      exact List.mem_cons_of_mem _ (frG_mem r e2)
    | some ob =>
      rw [List.filterMap_cons, hb] at e
      have e2 : (match a == b with | true => some ob | false => (frG g r).lookup a) = some o := e
      cases q : (a == b) with
      | true =>
        rw [beq_iff_eq.mp q]
        exact List.mem_cons_self
      | false =>
        rw [q] at e2
        exact List.mem_cons_of_mem _ (frG_mem r e2)
theorem frT_none {g : Addr → Option Obj} {n : Nat} {a : Addr} (h : isTab (g a) = true) : (frG g (asT g n)).lookup a = none := by
  cases e : (frG g (asT g n)).lookup a with
  | none => rfl
  | some o =>
    have := frG_mem _ e
    unfold asT at this
    have := (List.mem_filter.mp this).2
    rw [h] at this
    cases this
/-- a def's code object, and that one's table -/
def cT (K : PySem.W.Frag) (x : Str) : Addr := match K.lookup (ga K x) with
  | some ⟨_, _, .func fd, _⟩ => (match fd.code with
    | .ref c => c
    | _ => 0)
  | _ => 0
def pT (K : PySem.W.Frag) (x : Str) : Addr := match K.lookup (cT K x) with
  | some ⟨_, _, .fields vs, _⟩ => (match (vs[11]? : Option Value) with
    | some (.ref P) => P
    | _ => 0)
  | _ => 0
def isRefB (v : Value) (a : Addr) : Bool := match v with
  | .ref b => decide (b = a)
  | _ => false
def codeHdB (K : PySem.W.Frag) (c P : Addr) : Bool := match K.lookup c with
  | some ⟨.type t, _, .fields vs, _⟩ => decide (t = "code") && (match vs[11]? with
      | some v => isRefB v P
      | none => false) && isRefB (vs.getD 11 .none) P && (match vs.getD 18 .none with
      | .str _ _ => true
      | _ => false) && (match vs.getD 7 .none with
      | .int _ _ => true
      | _ => false) && (match vs.getD 9 .none with
      | .bool _ => true
      | _ => false) && (match vs.getD 10 .none with
      | .int _ _ => true
      | _ => false) && decide (c ≠ P)
  | _ => false
theorem isRef_ok {v : Value} {a : Addr} (h : isRefB v a = true) : v = .ref a := by
  unfold isRefB at h
  split at h
  · rw [of_decide_eq_true h]
  · cases h
theorem codeHd_ok {K : PySem.W.Frag} {h : Heap} {c P : Addr} (X : K.In h) (e : codeHdB K c P = true) : PySem.W.CodeHd h c P := by
  unfold codeHdB at e
  split at e
  · rename_i t d vs sl hk
    simp only [Bool.and_eq_true, decide_eq_true_eq] at e
    obtain ⟨⟨⟨⟨⟨⟨⟨h1, h2⟩, h3⟩, h4⟩, h5⟩, h6⟩, h7⟩, h8⟩ := e
    subst h1
    cases e11 : vs[11]? with
    | none => rw [e11] at h2; cases h2
    | some v =>
      rw [e11] at h2
      have h2 := isRef_ok h2
      subst h2
      cases e18 : vs.getD 18 .none <;> rw [e18] at h4 <;> try (cases h4; done)
      cases e7 : vs.getD 7 .none <;> rw [e7] at h5 <;> try (cases h5; done)
      cases e9 : vs.getD 9 .none <;> rw [e9] at h6 <;> try (cases h6; done)
      cases e10 : vs.getD 10 .none <;> rw [e10] at h7 <;> try (cases h7; done)
      exact ⟨_, vs, _, _, _, _, _, _, _, X _ _ hk, rfl, rfl, e11, isRef_ok h3, e18, e7, e9, e10, h8⟩
  · cases e
def codeRefB (K : PySem.W.Frag) (x : Str) : Bool := match K.lookup (ga K x) with
  | some ⟨_, _, .func fd, _⟩ => isRefB fd.code (cT K x)
  | _ => false
/-- facts read off the written part (without tables), more of them, and the tables -/
abbrev AlT : Type := Al × Bool × Bool
def obsT (n : Nat) (fa : List Fa) (fn : List FnD) (more : List (PySem.W.Frag → Bool)) (mk : List Str) (g : Addr → Option Obj) : AlT :=
  (obsE fa fn (frG g (asT g n)), more.all fun f => f (frG g (asT g n)), mk.all fun x => isTab (g (pT (frG g (asT g n)) x)))
def hookT (n : Nat) (fa : List Fa) (fn : List FnD) (more : List (PySem.W.Frag → Bool)) (mk : List Str) : PySem.W.Hook where
  α := AlT
  obs := fun s => obsT n fa fn more mk s.heap.get?
  val := fun _ => (valE fn, true, true)
  says := fun _ h => ∃ K : PySem.W.Frag, K.In h ∧ SaysM fa fn more K ∧ ∀ x ∈ mk, h.get? (pT K x) = some { cls := .none, data := .fields #[] } ∧ K.lookup (pT K x) = none
  of := fun _ _ e => ⟨_, frG_in, ⟨congrArg Prod.fst e, congrArg (fun z => z.2.1) e⟩, fun x hx => by
    have q := List.all_eq_true.mp (congrArg (fun z => z.2.2) e) x hx
    exact ⟨isTab_ok q, frT_none q⟩⟩
  keeps := fun _ _ _ ⟨K, hK, c, t⟩ k => ⟨K, PySem.W.Frag.In.keeps hK k, c, fun x hx => ⟨k _ _ (t x hx).1, (t x hx).2⟩⟩
theorem obsT_eq {n : Nat} {fa : List Fa} {fn : List FnD} {more : List (PySem.W.Frag → Bool)} {mk : List Str} {g : Addr → Option Obj} {s : Shared} (h : ∀ a, g a = s.heap.get? a) : obsT n fa fn more mk g = (hookT n fa fn more mk).obs s := by
  have e : g = s.heap.get? := funext h
  rw [e] <;> rfl
/-- a maker's code, its table; tables of different makers -/
def mkB (x : Str) (K : PySem.W.Frag) : Bool := codeRefB K x && codeHdB K (cT K x) (pT K x)
def mkNeB (mk : List Str) (K : PySem.W.Frag) : Bool := mk.all fun x => mk.all fun y => decide (pT K y = pT K x → y = x)
def lamQ (x : Str) : Str := x ++ ".<locals>." ++ "<lambda>"
def tabsK (mk : List Str) (K : PySem.W.Frag) : List (Addr × Str) := mk.map fun x => (pT K x, x ++ ".<locals>." ++ "<lambda>")
def csK (mk : List Str) (K : PySem.W.Frag) : List (Addr × Addr) := mk.map fun x => (cT K x, pT K x)
section
variable {K : PySem.W.Frag} {x : Str} {mk : List Str}
theorem mk_code {oc : Value} {od : Option Addr} {fd : FuncData} {osl : Array (Option Value)} (c : mkB x K = true) (l : K.lookup (ga K x) = some ⟨oc, od, .func fd, osl⟩) : fd.code = .ref (cT K x) := by
  obtain ⟨c, _⟩ := ba c
  unfold codeRefB at c
  rw [l] at c
  exact isRef_ok c
theorem mk_tab (hx : x ∈ mk) : (pT K x, x ++ ".<locals>." ++ "<lambda>") ∈ tabsK mk K := List.mem_map.mpr ⟨x, hx, rfl⟩
theorem mk_cs (hx : x ∈ mk) : (cT K x, pT K x) ∈ csK mk K := List.mem_map.mpr ⟨x, hx, rfl⟩
theorem mk_un (c : mkNeB mk K = true) (hx : x ∈ mk) : ∀ p ∈ tabsK mk K, p.1 = pT K x → p.2 = x ++ ".<locals>." ++ "<lambda>" := fun p hp e => by
  obtain ⟨y, hy, rfl⟩ := List.mem_map.mp hp
  have q := of_decide_eq_true (List.all_eq_true.mp (List.all_eq_true.mp c x hx) y hy)
  rw [q e]
end
/-- what the except clauses and isinstance ask of the exceptions' classes -/
def excCB (x : Str) (K : PySem.W.Frag) : Bool := eqO (PySem.W.findIn K (.ref (ga K x)) "__getattribute__") (some (some (.builtin "BaseException.__getattribute__"))) && (eqO (PySem.W.findIn K (.ref (ga K x)) "__getattr__") (some none) &&
  (decide (PySem.W.subIn K (.ref (ga K x)) (.type "BaseException") = some true) && (PySem.W.hasDictIn K (ga K x) && (eqO (PySem.W.findIn K (.ref (ga K x)) "__class__") (some (some (.builtin "object.__class__"))) &&
    (decide (PySem.W.specialIn K (.builtin "object.__class__") "__get__" = some (some (.builtin "getset_descriptor.__get__"))) && (decide (PySem.W.takesIn K (.builtin "object.__class__") = some true) && decide (PySem.W.mroIn K (ga K x) (.type "object") = some true)))))))
theorem excC_ok {x : Str} {K : PySem.W.Frag} (c : excCB x K = true) : ExcC K (ga K x) := by
  obtain ⟨c1, c⟩ := ba c
  obtain ⟨c2, c⟩ := ba c
  obtain ⟨c3, c⟩ := ba c
  obtain ⟨c4, c⟩ := ba c
  obtain ⟨c5, c⟩ := ba c
  obtain ⟨c6, c⟩ := ba c
  obtain ⟨c7, c8⟩ := ba c
  exact ⟨eqO_ok c1, eqO_ok c2, of_decide_eq_true c3, c4, eqO_ok c5, of_decide_eq_true c6, of_decide_eq_true c7, of_decide_eq_true c8⟩
def veB (x : Str) (K : PySem.W.Frag) : Bool := decide (PySem.W.kitOne K (.ref (ga K x)) (.type "ValueError") = some true)
theorem ve_ok {x : Str} {K : PySem.W.Frag} (c : veB x K = true) : PySem.W.kitOne K (.ref (ga K x)) (.type "ValueError") = some true := of_decide_eq_true c
end BB
namespace BB
open PySem PySem.Spec PyProof.Rows L2
def cAK (K : PySem.W.Frag) : Nat → Addr
  | 10 => He.ga K "BarError"
  | 11 => He.ga K "BadBar"
  | 12 => He.ga K "BadMost"
  | 13 => He.ga K "BadPlan"
  | 14 => He.ga K "BadNumber"
  | 15 => He.ga K "BadPiece"
  | 16 => He.ga K "BadLine"
  | 17 => He.ga K "BadNut"
  | 18 => He.ga K "BadPrice"
  | 5 => He.ga K "Slab"
  | _ => 0
def mkL : List Str := ["_law_rest_right", "_law_snaps_right", "law"]
def fnL0 : List He.FnD := [⟨("is_whole", none), "is_whole", "is_whole", defArgs st_is_whole, defBody st_is_whole, defScope st_is_whole⟩,
  ⟨("is_between", none), "is_between", "is_between", defArgs st_is_between, defBody st_is_between, defScope st_is_between⟩,
  ⟨("are_prices", none), "are_prices", "are_prices", defArgs st_are_prices, defBody st_are_prices, defScope st_are_prices⟩,
  ⟨("is_cell", none), "is_cell", "is_cell", defArgs st_is_cell, defBody st_is_cell, defScope st_is_cell⟩,
  ⟨("check_bar", none), "check_bar", "check_bar", defArgs st_check_bar, defBody st_check_bar, defScope st_check_bar⟩,
  ⟨("check_both", none), "check_both", "check_both", defArgs st_check_both, defBody st_check_both, defScope st_check_both⟩,
  ⟨("whole_of", none), "whole_of", "whole_of", defArgs st_whole_of, defBody st_whole_of, defScope st_whole_of⟩,
  ⟨("Slab", some "__init__"), "__init__", "Slab.__init__", defArgs st_Slab___init__, defBody st_Slab___init__, defScope st_Slab___init__⟩,
  ⟨("Slab", some "pieces"), "pieces", "Slab.pieces", defArgs st_Slab_pieces, defBody st_Slab_pieces, defScope st_Slab_pieces⟩,
  ⟨("Slab", some "plan"), "plan", "Slab.plan", defArgs st_Slab_plan, defBody st_Slab_plan, defScope st_Slab_plan⟩,
  ⟨("Slab", some "spent"), "spent", "Slab.spent", defArgs st_Slab_spent, defBody st_Slab_spent, defScope st_Slab_spent⟩,
  ⟨("size_of", none), "size_of", "size_of", defArgs st_size_of, defBody st_size_of, defScope st_size_of⟩,
  ⟨("pieces_of", none), "pieces_of", "pieces_of", defArgs st_pieces_of, defBody st_pieces_of, defScope st_pieces_of⟩,
  ⟨("by_size", none), "by_size", "by_size", defArgs st_by_size, defBody st_by_size, defScope st_by_size⟩,
  ⟨("nuts_in", none), "nuts_in", "nuts_in", defArgs st_nuts_in, defBody st_nuts_in, defScope st_nuts_in⟩,
  ⟨("lines_in", none), "lines_in", "lines_in", defArgs st_lines_in, defBody st_lines_in, defScope st_lines_in⟩,
  ⟨("parts_of", none), "parts_of", "parts_of", defArgs st_parts_of, defBody st_parts_of, defScope st_parts_of⟩,
  ⟨("price_of", none), "price_of", "price_of", defArgs st_price_of, defBody st_price_of, defScope st_price_of⟩,
  ⟨("costs_of", none), "costs_of", "costs_of", defArgs st_costs_of, defBody st_costs_of, defScope st_costs_of⟩,
  ⟨("Slab", some "owed"), "owed", "Slab.owed", defArgs st_Slab_owed, defBody st_Slab_owed, defScope st_Slab_owed⟩]
def fnL1 : List He.FnD := [⟨("Slab", some "bar_now"), "bar_now", "Slab.bar_now", defArgs st_Slab_bar_now, defBody st_Slab_bar_now, defScope st_Slab_bar_now⟩,
  ⟨("Slab", some "helpful"), "helpful", "Slab.helpful", defArgs st_Slab_helpful, defBody st_Slab_helpful, defScope st_Slab_helpful⟩,
  ⟨("_law_state", none), "_law_state", "_law_state", defArgs st__law_state, defBody st__law_state, defScope st__law_state⟩,
  ⟨("broken", none), "broken", "broken", defArgs st_broken, defBody st_broken, defScope st_broken⟩,
  ⟨("Slab", some "snap"), "snap", "Slab.snap", defArgs st_Slab_snap, defBody st_Slab_snap, defScope st_Slab_snap⟩,
  ⟨("Slab", some "nut"), "nut", "Slab.nut", defArgs st_Slab_nut, defBody st_Slab_nut, defScope st_Slab_nut⟩,
  ⟨("Slab", some "set_price"), "set_price", "Slab.set_price", defArgs st_Slab_set_price, defBody st_Slab_set_price, defScope st_Slab_set_price⟩,
  ⟨("_law_which", none), "_law_which", "_law_which", defArgs st__law_which, defBody st__law_which, defScope st__law_which⟩,
  ⟨("_law_refused", none), "_law_refused", "_law_refused", defArgs st__law_refused, defBody st__law_refused, defScope st__law_refused⟩,
  ⟨("_law_no_numbers", none), "_law_no_numbers", "_law_no_numbers", defArgs st__law_no_numbers, defBody st__law_no_numbers, defScope st__law_no_numbers⟩,
  ⟨("_law_no_pieces", none), "_law_no_pieces", "_law_no_pieces", defArgs st__law_no_pieces, defBody st__law_no_pieces, defScope st__law_no_pieces⟩,
  ⟨("_law_snaps_right", none), "_law_snaps_right", "_law_snaps_right", defArgs st__law_snaps_right, defBody st__law_snaps_right, defScope st__law_snaps_right⟩,
  ⟨("_law_rest_right", none), "_law_rest_right", "_law_rest_right", defArgs st__law_rest_right, defBody st__law_rest_right, defScope st__law_rest_right⟩,
  ⟨("law", none), "law", "law", defArgs st_law, defBody st_law, defScope st_law⟩]
def fnL : List He.FnD := fnL0 ++ fnL1
def faL0 : List He.Fa := [.keep "is_whole",
  .glo "is_whole",
  .keep "is_between",
  .glo "is_between",
  .keep "are_prices",
  .glo "are_prices",
  .keep "is_cell",
  .glo "is_cell",
  .keep "check_bar",
  .glo "check_bar",
  .keep "check_both",
  .glo "check_both",
  .keep "whole_of",
  .glo "whole_of",
  .mkr "Slab",
  .meth "Slab" "__init__",
  .glo "Slab",
  .meth "Slab" "pieces",
  .cls "Slab",
  .meth "Slab" "plan"]
def faL1 : List He.Fa := [.meth "Slab" "spent",
  .keep "size_of",
  .glo "size_of",
  .keep "pieces_of",
  .glo "pieces_of",
  .keep "by_size",
  .glo "by_size",
  .keep "nuts_in",
  .glo "nuts_in",
  .keep "lines_in",
  .glo "lines_in",
  .keep "parts_of",
  .glo "parts_of",
  .keep "price_of",
  .glo "price_of",
  .keep "costs_of",
  .glo "costs_of",
  .meth "Slab" "owed",
  .meth "Slab" "bar_now",
  .meth "Slab" "helpful"]
def faL2 : List He.Fa := [.keep "_law_state",
  .glo "_law_state",
  .keep "broken",
  .glo "broken",
  .meth "Slab" "snap",
  .meth "Slab" "nut",
  .meth "Slab" "set_price",
  .keep "_law_which",
  .glo "_law_which",
  .keep "_law_refused",
  .glo "_law_refused",
  .keep "_law_no_numbers",
  .glo "_law_no_numbers",
  .keep "_law_no_pieces",
  .glo "_law_no_pieces",
  .keep "_law_snaps_right",
  .glo "_law_snaps_right",
  .keep "_law_rest_right",
  .glo "_law_rest_right",
  .noat "Slab" "bar"]
def faL3 : List He.Fa := [.noat "Slab" "most",
  .noat "Slab" "parts",
  .noat "Slab" "paid",
  .noat "Slab" "done",
  .exm "BadBar" "BarError" true,
  .exm "BadMost" "BarError" true,
  .exm "BadPlan" "BarError" true,
  .exm "BadNumber" "BarError" true,
  .exm "BadPiece" "BarError" true,
  .exm "BadLine" "BarError" true,
  .exm "BadNut" "BarError" true,
  .exm "BadPrice" "BarError" true,
  .free "ValueError",
  .free "abs",
  .free "all",
  .free "any",
  .free "bool",
  .free "enumerate",
  .free "int",
  .free "isinstance"]
def faL4 : List He.Fa := [.free "len",
  .free "list",
  .free "range",
  .free "sorted",
  .free "sum",
  .free "tuple",
  .free "zip",
  .int "MOST_LINES" 4,
  .int "MOST_PRICE" 9,
  .int "MOST_NUTS" 3,
  .glo "BarError",
  .glo "BadBar",
  .glo "BadMost",
  .glo "BadPlan",
  .glo "BadNumber",
  .glo "BadPiece",
  .glo "BadLine",
  .glo "BadNut",
  .glo "BadPrice",
  .exc "BadBar"]
def faL5 : List He.Fa := [.exc "BadLine",
  .exc "BadMost",
  .exc "BadNut",
  .exc "BadPiece",
  .exc "BadPrice",
  .keep "law",
  .glo "law"]
def faL : List He.Fa := faL0 ++ faL1 ++ faL2 ++ faL3 ++ faL4 ++ faL5
def moreL0 : List (PySem.W.Frag → Bool) := [(mkB "_law_snaps_right"),
  (mkNeB mkL),
  (mkB "_law_rest_right"),
  (excCB "BadBar"),
  (veB "BadBar"),
  (isi2B "BadBar" "BarError" true),
  (isi2B "BadBar" "BadBar" true),
  (isi2B "BadBar" "BadMost" false),
  (isi2B "BadBar" "BadPlan" false),
  (isi2B "BadBar" "BadNumber" false),
  (isi2B "BadBar" "BadPiece" false),
  (isi2B "BadBar" "BadLine" false),
  (isi2B "BadBar" "BadNut" false),
  (isi2B "BadBar" "BadPrice" false),
  (excCB "BadMost"),
  (veB "BadMost"),
  (isi2B "BadMost" "BarError" true),
  (isi2B "BadMost" "BadBar" false),
  (isi2B "BadMost" "BadMost" true),
  (isi2B "BadMost" "BadPlan" false)]
def moreL1 : List (PySem.W.Frag → Bool) := [(isi2B "BadMost" "BadNumber" false),
  (isi2B "BadMost" "BadPiece" false),
  (isi2B "BadMost" "BadLine" false),
  (isi2B "BadMost" "BadNut" false),
  (isi2B "BadMost" "BadPrice" false),
  (excCB "BadPlan"),
  (veB "BadPlan"),
  (isi2B "BadPlan" "BarError" true),
  (isi2B "BadPlan" "BadBar" false),
  (isi2B "BadPlan" "BadMost" false),
  (isi2B "BadPlan" "BadPlan" true),
  (isi2B "BadPlan" "BadNumber" false),
  (isi2B "BadPlan" "BadPiece" false),
  (isi2B "BadPlan" "BadLine" false),
  (isi2B "BadPlan" "BadNut" false),
  (isi2B "BadPlan" "BadPrice" false),
  (excCB "BadNumber"),
  (veB "BadNumber"),
  (isi2B "BadNumber" "BarError" true),
  (isi2B "BadNumber" "BadBar" false)]
def moreL2 : List (PySem.W.Frag → Bool) := [(isi2B "BadNumber" "BadMost" false),
  (isi2B "BadNumber" "BadPlan" false),
  (isi2B "BadNumber" "BadNumber" true),
  (isi2B "BadNumber" "BadPiece" false),
  (isi2B "BadNumber" "BadLine" false),
  (isi2B "BadNumber" "BadNut" false),
  (isi2B "BadNumber" "BadPrice" false),
  (excCB "BadPiece"),
  (veB "BadPiece"),
  (isi2B "BadPiece" "BarError" true),
  (isi2B "BadPiece" "BadBar" false),
  (isi2B "BadPiece" "BadMost" false),
  (isi2B "BadPiece" "BadPlan" false),
  (isi2B "BadPiece" "BadNumber" false),
  (isi2B "BadPiece" "BadPiece" true),
  (isi2B "BadPiece" "BadLine" false),
  (isi2B "BadPiece" "BadNut" false),
  (isi2B "BadPiece" "BadPrice" false),
  (excCB "BadLine"),
  (veB "BadLine")]
def moreL3 : List (PySem.W.Frag → Bool) := [(isi2B "BadLine" "BarError" true),
  (isi2B "BadLine" "BadBar" false),
  (isi2B "BadLine" "BadMost" false),
  (isi2B "BadLine" "BadPlan" false),
  (isi2B "BadLine" "BadNumber" false),
  (isi2B "BadLine" "BadPiece" false),
  (isi2B "BadLine" "BadLine" true),
  (isi2B "BadLine" "BadNut" false),
  (isi2B "BadLine" "BadPrice" false),
  (excCB "BadNut"),
  (veB "BadNut"),
  (isi2B "BadNut" "BarError" true),
  (isi2B "BadNut" "BadBar" false),
  (isi2B "BadNut" "BadMost" false),
  (isi2B "BadNut" "BadPlan" false),
  (isi2B "BadNut" "BadNumber" false),
  (isi2B "BadNut" "BadPiece" false),
  (isi2B "BadNut" "BadLine" false),
  (isi2B "BadNut" "BadNut" true),
  (isi2B "BadNut" "BadPrice" false)]
def moreL4 : List (PySem.W.Frag → Bool) := [(excCB "BadPrice"),
  (veB "BadPrice"),
  (isi2B "BadPrice" "BarError" true),
  (isi2B "BadPrice" "BadBar" false),
  (isi2B "BadPrice" "BadMost" false),
  (isi2B "BadPrice" "BadPlan" false),
  (isi2B "BadPrice" "BadNumber" false),
  (isi2B "BadPrice" "BadPiece" false),
  (isi2B "BadPrice" "BadLine" false),
  (isi2B "BadPrice" "BadNut" false),
  (isi2B "BadPrice" "BadPrice" true),
  (mkB "law")]
def moreL : List (PySem.W.Frag → Bool) := moreL0 ++ moreL1 ++ moreL2 ++ moreL3 ++ moreL4
def looseL0 : List PySem.Str := ["BarError",
  "BadBar",
  "BadMost",
  "BadPlan",
  "BadNumber",
  "BadPiece",
  "BadLine",
  "BadNut",
  "BadPrice",
  "MOST_LINES",
  "MOST_PRICE",
  "MOST_NUTS",
  "is_whole",
  "is_between",
  "are_prices",
  "is_cell",
  "check_bar",
  "check_both",
  "whole_of",
  "pieces_of"]
def looseL1 : List PySem.Str := ["nuts_in",
  "lines_in",
  "price_of",
  "parts_of",
  "size_of",
  "by_size",
  "costs_of",
  "broken",
  "Slab",
  "_law_which",
  "_law_refused",
  "_law_no_numbers",
  "_law_no_pieces",
  "_law_state",
  "_law_snaps_right",
  "_law_rest_right"]
def looseL : List PySem.Str := looseL0 ++ looseL1
abbrev RR : PySem.W.OpenRow := PySem.W.OpenLaw.row PySem.Challenge.rw_breakbars_k11_refused_slabs
abbrev hk : PySem.W.Hook := hookT 5 faL fnL moreL mkL
def ob (s : PySem.W.SharedT) : AlT := obsT 5 faL fnL moreL mkL (HandSHeadRun.getT s)
theorem ob_eq (s : PySem.W.SharedT) : ob s = hk.obs s.abs := obsT_eq (HandSHeadRun.getT_eq s)
theorem run (w : World) : HandSHeadRun.RunEq RR (PySem.W.view RR.prog [41]) hk ob 6000 looseL w := by
  intro os
  kernel_rfl
section
variable {P : Program} {w : World} {K : PySem.W.Frag} {h : Heap} {mg : Str → Option Value} {base : Heap}
theorem da_is_whole (X : K.In h) (G : h.Ns mainGlobals mg) (c : SaysM faL fnL moreL K) : DefAt K mg "is_whole" (topS 14) ["thing"] := by
  obtain ⟨oc, od, osl, kV, doc, pm, an, cdv, ct, l, cd⟩ := c.1.def_ 0 (d := ⟨("is_whole", none), "is_whole", "is_whole", defArgs st_is_whole, defBody st_is_whole, defScope st_is_whole⟩) rfl
  have F := fun_mk (st := topS 14) l cd (He.keep_ok (c.1.fact 0 (f := .keep "is_whole") rfl))
  exact ⟨_, _, F, He.glo_ok X G (c.1.fact 1 (f := .glo "is_whole") rfl), F.binds fun _ _ _ _ _ _ us hl => match us, hl with | [_], _ => rfl⟩
theorem da_is_between (X : K.In h) (G : h.Ns mainGlobals mg) (c : SaysM faL fnL moreL K) : DefAt K mg "is_between" (topS 15) ["thing", "least", "most"] := by
  obtain ⟨oc, od, osl, kV, doc, pm, an, cdv, ct, l, cd⟩ := c.1.def_ 1 (d := ⟨("is_between", none), "is_between", "is_between", defArgs st_is_between, defBody st_is_between, defScope st_is_between⟩) rfl
  have F := fun_mk (st := topS 15) l cd (He.keep_ok (c.1.fact 2 (f := .keep "is_between") rfl))
  exact ⟨_, _, F, He.glo_ok X G (c.1.fact 3 (f := .glo "is_between") rfl), F.binds fun _ _ _ _ _ _ us hl => match us, hl with | [_, _, _], _ => rfl⟩
theorem da_are_prices (X : K.In h) (G : h.Ns mainGlobals mg) (c : SaysM faL fnL moreL K) : DefAt K mg "are_prices" (topS 16) ["thing"] := by
  obtain ⟨oc, od, osl, kV, doc, pm, an, cdv, ct, l, cd⟩ := c.1.def_ 2 (d := ⟨("are_prices", none), "are_prices", "are_prices", defArgs st_are_prices, defBody st_are_prices, defScope st_are_prices⟩) rfl
  have F := fun_mk (st := topS 16) l cd (He.keep_ok (c.1.fact 4 (f := .keep "are_prices") rfl))
  exact ⟨_, _, F, He.glo_ok X G (c.1.fact 5 (f := .glo "are_prices") rfl), F.binds fun _ _ _ _ _ _ us hl => match us, hl with | [_], _ => rfl⟩
theorem da_is_cell (X : K.In h) (G : h.Ns mainGlobals mg) (c : SaysM faL fnL moreL K) : DefAt K mg "is_cell" (topS 17) ["thing", "wide", "high"] := by
  obtain ⟨oc, od, osl, kV, doc, pm, an, cdv, ct, l, cd⟩ := c.1.def_ 3 (d := ⟨("is_cell", none), "is_cell", "is_cell", defArgs st_is_cell, defBody st_is_cell, defScope st_is_cell⟩) rfl
  have F := fun_mk (st := topS 17) l cd (He.keep_ok (c.1.fact 6 (f := .keep "is_cell") rfl))
  exact ⟨_, _, F, He.glo_ok X G (c.1.fact 7 (f := .glo "is_cell") rfl), F.binds fun _ _ _ _ _ _ us hl => match us, hl with | [_, _, _], _ => rfl⟩
theorem da_check_bar (X : K.In h) (G : h.Ns mainGlobals mg) (c : SaysM faL fnL moreL K) : DefAt K mg "check_bar" (topS 18) ["bar"] := by
  obtain ⟨oc, od, osl, kV, doc, pm, an, cdv, ct, l, cd⟩ := c.1.def_ 4 (d := ⟨("check_bar", none), "check_bar", "check_bar", defArgs st_check_bar, defBody st_check_bar, defScope st_check_bar⟩) rfl
  have F := fun_mk (st := topS 18) l cd (He.keep_ok (c.1.fact 8 (f := .keep "check_bar") rfl))
  exact ⟨_, _, F, He.glo_ok X G (c.1.fact 9 (f := .glo "check_bar") rfl), F.binds fun _ _ _ _ _ _ us hl => match us, hl with | [_], _ => rfl⟩
theorem da_check_both (X : K.In h) (G : h.Ns mainGlobals mg) (c : SaysM faL fnL moreL K) : DefAt K mg "check_both" (topS 19) ["bar", "most"] := by
  obtain ⟨oc, od, osl, kV, doc, pm, an, cdv, ct, l, cd⟩ := c.1.def_ 5 (d := ⟨("check_both", none), "check_both", "check_both", defArgs st_check_both, defBody st_check_both, defScope st_check_both⟩) rfl
  have F := fun_mk (st := topS 19) l cd (He.keep_ok (c.1.fact 10 (f := .keep "check_both") rfl))
  exact ⟨_, _, F, He.glo_ok X G (c.1.fact 11 (f := .glo "check_both") rfl), F.binds fun _ _ _ _ _ _ us hl => match us, hl with | [_, _], _ => rfl⟩
theorem da_whole_of (X : K.In h) (G : h.Ns mainGlobals mg) (c : SaysM faL fnL moreL K) : DefAt K mg "whole_of" (topS 21) ["bar"] := by
  obtain ⟨oc, od, osl, kV, doc, pm, an, cdv, ct, l, cd⟩ := c.1.def_ 6 (d := ⟨("whole_of", none), "whole_of", "whole_of", defArgs st_whole_of, defBody st_whole_of, defScope st_whole_of⟩) rfl
  have F := fun_mk (st := topS 21) l cd (He.keep_ok (c.1.fact 12 (f := .keep "whole_of") rfl))
  exact ⟨_, _, F, He.glo_ok X G (c.1.fact 13 (f := .glo "whole_of") rfl), F.binds fun _ _ _ _ _ _ us hl => match us, hl with | [_], _ => rfl⟩
theorem da_Slab___init__ (X : K.In h) (G : h.Ns mainGlobals mg) (c : SaysM faL fnL moreL K) : InitAt K mg (cAK K 5) "Slab" "Slab.__init__" (inClass (topS 32) 0) ["self", "bar", "most"] := by
  obtain ⟨oc, od, osl, kV, doc, pm, an, cdv, ct, l, cd⟩ := c.1.def_ 7 (d := ⟨("Slab", some "__init__"), "__init__", "Slab.__init__", defArgs st_Slab___init__, defBody st_Slab___init__, defScope st_Slab___init__⟩) rfl
  have mk := He.mkr_ok (c.1.fact 14 (f := .mkr "Slab") rfl)
  have F := fun_mk (st := inClass (topS 32) 0) l cd (He.meth_ok (c.1.fact 15 (f := .meth "Slab" "__init__") rfl)).kp
  exact ⟨_, _, F, He.glo_ok X G (c.1.fact 16 (f := .glo "Slab") rfl), mk, F.binds fun _ _ _ _ _ _ us hl => match us, hl with | [_, _, _], _ => rfl⟩
theorem da_Slab_pieces (X : K.In h) (G : h.Ns mainGlobals mg) (c : SaysM faL fnL moreL K) : MethAt K (cAK K 5) "pieces" "Slab.pieces" (inClass (topS 32) 6) ["self"] := by
  obtain ⟨oc, od, osl, kV, doc, pm, an, cdv, ct, l, cd⟩ := c.1.def_ 8 (d := ⟨("Slab", some "pieces"), "pieces", "Slab.pieces", defArgs st_Slab_pieces, defBody st_Slab_pieces, defScope st_Slab_pieces⟩) rfl
  have me := He.meth_ok (c.1.fact 17 (f := .meth "Slab" "pieces") rfl)
  have F := fun_mk (st := inClass (topS 32) 6) l cd me.kp
  exact ⟨_, _, F, He.cls_ok (c.1.fact 18 (f := .cls "Slab") rfl), me, F.binds fun _ _ _ _ _ _ us hl => match us, hl with | [_], _ => rfl⟩
theorem da_Slab_plan (X : K.In h) (G : h.Ns mainGlobals mg) (c : SaysM faL fnL moreL K) : MethAt K (cAK K 5) "plan" "Slab.plan" (inClass (topS 32) 8) ["self"] := by
  obtain ⟨oc, od, osl, kV, doc, pm, an, cdv, ct, l, cd⟩ := c.1.def_ 9 (d := ⟨("Slab", some "plan"), "plan", "Slab.plan", defArgs st_Slab_plan, defBody st_Slab_plan, defScope st_Slab_plan⟩) rfl
  have me := He.meth_ok (c.1.fact 19 (f := .meth "Slab" "plan") rfl)
  have F := fun_mk (st := inClass (topS 32) 8) l cd me.kp
  exact ⟨_, _, F, He.cls_ok (c.1.fact 18 (f := .cls "Slab") rfl), me, F.binds fun _ _ _ _ _ _ us hl => match us, hl with | [_], _ => rfl⟩
theorem da_Slab_spent (X : K.In h) (G : h.Ns mainGlobals mg) (c : SaysM faL fnL moreL K) : MethAt K (cAK K 5) "spent" "Slab.spent" (inClass (topS 32) 7) ["self"] := by
  obtain ⟨oc, od, osl, kV, doc, pm, an, cdv, ct, l, cd⟩ := c.1.def_ 10 (d := ⟨("Slab", some "spent"), "spent", "Slab.spent", defArgs st_Slab_spent, defBody st_Slab_spent, defScope st_Slab_spent⟩) rfl
  have me := He.meth_ok (c.1.fact 20 (f := .meth "Slab" "spent") rfl)
  have F := fun_mk (st := inClass (topS 32) 7) l cd me.kp
  exact ⟨_, _, F, He.cls_ok (c.1.fact 18 (f := .cls "Slab") rfl), me, F.binds fun _ _ _ _ _ _ us hl => match us, hl with | [_], _ => rfl⟩
theorem da_size_of (X : K.In h) (G : h.Ns mainGlobals mg) (c : SaysM faL fnL moreL K) : DefAt K mg "size_of" (topS 27) ["piece"] := by
  obtain ⟨oc, od, osl, kV, doc, pm, an, cdv, ct, l, cd⟩ := c.1.def_ 11 (d := ⟨("size_of", none), "size_of", "size_of", defArgs st_size_of, defBody st_size_of, defScope st_size_of⟩) rfl
  have F := fun_mk (st := topS 27) l cd (He.keep_ok (c.1.fact 21 (f := .keep "size_of") rfl))
  exact ⟨_, _, F, He.glo_ok X G (c.1.fact 22 (f := .glo "size_of") rfl), F.binds fun _ _ _ _ _ _ us hl => match us, hl with | [_], _ => rfl⟩
theorem da_pieces_of (X : K.In h) (G : h.Ns mainGlobals mg) (c : SaysM faL fnL moreL K) : DefAt K mg "pieces_of" (topS 22) ["bar"] := by
  obtain ⟨oc, od, osl, kV, doc, pm, an, cdv, ct, l, cd⟩ := c.1.def_ 12 (d := ⟨("pieces_of", none), "pieces_of", "pieces_of", defArgs st_pieces_of, defBody st_pieces_of, defScope st_pieces_of⟩) rfl
  have F := fun_mk (st := topS 22) l cd (He.keep_ok (c.1.fact 23 (f := .keep "pieces_of") rfl))
  exact ⟨_, _, F, He.glo_ok X G (c.1.fact 24 (f := .glo "pieces_of") rfl), F.binds fun _ _ _ _ _ _ us hl => match us, hl with | [_], _ => rfl⟩
theorem da_by_size (X : K.In h) (G : h.Ns mainGlobals mg) (c : SaysM faL fnL moreL K) : DefAt K mg "by_size" (topS 28) ["bar"] := by
  obtain ⟨oc, od, osl, kV, doc, pm, an, cdv, ct, l, cd⟩ := c.1.def_ 13 (d := ⟨("by_size", none), "by_size", "by_size", defArgs st_by_size, defBody st_by_size, defScope st_by_size⟩) rfl
  have F := fun_mk (st := topS 28) l cd (He.keep_ok (c.1.fact 25 (f := .keep "by_size") rfl))
  exact ⟨_, _, F, He.glo_ok X G (c.1.fact 26 (f := .glo "by_size") rfl), F.binds fun _ _ _ _ _ _ us hl => match us, hl with | [_], _ => rfl⟩
theorem da_nuts_in (X : K.In h) (G : h.Ns mainGlobals mg) (c : SaysM faL fnL moreL K) : DefAt K mg "nuts_in" (topS 23) ["bar", "piece"] := by
  obtain ⟨oc, od, osl, kV, doc, pm, an, cdv, ct, l, cd⟩ := c.1.def_ 14 (d := ⟨("nuts_in", none), "nuts_in", "nuts_in", defArgs st_nuts_in, defBody st_nuts_in, defScope st_nuts_in⟩) rfl
  have F := fun_mk (st := topS 23) l cd (He.keep_ok (c.1.fact 27 (f := .keep "nuts_in") rfl))
  exact ⟨_, _, F, He.glo_ok X G (c.1.fact 28 (f := .glo "nuts_in") rfl), F.binds fun _ _ _ _ _ _ us hl => match us, hl with | [_, _], _ => rfl⟩
theorem da_lines_in (X : K.In h) (G : h.Ns mainGlobals mg) (c : SaysM faL fnL moreL K) : DefAt K mg "lines_in" (topS 24) ["piece"] := by
  obtain ⟨oc, od, osl, kV, doc, pm, an, cdv, ct, l, cd⟩ := c.1.def_ 15 (d := ⟨("lines_in", none), "lines_in", "lines_in", defArgs st_lines_in, defBody st_lines_in, defScope st_lines_in⟩) rfl
  have F := fun_mk (st := topS 24) l cd (He.keep_ok (c.1.fact 29 (f := .keep "lines_in") rfl))
  exact ⟨_, _, F, He.glo_ok X G (c.1.fact 30 (f := .glo "lines_in") rfl), F.binds fun _ _ _ _ _ _ us hl => match us, hl with | [_], _ => rfl⟩
theorem da_parts_of (X : K.In h) (G : h.Ns mainGlobals mg) (c : SaysM faL fnL moreL K) : DefAt K mg "parts_of" (topS 26) ["piece", "way", "line"] := by
  obtain ⟨oc, od, osl, kV, doc, pm, an, cdv, ct, l, cd⟩ := c.1.def_ 16 (d := ⟨("parts_of", none), "parts_of", "parts_of", defArgs st_parts_of, defBody st_parts_of, defScope st_parts_of⟩) rfl
  have F := fun_mk (st := topS 26) l cd (He.keep_ok (c.1.fact 31 (f := .keep "parts_of") rfl))
  exact ⟨_, _, F, He.glo_ok X G (c.1.fact 32 (f := .glo "parts_of") rfl), F.binds fun _ _ _ _ _ _ us hl => match us, hl with | [_, _, _], _ => rfl⟩
theorem da_price_of (X : K.In h) (G : h.Ns mainGlobals mg) (c : SaysM faL fnL moreL K) : DefAt K mg "price_of" (topS 25) ["bar", "way", "line"] := by
  obtain ⟨oc, od, osl, kV, doc, pm, an, cdv, ct, l, cd⟩ := c.1.def_ 17 (d := ⟨("price_of", none), "price_of", "price_of", defArgs st_price_of, defBody st_price_of, defScope st_price_of⟩) rfl
  have F := fun_mk (st := topS 25) l cd (He.keep_ok (c.1.fact 33 (f := .keep "price_of") rfl))
  exact ⟨_, _, F, He.glo_ok X G (c.1.fact 34 (f := .glo "price_of") rfl), F.binds fun _ _ _ _ _ _ us hl => match us, hl with | [_, _, _], _ => rfl⟩
theorem da_costs_of (X : K.In h) (G : h.Ns mainGlobals mg) (c : SaysM faL fnL moreL K) : DefAt K mg "costs_of" (topS 29) ["bar", "most"] := by
  obtain ⟨oc, od, osl, kV, doc, pm, an, cdv, ct, l, cd⟩ := c.1.def_ 18 (d := ⟨("costs_of", none), "costs_of", "costs_of", defArgs st_costs_of, defBody st_costs_of, defScope st_costs_of⟩) rfl
  have F := fun_mk (st := topS 29) l cd (He.keep_ok (c.1.fact 35 (f := .keep "costs_of") rfl))
  exact ⟨_, _, F, He.glo_ok X G (c.1.fact 36 (f := .glo "costs_of") rfl), F.binds fun _ _ _ _ _ _ us hl => match us, hl with | [_, _], _ => rfl⟩
theorem da_Slab_owed (X : K.In h) (G : h.Ns mainGlobals mg) (c : SaysM faL fnL moreL K) : MethAt K (cAK K 5) "owed" "Slab.owed" (inClass (topS 32) 1) ["self"] := by
  obtain ⟨oc, od, osl, kV, doc, pm, an, cdv, ct, l, cd⟩ := c.1.def_ 19 (d := ⟨("Slab", some "owed"), "owed", "Slab.owed", defArgs st_Slab_owed, defBody st_Slab_owed, defScope st_Slab_owed⟩) rfl
  have me := He.meth_ok (c.1.fact 37 (f := .meth "Slab" "owed") rfl)
  have F := fun_mk (st := inClass (topS 32) 1) l cd me.kp
  exact ⟨_, _, F, He.cls_ok (c.1.fact 18 (f := .cls "Slab") rfl), me, F.binds fun _ _ _ _ _ _ us hl => match us, hl with | [_], _ => rfl⟩
theorem da_Slab_bar_now (X : K.In h) (G : h.Ns mainGlobals mg) (c : SaysM faL fnL moreL K) : MethAt K (cAK K 5) "bar_now" "Slab.bar_now" (inClass (topS 32) 9) ["self"] := by
  obtain ⟨oc, od, osl, kV, doc, pm, an, cdv, ct, l, cd⟩ := c.1.def_ 20 (d := ⟨("Slab", some "bar_now"), "bar_now", "Slab.bar_now", defArgs st_Slab_bar_now, defBody st_Slab_bar_now, defScope st_Slab_bar_now⟩) rfl
  have me := He.meth_ok (c.1.fact 38 (f := .meth "Slab" "bar_now") rfl)
  have F := fun_mk (st := inClass (topS 32) 9) l cd me.kp
  exact ⟨_, _, F, He.cls_ok (c.1.fact 18 (f := .cls "Slab") rfl), me, F.binds fun _ _ _ _ _ _ us hl => match us, hl with | [_], _ => rfl⟩
theorem da_Slab_helpful (X : K.In h) (G : h.Ns mainGlobals mg) (c : SaysM faL fnL moreL K) : MethAt K (cAK K 5) "helpful" "Slab.helpful" (inClass (topS 32) 5) ["self"] := by
  obtain ⟨oc, od, osl, kV, doc, pm, an, cdv, ct, l, cd⟩ := c.1.def_ 21 (d := ⟨("Slab", some "helpful"), "helpful", "Slab.helpful", defArgs st_Slab_helpful, defBody st_Slab_helpful, defScope st_Slab_helpful⟩) rfl
  have me := He.meth_ok (c.1.fact 39 (f := .meth "Slab" "helpful") rfl)
  have F := fun_mk (st := inClass (topS 32) 5) l cd me.kp
  exact ⟨_, _, F, He.cls_ok (c.1.fact 18 (f := .cls "Slab") rfl), me, F.binds fun _ _ _ _ _ _ us hl => match us, hl with | [_], _ => rfl⟩
theorem da__law_state (X : K.In h) (G : h.Ns mainGlobals mg) (c : SaysM faL fnL moreL K) : DefAt K mg "_law_state" (topS 38) ["_law_slab"] := by
  obtain ⟨oc, od, osl, kV, doc, pm, an, cdv, ct, l, cd⟩ := c.1.def_ 22 (d := ⟨("_law_state", none), "_law_state", "_law_state", defArgs st__law_state, defBody st__law_state, defScope st__law_state⟩) rfl
  have F := fun_mk (st := topS 38) l cd (He.keep_ok (c.1.fact 40 (f := .keep "_law_state") rfl))
  exact ⟨_, _, F, He.glo_ok X G (c.1.fact 41 (f := .glo "_law_state") rfl), F.binds fun _ _ _ _ _ _ us hl => match us, hl with | [_], _ => rfl⟩
theorem da_broken (X : K.In h) (G : h.Ns mainGlobals mg) (c : SaysM faL fnL moreL K) : DefAt K mg "broken" (topS 30) ["pieces", "one"] := by
  obtain ⟨oc, od, osl, kV, doc, pm, an, cdv, ct, l, cd⟩ := c.1.def_ 23 (d := ⟨("broken", none), "broken", "broken", defArgs st_broken, defBody st_broken, defScope st_broken⟩) rfl
  have F := fun_mk (st := topS 30) l cd (He.keep_ok (c.1.fact 42 (f := .keep "broken") rfl))
  exact ⟨_, _, F, He.glo_ok X G (c.1.fact 43 (f := .glo "broken") rfl), F.binds fun _ _ _ _ _ _ us hl => match us, hl with | [_, _], _ => rfl⟩
theorem da_Slab_snap (X : K.In h) (G : h.Ns mainGlobals mg) (c : SaysM faL fnL moreL K) : MethAt K (cAK K 5) "snap" "Slab.snap" (inClass (topS 32) 2) ["self", "piece", "way", "line"] := by
  obtain ⟨oc, od, osl, kV, doc, pm, an, cdv, ct, l, cd⟩ := c.1.def_ 24 (d := ⟨("Slab", some "snap"), "snap", "Slab.snap", defArgs st_Slab_snap, defBody st_Slab_snap, defScope st_Slab_snap⟩) rfl
  have me := He.meth_ok (c.1.fact 44 (f := .meth "Slab" "snap") rfl)
  have F := fun_mk (st := inClass (topS 32) 2) l cd me.kp
  exact ⟨_, _, F, He.cls_ok (c.1.fact 18 (f := .cls "Slab") rfl), me, F.binds fun _ _ _ _ _ _ us hl => match us, hl with | [_, _, _, _], _ => rfl⟩
theorem da_Slab_nut (X : K.In h) (G : h.Ns mainGlobals mg) (c : SaysM faL fnL moreL K) : MethAt K (cAK K 5) "nut" "Slab.nut" (inClass (topS 32) 3) ["self", "column", "row"] := by
  obtain ⟨oc, od, osl, kV, doc, pm, an, cdv, ct, l, cd⟩ := c.1.def_ 25 (d := ⟨("Slab", some "nut"), "nut", "Slab.nut", defArgs st_Slab_nut, defBody st_Slab_nut, defScope st_Slab_nut⟩) rfl
  have me := He.meth_ok (c.1.fact 45 (f := .meth "Slab" "nut") rfl)
  have F := fun_mk (st := inClass (topS 32) 3) l cd me.kp
  exact ⟨_, _, F, He.cls_ok (c.1.fact 18 (f := .cls "Slab") rfl), me, F.binds fun _ _ _ _ _ _ us hl => match us, hl with | [_, _, _], _ => rfl⟩
theorem da_Slab_set_price (X : K.In h) (G : h.Ns mainGlobals mg) (c : SaysM faL fnL moreL K) : MethAt K (cAK K 5) "set_price" "Slab.set_price" (inClass (topS 32) 4) ["self", "way", "line", "price"] := by
  obtain ⟨oc, od, osl, kV, doc, pm, an, cdv, ct, l, cd⟩ := c.1.def_ 26 (d := ⟨("Slab", some "set_price"), "set_price", "Slab.set_price", defArgs st_Slab_set_price, defBody st_Slab_set_price, defScope st_Slab_set_price⟩) rfl
  have me := He.meth_ok (c.1.fact 46 (f := .meth "Slab" "set_price") rfl)
  have F := fun_mk (st := inClass (topS 32) 4) l cd me.kp
  exact ⟨_, _, F, He.cls_ok (c.1.fact 18 (f := .cls "Slab") rfl), me, F.binds fun _ _ _ _ _ _ us hl => match us, hl with | [_, _, _, _], _ => rfl⟩
theorem da__law_which (X : K.In h) (G : h.Ns mainGlobals mg) (c : SaysM faL fnL moreL K) : DefAt K mg "_law_which" (topS 34) ["_law_error"] := by
  obtain ⟨oc, od, osl, kV, doc, pm, an, cdv, ct, l, cd⟩ := c.1.def_ 27 (d := ⟨("_law_which", none), "_law_which", "_law_which", defArgs st__law_which, defBody st__law_which, defScope st__law_which⟩) rfl
  have F := fun_mk (st := topS 34) l cd (He.keep_ok (c.1.fact 47 (f := .keep "_law_which") rfl))
  exact ⟨_, _, F, He.glo_ok X G (c.1.fact 48 (f := .glo "_law_which") rfl), F.binds fun _ _ _ _ _ _ us hl => match us, hl with | [_], _ => rfl⟩
theorem da__law_refused (X : K.In h) (G : h.Ns mainGlobals mg) (c : SaysM faL fnL moreL K) : DefAt K mg "_law_refused" (topS 35) ["_law_ask", "_law_things", "_law_due"] := by
  obtain ⟨oc, od, osl, kV, doc, pm, an, cdv, ct, l, cd⟩ := c.1.def_ 28 (d := ⟨("_law_refused", none), "_law_refused", "_law_refused", defArgs st__law_refused, defBody st__law_refused, defScope st__law_refused⟩) rfl
  have F := fun_mk (st := topS 35) l cd (He.keep_ok (c.1.fact 49 (f := .keep "_law_refused") rfl))
  exact ⟨_, _, F, He.glo_ok X G (c.1.fact 50 (f := .glo "_law_refused") rfl), F.binds fun _ _ _ _ _ _ us hl => match us, hl with | [_, _, _], _ => rfl⟩
theorem da__law_no_numbers (X : K.In h) (G : h.Ns mainGlobals mg) (c : SaysM faL fnL moreL K) : DefAt K mg "_law_no_numbers" (topS 36) ["_law_more"] := by
  obtain ⟨oc, od, osl, kV, doc, pm, an, cdv, ct, l, cd⟩ := c.1.def_ 29 (d := ⟨("_law_no_numbers", none), "_law_no_numbers", "_law_no_numbers", defArgs st__law_no_numbers, defBody st__law_no_numbers, defScope st__law_no_numbers⟩) rfl
  have F := fun_mk (st := topS 36) l cd (He.keep_ok (c.1.fact 51 (f := .keep "_law_no_numbers") rfl))
  exact ⟨_, _, F, He.glo_ok X G (c.1.fact 52 (f := .glo "_law_no_numbers") rfl), F.binds fun _ _ _ _ _ _ us hl => match us, hl with | [_], _ => rfl⟩
theorem da__law_no_pieces (X : K.In h) (G : h.Ns mainGlobals mg) (c : SaysM faL fnL moreL K) : DefAt K mg "_law_no_pieces" (topS 37) ["_law_more"] := by
  obtain ⟨oc, od, osl, kV, doc, pm, an, cdv, ct, l, cd⟩ := c.1.def_ 30 (d := ⟨("_law_no_pieces", none), "_law_no_pieces", "_law_no_pieces", defArgs st__law_no_pieces, defBody st__law_no_pieces, defScope st__law_no_pieces⟩) rfl
  have F := fun_mk (st := topS 37) l cd (He.keep_ok (c.1.fact 53 (f := .keep "_law_no_pieces") rfl))
  exact ⟨_, _, F, He.glo_ok X G (c.1.fact 54 (f := .glo "_law_no_pieces") rfl), F.binds fun _ _ _ _ _ _ us hl => match us, hl with | [_], _ => rfl⟩
theorem da__law_snaps_right (X : K.In h) (G : h.Ns mainGlobals mg) (c : SaysM faL fnL moreL K) (TB : ∀ p ∈ csK mkL K, LamX.TabB h mg p.1 p.2) : DefAtL K mg h (tabsK mkL K) "_law_snaps_right" (topS 39) ["_law_slab", "_law_more"] := by
  obtain ⟨oc, od, osl, kV, doc, pm, an, cdv, ct, l, cd⟩ := c.1.def_ 31 (d := ⟨("_law_snaps_right", none), "_law_snaps_right", "_law_snaps_right", defArgs st__law_snaps_right, defBody st__law_snaps_right, defScope st__law_snaps_right⟩) rfl
  have ec := mk_code (c.more 0 (f := (mkB "_law_snaps_right")) rfl) l
  have ec : cdv = .ref (cT K "_law_snaps_right") := ec
  subst ec
  have F := fun_mk (st := topS 39) l cd (He.keep_ok (c.1.fact 55 (f := .keep "_law_snaps_right") rfl))
  exact ⟨_, _, _, _, _, _, _, _, _, _, pT K "_law_snaps_right", l, cd, He.keep_ok (c.1.fact 55 (f := .keep "_law_snaps_right") rfl), He.glo_ok X G (c.1.fact 56 (f := .glo "_law_snaps_right") rfl), F.binds fun _ _ _ _ _ _ us hl => match us, hl with | [_, _], _ => rfl, TB _ (mk_cs (mk := mkL) (by decide)), mk_tab (mk := mkL) (by decide), mk_un (mk := mkL) (c.more 1 (f := (mkNeB mkL)) rfl) (by decide)⟩
theorem da__law_rest_right (X : K.In h) (G : h.Ns mainGlobals mg) (c : SaysM faL fnL moreL K) (TB : ∀ p ∈ csK mkL K, LamX.TabB h mg p.1 p.2) : DefAtL K mg h (tabsK mkL K) "_law_rest_right" (topS 40) ["_law_slab", "_law_more"] := by
  obtain ⟨oc, od, osl, kV, doc, pm, an, cdv, ct, l, cd⟩ := c.1.def_ 32 (d := ⟨("_law_rest_right", none), "_law_rest_right", "_law_rest_right", defArgs st__law_rest_right, defBody st__law_rest_right, defScope st__law_rest_right⟩) rfl
  have ec := mk_code (c.more 2 (f := (mkB "_law_rest_right")) rfl) l
  have ec : cdv = .ref (cT K "_law_rest_right") := ec
  subst ec
  have F := fun_mk (st := topS 40) l cd (He.keep_ok (c.1.fact 57 (f := .keep "_law_rest_right") rfl))
  exact ⟨_, _, _, _, _, _, _, _, _, _, pT K "_law_rest_right", l, cd, He.keep_ok (c.1.fact 57 (f := .keep "_law_rest_right") rfl), He.glo_ok X G (c.1.fact 58 (f := .glo "_law_rest_right") rfl), F.binds fun _ _ _ _ _ _ us hl => match us, hl with | [_, _], _ => rfl, TB _ (mk_cs (mk := mkL) (by decide)), mk_tab (mk := mkL) (by decide), mk_un (mk := mkL) (c.more 1 (f := (mkNeB mkL)) rfl) (by decide)⟩
theorem facts_cls (c : SaysM faL fnL moreL K) : ClsT K (cAK K) clsF := ⟨fun k f hf => by
  unfold clsF at hf
  split at hf
  · simp only [List.mem_cons, List.not_mem_nil, or_false] at hf
    have cl := He.cls_ok (c.1.fact 18 (f := .cls "Slab") rfl)
    rcases hf with rfl | rfl | rfl | rfl | rfl
    · exact ⟨cl, He.noat_ok (c.1.fact 59 (f := .noat "Slab" "bar") rfl)⟩
    · exact ⟨cl, He.noat_ok (c.1.fact 60 (f := .noat "Slab" "most") rfl)⟩
    · exact ⟨cl, He.noat_ok (c.1.fact 61 (f := .noat "Slab" "parts") rfl)⟩
    · exact ⟨cl, He.noat_ok (c.1.fact 62 (f := .noat "Slab" "paid") rfl)⟩
    · exact ⟨cl, He.noat_ok (c.1.fact 63 (f := .noat "Slab" "done") rfl)⟩
  · cases hf⟩
theorem facts_isi (c : SaysM faL fnL moreL K) : ClsI K (cAK K) clsB := ⟨fun k l b hb => by
  unfold clsB at hb
  cases hb⟩
theorem facts_exi (c : SaysM faL fnL moreL K) : ExcI K (cAK K) exB := ⟨fun k l b hb => by
  unfold exB at hb
  split at hb
  case isFalse => cases hb
  rename_i hk
  have hk : k = 11 ∨ k = 12 ∨ k = 13 ∨ k = 14 ∨ k = 15 ∨ k = 16 ∨ k = 17 ∨ k = 18 := by omega
  have hl : l = 1001 ∨ l = 10 ∨ (10 < l ∧ l < 19) := by
    split at hb
    · exact .inl (by assumption)
    split at hb
    · exact .inr (.inl (by assumption))
    split at hb
    · exact .inr (.inr (by assumption))
    · cases hb
  have hl : l = 1001 ∨ l = 10 ∨ l = 11 ∨ l = 12 ∨ l = 13 ∨ l = 14 ∨ l = 15 ∨ l = 16 ∨ l = 17 ∨ l = 18 := by omega
  rcases hk with rfl | rfl | rfl | rfl | rfl | rfl | rfl | rfl <;> rcases hl with rfl | rfl | rfl | rfl | rfl | rfl | rfl | rfl | rfl | rfl
  · cases hb; exact ⟨excC_ok (c.more 3 (f := (excCB "BadBar")) rfl), (fun h => absurd rfl h.2), (fun _ => ve_ok (c.more 4 (f := (veB "BadBar")) rfl)), (by decide)⟩
  · cases hb; exact ⟨excC_ok (c.more 3 (f := (excCB "BadBar")) rfl), (fun _ => isi2_ok (c.more 5 (f := (isi2B "BadBar" "BarError" true)) rfl)), (fun h => absurd h (by decide)), (by decide)⟩
  · cases hb; exact ⟨excC_ok (c.more 3 (f := (excCB "BadBar")) rfl), (fun _ => isi2_ok (c.more 6 (f := (isi2B "BadBar" "BadBar" true)) rfl)), (fun h => absurd h (by decide)), (by decide)⟩
  · cases hb; exact ⟨excC_ok (c.more 3 (f := (excCB "BadBar")) rfl), (fun _ => isi2_ok (c.more 7 (f := (isi2B "BadBar" "BadMost" false)) rfl)), (fun h => absurd h (by decide)), (by decide)⟩
  · cases hb; exact ⟨excC_ok (c.more 3 (f := (excCB "BadBar")) rfl), (fun _ => isi2_ok (c.more 8 (f := (isi2B "BadBar" "BadPlan" false)) rfl)), (fun h => absurd h (by decide)), (by decide)⟩
  · cases hb; exact ⟨excC_ok (c.more 3 (f := (excCB "BadBar")) rfl), (fun _ => isi2_ok (c.more 9 (f := (isi2B "BadBar" "BadNumber" false)) rfl)), (fun h => absurd h (by decide)), (by decide)⟩
  · cases hb; exact ⟨excC_ok (c.more 3 (f := (excCB "BadBar")) rfl), (fun _ => isi2_ok (c.more 10 (f := (isi2B "BadBar" "BadPiece" false)) rfl)), (fun h => absurd h (by decide)), (by decide)⟩
  · cases hb; exact ⟨excC_ok (c.more 3 (f := (excCB "BadBar")) rfl), (fun _ => isi2_ok (c.more 11 (f := (isi2B "BadBar" "BadLine" false)) rfl)), (fun h => absurd h (by decide)), (by decide)⟩
  · cases hb; exact ⟨excC_ok (c.more 3 (f := (excCB "BadBar")) rfl), (fun _ => isi2_ok (c.more 12 (f := (isi2B "BadBar" "BadNut" false)) rfl)), (fun h => absurd h (by decide)), (by decide)⟩
  · cases hb; exact ⟨excC_ok (c.more 3 (f := (excCB "BadBar")) rfl), (fun _ => isi2_ok (c.more 13 (f := (isi2B "BadBar" "BadPrice" false)) rfl)), (fun h => absurd h (by decide)), (by decide)⟩
  · cases hb; exact ⟨excC_ok (c.more 14 (f := (excCB "BadMost")) rfl), (fun h => absurd rfl h.2), (fun _ => ve_ok (c.more 15 (f := (veB "BadMost")) rfl)), (by decide)⟩
  · cases hb; exact ⟨excC_ok (c.more 14 (f := (excCB "BadMost")) rfl), (fun _ => isi2_ok (c.more 16 (f := (isi2B "BadMost" "BarError" true)) rfl)), (fun h => absurd h (by decide)), (by decide)⟩
  · cases hb; exact ⟨excC_ok (c.more 14 (f := (excCB "BadMost")) rfl), (fun _ => isi2_ok (c.more 17 (f := (isi2B "BadMost" "BadBar" false)) rfl)), (fun h => absurd h (by decide)), (by decide)⟩
  · cases hb; exact ⟨excC_ok (c.more 14 (f := (excCB "BadMost")) rfl), (fun _ => isi2_ok (c.more 18 (f := (isi2B "BadMost" "BadMost" true)) rfl)), (fun h => absurd h (by decide)), (by decide)⟩
  · cases hb; exact ⟨excC_ok (c.more 14 (f := (excCB "BadMost")) rfl), (fun _ => isi2_ok (c.more 19 (f := (isi2B "BadMost" "BadPlan" false)) rfl)), (fun h => absurd h (by decide)), (by decide)⟩
  · cases hb; exact ⟨excC_ok (c.more 14 (f := (excCB "BadMost")) rfl), (fun _ => isi2_ok (c.more 20 (f := (isi2B "BadMost" "BadNumber" false)) rfl)), (fun h => absurd h (by decide)), (by decide)⟩
  · cases hb; exact ⟨excC_ok (c.more 14 (f := (excCB "BadMost")) rfl), (fun _ => isi2_ok (c.more 21 (f := (isi2B "BadMost" "BadPiece" false)) rfl)), (fun h => absurd h (by decide)), (by decide)⟩
  · cases hb; exact ⟨excC_ok (c.more 14 (f := (excCB "BadMost")) rfl), (fun _ => isi2_ok (c.more 22 (f := (isi2B "BadMost" "BadLine" false)) rfl)), (fun h => absurd h (by decide)), (by decide)⟩
  · cases hb; exact ⟨excC_ok (c.more 14 (f := (excCB "BadMost")) rfl), (fun _ => isi2_ok (c.more 23 (f := (isi2B "BadMost" "BadNut" false)) rfl)), (fun h => absurd h (by decide)), (by decide)⟩
  · cases hb; exact ⟨excC_ok (c.more 14 (f := (excCB "BadMost")) rfl), (fun _ => isi2_ok (c.more 24 (f := (isi2B "BadMost" "BadPrice" false)) rfl)), (fun h => absurd h (by decide)), (by decide)⟩
  · cases hb; exact ⟨excC_ok (c.more 25 (f := (excCB "BadPlan")) rfl), (fun h => absurd rfl h.2), (fun _ => ve_ok (c.more 26 (f := (veB "BadPlan")) rfl)), (by decide)⟩
  · cases hb; exact ⟨excC_ok (c.more 25 (f := (excCB "BadPlan")) rfl), (fun _ => isi2_ok (c.more 27 (f := (isi2B "BadPlan" "BarError" true)) rfl)), (fun h => absurd h (by decide)), (by decide)⟩
  · cases hb; exact ⟨excC_ok (c.more 25 (f := (excCB "BadPlan")) rfl), (fun _ => isi2_ok (c.more 28 (f := (isi2B "BadPlan" "BadBar" false)) rfl)), (fun h => absurd h (by decide)), (by decide)⟩
  · cases hb; exact ⟨excC_ok (c.more 25 (f := (excCB "BadPlan")) rfl), (fun _ => isi2_ok (c.more 29 (f := (isi2B "BadPlan" "BadMost" false)) rfl)), (fun h => absurd h (by decide)), (by decide)⟩
  · cases hb; exact ⟨excC_ok (c.more 25 (f := (excCB "BadPlan")) rfl), (fun _ => isi2_ok (c.more 30 (f := (isi2B "BadPlan" "BadPlan" true)) rfl)), (fun h => absurd h (by decide)), (by decide)⟩
  · cases hb; exact ⟨excC_ok (c.more 25 (f := (excCB "BadPlan")) rfl), (fun _ => isi2_ok (c.more 31 (f := (isi2B "BadPlan" "BadNumber" false)) rfl)), (fun h => absurd h (by decide)), (by decide)⟩
  · cases hb; exact ⟨excC_ok (c.more 25 (f := (excCB "BadPlan")) rfl), (fun _ => isi2_ok (c.more 32 (f := (isi2B "BadPlan" "BadPiece" false)) rfl)), (fun h => absurd h (by decide)), (by decide)⟩
  · cases hb; exact ⟨excC_ok (c.more 25 (f := (excCB "BadPlan")) rfl), (fun _ => isi2_ok (c.more 33 (f := (isi2B "BadPlan" "BadLine" false)) rfl)), (fun h => absurd h (by decide)), (by decide)⟩
  · cases hb; exact ⟨excC_ok (c.more 25 (f := (excCB "BadPlan")) rfl), (fun _ => isi2_ok (c.more 34 (f := (isi2B "BadPlan" "BadNut" false)) rfl)), (fun h => absurd h (by decide)), (by decide)⟩
  · cases hb; exact ⟨excC_ok (c.more 25 (f := (excCB "BadPlan")) rfl), (fun _ => isi2_ok (c.more 35 (f := (isi2B "BadPlan" "BadPrice" false)) rfl)), (fun h => absurd h (by decide)), (by decide)⟩
  · cases hb; exact ⟨excC_ok (c.more 36 (f := (excCB "BadNumber")) rfl), (fun h => absurd rfl h.2), (fun _ => ve_ok (c.more 37 (f := (veB "BadNumber")) rfl)), (by decide)⟩
  · cases hb; exact ⟨excC_ok (c.more 36 (f := (excCB "BadNumber")) rfl), (fun _ => isi2_ok (c.more 38 (f := (isi2B "BadNumber" "BarError" true)) rfl)), (fun h => absurd h (by decide)), (by decide)⟩
  · cases hb; exact ⟨excC_ok (c.more 36 (f := (excCB "BadNumber")) rfl), (fun _ => isi2_ok (c.more 39 (f := (isi2B "BadNumber" "BadBar" false)) rfl)), (fun h => absurd h (by decide)), (by decide)⟩
  · cases hb; exact ⟨excC_ok (c.more 36 (f := (excCB "BadNumber")) rfl), (fun _ => isi2_ok (c.more 40 (f := (isi2B "BadNumber" "BadMost" false)) rfl)), (fun h => absurd h (by decide)), (by decide)⟩
  · cases hb; exact ⟨excC_ok (c.more 36 (f := (excCB "BadNumber")) rfl), (fun _ => isi2_ok (c.more 41 (f := (isi2B "BadNumber" "BadPlan" false)) rfl)), (fun h => absurd h (by decide)), (by decide)⟩
  · cases hb; exact ⟨excC_ok (c.more 36 (f := (excCB "BadNumber")) rfl), (fun _ => isi2_ok (c.more 42 (f := (isi2B "BadNumber" "BadNumber" true)) rfl)), (fun h => absurd h (by decide)), (by decide)⟩
  · cases hb; exact ⟨excC_ok (c.more 36 (f := (excCB "BadNumber")) rfl), (fun _ => isi2_ok (c.more 43 (f := (isi2B "BadNumber" "BadPiece" false)) rfl)), (fun h => absurd h (by decide)), (by decide)⟩
  · cases hb; exact ⟨excC_ok (c.more 36 (f := (excCB "BadNumber")) rfl), (fun _ => isi2_ok (c.more 44 (f := (isi2B "BadNumber" "BadLine" false)) rfl)), (fun h => absurd h (by decide)), (by decide)⟩
  · cases hb; exact ⟨excC_ok (c.more 36 (f := (excCB "BadNumber")) rfl), (fun _ => isi2_ok (c.more 45 (f := (isi2B "BadNumber" "BadNut" false)) rfl)), (fun h => absurd h (by decide)), (by decide)⟩
  · cases hb; exact ⟨excC_ok (c.more 36 (f := (excCB "BadNumber")) rfl), (fun _ => isi2_ok (c.more 46 (f := (isi2B "BadNumber" "BadPrice" false)) rfl)), (fun h => absurd h (by decide)), (by decide)⟩
  · cases hb; exact ⟨excC_ok (c.more 47 (f := (excCB "BadPiece")) rfl), (fun h => absurd rfl h.2), (fun _ => ve_ok (c.more 48 (f := (veB "BadPiece")) rfl)), (by decide)⟩
  · cases hb; exact ⟨excC_ok (c.more 47 (f := (excCB "BadPiece")) rfl), (fun _ => isi2_ok (c.more 49 (f := (isi2B "BadPiece" "BarError" true)) rfl)), (fun h => absurd h (by decide)), (by decide)⟩
  · cases hb; exact ⟨excC_ok (c.more 47 (f := (excCB "BadPiece")) rfl), (fun _ => isi2_ok (c.more 50 (f := (isi2B "BadPiece" "BadBar" false)) rfl)), (fun h => absurd h (by decide)), (by decide)⟩
  · cases hb; exact ⟨excC_ok (c.more 47 (f := (excCB "BadPiece")) rfl), (fun _ => isi2_ok (c.more 51 (f := (isi2B "BadPiece" "BadMost" false)) rfl)), (fun h => absurd h (by decide)), (by decide)⟩
  · cases hb; exact ⟨excC_ok (c.more 47 (f := (excCB "BadPiece")) rfl), (fun _ => isi2_ok (c.more 52 (f := (isi2B "BadPiece" "BadPlan" false)) rfl)), (fun h => absurd h (by decide)), (by decide)⟩
  · cases hb; exact ⟨excC_ok (c.more 47 (f := (excCB "BadPiece")) rfl), (fun _ => isi2_ok (c.more 53 (f := (isi2B "BadPiece" "BadNumber" false)) rfl)), (fun h => absurd h (by decide)), (by decide)⟩
  · cases hb; exact ⟨excC_ok (c.more 47 (f := (excCB "BadPiece")) rfl), (fun _ => isi2_ok (c.more 54 (f := (isi2B "BadPiece" "BadPiece" true)) rfl)), (fun h => absurd h (by decide)), (by decide)⟩
  · cases hb; exact ⟨excC_ok (c.more 47 (f := (excCB "BadPiece")) rfl), (fun _ => isi2_ok (c.more 55 (f := (isi2B "BadPiece" "BadLine" false)) rfl)), (fun h => absurd h (by decide)), (by decide)⟩
  · cases hb; exact ⟨excC_ok (c.more 47 (f := (excCB "BadPiece")) rfl), (fun _ => isi2_ok (c.more 56 (f := (isi2B "BadPiece" "BadNut" false)) rfl)), (fun h => absurd h (by decide)), (by decide)⟩
  · cases hb; exact ⟨excC_ok (c.more 47 (f := (excCB "BadPiece")) rfl), (fun _ => isi2_ok (c.more 57 (f := (isi2B "BadPiece" "BadPrice" false)) rfl)), (fun h => absurd h (by decide)), (by decide)⟩
  · cases hb; exact ⟨excC_ok (c.more 58 (f := (excCB "BadLine")) rfl), (fun h => absurd rfl h.2), (fun _ => ve_ok (c.more 59 (f := (veB "BadLine")) rfl)), (by decide)⟩
  · cases hb; exact ⟨excC_ok (c.more 58 (f := (excCB "BadLine")) rfl), (fun _ => isi2_ok (c.more 60 (f := (isi2B "BadLine" "BarError" true)) rfl)), (fun h => absurd h (by decide)), (by decide)⟩
  · cases hb; exact ⟨excC_ok (c.more 58 (f := (excCB "BadLine")) rfl), (fun _ => isi2_ok (c.more 61 (f := (isi2B "BadLine" "BadBar" false)) rfl)), (fun h => absurd h (by decide)), (by decide)⟩
  · cases hb; exact ⟨excC_ok (c.more 58 (f := (excCB "BadLine")) rfl), (fun _ => isi2_ok (c.more 62 (f := (isi2B "BadLine" "BadMost" false)) rfl)), (fun h => absurd h (by decide)), (by decide)⟩
  · cases hb; exact ⟨excC_ok (c.more 58 (f := (excCB "BadLine")) rfl), (fun _ => isi2_ok (c.more 63 (f := (isi2B "BadLine" "BadPlan" false)) rfl)), (fun h => absurd h (by decide)), (by decide)⟩
  · cases hb; exact ⟨excC_ok (c.more 58 (f := (excCB "BadLine")) rfl), (fun _ => isi2_ok (c.more 64 (f := (isi2B "BadLine" "BadNumber" false)) rfl)), (fun h => absurd h (by decide)), (by decide)⟩
  · cases hb; exact ⟨excC_ok (c.more 58 (f := (excCB "BadLine")) rfl), (fun _ => isi2_ok (c.more 65 (f := (isi2B "BadLine" "BadPiece" false)) rfl)), (fun h => absurd h (by decide)), (by decide)⟩
  · cases hb; exact ⟨excC_ok (c.more 58 (f := (excCB "BadLine")) rfl), (fun _ => isi2_ok (c.more 66 (f := (isi2B "BadLine" "BadLine" true)) rfl)), (fun h => absurd h (by decide)), (by decide)⟩
  · cases hb; exact ⟨excC_ok (c.more 58 (f := (excCB "BadLine")) rfl), (fun _ => isi2_ok (c.more 67 (f := (isi2B "BadLine" "BadNut" false)) rfl)), (fun h => absurd h (by decide)), (by decide)⟩
  · cases hb; exact ⟨excC_ok (c.more 58 (f := (excCB "BadLine")) rfl), (fun _ => isi2_ok (c.more 68 (f := (isi2B "BadLine" "BadPrice" false)) rfl)), (fun h => absurd h (by decide)), (by decide)⟩
  · cases hb; exact ⟨excC_ok (c.more 69 (f := (excCB "BadNut")) rfl), (fun h => absurd rfl h.2), (fun _ => ve_ok (c.more 70 (f := (veB "BadNut")) rfl)), (by decide)⟩
  · cases hb; exact ⟨excC_ok (c.more 69 (f := (excCB "BadNut")) rfl), (fun _ => isi2_ok (c.more 71 (f := (isi2B "BadNut" "BarError" true)) rfl)), (fun h => absurd h (by decide)), (by decide)⟩
  · cases hb; exact ⟨excC_ok (c.more 69 (f := (excCB "BadNut")) rfl), (fun _ => isi2_ok (c.more 72 (f := (isi2B "BadNut" "BadBar" false)) rfl)), (fun h => absurd h (by decide)), (by decide)⟩
  · cases hb; exact ⟨excC_ok (c.more 69 (f := (excCB "BadNut")) rfl), (fun _ => isi2_ok (c.more 73 (f := (isi2B "BadNut" "BadMost" false)) rfl)), (fun h => absurd h (by decide)), (by decide)⟩
  · cases hb; exact ⟨excC_ok (c.more 69 (f := (excCB "BadNut")) rfl), (fun _ => isi2_ok (c.more 74 (f := (isi2B "BadNut" "BadPlan" false)) rfl)), (fun h => absurd h (by decide)), (by decide)⟩
  · cases hb; exact ⟨excC_ok (c.more 69 (f := (excCB "BadNut")) rfl), (fun _ => isi2_ok (c.more 75 (f := (isi2B "BadNut" "BadNumber" false)) rfl)), (fun h => absurd h (by decide)), (by decide)⟩
  · cases hb; exact ⟨excC_ok (c.more 69 (f := (excCB "BadNut")) rfl), (fun _ => isi2_ok (c.more 76 (f := (isi2B "BadNut" "BadPiece" false)) rfl)), (fun h => absurd h (by decide)), (by decide)⟩
  · cases hb; exact ⟨excC_ok (c.more 69 (f := (excCB "BadNut")) rfl), (fun _ => isi2_ok (c.more 77 (f := (isi2B "BadNut" "BadLine" false)) rfl)), (fun h => absurd h (by decide)), (by decide)⟩
  · cases hb; exact ⟨excC_ok (c.more 69 (f := (excCB "BadNut")) rfl), (fun _ => isi2_ok (c.more 78 (f := (isi2B "BadNut" "BadNut" true)) rfl)), (fun h => absurd h (by decide)), (by decide)⟩
  · cases hb; exact ⟨excC_ok (c.more 69 (f := (excCB "BadNut")) rfl), (fun _ => isi2_ok (c.more 79 (f := (isi2B "BadNut" "BadPrice" false)) rfl)), (fun h => absurd h (by decide)), (by decide)⟩
  · cases hb; exact ⟨excC_ok (c.more 80 (f := (excCB "BadPrice")) rfl), (fun h => absurd rfl h.2), (fun _ => ve_ok (c.more 81 (f := (veB "BadPrice")) rfl)), (by decide)⟩
  · cases hb; exact ⟨excC_ok (c.more 80 (f := (excCB "BadPrice")) rfl), (fun _ => isi2_ok (c.more 82 (f := (isi2B "BadPrice" "BarError" true)) rfl)), (fun h => absurd h (by decide)), (by decide)⟩
  · cases hb; exact ⟨excC_ok (c.more 80 (f := (excCB "BadPrice")) rfl), (fun _ => isi2_ok (c.more 83 (f := (isi2B "BadPrice" "BadBar" false)) rfl)), (fun h => absurd h (by decide)), (by decide)⟩
  · cases hb; exact ⟨excC_ok (c.more 80 (f := (excCB "BadPrice")) rfl), (fun _ => isi2_ok (c.more 84 (f := (isi2B "BadPrice" "BadMost" false)) rfl)), (fun h => absurd h (by decide)), (by decide)⟩
  · cases hb; exact ⟨excC_ok (c.more 80 (f := (excCB "BadPrice")) rfl), (fun _ => isi2_ok (c.more 85 (f := (isi2B "BadPrice" "BadPlan" false)) rfl)), (fun h => absurd h (by decide)), (by decide)⟩
  · cases hb; exact ⟨excC_ok (c.more 80 (f := (excCB "BadPrice")) rfl), (fun _ => isi2_ok (c.more 86 (f := (isi2B "BadPrice" "BadNumber" false)) rfl)), (fun h => absurd h (by decide)), (by decide)⟩
  · cases hb; exact ⟨excC_ok (c.more 80 (f := (excCB "BadPrice")) rfl), (fun _ => isi2_ok (c.more 87 (f := (isi2B "BadPrice" "BadPiece" false)) rfl)), (fun h => absurd h (by decide)), (by decide)⟩
  · cases hb; exact ⟨excC_ok (c.more 80 (f := (excCB "BadPrice")) rfl), (fun _ => isi2_ok (c.more 88 (f := (isi2B "BadPrice" "BadLine" false)) rfl)), (fun h => absurd h (by decide)), (by decide)⟩
  · cases hb; exact ⟨excC_ok (c.more 80 (f := (excCB "BadPrice")) rfl), (fun _ => isi2_ok (c.more 89 (f := (isi2B "BadPrice" "BadNut" false)) rfl)), (fun h => absurd h (by decide)), (by decide)⟩
  · cases hb; exact ⟨excC_ok (c.more 80 (f := (excCB "BadPrice")) rfl), (fun _ => isi2_ok (c.more 90 (f := (isi2B "BadPrice" "BadPrice" true)) rfl)), (fun h => absurd h (by decide)), (by decide)⟩⟩
theorem facts_exm_BarError (c : SaysM faL fnL moreL K) : ExmT K (cAK K) exm_BarError 10 := ⟨fun k b hb => by
  unfold exm_BarError at hb
  split at hb
  case isFalse => cases hb
  rename_i hk
  have hk : k = 11 ∨ k = 12 ∨ k = 13 ∨ k = 14 ∨ k = 15 ∨ k = 16 ∨ k = 17 ∨ k = 18 := by omega
  rcases hk with rfl | rfl | rfl | rfl | rfl | rfl | rfl | rfl
  · cases hb; exact He.exm_ok (c.1.fact 64 (f := .exm "BadBar" "BarError" true) rfl)
  · cases hb; exact He.exm_ok (c.1.fact 65 (f := .exm "BadMost" "BarError" true) rfl)
  · cases hb; exact He.exm_ok (c.1.fact 66 (f := .exm "BadPlan" "BarError" true) rfl)
  · cases hb; exact He.exm_ok (c.1.fact 67 (f := .exm "BadNumber" "BarError" true) rfl)
  · cases hb; exact He.exm_ok (c.1.fact 68 (f := .exm "BadPiece" "BarError" true) rfl)
  · cases hb; exact He.exm_ok (c.1.fact 69 (f := .exm "BadLine" "BarError" true) rfl)
  · cases hb; exact He.exm_ok (c.1.fact 70 (f := .exm "BadNut" "BarError" true) rfl)
  · cases hb; exact He.exm_ok (c.1.fact 71 (f := .exm "BadPrice" "BarError" true) rfl)⟩
theorem facts (X : K.In h) (G : h.Ns mainGlobals mg) (c : SaysM faL fnL moreL K) (TB : ∀ p ∈ csK mkL K, LamX.TabB h mg p.1 p.2) : Facts P w K mg h (cAK K) (tabsK mkL K) where
  n_ValueError := He.free_ok X G (c.1.fact 72 (f := .free "ValueError") rfl)
  n_abs := He.free_ok X G (c.1.fact 73 (f := .free "abs") rfl)
  n_all := He.free_ok X G (c.1.fact 74 (f := .free "all") rfl)
  n_any := He.free_ok X G (c.1.fact 75 (f := .free "any") rfl)
  n_bool := He.free_ok X G (c.1.fact 76 (f := .free "bool") rfl)
  n_enumerate := He.free_ok X G (c.1.fact 77 (f := .free "enumerate") rfl)
  n_int := He.free_ok X G (c.1.fact 78 (f := .free "int") rfl)
  n_isinstance := He.free_ok X G (c.1.fact 79 (f := .free "isinstance") rfl)
  n_len := He.free_ok X G (c.1.fact 80 (f := .free "len") rfl)
  n_list := He.free_ok X G (c.1.fact 81 (f := .free "list") rfl)
  n_range := He.free_ok X G (c.1.fact 82 (f := .free "range") rfl)
  n_sorted := He.free_ok X G (c.1.fact 83 (f := .free "sorted") rfl)
  n_sum := He.free_ok X G (c.1.fact 84 (f := .free "sum") rfl)
  n_tuple := He.free_ok X G (c.1.fact 85 (f := .free "tuple") rfl)
  n_zip := He.free_ok X G (c.1.fact 86 (f := .free "zip") rfl)
  k_MOST_LINES := He.int_ok X G (c.1.fact 87 (f := .int "MOST_LINES" 4) rfl)
  k_MOST_PRICE := He.int_ok X G (c.1.fact 88 (f := .int "MOST_PRICE" 9) rfl)
  k_MOST_NUTS := He.int_ok X G (c.1.fact 89 (f := .int "MOST_NUTS" 3) rfl)
  c_BarError := He.glo_ok X G (c.1.fact 90 (f := .glo "BarError") rfl)
  c_BadBar := He.glo_ok X G (c.1.fact 91 (f := .glo "BadBar") rfl)
  c_BadMost := He.glo_ok X G (c.1.fact 92 (f := .glo "BadMost") rfl)
  c_BadPlan := He.glo_ok X G (c.1.fact 93 (f := .glo "BadPlan") rfl)
  c_BadNumber := He.glo_ok X G (c.1.fact 94 (f := .glo "BadNumber") rfl)
  c_BadPiece := He.glo_ok X G (c.1.fact 95 (f := .glo "BadPiece") rfl)
  c_BadLine := He.glo_ok X G (c.1.fact 96 (f := .glo "BadLine") rfl)
  c_BadNut := He.glo_ok X G (c.1.fact 97 (f := .glo "BadNut") rfl)
  c_BadPrice := He.glo_ok X G (c.1.fact 98 (f := .glo "BadPrice") rfl)
  c_Slab := He.glo_ok X G (c.1.fact 16 (f := .glo "Slab") rfl)
  cls := facts_cls c
  isi := facts_isi c
  exi := facts_exi c
  exm_BarError := facts_exm_BarError c
  e_BadBar := exc_mk X G (c.1.fact 91 (f := .glo "BadBar") rfl) (c.1.fact 99 (f := .exc "BadBar") rfl)
  e_BadLine := exc_mk X G (c.1.fact 96 (f := .glo "BadLine") rfl) (c.1.fact 100 (f := .exc "BadLine") rfl)
  e_BadMost := exc_mk X G (c.1.fact 92 (f := .glo "BadMost") rfl) (c.1.fact 101 (f := .exc "BadMost") rfl)
  e_BadNut := exc_mk X G (c.1.fact 97 (f := .glo "BadNut") rfl) (c.1.fact 102 (f := .exc "BadNut") rfl)
  e_BadPiece := exc_mk X G (c.1.fact 95 (f := .glo "BadPiece") rfl) (c.1.fact 103 (f := .exc "BadPiece") rfl)
  e_BadPrice := exc_mk X G (c.1.fact 98 (f := .glo "BadPrice") rfl) (c.1.fact 104 (f := .exc "BadPrice") rfl)
  d_is_whole := da_is_whole X G c
  d_is_between := da_is_between X G c
  d_are_prices := da_are_prices X G c
  d_is_cell := da_is_cell X G c
  d_check_bar := da_check_bar X G c
  d_check_both := da_check_both X G c
  d_whole_of := da_whole_of X G c
  i_Slab := da_Slab___init__ X G c
  d_Slab_pieces := da_Slab_pieces X G c
  d_Slab_plan := da_Slab_plan X G c
  d_Slab_spent := da_Slab_spent X G c
  d_size_of := da_size_of X G c
  d_pieces_of := da_pieces_of X G c
  d_by_size := da_by_size X G c
  d_nuts_in := da_nuts_in X G c
  d_lines_in := da_lines_in X G c
  d_parts_of := da_parts_of X G c
  d_price_of := da_price_of X G c
  d_costs_of := da_costs_of X G c
  d_Slab_owed := da_Slab_owed X G c
  d_Slab_bar_now := da_Slab_bar_now X G c
  d_Slab_helpful := da_Slab_helpful X G c
  d__law_state := da__law_state X G c
  d_broken := da_broken X G c
  d_Slab_snap := da_Slab_snap X G c
  d_Slab_nut := da_Slab_nut X G c
  d_Slab_set_price := da_Slab_set_price X G c
  d__law_which := da__law_which X G c
  d__law_refused := da__law_refused X G c
  d__law_no_numbers := da__law_no_numbers X G c
  d__law_no_pieces := da__law_no_pieces X G c
  d__law_snaps_right := da__law_snaps_right X G c TB
  d__law_rest_right := da__law_rest_right X G c TB
end
end BB
open PySem PySem.W PySem.Calls PyProof.Rows
theorem PySem.Challenge.cw_breakbars_k11_refused_slabs_holds : PySem.Challenge.rw_breakbars_k11_refused_slabs.Holds := by
  w_on; o_law
  refine HandSHeadRun.head_any (r := OpenLaw.row PySem.Challenge.rw_breakbars_k11_refused_slabs) (q := view (OpenLaw.row PySem.Challenge.rw_breakbars_k11_refused_slabs).prog [41]) (H := BB.hk) (ob := BB.ob) (M := 6000) (loose := BB.looseL) (d := HandSHeadRun.topDef (OpenLaw.row PySem.Challenge.rw_breakbars_k11_refused_slabs).prog 41) (kwd := []) BB.ob_eq
    (by kernel_rfl) (fun s => by kernel_rfl) BB.run (by kernel_rfl) (by kernel_rfl) (by kernel_rfl) (by rfl) (by first | assumption | decide +kernel) (by decide +kernel) ⟨rfl, rfl, rfl, rfl, rfl, by decide +kernel⟩ ?hw ?hc
  case hw => w_witness2
  case hc =>
    refine LamX.walk_ofTsE (l := PySem.Challenge.rw_breakbars_k11_refused_slabs) (n := 63) (k := 11) (x := "_law_script") (CX := fun _ => L2.CX0) rfl (by decide) (by kernel_rfl) ⟨rfl, by decide, by decide⟩ ?F (fun _ _ _ _ _ z => z)
    intro w mg fa h Y G hmg0
    obtain ⟨K, KX, c, tb⟩ := Y
    have hmg : mg ("law" : PySem.Str) = some (.ref fa) := by
      have e : (HandSHeadRun.topDef (OpenLaw.row PySem.Challenge.rw_breakbars_k11_refused_slabs).prog 41).name = ("law" : PySem.Str) := by kernel_rfl
      rw [← e]
      exact hmg0
    obtain ⟨oc, od, osl, kV, doc, pm, an, cdv, ct, l, cd⟩ := c.1.def_ 33 (d := ⟨("law", none), "law", "law", L2.defArgs BB.st_law, L2.defBody BB.st_law, L2.defScope BB.st_law⟩) rfl
    have F := L2.fun_mk (st := BB.st_law) l cd (He.keep_ok (c.1.fact 105 (f := .keep "law") rfl))
    have e := hmg.symm.trans (He.glo_ok KX G (c.1.fact 106 (f := .glo "law") rfl))
    cases e
    have ec := BB.mk_code (c.more 91 (f := (BB.mkB "law")) rfl) l
    have ec : cdv = .ref (BB.cT K "law") := ec
    subst ec
    refine ⟨K, KX, _, BB.csK BB.mkL K, fun vs H Q _ => BB.PSp K (⟨BB.cAK K, BB.tabsK BB.mkL K, fun _ => True, fun _ _ _ _ => trivial, fun _ _ _ => False, fun _ _ _ _ h _ => h⟩ : BB.CA) BB.G_law vs H Q fun _ _ _ => False, fun p hp => ?_, fun p hp => ?_, fun p hp => ?_, fun s v => .of_eq rfl, fun H a ns hl _ hH hS => BB.law_sp (BB.law_true ns hl) hS fun p hp => ?_, fun base KB GB TB => BB.FnOk.no (BB.okf_law (cA := ⟨BB.cAK K, BB.tabsK BB.mkL K, fun _ => True, fun _ _ _ _ => trivial, fun _ _ _ => False, fun _ _ _ _ h _ => h⟩) (BB.facts KB GB c TB) l cd (TB _ (BB.mk_cs (mk := BB.mkL) (by decide))) (BB.mk_tab (mk := BB.mkL) (by decide)) (BB.mk_un (mk := BB.mkL) (c.more 1 (f := (BB.mkNeB BB.mkL)) rfl) (by decide)))⟩
    · obtain ⟨x, hx, rfl⟩ := List.mem_map.mp hp
      exact (tb x hx).1
    · obtain ⟨x, hx, rfl⟩ := List.mem_map.mp hp
      exact (tb x hx).2
    · obtain ⟨x, hx, rfl⟩ := List.mem_map.mp hp
      simp only [BB.mkL, List.mem_cons, List.not_mem_nil, or_false] at hx
      rcases hx with rfl | rfl | rfl
      · exact BB.codeHd_ok KX (He.ba (c.more 2 (f := (BB.mkB "_law_rest_right")) rfl)).2
      · exact BB.codeHd_ok KX (He.ba (c.more 0 (f := (BB.mkB "_law_snaps_right")) rfl)).2
      · exact BB.codeHd_ok KX (He.ba (c.more 91 (f := (BB.mkB "law")) rfl)).2
    · obtain ⟨x, hx, rfl⟩ := List.mem_map.mp hp
      exact LamX.TabS.nil (hH _ (BB.mk_cs hx))
