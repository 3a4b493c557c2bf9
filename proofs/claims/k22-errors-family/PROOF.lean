import PyProof.Rows.All
import Wide.All
import OpenK.AllK
import Wide.FinOn
import HandS.ForMost
import HandS.TupAny
import HandS.Deep
import HandS.IsInst
import HandS.More
import HandS.DictComp
import HandS.Zip
import HandS.Flow
import KE.KDictKeyed
import HandS.Text
import KE.KExcSuper
import HandS.ExcInit
import HandS.Nested
import HandS.HotCalls
import HandS.FStr
import KE.KExcIs
import HandS.ExcInitHot
import PySem.Challenge.RW_orderatonce_k22_errors_family
set_option Elab.async false
set_option linter.all false
set_option maxRecDepth 100000
set_option maxHeartbeats 1000000
namespace DL
open PySem PySem.Spec PyProof.Rows L2

/-- plain data: what a Python value is, without the heap. ref: a cell of the store; hnd: the own list or dict of a local name (never within other data) -/
inductive D where
  | non | bl (b : Bool) | int (i : Int) | str (s : Str)
  | tup (ds : List D) | lst (ds : List D) | zst (ds : List D)
  | dS (ns : List Str) (ds : List D)
  | dT (ks ds : List D)
  | obj (c : Str) (ns : List Str) (ds : List D)
  | ref (i : Nat) | hnd (i : Nat)
  /-- the error that is handled: at a, of the class at C named c, its fields in the dict at dx -/
  | exc (a C dx : Nat) (c : Str) (ns : List Str) (ds : List D)

inductive Sl where
  | non | fro (d : D) | own (d : D)
inductive Cell where
  | live (d : D) | frz (d : D)
structure DS where
  env : List Sl
  store : List Cell

def keysS (ns : List Str) (vs : List V) : List (Key × V) := (ns.map Sum.inr).zip vs

/-- the run's facts -/
structure Tx where
  P : Program
  w : World
  mg : Str → Option Value
  K : PySem.W.Frag
abbrev tx (X : Cx) : Tx := ⟨X.prog, X.w, X.mg, X.K⟩
/-! a tuple (of ints, texts, such tuples) as a key -/
mutual
def nk : D → Option NestedKey
  | .non => some .none
  | .int i => some (.num i)
  | .str s => some (.text s)
  | .tup ds => match nks ds with | some ks => some (.tup ks) | none => none
  | .bl _ => none | .lst _ => none | .zst _ => none | .dS _ _ => none | .dT _ _ => none | .obj _ _ _ => none | .ref _ => none | .hnd _ => none | .exc _ _ _ _ _ _ => none
def nks : List D → Option (List NestedKey)
  | [] => some []
  | d :: ds => match nk d, nks ds with | some k, some ks => some (k :: ks) | _, _ => none
end
/-- the object at a: a dict whose keys are tuples; xs: the keys, their tuples, the values -/
def rawT (T : Tx) (a : Addr) (xs : List (NestedKey × Addr × Value)) : HO := .ext fun h => ∃ o es ep, h.get? a = some o ∧ o.ExactDict ∧ o.data = .dict es ep ∧ es.toList = xs.map (entryOfKey (nestedKind T.P T.w)) ∧ (xs.map (·.1)).Nodup ∧ xs.length ≤ sizeLine ∧ (a == sysModules) = false

section
variable (T : Tx) (F : Hp) (ρ : List Addr)
mutual
inductive Rep : V → D → Prop
  | non : Rep .non .non
  | bl (b : Bool) : Rep (.bl b) (.bl b)
  | int (i : Int) : Rep (.int i) (.int i)
  | str (s : Str) : Rep (.str s) (.str s)
  | tup {a : Addr} {xs : List V} {ds : List D} : SqT T.K F a xs → Reps xs ds → Rep (.ref a) (.tup ds)
  | lst {a : Addr} {xs : List V} {ds : List D} : F a = some (.lst xs) → Reps xs ds → Rep (.ref a) (.lst ds)
  | zst {a : Addr} {xs : List V} {ds : List D} : SqL T.K F a xs → Reps xs ds → Rep (.ref a) (.zst ds)
  | dS {a : Addr} {ob : Obj} {ns : List Str} {vs : List V} {ds : List D} : F a = some (.frz ob (.dK (keysS ns vs))) → vs.length = ns.length → Reps vs ds → Rep (.ref a) (.dS ns ds)
  | dT {a : Addr} {ob : Obj} {xs : List (NestedKey × Addr × Value)} {ks : List D} {vs : List V} {ds : List D} : F a = some (.frz ob (rawT T a xs)) → nks ks = some (xs.map (·.1)) → Reps (xs.map fun x => .ref x.2.1) ks → Vals vs (xs.map (·.2.2)) → Reps vs ds → Rep (.ref a) (.dT ks ds)
  | obj {a C dx : Addr} {c : Str} {ns : List Str} {vs : List V} {ds : List D} : T.mg c = some (.ref C) → F a = some (.ins C dx (ns.zip vs)) → vs.length = ns.length → Reps vs ds → Rep (.ref a) (.obj c ns ds)
  | ref {a : Addr} {i : Nat} : ρ[i]? = some a → Rep (.ref a) (.ref i)
  | exc {a C dx : Addr} {c : Str} {ns : List Str} {vs : List V} {ds : List D} : T.mg c = some (.ref C) → F dx = some (.xd (ns.zip vs)) → vs.length = ns.length → Reps vs ds → Rep (.ref a) (.exc a C dx c ns ds)
inductive Reps : List V → List D → Prop
  | nil : Reps [] []
  | cons {v : V} {vs : List V} {d : D} {ds : List D} : Rep v d → Reps vs ds → Reps (v :: vs) (d :: ds)
end
/-- what stands at a, to be written: H tells it -/
inductive Own (H : Hp) (a : Addr) : D → Prop
  | lst {xs : List V} {ds : List D} : H a = some (.lst xs) → Reps T F ρ xs ds → Own H a (.lst ds)
  | dS {ns : List Str} {vs : List V} {ds : List D} : H a = some (.dK (keysS ns vs)) → vs.length = ns.length → Reps T F ρ vs ds → Own H a (.dS ns ds)
  | dT {xs : List (NestedKey × Addr × Value)} {ks : List D} {vs : List V} {ds : List D} : H a = some (rawT T a xs) → nks ks = some (xs.map (·.1)) → Reps T F ρ (xs.map fun x => .ref x.2.1) ks → Vals vs (xs.map (·.2.2)) → Reps T F ρ vs ds → Own H a (.dT ks ds)
  | obj {C dx : Addr} {c : Str} {ns : List Str} {vs : List V} {ds : List D} : T.mg c = some (.ref C) → H a = some (.ins C dx (ns.zip vs)) → vs.length = ns.length → Reps T F ρ vs ds → Own H a (.obj c ns ds)
inductive CellOk (H : Hp) (a : Addr) : Cell → Prop
  | live {d : D} : Own T F ρ H a d → F a = none → CellOk H a (.live d)
  | frz {d : D} : Rep T F ρ (.ref a) d → (∃ o, H a = some o) → CellOk H a (.frz d)
end

def Sub (F F' : Hp) : Prop := ∀ a o, F a = some o → F' a = some o
theorem Sub.refl {F : Hp} : Sub F F := fun _ _ h => h
theorem Sub.trans {F G H : Hp} (a : Sub F G) (b : Sub G H) : Sub F H := fun x o h => b x o (a x o h)
section
variable {T : Tx} {F F' : Hp} {ρ ρ' : List Addr} {K : PySem.W.Frag}
theorem Rd_sub {a : Addr} {u : HO} (s : Sub F F') (h : Rd F a u) : Rd F' a u := by
  rcases h with h | ⟨o, h⟩
  · exact .inl (s _ _ h)
  · exact .inr ⟨o, s _ _ h⟩
theorem SqL_sub {a : Addr} {xs : List V} (s : Sub F F') (h : SqL K F a xs) : SqL K F' a xs := by
  rcases h with h | h
  · exact .inl (Rd_sub s h)
  · exact .inr h
theorem SqT_sub {a : Addr} {xs : List V} (s : Sub F F') (h : SqT K F a xs) : SqT K F' a xs := by
  rcases h with h | h
  · exact .inl (Rd_sub s h)
  · exact .inr h
theorem get_pre {i : Nat} {a : Addr} (p : ρ <+: ρ') (h : ρ[i]? = some a) : ρ'[i]? = some a := by
  obtain ⟨r, rfl⟩ := p
  rw [List.getElem?_append_left (List.getElem?_eq_some_iff.mp h).1]
  exact h
mutual
theorem Rep.mono (s : Sub F F') (p : ρ <+: ρ') : ∀ {v : V} {d : D}, Rep T F ρ v d → Rep T F' ρ' v d
  | _, _, .non => .non
  | _, _, .bl b => .bl b
  | _, _, .int i => .int i
  | _, _, .str x => .str x
  | _, _, .tup h r => .tup (SqT_sub s h) (Reps.mono s p r)
  | _, _, .lst h r => .lst (s _ _ h) (Reps.mono s p r)
  | _, _, .zst h r => .zst (SqL_sub s h) (Reps.mono s p r)
  | _, _, .dS h l r => .dS (s _ _ h) l (Reps.mono s p r)
  | _, _, .dT h n k v r => .dT (s _ _ h) n (Reps.mono s p k) v (Reps.mono s p r)
  | _, _, .obj m h l r => .obj m (s _ _ h) l (Reps.mono s p r)
  | _, _, .ref h => .ref (get_pre p h)
  | _, _, .exc m h l r => .exc m (s _ _ h) l (Reps.mono s p r)
theorem Reps.mono (s : Sub F F') (p : ρ <+: ρ') : ∀ {vs : List V} {ds : List D}, Reps T F ρ vs ds → Reps T F' ρ' vs ds
  | _, _, .nil => .nil
  | _, _, .cons a b => .cons (Rep.mono s p a) (Reps.mono s p b)
end
theorem Own.mono {H H' : Hp} {a : Addr} {d : D} (s : Sub F F') (p : ρ <+: ρ') (e : ∀ o, H a = some o → H' a = some o) (h : Own T F ρ H a d) : Own T F' ρ' H' a d := by
  cases h with
  | lst h r => exact .lst (e _ h) (r.mono s p)
  | dS h l r => exact .dS (e _ h) l (r.mono s p)
  | dT h n k v r => exact .dT (e _ h) n (k.mono s p) v (r.mono s p)
  | obj m h l r => exact .obj m (e _ h) l (r.mono s p)
theorem Own.there {H : Hp} {a : Addr} {d : D} (h : Own T F ρ H a d) : ∃ o, H a = some o := by
  cases h with
  | lst h r => exact ⟨_, h⟩
  | dS h l r => exact ⟨_, h⟩
  | dT h n k v r => exact ⟨_, h⟩
  | obj m h l r => exact ⟨_, h⟩
theorem CellOk.there {H : Hp} {a : Addr} {c : Cell} (h : CellOk T F ρ H a c) : ∃ o, H a = some o := by
  cases h with
  | live h _ => exact h.there
  | frz _ h => exact h
theorem Reps.length : ∀ {vs : List V} {ds : List D}, Reps T F ρ vs ds → vs.length = ds.length
  | _, _, .nil => rfl
  | _, _, .cons _ r => by simp [Reps.length r]
theorem Reps.get : ∀ {vs : List V} {ds : List D} {i : Nat} {d : D}, Reps T F ρ vs ds → ds[i]? = some d → ∃ v, vs[i]? = some v ∧ Rep T F ρ v d
  | _, _, i, _, .nil, h => by simp at h
  | _, _, 0, _, .cons a _, h => by
    simp at h
    subst h
    exact ⟨_, rfl, a⟩
  | _, _, i + 1, _, .cons _ b, h => by
    obtain ⟨v, h1, h2⟩ := Reps.get (i := i) b (by simpa using h)
    exact ⟨v, by simpa using h1, h2⟩
theorem Reps.append : ∀ {vs ws : List V} {ds es : List D}, Reps T F ρ vs ds → Reps T F ρ ws es → Reps T F ρ (vs ++ ws) (ds ++ es)
  | _, _, _, _, .nil, h => h
  | _, _, _, _, .cons a b, h => .cons a (b.append h)
end

/-- the ghost of an activation: frozen, cells, heap at its entry -/
structure Gh where
  F : Hp
  ρ : List Addr
  H : Hp
  /-- objects that are held meanwhile (a comprehension's list) -/
  ex : List (Addr × HO)
  exg : ∀ p ∈ ex, H p.1 = none
  exn : (ex.map (·.1)).Nodup

inductive SlotOk (T : Tx) (g : Gh) (F : Hp) (ρ : List Addr) (H : Hp) (v : Option V) : Sl → Prop
  | non : SlotOk T g F ρ H v .non
  | fro {x : V} {d : D} : v = some x → Rep T F ρ x d → SlotOk T g F ρ H v (.fro d)
  | own {a : Addr} {d : D} : v = some (.ref a) → Own T F ρ H a d → F a = none → g.H a = none → a ∉ ρ → SlotOk T g F ρ H v (.own d)

structure SR (T : Tx) (g : Gh) (S : DS) (F : Hp) (ρ : List Addr) (σ : L2.St) (H : Hp) : Prop where
  fg : Sub g.F F
  fn : ∀ a o, F a = some o → g.F a = some o ∨ g.H a = none
  fh : Sub F H
  keep : ∀ a o, g.H a = some o → a ∉ g.ρ → H a = some o
  rg : g.ρ <+: ρ
  rnd : ρ.Nodup
  rnew : ∀ a ∈ ρ, a ∈ g.ρ ∨ g.H a = none
  clen : S.store.length = ρ.length
  cell : ∀ (i : Nat) (a : Addr) (c : Cell), ρ[i]? = some a → S.store[i]? = some c → CellOk T F ρ H a c
  slen : S.env.length = σ.length
  slot : ∀ (i : Nat) (v : Option V) (s : Sl), σ[i]? = some v → S.env[i]? = some s → SlotOk T g F ρ H v s
  apart : ∀ (i j : Nat) (a : Addr) (d e : D), S.env[i]? = some (.own d) → S.env[j]? = some (.own e) → σ[i]? = some (some (.ref a)) → σ[j]? = some (some (.ref a)) → i = j
  exo : ∀ p ∈ g.ex, H p.1 = some p.2 ∧ F p.1 = none ∧ p.1 ∉ ρ ∧ ∀ (i : Nat) (d : D), S.env[i]? = some (.own d) → σ[i]? ≠ some (some (.ref p.1))

section
variable {T : Tx} {g : Gh} {S : DS} {F : Hp} {ρ : List Addr} {σ : L2.St} {H : Hp}
theorem SR.rho_there (R : SR T g S F ρ σ H) {a : Addr} (h : a ∈ ρ) : ∃ o, H a = some o := by
  obtain ⟨i, hi⟩ := List.mem_iff_getElem?.mp h
  have hl : i < S.store.length := by rw [R.clen]; exact (List.getElem?_eq_some_iff.mp hi).1
  exact (R.cell i a _ hi (List.getElem?_eq_getElem hl)).there
theorem SR.new_g (R : SR T g S F ρ σ H) {p : Addr} (hp : H p = none) : g.H p = none ∧ p ∉ ρ ∧ F p = none := by
  have h2 : p ∉ ρ := fun z => by
    obtain ⟨o, e⟩ := R.rho_there z
    rw [hp] at e; cases e
  refine ⟨?_, h2, ?_⟩
  · cases e : g.H p with
    | none => rfl
    | some o =>
      have := R.keep p o e (fun z => h2 (R.rg.subset z))
      rw [hp] at this; cases this
  · cases e : F p with
    | none => rfl
    | some o =>
      have := R.fh p o e
      rw [hp] at this; cases this
theorem Sub.upd {F : Hp} {p : Addr} {o : HO} (h : F p = none) : Sub F (upd F p o) := fun a u e => by
  rw [upd_ne (ne_of_none e h)]; exact e
/-- a new frozen object -/
theorem SR.alloc (R : SR T g S F ρ σ H) {p : Addr} {o : HO} (hp : H p = none) : SR T g S (upd F p o) ρ σ (upd H p o) := by
  obtain ⟨hg, hr, hf⟩ := R.new_g hp
  have s : Sub F (upd F p o) := Sub.upd hf
  have hh : ∀ {a : Addr} {u : HO}, H a = some u → upd H p o a = some u := fun e => Sub.upd hp _ _ e
  have nep : ∀ {a : Addr}, (∃ u, H a = some u) → a ≠ p := fun ⟨u, e⟩ z => by rw [z, hp] at e; cases e
  refine ⟨R.fg.trans s, fun a u e => ?_, fun a u e => ?_, fun a u e n => hh (R.keep a u e n), R.rg, R.rnd, R.rnew, R.clen, fun i a c h1 h2 => ?_, R.slen, fun i v sl h1 h2 => ?_, R.apart, fun q hq => ?_⟩
  · by_cases h : a = p
    · subst h; exact .inr hg
    · rw [upd_ne h] at e; exact R.fn a u e
  · by_cases h : a = p
    · subst h; rw [upd_same] at e ⊢; exact e
    · rw [upd_ne h] at e ⊢; exact R.fh a u e
  · cases R.cell i a c h1 h2 with
    | live q f => exact .live (q.mono s (List.prefix_refl _) fun u e => hh e) (by rw [upd_ne (nep q.there)]; exact f)
    | frz q t => obtain ⟨u, t⟩ := t; exact .frz (q.mono s (List.prefix_refl _)) ⟨u, hh t⟩
  · cases R.slot i v sl h1 h2 with
    | non => exact .non
    | fro e q => exact .fro e (q.mono s (List.prefix_refl _))
    | own e q f gh nr => exact .own e (q.mono s (List.prefix_refl _) fun u e => hh e) (by rw [upd_ne (nep q.there)]; exact f) gh nr
  · obtain ⟨h1, h2, h3, h4⟩ := R.exo q hq
    exact ⟨hh h1, by rw [upd_ne (nep ⟨_, h1⟩)]; exact h2, h3, h4⟩
end
end DL

set_option Elab.async false
set_option linter.all false
set_option maxRecDepth 100000
set_option maxHeartbeats 1000000
namespace DL
open PySem PySem.Spec PyProof.Rows L2

/-! ### semantics -/
abbrev EM := DS → Option (D × DS)
abbrev TM := DS → Option (Bool × DS)
abbrev AM := DS → Option (List D × DS)
inductive Fl where
  | nx | rt (d : D) | bk | ct
abbrev SM := DS → Option (Fl × DS)

def DS.setE (S : DS) (i : Nat) (s : Sl) : DS := ⟨S.env.set i s, S.store⟩

/-- what a list, a dict, an object holds now -/
def deref (S : DS) : D → Option D
  | .hnd i => match S.env[i]? with | some (.own d) => some d | _ => none
  | .ref i => match S.store[i]? with | some (.live d) => some d | some (.frz d) => some d | _ => none
  | d => some d
/-- a value that may be kept: an own list of a name is given away for good -/
def give (d : D) : EM := fun S => match d with
  | .hnd i => match S.env[i]? with | some (.own c) => some (c, S.setE i (.fro c)) | _ => none
  | d => some (d, S)
def eC (d : D) : EM := fun S => some (d, S)
def eVar (i : Nat) : EM := fun S => match S.env[i]? with | some (.fro d) => some (d, S) | some (.own _) => some (.hnd i, S) | _ => none
def eB (m : EM) (k : D → EM) : EM := fun S => match m S with | some (d, S1) => k d S1 | none => none
def eG (m : EM) : EM := eB m give
/-- a pure value-op -/
def eP (f : D → Option D) : D → EM := fun d S => match f d with | some r => some (r, S) | none => none
def e2 (f : DS → D → D → Option D) (a b : EM) : EM := eB a fun x => eB b fun y => fun S => match f S x y with | some r => some (r, S) | none => none
def e1 (f : DS → D → Option D) (a : EM) : EM := eB a fun x => fun S => match f S x with | some r => some (r, S) | none => none
def aN : AM := fun S => some ([], S)
def aC (m : EM) (r : AM) : AM := fun S => match m S with | some (d, S1) => (match r S1 with | some (ds, S2) => some (d :: ds, S2) | none => none) | none => none
def isHnd : D → Bool | .hnd _ => true | _ => false
/-- display, a call: of values that may be kept -/
def eA (m : AM) (f : List D → Option D) : EM := fun S => match m S with
  | some (ds, S1) => if ds.any isHnd then none else (match f ds with | some r => some (r, S1) | none => none)
  | none => none

def RepX (T : Tx) (F : Hp) (ρ : List Addr) (σ : L2.St) (v : V) (d : D) : Prop := Rep T F ρ v d ∨ ∃ i, d = .hnd i ∧ σ[i]? = some (some v)
abbrev RepXs (T : Tx) (F : Hp) (ρ : List Addr) (σ : L2.St) : List V → List D → Prop := Paired (RepX T F ρ σ)

def tE (X : Cx) (m : EM) : TE := fun σ H Q => ∃ g S F ρ d S', SR (tx X) g S F ρ σ H ∧ m S = some (d, S') ∧
  ∀ v F' ρ' H', Sub F F' → ρ <+: ρ' → SR (tx X) g S' F' ρ' σ H' → RepX (tx X) F' ρ' σ v d → Q v H'
def tT (X : Cx) (m : TM) : TT := fun σ H Q => ∃ g S F ρ b S', SR (tx X) g S F ρ σ H ∧ m S = some (b, S') ∧
  ∀ F' ρ' H', Sub F F' → ρ <+: ρ' → SR (tx X) g S' F' ρ' σ H' → Q b H'
def tA (X : Cx) (m : AM) : TA := fun σ H Q => ∃ g S F ρ ds S', SR (tx X) g S F ρ σ H ∧ m S = some (ds, S') ∧
  ∀ vs F' ρ' H', Sub F F' → ρ <+: ρ' → SR (tx X) g S' F' ρ' σ H' → RepXs (tx X) F' ρ' σ vs ds → Q vs H'
def flow (D : Ends) (X : Cx) (g : Gh) (F : Hp) (ρ : List Addr) (S' : DS) (fl : Fl) : Prop :=
  match fl with
  | .nx => ∀ F' ρ' σ' H', Sub F F' → ρ <+: ρ' → SR (tx X) g S' F' ρ' σ' H' → D.nx σ' H'
  | .bk => ∀ F' ρ' σ' H', Sub F F' → ρ <+: ρ' → SR (tx X) g S' F' ρ' σ' H' → D.bk σ' H'
  | .ct => ∀ F' ρ' σ' H', Sub F F' → ρ <+: ρ' → SR (tx X) g S' F' ρ' σ' H' → D.ct σ' H'
  | .rt d => ∀ v F' ρ' σ' H', Sub F F' → ρ <+: ρ' → SR (tx X) g S' F' ρ' σ' H' → Rep (tx X) F' ρ' v d → D.rt v H'
def tS (X : Cx) (m : SM) : TS := fun D σ H => ∃ g S F ρ fl S', SR (tx X) g S F ρ σ H ∧ m S = some (fl, S') ∧ flow D X g F ρ S' fl

abbrev ED (X : Cx) (e : Expr) (m : EM) : Prop := PE X e (tE X m)
abbrev TD (X : Cx) (e : Expr) (m : TM) : Prop := PT X e (tT X m)
abbrev WD (X : Cx) (e : Expr) (m : TM) : Prop := PW X e (tT X m)
abbrev AD (X : Cx) (es : List Expr) (m : AM) : Prop := PA X es (tA X m)
abbrev SD (X : Cx) (s : Stmt) (m : SM) : Prop := PS X s (tS X m)
abbrev BD (X : Cx) (s : List Stmt) (m : SM) : Prop := PSs X s (tS X m)

section
variable {X : Cx}
theorem PE_imp {e : Expr} {t t' : TE} (h : PE X e t) (i : ∀ σ H Q, t' σ H Q → t σ H Q) : PE X e t' := ⟨fun pins s σ H Q I q => h.run pins s σ H Q I (i _ _ _ q)⟩
theorem PT_imp {e : Expr} {t t' : TT} (h : PT X e t) (i : ∀ σ H Q, t' σ H Q → t σ H Q) : PT X e t' := ⟨fun pins s σ H Q I q => h.run pins s σ H Q I (i _ _ _ q)⟩
theorem PW_imp {e : Expr} {t t' : TT} (h : PW X e t) (i : ∀ σ H Q, t' σ H Q → t σ H Q) : PW X e t' := ⟨fun wh pins s σ H Q I q => h.run wh pins s σ H Q I (i _ _ _ q)⟩
theorem PA_imp {e : List Expr} {t t' : TA} (h : PA X e t) (i : ∀ σ H Q, t' σ H Q → t σ H Q) : PA X e t' := ⟨fun ps pins s σ H Q I q => h.run ps pins s σ H Q I (i _ _ _ q)⟩
theorem PS_imp {e : Stmt} {t t' : TS} (h : PS X e t) (i : ∀ σ H Q, t' Q σ H → t Q σ H) : PS X e t' := ⟨fun pins s σ H Q I q => h.run pins s σ H Q I (i _ _ _ q)⟩
theorem PSs_imp {e : List Stmt} {t t' : TS} (h : PSs X e t) (i : ∀ σ H Q, t' Q σ H → t Q σ H) : PSs X e t' := ⟨fun pins s σ H Q I q => h.run pins s σ H Q I (i _ _ _ q)⟩

theorem RepX.mono {T : Tx} {F F' : Hp} {ρ ρ' : List Addr} {σ : L2.St} {v : V} {d : D} (s : Sub F F') (p : ρ <+: ρ') (h : RepX T F ρ σ v d) : RepX T F' ρ' σ v d := by
  rcases h with h | h
  · exact .inl (h.mono s p)
  · exact .inr h
theorem RepX.rep {T : Tx} {F : Hp} {ρ : List Addr} {σ : L2.St} {v : V} {d : D} (h : RepX T F ρ σ v d) (n : isHnd d = false) : Rep T F ρ v d := by
  rcases h with h | ⟨i, rfl, _⟩
  · exact h
  · cases n
theorem RepXs.mono {T : Tx} {F F' : Hp} {ρ ρ' : List Addr} {σ : L2.St} (s : Sub F F') (p : ρ <+: ρ') : ∀ {v : List V} {d : List D}, RepXs T F ρ σ v d → RepXs T F' ρ' σ v d
  | _, _, .nil => .nil
  | _, _, .cons a b => .cons (a.mono s p) (RepXs.mono s p b)
theorem RepXs.reps {T : Tx} {F : Hp} {ρ : List Addr} {σ : L2.St} : ∀ {v : List V} {d : List D}, RepXs T F ρ σ v d → d.any isHnd = false → Reps T F ρ v d
  | _, _, .nil, _ => .nil
  | _, _, .cons a b, h => by
    rw [List.any_cons, Bool.or_eq_false_iff] at h
    exact .cons (a.rep h.1) (RepXs.reps b h.2)
theorem Reps.xs {T : Tx} {F : Hp} {ρ : List Addr} {σ : L2.St} : ∀ {v : List V} {d : List D}, Reps T F ρ v d → RepXs T F ρ σ v d
  | _, _, .nil => .nil
  | _, _, .cons a b => .cons (.inl a) b.xs

/-! ### names, constants -/
theorem tC_imp {v : V} {d : D} (h : ∀ F ρ, Rep (tx X) F ρ v d) : ∀ σ H Q, tE X (eC d) σ H Q → tC v σ H Q := by
  rintro σ H Q ⟨g, S, F, ρ, d', S', R, e, q⟩
  cases e
  exact q v F ρ H Sub.refl (List.prefix_refl _) R (.inl (h F ρ))
variable {pos : Pos}
theorem ed_int {i : Int} {j : Nat} : ED X (.Constant (.int i) j pos) (eC (.int i)) := PE_imp pe_int (tC_imp fun _ _ => .int i)
theorem ed_bl {b : Bool} {j : Nat} : ED X (.Constant (.bool b) j pos) (eC (.bl b)) := PE_imp pe_bl (tC_imp fun _ _ => .bl b)
theorem ed_non {j : Nat} : ED X (.Constant .none j pos) (eC .non) := PE_imp pe_non (tC_imp fun _ _ => .non)
theorem ed_str {s : Str} {j : Nat} : ED X (.Constant (.str s) j pos) (eC (.str s)) := PE_imp pe_str (tC_imp fun _ _ => .str s)
theorem ed_var {x : Str} (i : Nat) (hN : X.N[i]? = some x) (hv : Vis X.env.scope x) (hd : (x == ("__debug__" : Str)) = false := by decide) (hcd : (x == ("__classdict__" : Str)) = false := by decide) : ED X (.Name x pos) (eVar i) := by
  refine PE_imp (pe_var hN hv hd hcd) ?_
  rintro σ H Q ⟨g, S, F, ρ, d, S', R, e, q⟩
  unfold eVar at e
  cases h : S.env[i]? with
  | none => rw [h] at e; cases e
  | some s =>
    rw [h] at e
    have hi : i < σ.length := by rw [← R.slen]; exact (List.getElem?_eq_some_iff.mp h).1
    have hs := R.slot i _ s (List.getElem?_eq_getElem hi) h
    cases s with
    | non => cases e
    | fro d =>
      cases e
      cases hs with
      | fro ev r => exact ⟨_, by rw [List.getElem?_eq_getElem hi, ev], q _ F ρ H Sub.refl (List.prefix_refl _) R (.inl r)⟩
    | own d =>
      cases e
      cases hs with
      | own ev r => exact ⟨_, by rw [List.getElem?_eq_getElem hi, ev], q _ F ρ H Sub.refl (List.prefix_refl _) R (.inr ⟨i, rfl, by rw [List.getElem?_eq_getElem hi, ev]⟩)⟩
/-- a global name's value -/
theorem ed_glob {x : Str} {v : V} {u : Value} (d : D) (hg : Gl X x) (hm : X.mg x = some u) (r : RelV v u) (h : ∀ F ρ, Rep (tx X) F ρ v d) (hd : (x == ("__debug__" : Str)) = false := by decide) : ED X (.Name x pos) (eC d) :=
  PE_imp (pe_glob hg hm r hd) (tC_imp h)

/-! ### two values, one value -/
/-- what is done with two values, no object made -/
def Op2 (X : Cx) (f : DS → D → D → Option D) (r : R2) : Prop := ∀ (g : Gh) (S : DS) (F : Hp) (ρ : List Addr) (σ : L2.St) (H : Hp) (v u : V) (x y d : D) (Q : VK), SR (tx X) g S F ρ σ H → RepX (tx X) F ρ σ v x → RepX (tx X) F ρ σ u y → f S x y = some d →
  (∀ v' F' ρ' H', Sub F F' → ρ <+: ρ' → SR (tx X) g S F' ρ' σ H' → RepX (tx X) F' ρ' σ v' d → Q v' H') → r v u H Q
theorem eB_some {m : EM} {k : D → EM} {S : DS} {r : D × DS} (h : eB m k S = some r) : ∃ d S1, m S = some (d, S1) ∧ k d S1 = some r := by
  unfold eB at h
  split at h
  · exact ⟨_, _, by assumption, h⟩
  · cases h
theorem e2_some {f : DS → D → D → Option D} {ma mb : EM} {S : DS} {d : D} {S' : DS} (h : e2 f ma mb S = some (d, S')) : ∃ x S1 y, ma S = some (x, S1) ∧ mb S1 = some (y, S') ∧ f S' x y = some d := by
  obtain ⟨x, S1, h1, h⟩ := eB_some h
  obtain ⟨y, S2, h2, h⟩ := eB_some h
  try dsimp only at h
  split at h
  · cases h
    exact ⟨x, S1, y, h1, h2, by assumption⟩
  · cases h
theorem e1_some {f : DS → D → Option D} {ma : EM} {S : DS} {d : D} {S' : DS} (h : e1 f ma S = some (d, S')) : ∃ x, ma S = some (x, S') ∧ f S' x = some d := by
  obtain ⟨x, S1, h1, h⟩ := eB_some h
  try dsimp only at h
  split at h
  · cases h
    exact ⟨x, h1, by assumption⟩
  · cases h
theorem e2_imp {f : DS → D → D → Option D} {r : R2} {ma mb : EM} (h : Op2 X f r) : ∀ σ H Q, tE X (e2 f ma mb) σ H Q → tOp r (tE X ma) (tE X mb) σ H Q := by
  rintro σ H Q ⟨g, S, F, ρ, d, S', R, e, q⟩
  obtain ⟨x, S1, y, e1, e2, e3⟩ := e2_some e
  refine ⟨g, S, F, ρ, x, S1, R, e1, fun v F1 ρ1 H1 s1 p1 R1 r1 => ⟨g, S1, F1, ρ1, y, S', R1, e2, fun u F2 ρ2 H2 s2 p2 R2 r2 => ?_⟩⟩
  exact h g S' F2 ρ2 σ H2 v u x y d Q R2 (r1.mono s2 p2) r2 e3 fun v' F' ρ' H' s p R' r' => q v' F' ρ' H' ((s1.trans s2).trans s) ((p1.trans p2).trans p) R' r'
theorem ed_bin {op : Operator} {f : DS → D → D → Option D} {r : R2} {a b : Expr} {ma mb : EM} (ho : OpR X (binaryOp op) r) (h : Op2 X f r) (ha : ED X a ma) (hb : ED X b mb) : ED X (.BinOp a op b pos) (e2 f ma mb) :=
  PE_imp (pe_op ho ha hb) (e2_imp h)
theorem ed_cmp {op : CmpOp} {f : DS → D → D → Option D} {r : R2} {a b : Expr} {ma mb : EM} (ho : OpR X (compareOp op) r) (h : Op2 X f r) (ha : ED X a ma) (hb : ED X b mb) (hm : behindInMarks op b = false) : ED X (.Compare a [op] [b] pos) (e2 f ma mb) :=
  PE_imp (pe_cmpR ho ha hb hm) (e2_imp h)
/-- as a test: the value is a bool -/
def tB2 (m : EM) : TM := fun S => match m S with | some (.bl b, S1) => some (b, S1) | _ => none
theorem tB2_imp {m : EM} {t : TE} (h : ∀ σ H Q, tE X m σ H Q → t σ H Q) : ∀ σ H Q, tT X (tB2 m) σ H Q → tTest t σ H Q := by
  rintro σ H Q ⟨g, S, F, ρ, b, S', R, e, q⟩
  unfold tB2 at e
  split at e
  · rename_i b' S1 e1
    cases e
    refine h σ H _ ⟨g, S, F, ρ, .bl b, S', R, e1, fun v F' ρ' H' s p R' r' => ?_⟩
    rcases r' with r' | ⟨i, z, _⟩
    · cases r'
      exact ⟨b, rfl, q F' ρ' H' s p R'⟩
    · cases z
  · cases e
theorem td_cmp {op : CmpOp} {f : DS → D → D → Option D} {r : R2} {a b : Expr} {ma mb : EM} (ho : OpR X (compareOp op) r) (h : Op2 X f r) (ha : ED X a ma) (hb : ED X b mb) (hm : behindInMarks op b = false) : TD X (.Compare a [op] [b] pos) (tB2 (e2 f ma mb)) :=
  PT_imp (pt_cmpR ho ha hb hm) (tB2_imp (e2_imp h))

/-! ### ints -/
def oI (C : Int → Int → Prop) [∀ i j, Decidable (C i j)] (g : Int → Int → Int) : DS → D → D → Option D := fun _ x y => match x, y with
  | .int i, .int j => if C i j then some (.int (g i j)) else none
  | _, _ => none
def oIB (g : Int → Int → Bool) : DS → D → D → Option D := fun _ x y => match x, y with
  | .int i, .int j => some (.bl (g i j))
  | _, _ => none
theorem repx_int {F : Hp} {ρ : List Addr} {σ : L2.St} {v : V} {i : Int} (h : RepX (tx X) F ρ σ v (.int i)) : v = .int i := by
  rcases h with h | ⟨_, z, _⟩
  · cases h; rfl
  · cases z
theorem repx_str {F : Hp} {ρ : List Addr} {σ : L2.St} {v : V} {i : Str} (h : RepX (tx X) F ρ σ v (.str i)) : v = .str i := by
  rcases h with h | ⟨_, z, _⟩
  · cases h; rfl
  · cases z
theorem repx_bl {F : Hp} {ρ : List Addr} {σ : L2.St} {v : V} {i : Bool} (h : RepX (tx X) F ρ σ v (.bl i)) : v = .bl i := by
  rcases h with h | ⟨_, z, _⟩
  · cases h; rfl
  · cases z
theorem repx_non {F : Hp} {ρ : List Addr} {σ : L2.St} {v : V} (h : RepX (tx X) F ρ σ v .non) : v = .non := by
  rcases h with h | ⟨_, z, _⟩
  · cases h; rfl
  · cases z
theorem op2_I {C : Int → Int → Prop} [∀ i j, Decidable (C i j)] {k : Int → Int → Int} : Op2 X (oI C k) (rI C fun i j => .int (k i j)) := by
  intro g S F ρ σ H v u x y d Q R r1 r2 e q
  unfold oI at e
  split at e
  · split at e
    · cases e
      cases repx_int r1
      cases repx_int r2
      exact ⟨_, _, rfl, rfl, by assumption, q _ F ρ H Sub.refl (List.prefix_refl _) R (.inl (.int _))⟩
    · cases e
  · cases e
theorem op2_I0 {k : Int → Int → Int} : Op2 X (oI (fun _ _ => True) k) (rI0 fun i j => .int (k i j)) := by
  intro g S F ρ σ H v u x y d Q R r1 r2 e q
  unfold oI at e
  split at e
  · split at e
    · cases e
      cases repx_int r1
      cases repx_int r2
      exact ⟨_, _, rfl, rfl, q _ F ρ H Sub.refl (List.prefix_refl _) R (.inl (.int _))⟩
    · cases e
  · cases e
theorem op2_IB {k : Int → Int → Bool} : Op2 X (oIB k) (rI0 fun i j => .bl (k i j)) := by
  intro g S F ρ σ H v u x y d Q R r1 r2 e q
  unfold oIB at e
  split at e
  · cases e
    cases repx_int r1
    cases repx_int r2
    exact ⟨_, _, rfl, rfl, q _ F ρ H Sub.refl (List.prefix_refl _) R (.inl (.bl _))⟩
  · cases e
end
end DL

set_option Elab.async false
set_option linter.all false
set_option maxRecDepth 100000
set_option maxHeartbeats 1000000
namespace DL
open PySem PySem.Spec PyProof.Rows L2
section
variable {T : Tx} {g : Gh} {S : DS} {F : Hp} {ρ : List Addr} {σ : L2.St} {H : Hp}
theorem SlotOk.fro_mono {F' H' : Hp} {ρ' : List Addr} {v : Option V} {d : D} (s : Sub F F') (p : ρ <+: ρ') (h : SlotOk T g F ρ H v (.fro d)) : SlotOk T g F' ρ' H' v (.fro d) := by
  cases h with
  | fro e r => exact .fro e (r.mono s p)
/-- an own list (or dict) of a name is given away -/
theorem SR.freeze (R : SR T g S F ρ σ H) {i : Nat} {a : Addr} {d : D} {H' : Hp} {o : HO} (hi : S.env[i]? = some (.own d)) (ha : σ[i]? = some (some (.ref a))) (hH : ∀ b, b ≠ a → H' b = H b) (ho : H' a = some o)
    (hr : Rep T (upd F a o) ρ (.ref a) d) : SR T g (S.setE i (.fro d)) (upd F a o) ρ σ H' := by
  obtain ⟨_, _, fa, ga, na⟩ : True ∧ Own T F ρ H a d ∧ F a = none ∧ g.H a = none ∧ a ∉ ρ := by
    cases R.slot i _ _ ha hi with
    | own e q f gh nr => cases e; exact ⟨trivial, q, f, gh, nr⟩
  have s : Sub F (upd F a o) := Sub.upd fa
  have hiL : i < S.env.length := (List.getElem?_eq_some_iff.mp hi).1
  refine ⟨R.fg.trans s, fun b u e => ?_, fun b u e => ?_, fun b u e n => ?_, R.rg, R.rnd, R.rnew, R.clen, fun k b c h1 h2 => ?_, by simp [DS.setE, R.slen], fun k v sl h1 h2 => ?_, fun k j b d1 d2 h1 h2 h3 h4 => ?_, fun q hq => ?_⟩
  · by_cases h : b = a
    · subst h; exact .inr ga
    · rw [upd_ne h] at e; exact R.fn b u e
  · by_cases h : b = a
    · subst h; rw [upd_same] at e; cases e; exact ho
    · rw [upd_ne h] at e; rw [hH b h]; exact R.fh b u e
  · have h : b ≠ a := fun z => by rw [z, ga] at e; cases e
    rw [hH b h]; exact R.keep b u e n
  · have hb : b ≠ a := fun z => na (z ▸ List.mem_of_getElem? h1)
    cases R.cell k b c h1 h2 with
    | live q f => exact .live (q.mono s (List.prefix_refl _) fun u e => by rw [hH b hb]; exact e) (by rw [upd_ne hb]; exact f)
    | frz q t => obtain ⟨u, t⟩ := t; exact .frz (q.mono s (List.prefix_refl _)) ⟨u, by rw [hH b hb]; exact t⟩
  · simp only [DS.setE] at h2
    by_cases hk : k = i
    · subst hk
      rw [List.getElem?_set_self hiL] at h2
      cases h2
      rw [ha] at h1; cases h1
      exact .fro rfl hr
    · rw [List.getElem?_set_ne (Ne.symm hk)] at h2
      cases R.slot k v sl h1 h2 with
      | non => exact .non
      | fro e q => exact .fro e (q.mono s (List.prefix_refl _))
      | @own b e h3 q f gh nr =>
        subst h3
        have hb : b ≠ a := fun z => by
          subst z
          exact hk (R.apart k i b _ _ h2 hi h1 ha)
        exact .own rfl (q.mono s (List.prefix_refl _) fun u e => by rw [hH b hb]; exact e) (by rw [upd_ne hb]; exact f) gh nr
  · simp only [DS.setE] at h1 h2
    have hk : k ≠ i := fun z => by subst z; rw [List.getElem?_set_self hiL] at h1; cases h1
    have hj : j ≠ i := fun z => by subst z; rw [List.getElem?_set_self hiL] at h2; cases h2
    rw [List.getElem?_set_ne (Ne.symm hk)] at h1
    rw [List.getElem?_set_ne (Ne.symm hj)] at h2
    exact R.apart k j b d1 d2 h1 h2 h3 h4
  · obtain ⟨h1, h2, h3, h4⟩ := R.exo q hq
    have hb : q.1 ≠ a := fun z => h4 i d hi (by rw [z]; exact ha)
    refine ⟨by rw [hH _ hb]; exact h1, by rw [upd_ne hb]; exact h2, h3, fun k e he => ?_⟩
    simp only [DS.setE] at he
    have hk : k ≠ i := fun z => by subst z; rw [List.getElem?_set_self hiL] at he; cases he
    rw [List.getElem?_set_ne (Ne.symm hk)] at he
    exact h4 k e he
end

section
variable {X : Cx} {pos : Pos}
/-- the value is locked behind it, if wished -/
theorem pe_ghost {e : Expr} {t : TE} (h : PE X e t) : PE X e (fun σ H Q => t σ H fun v H1 => Q v H1 ∨ ∃ d u, H1 d = some u ∧ Mut (some u) ∧ ∀ od, Q v (upd H1 d (.frz od u))) := by
  refine ⟨fun pins s σ H Q I hw => ?_⟩
  refine thn (h.run pins s σ H _ I hw) fun u s1 ⟨x, H1, I1, r1, q1⟩ => ?_
  rcases q1 with q1 | ⟨d, ho, hd, mu, q1⟩
  · exact ⟨x, H1, I1, r1, q1⟩
  · obtain ⟨od, I2⟩ := I1.lock hd mu
    exact ⟨x, _, I2, r1, q1 od⟩
theorem give_run {g : Gh} {S : DS} {F : Hp} {ρ : List Addr} {σ : L2.St} {H : Hp} {v : V} {d d' : D} {S' : DS} {Q : VK} (R : SR (tx X) g S F ρ σ H) (r : RepX (tx X) F ρ σ v d) (e : give d S = some (d', S'))
    (q : ∀ F' ρ' H', Sub F F' → ρ <+: ρ' → SR (tx X) g S' F' ρ' σ H' → Rep (tx X) F' ρ' v d' → isHnd d' = false → Q v H') :
    Q v H ∨ ∃ d u, H d = some u ∧ Mut (some u) ∧ ∀ od, Q v (upd H d (.frz od u)) := by
  rcases r with r | ⟨i, rfl, hσ⟩
  · have hn : give d S = some (d, S) ∧ isHnd d = false := by cases r <;> exact ⟨rfl, rfl⟩
    rw [hn.1] at e
    cases e
    exact .inl (q F ρ H Sub.refl (List.prefix_refl _) R r hn.2)
  · unfold give at e
    dsimp only at e
    split at e
    · rename_i c hc
      cases e
      cases R.slot i _ _ hσ hc with
      | @own a _ ev ow fa ga na =>
        cases ev
        have s : ∀ o, Sub F (upd F a o) := fun o => Sub.upd fa
        cases ow with
        | lst h rs =>
          refine .inl (q (upd F a _) ρ H (s _) (List.prefix_refl _) (R.freeze hc hσ (fun _ _ => rfl) h (.lst upd_same (rs.mono (s _) (List.prefix_refl _)))) (.lst upd_same (rs.mono (s _) (List.prefix_refl _))) rfl)
        | dS h l rs =>
          refine .inr ⟨a, _, h, trivial, fun od => ?_⟩
          exact q (upd F a _) ρ _ (s _) (List.prefix_refl _) (R.freeze hc hσ (fun b hb => upd_ne hb) upd_same (.dS upd_same l (rs.mono (s _) (List.prefix_refl _)))) (.dS upd_same l (rs.mono (s _) (List.prefix_refl _))) rfl
        | dT h n k v rs =>
          refine .inr ⟨a, _, h, trivial, fun od => ?_⟩
          exact q (upd F a _) ρ _ (s _) (List.prefix_refl _) (R.freeze hc hσ (fun b hb => upd_ne hb) upd_same (.dT upd_same n (k.mono (s _) (List.prefix_refl _)) v (rs.mono (s _) (List.prefix_refl _)))) (.dT upd_same n (k.mono (s _) (List.prefix_refl _)) v (rs.mono (s _) (List.prefix_refl _))) rfl
        | obj m h l rs =>
          refine .inl (q (upd F a _) ρ H (s _) (List.prefix_refl _) (R.freeze hc hσ (fun _ _ => rfl) h (.obj m upd_same l (rs.mono (s _) (List.prefix_refl _)))) (.obj m upd_same l (rs.mono (s _) (List.prefix_refl _))) rfl)
    · cases e
theorem ed_give {e : Expr} {m : EM} (h : ED X e m) : ED X e (eG m) := by
  refine PE_imp (pe_ghost h) ?_
  rintro σ H Q ⟨g, S, F, ρ, d, S', R, e, q⟩
  obtain ⟨d0, S1, h1, h2⟩ := eB_some e
  refine ⟨g, S, F, ρ, d0, S1, R, h1, fun v F1 ρ1 H1 s1 p1 R1 r1 => ?_⟩
  exact give_run R1 r1 h2 fun F' ρ' H' s p R' r' _ => q v F' ρ' H' (s1.trans s) (p1.trans p) R' (.inl r')

/-! ### argument lists, displays -/
theorem ad_nil : AD X [] aN := by
  refine PA_imp pa_nil ?_
  rintro σ H Q ⟨g, S, F, ρ, ds, S', R, e, q⟩
  cases e
  exact q [] F ρ H Sub.refl (List.prefix_refl _) R .nil
theorem ad_cons {e : Expr} {es : List Expr} {m : EM} {r : AM} (h : ED X e m) (hr : AD X es r) (hs : starEach (e :: es) X.env = (false, eval e X.env) :: starEach es X.env := by rfl) : AD X (e :: es) (aC m r) := by
  refine PA_imp (pa_cons h hr hs) ?_
  rintro σ H Q ⟨g, S, F, ρ, ds, S', R, e, q⟩
  unfold aC at e
  split at e
  · rename_i d S1 e1
    split at e
    · rename_i ds1 S2 e2
      cases e
      refine ⟨g, S, F, ρ, d, S1, R, e1, fun v F1 ρ1 H1 s1 p1 R1 r1 => ⟨g, S1, F1, ρ1, ds1, S', R1, e2, fun vs F2 ρ2 H2 s2 p2 R2 r2 => ?_⟩⟩
      exact q (v :: vs) F2 ρ2 H2 (s1.trans s2) (p1.trans p2) R2 (.cons (r1.mono s2 p2) r2)
    · cases e
  · cases e
theorem eA_some {m : AM} {f : List D → Option D} {S : DS} {d : D} {S' : DS} (h : eA m f S = some (d, S')) : ∃ ds, m S = some (ds, S') ∧ ds.any isHnd = false ∧ f ds = some d := by
  unfold eA at h
  split at h
  · rename_i ds S1 e1
    split at h
    · cases h
    · rename_i hn
      split at h
      · cases h
        exact ⟨ds, e1, by simpa using hn, by assumption⟩
      · cases h
  · cases h
def fTup (ds : List D) : Option D := if ds.length ≤ 16777216 then some (.tup ds) else none
def fLst (ds : List D) : Option D := if ds.length ≤ 16777216 then some (.lst ds) else none
theorem fTup_some {ds : List D} {d : D} (h : fTup ds = some d) : d = .tup ds ∧ ds.length ≤ sizeLine := by
  unfold fTup at h
  split at h
  · cases h; exact ⟨rfl, by rw [sizeLine_eq]; assumption⟩
  · cases h
theorem fLst_some {ds : List D} {d : D} (h : fLst ds = some d) : d = .lst ds ∧ ds.length ≤ sizeLine := by
  unfold fLst at h
  split at h
  · cases h; exact ⟨rfl, by rw [sizeLine_eq]; assumption⟩
  · cases h
theorem ed_tup {es : List Expr} {x1 : Nat} {m : AM} (h : AD X es m) : ED X (.Tuple es x1 pos) (eA m fTup) := by
  refine PE_imp (pe_tup h) ?_
  rintro σ H Q ⟨g, S, F, ρ, d, S', R, e, q⟩
  obtain ⟨ds, h1, h2, h3⟩ := eA_some e
  obtain ⟨rfl, hz⟩ := fTup_some h3
  refine ⟨g, S, F, ρ, ds, S', R, h1, fun vs F1 ρ1 H1 s1 p1 R1 r1 => ?_⟩
  have rs := r1.reps h2
  refine ⟨by rw [rs.length]; exact hz, fun p hp => ?_⟩
  have s2 := Sub.upd (o := HO.tup vs) (R1.new_g hp).2.2
  exact q _ (upd F1 p (.tup vs)) ρ1 _ (s1.trans s2) p1 (R1.alloc hp) (.inl (.tup (.inl (.inl upd_same)) (rs.mono s2 (List.prefix_refl _))))

/-! ### fresh objects: own lists and dicts before anyone else knows them -/
structure Fresh (T : Tx) (g : Gh) (S : DS) (F : Hp) (ρ : List Addr) (σ : L2.St) (H : Hp) (a : Addr) (d : D) : Prop where
  own : Own T F ρ H a d
  nf : F a = none
  ng : g.H a = none
  nr : a ∉ ρ
  ns : ∀ (j : Nat) (e : D), S.env[j]? = some (.own e) → σ[j]? ≠ some (some (.ref a))
  nx : ∀ p ∈ g.ex, p.1 ≠ a
def tO (X : Cx) (m : EM) : TE := fun σ H Q => ∃ g S F ρ d S', SR (tx X) g S F ρ σ H ∧ m S = some (d, S') ∧
  ∀ a F' ρ' H', Sub F F' → ρ <+: ρ' → SR (tx X) g S' F' ρ' σ H' → Fresh (tx X) g S' F' ρ' σ H' a d → Q (.ref a) H'
abbrev OD (X : Cx) (e : Expr) (m : EM) : Prop := PE X e (tO X m)
/-- laid at a free place, own -/
theorem SR.lay {T : Tx} {g : Gh} {S : DS} {F : Hp} {ρ : List Addr} {σ : L2.St} {H : Hp} (R : SR T g S F ρ σ H) {p : Addr} {o : HO} (hp : H p = none) : SR T g S F ρ σ (upd H p o) := by
  obtain ⟨hg, hr, hf⟩ := R.new_g hp
  have hh : ∀ {a : Addr} {u : HO}, H a = some u → upd H p o a = some u := fun e => Sub.upd hp _ _ e
  refine ⟨R.fg, R.fn, fun a u e => hh (R.fh a u e), fun a u e n => hh (R.keep a u e n), R.rg, R.rnd, R.rnew, R.clen, fun i a c h1 h2 => ?_, R.slen, fun i v sl h1 h2 => ?_, R.apart, fun q hq => let ⟨h1, h2⟩ := R.exo q hq; ⟨hh h1, h2⟩⟩
  · cases R.cell i a c h1 h2 with
    | live q f => exact .live (q.mono Sub.refl (List.prefix_refl _) fun u e => hh e) f
    | frz q t => obtain ⟨u, t⟩ := t; exact .frz q ⟨u, hh t⟩
  · cases R.slot i v sl h1 h2 with
    | non => exact .non
    | fro e q => exact .fro e q
    | own e q f gh nr => exact .own e (q.mono Sub.refl (List.prefix_refl _) fun u e => hh e) f gh nr
theorem SR.lay_fresh {T : Tx} {g : Gh} {S : DS} {F : Hp} {ρ : List Addr} {σ : L2.St} {H : Hp} (R : SR T g S F ρ σ H) {p : Addr} {o : HO} {d : D} (hp : H p = none) (ow : Own T F ρ (upd H p o) p d) : Fresh T g S F ρ σ (upd H p o) p d := by
  obtain ⟨hg, hr, hf⟩ := R.new_g hp
  refine ⟨ow, hf, hg, hr, fun j e h1 h2 => ?_, fun q hq z => ?_⟩
  rotate_left
  · obtain ⟨h1, _⟩ := R.exo q hq
    rw [z, hp] at h1; cases h1
  cases R.slot j _ _ h2 h1 with
  | own ev q _ _ _ =>
    cases ev
    obtain ⟨u, z⟩ := q.there
    rw [hp] at z; cases z
/-- a fresh object is frozen at once -/
theorem SR.fix {T : Tx} {g : Gh} {S : DS} {F : Hp} {ρ : List Addr} {σ : L2.St} {H H' : Hp} (R : SR T g S F ρ σ H) {a : Addr} {d : D} {o : HO} (fr : Fresh T g S F ρ σ H a d) (hH : ∀ b, b ≠ a → H' b = H b) (ho : H' a = some o) : SR T g S (upd F a o) ρ σ H' := by
  have s : Sub F (upd F a o) := Sub.upd fr.nf
  refine ⟨R.fg.trans s, fun b u e => ?_, fun b u e => ?_, fun b u e n => ?_, R.rg, R.rnd, R.rnew, R.clen, fun k b c h1 h2 => ?_, R.slen, fun k v sl h1 h2 => ?_, R.apart, fun q hq => ?_⟩
  · by_cases h : b = a
    · subst h; exact .inr fr.ng
    · rw [upd_ne h] at e; exact R.fn b u e
  · by_cases h : b = a
    · subst h; rw [upd_same] at e; cases e; exact ho
    · rw [upd_ne h] at e; rw [hH b h]; exact R.fh b u e
  · have h : b ≠ a := fun z => by rw [z, fr.ng] at e; cases e
    rw [hH b h]; exact R.keep b u e n
  · have hb : b ≠ a := fun z => fr.nr (z ▸ List.mem_of_getElem? h1)
    cases R.cell k b c h1 h2 with
    | live q f => exact .live (q.mono s (List.prefix_refl _) fun u e => by rw [hH b hb]; exact e) (by rw [upd_ne hb]; exact f)
    | frz q t => obtain ⟨u, t⟩ := t; exact .frz (q.mono s (List.prefix_refl _)) ⟨u, by rw [hH b hb]; exact t⟩
  · cases R.slot k v sl h1 h2 with
    | non => exact .non
    | fro e q => exact .fro e (q.mono s (List.prefix_refl _))
    | @own b e h3 q f gh nr =>
      subst h3
      have hb : b ≠ a := fun z => by
        subst z
        exact fr.ns k _ h2 h1
      exact .own rfl (q.mono s (List.prefix_refl _) fun u e => by rw [hH b hb]; exact e) (by rw [upd_ne hb]; exact f) gh nr
  · obtain ⟨h1, h2, h3, h4⟩ := R.exo q hq
    have hb : q.1 ≠ a := fr.nx q hq
    exact ⟨by rw [hH _ hb]; exact h1, by rw [upd_ne hb]; exact h2, h3, h4⟩
theorem ed_of_od {e : Expr} {m : EM} (h : OD X e m) : ED X e m := by
  refine PE_imp (pe_ghost h) ?_
  rintro σ H Q ⟨g, S, F, ρ, d, S', R, e, q⟩
  refine ⟨g, S, F, ρ, d, S', R, e, fun a F1 ρ1 H1 s1 p1 R1 fr => ?_⟩
  have s : ∀ o, Sub F1 (upd F1 a o) := fun o => Sub.upd fr.nf
  obtain ⟨ow, _, _, _, _⟩ := id fr
  cases ow with
  | lst h rs => exact .inl (q _ (upd F1 a _) ρ1 H1 (s1.trans (s _)) p1 (R1.fix fr (fun _ _ => rfl) h) (.inl (.lst upd_same (rs.mono (s _) (List.prefix_refl _)))))
  | dS h l rs =>
    refine .inr ⟨a, _, h, trivial, fun od => ?_⟩
    exact q _ (upd F1 a _) ρ1 _ (s1.trans (s _)) p1 (R1.fix fr (fun b hb => upd_ne hb) upd_same) (.inl (.dS upd_same l (rs.mono (s _) (List.prefix_refl _))))
  | dT h n k v rs =>
    refine .inr ⟨a, _, h, trivial, fun od => ?_⟩
    exact q _ (upd F1 a _) ρ1 _ (s1.trans (s _)) p1 (R1.fix fr (fun b hb => upd_ne hb) upd_same) (.inl (.dT upd_same n (k.mono (s _) (List.prefix_refl _)) v (rs.mono (s _) (List.prefix_refl _))))
  | obj m h l rs => exact .inl (q _ (upd F1 a _) ρ1 H1 (s1.trans (s _)) p1 (R1.fix fr (fun _ _ => rfl) h) (.inl (.obj m upd_same l (rs.mono (s _) (List.prefix_refl _)))))
theorem od_lst {es : List Expr} {m : AM} (h : AD X es m) : OD X (.List es pos) (eA m fLst) := by
  refine PE_imp (pe_lst h) ?_
  rintro σ H Q ⟨g, S, F, ρ, d, S', R, e, q⟩
  obtain ⟨ds, h1, h2, h3⟩ := eA_some e
  obtain ⟨rfl, hz⟩ := fLst_some h3
  refine ⟨g, S, F, ρ, ds, S', R, h1, fun vs F1 ρ1 H1 s1 p1 R1 r1 => ?_⟩
  have rs := r1.reps h2
  refine ⟨by rw [rs.length]; exact hz, fun p hp => ?_⟩
  exact q p F1 ρ1 _ s1 p1 (R1.lay hp) (R1.lay_fresh hp (.lst upd_same rs))
end
end DL

set_option Elab.async false
set_option linter.all false
set_option maxRecDepth 100000
set_option maxHeartbeats 1000000
namespace DL
open PySem PySem.Spec PyProof.Rows L2

/-! ### tests -/
def tNotM (m : TM) : TM := fun S => match m S with | some (b, S1) => some (!b, S1) | none => none
def tAndM (a b : TM) : TM := fun S => match a S with | some (true, S1) => b S1 | r => r
def tOrM (a b : TM) : TM := fun S => match a S with | some (false, S1) => b S1 | r => r
/-! ### statements -/
def sN : SM := fun S => some (.nx, S)
def sS (a b : SM) : SM := fun S => match a S with | some (.nx, S1) => b S1 | r => r
def sIf (c : TM) (a b : SM) : SM := fun S => match c S with | some (true, S1) => a S1 | some (false, S1) => b S1 | none => none
def sRet (m : EM) : SM := fun S => match m S with | some (d, S1) => if isHnd d then none else some (.rt d, S1) | none => none
def sDrop (m : EM) : SM := fun S => match m S with | some (_, S1) => some (.nx, S1) | none => none
def sSet (i : Nat) (m : EM) : SM := fun S => match m S with | some (d, S1) => if isHnd d then none else some (.nx, S1.setE i (.fro d)) | none => none
def sOwn (i : Nat) (m : EM) : SM := fun S => match m S with | some (d, S1) => some (.nx, S1.setE i (.own d)) | none => none
def sBk : SM := fun S => some (.bk, S)
def sCt : SM := fun S => some (.ct, S)
def sRetN : SM := fun S => some (.rt .non, S)
def sNever : SM := fun _ => none
def loopW (c : TM) (b : SM) : Nat → SM
  | 0 => fun _ => none
  | n + 1 => fun S => match c S with
    | some (false, S1) => some (.nx, S1)
    | some (true, S1) => match b S1 with
      | some (.nx, S2) => loopW c b n S2
      | some (.ct, S2) => loopW c b n S2
      | some (.bk, S2) => some (.nx, S2)
      | some (.rt d, S2) => some (.rt d, S2)
      | none => none
    | none => none
def FU : Nat := 1000000000
def sWhile (c : TM) (b : SM) : SM := loopW c b FU
/-- the target of a for: what the item does to the slots -/
abbrev GM := D → DS → Option DS
def gV (i : Nat) : GM := fun d S => if isHnd d then none else some (S.setE i (.fro d))
def gVs : List Nat → List D → DS → Option DS
  | [], [], S => some S
  | i :: is, d :: ds, S => gVs is ds (S.setE i (.fro d))
  | _, _, _ => none
def gT (is : List Nat) : GM := fun d S => match d with | .tup ds => gVs is ds S | _ => none
def loopF (g : GM) (b : SM) : List D → SM
  | [] => sN
  | d :: ds => fun S => match g d S with
    | none => none
    | some S1 => match b S1 with
      | some (.nx, S2) => loopF g b ds S2
      | some (.ct, S2) => loopF g b ds S2
      | some (.bk, S2) => some (.nx, S2)
      | some (.rt d, S2) => some (.rt d, S2)
      | none => none
def sFor (it : AM) (g : GM) (b : SM) : SM := fun S => match it S with | some (ds, S1) => loopF g b ds S1 | none => none

section
variable {X : Cx} {pos : Pos}
theorem td_not {e : Expr} {m : TM} (h : TD X e m) : TD X (.UnaryOp .Not e pos) (tNotM m) := by
  refine PT_imp (pt_not h) ?_
  rintro σ H Q ⟨g, S, F, ρ, b, S', R, e, q⟩
  unfold tNotM at e
  split at e
  · rename_i b0 S1 e1
    cases e
    exact ⟨g, S, F, ρ, b0, S', R, e1, q⟩
  · cases e
theorem td_w {e : Expr} {m : TM} (h : WD X e m) : TD X e m := h.pt
theorem wd_and1 {a : Expr} {m : TM} (h : TD X a m) : WD X (.BoolOp .And [a] pos) m := pw_and1 h
theorem wd_or1 {a : Expr} {m : TM} (h : TD X a m) : WD X (.BoolOp .Or [a] pos) m := pw_or1 h
theorem wd_and {a b : Expr} {rest : List Expr} {ma mb : TM} (ha : TD X a ma) (hb : WD X (.BoolOp .And (b :: rest) pos) mb) : WD X (.BoolOp .And (a :: b :: rest) pos) (tAndM ma mb) := by
  refine PW_imp (pw_and ha hb) ?_
  rintro σ H Q ⟨g, S, F, ρ, b, S', R, e, q⟩
  unfold tAndM at e
  cases h : ma S with
  | none => rw [h] at e; cases e
  | some p =>
    obtain ⟨b0, S1⟩ := p
    rw [h] at e
    refine ⟨g, S, F, ρ, b0, S1, R, h, fun F1 ρ1 H1 s1 p1 R1 => ?_⟩
    cases b0 with
    | true =>
      rw [if_pos rfl]
      exact ⟨g, S1, F1, ρ1, b, S', R1, e, fun F2 ρ2 H2 s2 p2 R2 => q F2 ρ2 H2 (s1.trans s2) (p1.trans p2) R2⟩
    | false =>
      cases e
      rw [if_neg Bool.false_ne_true]
      exact q F1 ρ1 H1 s1 p1 R1
theorem wd_or {a b : Expr} {rest : List Expr} {ma mb : TM} (ha : TD X a ma) (hb : WD X (.BoolOp .Or (b :: rest) pos) mb) : WD X (.BoolOp .Or (a :: b :: rest) pos) (tOrM ma mb) := by
  refine PW_imp (pw_or ha hb) ?_
  rintro σ H Q ⟨g, S, F, ρ, b, S', R, e, q⟩
  unfold tOrM at e
  cases h : ma S with
  | none => rw [h] at e; cases e
  | some p =>
    obtain ⟨b0, S1⟩ := p
    rw [h] at e
    refine ⟨g, S, F, ρ, b0, S1, R, h, fun F1 ρ1 H1 s1 p1 R1 => ?_⟩
    cases b0 with
    | false =>
      rw [if_neg Bool.false_ne_true]
      exact ⟨g, S1, F1, ρ1, b, S', R1, e, fun F2 ρ2 H2 s2 p2 R2 => q F2 ρ2 H2 (s1.trans s2) (p1.trans p2) R2⟩
    | true =>
      cases e
      rw [if_pos rfl]
      exact q F1 ρ1 H1 s1 p1 R1
/-- an expression whose value is a bool, as a test -/
theorem td_val {e : Expr} {m : EM} (h : ED X e m) (he : ∀ whole, isTrue e X.env whole = (do let v ← whole; standAt e.pos; holding [v] (truthy v)) := by intro _; rfl) : TD X e (tB2 m) :=
  PT_imp (pt_val h he) (tB2_imp fun _ _ _ q => q)

theorem flow_mono {g : Gh} {D : Ends} {F F' : Hp} {ρ ρ' : List Addr} {S : DS} {fl : Fl} (s : Sub F F') (p : ρ <+: ρ') (h : flow D X g F ρ S fl) : flow D X g F' ρ' S fl := by
  cases fl with
  | nx => exact fun F2 ρ2 σ2 H2 s2 p2 R => h F2 ρ2 σ2 H2 (s.trans s2) (p.trans p2) R
  | bk => exact fun F2 ρ2 σ2 H2 s2 p2 R => h F2 ρ2 σ2 H2 (s.trans s2) (p.trans p2) R
  | ct => exact fun F2 ρ2 σ2 H2 s2 p2 R => h F2 ρ2 σ2 H2 (s.trans s2) (p.trans p2) R
  | rt d => exact fun v F2 ρ2 σ2 H2 s2 p2 R r => h v F2 ρ2 σ2 H2 (s.trans s2) (p.trans p2) R r

theorem bd_nil : BD X [] sN := by
  refine PSs_imp pss_nil ?_
  rintro σ H D ⟨g, S, F, ρ, fl, S', R, e, q⟩
  cases e
  exact q F ρ σ H Sub.refl (List.prefix_refl _) R
theorem bd_cons {s : Stmt} {ss : List Stmt} {a b : SM} (h : SD X s a) (hb : BD X ss b) : BD X (s :: ss) (sS a b) := by
  refine PSs_imp (pss_cons h hb) ?_
  rintro σ H D ⟨g, S, F, ρ, fl, S', R, e, q⟩
  unfold sS at e
  cases h1 : a S with
  | none => rw [h1] at e; cases e
  | some p =>
    obtain ⟨f1, S1⟩ := p
    rw [h1] at e
    refine ⟨g, S, F, ρ, f1, S1, R, h1, ?_⟩
    cases f1 with
    | nx => exact fun F1 ρ1 σ1 H1 s1 p1 R1 => ⟨g, S1, F1, ρ1, fl, S', R1, e, flow_mono s1 p1 q⟩
    | bk => cases e; exact q
    | ct => cases e; exact q
    | rt d => cases e; exact q
theorem bd_one {s : Stmt} {a : SM} (h : SD X s a) : BD X [s] a := pss_one h
theorem sd_pass : SD X (.Pass pos) sN := by
  refine PS_imp ps_pass ?_
  rintro σ H D ⟨g, S, F, ρ, fl, S', R, e, q⟩
  cases e
  exact q F ρ σ H Sub.refl (List.prefix_refl _) R
theorem sd_doc {x : Str} {j : Nat} {pos' : Pos} : SD X (.Expr (.Constant (.str x) j pos) pos') sN := by
  refine PS_imp ps_doc ?_
  rintro σ H D ⟨g, S, F, ρ, fl, S', R, e, q⟩
  cases e
  exact q F ρ σ H Sub.refl (List.prefix_refl _) R
theorem sd_break : SD X (.Break pos) sBk := by
  refine PS_imp ps_break ?_
  rintro σ H D ⟨g, S, F, ρ, fl, S', R, e, q⟩
  cases e
  exact q F ρ σ H Sub.refl (List.prefix_refl _) R
theorem sd_continue : SD X (.Continue pos) sCt := by
  refine PS_imp ps_continue ?_
  rintro σ H D ⟨g, S, F, ρ, fl, S', R, e, q⟩
  cases e
  exact q F ρ σ H Sub.refl (List.prefix_refl _) R
/-- a way that is not gone -/
theorem sd_never {s : Stmt} : SD X s sNever := by
  refine PS_imp ps_never ?_
  rintro σ H D ⟨g, S, F, ρ, fl, S', R, e, q⟩
  cases e
theorem sd_if {c : Expr} {a b : List Stmt} {mc : TM} {ma mb : SM} (hc : TD X c mc) (ha : BD X a ma) (hb : BD X b mb) : SD X (.If c a b pos) (sIf mc ma mb) := by
  refine PS_imp (ps_if hc ha hb) ?_
  rintro σ H D ⟨g, S, F, ρ, fl, S', R, e, q⟩
  unfold sIf at e
  cases h1 : mc S with
  | none => rw [h1] at e; cases e
  | some p =>
    obtain ⟨b0, S1⟩ := p
    rw [h1] at e
    refine ⟨g, S, F, ρ, b0, S1, R, h1, fun F1 ρ1 H1 s1 p1 R1 => ?_⟩
    cases b0 with
    | true => rw [if_pos rfl]; exact ⟨g, S1, F1, ρ1, fl, S', R1, e, flow_mono s1 p1 q⟩
    | false => rw [if_neg Bool.false_ne_true]; exact ⟨g, S1, F1, ρ1, fl, S', R1, e, flow_mono s1 p1 q⟩
theorem sd_ret {e : Expr} {m : EM} (h : ED X e m) : SD X (.Return (some e) pos) (sRet m) := by
  refine PS_imp (ps_ret h) ?_
  rintro σ H D ⟨g, S, F, ρ, fl, S', R, e, q⟩
  unfold sRet at e
  split at e
  · rename_i d S1 h1
    split at e
    · cases e
    · rename_i hn
      cases e
      exact ⟨g, S, F, ρ, d, S', R, h1, fun v F' ρ' H' s p R' r => q v F' ρ' σ H' s p R' (r.rep (by simpa using hn))⟩
  · cases e
theorem sd_retN : SD X (.Return none pos) sRetN := by
  refine PS_imp ps_retN ?_
  rintro σ H D ⟨g, S, F, ρ, fl, S', R, e, q⟩
  cases e
  exact q _ F ρ σ H Sub.refl (List.prefix_refl _) R .non
theorem sd_drop {e : Expr} {m : EM} (h : ED X e m) (hs : swapsWith e none pos.line X.env = pure false := by rfl) : SD X (.Expr e pos) (sDrop m) := by
  refine PS_imp (ps_expr h hs) ?_
  rintro σ H D ⟨g, S, F, ρ, fl, S', R, e, q⟩
  unfold sDrop at e
  split at e
  · rename_i d S1 h1
    cases e
    exact ⟨g, S, F, ρ, d, S', R, h1, fun v F' ρ' H' s p R' r => q F' ρ' σ H' s p R'⟩
  · cases e

/-! ### stores to names -/
theorem SR.set_fro {T : Tx} {g : Gh} {S : DS} {F : Hp} {ρ : List Addr} {σ : L2.St} {H : Hp} (R : SR T g S F ρ σ H) {i : Nat} {v : V} {d : D} (r : Rep T F ρ v d) : SR T g (S.setE i (.fro d)) F ρ (σ.set i (some v)) H := by
  refine ⟨R.fg, R.fn, R.fh, R.keep, R.rg, R.rnd, R.rnew, R.clen, R.cell, by simp [DS.setE, R.slen], fun k v' sl h1 h2 => ?_, fun k j b d1 d2 h1 h2 h3 h4 => ?_, fun q hq => ?_⟩
  · simp only [DS.setE] at h2
    by_cases hk : k = i
    · subst hk
      have hl : k < S.env.length := by have := (List.getElem?_eq_some_iff.mp h2).1; simpa using this
      rw [List.getElem?_set_self hl] at h2
      rw [List.getElem?_set_self (by rw [← R.slen]; exact hl)] at h1
      cases h1; cases h2
      exact .fro rfl r
    · rw [List.getElem?_set_ne (Ne.symm hk)] at h1 h2
      exact R.slot k v' sl h1 h2
  · simp only [DS.setE] at h1 h2
    have hk : k ≠ i := fun z => by
      subst z
      have hl : k < S.env.length := by have := (List.getElem?_eq_some_iff.mp h1).1; simpa using this
      rw [List.getElem?_set_self hl] at h1; cases h1
    have hj : j ≠ i := fun z => by
      subst z
      have hl : j < S.env.length := by have := (List.getElem?_eq_some_iff.mp h2).1; simpa using this
      rw [List.getElem?_set_self hl] at h2; cases h2
    rw [List.getElem?_set_ne (Ne.symm hk)] at h1 h3
    rw [List.getElem?_set_ne (Ne.symm hj)] at h2 h4
    exact R.apart k j b d1 d2 h1 h2 h3 h4
  · obtain ⟨h1, h2, h3, h4⟩ := R.exo q hq
    refine ⟨h1, h2, h3, fun k e he => ?_⟩
    simp only [DS.setE] at he
    have hk : k ≠ i := fun z => by
      subst z
      have hl : k < S.env.length := by have := (List.getElem?_eq_some_iff.mp he).1; simpa using this
      rw [List.getElem?_set_self hl] at he; cases he
    rw [List.getElem?_set_ne (Ne.symm hk)] at he ⊢
    exact h4 k e he
theorem SR.set_own {T : Tx} {g : Gh} {S : DS} {F : Hp} {ρ : List Addr} {σ : L2.St} {H : Hp} (R : SR T g S F ρ σ H) {i : Nat} {a : Addr} {d : D} (fr : Fresh T g S F ρ σ H a d) : SR T g (S.setE i (.own d)) F ρ (σ.set i (some (.ref a))) H := by
  refine ⟨R.fg, R.fn, R.fh, R.keep, R.rg, R.rnd, R.rnew, R.clen, R.cell, by simp [DS.setE, R.slen], fun k v' sl h1 h2 => ?_, fun k j b d1 d2 h1 h2 h3 h4 => ?_, fun q hq => ?_⟩
  · simp only [DS.setE] at h2
    by_cases hk : k = i
    · subst hk
      have hl : k < S.env.length := by have := (List.getElem?_eq_some_iff.mp h2).1; simpa using this
      rw [List.getElem?_set_self hl] at h2
      rw [List.getElem?_set_self (by rw [← R.slen]; exact hl)] at h1
      cases h1; cases h2
      exact .own rfl fr.own fr.nf fr.ng fr.nr
    · rw [List.getElem?_set_ne (Ne.symm hk)] at h1 h2
      exact R.slot k v' sl h1 h2
  · simp only [DS.setE] at h1 h2
    by_cases hk : k = i
    · by_cases hj : j = i
      · rw [hk, hj]
      · subst hk
        have hl : k < S.env.length := by have := (List.getElem?_eq_some_iff.mp h1).1; simpa using this
        rw [List.getElem?_set_self (by rw [← R.slen]; exact hl)] at h3
        cases h3
        rw [List.getElem?_set_ne (Ne.symm hj)] at h2 h4
        exact absurd h4 (fr.ns j _ h2)
    · by_cases hj : j = i
      · subst hj
        have hl : j < S.env.length := by have := (List.getElem?_eq_some_iff.mp h2).1; simpa using this
        rw [List.getElem?_set_self (by rw [← R.slen]; exact hl)] at h4
        cases h4
        rw [List.getElem?_set_ne (Ne.symm hk)] at h1 h3
        exact absurd h3 (fr.ns k _ h1)
      · rw [List.getElem?_set_ne (Ne.symm hk)] at h1 h3
        rw [List.getElem?_set_ne (Ne.symm hj)] at h2 h4
        exact R.apart k j b d1 d2 h1 h2 h3 h4
  · obtain ⟨h1, h2, h3, h4⟩ := R.exo q hq
    refine ⟨h1, h2, h3, fun k e he => ?_⟩
    simp only [DS.setE] at he
    by_cases hk : k = i
    · subst hk
      have hl : k < S.env.length := by have := (List.getElem?_eq_some_iff.mp he).1; simpa using this
      rw [List.getElem?_set_self (by rw [← R.slen]; exact hl)]
      intro z
      cases z
      exact fr.nx q hq rfl
    · rw [List.getElem?_set_ne (Ne.symm hk)] at he ⊢
      exact h4 k e he
theorem sd_set {x : Str} {e : Expr} {m : EM} {pos' : Pos} (i : Nat) (hN : X.N.Nodup) (hi : X.N[i]? = some x) (hx : Loc X.env.scope x) (he : ED X e m) (hs : swapsWith e (some (.Name x pos')) pos.line X.env = pure false := by rfl)
    (hf : X.fn x = true ∨ X.env.scope.names.lookup x = some .local := by first | exact .inl rfl | exact .inr rfl | assumption) : SD X (.Assign [.Name x pos'] e pos) (sSet i m) := by
  refine PS_imp (ps_set hN hi hx he hs hf) ?_
  rintro σ H D ⟨g, S, F, ρ, fl, S', R, e, q⟩
  unfold sSet at e
  split at e
  · rename_i d S1 h1
    split at e
    · cases e
    · rename_i hn
      cases e
      exact ⟨g, S, F, ρ, d, S1, R, h1, fun v F' ρ' H' s p R' r => q F' ρ' _ H' s p (R'.set_fro (r.rep (by simpa using hn)))⟩
  · cases e
theorem sd_own {x : Str} {e : Expr} {m : EM} {pos' : Pos} (i : Nat) (hN : X.N.Nodup) (hi : X.N[i]? = some x) (hx : Loc X.env.scope x) (he : OD X e m) (hs : swapsWith e (some (.Name x pos')) pos.line X.env = pure false := by rfl)
    (hf : X.fn x = true ∨ X.env.scope.names.lookup x = some .local := by first | exact .inl rfl | exact .inr rfl | assumption) : SD X (.Assign [.Name x pos'] e pos) (sOwn i m) := by
  refine PS_imp (ps_set hN hi hx he hs hf) ?_
  rintro σ H D ⟨g, S, F, ρ, fl, S', R, e, q⟩
  unfold sOwn at e
  split at e
  · rename_i d S1 h1
    cases e
    exact ⟨g, S, F, ρ, d, S1, R, h1, fun a F' ρ' H' s p R' fr => q F' ρ' _ H' s p (R'.set_own fr)⟩
  · cases e

/-! ### while -/
theorem sd_while {c : Expr} {body : List Stmt} {mc : TM} {mb : SM} (hp : PassesOwn (model X.prog X.w) X.A X.env X.xe) (hc : TD X c mc) (hb : BD X body mb) : SD X (.While c body [] pos) (sWhile mc mb) := by
  refine PS_imp (ps_while hp hc hb) ?_
  rintro σ H D ⟨g, S, F, ρ, fl, S', R, e, q⟩
  refine ⟨fun m σ1 H1 => ∃ S1 F1 ρ1, Sub F F1 ∧ ρ <+: ρ1 ∧ SR (tx X) g S1 F1 ρ1 σ1 H1 ∧ loopW mc mb m S1 = some (fl, S'), ⟨FU, S, F, ρ, Sub.refl, List.prefix_refl _, R, e⟩, ?_⟩
  rintro m σ1 H1 ⟨S1, F1, ρ1, s1, p1, R1, e1⟩
  cases m with
  | zero => cases e1
  | succ m =>
    unfold loopW at e1
    cases h1 : mc S1 with
    | none => rw [h1] at e1; cases e1
    | some pr =>
      obtain ⟨b0, S2⟩ := pr
      rw [h1] at e1
      refine ⟨g, S1, F1, ρ1, b0, S2, R1, h1, fun F2 ρ2 H2 s2 p2 R2 => ?_⟩
      cases b0 with
      | false =>
        cases e1
        rw [if_neg Bool.false_ne_true]
        exact q F2 ρ2 σ1 H2 (s1.trans s2) (p1.trans p2) R2
      | true =>
        rw [if_pos rfl]
        dsimp only at e1
        refine ⟨fun σ3 H3 => ∃ S3 F3 ρ3, Sub F F3 ∧ ρ <+: ρ3 ∧ SR (tx X) g S3 F3 ρ3 σ3 H3 ∧ loopW mc mb m S3 = some (fl, S'), fun σ3 H3 h3 => ⟨m, Nat.lt_succ_self m, h3⟩, ?_⟩
        cases h2 : mb S2 with
        | none => rw [h2] at e1; cases e1
        | some pr2 =>
          obtain ⟨f2, S3⟩ := pr2
          rw [h2] at e1
          refine ⟨g, S2, F2, ρ2, f2, S3, R2, h2, ?_⟩
          have sx := s1.trans s2
          have px := p1.trans p2
          cases f2 with
          | nx => exact fun F3 ρ3 σ3 H3 s3 p3 R3 => ⟨S3, F3, ρ3, sx.trans s3, px.trans p3, R3, e1⟩
          | ct => exact fun F3 ρ3 σ3 H3 s3 p3 R3 => ⟨S3, F3, ρ3, sx.trans s3, px.trans p3, R3, e1⟩
          | bk => cases e1; exact fun F3 ρ3 σ3 H3 s3 p3 R3 => q F3 ρ3 σ3 H3 (sx.trans s3) (px.trans p3) R3
          | rt d => cases e1; exact fun v F3 ρ3 σ3 H3 s3 p3 R3 r => q v F3 ρ3 σ3 H3 (sx.trans s3) (px.trans p3) R3 r

/-! ### for -/
/-- what is walked yields these -/
def Yields (X : Cx) (J : It) (ds : List D) (F : Hp) (ρ : List Addr) : Prop :=
  ∀ (g : Gh) (S : DS) (F1 : Hp) (ρ1 : List Addr) (σ : L2.St) (H1 : Hp), Sub F F1 → ρ <+: ρ1 → SR (tx X) g S F1 ρ1 σ H1 →
    (∀ i d, ds[i]? = some d → J.go i H1 ∧ ∀ x H2, J.yld i H1 x H2 → ∃ F2, Sub F1 F2 ∧ SR (tx X) g S F2 ρ1 σ H2 ∧ Rep (tx X) F2 ρ1 x d) ∧ J.stop ds.length H1
def tI (X : Cx) (m : AM) : TI := fun σ H R => ∃ g S F ρ ds S', SR (tx X) g S F ρ σ H ∧ m S = some (ds, S') ∧
  ∀ J F' ρ' H', Sub F F' → ρ <+: ρ' → SR (tx X) g S' F' ρ' σ H' → Yields X J ds F' ρ' → R J H'
abbrev ID (X : Cx) (tg e : Expr) (m : AM) : Prop := PI X tg e (tI X m)
theorem PI_imp {tg e : Expr} {t t' : TI} (h : PI X tg e t) (i : ∀ σ H Q, t' σ H Q → t σ H Q) : PI X tg e t' := ⟨fun pins s σ H Q I q => h.run pins s σ H Q I (i _ _ _ q)⟩
/-- all but these slots is as it was -/
def Off (is : List Nat) (σ σ' : L2.St) : Prop := σ'.length = σ.length ∧ ∀ k, k ∉ is → σ'[k]? = σ[k]?
theorem Off.refl {is : List Nat} {σ : L2.St} : Off is σ σ := ⟨rfl, fun _ _ => rfl⟩
theorem Off.set {is : List Nat} {σ σ' : L2.St} {i : Nat} {x : Option V} (h : Off is σ σ') : Off (i :: is) σ (σ'.set i x) :=
  ⟨by simpa using h.1, fun k hk => by
    rw [List.mem_cons, not_or] at hk
    rw [List.getElem?_set_ne (Ne.symm hk.1)]
    exact h.2 k hk.2⟩
def tG (X : Cx) (is : List Nat) (m : GM) : TG := fun v σ H Q => ∃ g S F ρ d S', SR (tx X) g S F ρ σ H ∧ Rep (tx X) F ρ v d ∧ m d S = some S' ∧
  ∀ F' ρ' σ' H', Sub F F' → ρ <+: ρ' → Off is σ σ' → SR (tx X) g S' F' ρ' σ' H' → Q σ' H'
abbrev GD (X : Cx) (tg : Expr) (is : List Nat) (m : GM) : Prop := PG X tg (tG X is m)
theorem PG_imp {tg : Expr} {t t' : TG} (h : PG X tg t) (i : ∀ v σ H Q, t' v σ H Q → t v σ H Q) : PG X tg t' := ⟨fun pins s σ H v u Q I r q => h.run pins s σ H v u Q I r (i _ _ _ _ q)⟩
theorem gd_name {x : Str} (i : Nat) (hN : X.N.Nodup) (hi : X.N[i]? = some x) (hx : Loc X.env.scope x) (hf : X.fn x = true ∨ X.env.scope.names.lookup x = some .local := by first | exact .inl rfl | exact .inr rfl | assumption) : GD X (.Name x pos) [i] (gV i) := by
  refine PG_imp (pg_name hN hi hx hf) ?_
  rintro v σ H Q ⟨g, S, F, ρ, d, S', R, r, e, q⟩
  unfold gV at e
  split at e
  · cases e
  · cases e
    exact q F ρ _ H Sub.refl (List.prefix_refl _) Off.refl.set (R.set_fro r)
def tGs (X : Cx) (is : List Nat) : TGs := fun vs σ H Q => ∃ g S F ρ ds S', SR (tx X) g S F ρ σ H ∧ Reps (tx X) F ρ vs ds ∧ gVs is ds S = some S' ∧
  ∀ F' ρ' σ' H', Sub F F' → ρ <+: ρ' → Off is σ σ' → SR (tx X) g S' F' ρ' σ' H' → Q σ' H'
abbrev GsD (X : Cx) (ts : List Expr) (is : List Nat) : Prop := PGs X ts (tGs X is)
theorem PGs_imp {ts : List Expr} {t t' : TGs} (h : PGs X ts t) (i : ∀ v σ H Q, t' v σ H Q → t v σ H Q) : PGs X ts t' := ⟨fun pins s σ H vs us Q I r q => h.run pins s σ H vs us Q I r (i _ _ _ _ q)⟩
theorem gsd_nil : GsD X [] [] := by
  refine PGs_imp pgs_nil ?_
  rintro vs σ H Q ⟨g, S, F, ρ, ds, S', R, r, e, q⟩
  cases r with
  | nil => cases e; exact ⟨rfl, q F ρ σ H Sub.refl (List.prefix_refl _) Off.refl R⟩
  | cons a b => cases e
theorem gsd_cons {x : Str} {p : Pos} {ts : List Expr} {is : List Nat} (i : Nat) (hN : X.N.Nodup) (hi : X.N[i]? = some x) (hx : Loc X.env.scope x) (h : GsD X ts is)
    (hf : X.fn x = true ∨ X.env.scope.names.lookup x = some .local := by first | exact .inl rfl | exact .inr rfl | assumption)
    (hs : (assignEach (.Name x p :: ts) X.env).map (·.2) = assign (.Name x p) X.env :: (assignEach ts X.env).map (·.2) := by rfl) : GsD X (.Name x p :: ts) (i :: is) := by
  refine PGs_imp (pgs_cons (pg_name hN hi hx hf) h hs) ?_
  rintro vs σ H Q ⟨g, S, F, ρ, ds, S', R, r, e, q⟩
  cases r with
  | nil => cases e
  | cons a b =>
    refine ⟨_, _, rfl, ?_⟩
    refine ⟨g, _, F, ρ, _, S', R.set_fro a, b, e, fun F' ρ' σ' H' s p o R' => q F' ρ' σ' H' s p ⟨by simpa using o.1, fun k hk => ?_⟩ R'⟩
    rw [List.mem_cons, not_or] at hk
    rw [o.2 k hk.2, List.getElem?_set_ne (Ne.symm hk.1)]
theorem gd_tup {es : List Expr} {k n : Nat} {is : List Nat} (hc : X.calm = true) (h : GsD X es is) (hn : (assignEach es X.env).length = n := by rfl) (hst : (assignEach es X.env).findIdx? (·.1) = none := by rfl) (hl : is.length = n := by rfl) : GD X (.Tuple es k pos) is (gT is) := by
  refine PG_imp (pg_tup hc h hn hst) ?_
  rintro v σ H Q ⟨g, S, F, ρ, d, S', R, r, e, q⟩
  unfold gT at e
  cases r with
  | @tup a xs ds sq rs =>
    dsimp only at e
    have len : ∀ (is : List Nat) (ds : List D) (S : DS), gVs is ds S = some S' → ds.length = is.length := by
      intro is
      induction is with
      | nil => intro ds S h; cases ds with | nil => rfl | cons a b => cases h
      | cons i is ih => intro ds S h; cases ds with | nil => cases h | cons a b => simpa using ih _ _ h
    refine ⟨a, xs, rfl, SqT_sub R.fh sq, by rw [rs.length, len _ _ _ e, hl], g, S, F, ρ, ds, S', R, rs, e, q⟩
  | _ => cases e
theorem sd_for {tg iter : Expr} {body : List Stmt} {mi : AM} {mg' : GM} {mb : SM} (hp : PassesOwn (model X.prog X.w) X.A X.env X.xe) (hc : X.calm = true) (hi : ID X tg iter mi) {is : List Nat} (hg : GD X tg is mg') (hb : BD X body mb)
    (hs : ∀ x, foldedSetIterable iter X.env x = pure x := by intro _; rfl) : SD X (.For tg iter body [] pos) (sFor mi mg' mb) := by
  refine PS_imp (ps_for hp hc hi hg hb hs) ?_
  rintro σ H D ⟨g, S, F, ρ, fl, S', R, e, q⟩
  unfold sFor at e
  cases h0 : mi S with
  | none => rw [h0] at e; cases e
  | some pr =>
    obtain ⟨ds, S1⟩ := pr
    rw [h0] at e
    refine ⟨g, S, F, ρ, ds, S1, R, h0, fun J F1 ρ1 H1 s1 p1 R1 Y => ?_⟩
    refine ⟨fun i m σ2 H2 => m = ds.length - i ∧ i ≤ ds.length ∧ ∃ S2 F2 ρ2, Sub F1 F2 ∧ ρ1 <+: ρ2 ∧ SR (tx X) g S2 F2 ρ2 σ2 H2 ∧ loopF mg' mb (ds.drop i) S2 = some (fl, S'), ⟨_, rfl, Nat.zero_le _, S1, F1, ρ1, Sub.refl, List.prefix_refl _, R1, e⟩, ?_⟩
    rintro i m σ2 H2 ⟨rfl, hle, S2, F2, ρ2, s2, p2, R2, e2⟩
    obtain ⟨yg, ys⟩ := Y g S2 F2 ρ2 σ2 H2 s2 p2 R2
    by_cases hlt : i < ds.length
    · obtain ⟨hgo, hy⟩ := yg i ds[i] (List.getElem?_eq_getElem hlt)
      rw [List.drop_eq_getElem_cons hlt] at e2
      unfold loopF at e2
      refine .inr ⟨hgo, fun σ3 H3 => ∃ S3 F3 ρ3, Sub F1 F3 ∧ ρ1 <+: ρ3 ∧ SR (tx X) g S3 F3 ρ3 σ3 H3 ∧ loopF mg' mb (ds.drop (i + 1)) S3 = some (fl, S'), fun σ3 H3 h3 => ⟨ds.length - (i + 1), by omega, rfl, hlt, h3⟩, fun x H3 y => ?_⟩
      obtain ⟨F3, s3, R3, rx⟩ := hy x H3 y
      cases h3 : mg' ds[i] S2 with
      | none => rw [h3] at e2; cases e2
      | some S3 =>
        rw [h3] at e2
        dsimp only at e2
        refine ⟨g, S2, F3, ρ2, _, S3, R3, rx, h3, fun F4 ρ4 σ4 H4 s4 p4 _ R4 => ?_⟩
        cases h4 : mb S3 with
        | none => rw [h4] at e2; cases e2
        | some pr2 =>
          obtain ⟨f2, S4⟩ := pr2
          rw [h4] at e2
          refine ⟨g, S3, F4, ρ4, f2, S4, R4, h4, ?_⟩
          have sx := (s2.trans s3).trans s4
          have px := p2.trans p4
          cases f2 with
          | nx => exact fun F5 ρ5 σ5 H5 s5 p5 R5 => ⟨S4, F5, ρ5, sx.trans s5, px.trans p5, R5, e2⟩
          | ct => exact fun F5 ρ5 σ5 H5 s5 p5 R5 => ⟨S4, F5, ρ5, sx.trans s5, px.trans p5, R5, e2⟩
          | bk => cases e2; exact fun F5 ρ5 σ5 H5 s5 p5 R5 => q F5 ρ5 σ5 H5 ((s1.trans sx).trans s5) ((p1.trans px).trans p5) R5
          | rt d => cases e2; exact fun v F5 ρ5 σ5 H5 s5 p5 R5 r => q v F5 ρ5 σ5 H5 ((s1.trans sx).trans s5) ((p1.trans px).trans p5) R5 r
    · have hi : i = ds.length := by omega
      subst hi
      rw [List.drop_length] at e2
      cases e2
      exact .inl ⟨ys, q F2 ρ2 σ2 H2 (s1.trans s2) (p1.trans p2) R2⟩
end
end DL

set_option Elab.async false
set_option linter.all false
set_option maxRecDepth 100000
set_option maxHeartbeats 1000000
namespace DL
open PySem PySem.Spec PyProof.Rows L2

/-! ### defs -/
structure SRc (T : Tx) (F : Hp) (ρ : List Addr) (st : List Cell) (H : Hp) : Prop where
  fh : Sub F H
  rnd : ρ.Nodup
  clen : st.length = ρ.length
  cell : ∀ (i : Nat) (a : Addr) (c : Cell), ρ[i]? = some a → st[i]? = some c → CellOk T F ρ H a c
structure Post (F : Hp) (ρ : List Addr) (H F' : Hp) (ρ' : List Addr) (H' : Hp) : Prop where
  f : Sub F F'
  fn : ∀ a o, F' a = some o → F a = some o ∨ H a = none
  keep : ∀ a o, H a = some o → a ∉ ρ → H' a = some o
  r : ρ <+: ρ'
  rn : ∀ a ∈ ρ', a ∈ ρ ∨ H a = none
abbrev FM := List D → List Cell → Option (D × List Cell)
/-- a def's promise: it reckons Φ -/
def spD (T : Tx) (n : Nat) (Φ : FM) : Sp := fun vs H Q _ => ∃ F ρ st ds r st', vs.length = n ∧ SRc T F ρ st H ∧ Reps T F ρ vs ds ∧ Φ ds st = some (r, st') ∧
  ∀ v F' ρ' H', Post F ρ H F' ρ' H' → SRc T F' ρ' st' H' → Rep T F' ρ' v r → Q v H'
abbrev FnD (P : Program) (w : World) (K : PySem.W.Frag) (mg : Str → Option Value) (base : Heap) (k : Nat) (f : Addr) (fd : FuncData) (ps : List Str) (Φ : FM) : Prop := FnOk P w K mg base CX0 k f fd ps (spD ⟨P, w, mg, K⟩ ps.length Φ)

section
variable {T : Tx} {g : Gh} {S : DS} {F F' : Hp} {ρ ρ' : List Addr} {σ : L2.St} {H H' : Hp}
theorem SR.c (R : SR T g S F ρ σ H) : SRc T F ρ S.store H := ⟨R.fh, R.rnd, R.clen, R.cell⟩
/-- behind a call -/
theorem SR.after (R : SR T g S F ρ σ H) (P : Post F ρ H F' ρ' H') {st' : List Cell} (C : SRc T F' ρ' st' H') : SR T g ⟨S.env, st'⟩ F' ρ' σ H' := by
  have new : ∀ {a : Addr}, H a = none → g.H a = none := fun h => (R.new_g h).1
  refine ⟨R.fg.trans P.f, fun a o e => ?_, C.fh, fun a o e n => ?_, R.rg.trans P.r, C.rnd, fun a ha => ?_, C.clen, C.cell, R.slen, fun i v sl h1 h2 => ?_, R.apart, fun q hq => ?_⟩
  · rcases P.fn a o e with h | h
    · exact R.fn a o h
    · exact .inr (new h)
  · refine P.keep a o (R.keep a o e n) fun ha => ?_
    rcases R.rnew a ha with h | h
    · exact n h
    · rw [h] at e; cases e
  · rcases P.rn a ha with h | h
    · exact R.rnew a h
    · exact .inr (new h)
  · cases R.slot i v sl h1 h2 with
    | non => exact .non
    | fro e q => exact .fro e (q.mono P.f P.r)
    | @own a d e q fa ga na =>
      obtain ⟨u, hu⟩ := q.there
      have nf : F' a = none := by
        cases z : F' a with
        | none => rfl
        | some o =>
          rcases P.fn a o z with h | h
          · rw [fa] at h; cases h
          · rw [hu] at h; cases h
      refine .own e (q.mono P.f P.r fun o h => P.keep a o h na) nf ga fun hm => ?_
      rcases P.rn a hm with h | h
      · exact na h
      · rw [hu] at h; cases h
  · obtain ⟨h1, h2, h3, h4⟩ := R.exo q hq
    refine ⟨P.keep _ _ h1 h3, ?_, fun hm => ?_, h4⟩
    · cases z : F' q.1 with
      | none => rfl
      | some o =>
        rcases P.fn q.1 o z with h | h
        · rw [h2] at h; cases h
        · rw [h1] at h; cases h
    · rcases P.rn q.1 hm with h | h
      · exact h3 h
      · rw [h1] at h; cases h
/-- the entry -/
theorem SR.start (C : SRc T F ρ S.store H) {vs : List V} {ds : List D} {N : List Str} (rs : Reps T F ρ vs ds) (he : S.env = ds.map .fro ++ List.replicate (N.length - ds.length) .non) : SR T ⟨F, ρ, H, [], fun _ h => (nomatch h), .nil⟩ S F ρ (L2.start N vs) H := by
  have hl := rs.length
  refine ⟨Sub.refl, fun a o e => .inl e, C.fh, fun a o e _ => e, List.prefix_refl _, C.rnd, fun a ha => .inl ha, C.clen, C.cell, by rw [he]; unfold L2.start; simp [hl], fun i v sl h1 h2 => ?_, fun i j a d e h1 _ _ _ => ?_, fun q hq => (nomatch hq)⟩
  · rw [he] at h2
    by_cases hi : i < ds.length
    · rw [List.getElem?_append_left (by simpa using hi), List.getElem?_map] at h2
      unfold L2.start at h1
      rw [List.getElem?_append_left (by rw [List.length_map, hl]; exact hi), List.getElem?_map] at h1
      rw [List.getElem?_eq_getElem hi] at h2
      cases h2
      obtain ⟨x, hx, r⟩ := rs.get (List.getElem?_eq_getElem hi)
      rw [hx] at h1
      cases h1
      exact .fro rfl r
    · rw [List.getElem?_append_right (by simpa using hi), List.getElem?_replicate] at h2
      split at h2
      · cases h2; exact .non
      · cases h2
  · rw [he] at h1
    exfalso
    have := List.mem_of_getElem? h1
    rcases List.mem_append.mp this with z | z
    · obtain ⟨_, _, q⟩ := List.mem_map.mp z; cases q
    · have := List.eq_of_mem_replicate z; cases this
/-- the exit -/
theorem SR.post (R : SR T g S F ρ σ H) : Post g.F g.ρ g.H F ρ H ∧ SRc T F ρ S.store H := ⟨⟨R.fg, R.fn, R.keep, R.rg, R.rnew⟩, R.c⟩
end
/-- a def's body as a function of its arguments; n slots -/
def runD (n : Nat) (m : SM) : FM := fun ds st => match m ⟨ds.map .fro ++ List.replicate (n - ds.length) .non, st⟩ with
  | some (.rt d, S) => some (d, S.store)
  | some (.nx, S) => some (.non, S.store)
  | _ => none
section
variable {P : Program} {w : World} {K : PySem.W.Frag} {mg : Str → Option Value} {base : Heap}
/-- THE RULE of a def -/
theorem fnD {x qual : Str} {st : Stmt} {f : Addr} {fd : FuncData} {N ps : List Str} {k : Nat} {m : SM} {n : Nat} (F : Fun K x qual st f fd) (S : FnScope N ps (defScope st)) (hn : N.length = n)
    (hbody : ∀ (cdv : Value) (A : Around) (outer : List Env) (s : Shared) (H : Hp) (E : XK), Room k (A.deeper (envOfC qual (defScope st) s.heap.objs.size f cdv)) →
      BD (cxOf CX0 P w K mg base N qual (defScope st) f cdv A outer s H E).nox (defBody st) m) : FnD P w K mg base (k + 1) f fd ps (runD n m) := by
  subst hn
  refine F.ok S (fun vs H Q E h => ?_) (fun cdv A outer s H vs Q E hr h => ?_)
  · obtain ⟨_, _, _, _, _, _, h, _⟩ := h
    exact h
  · obtain ⟨F0, ρ0, st0, ds, r, st', hl, C, rs, e, q⟩ := h
    refine ⟨_, hbody cdv A outer s H E hr, ?_⟩
    unfold runD at e
    split at e
    · rename_i d S1 h1
      cases e
      refine ⟨_, _, F0, ρ0, .rt r, S1, SR.start (S := ⟨ds.map .fro ++ List.replicate (N.length - ds.length) .non, st0⟩) C rs rfl, h1, fun v F' ρ' σ' H' s p R' r' => ?_⟩
      obtain ⟨P', C'⟩ := R'.post
      exact q v F' ρ' H' P' C' r'
    · rename_i S1 h1
      cases e
      refine ⟨_, _, F0, ρ0, .nx, S1, SR.start (S := ⟨ds.map .fro ++ List.replicate (N.length - ds.length) .non, st0⟩) C rs rfl, h1, fun F' ρ' σ' H' s p R' => ?_⟩
      obtain ⟨P', C'⟩ := R'.post
      exact q .non F' ρ' H' P' C' .non
    · cases e
end
/-- a call: the arguments dd are the defaults' -/
def eCall (a : AM) (dd : List D) (Φ : FM) : EM := fun S => match a S with
  | some (ds, S1) => if ds.any isHnd then none else (match Φ (ds ++ dd) S1.store with | some (r, st') => some (r, ⟨S1.env, st'⟩) | none => none)
  | none => none
theorem eCall_some {a : AM} {dd : List D} {Φ : FM} {S : DS} {d : D} {S' : DS} (h : eCall a dd Φ S = some (d, S')) : ∃ ds S1, a S = some (ds, S1) ∧ ds.any isHnd = false ∧ Φ (ds ++ dd) S1.store = some (d, S'.store) ∧ S'.env = S1.env := by
  unfold eCall at h
  split at h
  · rename_i ds S1 h1
    split at h
    · cases h
    · rename_i hn
      split at h
      · cases h
        exact ⟨ds, S1, h1, by simpa using hn, by assumption, rfl⟩
      · cases h
  · cases h
section
variable {X : Cx} {pos : Pos}
theorem call_run {g : Gh} {n : Nat} {Φ : FM} {S1 : DS} {F : Hp} {ρ : List Addr} {σ : L2.St} {H : Hp} {vs : List V} {ds : List D} {d : D} {S' : DS} {Q : VK} {E : XK} (R : SR (tx X) g S1 F ρ σ H) (rs : Reps (tx X) F ρ vs ds) (hl : vs.length = n)
    (e : Φ ds S1.store = some (d, S'.store)) (he : S'.env = S1.env) (q : ∀ v F' ρ' H', Sub F F' → ρ <+: ρ' → SR (tx X) g S' F' ρ' σ H' → Rep (tx X) F' ρ' v d → Q v H') : spD (tx X) n Φ vs H Q E := by
  refine ⟨F, ρ, S1.store, ds, d, S'.store, hl, R.c, rs, e, fun v F' ρ' H' P C r => q v F' ρ' H' P.f P.r ?_ r⟩
  obtain ⟨en, st⟩ := S'
  dsimp only at he
  subst he
  exact R.after P C
theorem reps_app {F : Hp} {ρ : List Addr} {vs dvs : List V} {ds dd : List D} (a : Reps (tx X) F ρ vs ds) (b : ∀ F ρ, Reps (tx X) F ρ dvs dd) : Reps (tx X) F ρ (vs ++ dvs) (ds ++ dd) := a.append (b F ρ)
theorem ed_call {k : Nat} {f : Addr} {fd : FuncData} {ps : List Str} {Φ : FM} {dvs : List V} {dss : List Value} {dd : List D} {x : Str} {p : Pos} {e : Expr} {es : List Expr} {a : AM} (Fn : FnD X.prog X.w X.K X.mg X.base k f fd ps Φ) (hr : Room k X.A) (hg : Gl X x) (hm : X.mg x = some (.ref f))
    (hk : PySem.W.keepIn X.K (.ref f) = true) (hb : Binds X.K fd ps dss) (hd : Vals dvs dss) (hdd : ∀ F ρ, Reps (tx X) F ρ dvs dd) (ha : AD X (e :: es) a) (hn : (e :: es).length + dvs.length = ps.length) (hl : ∀ S ds S', a S = some (ds, S') → ds.length = (e :: es).length)
    (hdb : (x == ("__debug__" : Str)) = false := by decide) (he : starEach (e :: es) X.env = (false, eval e X.env) :: starEach es X.env := by rfl) (hpl : (backTo pos (starEach es X.env)).any (·.1) = false := by rfl) :
    ED X (.Call (.Name x p) (e :: es) [] pos) (eCall a dd Φ) := by
  refine PE_imp (pe_call Fn hr hg hm hk hb hd (pass0) ha hdb he hpl) ?_
  rintro σ H Q ⟨g, S, F, ρ, d, S', R, e1, q⟩
  obtain ⟨ds, S1, h1, h2, h3, h4⟩ := eCall_some e1
  refine ⟨g, S, F, ρ, ds, S1, R, h1, fun vs F1 ρ1 H1 s1 p1 R1 r1 => ?_⟩
  have rs := r1.reps h2
  exact call_run R1 (reps_app rs hdd) (by rw [List.length_append, rs.length, hl _ _ _ h1, hn]) h3 h4 fun v F' ρ' H' s p R' r => q v F' ρ' H' (s1.trans s) (p1.trans p) R' (.inl r)
end
end DL

set_option Elab.async false
set_option linter.all false
set_option maxRecDepth 100000
set_option maxHeartbeats 1000000
namespace DL
open PySem PySem.Spec PyProof.Rows L2

/-! ### what a value holds -/
def View (T : Tx) (F : Hp) (ρ : List Addr) (H : Hp) (v : V) (c : D) : Prop := Rep T F ρ v c ∨ ∃ a, v = .ref a ∧ Own T F ρ H a c
section
variable {T : Tx} {g : Gh} {S : DS} {F : Hp} {ρ : List Addr} {σ : L2.St} {H : Hp} {v : V}
theorem deref_ok {x c : D} (R : SR T g S F ρ σ H) (r : RepX T F ρ σ v x) (e : deref S x = some c) : View T F ρ H v c := by
  rcases r with r | ⟨i, rfl, hσ⟩
  · cases r with
    | @ref a i h =>
      unfold deref at e
      dsimp only at e
      split at e
      · rename_i d hd
        cases e
        cases R.cell i a _ h hd with
        | live q _ => exact .inr ⟨a, rfl, q⟩
      · rename_i d hd
        cases e
        cases R.cell i a _ h hd with
        | frz q _ => exact .inl q
      · cases e
    | non => cases e; exact .inl .non
    | bl b => cases e; exact .inl (.bl b)
    | int b => cases e; exact .inl (.int b)
    | str b => cases e; exact .inl (.str b)
    | tup a b => cases e; exact .inl (.tup a b)
    | lst a b => cases e; exact .inl (.lst a b)
    | zst a b => cases e; exact .inl (.zst a b)
    | dS a b c => cases e; exact .inl (.dS a b c)
    | dT a b c d f => cases e; exact .inl (.dT a b c d f)
    | obj a b c d => cases e; exact .inl (.obj a b c d)
    | exc a b c d => cases e; exact .inl (.exc a b c d)
  · unfold deref at e
    dsimp only at e
    split at e
    · rename_i d hd
      cases e
      cases R.slot i _ _ hσ hd with
      | own ev q _ _ _ => cases ev; exact .inr ⟨_, rfl, q⟩
    · cases e
theorem View.lst {ds : List D} (R : SR T g S F ρ σ H) (h : View T F ρ H v (.lst ds)) : ∃ a xs, v = .ref a ∧ H a = some (.lst xs) ∧ Reps T F ρ xs ds := by
  rcases h with h | ⟨a, rfl, h⟩
  · cases h with | lst h r => exact ⟨_, _, rfl, R.fh _ _ h, r⟩
  · cases h with | lst h r => exact ⟨_, _, rfl, h, r⟩
theorem View.zst {ds : List D} (R : SR T g S F ρ σ H) (h : View T F ρ H v (.zst ds)) : ∃ a xs, v = .ref a ∧ SqL T.K H a xs ∧ Reps T F ρ xs ds := by
  rcases h with h | ⟨a, rfl, h⟩
  · cases h with | zst h r => exact ⟨_, _, rfl, SqL_sub R.fh h, r⟩
  · cases h
theorem View.tup {ds : List D} (R : SR T g S F ρ σ H) (h : View T F ρ H v (.tup ds)) : ∃ a xs, v = .ref a ∧ SqT T.K H a xs ∧ Reps T F ρ xs ds := by
  rcases h with h | ⟨a, rfl, h⟩
  · cases h with | tup h r => exact ⟨_, _, rfl, SqT_sub R.fh h, r⟩
  · cases h
theorem View.str {s : Str} (h : View T F ρ H v (.str s)) : v = .str s := by
  rcases h with h | ⟨a, rfl, h⟩
  · cases h; rfl
  · cases h
theorem View.int {s : Int} (h : View T F ρ H v (.int s)) : v = .int s := by
  rcases h with h | ⟨a, rfl, h⟩
  · cases h; rfl
  · cases h
theorem View.dS {ns : List Str} {ds : List D} (R : SR T g S F ρ σ H) (h : View T F ρ H v (.dS ns ds)) : ∃ a vs, v = .ref a ∧ Rd H a (.dK (keysS ns vs)) ∧ vs.length = ns.length ∧ Reps T F ρ vs ds := by
  rcases h with h | ⟨a, rfl, h⟩
  · cases h with | dS h l r => exact ⟨_, _, rfl, .inr ⟨_, R.fh _ _ h⟩, l, r⟩
  · cases h with | dS h l r => exact ⟨_, _, rfl, .inl h, l, r⟩
theorem View.dT {ks : List D} {ds : List D} (R : SR T g S F ρ σ H) (h : View T F ρ H v (.dT ks ds)) : ∃ a xs vs, v = .ref a ∧ Rd H a (rawT T a xs) ∧ nks ks = some (xs.map (·.1)) ∧ Reps T F ρ (xs.map fun x => .ref x.2.1) ks ∧ Vals vs (xs.map (·.2.2)) ∧ Reps T F ρ vs ds := by
  rcases h with h | ⟨a, rfl, h⟩
  · cases h with | dT h n k l r => exact ⟨_, _, _, rfl, .inr ⟨_, R.fh _ _ h⟩, n, k, l, r⟩
  · cases h with | dT h n k l r => exact ⟨_, _, _, rfl, .inl h, n, k, l, r⟩
theorem View.obj {c : Str} {ns : List Str} {ds : List D} (R : SR T g S F ρ σ H) (h : View T F ρ H v (.obj c ns ds)) : ∃ a C dx vs, v = .ref a ∧ T.mg c = some (.ref C) ∧ H a = some (.ins C dx (ns.zip vs)) ∧ vs.length = ns.length ∧ Reps T F ρ vs ds := by
  rcases h with h | ⟨a, rfl, h⟩
  · cases h with | obj m h l r => exact ⟨_, _, _, _, rfl, m, R.fh _ _ h, l, r⟩
  · cases h with | obj m h l r => exact ⟨_, _, _, _, rfl, m, h, l, r⟩
end

/-! ### dicts by their keys -/
section
variable {κ : Type} [DecidableEq κ]
def lookD : List κ → List D → κ → Option D
  | k0 :: ks, d :: ds, k => if k0 = k then some d else lookD ks ds k
  | _, _, _ => none
def repD : List κ → List D → κ → D → List D
  | k0 :: ks, d :: ds, k, v => (if k0 = k then v else d) :: repD ks ds k v
  | _, ds, _, _ => ds
end
def lookT (ks ds : List D) (k : D) : Option D := match nks ks, nk k with
  | some K, some q => lookD K ds q
  | _, _ => none
theorem look_val {T : Tx} {F : Hp} {ρ : List Addr} : ∀ {ns : List Str} {vs : List V} {ds : List D} {k : Str}, vs.length = ns.length → Reps T F ρ vs ds →
    (∀ d, lookD ns ds k = some d → ∃ v, valV (keysS ns vs) (.inr k) = some v ∧ Rep T F ρ v d) ∧ (lookD ns ds k = none → valV (keysS ns vs) (.inr k) = none)
  | [], [], _, k, _, .nil => ⟨fun d h => (nomatch h), fun _ => rfl⟩
  | n :: ns, v :: vs, d :: ds, k, hl, .cons r rs => by
    have ih := look_val (k := k) (show vs.length = ns.length by simpa using hl) rs
    show (∀ d', (if n = k then some d else lookD ns ds k) = some d' → ∃ w, valV ((Sum.inr n, v) :: keysS ns vs) (.inr k) = some w ∧ Rep T F ρ w d') ∧ ((if n = k then some d else lookD ns ds k) = none → valV ((Sum.inr n, v) :: keysS ns vs) (.inr k) = none)
    by_cases h : n = k
    · subst h
      rw [if_pos rfl, valV_pos rfl]
      exact ⟨fun d' e => by cases e; exact ⟨v, rfl, r⟩, fun e => (nomatch e)⟩
    · rw [if_neg h, valV_neg (fun e => h (Sum.inr.inj e))]
      exact ih

/-! ### len -/
def fLen (S : DS) (x : D) : Option D := match deref S x with
  | some (.lst ds) => some (.int ds.length)
  | some (.zst ds) => some (.int ds.length)
  | some (.tup ds) => some (.int ds.length)
  | some (.str s) => if s.length ≤ 16777216 then some (.int s.length) else none
  | some (.dS ns _) => some (.int ns.length)
  | _ => none
/-- a one-place builtin by values -/
def Cl1 (X : Cx) (f : DS → D → Option D) (r : List V → Hp → VK → Prop) : Prop := ∀ (g : Gh) (S : DS) (F : Hp) (ρ : List Addr) (σ : L2.St) (H : Hp) (v : V) (x d : D) (Q : VK), SR (tx X) g S F ρ σ H → RepX (tx X) F ρ σ v x → f S x = some d →
  (∀ v' F' ρ' H', Sub F F' → ρ <+: ρ' → SR (tx X) g S F' ρ' σ H' → RepX (tx X) F' ρ' σ v' d → Q v' H') → r [v] H Q
def aOne (m : AM) (f : DS → D → Option D) : EM := fun S => match m S with | some ([x], S1) => (match f S1 x with | some d => some (d, S1) | none => none) | _ => none
theorem aOne_some {m : AM} {f : DS → D → Option D} {S : DS} {d : D} {S' : DS} (h : aOne m f S = some (d, S')) : ∃ x, m S = some ([x], S') ∧ f S' x = some d := by
  unfold aOne at h
  split at h
  · split at h
    · cases h; exact ⟨_, by assumption, by assumption⟩
    · cases h
  · cases h
section
variable {X : Cx} {pos : Pos}
theorem cl1_imp {f : DS → D → Option D} {r : List V → Hp → VK → Prop} {m : AM} (h : Cl1 X f r) : ∀ σ H Q, tE X (aOne m f) σ H Q → tCB r (tA X m) σ H Q := by
  rintro σ H Q ⟨g, S, F, ρ, d, S', R, e, q⟩
  obtain ⟨x, h1, h2⟩ := aOne_some e
  refine ⟨g, S, F, ρ, [x], S', R, h1, fun vs F1 ρ1 H1 s1 p1 R1 r1 => ?_⟩
  cases r1 with
  | cons a b =>
    cases b
    exact h g S' F1 ρ1 σ H1 _ x d Q R1 a h2 fun v' F' ρ' H' s p R' r' => q v' F' ρ' H' (s1.trans s) (p1.trans p) R' r'
theorem ed_blt {id : String} {x : Str} {p : Pos} {e : Expr} {f : DS → D → Option D} {r : List V → Hp → VK → Prop} {m : AM} (hc : CallR X (.builtin id) r) (h : Cl1 X f r) (hg : Gl X x) (hm : X.mg x = none) (hv : bootBuiltins x = some (.builtin id)) (ha : AD X [e] m)
    (hn : x ≠ "__name__" := by decide) (hdb : (x == ("__debug__" : Str)) = false := by decide) (he : starEach [e] X.env = (false, eval e X.env) :: starEach [] X.env := by rfl) : ED X (.Call (.Name x p) [e] [] pos) (aOne m f) :=
  PE_imp (pe_callB hc hg hm hv ha hn hdb he) (cl1_imp h)
theorem ed_typ {T : String} {x : Str} {p : Pos} {e : Expr} {f : DS → D → Option D} {r : List V → Hp → VK → Prop} {m : AM} (hc : CallR X (.type T) r) (h : Cl1 X f r) (hg : Gl X x) (hm : X.mg x = none) (hv : bootBuiltins x = some (.type T)) (ha : AD X [e] m)
    (hn : x ≠ "__name__" := by decide) (hdb : (x == ("__debug__" : Str)) = false := by decide) (he : starEach [e] X.env = (false, eval e X.env) :: starEach [] X.env := by rfl) : ED X (.Call (.Name x p) [e] [] pos) (aOne m f) :=
  PE_imp (pe_callTy hc hg hm hv ha hn hdb he) (cl1_imp h)
/-- len, of a dict too -/
theorem call_lenA : CallR X (.builtin "len") (fun xs H Q => (∃ x n, xs = [x] ∧ LenV X.K x H n ∧ Q (.int n) H) ∨ ∃ p kvs, xs = [.ref p] ∧ Rd H p (.dK kvs) ∧ Q (.int kvs.length) H) := by
  intro pins s σ H xs us Q I r h
  rcases h with h | ⟨p, kvs, rfl, e, q⟩
  · exact call_len pins s σ H xs us Q I r h
  · obtain ⟨u, rfl, rx⟩ := vals1 r
    cases rx
    exact d_len I e fun t s' I' => ⟨.int kvs.length, H, I', ⟨t, rfl⟩, q⟩
theorem cl1_len : Cl1 X fLen (fun xs H Q => (∃ x n, xs = [x] ∧ LenV X.K x H n ∧ Q (.int n) H) ∨ ∃ p kvs, xs = [.ref p] ∧ Rd H p (.dK kvs) ∧ Q (.int kvs.length) H) := by
  intro g S F ρ σ H v x d Q R r e q
  unfold fLen at e
  split at e
  · rename_i ds hd
    obtain ⟨a, xs, rfl, h, rs⟩ := (deref_ok R r hd).lst R
    cases e
    rw [← rs.length] at q
    exact .inl ⟨_, xs.length, rfl, .inl ⟨xs, SqL.of h, rfl⟩, q _ F ρ H Sub.refl (List.prefix_refl _) R (.inl (.int _))⟩
  · rename_i ds hd
    obtain ⟨a, xs, rfl, h, rs⟩ := (deref_ok R r hd).zst R
    cases e
    rw [← rs.length] at q
    exact .inl ⟨_, xs.length, rfl, .inl ⟨xs, h, rfl⟩, q _ F ρ H Sub.refl (List.prefix_refl _) R (.inl (.int _))⟩
  · rename_i ds hd
    obtain ⟨a, xs, rfl, h, rs⟩ := (deref_ok R r hd).tup R
    cases e
    rw [← rs.length] at q
    exact .inl ⟨_, xs.length, rfl, .inr ⟨xs, h, rfl⟩, q _ F ρ H Sub.refl (List.prefix_refl _) R (.inl (.int _))⟩
  · rename_i s hd
    cases (deref_ok R r hd).str
    split at e
    · cases e
      exact .inl ⟨_, s.length, rfl, ⟨by rw [sizeLine_eq]; assumption, rfl⟩, q _ F ρ H Sub.refl (List.prefix_refl _) R (.inl (.int _))⟩
    · cases e
  · rename_i ns ds hd
    obtain ⟨a, vs, rfl, h, l, rs⟩ := (deref_ok R r hd).dS R
    cases e
    refine .inr ⟨a, _, rfl, h, ?_⟩
    have hk : (keysS ns vs).length = ns.length := by unfold keysS; simp [l]
    rw [hk]
    exact q _ F ρ H Sub.refl (List.prefix_refl _) R (.inl (.int _))
  · cases e
/-- int(x), x an int or a bool -/
def fInt (_ : DS) (x : D) : Option D := match x with | .int i => some (.int i) | .bl b => some (.int (if b then 1 else 0)) | _ => none
theorem cl1_int : Cl1 X fInt (fun xs H Q => (∃ i, xs = [.int i] ∧ Q (.int i) H) ∨ ∃ k, xs = [.bl k] ∧ Q (.int (if k then 1 else 0)) H) := by
  intro g S F ρ σ H v x d Q R r e q
  unfold fInt at e
  split at e
  · cases e
    cases repx_int r
    exact .inl ⟨_, rfl, q _ F ρ H Sub.refl (List.prefix_refl _) R (.inl (.int _))⟩
  · cases e
    cases repx_bl r
    exact .inr ⟨_, rfl, q _ F ρ H Sub.refl (List.prefix_refl _) R (.inl (.int _))⟩
  · cases e

/-! ### x[i] -/
def fSub (S : DS) (x y : D) : Option D := match deref S x, y with
  | some (.lst ds), .int i => atI ds i
  | some (.zst ds), .int i => atI ds i
  | some (.tup ds), .int i => atI ds i
  | some (.str s), .int i => if s.length ≤ 16777216 then (match atI s.cps.toList i with | some c => some (.str ⟨#[c]⟩) | none => none) else none
  | some (.dS ns ds), .str k => lookD ns ds k
  | _, _ => none
theorem atI_rep {T : Tx} {F : Hp} {ρ : List Addr} {xs : List V} {ds : List D} {i : Int} {d : D} (rs : Reps T F ρ xs ds) (h : atI ds i = some d) : ∃ v, atI xs i = some v ∧ Rep T F ρ v d := by
  unfold atI at h ⊢
  rw [rs.length]
  cases e : ixN ds.length i with
  | none => rw [e] at h; cases h
  | some j =>
    rw [e] at h
    exact rs.get h
def rIxA (K : PySem.W.Frag) : R2 := fun x y H Q => rIx K x y H Q ∨ ∃ a v, x = .ref a ∧ DGet H a y (some v) ∧ Q v H
theorem ix_all (hu : X.A.units + 1 < cLine) : IxR X (rIxA X.K) := by
  intro value slice pins s σ H x y v u Q I rx ry h hs
  rcases h with h | ⟨a, w', rfl, gt, q⟩
  · exact ix_seq value slice pins s σ H x y v u Q I rx ry h hs
  · cases rx
    have hT := dict_typeIs I gt
    unfold subscriptTail
    refine wpAny_bind ?_
    rw [getitemInPython_of_ne hT.not_modules]
    refine wpAny_bind (wpAny_specialOf hT PySem.F.slot_dict_getitem.lookup ?_)
    have fin : wpAny (model X.prog X.w) X.A (subscripted slice false (.ref a) u) (fun r s₃ => wpAny (model X.prog X.w) X.A (letTemporaryGo value (.ref a) r >>= fun _ => pure r) (EP X pins σ Q) X.xe s₃) X.xe s := by
      rw [hs]
      refine wpAny_operating (d_getItem hu I gt ry fun w2 s3 I3 rw3 => wpAny_bind (wpAny_letTemporaryGo (wpAny_pure ⟨w', H, I3, rw3, q⟩)))
    first
      | exact wpAny_pure (wpAny_bind fin)
      | exact wpAny_bind (wpAny_pure (wpAny_bind fin))
      | exact wpAny_bind fin
theorem op2_sub : Op2 X fSub (rIxA X.K) := by
  intro g S F ρ σ H v u x y d Q R r1 r2 e q
  unfold fSub at e
  split at e
  · rename_i ds i hd
    obtain ⟨a, xs, rfl, h, rs⟩ := (deref_ok R r1 hd).lst R
    cases repx_int r2
    obtain ⟨w, hw, rw'⟩ := atI_rep rs e
    exact .inl (.inl ⟨a, xs, i, w, rfl, rfl, SqL.of h, hw, q w F ρ H Sub.refl (List.prefix_refl _) R (.inl rw')⟩)
  · rename_i ds i hd
    obtain ⟨a, xs, rfl, h, rs⟩ := (deref_ok R r1 hd).zst R
    cases repx_int r2
    obtain ⟨w, hw, rw'⟩ := atI_rep rs e
    exact .inl (.inl ⟨a, xs, i, w, rfl, rfl, h, hw, q w F ρ H Sub.refl (List.prefix_refl _) R (.inl rw')⟩)
  · rename_i ds i hd
    obtain ⟨a, xs, rfl, h, rs⟩ := (deref_ok R r1 hd).tup R
    cases repx_int r2
    obtain ⟨w, hw, rw'⟩ := atI_rep rs e
    exact .inl (.inr (.inl ⟨a, xs, i, w, rfl, rfl, h, hw, q w F ρ H Sub.refl (List.prefix_refl _) R (.inl rw')⟩))
  · rename_i s i hd
    cases (deref_ok R r1 hd).str
    cases repx_int r2
    split at e
    · split at e
      · cases e
        exact .inl (.inr (.inr ⟨s, i, _, rfl, rfl, by rw [sizeLine_eq]; assumption, by assumption, q _ F ρ H Sub.refl (List.prefix_refl _) R (.inl (.str _))⟩))
      · cases e
    · cases e
  · rename_i ns ds k hd
    obtain ⟨a, vs, rfl, h, l, rs⟩ := (deref_ok R r1 hd).dS R
    cases repx_str r2
    obtain ⟨w, hw, rw'⟩ := (look_val l rs).1 d e
    exact .inr ⟨a, w, rfl, .inl ⟨_, .inr k, h, rfl, hw.symm⟩, q w F ρ H Sub.refl (List.prefix_refl _) R (.inl rw')⟩
  · cases e
theorem ed_sub {a b : Expr} {ma mb : EM} (hu : X.A.units + 1 < cLine) (ha : ED X a ma) (hb : ED X b mb) (hs : PlainIx b) : ED X (.Subscript a b pos) (e2 fSub ma mb) := PE_imp (pe_ix (ix_all hu) ha hb hs) (e2_imp op2_sub)
end
end DL

set_option Elab.async false
set_option linter.all false
set_option maxRecDepth 100000
set_option maxHeartbeats 1000000
namespace DL
open PySem PySem.Spec PyProof.Rows L2

/-! ### changing what a name, a cell holds -/
/-- what may be changed -/
def mutC (S : DS) : D → Option D
  | .hnd i => match S.env[i]? with | some (.own d) => some d | _ => none
  | .ref i => match S.store[i]? with | some (.live d) => some d | _ => none
  | _ => none
def setC (S : DS) (d c : D) : DS := match d with
  | .hnd i => ⟨S.env.set i (.own c), S.store⟩
  | .ref i => ⟨S.env, S.store.set i (.live c)⟩
  | _ => S
section
variable {T : Tx} {g : Gh} {S : DS} {F : Hp} {ρ : List Addr} {σ : L2.St} {H : Hp}
theorem SR.write (R : SR T g S F ρ σ H) {v : V} {d c : D} (r : RepX T F ρ σ v d) (e : mutC S d = some c) : ∃ a, v = .ref a ∧ Own T F ρ H a c ∧
    ∀ (o : HO) (c' : D), Own T F ρ (upd H a o) a c' → SR T g (setC S d c') F ρ σ (upd H a o) := by
  rcases r with r | ⟨i, rfl, hσ⟩
  · cases r with
    | @ref a i h =>
      unfold mutC at e
      dsimp only at e
      split at e
      · rename_i d0 hd
        cases e
        cases R.cell i a _ h hd with
        | live q fa =>
          refine ⟨a, rfl, q, fun o c' ow => ?_⟩
          have ha : a ∈ ρ := List.mem_of_getElem? h
          have hne : ∀ {b : Addr}, b ≠ a → upd H a o b = H b := fun hb => upd_ne hb
          refine ⟨R.fg, R.fn, fun b u e => ?_, fun b u e n => ?_, R.rg, R.rnd, R.rnew, by simp [setC, R.clen], fun k b cc h1 h2 => ?_, R.slen, fun k w sl h1 h2 => ?_, R.apart, fun q hq => ?_⟩
          · rw [hne (fun z => by rw [z, fa] at e; cases e)]; exact R.fh b u e
          · by_cases hb : b = a
            · subst hb
              rcases R.rnew b ha with z | z
              · exact absurd z n
              · rw [z] at e; cases e
            · rw [hne hb]; exact R.keep b u e n
          · simp only [setC] at h2
            by_cases hk : k = i
            · subst hk
              have hl : k < S.store.length := (List.getElem?_eq_some_iff.mp hd).1
              rw [List.getElem?_set_self hl] at h2
              cases h2
              rw [h] at h1; cases h1
              exact .live ow fa
            · rw [List.getElem?_set_ne (Ne.symm hk)] at h2
              have hb : b ≠ a := fun z => by
                subst z
                obtain ⟨l1, e1⟩ := List.getElem?_eq_some_iff.mp h1
                obtain ⟨l2, e2⟩ := List.getElem?_eq_some_iff.mp h
                exact hk ((List.getElem_inj R.rnd).mp (e1.trans e2.symm))
              cases R.cell k b cc h1 h2 with
              | live q f => exact .live (q.mono Sub.refl (List.prefix_refl _) fun u e => by rw [hne hb]; exact e) f
              | frz q t => obtain ⟨u, t⟩ := t; exact .frz q ⟨u, by rw [hne hb]; exact t⟩
          · cases R.slot k w sl h1 h2 with
            | non => exact .non
            | fro e q => exact .fro e q
            | @own b e h3 q f gh nr =>
              have hb : b ≠ a := fun z => nr (z ▸ ha)
              exact .own h3 (q.mono Sub.refl (List.prefix_refl _) fun u e => by rw [hne hb]; exact e) f gh nr
          · obtain ⟨h1, h2, h3, h4⟩ := R.exo q hq
            have hb : q.1 ≠ a := fun z => h3 (by rw [z]; exact ha)
            exact ⟨by rw [hne hb]; exact h1, h2, h3, h4⟩
      · cases e
    | _ => cases e
  · unfold mutC at e
    dsimp only at e
    split at e
    · rename_i d0 hd
      cases e
      cases R.slot i _ _ hσ hd with
      | @own a _ ev q fa ga na =>
        cases ev
        refine ⟨a, rfl, q, fun o c' ow => ?_⟩
        have hne : ∀ {b : Addr}, b ≠ a → upd H a o b = H b := fun hb => upd_ne hb
        have hl : i < S.env.length := (List.getElem?_eq_some_iff.mp hd).1
        refine ⟨R.fg, R.fn, fun b u e => ?_, fun b u e n => ?_, R.rg, R.rnd, R.rnew, R.clen, fun k b cc h1 h2 => ?_, by simp [setC, R.slen], fun k w sl h1 h2 => ?_, fun k j b d1 d2 h1 h2 h3 h4 => ?_, fun q hq => ?_⟩
        · rw [hne (fun z => by rw [z, fa] at e; cases e)]; exact R.fh b u e
        · rw [hne (fun z => by rw [z, ga] at e; cases e)]; exact R.keep b u e n
        · have hb : b ≠ a := fun z => na (z ▸ List.mem_of_getElem? h1)
          cases R.cell k b cc h1 h2 with
          | live q f => exact .live (q.mono Sub.refl (List.prefix_refl _) fun u e => by rw [hne hb]; exact e) f
          | frz q t => obtain ⟨u, t⟩ := t; exact .frz q ⟨u, by rw [hne hb]; exact t⟩
        · simp only [setC] at h2
          by_cases hk : k = i
          · subst hk
            rw [List.getElem?_set_self hl] at h2
            cases h2
            rw [hσ] at h1; cases h1
            exact .own rfl ow fa ga na
          · rw [List.getElem?_set_ne (Ne.symm hk)] at h2
            cases R.slot k w sl h1 h2 with
            | non => exact .non
            | fro e q => exact .fro e q
            | @own b e h3 q f gh nr =>
              subst h3
              have hb : b ≠ a := fun z => by subst z; exact hk (R.apart k i b _ _ h2 hd h1 hσ)
              exact .own rfl (q.mono Sub.refl (List.prefix_refl _) fun u e => by rw [hne hb]; exact e) f gh nr
        · simp only [setC] at h1 h2
          have g1 : ∀ {k : Nat} {d : D}, (S.env.set i (.own c'))[k]? = some (.own d) → ∃ d', S.env[k]? = some (.own d') := fun {k d} h => by
            by_cases hk : k = i
            · subst hk; exact ⟨_, hd⟩
            · rw [List.getElem?_set_ne (Ne.symm hk)] at h; exact ⟨_, h⟩
          obtain ⟨_, k1⟩ := g1 h1
          obtain ⟨_, k2⟩ := g1 h2
          exact R.apart k j b _ _ k1 k2 h3 h4
        · obtain ⟨h1, h2, h3, h4⟩ := R.exo q hq
          have hb : q.1 ≠ a := fun z => h4 i _ hd (by rw [z]; exact hσ)
          refine ⟨by rw [hne hb]; exact h1, h2, h3, fun k e he => ?_⟩
          simp only [setC] at he
          by_cases hk : k = i
          · subst hk; exact h4 k _ hd
          · rw [List.getElem?_set_ne (Ne.symm hk)] at he; exact h4 k e he
    · cases e
end

/-! ### methods that change a list -/
/-- o.m(..): the content and the arguments in, the new content and the value out -/
def eMut (o : EM) (a : AM) (f : D → List D → Option (D × D)) : EM := fun S => match o S with
  | some (d, S1) => (match mutC S1 d with
    | some (.lst _) => (match a S1 with
      | some (ds, S2) => if ds.any isHnd then none else (match mutC S2 d with
        | some c => (match f c ds with | some (c', r) => some (r, setC S2 d c') | none => none)
        | none => none)
      | none => none)
    | _ => none)
  | none => none
/-- a method by values -/
def Mt (X : Cx) (f : D → List D → Option (D × D)) (r : V → List V → Hp → VK → Prop) : Prop := ∀ (F : Hp) (ρ : List Addr) (H : Hp) (a : Addr) (c c' res : D) (ds : List D) (vs : List V) (Q : VK), Own (tx X) F ρ H a c → Reps (tx X) F ρ vs ds → Sub F H → f c ds = some (c', res) →
  (∀ w o, Own (tx X) F ρ (upd H a o) a c' → Rep (tx X) F ρ w res → Q w (upd H a o)) → r (.ref a) vs H Q
theorem eMut_some {o : EM} {a : AM} {f : D → List D → Option (D × D)} {S : DS} {r : D} {S' : DS} (h : eMut o a f S = some (r, S')) : ∃ d S1 l ds S2 c c', o S = some (d, S1) ∧ mutC S1 d = some (.lst l) ∧ a S1 = some (ds, S2) ∧ ds.any isHnd = false ∧ mutC S2 d = some c ∧ f c ds = some (c', r) ∧ S' = setC S2 d c' := by
  unfold eMut at h
  split at h
  · rename_i d S1 h1
    split at h
    · rename_i l h2
      split at h
      · rename_i ds S2 h3
        split at h
        · cases h
        · rename_i hn
          split at h
          · rename_i c h4
            split at h
            · rename_i c' r' h5
              cases h
              exact ⟨d, S1, l, ds, S2, c, c', h1, h2, h3, by simpa using hn, h4, h5, rfl⟩
            · cases h
          · cases h
      · cases h
    · cases h
  · cases h
section
variable {X : Cx} {pos : Pos}
theorem eMut_imp {o : EM} {a : AM} {f : D → List D → Option (D × D)} {r : V → List V → Hp → VK → Prop} (hm : Mt X f r) : ∀ σ H Q, tE X (eMut o a f) σ H Q → tBM X.K "list" r (tE X o) (tA X a) σ H Q := by
  rintro σ H Q ⟨g, S, F, ρ, res, S', R, e, q⟩
  obtain ⟨d, S1, l, ds, S2, c, c', h1, h2, h3, h4, h5, h6, rfl⟩ := eMut_some e
  refine ⟨g, S, F, ρ, d, S1, R, h1, fun v F1 ρ1 H1 s1 p1 R1 r1 => ⟨?_, g, S1, F1, ρ1, ds, S2, R1, h3, fun vs F2 ρ2 H2 s2 p2 R2 r2 => ?_⟩⟩
  · obtain ⟨a, rfl, ow, _⟩ := R1.write r1 h2
    cases ow with
    | lst h _ => exact .inl ⟨rfl, _, SqL.of h⟩
  · obtain ⟨a, rfl, ow, wr⟩ := R2.write (r1.mono s2 p2) h5
    exact hm F2 ρ2 H2 a c c' res ds vs Q ow (r2.reps h4) R2.fh h6 fun w o ow' rw' => q w F2 ρ2 _ (s1.trans s2) (p1.trans p2) (wr o c' ow') (.inl rw')
def mApp (c : D) (ds : List D) : Option (D × D) := match c, ds with
  | .lst l, [x] => if l.length < 16777216 then some (.lst (l ++ [x]), .non) else none
  | _, _ => none
theorem mt_app : Mt X mApp rAppend := by
  intro F ρ H a c c' res ds vs Q ow rs fh e q
  unfold mApp at e
  split at e
  · split at e
    · cases e
      cases ow with
      | lst h rl =>
        cases rs with
        | cons r1 r2 =>
          cases r2
          refine ⟨a, _, _, rfl, rfl, h, by rw [sizeLine_eq, rl.length]; assumption, q .non _ (.lst upd_same (rl.append (.cons r1 .nil))) .non⟩
    · cases e
  · cases e
def mExt (c : D) (ds : List D) : Option (D × D) := match c, ds with
  | .lst l, [.lst x] => if l.length + x.length ≤ 16777216 then some (.lst (l ++ x), .non) else none
  | _, _ => none
theorem mt_ext : Mt X mExt rExtend := by
  intro F ρ H a c c' res ds vs Q ow rs fh e q
  unfold mExt at e
  split at e
  · split at e
    · cases e
      cases ow with
      | lst h rl =>
        cases rs with
        | cons r1 r2 =>
          cases r2
          cases r1 with
          | lst hb rb =>
            exact ⟨a, _, _, _, rfl, rfl, h, fh _ _ hb, by rw [sizeLine_eq, rl.length, rb.length]; assumption, q .non _ (.lst upd_same (rl.append rb)) .non⟩
    · cases e
  · cases e
def mIns (c : D) (ds : List D) : Option (D × D) := match c, ds with
  | .lst l, [.int i, x] => if l.length < 16777216 ∧ 0 ≤ i ∧ i < 9223372036854775808 then some (.lst (l.take i.toNat ++ [x] ++ l.drop i.toNat), .non) else none
  | _, _ => none
theorem Reps.take {T : Tx} {F : Hp} {ρ : List Addr} : ∀ {vs : List V} {ds : List D} (n : Nat), Reps T F ρ vs ds → Reps T F ρ (vs.take n) (ds.take n)
  | _, _, 0, _ => .nil
  | _, _, _ + 1, .nil => .nil
  | _, _, n + 1, .cons a b => .cons a (b.take n)
theorem Reps.drop {T : Tx} {F : Hp} {ρ : List Addr} : ∀ {vs : List V} {ds : List D} (n : Nat), Reps T F ρ vs ds → Reps T F ρ (vs.drop n) (ds.drop n)
  | _, _, 0, h => h
  | _, _, _ + 1, .nil => .nil
  | _, _, n + 1, .cons a b => b.drop n
theorem Reps.set {T : Tx} {F : Hp} {ρ : List Addr} {v : V} {d : D} (r : Rep T F ρ v d) : ∀ {vs : List V} {ds : List D} (n : Nat), Reps T F ρ vs ds → Reps T F ρ (vs.set n v) (ds.set n d)
  | _, _, _, .nil => .nil
  | _, _, 0, .cons a b => .cons r b
  | _, _, n + 1, .cons a b => .cons a (b.set r n)
theorem Reps.dropLast {T : Tx} {F : Hp} {ρ : List Addr} {vs : List V} {ds : List D} (h : Reps T F ρ vs ds) : Reps T F ρ vs.dropLast ds.dropLast := by
  rw [List.dropLast_eq_take, List.dropLast_eq_take, h.length]
  exact h.take _
theorem mt_ins : Mt X mIns (fun x vs H Q => ∃ (l : Addr) (xs : List V) (i : Int) (y : V), x = .ref l ∧ vs = [.int i, y] ∧ H l = some (.lst xs) ∧ xs.length < sizeLine ∧ 0 ≤ i ∧ i < 2 ^ 63 ∧ Q .non (upd H l (.lst (xs.take i.toNat ++ [y] ++ xs.drop i.toNat)))) := by
  intro F ρ H a c c' res ds vs Q ow rs fh e q
  unfold mIns at e
  split at e
  · split at e
    · rename_i hc
      cases e
      cases ow with
      | lst h rl =>
        cases rs with
        | cons r1 r2 =>
          cases r2 with
          | cons r3 r4 =>
            cases r4
            cases r1
            exact ⟨a, _, _, _, rfl, rfl, h, by rw [sizeLine_eq, rl.length]; exact hc.1, hc.2.1, hc.2.2, q .non _ (.lst upd_same (((rl.take _).append (.cons r3 .nil)).append (rl.drop _))) .non⟩
    · cases e
  · cases e
theorem ed_app {o e : Expr} {apos : Pos} {mo : EM} {ma : AM} (ho : ED X o mo) (ha : AD X [e] ma) (hbase : attributeBase o "append" X.env (eval o X.env) = eval o X.env := by rfl)
    (hfew : ((backTo pos (starEach [e] X.env)).all (fun x => !x.1) && (backToKw pos (keywordEach [] X.env)).all (fun x => x.1.isSome) && decide ([e].length + ([] : List Keyword).length + (if ([] : List Keyword).isEmpty then 0 else 1) < 30)) = true := by rfl)
    (hline : (apos.endLine == pos.line) = true := by rfl) (hs : starEach [e] X.env = (false, eval e X.env) :: starEach [] X.env := by rfl) : ED X (.Call (.Attribute o "append" apos) [e] [] pos) (eMut mo ma mApp) :=
  PE_imp (pe_bm PySem.F.plainAttrs_list PySem.F.slot_list_append PySem.F.type_list_append mt_append ho ha hbase hfew hline hs) (eMut_imp mt_app)
theorem ed_ext {o e : Expr} {apos : Pos} {mo : EM} {ma : AM} (ho : ED X o mo) (ha : AD X [e] ma) (hbase : attributeBase o "extend" X.env (eval o X.env) = eval o X.env := by rfl)
    (hfew : ((backTo pos (starEach [e] X.env)).all (fun x => !x.1) && (backToKw pos (keywordEach [] X.env)).all (fun x => x.1.isSome) && decide ([e].length + ([] : List Keyword).length + (if ([] : List Keyword).isEmpty then 0 else 1) < 30)) = true := by rfl)
    (hline : (apos.endLine == pos.line) = true := by rfl) (hs : starEach [e] X.env = (false, eval e X.env) :: starEach [] X.env := by rfl) : ED X (.Call (.Attribute o "extend" apos) [e] [] pos) (eMut mo ma mExt) :=
  PE_imp (pe_bm PySem.F.plainAttrs_list PySem.F.slot_list_extend PySem.F.type_list_extend mt_extend ho ha hbase hfew hline hs) (eMut_imp mt_ext)
theorem ed_ins {o e e2 : Expr} {apos : Pos} {mo : EM} {ma : AM} (ho : ED X o mo) (ha : AD X [e, e2] ma) (hbase : attributeBase o "insert" X.env (eval o X.env) = eval o X.env := by rfl)
    (hfew : ((backTo pos (starEach [e, e2] X.env)).all (fun x => !x.1) && (backToKw pos (keywordEach [] X.env)).all (fun x => x.1.isSome) && decide ([e, e2].length + ([] : List Keyword).length + (if ([] : List Keyword).isEmpty then 0 else 1) < 30)) = true := by rfl)
    (hline : (apos.endLine == pos.line) = true := by rfl) (hs : starEach [e, e2] X.env = (false, eval e X.env) :: starEach [e2] X.env := by rfl) (hpl : (backTo pos (starEach [e2] X.env)).any (·.1) = false := by rfl) : ED X (.Call (.Attribute o "insert" apos) [e, e2] [] pos) (eMut mo ma mIns) :=
  PE_imp (pe_bm PySem.F.plainAttrs_list PySem.F.slot_list_insert PySem.F.type_list_insert mt_insert ho ha hbase hfew hline hs hpl) (eMut_imp mt_ins)
/-! xs.pop() -/
def eMut0 (o : EM) (f : D → Option (D × D)) : EM := fun S => match o S with
  | some (d, S1) => (match mutC S1 d with
    | some (.lst l) => (match f (.lst l) with | some (c', r) => some (r, setC S1 d c') | none => none)
    | _ => none)
  | none => none
theorem eMut0_some {o : EM} {f : D → Option (D × D)} {S : DS} {r : D} {S' : DS} (h : eMut0 o f S = some (r, S')) : ∃ d S1 l c', o S = some (d, S1) ∧ mutC S1 d = some (.lst l) ∧ f (.lst l) = some (c', r) ∧ S' = setC S1 d c' := by
  unfold eMut0 at h
  split at h
  · rename_i d S1 h1
    split at h
    · rename_i l h2
      split at h
      · rename_i c' r' h5
        cases h
        exact ⟨d, S1, l, c', h1, h2, h5, rfl⟩
      · cases h
    · cases h
  · cases h
theorem eMut0_imp {o : EM} {f : D → Option (D × D)} {r : V → List V → Hp → VK → Prop} (hm : Mt X (fun c ds => if ds.isEmpty then f c else none) r) : ∀ σ H Q, tE X (eMut0 o f) σ H Q → tBM0 X.K "list" r (tE X o) σ H Q := by
  rintro σ H Q ⟨g, S, F, ρ, res, S', R, e, q⟩
  obtain ⟨d, S1, l, c', h1, h2, h6, rfl⟩ := eMut0_some e
  refine ⟨g, S, F, ρ, d, S1, R, h1, fun v F1 ρ1 H1 s1 p1 R1 r1 => ?_⟩
  obtain ⟨a, rfl, ow, wr⟩ := R1.write r1 h2
  refine ⟨?_, hm F1 ρ1 H1 a _ c' res [] [] Q ow .nil R1.fh h6 fun w o ow' rw' => q w F1 ρ1 _ s1 p1 (wr o c' ow') (.inl rw')⟩
  cases ow with
  | lst h _ => exact .inl ⟨rfl, _, SqL.of h⟩
def mPop (c : D) : Option (D × D) := match c with
  | .lst l => (match l[l.length - 1]? with | some y => some (.lst l.dropLast, y) | none => none)
  | _ => none
theorem mt_popD : Mt X (fun c ds => if ds.isEmpty then mPop c else none) rPop := by
  intro F ρ H a c c' res ds vs Q ow rs fh e q
  dsimp only at e
  split at e
  · rename_i hd
    unfold mPop at e
    split at e
    · split at e
      · rename_i y hy
        cases e
        cases ow with
        | lst h rl =>
          cases rs with
          | nil =>
            obtain ⟨w, hw, rw'⟩ := rl.get hy
            rw [← rl.length] at hw
            exact ⟨a, _, w, rfl, rfl, h, hw, q w _ (.lst upd_same rl.dropLast) rw'⟩
          | cons => cases hd
      · cases e
    · cases e
  · cases e
theorem ed_pop {o : Expr} {apos : Pos} {mo : EM} (ho : ED X o mo) (hbase : attributeBase o "pop" X.env (eval o X.env) = eval o X.env := by rfl) (hline : (apos.endLine == pos.line) = true := by rfl) : ED X (.Call (.Attribute o "pop" apos) [] [] pos) (eMut0 mo mPop) :=
  PE_imp (pe_bm0 PySem.F.plainAttrs_list PySem.F.slot_list_pop PySem.F.type_list_pop mt_pop ho hbase hline) (eMut0_imp mt_popD)

/-! ### o[i] = v -/
def putD (c k v : D) : Option D := match c, k with
  | .lst l, .int i => (match ixN l.length i with | some j => some (.lst (l.set j v)) | none => none)
  | .dS ns ds, .str s => if ns.length < 16777216 then (if (lookD ns ds s).isSome then some (.dS ns (repD ns ds s v)) else some (.dS (ns ++ [s]) (ds ++ [v]))) else none
  | _, _ => none
def sSub (v o k : EM) : SM := fun S => match v S with
  | some (dv, S1) => (match o S1 with
    | some (d, S2) => (match k S2 with
      | some (dk, S3) => if isHnd dv || isHnd dk then none else (match mutC S3 d with
        | some c => (match putD c dk dv with | some c' => some (.nx, setC S3 d c') | none => none)
        | none => none)
      | none => none)
    | none => none)
  | none => none
theorem sSub_some {v o k : EM} {S : DS} {fl : Fl} {S' : DS} (h : sSub v o k S = some (fl, S')) : ∃ dv S1 d S2 dk S3 c c', v S = some (dv, S1) ∧ o S1 = some (d, S2) ∧ k S2 = some (dk, S3) ∧ isHnd dv = false ∧ isHnd dk = false ∧ mutC S3 d = some c ∧ putD c dk dv = some c' ∧ fl = .nx ∧ S' = setC S3 d c' := by
  unfold sSub at h
  split at h
  · rename_i dv S1 h1
    split at h
    · rename_i d S2 h2
      split at h
      · rename_i dk S3 h3
        split at h
        · cases h
        · rename_i hn
          rw [Bool.not_eq_true, Bool.or_eq_false_iff] at hn
          split at h
          · rename_i c h4
            split at h
            · rename_i c' h5
              cases h
              exact ⟨dv, S1, d, S2, dk, S3, c, c', h1, h2, h3, hn.1, hn.2, h4, h5, rfl, rfl⟩
            · cases h
          · cases h
      · cases h
    · cases h
  · cases h
theorem valV_keysS {ns : List Str} {vs : List V} (hl : vs.length = ns.length) {ds : List D} (hd : ds.length = ns.length) (s : Str) : (valV (keysS ns vs) (.inr s)).isSome = (lookD ns ds s).isSome := by
  induction ns generalizing vs ds with
  | nil => cases vs <;> rfl
  | cons n ns ih =>
    cases vs with
    | nil => cases hl
    | cons v vs =>
      cases ds with
      | nil => cases hd
      | cons d ds =>
        show (valV ((Sum.inr n, v) :: keysS ns vs) (.inr s)).isSome = (if n = s then some d else lookD ns ds s).isSome
        by_cases h : n = s
        · subst h; rw [if_pos rfl, valV_pos rfl]; rfl
        · rw [if_neg h, valV_neg (fun e => h (Sum.inr.inj e))]
          exact ih (by simpa using hl) (by simpa using hd)
theorem repD_length {κ : Type} [DecidableEq κ] : ∀ (ks : List κ) (ds : List D) (k : κ) (v : D), (repD ks ds k v).length = ds.length
  | [], ds, _, _ => by cases ds <;> rfl
  | _ :: _, [], _, _ => rfl
  | k0 :: ks, d :: ds, k, v => by simp [repD, repD_length ks ds k v]
theorem putK_keysS {T : Tx} {F : Hp} {ρ : List Addr} {ns : List Str} {vs : List V} {ds : List D} (hl : vs.length = ns.length) (rs : Reps T F ρ vs ds) {s : Str} {v : V} {d : D} (r : Rep T F ρ v d) :
    if (lookD ns ds s).isSome then ∃ vs', putK (keysS ns vs) (.inr s) v = keysS ns vs' ∧ vs'.length = ns.length ∧ Reps T F ρ vs' (repD ns ds s d) else putK (keysS ns vs) (.inr s) v = keysS (ns ++ [s]) (vs ++ [v]) := by
  have hd : ds.length = ns.length := by rw [← rs.length]; exact hl
  have hv := valV_keysS hl hd s
  have ha := valV_any (.inr s : Key) (keysS ns vs)
  split
  · rename_i h
    rw [h] at hv
    have e : putK (keysS ns vs) (.inr s) v = (keysS ns vs).map (fun kv => if kv.1 = .inr s then (kv.1, v) else kv) := by unfold putK; rw [if_pos (by rw [ha, hv])]
    rw [e]
    clear e h hv ha
    induction ns generalizing vs ds with
    | nil => cases vs with
      | nil => cases rs; exact ⟨[], rfl, rfl, .nil⟩
      | cons => cases hl
    | cons n ns ih =>
      cases rs with
      | nil => cases hl
      | @cons v0 vs0 d0 ds0 r0 rs0 =>
        obtain ⟨vs', e1, e2, e3⟩ := ih (vs := vs0) (ds := ds0) (by simpa using hl) rs0 (by simpa using hd)
        by_cases h : n = s
        · subst h
          refine ⟨v :: vs', ?_, by simp [e2], ?_⟩
          · show (if (Sum.inr n : Key) = .inr n then ((Sum.inr n : Key), v) else _) :: (keysS ns vs0).map _ = (.inr n, v) :: keysS ns vs'
            rw [if_pos rfl, e1]
          · show Reps T F ρ (v :: vs') ((if n = n then d else d0) :: repD ns ds0 n d)
            rw [if_pos rfl]
            exact .cons r e3
        · refine ⟨v0 :: vs', ?_, by simp [e2], ?_⟩
          · show (if (Sum.inr n : Key) = .inr s then _ else ((Sum.inr n : Key), v0)) :: (keysS ns vs0).map _ = (.inr n, v0) :: keysS ns vs'
            rw [if_neg (fun e => h (Sum.inr.inj e)), e1]
          · show Reps T F ρ (v0 :: vs') ((if n = s then d else d0) :: repD ns ds0 s d)
            rw [if_neg h]
            exact .cons r0 e3
  · rename_i h
    rw [Bool.not_eq_true] at h
    rw [h] at hv
    unfold putK
    rw [if_neg (by rw [ha, hv]; exact Bool.false_ne_true)]
    unfold keysS
    rw [List.map_append, List.zip_append (by simp [hl])]
    rfl
def rPut (X : Cx) : TSet := fun o i v H Q => rSetL o i v H Q ∨ ∃ a H', o = .ref a ∧ DPut H a i v H' ∧ Q H'
theorem set_all (hu : X.A.units + 1 < cLine) : PSet X (rPut X) := by
  intro pins s σ H o i v ov iv u Q I ro ri rv h
  rcases h with h | ⟨a, H', rfl, gp, q⟩
  · exact set_list pins s σ H o i v ov iv u Q I ro ri rv h
  · cases ro
    exact d_setItem hu I gp ri rv fun s' I' => ⟨H', I', q⟩
theorem put_run {F : Hp} {ρ : List Addr} {H : Hp} {a : Addr} {c c' k dv : D} {i v : V} {Q : Hp → Prop} (ow : Own (tx X) F ρ H a c) (rk : Rep (tx X) F ρ i k) (rv : Rep (tx X) F ρ v dv) (e : putD c k dv = some c')
    (q : ∀ o, Own (tx X) F ρ (upd H a o) a c' → Q (upd H a o)) : rPut X (.ref a) i v H Q := by
  unfold putD at e
  split at e
  · split at e
    · rename_i j hj
      cases e
      cases ow with
      | lst h rl =>
        cases rk
        exact .inl ⟨a, _, _, j, rfl, rfl, h, by rw [rl.length]; exact hj, q _ (.lst upd_same (rl.set rv j))⟩
    · cases e
  · rename_i ns ds s
    split at e
    · rename_i hz
      cases ow with
      | @dS _ vs _ h hl rs =>
        cases rk
        have hk : (keysS ns vs).length = ns.length := by unfold keysS; simp [hl]
        have P := putK_keysS hl rs (s := s) rv
        refine .inr ⟨a, _, rfl, .inl ⟨_, .inr s, h, rfl, by rw [hk, sizeLine_eq]; exact hz, rfl⟩, ?_⟩
        split at e
        · rename_i hs
          cases e
          rw [if_pos hs] at P
          obtain ⟨vs', e1, e2, e3⟩ := P
          exact q _ (.dS (by rw [e1]; exact upd_same) e2 e3)
        · rename_i hs
          cases e
          rw [if_neg hs] at P
          exact q _ (.dS (by rw [P]; exact upd_same) (by simp [hl]) (rs.append (.cons rv .nil)))
    · cases e
  · cases e
theorem sd_sub {o i e : Expr} {mv mo mi : EM} {p' : Pos} (hu : X.A.units + 1 < cLine) (he : ED X e mv) (ho : ED X o mo) (hi : ED X i mi)
    (hs : swapsWithSole [.Subscript o i p'] e pos.line X.env = pure false := by rfl) (hw : swappedStores [.Subscript o i p'] e X.env = pure none := by rfl)
    (h1 : (assignEach [.Subscript o i p'] X.env).map (·.2) = [assign (.Subscript o i p') X.env] := by rfl)
    (ha : ∀ v, assign (.Subscript o i p') X.env v = (do
      let ov ← holding [v] (eval o X.env)
      let iv ← holding [v, ov] (eval i X.env)
      standAt p'
      holding [v, ov, iv] (setItem ov iv v)
      release [v, ov, iv] []) := by intro _; rfl) : SD X (.Assign [.Subscript o i p'] e pos) (sSub mv mo mi) := by
  refine PS_imp (ps_asg he (pg_sub ho hi (set_all hu) ha) hs hw h1) ?_
  rintro σ H D ⟨g, S, F, ρ, fl, S', R, e, q⟩
  obtain ⟨dv, S1, d, S2, dk, S3, c, c', h1, h2, h3, h4, h5, h6, h7, rfl, rfl⟩ := sSub_some e
  refine ⟨g, S, F, ρ, dv, S1, R, h1, fun v F1 ρ1 H1 s1 p1 R1 r1 => ⟨g, S1, F1, ρ1, d, S2, R1, h2, fun w F2 ρ2 H2 s2 p2 R2 r2 => ⟨g, S2, F2, ρ2, dk, S3, R2, h3, fun u F3 ρ3 H3 s3 p3 R3 r3 => ?_⟩⟩⟩
  obtain ⟨a, rfl, ow, wr⟩ := R3.write (r2.mono s3 p3) h6
  exact put_run ow (r3.rep h5) (((r1.mono s2 p2).mono s3 p3).rep h4) h7 fun o ow' => q F3 ρ3 σ _ ((s1.trans s2).trans s3) ((p1.trans p2).trans p3) (wr o c' ow')
end
end DL

set_option Elab.async false
set_option linter.all false
set_option maxRecDepth 100000
set_option maxHeartbeats 1000000
namespace DL
open PySem PySem.Spec PyProof.Rows L2

/-! ### what is walked -/
def itOf (m : EM) : AM := fun S => match m S with
  | some (.lst ds, S1) => some (ds, S1)
  | some (.tup ds, S1) => some (ds, S1)
  | some (.str s, S1) => some (s.cps.toList.map fun c => .str ⟨#[c]⟩, S1)
  | some (.dS ns ds, S1) => some (ns.map .str, S1)
  | _ => none
def itRange (m : AM) : AM := fun S => match m S with
  | some ([.int j], S1) => if -4611686018427387904 ≤ j ∧ j < 4611686018427387904 then some ((List.range j.toNat).map fun (k : Nat) => D.int k, S1) else none
  | _ => none
def itRange2 (m : AM) : AM := fun S => match m S with
  | some ([.int i, .int j], S1) => if -4611686018427387904 ≤ i ∧ i < 4611686018427387904 ∧ -4611686018427387904 ≤ j ∧ j < 4611686018427387904 then some ((List.range (j - i).toNat).map fun (k : Nat) => D.int (i + k), S1) else none
  | _ => none
def itEnum (m : AM) : AM := fun S => match m S with
  | some ([.lst ds], S1) => some (ds.zipIdx.map fun p => .tup [.int p.2, p.1], S1)
  | _ => none
def itRev (m : AM) : AM := fun S => match m S with
  | some ([.lst ds], S1) => some (ds.reverse, S1)
  | _ => none
def itZip (m : AM) : AM := fun S => match m S with
  | some ([.lst ds, .lst es], S1) => some ((ds.zip es).map fun p => .tup [p.1, p.2], S1)
  | _ => none
section
variable {X : Cx} {pos : Pos} {tg : Expr}
theorem pi_any {l : Expr} {tl : TE} (hl : PE X l tl) : PI X tg l (fun σ H R => tl σ H fun x H1 => (∃ a xs, x = .ref a ∧ SqL X.K H1 a xs ∧ R (Itl X.K a) H1) ∨ (∃ a xs, x = .ref a ∧ SqT X.K H1 a xs ∧ R (Itt X.K a) H1) ∨
    (∃ s, x = .str s ∧ R (Its s) H1) ∨ ∃ d o kvs, x = .ref d ∧ H1 d = some (.frz o (.dK kvs)) ∧ R (Itk d o kvs) H1) := by
  refine ⟨fun pins s σ H R I h => ?_⟩
  refine thn (hl.run pins s σ H _ I h) fun v s1 ⟨x, H1, I1, r1, q1⟩ => ?_
  have k : ∀ (wi : TI), PI X tg l wi → True := fun _ _ => trivial
  rcases q1 with ⟨a, xs, e, hq, q⟩ | ⟨a, xs, e, hq, q⟩ | ⟨z, e, q⟩ | ⟨d, o, kvs, e, hq, q⟩
  · subst e
    cases r1
    obtain ⟨its, rv, p, hz⟩ := I1.list hq
    refine wpAny_pyIter_list p.isList ?_
    refine ⟨s1.heap.objs.size, [s1.heap.objs.size], _, _, H1, rfl, I1.kept (t' := s1.toks) fun b o e => Heap.get?_push_of_some _ e, turn_list a _, ⟨_, Heap.get?_push_size _ rfl, rfl, rfl⟩, fun b hb => ?_, q⟩
    have e : b = s1.heap.objs.size := by simpa using hb
    subst e
    exact I1.fpOk (Nat.le_refl _) (I1.hok.fresh (Nat.le_refl _))
  · subst e
    cases r1
    obtain ⟨its, rv, p, hz⟩ := I1.tuple hq
    refine wpAny_pyIter_tuple (show s1.heap.IsTuple a its.toArray from p) ?_
    refine ⟨s1.heap.objs.size, [s1.heap.objs.size], _, _, H1, rfl, I1.kept (t' := s1.toks) fun b o e => Heap.get?_push_of_some _ e, turn_tuple a _, ⟨_, Heap.get?_push_size _ rfl, rfl, rfl⟩, fun b hb => ?_, q⟩
    have e : b = s1.heap.objs.size := by simpa using hb
    subst e
    exact I1.fpOk (Nat.le_refl _) (I1.hok.fresh (Nat.le_refl _))
  · subst e
    obtain ⟨t, rfl⟩ := r1
    cases ha : z.cps.all (· < 128)
    · exact wpAny_pyIter_wide ha (pi_one (tk := s1.toks) I1 _ (turn_str _ z t "str_iterator" (.inr rfl)) ⟨_, Heap.get?_push_size _ rfl, rfl, rfl⟩ q)
    · exact wpAny_pyIter_ascii ha (pi_one (tk := s1.toks) I1 _ (turn_str _ z t "str_ascii_iterator" (.inl rfl)) ⟨_, Heap.get?_push_size _ rfl, rfl, rfl⟩ q)
  · subst e
    cases r1
    obtain ⟨hs, hgd, hx, es, ep, vs, hdt, hsz, kv, hm⟩ := I1.frzK hq
    refine iter_keys hs hgd hx hdt (pi_one (tk := s1.toks) I1 _ (turn_keys _ hdt) ⟨_, Heap.get?_push_size _ rfl, rfl, ?_⟩ q)
    rw [hsz] <;> rfl
theorem keysS_get {ns : List Str} {vs : List V} (hl : vs.length = ns.length) {i : Nat} {n : Str} (h : ns[i]? = some n) : ∃ v, (keysS ns vs)[i]? = some (.inr n, v) := by
  have hi := (List.getElem?_eq_some_iff.mp h).1
  refine ⟨vs[i]'(by omega), ?_⟩
  unfold keysS
  rw [List.getElem?_zip_eq_some]
  exact ⟨by rw [List.getElem?_map, h]; rfl, List.getElem?_eq_getElem (by omega)⟩
theorem id_of {e : Expr} {m : EM} (h : ED X e m) : ID X tg e (itOf m) := by
  refine PI_imp (pi_any h) ?_
  rintro σ H Q ⟨g, S, F, ρ, ds, S', R, e, q⟩
  unfold itOf at e
  split at e
  · rename_i l S1 h1
    cases e
    refine ⟨g, S, F, ρ, _, S', R, h1, fun v F1 ρ1 H1 s1 p1 R1 r1 => ?_⟩
    rcases r1 with r1 | ⟨_, z, _⟩
    · cases r1 with
      | @lst a xs _ hF rs =>
        refine .inl ⟨a, xs, rfl, SqL.of (R1.fh _ _ hF), q _ F1 ρ1 H1 s1 p1 R1 fun g2 S2 F2 ρ2 σ2 H2 s2 p2 R2 => ⟨fun i d hd => ?_, ⟨xs, SqL.of (R2.fh _ _ (s2 _ _ hF)), by rw [rs.length]; exact Nat.le_refl _⟩⟩⟩
        obtain ⟨x, hx, rx⟩ := rs.get hd
        have hq := SqL.of (K := X.K) (R2.fh _ _ (s2 _ _ hF))
        refine ⟨⟨xs, x, hq, hx⟩, fun y H3 hy => ⟨F2, Sub.refl, ?_⟩⟩
        obtain ⟨rfl, hy⟩ := hy
        have := hy xs hq
        rw [hx] at this; cases this
        exact ⟨R2, rx.mono s2 p2⟩
    · cases z
  · rename_i l S1 h1
    cases e
    refine ⟨g, S, F, ρ, _, S', R, h1, fun v F1 ρ1 H1 s1 p1 R1 r1 => ?_⟩
    rcases r1 with r1 | ⟨_, z, _⟩
    · cases r1 with
      | @tup a xs _ hF rs =>
        refine .inr (.inl ⟨a, xs, rfl, SqT_sub R1.fh hF, q _ F1 ρ1 H1 s1 p1 R1 fun g2 S2 F2 ρ2 σ2 H2 s2 p2 R2 => ⟨fun i d hd => ?_, ⟨xs, SqT_sub R2.fh (SqT_sub s2 hF), by rw [rs.length]; exact Nat.le_refl _⟩⟩⟩)
        obtain ⟨x, hx, rx⟩ := rs.get hd
        have hq := SqT_sub R2.fh (SqT_sub s2 hF)
        refine ⟨⟨xs, x, hq, hx⟩, fun y H3 hy => ⟨F2, Sub.refl, ?_⟩⟩
        obtain ⟨rfl, hy⟩ := hy
        have := hy xs hq
        rw [hx] at this; cases this
        exact ⟨R2, rx.mono s2 p2⟩
    · cases z
  · rename_i z S1 h1
    cases e
    refine ⟨g, S, F, ρ, _, S', R, h1, fun v F1 ρ1 H1 s1 p1 R1 r1 => ?_⟩
    cases repx_str r1
    have hz : z.cps.toList.length = z.cps.size := by simp
    refine .inr (.inr (.inl ⟨z, rfl, q _ F1 ρ1 H1 s1 p1 R1 fun g2 S2 F2 ρ2 σ2 H2 s2 p2 R2 => ⟨fun i d hd => ?_, by show z.cps.size ≤ _; rw [List.length_map]; omega⟩⟩))
    rw [List.getElem?_map] at hd
    cases hc : z.cps.toList[i]? with
    | none => rw [hc] at hd; cases hd
    | some c =>
      rw [hc] at hd
      cases hd
      have hi := (List.getElem?_eq_some_iff.mp hc).1
      refine ⟨by show i < z.cps.size; omega, fun y H3 hy => ⟨F2, Sub.refl, ?_⟩⟩
      obtain ⟨rfl, c', hc', rfl⟩ := hy
      have : z.cps[i]? = some c := by simpa using hc
      rw [this] at hc'; cases hc'
      exact ⟨R2, .str _⟩
  · rename_i ns es S1 h1
    cases e
    refine ⟨g, S, F, ρ, _, S', R, h1, fun v F1 ρ1 H1 s1 p1 R1 r1 => ?_⟩
    rcases r1 with r1 | ⟨_, z, _⟩
    · cases r1 with
      | @dS a ob _ vs _ hF hl rs =>
        have hk : (keysS ns vs).length = ns.length := by unfold keysS; simp [hl]
        refine .inr (.inr (.inr ⟨a, ob, _, rfl, R1.fh _ _ hF, q _ F1 ρ1 H1 s1 p1 R1 fun g2 S2 F2 ρ2 σ2 H2 s2 p2 R2 => ⟨fun i d hd => ?_, R2.fh _ _ (s2 _ _ hF), by rw [hk, List.length_map]; exact Nat.le_refl _⟩⟩))
        rw [List.getElem?_map] at hd
        cases hn : ns[i]? with
        | none => rw [hn] at hd; cases hd
        | some n =>
          rw [hn] at hd
          cases hd
          obtain ⟨v, hv⟩ := keysS_get hl hn
          refine ⟨⟨R2.fh _ _ (s2 _ _ hF), by rw [hk]; exact (List.getElem?_eq_some_iff.mp hn).1⟩, fun y H3 hy => ⟨F2, Sub.refl, ?_⟩⟩
          obtain ⟨rfl, k, w, hk', rfl⟩ := hy
          rw [hv] at hk'; cases hk'
          exact ⟨R2, .str _⟩
    · cases z
  · cases e
theorem yields_range {lo : Int} {n : Nat} {F : Hp} {ρ : List Addr} : Yields X (Itr lo n) ((List.range n).map fun (k : Nat) => D.int (lo + k)) F ρ := by
  intro g2 S2 F2 ρ2 σ2 H2 s2 p2 R2
  refine ⟨fun i d hd => ?_, by show n ≤ _; rw [List.length_map, List.length_range]; exact Nat.le_refl _⟩
  rw [List.getElem?_map] at hd
  by_cases hi : i < n
  · rw [List.getElem?_range hi] at hd
    cases hd
    refine ⟨hi, fun y H3 hy => ⟨F2, Sub.refl, ?_⟩⟩
    obtain ⟨rfl, rfl⟩ := hy
    exact ⟨R2, .int _⟩
  · rw [List.getElem?_eq_none (by rw [List.length_range]; omega)] at hd
    cases hd
theorem id_range1 {a : Expr} {p : Pos} {m : AM} (hg : Gl X "range") (hm : X.mg "range" = none) (ha : AD X [a] m) (hs : starEach [a] X.env = [(false, eval a X.env)] := by rfl) : ID X tg (.Call (.Name "range" p) [a] [] pos) (itRange m) := by
  refine PI_imp (pi_range1 hg hm ha hs) ?_
  rintro σ H Q ⟨g, S, F, ρ, ds, S', R, e, q⟩
  unfold itRange at e
  split at e
  · rename_i j S1 h1
    split at e
    · rename_i hj
      cases e
      refine ⟨g, S, F, ρ, _, S', R, h1, fun vs F1 ρ1 H1 s1 p1 R1 r1 => ?_⟩
      cases r1 with
      | cons a b =>
        cases b
        cases repx_int a
        refine ⟨j, rfl, hj.1, hj.2, q _ F1 ρ1 H1 s1 p1 R1 ?_⟩
        have := yields_range (X := X) (lo := 0) (n := j.toNat) (F := F1) (ρ := ρ1)
        simpa using this
    · cases e
  · cases e
theorem id_range2 {a b : Expr} {p : Pos} {m : AM} (hg : Gl X "range") (hm : X.mg "range" = none) (ha : AD X [a, b] m) (hs : starEach [a, b] X.env = [(false, eval a X.env), (false, eval b X.env)] := by rfl) (hs2 : starEach [b] X.env = [(false, eval b X.env)] := by rfl) : ID X tg (.Call (.Name "range" p) [a, b] [] pos) (itRange2 m) := by
  refine PI_imp (pi_range2 hg hm ha hs hs2) ?_
  rintro σ H Q ⟨g, S, F, ρ, ds, S', R, e, q⟩
  unfold itRange2 at e
  split at e
  · rename_i i j S1 h1
    split at e
    · rename_i hj
      cases e
      refine ⟨g, S, F, ρ, _, S', R, h1, fun vs F1 ρ1 H1 s1 p1 R1 r1 => ?_⟩
      cases r1 with
      | cons a b =>
        cases b with
        | cons a' b' =>
          cases b'
          cases repx_int a
          cases repx_int a'
          exact ⟨i, j, rfl, hj, q _ F1 ρ1 H1 s1 p1 R1 yields_range⟩
    · cases e
  · cases e
theorem zipIdx_get {ds : List D} {i : Nat} {d : D} (h : (ds.zipIdx.map fun p => D.tup [.int p.2, p.1])[i]? = some d) : ∃ x, ds[i]? = some x ∧ d = .tup [.int i, x] := by
  rw [List.getElem?_map, List.getElem?_zipIdx] at h
  cases e : ds[i]? with
  | none => rw [e] at h; cases h
  | some x =>
    rw [e] at h
    simp only [Option.map_some, Option.some.injEq] at h
    exact ⟨x, rfl, by rw [← h]; simp⟩
theorem id_enum {e : Expr} {p tpos : Pos} {elts : List Expr} {kk : Nat} {m : AM} (hg : Gl X "enumerate") (hm : X.mg "enumerate" = none) (ha : AD X [e] m) (hs : starEach [e] X.env = [(false, eval e X.env)] := by rfl) :
    ID X (.Tuple elts kk tpos) (.Call (.Name "enumerate" p) [e] [] pos) (itEnum m) := by
  refine PI_imp (pi_enum hg hm ha hs) ?_
  rintro σ H Q ⟨g, S, F, ρ, ds, S', R, e, q⟩
  unfold itEnum at e
  split at e
  · rename_i l S1 h1
    cases e
    refine ⟨g, S, F, ρ, _, S', R, h1, fun vs F1 ρ1 H1 s1 p1 R1 r1 => ?_⟩
    cases r1 with
    | cons a b =>
      cases b
      cases a.rep rfl with
      | @lst a0 xs _ hF rs =>
        refine ⟨a0, xs, rfl, SqL.of (R1.fh _ _ hF), q _ F1 ρ1 H1 s1 p1 R1 fun g2 S2 F2 ρ2 σ2 H2 s2 p2 R2 => ⟨fun i d hd => ?_, ⟨xs, SqL.of (R2.fh _ _ (s2 _ _ hF)), by rw [List.length_map, List.length_zipIdx, rs.length]; exact Nat.le_refl _⟩⟩⟩
        obtain ⟨x, hx, rfl⟩ := zipIdx_get hd
        obtain ⟨w, hw, rw'⟩ := rs.get hx
        have hq := SqL.of (K := X.K) (R2.fh _ _ (s2 _ _ hF))
        refine ⟨⟨xs, w, hq, hw⟩, fun y H3 hy => ?_⟩
        obtain ⟨T, z, rfl, hT, rfl, hz⟩ := hy
        have := hz xs hq
        rw [hw] at this; cases this
        have s3 := Sub.upd (o := HO.tup [.int (i : Nat), w]) (R2.new_g hT).2.2
        exact ⟨_, s3, R2.alloc hT, .tup (.inl (.inl upd_same)) (.cons (.int _) (.cons (rw'.mono (s2.trans s3) p2) .nil))⟩
  · cases e
theorem id_rev {e : Expr} {p : Pos} {m : AM} (hg : Gl X "reversed") (hm : X.mg "reversed" = none) (ha : AD X [e] m) (hs : starEach [e] X.env = [(false, eval e X.env)] := by rfl) : ID X tg (.Call (.Name "reversed" p) [e] [] pos) (itRev m) := by
  refine PI_imp (pi_reversed hg hm ha hs) ?_
  rintro σ H Q ⟨g, S, F, ρ, ds, S', R, e, q⟩
  unfold itRev at e
  split at e
  · rename_i l S1 h1
    cases e
    refine ⟨g, S, F, ρ, _, S', R, h1, fun vs F1 ρ1 H1 s1 p1 R1 r1 => ?_⟩
    cases r1 with
    | cons a b =>
      cases b
      cases a.rep rfl with
      | @lst a0 xs _ hF rs =>
        refine ⟨a0, xs, rfl, SqL.of (R1.fh _ _ hF), q _ F1 ρ1 H1 s1 p1 R1 fun g2 S2 F2 ρ2 σ2 H2 s2 p2 R2 => ⟨fun i d hd => ?_, by show xs.length ≤ _; rw [List.length_reverse, rs.length]; exact Nat.le_refl _⟩⟩
        have hi : i < l.length := by have := (List.getElem?_eq_some_iff.mp hd).1; simpa using this
        rw [List.getElem?_reverse hi] at hd
        obtain ⟨w, hw, rw'⟩ := rs.get hd
        rw [← rs.length] at hw
        have hq := SqL.of (K := X.K) (R2.fh _ _ (s2 _ _ hF))
        refine ⟨⟨by rw [rs.length]; exact hi, xs, w, hq, hw⟩, fun y H3 hy => ⟨F2, Sub.refl, ?_⟩⟩
        obtain ⟨rfl, hz⟩ := hy
        have := hz xs hq
        rw [hw] at this; cases this
        exact ⟨R2, rw'.mono s2 p2⟩
  · cases e
theorem id_zip {e e2 : Expr} {p tpos : Pos} {elts : List Expr} {kk : Nat} {m : AM} (hg : Gl X "zip") (hm : X.mg "zip" = none) (ha : AD X [e, e2] m)
    (hs : starEach [e, e2] X.env = (false, eval e X.env) :: starEach [e2] X.env := by rfl) (hpl : (backTo pos (starEach [e2] X.env)).any (·.1) = false := by rfl) :
    ID X (.Tuple elts kk tpos) (.Call (.Name "zip" p) [e, e2] [] pos) (itZip m) := by
  refine PI_imp (pi_zip hg hm ha hs hpl) ?_
  rintro σ H Q ⟨g, S, F, ρ, ds, S', R, e, q⟩
  unfold itZip at e
  split at e
  · rename_i l l2 S1 h1
    cases e
    refine ⟨g, S, F, ρ, _, S', R, h1, fun vs F1 ρ1 H1 s1 p1 R1 r1 => ?_⟩
    cases r1 with
    | cons a b =>
      cases b with
      | cons a' b' =>
        cases b'
        cases a.rep rfl with
        | @lst a0 xs _ hF rs =>
          cases a'.rep rfl with
          | @lst b0 ys _ hG rt =>
            refine ⟨a0, b0, xs, ys, rfl, SqL.of (R1.fh _ _ hF), SqL.of (R1.fh _ _ hG), q _ F1 ρ1 H1 s1 p1 R1 fun g2 S2 F2 ρ2 σ2 H2 s2 p2 R2 => ⟨fun i d hd => ?_, ⟨xs, ys, SqL.of (R2.fh _ _ (s2 _ _ hF)), SqL.of (R2.fh _ _ (s2 _ _ hG)), ?_⟩⟩⟩
            · rw [List.getElem?_map] at hd
              cases hz : (l.zip l2)[i]? with
              | none => rw [hz] at hd; cases hd
              | some pr =>
                rw [hz] at hd
                cases hd
                obtain ⟨k1, k2⟩ := List.getElem?_zip_eq_some.mp hz
                obtain ⟨w, hw, rw'⟩ := rs.get k1
                obtain ⟨u, hu, ru⟩ := rt.get k2
                have hq := SqL.of (K := X.K) (R2.fh _ _ (s2 _ _ hF))
                have hq2 := SqL.of (K := X.K) (R2.fh _ _ (s2 _ _ hG))
                refine ⟨⟨xs, ys, w, u, hq, hq2, hw, hu⟩, fun y H3 hy => ?_⟩
                obtain ⟨T, z, z2, rfl, hT, rfl, hz1, hz2⟩ := hy
                have := hz1 xs hq
                rw [hw] at this; cases this
                have := hz2 ys hq2
                rw [hu] at this; cases this
                have s3 := Sub.upd (o := HO.tup [w, u]) (R2.new_g hT).2.2
                exact ⟨_, s3, R2.alloc hT, .tup (.inl (.inl upd_same)) (.cons (rw'.mono (s2.trans s3) p2) (.cons (ru.mono (s2.trans s3) p2) .nil))⟩
            · rw [List.length_map, List.length_zip, rs.length, rt.length]
              omega
  · cases e
end
end DL

set_option Elab.async false
set_option linter.all false
set_option maxRecDepth 100000
set_option maxHeartbeats 1000000
namespace DL
open PySem PySem.Spec PyProof.Rows L2

/-! ### a comprehension's own names -/
def wipeE (env : List Sl) : List Nat → List Sl
  | [] => env
  | v :: vs => (wipeE env vs).set v .non
/-- the names vs as they were in E0 -/
def mergeE (E0 E1 : List Sl) : List Nat → List Sl
  | [] => E1
  | v :: vs => match E0[v]? with
    | some s => (mergeE E0 E1 vs).set v s
    | none => mergeE E0 E1 vs
def isOwn : Sl → Bool | .own _ => true | _ => false
theorem wipeE_length (env : List Sl) : ∀ vs, (wipeE env vs).length = env.length
  | [] => rfl
  | v :: vs => by simp [wipeE, wipeE_length env vs]
theorem mergeE_length (E0 E1 : List Sl) : ∀ vs, (mergeE E0 E1 vs).length = E1.length
  | [] => rfl
  | v :: vs => by
    unfold mergeE
    split <;> simp [mergeE_length E0 E1 vs]
theorem wipeE_get (env : List Sl) (k : Nat) (s : Sl) : ∀ vs, (wipeE env vs)[k]? = some s → (k ∉ vs ∧ env[k]? = some s) ∨ (k ∈ vs ∧ s = .non)
  | [], h => .inl ⟨by simp, h⟩
  | v :: vs, h => by
    unfold wipeE at h
    by_cases hk : v = k
    · subst hk
      have hl : v < (wipeE env vs).length := by have := (List.getElem?_eq_some_iff.mp h).1; simpa using this
      rw [List.getElem?_set_self hl] at h
      cases h
      exact .inr ⟨by simp, rfl⟩
    · rw [List.getElem?_set_ne hk] at h
      rcases wipeE_get env k s vs h with ⟨a, b⟩ | ⟨a, b⟩
      · exact .inl ⟨by simp [a, Ne.symm hk], b⟩
      · exact .inr ⟨by simp [a], b⟩
theorem mergeE_get {E0 E1 : List Sl} (hl : E0.length = E1.length) (k : Nat) (s : Sl) : ∀ vs, (mergeE E0 E1 vs)[k]? = some s → (k ∉ vs ∧ E1[k]? = some s) ∨ (k ∈ vs ∧ E0[k]? = some s)
  | [], h => .inl ⟨by simp, h⟩
  | v :: vs, h => by
    unfold mergeE at h
    split at h
    · rename_i s0 h0
      by_cases hk : v = k
      · subst hk
        have hlt : v < (mergeE E0 E1 vs).length := by have := (List.getElem?_eq_some_iff.mp h).1; simpa using this
        rw [List.getElem?_set_self hlt] at h
        cases h
        exact .inr ⟨by simp, h0⟩
      · rw [List.getElem?_set_ne hk] at h
        rcases mergeE_get hl k s vs h with ⟨a, b⟩ | ⟨a, b⟩
        · exact .inl ⟨by simp [a, Ne.symm hk], b⟩
        · exact .inr ⟨by simp [a], b⟩
    · rename_i h0
      have hk : k ≠ v := fun z => by
        subst z
        have h1 := (List.getElem?_eq_some_iff.mp h).1
        rw [mergeE_length, ← hl] at h1
        rw [List.getElem?_eq_getElem h1] at h0
        cases h0
      rcases mergeE_get hl k s vs h with ⟨a, b⟩ | ⟨a, b⟩
      · exact .inl ⟨by simp [a, hk], b⟩
      · exact .inr ⟨by simp [a], b⟩
theorem wipe_get {σ : L2.St} {k : Nat} : ∀ {vs : List Nat}, k ∉ vs → (L2.wipe σ vs)[k]? = σ[k]? := fun {vs} h => L2.wipe_out h
theorem wipe_in {σ : L2.St} {k : Nat} {x : Option V} : ∀ {vs : List Nat}, k ∈ vs → (L2.wipe σ vs)[k]? = some x → x = none
  | [], h, _ => by simp at h
  | v :: vs, h, e => by
    unfold L2.wipe at e
    by_cases hk : v = k
    · subst hk
      have hl : v < (L2.wipe σ vs).length := by have := (List.getElem?_eq_some_iff.mp e).1; simpa using this
      rw [List.getElem?_set_self hl] at e
      cases e; rfl
    · rw [List.getElem?_set_ne hk] at e
      exact wipe_in (vs := vs) (by
        rcases List.mem_cons.mp h with z | z
        · exact absurd z.symm hk
        · exact z) e
theorem wipe_off {σ σ' : L2.St} {is vs : List Nat} (h : Off is (L2.wipe σ vs) σ') (hs : ∀ i ∈ is, i ∈ vs) : L2.wipe σ' vs = L2.wipe σ vs := by
  refine List.ext_getElem? fun k => ?_
  by_cases hk : k ∈ vs
  · have hl : (L2.wipe σ' vs).length = (L2.wipe σ vs).length := by rw [L2.wipe_length, h.1]
    by_cases hlt : k < (L2.wipe σ vs).length
    · rw [List.getElem?_eq_getElem hlt, List.getElem?_eq_getElem (by rw [hl]; exact hlt)]
      rw [wipe_in (x := (L2.wipe σ' vs)[k]'(by rw [hl]; exact hlt)) hk (List.getElem?_eq_getElem _), wipe_in (x := (L2.wipe σ vs)[k]) hk (List.getElem?_eq_getElem _)]
    · rw [List.getElem?_eq_none (by omega), List.getElem?_eq_none (by omega)]
  · rw [wipe_get hk, wipe_get hk, h.2 k (fun z => hk (hs k z)), wipe_get hk]
section
variable {T : Tx} {g : Gh} {S : DS} {F : Hp} {ρ : List Addr} {σ σ' : L2.St} {H : Hp}
theorem SR.wipe (R : SR T g S F ρ σ' H) {vs : List Nat} (hw : L2.wipe σ' vs = L2.wipe σ vs) : SR T g ⟨wipeE S.env vs, S.store⟩ F ρ (L2.wipe σ vs) H := by
  rw [← hw]
  have own_ : ∀ {i : Nat} {d : D}, (wipeE S.env vs)[i]? = some (.own d) → i ∉ vs ∧ S.env[i]? = some (.own d) := fun {i d} h => by
    rcases wipeE_get _ _ _ _ h with z | ⟨_, z⟩
    · exact z
    · cases z
  refine ⟨R.fg, R.fn, R.fh, R.keep, R.rg, R.rnd, R.rnew, R.clen, R.cell, by rw [wipeE_length, L2.wipe_length]; exact R.slen, fun i v sl h1 h2 => ?_, fun i j a d e h1 h2 h3 h4 => ?_, fun q hq => ?_⟩
  · rcases wipeE_get _ _ _ _ h2 with ⟨a, b⟩ | ⟨a, b⟩
    · rw [wipe_get a] at h1; exact R.slot i v sl h1 b
    · subst b; exact .non
  · obtain ⟨a1, b1⟩ := own_ h1
    obtain ⟨a2, b2⟩ := own_ h2
    rw [wipe_get a1] at h3
    rw [wipe_get a2] at h4
    exact R.apart i j a d e b1 b2 h3 h4
  · obtain ⟨h1, h2, h3, h4⟩ := R.exo q hq
    refine ⟨h1, h2, h3, fun i d hd => ?_⟩
    obtain ⟨a1, b1⟩ := own_ hd
    rw [wipe_get a1]
    exact h4 i d b1
theorem SR.unwipe {g0 : Gh} {S0 : DS} {F0 : Hp} {ρ0 : List Addr} {H0 : Hp} (R0 : SR T g0 S0 F0 ρ0 σ H0) {vs : List Nat} (no : ∀ i d, i ∈ vs → S0.env[i]? ≠ some (.own d)) (s : Sub F0 F) (p : ρ0 <+: ρ) (R : SR T g S F ρ (L2.wipe σ vs) H) :
    SR T g ⟨mergeE S0.env S.env vs, S.store⟩ F ρ σ H := by
  have hl : S0.env.length = S.env.length := by rw [R0.slen, R.slen, L2.wipe_length]
  have own_ : ∀ {i : Nat} {d : D}, (mergeE S0.env S.env vs)[i]? = some (.own d) → i ∉ vs ∧ S.env[i]? = some (.own d) := fun {i d} h => by
    rcases mergeE_get hl _ _ _ h with z | ⟨a, z⟩
    · exact z
    · exact absurd z (no i d a)
  refine ⟨R.fg, R.fn, R.fh, R.keep, R.rg, R.rnd, R.rnew, R.clen, R.cell, by rw [mergeE_length, ← hl]; exact R0.slen, fun i v sl h1 h2 => ?_, fun i j a d e h1 h2 h3 h4 => ?_, fun q hq => ?_⟩
  · rcases mergeE_get hl _ _ _ h2 with ⟨a, b⟩ | ⟨a, b⟩
    · rw [← wipe_get a] at h1; exact R.slot i v sl h1 b
    · cases R0.slot i v sl h1 b with
      | non => exact .non
      | fro e q => exact .fro e (q.mono s p)
      | own => exact absurd b (no i _ a)
  · obtain ⟨a1, b1⟩ := own_ h1
    obtain ⟨a2, b2⟩ := own_ h2
    rw [← wipe_get a1] at h3
    rw [← wipe_get a2] at h4
    exact R.apart i j a d e b1 b2 h3 h4
  · obtain ⟨h1, h2, h3, h4⟩ := R.exo q hq
    refine ⟨h1, h2, h3, fun i d hd => ?_⟩
    obtain ⟨a1, b1⟩ := own_ hd
    rw [← wipe_get a1]
    exact h4 i d b1
theorem slot_gh {T : Tx} {g g' : Gh} {F : Hp} {ρ : List Addr} {H : Hp} {v : Option V} {s : Sl} (e : g'.H = g.H) (h : SlotOk T g F ρ H v s) : SlotOk T g' F ρ H v s := by
  cases h with
  | non => exact .non
  | fro a b => exact .fro a b
  | own a b c d f => exact .own a b c (by rw [e]; exact d) f
/-- a new object is held -/
def Gh.hold (g : Gh) (a : Addr) (o : HO) (h1 : g.H a = none) (h2 : a ∉ g.ex.map (·.1)) : Gh := ⟨g.F, g.ρ, g.H, (a, o) :: g.ex, fun p hp => by
  rcases List.mem_cons.mp hp with rfl | hp
  · exact h1
  · exact g.exg p hp, List.nodup_cons.mpr ⟨h2, g.exn⟩⟩
theorem SR.hold (R : SR T g S F ρ σ H) {a : Addr} (o : HO) (ha : H a = none) : ∃ (h1 : g.H a = none) (h2 : a ∉ g.ex.map (·.1)), SR T (g.hold a o h1 h2) S F ρ σ (upd H a o) := by
  obtain ⟨hg, hr, hf⟩ := R.new_g ha
  have hx : a ∉ g.ex.map (·.1) := fun z => by
    obtain ⟨p, hp, e⟩ := List.mem_map.mp z
    obtain ⟨h1, _⟩ := R.exo p hp
    rw [e, ha] at h1; cases h1
  have L := R.lay (o := o) ha
  have N := R.lay_fresh (o := o) (d := .non) ha
  refine ⟨hg, hx, ⟨L.fg, L.fn, L.fh, L.keep, L.rg, L.rnd, L.rnew, L.clen, L.cell, L.slen, fun i v sl b1 b2 => slot_gh (g := g) (g' := g.hold a o hg hx) rfl (L.slot i v sl b1 b2), L.apart, fun q hq => ?_⟩⟩
  rcases List.mem_cons.mp hq with rfl | hq
  · refine ⟨upd_same, hf, hr, fun i d hd z => ?_⟩
    cases R.slot i _ _ z hd with
    | own ev q _ _ _ =>
      cases ev
      obtain ⟨u, e⟩ := q.there
      rw [ha] at e; cases e
  · exact L.exo q hq
theorem SR.hold_set {a : Addr} {o o' : HO} {h1 : g.H a = none} {h2 : a ∉ g.ex.map (·.1)} (R : SR T (g.hold a o h1 h2) S F ρ σ H) : SR T (g.hold a o' h1 h2) S F ρ σ (upd H a o') := by
  obtain ⟨e1, e2, e3, e4⟩ := R.exo (a, o) List.mem_cons_self
  have hne : ∀ {b : Addr}, b ≠ a → upd H a o' b = H b := fun hb => upd_ne hb
  refine ⟨R.fg, R.fn, fun b u e => ?_, fun b u e n => ?_, R.rg, R.rnd, R.rnew, R.clen, fun k b c k1 k2 => ?_, R.slen, fun i v sl k1 k2 => ?_, R.apart, fun q hq => ?_⟩
  · rw [hne (fun z => by rw [z, e2] at e; cases e)]; exact R.fh b u e
  · have e' : g.H b = some u := e
    rw [hne (fun z => by rw [z, h1] at e'; cases e')]; exact R.keep b u e n
  · have hb : b ≠ a := fun z => e3 (z ▸ List.mem_of_getElem? k1)
    cases R.cell k b c k1 k2 with
    | live q f => exact .live (q.mono Sub.refl (List.prefix_refl _) fun u e => by rw [hne hb]; exact e) f
    | frz q t => obtain ⟨u, t⟩ := t; exact .frz q ⟨u, by rw [hne hb]; exact t⟩
  · cases R.slot i v sl k1 k2 with
    | non => exact .non
    | fro e q => exact .fro e q
    | @own b e h3 q f gh nr =>
      subst h3
      have hb : b ≠ a := fun z => by subst z; exact e4 i _ k2 k1
      exact .own rfl (q.mono Sub.refl (List.prefix_refl _) fun u e => by rw [hne hb]; exact e) f gh nr
  · rcases List.mem_cons.mp hq with rfl | hq
    · exact ⟨upd_same, e2, e3, e4⟩
    · have hb : q.1 ≠ a := fun z => h2 (List.mem_map.mpr ⟨q, hq, z⟩)
      obtain ⟨k1, k2, k3, k4⟩ := R.exo q (List.mem_cons_of_mem _ hq)
      exact ⟨by rw [hne hb]; exact k1, k2, k3, k4⟩
theorem SR.held {a : Addr} {o : HO} {h1 : g.H a = none} {h2 : a ∉ g.ex.map (·.1)} (R : SR T (g.hold a o h1 h2) S F ρ σ H) : H a = some o ∧ SR T g S F ρ σ H ∧ ∀ d, Own T F ρ H a d → Fresh T g S F ρ σ H a d := by
  obtain ⟨e1, e2, e3, e4⟩ := R.exo (a, o) List.mem_cons_self
  refine ⟨e1, ⟨R.fg, R.fn, R.fh, R.keep, R.rg, R.rnd, R.rnew, R.clen, R.cell, R.slen, fun i v sl b1 b2 => slot_gh (g' := g) (g := g.hold a o h1 h2) rfl (R.slot i v sl b1 b2), R.apart, fun q hq => R.exo q (List.mem_cons_of_mem _ hq)⟩, fun d ow => ⟨ow, e2, h1, e3, e4, fun q hq z => h2 (List.mem_map.mpr ⟨q, hq, z⟩)⟩⟩
end

/-! ### a list comprehension -/
def lcGo (vs : List Nat) (g : GM) (t : TM) (e : EM) : List D → DS → List D → Option (List D × DS)
  | [], S, acc => some (acc, S)
  | d :: ds, S, acc => match g d ⟨wipeE S.env vs, S.store⟩ with
    | none => none
    | some S2 => match t S2 with
      | none => none
      | some (false, S3) => lcGo vs g t e ds S3 acc
      | some (true, S3) => match e S3 with
        | none => none
        | some (x, S4) => if isHnd x then none else if acc.length < 16777216 then lcGo vs g t e ds S4 (acc ++ [x]) else none
def noOwn (env : List Sl) (vs : List Nat) : Bool := vs.all fun v => match env[v]? with | some (.own _) => false | _ => true
def eLc (it : AM) (vs : List Nat) (g : GM) (t : TM) (e : EM) : EM := fun S => match it S with
  | none => none
  | some (ds, S1) => if noOwn S1.env vs then (match lcGo vs g t e ds S1 [] with
    | none => none
    | some (acc, S2) => some (.lst acc, ⟨mergeE S1.env (wipeE S2.env vs) vs, S2.store⟩)) else none
theorem noOwn_ok {env : List Sl} {vs : List Nat} (h : noOwn env vs = true) : ∀ i d, i ∈ vs → env[i]? ≠ some (.own d) := fun i d hi e => by
  have := List.all_eq_true.mp h i hi
  rw [e] at this
  cases this
def tY : TM := fun S => some (true, S)
/-- readings over some ghost -/
abbrev PTsD (X : Cx) (ifs : List Expr) (m : TM) : Prop := PTs X ifs (tT X m)
section
variable {X : Cx} {pos : Pos}
theorem ptsd_nil : PTsD X [] tY := by
  refine ⟨fun pins s σ H Q I h => pts_nil.run pins s σ H Q I ?_⟩
  obtain ⟨g, S, F, ρ, b, S', R, e, q⟩ := h
  cases e
  exact q F ρ H Sub.refl (List.prefix_refl _) R
theorem ptsd_one {c : Expr} {m : TM} (h : TD X c m) : PTsD X [c] m := pts_one h
theorem lc_imp {is vs : List Nat} {mi : AM} {mg' : GM} {mt : TM} {me : EM} (his : ∀ i ∈ is, i ∈ vs) : ∀ σ H Q, tO X (eLc mi vs mg' mt me) σ H Q → tLc (tI X mi) (tG X is mg') (tT X mt) (tE X me) vs σ H Q := by
  rintro σ H Q ⟨g, S, F, ρ, d, S', R, e, q⟩
  unfold eLc at e
  split at e
  · cases e
  · rename_i ds S1 h1
    split at e
    · rename_i hno
      split at e
      · cases e
      · rename_i acc S2 h2
        cases e
        have no := noOwn_ok hno
        refine ⟨g, S, F, ρ, ds, S1, R, h1, fun J F1 ρ1 H1 s1 p1 R1 Y D0 hD => ?_⟩
        obtain ⟨k1, k2, _⟩ := R1.hold (.lst []) hD
        refine ⟨fun i m H2 => m = ds.length - i ∧ i ≤ ds.length ∧ ∃ S3 σ3 F3 ρ3 a xs, Sub F1 F3 ∧ ρ1 <+: ρ3 ∧ SR (tx X) (g.hold D0 (.lst xs) k1 k2) S3 F3 ρ3 σ3 H2 ∧ L2.wipe σ3 vs = L2.wipe σ vs ∧ Reps (tx X) F3 ρ3 xs a ∧ lcGo vs mg' mt me (ds.drop i) S3 a = some (acc, S2), ⟨_, rfl, Nat.zero_le _, S1, σ, F1, ρ1, [], [], Sub.refl, List.prefix_refl _, (R1.hold (.lst []) hD).2.2, rfl, .nil, h2⟩, ?_⟩
        rintro i m H2 ⟨rfl, hle, S3, σ3, F3, ρ3, a, xs, s3, p3, R3, hw3, ra, e3⟩
        obtain ⟨yg, ys⟩ := Y _ S3 F3 ρ3 σ3 H2 s3 p3 R3
        by_cases hlt : i < ds.length
        · obtain ⟨hgo, hy⟩ := yg i ds[i] (List.getElem?_eq_getElem hlt)
          rw [List.drop_eq_getElem_cons hlt] at e3
          unfold lcGo at e3
          refine .inr ⟨hgo, fun H3 => ∃ S4 σ4 F4 ρ4 a xs, Sub F1 F4 ∧ ρ1 <+: ρ4 ∧ SR (tx X) (g.hold D0 (.lst xs) k1 k2) S4 F4 ρ4 σ4 H3 ∧ L2.wipe σ4 vs = L2.wipe σ vs ∧ Reps (tx X) F4 ρ4 xs a ∧ lcGo vs mg' mt me (ds.drop (i + 1)) S4 a = some (acc, S2), fun H3 h3 => ⟨ds.length - (i + 1), by omega, rfl, hlt, h3⟩, fun x H3 y => ?_⟩
          obtain ⟨F4, s4, R4, rx⟩ := hy x H3 y
          have Rw := R4.wipe hw3
          split at e3
          · cases e3
          · rename_i T2 e4
            refine ⟨_, _, F4, ρ3, _, T2, Rw, rx, e4, fun F5 ρ5 σ5 H5 s5 p5 o5 R5 => ?_⟩
            have hw5 := wipe_off o5 his
            refine ⟨hw5, ?_⟩
            have s35 := (s3.trans s4).trans s5
            have p35 := p3.trans p5
            split at e3
            · cases e3
            · rename_i T3 e5
              refine ⟨_, T2, F5, ρ5, false, T3, R5, e5, fun F6 ρ6 H6 s6 p6 R6 => ?_⟩
              dsimp only
              rw [if_neg Bool.false_ne_true]
              exact ⟨T3, σ5, F6, ρ6, a, xs, s35.trans s6, p35.trans p6, R6, hw5, ((ra.mono s4 (List.prefix_refl _)).mono s5 p5).mono s6 p6, e3⟩
            · rename_i T3 e5
              refine ⟨_, T2, F5, ρ5, true, T3, R5, e5, fun F6 ρ6 H6 s6 p6 R6 => ?_⟩
              dsimp only
              rw [if_pos rfl]
              split at e3
              · cases e3
              · rename_i z T4 e6
                refine ⟨_, T3, F6, ρ6, z, T4, R6, e6, fun v F7 ρ7 H7 s7 p7 R7 r7 => ?_⟩
                split at e3
                · cases e3
                · rename_i hh
                  split at e3
                  · rename_i hz
                    have ra7 := (((ra.mono s4 (List.prefix_refl _)).mono s5 p5).mono s6 p6).mono s7 p7
                    exact ⟨xs, R7.held.1, by rw [ra.length, sizeLine_eq]; exact hz, T4, σ5, F7, ρ7, a ++ [z], xs ++ [v], (s35.trans s6).trans s7, (p35.trans p6).trans p7, R7.hold_set, hw5, ra7.append (.cons (r7.rep (by simpa using hh)) .nil), e3⟩
                  · cases e3
        · have hi' : i = ds.length := by omega
          subst hi'
          rw [List.drop_length] at e3
          cases e3
          refine .inl ⟨ys, ?_⟩
          have Rw := R3.wipe hw3
          have R4 := R1.unwipe no s3 p3 Rw
          obtain ⟨z1, z2, z3⟩ := R4.held
          exact q D0 F3 ρ3 H2 (s1.trans s3) (p1.trans p3) z2 (z3 _ (.lst z1 ra))
    · cases e
theorem od_lc {elt tg iter : Expr} {ifs : List Expr} {scope : Scope} {own : List (Str × Nat)} {is : List Nat} {mi : AM} {mg' : GM} {mt : TM} {me : EM} (hc : X.calm = true) (hN : X.N.Nodup) (hi : ID X tg iter mi) (ok : BlkOk X.N X.env.scope scope own) (his : ∀ i ∈ is, i ∈ own.map (·.2))
    (hg : ∀ (s : Shared) (H : Hp) (C : Addr) (cl : List (Str × Addr)) (fp : List Addr), GD (X.blk s H scope (compEnvC scope cl C X.env) fp) tg is mg') (ht : ∀ (s : Shared) (H : Hp) (C : Addr) (cl : List (Str × Addr)) (fp : List Addr), PTsD (X.blk s H scope (compEnvC scope cl C X.env) fp) ifs mt)
    (he : ∀ (s : Shared) (H : Hp) (C : Addr) (cl : List (Str × Addr)) (fp : List Addr), ED (X.blk s H scope (compEnvC scope cl C X.env) fp) elt me) (hs : ∀ x, foldedSetIterable iter X.env x = pure x := by intro _; rfl) :
    OD X (.ListComp elt [⟨tg, iter, ifs, 0⟩] scope pos) (eLc mi (own.map (·.2)) mg' mt me) := by
  exact PE_imp (pe_lc (wi := tI X mi) (g := tG X is mg') (tt := tT X mt) (te := tE X me) hc hN hi ok hg ht he hs) (lc_imp his)
/-- a fresh list, frozen -/
theorem fresh_lst {g : Gh} {S : DS} {F : Hp} {ρ : List Addr} {σ : L2.St} {H : Hp} {a : Addr} {ds : List D} (R : SR (tx X) g S F ρ σ H) (fr : Fresh (tx X) g S F ρ σ H a (.lst ds)) : ∃ F', Sub F F' ∧ SR (tx X) g S F' ρ σ H ∧ Rep (tx X) F' ρ (.ref a) (.lst ds) := by
  obtain ⟨ow, _, _, _, _, _⟩ := id fr
  cases ow with
  | @lst xs _ h rs =>
    have s : Sub F (upd F a (.lst xs)) := Sub.upd fr.nf
    exact ⟨_, s, R.fix fr (fun _ _ => rfl) h, .lst upd_same (rs.mono s (List.prefix_refl _))⟩
theorem eLc_lst {it : AM} {vs : List Nat} {g : GM} {t : TM} {e : EM} {S : DS} {d : D} {S' : DS} (h : eLc it vs g t e S = some (d, S')) : ∃ ds, d = .lst ds := by
  unfold eLc at h
  split at h
  · cases h
  · split at h
    · split at h
      · cases h
      · cases h; exact ⟨_, rfl⟩
    · cases h
theorem lc_impE {is vs : List Nat} {mi : AM} {mg' : GM} {mt : TM} {me : EM} (his : ∀ i ∈ is, i ∈ vs) : ∀ σ H Q, tE X (eLc mi vs mg' mt me) σ H Q → tLc (tI X mi) (tG X is mg') (tT X mt) (tE X me) vs σ H Q := by
  rintro σ H Q ⟨g, S, F, ρ, d, S', R, e, q⟩
  obtain ⟨ds, rfl⟩ := eLc_lst e
  refine lc_imp his σ H Q ⟨g, S, F, ρ, _, S', R, e, fun a F1 ρ1 H1 s1 p1 R1 fr => ?_⟩
  obtain ⟨F2, s2, R2, r2⟩ := fresh_lst R1 fr
  exact q _ F2 ρ1 H1 (s1.trans s2) p1 R2 (.inl r2)
theorem sd_setLc {y : Str} {py : Pos} {elt tg iter : Expr} {ifs : List Expr} {scope : Scope} {own : List (Str × Nat)} {is : List Nat} {mi : AM} {mg' : GM} {mt : TM} {me : EM} {spos : Pos} (i : Nat) (hc : X.calm = true) (hN : X.N.Nodup) (hy : X.N[i]? = some y) (hyl : X.env.scope.names.lookup y = some .local)
    (hsw : swapsWith (.ListComp elt [⟨tg, iter, ifs, 0⟩] scope pos) (some (.Name y py)) spos.line X.env = pure true) (hi : ID X tg iter mi) (ok : BlkOk X.N X.env.scope scope own) (his : ∀ i ∈ is, i ∈ own.map (·.2))
    (hg : ∀ (s : Shared) (H : Hp) (C : Addr) (cl : List (Str × Addr)) (fp : List Addr), GD (X.blk s H scope (compEnvC scope cl C X.env) fp) tg is mg') (ht : ∀ (s : Shared) (H : Hp) (C : Addr) (cl : List (Str × Addr)) (fp : List Addr), PTsD (X.blk s H scope (compEnvC scope cl C X.env) fp) ifs mt)
    (he : ∀ (s : Shared) (H : Hp) (C : Addr) (cl : List (Str × Addr)) (fp : List Addr), ED (X.blk s H scope (compEnvC scope cl C X.env) fp) elt me) (hs : ∀ x, foldedSetIterable iter X.env x = pure x := by intro _; rfl) :
    SD X (.Assign [.Name y py] (.ListComp elt [⟨tg, iter, ifs, 0⟩] scope pos) spos) (sSet i (eLc mi (own.map (·.2)) mg' mt me)) := by
  refine PS_imp (ps_setLc (wi := tI X mi) (g := tG X is mg') (tt := tT X mt) (te := tE X me) hc hN hy hyl hsw hi ok hg ht he hs) ?_
  rintro σ H D ⟨g, S, F, ρ, fl, S', R, e, q⟩
  unfold sSet at e
  split at e
  · rename_i d S1 h1
    split at e
    · cases e
    · rename_i hn
      cases e
      exact lc_impE his σ H _ ⟨g, S, F, ρ, d, S1, R, h1, fun v F' ρ' H' s p R' r => q F' ρ' _ H' s p (R'.set_fro (r.rep (by simpa using hn)))⟩
  · cases e
theorem sd_ownLc {y : Str} {py : Pos} {elt tg iter : Expr} {ifs : List Expr} {scope : Scope} {own : List (Str × Nat)} {is : List Nat} {mi : AM} {mg' : GM} {mt : TM} {me : EM} {spos : Pos} (i : Nat) (hc : X.calm = true) (hN : X.N.Nodup) (hy : X.N[i]? = some y) (hyl : X.env.scope.names.lookup y = some .local)
    (hsw : swapsWith (.ListComp elt [⟨tg, iter, ifs, 0⟩] scope pos) (some (.Name y py)) spos.line X.env = pure true) (hi : ID X tg iter mi) (ok : BlkOk X.N X.env.scope scope own) (his : ∀ i ∈ is, i ∈ own.map (·.2))
    (hg : ∀ (s : Shared) (H : Hp) (C : Addr) (cl : List (Str × Addr)) (fp : List Addr), GD (X.blk s H scope (compEnvC scope cl C X.env) fp) tg is mg') (ht : ∀ (s : Shared) (H : Hp) (C : Addr) (cl : List (Str × Addr)) (fp : List Addr), PTsD (X.blk s H scope (compEnvC scope cl C X.env) fp) ifs mt)
    (he : ∀ (s : Shared) (H : Hp) (C : Addr) (cl : List (Str × Addr)) (fp : List Addr), ED (X.blk s H scope (compEnvC scope cl C X.env) fp) elt me) (hs : ∀ x, foldedSetIterable iter X.env x = pure x := by intro _; rfl) :
    SD X (.Assign [.Name y py] (.ListComp elt [⟨tg, iter, ifs, 0⟩] scope pos) spos) (sOwn i (eLc mi (own.map (·.2)) mg' mt me)) := by
  refine PS_imp (ps_setLc (wi := tI X mi) (g := tG X is mg') (tt := tT X mt) (te := tE X me) hc hN hy hyl hsw hi ok hg ht he hs) ?_
  rintro σ H D ⟨g, S, F, ρ, fl, S', R, e, q⟩
  unfold sOwn at e
  split at e
  · rename_i d S1 h1
    cases e
    exact lc_imp his σ H _ ⟨g, S, F, ρ, d, S1, R, h1, fun a F' ρ' H' s p R' fr => q F' ρ' _ H' s p (R'.set_own fr)⟩
  · cases e
end
end DL

set_option Elab.async false
set_option linter.all false
set_option maxRecDepth 100000
set_option maxHeartbeats 1000000
namespace DL
open PySem PySem.Spec PyProof.Rows L2

/-! ### == of data -/
mutual
def pd : D → PyData
  | .non => .none | .bl b => .bool b | .int i => .int i | .str s => .str s
  | .tup ds => .tuple (pds ds) | .lst ds => .list (pds ds)
  | .zst _ => .none | .dS _ _ => .none | .dT _ _ => .none | .obj _ _ _ => .none | .ref _ => .none | .hnd _ => .none | .exc _ _ _ _ _ _ => .none
def pds : List D → List PyData
  | [] => []
  | d :: ds => pd d :: pds ds
end
/-- data of at most n levels -/
def isPd : Nat → D → Bool
  | _, .non => true | _, .bl _ => true | _, .int _ => true | _, .str s => PyData.strOk s
  | n + 1, .tup ds => ds.all (isPd n)
  | n + 1, .lst ds => ds.all (isPd n)
  | _, _ => false
mutual
theorem isPd_lay : ∀ (d : D) (n : Nat), isPd n d = true → (pd d).canLay0 = true ∧ (pd d).depth ≤ n
  | .non, n, _ => by simp [pd, PyData.canLay0, PyData.depth]
  | .bl _, n, _ => by simp [pd, PyData.canLay0, PyData.depth]
  | .int _, n, _ => by simp [pd, PyData.canLay0, PyData.depth]
  | .str s, n, h => by
    have h' : PyData.strOk s = true := by cases n <;> exact h
    simp [pd, PyData.canLay0, PyData.depth, h']
  | .tup ds, 0, h => by simp [isPd] at h
  | .tup ds, n + 1, h => by
    have q := isPd_layAll ds n (by simpa [isPd] using h)
    simp only [pd, PyData.canLay0, PyData.depth]
    exact ⟨q.1, by omega⟩
  | .lst ds, 0, h => by simp [isPd] at h
  | .lst ds, n + 1, h => by
    have q := isPd_layAll ds n (by simpa [isPd] using h)
    simp only [pd, PyData.canLay0, PyData.depth]
    exact ⟨q.1, by omega⟩
  | .zst _, n, h => by cases n <;> simp [isPd] at h
  | .dS _ _, n, h => by cases n <;> simp [isPd] at h
  | .dT _ _, n, h => by cases n <;> simp [isPd] at h
  | .obj _ _ _, n, h => by cases n <;> simp [isPd] at h
  | .ref _, n, h => by cases n <;> simp [isPd] at h
  | .hnd _, n, h => by cases n <;> simp [isPd] at h
  | .exc _ _ _ _ _ _, n, h => by cases n <;> simp [isPd] at h
theorem isPd_layAll : ∀ (ds : List D) (n : Nat), (∀ d ∈ ds, isPd n d = true) → PyData.canLayAll0 (pds ds) = true ∧ PyData.depthAll (pds ds) ≤ n
  | [], n, _ => by simp [pds, PyData.canLayAll0, PyData.depthAll]
  | d :: ds, n, h => by
    have q1 := isPd_lay d n (h d (by simp))
    have q2 := isPd_layAll ds n fun e he => h e (by simp [he])
    simp only [pds, PyData.canLayAll0, PyData.depthAll]
    exact ⟨by rw [q1.1, q2.1]; rfl, by omega⟩
end
theorem isPd_shaped {d : D} {n : Nat} (h : isPd n d = true) (hn : n ≤ 64) : SeqAt.shaped (pd d) = true := by
  obtain ⟨h1, h2⟩ := isPd_lay d n h
  show ((pd d).canLay0 && decide ((pd d).depth ≤ 64)) = true
  rw [h1, decide_eq_true (show (pd d).depth ≤ 64 by omega)]
  rfl
section
variable {T : Tx} {F H : Hp} {ρ : List Addr}
mutual
theorem Rep.dp (fh : Sub F H) : ∀ {v : V} {d : D} (n : Nat), Rep T F ρ v d → isPd n d = true → Dp T.K H v (pd d)
  | _, _, _, .non, _ => by rw [pd]; exact .non
  | _, _, _, .bl b, _ => by rw [pd]; exact .bl b
  | _, _, _, .int i, _ => by rw [pd]; exact .int i
  | _, _, _, .str s, _ => by rw [pd]; exact .str s
  | _, _, 0, .tup h r, e => by simp [isPd] at e
  | _, _, n + 1, .tup h r, e => by rw [pd]; exact .tup (SqT_sub fh h) (Reps.dp fh n r (by simpa [isPd] using e))
  | _, _, 0, .lst h r, e => by simp [isPd] at e
  | _, _, n + 1, .lst h r, e => by rw [pd]; exact .lst (SqL.of (fh _ _ h)) (Reps.dp fh n r (by simpa [isPd] using e))
  | _, _, n, .zst h r, e => by cases n <;> simp [isPd] at e
  | _, _, n, .dS h l r, e => by cases n <;> simp [isPd] at e
  | _, _, n, .exc m h l r, e => by cases n <;> simp [isPd] at e
  | _, _, n, .dT _ _ _ _ _, e => by cases n <;> simp [isPd] at e
  | _, _, n, .obj m h l r, e => by cases n <;> simp [isPd] at e
  | _, _, n, .ref h, e => by cases n <;> simp [isPd] at e
theorem Reps.dp (fh : Sub F H) : ∀ {vs : List V} {ds : List D} (n : Nat), Reps T F ρ vs ds → (∀ d ∈ ds, isPd n d = true) → DpAll T.K H vs (pds ds)
  | _, _, _, .nil, _ => .nil
  | _, _, n, .cons a b, h => .cons (a.dp fh n (h _ (by simp))) (b.dp fh n fun d hd => h d (by simp [hd]))
end
end
/-- the data that a value is now -/
def dataOf (S : DS) (x : D) : Option D := match deref S x with
  | some d => if isPd 32 d then some d else none
  | none => none
def fEq (S : DS) (x y : D) : Option D := match dataOf S x, dataOf S y with
  | some a, some b => some (.bl (PyData.eqv (pd a) (pd b)))
  | _, _ => none
def fNe (S : DS) (x y : D) : Option D := match dataOf S x, dataOf S y with
  | some a, some b => some (.bl (!PyData.eqv (pd a) (pd b)))
  | _, _ => none
section
variable {X : Cx} {pos : Pos}
theorem dataOf_ok {g : Gh} {S : DS} {F : Hp} {ρ : List Addr} {σ : L2.St} {H : Hp} {v : V} {x d : D} (R : SR (tx X) g S F ρ σ H) (r : RepX (tx X) F ρ σ v x) (e : dataOf S x = some d) : Dp X.K H v (pd d) ∧ SeqAt.shaped (pd d) = true := by
  unfold dataOf at e
  split at e
  · rename_i c hc
    split at e
    · rename_i hp
      cases e
      refine ⟨?_, isPd_shaped hp (by decide)⟩
      rcases deref_ok R r hc with q | ⟨a, rfl, q⟩
      · exact q.dp R.fh 32 hp
      · cases q with
        | lst h rs => rw [pd]; exact .lst (SqL.of h) (rs.dp R.fh 31 (by simpa [isPd] using hp))
        | dS => simp [isPd] at hp
        | dT => simp [isPd] at hp
        | obj => simp [isPd] at hp
    · cases e
  · cases e
theorem op2_eq : Op2 X fEq (rEqD X.K) := by
  intro g S F ρ σ H v u x y d Q R r1 r2 e q
  unfold fEq at e
  split at e
  · rename_i a b ha hb
    cases e
    obtain ⟨d1, s1⟩ := dataOf_ok R r1 ha
    obtain ⟨d2, s2⟩ := dataOf_ok R r2 hb
    exact ⟨_, _, d1, d2, s1, s2, q _ F ρ H Sub.refl (List.prefix_refl _) R (.inl (.bl _))⟩
  · cases e
theorem op2_ne : Op2 X fNe (rNeD X.K) := by
  intro g S F ρ σ H v u x y d Q R r1 r2 e q
  unfold fNe at e
  split at e
  · rename_i a b ha hb
    cases e
    obtain ⟨d1, s1⟩ := dataOf_ok R r1 ha
    obtain ⟨d2, s2⟩ := dataOf_ok R r2 hb
    exact ⟨_, _, d1, d2, s1, s2, q _ F ρ H Sub.refl (List.prefix_refl _) R (.inl (.bl _))⟩
  · cases e

/-! ### in, not in -/
def inD (S : DS) (x y : D) : Option Bool := match deref S y with
  | some (.lst ds) => (match dataOf S x with | some a => if ds.all (isPd 31) then some (ds.any fun z => PyData.eqv (pd z) (pd a)) else none | none => none)
  | some (.tup ds) => (match dataOf S x with | some a => if ds.all (isPd 31) then some (ds.any fun z => PyData.eqv (pd z) (pd a)) else none | none => none)
  | some (.str z) => (match x with | .str ⟨⟨[c]⟩⟩ => some (decide (c ∈ z.cps.toList)) | _ => none)
  | some (.dS ns ds) => (match x with | .str s => some (lookD ns ds s).isSome | _ => none)
  | _ => none
def fIn (S : DS) (x y : D) : Option D := (inD S x y).map .bl
def fNotIn (S : DS) (x y : D) : Option D := (inD S x y).map fun b => .bl (!b)
def rInA (X : Cx) (neg : Bool) : R2 := fun x y H Q => (∃ d ds, Dp X.K H x d ∧ (Dp X.K H y (.list ds) ∨ Dp X.K H y (.tuple ds)) ∧ SeqAt.shaped d = true ∧ PyData.canLayAll0 ds = true ∧ Q (.bl (if neg then !ds.any (fun z => PyData.eqv z d) else ds.any fun z => PyData.eqv z d)) H) ∨
  (∃ (c : Nat) (z : Str), x = .str ⟨#[c]⟩ ∧ y = .str z ∧ Q (.bl (if neg then !decide (c ∈ z.cps.toList) else decide (c ∈ z.cps.toList))) H) ∨
  ∃ a o, y = .ref a ∧ DGet H a x o ∧ Q (.bl (if neg then !o.isSome else o.isSome)) H
theorem op_inA (hu : X.A.units + 65 < cLine) : OpR X (compareOp .In) (rInA X false) := by
  intro pins s σ H x y v u Q I rx ry h
  rcases h with ⟨d, ds, hd, he, sd, se, q⟩ | ⟨c, z, rfl, rfl, q⟩ | ⟨a, o, rfl, gt, q⟩
  · obtain ⟨as, r1⟩ := Dp.reads I d x v hd rx
    rcases he with he | he
    · obtain ⟨bs, r2⟩ := Dp.reads I (.list ds) y u he ry
      exact SeqAt.in_list_reads r2 r1 se (SeqAt.canLay_of_shaped sd) (room_in_shaped sd hu) ⟨.bl _, H, I, rfl, q⟩
    · obtain ⟨bs, r2⟩ := Dp.reads I (.tuple ds) y u he ry
      exact SeqAt.in_tuple_reads r2 r1 se (SeqAt.canLay_of_shaped sd) (room_in_shaped sd hu) ⟨.bl _, H, I, rfl, q⟩
  · exact op_in_sign pins s σ H _ _ v u Q I rx ry ⟨c, z, rfl, rfl, q⟩
  · cases ry
    exact d_in (by omega) I gt rx fun s' I' => ⟨.bl o.isSome, H, I', rfl, q⟩
theorem op_notInA (hu : X.A.units + 65 < cLine) : OpR X (compareOp .NotIn) (rInA X true) := by
  intro pins s σ H x y v u Q I rx ry h
  rcases h with ⟨d, ds, hd, he, sd, se, q⟩ | ⟨c, z, rfl, rfl, q⟩ | ⟨a, o, rfl, gt, q⟩
  · obtain ⟨as, r1⟩ := Dp.reads I d x v hd rx
    rcases he with he | he
    · obtain ⟨bs, r2⟩ := Dp.reads I (.list ds) y u he ry
      exact SeqAt.notIn_list_reads r2 r1 se (SeqAt.canLay_of_shaped sd) (room_in_shaped sd hu) ⟨.bl _, H, I, rfl, q⟩
    · obtain ⟨bs, r2⟩ := Dp.reads I (.tuple ds) y u he ry
      exact SeqAt.notIn_tuple_reads r2 r1 se (SeqAt.canLay_of_shaped sd) (room_in_shaped sd hu) ⟨.bl _, H, I, rfl, q⟩
  · exact op_notIn_sign pins s σ H _ _ v u Q I rx ry ⟨c, z, rfl, rfl, q⟩
  · cases ry
    exact d_notIn (by omega) I gt rx fun s' I' => ⟨.bl (!o.isSome), H, I', rfl, q⟩
theorem pds_any (ds : List D) (p : PyData → Bool) : (pds ds).any p = ds.any fun z => p (pd z) := by
  induction ds with
  | nil => rfl
  | cons d ds ih => simp [pds, ih]
theorem inD_run {g : Gh} {S : DS} {F : Hp} {ρ : List Addr} {σ : L2.St} {H : Hp} {v u : V} {x y : D} {b neg : Bool} {Q : VK} (R : SR (tx X) g S F ρ σ H) (r1 : RepX (tx X) F ρ σ v x) (r2 : RepX (tx X) F ρ σ u y) (e : inD S x y = some b) (q : Q (.bl (if neg then !b else b)) H) : rInA X neg v u H Q := by
  unfold inD at e
  split at e
  · rename_i ds hd
    split at e
    · rename_i a ha
      split at e
      · rename_i hp
        cases e
        obtain ⟨d1, s1⟩ := dataOf_ok R r1 ha
        obtain ⟨p, xs, rfl, h, rs⟩ := (deref_ok R r2 hd).lst R
        have hp' : ∀ d ∈ ds, isPd 31 d = true := by simpa using hp
        refine .inl ⟨_, pds ds, d1, .inl (.lst (SqL.of h) (rs.dp R.fh 31 hp')), s1, (isPd_layAll ds 31 hp').1, ?_⟩
        rw [pds_any]
        exact q
      · cases e
    · cases e
  · rename_i ds hd
    split at e
    · rename_i a ha
      split at e
      · rename_i hp
        cases e
        obtain ⟨d1, s1⟩ := dataOf_ok R r1 ha
        obtain ⟨p, xs, rfl, h, rs⟩ := (deref_ok R r2 hd).tup R
        have hp' : ∀ d ∈ ds, isPd 31 d = true := by simpa using hp
        refine .inl ⟨_, pds ds, d1, .inr (.tup h (rs.dp R.fh 31 hp')), s1, (isPd_layAll ds 31 hp').1, ?_⟩
        rw [pds_any]
        exact q
      · cases e
    · cases e
  · rename_i z hd
    split at e
    · rename_i c
      cases e
      cases repx_str r1
      cases (deref_ok R r2 hd).str
      exact .inr (.inl ⟨c, z, rfl, rfl, q⟩)
    · cases e
  · rename_i ns ds hd
    split at e
    · rename_i s
      cases e
      cases repx_str r1
      obtain ⟨a, vs, rfl, h, l, rs⟩ := (deref_ok R r2 hd).dS R
      have hv := valV_keysS l (by rw [← rs.length]; exact l) s
      refine .inr (.inr ⟨a, _, rfl, .inl ⟨_, .inr s, h, rfl, rfl⟩, ?_⟩)
      rw [hv]
      exact q
    · cases e
  · cases e
theorem op2_in : Op2 X fIn (rInA X false) := by
  intro g S F ρ σ H v u x y d Q R r1 r2 e q
  unfold fIn at e
  cases h : inD S x y with
  | none => rw [h] at e; cases e
  | some b =>
    rw [h] at e
    cases e
    exact inD_run R r1 r2 h (q _ F ρ H Sub.refl (List.prefix_refl _) R (.inl (.bl _)))
theorem op2_notIn : Op2 X fNotIn (rInA X true) := by
  intro g S F ρ σ H v u x y d Q R r1 r2 e q
  unfold fNotIn at e
  cases h : inD S x y with
  | none => rw [h] at e; cases e
  | some b =>
    rw [h] at e
    cases e
    exact inD_run (neg := true) R r1 r2 h (q _ F ρ H Sub.refl (List.prefix_refl _) R (.inl (.bl _)))

/-! ### is None -/
def fIsN (S : DS) (x : D) : Option D := match x with | .non => some (.bl true) | .hnd _ => none | _ => some (.bl false)
def fNotN (S : DS) (x : D) : Option D := match x with | .non => some (.bl false) | .hnd _ => none | _ => some (.bl true)
theorem rep_non {F : Hp} {ρ : List Addr} {v : V} {x : D} (r : Rep (tx X) F ρ v x) : decide (v = .non) = (match x with | .non => true | _ => false) := by
  cases r <;> rfl
theorem ed_isN {a : Expr} {ma : EM} {j : Nat} {p : Pos} (ha : ED X a ma) : ED X (.Compare a [.Is] [.Constant .none j p] pos) (e1 fIsN ma) := by
  refine PE_imp (pe_cmp (pc_isN ha)) ?_
  rintro σ H Q ⟨g, S, F, ρ, d, S', R, e, q⟩
  obtain ⟨x, h1, h2⟩ := e1_some e
  refine ⟨g, S, F, ρ, x, S', R, h1, fun v F1 ρ1 H1 s1 p1 R1 r1 => ?_⟩
  rcases r1 with r1 | ⟨i, rfl, _⟩
  · have hn := rep_non r1
    unfold fIsN at h2
    have q' := q (.bl (decide (v = .non))) F1 ρ1 H1 s1 p1 R1
    cases x <;> first | (cases h2; rw [hn] at q' ⊢; exact q' (.inl (.bl _))) | cases h2
  · cases h2
theorem ed_notN {a : Expr} {ma : EM} {j : Nat} {p : Pos} (ha : ED X a ma) : ED X (.Compare a [.IsNot] [.Constant .none j p] pos) (e1 fNotN ma) := by
  refine PE_imp (pe_cmp (pc_notN ha)) ?_
  rintro σ H Q ⟨g, S, F, ρ, d, S', R, e, q⟩
  obtain ⟨x, h1, h2⟩ := e1_some e
  refine ⟨g, S, F, ρ, x, S', R, h1, fun v F1 ρ1 H1 s1 p1 R1 r1 => ?_⟩
  rcases r1 with r1 | ⟨i, rfl, _⟩
  · have hn := rep_non r1
    unfold fNotN at h2
    have q' := q (.bl (!decide (v = .non))) F1 ρ1 H1 s1 p1 R1
    cases x <;> first | (cases h2; rw [hn] at q' ⊢; exact q' (.inl (.bl _))) | cases h2
  · cases h2
end
end DL

set_option Elab.async false
set_option linter.all false
set_option maxRecDepth 100000
set_option maxHeartbeats 1000000
namespace DL
open PySem PySem.Spec PyProof.Rows L2

/-! ### a <= b < c, of ints -/
def eCh (p p' : Int → Int → Bool) (a b c : EM) : EM := eB a fun x => eB b fun y => fun S => match x, y with
  | .int i, .int j => if p i j then (match c S with | some (.int k, S1) => some (.bl (p' j k), S1) | _ => none) else some (.bl false, S)
  | _, _ => none
section
variable {X : Cx} {pos : Pos}
theorem eCh_imp {p p' : Int → Int → Bool} {ma mb mc : EM} : ∀ σ H Q, tE X (eCh p p' ma mb mc) σ H Q → tChain (rI0 fun i j => .bl (p i j)) (rI0 fun i j => .bl (p' i j)) (tE X ma) (tE X mb) (tE X mc) σ H Q := by
  rintro σ H Q ⟨g, S, F, ρ, d, S', R, e, q⟩
  obtain ⟨x, S1, h1, e1⟩ := eB_some e
  clear e
  obtain ⟨y, S2, h2, e⟩ := eB_some e1
  clear e1
  refine ⟨g, S, F, ρ, x, S1, R, h1, fun v F1 ρ1 H1 s1 p1 R1 r1 => ⟨g, S1, F1, ρ1, y, S2, R1, h2, fun u F2 ρ2 H2 s2 p2 R2 r2 => ?_⟩⟩
  try dsimp only at e
  cases x <;> try cases e
  rename_i i
  cases y <;> try cases e
  rename_i j
  dsimp only at e
  focus
    cases repx_int r1
    cases repx_int r2
    refine ⟨i, j, rfl, rfl, p i j, rfl, ?_⟩
    split at e
    · rename_i hp
      rw [if_pos hp]
      split at e
      · rename_i k S3 h3
        cases e
        refine ⟨g, S2, F2, ρ2, _, S', R2, h3, fun w F3 ρ3 H3 s3 p3 R3 r3 => ?_⟩
        cases repx_int r3
        exact ⟨j, k, rfl, rfl, q _ F3 ρ3 H3 ((s1.trans s2).trans s3) ((p1.trans p2).trans p3) R3 (.inl (.bl _))⟩
      · cases e
    · rename_i hp
      rw [if_neg hp]
      cases e
      exact q _ F2 ρ2 H2 (s1.trans s2) (p1.trans p2) R2 (.inl (.bl _))
theorem ed_chain {op op' : CmpOp} {p p' : Int → Int → Bool} {a b c : Expr} {ma mb mc : EM} (ho : OpR X (compareOp op) (rI0 fun i j => .bl (p i j))) (ho' : OpR X (compareOp op') (rI0 fun i j => .bl (p' i j))) (ha : ED X a ma) (hb : ED X b mb) (hc : ED X c mc)
    (hm : lastMarks [op, op'] [b, c] = false := by with_unfolding_all rfl) : ED X (.Compare a [op, op'] [b, c] pos) (eCh p p' ma mb mc) := PE_imp (pe_chain ho ho' ha hb hc hm) eCh_imp
theorem td_chain {op op' : CmpOp} {p p' : Int → Int → Bool} {a b c : Expr} {ma mb mc : EM} (ho : OpR X (compareOp op) (rI0 fun i j => .bl (p i j))) (ho' : OpR X (compareOp op') (rI0 fun i j => .bl (p' i j))) (ha : ED X a ma) (hb : ED X b mb) (hc : ED X c mc)
    (hm : lastMarks [op, op'] [b, c] = false := by with_unfolding_all rfl) : TD X (.Compare a [op, op'] [b, c] pos) (tB2 (eCh p p' ma mb mc)) := PT_imp (pt_chain ho ho' ha hb hc hm) (tB2_imp eCh_imp)

/-! ### + of texts, lists, tuples; of ints too -/
def fAdd (S : DS) (x y : D) : Option D := match deref S x, deref S y with
  | some (.int i), some (.int j) => some (.int (i + j))
  | some (.str s), some (.str t) => if s.length + t.length ≤ 16777216 then some (.str (s ++ t)) else none
  | some (.tup s), some (.tup t) => if s.length + t.length ≤ 16777216 then some (.tup (s ++ t)) else none
  | some (.lst s), some (.lst t) => if s.length + t.length ≤ 16777216 then some (.lst (s ++ t)) else none
  | _, _ => none
def rAddA (X : Cx) : R2 := fun x y H Q => (rI0 (fun i j => .int (i + j)) x y H Q) ∨ (∃ i j, x = .str i ∧ y = .str j ∧ i.length + j.length ≤ sizeLine ∧ Q (.str (i ++ j)) H) ∨ rCatA X.K x y H Q ∨ rCat x y H Q
theorem op_addA : OpR X (binaryOp .Add) (rAddA X) := op_add.or (op_add_str.or (op_catA.or op_cat))
/-- + whose value is no list -/
theorem op2_add : Op2 X fAdd (rAddA X) := by
  intro g S F ρ σ H v u x y d Q R r1 r2 e q
  unfold fAdd at e
  split at e
  · rename_i i j h1 h2
    cases e
    cases (deref_ok R r1 h1).int
    cases (deref_ok R r2 h2).int
    exact .inl ⟨i, j, rfl, rfl, q _ F ρ H Sub.refl (List.prefix_refl _) R (.inl (.int _))⟩
  · rename_i s t h1 h2
    split at e
    · cases e
      cases (deref_ok R r1 h1).str
      cases (deref_ok R r2 h2).str
      exact .inr (.inl ⟨s, t, rfl, rfl, by rw [sizeLine_eq]; assumption, q _ F ρ H Sub.refl (List.prefix_refl _) R (.inl (.str _))⟩)
    · cases e
  · rename_i s t h1 h2
    split at e
    · rename_i hz
      cases e
      obtain ⟨a, xs, rfl, hx, rx⟩ := (deref_ok R r1 h1).tup R
      obtain ⟨b, ys, rfl, hy, ry⟩ := (deref_ok R r2 h2).tup R
      refine .inr (.inr (.inl ⟨a, b, xs, ys, rfl, rfl, hx, hy, by rw [rx.length, ry.length, sizeLine_eq]; exact hz, fun z => ?_, fun z1 z => ?_, fun z1 z2 p hp => ?_⟩))
      · subst z
        cases rx
        rcases deref_ok R r2 h2 with w | ⟨_, _, w⟩
        · exact q _ F ρ H Sub.refl (List.prefix_refl _) R (.inl w)
        · cases w
      · subst z
        cases ry
        rw [List.append_nil] at q
        rcases deref_ok R r1 h1 with w | ⟨_, _, w⟩
        · exact q _ F ρ H Sub.refl (List.prefix_refl _) R (.inl w)
        · cases w
      · have s2 := Sub.upd (o := HO.tup (xs ++ ys)) (R.new_g hp).2.2
        exact q _ _ ρ _ s2 (List.prefix_refl _) (R.alloc hp) (.inl (.tup (.inl (.inl upd_same)) ((rx.append ry).mono s2 (List.prefix_refl _))))
    · cases e
  · rename_i s t h1 h2
    split at e
    · rename_i hz
      cases e
      obtain ⟨a, xs, rfl, hx, rx⟩ := (deref_ok R r1 h1).lst R
      obtain ⟨b, ys, rfl, hy, ry⟩ := (deref_ok R r2 h2).lst R
      refine .inr (.inr (.inr ⟨a, b, xs, ys, rfl, rfl, hx, hy, by rw [rx.length, ry.length, sizeLine_eq]; exact hz, fun p hp => ?_⟩))
      have s2 := Sub.upd (o := HO.lst (xs ++ ys)) (R.new_g hp).2.2
      exact q _ _ ρ _ s2 (List.prefix_refl _) (R.alloc hp) (.inl (.lst upd_same ((rx.append ry).mono s2 (List.prefix_refl _))))
    · cases e
  · cases e
theorem ed_add {a b : Expr} {ma mb : EM} (ha : ED X a ma) (hb : ED X b mb) : ED X (.BinOp a .Add b pos) (e2 fAdd ma mb) := ed_bin op_addA op2_add ha hb
/-! + of lists: a fresh one -/
def fCat (S : DS) (x y : D) : Option D := match deref S x, deref S y with
  | some (.lst s), some (.lst t) => if s.length + t.length ≤ 16777216 then some (.lst (s ++ t)) else none
  | _, _ => none
theorem od_cat {a b : Expr} {ma mb : EM} (ha : ED X a ma) (hb : ED X b mb) : OD X (.BinOp a .Add b pos) (e2 fCat ma mb) := by
  refine PE_imp (pe_op op_cat ha hb) ?_
  rintro σ H Q ⟨g, S, F, ρ, d, S', R, e, q⟩
  obtain ⟨x, S1, y, e1, e2, e3⟩ := e2_some e
  refine ⟨g, S, F, ρ, x, S1, R, e1, fun v F1 ρ1 H1 s1 p1 R1 r1 => ⟨g, S1, F1, ρ1, y, S', R1, e2, fun u F2 ρ2 H2 s2 p2 R2 r2 => ?_⟩⟩
  unfold fCat at e3
  split at e3
  · rename_i s t h1 h2
    split at e3
    · rename_i hz
      cases e3
      obtain ⟨a, xs, rfl, hx, rx⟩ := (deref_ok R2 (r1.mono s2 p2) h1).lst R2
      obtain ⟨b, ys, rfl, hy, ry⟩ := (deref_ok R2 r2 h2).lst R2
      refine ⟨a, b, xs, ys, rfl, rfl, hx, hy, by rw [rx.length, ry.length, sizeLine_eq]; exact hz, fun p hp => ?_⟩
      exact q p F2 ρ2 _ (s1.trans s2) (p1.trans p2) (R2.lay hp) (R2.lay_fresh hp (.lst upd_same (rx.append ry)))
    · cases e3
  · cases e3

/-! ### int operators -/
abbrev oSub : DS → D → D → Option D := oI (fun _ _ => True) fun i j => i - j
def CMulD (i j : Int) : Prop := (-18446744073709551616 < i ∧ i < 18446744073709551616) ∨ (-18446744073709551616 < j ∧ j < 18446744073709551616)
instance (i j : Int) : Decidable (CMulD i j) := by unfold CMulD; infer_instance
abbrev oMul : DS → D → D → Option D := oI CMulD fun i j => i * j
def CDivD (i j : Int) : Prop := 0 < j ∧ j < 1073741824
instance (i j : Int) : Decidable (CDivD i j) := by unfold CDivD; infer_instance
abbrev oDiv : DS → D → D → Option D := oI CDivD fun i j => i / j
abbrev oMod : DS → D → D → Option D := oI (fun _ j => 0 < j) fun i j => i % j
def CPowD (i j : Int) : Prop := 0 ≤ j ∧ j ≤ 1000000 ∧ i.natAbs < 18446744073709551616
instance (i j : Int) : Decidable (CPowD i j) := by unfold CPowD; infer_instance
abbrev oPow : DS → D → D → Option D := oI CPowD fun i j => i ^ j.toNat
theorem ed_sub2 {a b : Expr} {ma mb : EM} (ha : ED X a ma) (hb : ED X b mb) : ED X (.BinOp a .Sub b pos) (e2 oSub ma mb) := ed_bin op_sub op2_I0 ha hb
theorem ed_mul {a b : Expr} {ma mb : EM} (ha : ED X a ma) (hb : ED X b mb) : ED X (.BinOp a .Mult b pos) (e2 oMul ma mb) := ed_bin (r := rI CMulD fun i j => .int (i * j)) (fun pins s σ H x y v u Q I rx ry h => op_mul pins s σ H x y v u Q I rx ry (by
  obtain ⟨i, j, rfl, rfl, hc, q⟩ := h
  exact ⟨i, j, rfl, rfl, (show CMul i j from by unfold CMulD at hc; unfold CMul; omega), q⟩)) op2_I ha hb
theorem ed_div {a b : Expr} {ma mb : EM} (ha : ED X a ma) (hb : ED X b mb) : ED X (.BinOp a .FloorDiv b pos) (e2 oDiv ma mb) := ed_bin (r := rI CDivD fun i j => .int (i / j)) (fun pins s σ H x y v u Q I rx ry h => op_fdiv pins s σ H x y v u Q I rx ry h) op2_I ha hb
theorem ed_mod {a b : Expr} {ma mb : EM} (ha : ED X a ma) (hb : ED X b mb) : ED X (.BinOp a .Mod b pos) (e2 oMod ma mb) := ed_bin op_mod op2_I ha hb
theorem ed_pow {a b : Expr} {ma mb : EM} (ha : ED X a ma) (hb : ED X b mb) : ED X (.BinOp a .Pow b pos) (e2 oPow ma mb) := ed_bin (r := rI CPowD fun i j => .int (i ^ j.toNat)) (fun pins s σ H x y v u Q I rx ry h => op_pow pins s σ H x y v u Q I rx ry (by
  obtain ⟨i, j, rfl, rfl, hc, q⟩ := h
  exact ⟨i, j, rfl, rfl, (show CPow i j from by unfold CPowD at hc; unfold CPow; omega), q⟩)) op2_I ha hb
def fNeg (_ : DS) (x : D) : Option D := match x with | .int i => some (.int (-i)) | _ => none
theorem ed_neg {a : Expr} {ma : EM} (ha : ED X a ma) : ED X (.UnaryOp .USub a pos) (e1 fNeg ma) := by
  refine PE_imp (pe_un un_neg ha) ?_
  rintro σ H Q ⟨g, S, F, ρ, d, S', R, e, q⟩
  obtain ⟨x, h1, h2⟩ := e1_some e
  refine ⟨g, S, F, ρ, x, S', R, h1, fun v F1 ρ1 H1 s1 p1 R1 r1 => ?_⟩
  unfold fNeg at h2
  split at h2
  · cases h2
    cases repx_int r1
    exact ⟨_, rfl, q _ F1 ρ1 H1 s1 p1 R1 (.inl (.int _))⟩
  · cases h2
abbrev oLt : DS → D → D → Option D := oIB fun i j => decide (i < j)
abbrev oLe : DS → D → D → Option D := oIB fun i j => decide (i ≤ j)
abbrev oGt : DS → D → D → Option D := oIB fun i j => decide (j < i)
abbrev oGe : DS → D → D → Option D := oIB fun i j => decide (j ≤ i)
theorem ed_lt {a b : Expr} {ma mb : EM} (ha : ED X a ma) (hb : ED X b mb) : ED X (.Compare a [.Lt] [b] pos) (e2 oLt ma mb) := ed_cmp op_lt op2_IB ha hb (nomark _)
theorem ed_le {a b : Expr} {ma mb : EM} (ha : ED X a ma) (hb : ED X b mb) : ED X (.Compare a [.LtE] [b] pos) (e2 oLe ma mb) := ed_cmp op_le op2_IB ha hb (nomark _)
theorem ed_gt {a b : Expr} {ma mb : EM} (ha : ED X a ma) (hb : ED X b mb) : ED X (.Compare a [.Gt] [b] pos) (e2 oGt ma mb) := ed_cmp op_gt op2_IB ha hb (nomark _)
theorem ed_ge {a b : Expr} {ma mb : EM} (ha : ED X a ma) (hb : ED X b mb) : ED X (.Compare a [.GtE] [b] pos) (e2 oGe ma mb) := ed_cmp op_ge op2_IB ha hb (nomark _)
theorem ed_eq {a b : Expr} {ma mb : EM} (hu : X.A.units + 64 < cLine) (ha : ED X a ma) (hb : ED X b mb) : ED X (.Compare a [.Eq] [b] pos) (e2 fEq ma mb) := ed_cmp (op_eqD hu) op2_eq ha hb (nomark _)
theorem ed_ne {a b : Expr} {ma mb : EM} (hu : X.A.units + 64 < cLine) (ha : ED X a ma) (hb : ED X b mb) : ED X (.Compare a [.NotEq] [b] pos) (e2 fNe ma mb) := ed_cmp (op_neD hu) op2_ne ha hb (nomark _)
theorem ed_in {a b : Expr} {ma mb : EM} (hu : X.A.units + 65 < cLine) (ha : ED X a ma) (hb : ED X b mb) (hm : behindInMarks .In b = false) : ED X (.Compare a [.In] [b] pos) (e2 fIn ma mb) := ed_cmp (op_inA hu) op2_in ha hb hm
theorem ed_notIn {a b : Expr} {ma mb : EM} (hu : X.A.units + 65 < cLine) (ha : ED X a ma) (hb : ED X b mb) (hm : behindInMarks .NotIn b = false) : ED X (.Compare a [.NotIn] [b] pos) (e2 fNotIn ma mb) := ed_cmp (op_notInA hu) op2_notIn ha hb hm
theorem td_lt {a b : Expr} {ma mb : EM} (ha : ED X a ma) (hb : ED X b mb) : TD X (.Compare a [.Lt] [b] pos) (tB2 (e2 oLt ma mb)) := td_cmp op_lt op2_IB ha hb (nomark _)
theorem td_le {a b : Expr} {ma mb : EM} (ha : ED X a ma) (hb : ED X b mb) : TD X (.Compare a [.LtE] [b] pos) (tB2 (e2 oLe ma mb)) := td_cmp op_le op2_IB ha hb (nomark _)
theorem td_gt {a b : Expr} {ma mb : EM} (ha : ED X a ma) (hb : ED X b mb) : TD X (.Compare a [.Gt] [b] pos) (tB2 (e2 oGt ma mb)) := td_cmp op_gt op2_IB ha hb (nomark _)
theorem td_ge {a b : Expr} {ma mb : EM} (ha : ED X a ma) (hb : ED X b mb) : TD X (.Compare a [.GtE] [b] pos) (tB2 (e2 oGe ma mb)) := td_cmp op_ge op2_IB ha hb (nomark _)
theorem td_eq {a b : Expr} {ma mb : EM} (hu : X.A.units + 64 < cLine) (ha : ED X a ma) (hb : ED X b mb) : TD X (.Compare a [.Eq] [b] pos) (tB2 (e2 fEq ma mb)) := td_cmp (op_eqD hu) op2_eq ha hb (nomark _)
theorem td_ne {a b : Expr} {ma mb : EM} (hu : X.A.units + 64 < cLine) (ha : ED X a ma) (hb : ED X b mb) : TD X (.Compare a [.NotEq] [b] pos) (tB2 (e2 fNe ma mb)) := td_cmp (op_neD hu) op2_ne ha hb (nomark _)
theorem td_in {a b : Expr} {ma mb : EM} (hu : X.A.units + 65 < cLine) (ha : ED X a ma) (hb : ED X b mb) (hm : behindInMarks .In b = false) : TD X (.Compare a [.In] [b] pos) (tB2 (e2 fIn ma mb)) := td_cmp (op_inA hu) op2_in ha hb hm
theorem td_notIn {a b : Expr} {ma mb : EM} (hu : X.A.units + 65 < cLine) (ha : ED X a ma) (hb : ED X b mb) (hm : behindInMarks .NotIn b = false) : TD X (.Compare a [.NotIn] [b] pos) (tB2 (e2 fNotIn ma mb)) := td_cmp (op_notInA hu) op2_notIn ha hb hm

/-! ### and, or, not as values -/
def eAnd (a b : EM) : EM := fun S => match a S with | some (.bl true, S1) => b S1 | some (.bl false, S1) => some (.bl false, S1) | _ => none
def eOr (a b : EM) : EM := fun S => match a S with | some (.bl false, S1) => b S1 | some (.bl true, S1) => some (.bl true, S1) | _ => none
def fNot (_ : DS) (x : D) : Option D := match x with | .bl b => some (.bl (!b)) | _ => none
variable {a b : Expr} {rest : List Expr} {ma mb : EM}
theorem ed_one {op : BoolOp} (h : ED X a ma) : ED X (.BoolOp op [a] pos) ma := pe_one h
theorem ed_and (ha : ED X a ma) (hb : ED X (.BoolOp .And (b :: rest) pos) mb) : ED X (.BoolOp .And (a :: b :: rest) pos) (eAnd ma mb) := by
  refine PE_imp (pe_and ha hb) ?_
  rintro σ H Q ⟨g, S, F, ρ, d, S', R, e, q⟩
  unfold eAnd at e
  split at e
  · rename_i S1 h1
    refine ⟨g, S, F, ρ, _, S1, R, h1, fun v F1 ρ1 H1 s1 p1 R1 r1 => ?_⟩
    cases repx_bl r1
    refine ⟨true, rfl, ?_⟩
    rw [if_pos rfl]
    exact ⟨g, S1, F1, ρ1, d, S', R1, e, fun v F2 ρ2 H2 s2 p2 R2 => q v F2 ρ2 H2 (s1.trans s2) (p1.trans p2) R2⟩
  · rename_i S1 h1
    cases e
    refine ⟨g, S, F, ρ, _, S', R, h1, fun v F1 ρ1 H1 s1 p1 R1 r1 => ?_⟩
    cases repx_bl r1
    refine ⟨false, rfl, ?_⟩
    rw [if_neg Bool.false_ne_true]
    exact q _ F1 ρ1 H1 s1 p1 R1 r1
  · cases e
theorem ed_or (ha : ED X a ma) (hb : ED X (.BoolOp .Or (b :: rest) pos) mb) : ED X (.BoolOp .Or (a :: b :: rest) pos) (eOr ma mb) := by
  refine PE_imp (pe_or ha hb) ?_
  rintro σ H Q ⟨g, S, F, ρ, d, S', R, e, q⟩
  unfold eOr at e
  split at e
  · rename_i S1 h1
    refine ⟨g, S, F, ρ, _, S1, R, h1, fun v F1 ρ1 H1 s1 p1 R1 r1 => ?_⟩
    cases repx_bl r1
    refine ⟨false, rfl, ?_⟩
    rw [if_neg Bool.false_ne_true]
    exact ⟨g, S1, F1, ρ1, d, S', R1, e, fun v F2 ρ2 H2 s2 p2 R2 => q v F2 ρ2 H2 (s1.trans s2) (p1.trans p2) R2⟩
  · rename_i S1 h1
    cases e
    refine ⟨g, S, F, ρ, _, S', R, h1, fun v F1 ρ1 H1 s1 p1 R1 r1 => ?_⟩
    cases repx_bl r1
    refine ⟨true, rfl, ?_⟩
    rw [if_pos rfl]
    exact q _ F1 ρ1 H1 s1 p1 R1 r1
  · cases e
theorem ed_not (ha : ED X a ma) : ED X (.UnaryOp .Not a pos) (e1 fNot ma) := by
  refine PE_imp (pe_not ha) ?_
  rintro σ H Q ⟨g, S, F, ρ, d, S', R, e, q⟩
  obtain ⟨x, h1, h2⟩ := e1_some e
  refine ⟨g, S, F, ρ, x, S', R, h1, fun v F1 ρ1 H1 s1 p1 R1 r1 => ?_⟩
  unfold fNot at h2
  split at h2
  · cases h2
    cases repx_bl r1
    exact ⟨_, rfl, q _ F1 ρ1 H1 s1 p1 R1 (.inl (.bl _))⟩
  · cases h2
/-! ### a value's truth -/
def truD (S : DS) (x : D) : Option Bool := match deref S x with
  | some .non => some false
  | some (.bl b) => some b
  | some (.int i) => some (i != 0)
  | some (.lst ds) => some (!ds.isEmpty)
  | some (.tup ds) => some (!ds.isEmpty)
  | _ => none
def tTru (m : EM) : TM := fun S => match m S with | some (x, S1) => (match truD S1 x with | some b => some (b, S1) | none => none) | none => none
theorem reps_empty {T : Tx} {F : Hp} {ρ : List Addr} {vs : List V} {ds : List D} (r : Reps T F ρ vs ds) : (!vs.isEmpty) = !ds.isEmpty := by cases r <;> rfl
theorem td_tru (ha : ED X a ma) (he : ∀ whole, isTrue a X.env whole = (do let v ← whole; standAt a.pos; holding [v] (truthy v)) := by intro _; rfl) : TD X a (tTru ma) := by
  refine PT_imp (pt_truth ha he) ?_
  rintro σ H Q ⟨g, S, F, ρ, b, S', R, e, q⟩
  unfold tTru at e
  split at e
  · rename_i x S1 h1
    split at e
    · rename_i b' h2
      cases e
      refine ⟨g, S, F, ρ, x, S', R, h1, fun v F1 ρ1 H1 s1 p1 R1 r1 => ?_⟩
      unfold truD at h2
      split at h2
      · rename_i hd
        cases h2
        rcases deref_ok R1 r1 hd with w | ⟨_, _, w⟩
        · cases w; exact ⟨false, rfl, q F1 ρ1 H1 s1 p1 R1⟩
        · cases w
      · rename_i b0 hd
        cases h2
        rcases deref_ok R1 r1 hd with w | ⟨_, _, w⟩
        · cases w; exact ⟨b, rfl, q F1 ρ1 H1 s1 p1 R1⟩
        · cases w
      · rename_i i hd
        cases h2
        cases (deref_ok R1 r1 hd).int
        exact ⟨_, rfl, q F1 ρ1 H1 s1 p1 R1⟩
      · rename_i ds hd
        cases h2
        obtain ⟨a, xs, rfl, h, rs⟩ := (deref_ok R1 r1 hd).lst R1
        exact ⟨_, .inl ⟨xs, SqL.of h, (reps_empty rs).symm⟩, q F1 ρ1 H1 s1 p1 R1⟩
      · rename_i ds hd
        cases h2
        obtain ⟨a, xs, rfl, h, rs⟩ := (deref_ok R1 r1 hd).tup R1
        exact ⟨_, .inr (.inl ⟨xs, h, (reps_empty rs).symm⟩), q F1 ρ1 H1 s1 p1 R1⟩
      · cases h2
    · cases e
  · cases e
end
end DL

set_option Elab.async false
set_option linter.all false
set_option maxRecDepth 100000
set_option maxHeartbeats 1000000
namespace DL
open PySem PySem.Spec PyProof.Rows L2

/-! ### "".join(xs) -/
def strsOf : List D → Option (List Str)
  | [] => some []
  | .str s :: r => match strsOf r with | some l => some (s :: l) | none => none
  | _ :: _ => none
def fJoin (S : DS) (x y : D) : Option D := match x, deref S y with
  | .str a, some (.lst ds) => (match strsOf ds with | some ys => if (ys.map (·.length)).sum + ys.length * a.length ≤ 16777216 then some (.str (Txt.join a ys)) else none | none => none)
  | .str a, some (.tup ds) => (match strsOf ds with | some ys => if (ys.map (·.length)).sum + ys.length * a.length ≤ 16777216 then some (.str (Txt.join a ys)) else none | none => none)
  | _, _ => none
theorem reps_strs {T : Tx} {F : Hp} {ρ : List Addr} : ∀ {vs : List V} {ds : List D} {ys : List Str}, Reps T F ρ vs ds → strsOf ds = some ys → vs = ys.map V.str
  | [], [], ys, _, h => by cases h; rfl
  | v :: vs, d :: ds, ys, .cons a b, h => by
    unfold strsOf at h
    split at h
    · rename_i z; cases z
    · rename_i s r z
      cases z
      split at h
      · rename_i l hl
        cases h
        cases a
        rw [reps_strs b hl]
        rfl
      · cases h
    · cases h
section
variable {X : Cx} {pos apos : Pos}
theorem ed_join {o e : Expr} {mo me : EM} (ho : ED X o mo) (he : ED X e me) (hs : starEach [e] X.env = [(false, eval e X.env)] := by rfl) (hbase : attributeBase o "join" X.env (eval o X.env) = eval o X.env := by rfl) (hline : (apos.endLine == pos.line) = true := by rfl) :
    ED X (.Call (.Attribute o "join" apos) [e] [] pos) (e2 fJoin mo me) := by
  refine PE_imp (pe_join ho he hs hbase hline) ?_
  rintro σ H Q ⟨g, S, F, ρ, d, S', R, e, q⟩
  obtain ⟨x, S1, y, h1, h2, h3⟩ := e2_some e
  unfold fJoin at h3
  split at h3
  · rename_i a ds hd
    split at h3
    · rename_i ys hy
      split at h3
      · rename_i hz
        cases h3
        refine ⟨g, S, F, ρ, _, S1, R, h1, fun v F1 ρ1 H1 s1 p1 R1 r1 => ?_⟩
        cases repx_str r1
        refine ⟨⟨_, rfl⟩, g, S1, F1, ρ1, y, S', R1, h2, fun u F2 ρ2 H2 s2 p2 R2 r2 => ?_⟩
        obtain ⟨p, xs, rfl, hl, rs⟩ := (deref_ok R2 r2 hd).lst R2
        have ex := reps_strs rs hy
        subst ex
        exact ⟨a, p, ys, rfl, rfl, .inl (SqL.of hl), hz, q _ F2 ρ2 H2 (s1.trans s2) (p1.trans p2) R2 (.inl (.str _))⟩
      · cases h3
    · cases h3
  · rename_i a ds hd
    split at h3
    · rename_i ys hy
      split at h3
      · rename_i hz
        cases h3
        refine ⟨g, S, F, ρ, _, S1, R, h1, fun v F1 ρ1 H1 s1 p1 R1 r1 => ?_⟩
        cases repx_str r1
        refine ⟨⟨_, rfl⟩, g, S1, F1, ρ1, y, S', R1, h2, fun u F2 ρ2 H2 s2 p2 R2 r2 => ?_⟩
        obtain ⟨p, xs, rfl, hl, rs⟩ := (deref_ok R2 r2 hd).tup R2
        have ex := reps_strs rs hy
        subst ex
        exact ⟨a, p, ys, rfl, rfl, .inr hl, hz, q _ F2 ρ2 H2 (s1.trans s2) (p1.trans p2) R2 (.inl (.str _))⟩
      · cases h3
    · cases h3
  · cases h3

/-! ### list(x): a new list -/
def fListOf (S : DS) (x : D) : Option D := match deref S x with
  | some (.lst ds) => some (.lst ds)
  | some (.zst ds) => some (.lst ds)
  | some (.tup ds) => some (.lst ds)
  | some (.dS ns _) => some (.lst (ns.map .str))
  | _ => none
def fTupOf (S : DS) (x : D) : Option D := match deref S x with
  | some (.lst ds) => some (.tup ds)
  | some (.zst ds) => some (.tup ds)
  | some (.tup ds) => some (.tup ds)
  | _ => none
def rListA (K : PySem.W.Frag) : List V → Hp → VK → Prop := fun xs H Q => (∃ p ys, xs = [.ref p] ∧ (SqL K H p ys ∨ SqT K H p ys) ∧ ∀ l, H l = none → Q (.ref l) (upd H l (.lst ys))) ∨
  ∃ (a : Addr) (kvs : List (Key × V)), xs = [.ref a] ∧ Rd H a (.dK kvs) ∧ ∀ p, H p = none → Q (.ref p) (upd H p (.lst (kvs.map fun kv => kV kv.1)))
theorem call_listA (hc : X.calm = true) : CallR X (.type "list") (rListA X.K) := by
  intro pins s σ H xs us Q I r h
  rcases h with h | h
  · exact call_list_of pins s σ H xs us Q I r h
  · exact call_listD hc pins s σ H xs us Q I r h
theorem reps_strmap {T : Tx} {F : Hp} {ρ : List Addr} : ∀ {ns : List Str} {vs : List V}, vs.length = ns.length → Reps T F ρ ((keysS ns vs).map fun kv => kV kv.1) (ns.map .str)
  | [], _, _ => by
    unfold keysS
    exact .nil
  | n :: ns, [], h => by cases h
  | n :: ns, v :: vs, h => by
    show Reps T F ρ (V.str n :: (keysS ns vs).map fun kv => kV kv.1) (D.str n :: ns.map .str)
    exact .cons (.str n) (reps_strmap (by simpa using h))
theorem od_list {x : Str} {p : Pos} {e : Expr} {m : AM} (hc : X.calm = true) (hg : Gl X x) (hm : X.mg x = none) (ha : AD X [e] m) (hv : bootBuiltins x = some (.type "list") := by decide +kernel)
    (hn : x ≠ "__name__" := by decide) (hdb : (x == ("__debug__" : Str)) = false := by decide) (he : starEach [e] X.env = (false, eval e X.env) :: starEach [] X.env := by rfl) : OD X (.Call (.Name x p) [e] [] pos) (aOne m fListOf) := by
  refine PE_imp (pe_callTy (call_listA hc) hg hm hv ha hn hdb he) ?_
  rintro σ H Q ⟨g, S, F, ρ, d, S', R, e, q⟩
  obtain ⟨x, h1, h2⟩ := aOne_some e
  refine ⟨g, S, F, ρ, [x], S', R, h1, fun vs F1 ρ1 H1 s1 p1 R1 r1 => ?_⟩
  cases r1 with
  | cons a b =>
    cases b
    have fin : ∀ {ys : List V} {ds : List D}, Reps (tx X) F1 ρ1 ys ds → d = .lst ds → ∀ l, H1 l = none → Q (.ref l) (upd H1 l (.lst ys)) := fun {ys ds} rs ed l hl => by
      subst ed
      exact q l F1 ρ1 _ s1 p1 (R1.lay hl) (R1.lay_fresh hl (.lst upd_same rs))
    unfold fListOf at h2
    split at h2
    · rename_i ds hd
      cases h2
      obtain ⟨p, xs, rfl, hl, rs⟩ := (deref_ok R1 a hd).lst R1
      exact .inl ⟨p, xs, rfl, .inl (SqL.of hl), fin rs rfl⟩
    · rename_i ds hd
      cases h2
      obtain ⟨p, xs, rfl, hl, rs⟩ := (deref_ok R1 a hd).zst R1
      exact .inl ⟨p, xs, rfl, .inl hl, fin rs rfl⟩
    · rename_i ds hd
      cases h2
      obtain ⟨p, xs, rfl, hl, rs⟩ := (deref_ok R1 a hd).tup R1
      exact .inl ⟨p, xs, rfl, .inr hl, fin rs rfl⟩
    · rename_i ns ds hd
      cases h2
      obtain ⟨p, vs, rfl, hl, l, rs⟩ := (deref_ok R1 a hd).dS R1
      exact .inr ⟨p, _, rfl, hl, fin (reps_strmap l) rfl⟩
    · cases h2
/-- list(x) in a suite that handles an error: no dict -/
theorem cl1_tuple : Cl1 X fTupOf (fun xs H Q => ∃ p ys, xs = [.ref p] ∧ ((SqL X.K H p ys ∧ ∀ l, H l = none → Q (.ref l) (upd H l (.tup ys))) ∨ (SqT X.K H p ys ∧ Q (.ref p) H))) := by
  intro g S F ρ σ H v x d Q R r e q
  have fin : ∀ {ys : List V} {ds : List D}, Reps (tx X) F ρ ys ds → d = .tup ds → ∀ l, H l = none → Q (.ref l) (upd H l (.tup ys)) := fun {ys ds} rs ed l hl => by
    subst ed
    have s2 := Sub.upd (o := HO.tup ys) (R.new_g hl).2.2
    exact q _ (upd F l (.tup ys)) ρ _ s2 (List.prefix_refl _) (R.alloc hl) (.inl (.tup (.inl (.inl upd_same)) (rs.mono s2 (List.prefix_refl _))))
  unfold fTupOf at e
  split at e
  · rename_i ds hd
    cases e
    obtain ⟨p, xs, rfl, hl, rs⟩ := (deref_ok R r hd).lst R
    exact ⟨p, xs, rfl, .inl ⟨SqL.of hl, fin rs rfl⟩⟩
  · rename_i ds hd
    cases e
    obtain ⟨p, xs, rfl, hl, rs⟩ := (deref_ok R r hd).zst R
    exact ⟨p, xs, rfl, .inl ⟨hl, fin rs rfl⟩⟩
  · rename_i ds hd
    cases e
    have V1 := deref_ok R r hd
    rcases V1 with V1 | ⟨_, _, V1⟩
    · cases V1 with
      | tup h rs => exact ⟨_, _, rfl, .inr ⟨SqT_sub R.fh h, q _ F ρ H Sub.refl (List.prefix_refl _) R (.inl (.tup h rs))⟩⟩
    · cases V1
  · cases e

/-! ### sum, any, all of a list -/
def intsOf : List D → Option (List Int)
  | [] => some []
  | .int s :: r => match intsOf r with | some l => some (s :: l) | none => none
  | _ :: _ => none
def blsOf : List D → Option (List Bool)
  | [] => some []
  | .bl s :: r => match blsOf r with | some l => some (s :: l) | none => none
  | _ :: _ => none
theorem reps_ints {T : Tx} {F : Hp} {ρ : List Addr} : ∀ {vs : List V} {ds : List D} {ys : List Int}, Reps T F ρ vs ds → intsOf ds = some ys → vs = ys.map V.int
  | [], [], ys, _, h => by cases h; rfl
  | v :: vs, d :: ds, ys, .cons a b, h => by
    unfold intsOf at h
    split at h
    · rename_i z; cases z
    · rename_i s r z
      cases z
      split at h
      · rename_i l hl
        cases h
        cases a
        rw [reps_ints b hl]
        rfl
      · cases h
    · cases h
theorem reps_bls {T : Tx} {F : Hp} {ρ : List Addr} : ∀ {vs : List V} {ds : List D} {ys : List Bool}, Reps T F ρ vs ds → blsOf ds = some ys → vs = ys.map V.bl
  | [], [], ys, _, h => by cases h; rfl
  | v :: vs, d :: ds, ys, .cons a b, h => by
    unfold blsOf at h
    split at h
    · rename_i z; cases z
    · rename_i s r z
      cases z
      split at h
      · rename_i l hl
        cases h
        cases a
        rw [reps_bls b hl]
        rfl
      · cases h
    · cases h
def fSum (S : DS) (x : D) : Option D := match deref S x with
  | some (.lst ds) => (match intsOf ds with | some l => some (.int l.sum) | none => none)
  | some (.zst ds) => (match intsOf ds with | some l => some (.int l.sum) | none => none)
  | _ => none
def fAny (S : DS) (x : D) : Option D := match deref S x with
  | some (.lst ds) => (match blsOf ds with | some l => some (.bl (l.any id)) | none => none)
  | _ => none
def fAll (S : DS) (x : D) : Option D := match deref S x with
  | some (.lst ds) => (match blsOf ds with | some l => some (.bl (l.all id)) | none => none)
  | _ => none
theorem cl1_sum : Cl1 X fSum (rSum X.K) := by
  intro g S F ρ σ H v x d Q R r e q
  unfold fSum at e
  split at e
  · rename_i ds hd
    split at e
    · rename_i l hl
      cases e
      obtain ⟨p, xs, rfl, h, rs⟩ := (deref_ok R r hd).lst R
      have z := reps_ints rs hl
      subst z
      exact ⟨p, l, rfl, SqL.of h, q _ F ρ H Sub.refl (List.prefix_refl _) R (.inl (.int _))⟩
    · cases e
  · rename_i ds hd
    split at e
    · rename_i l hl
      cases e
      obtain ⟨p, xs, rfl, h, rs⟩ := (deref_ok R r hd).zst R
      have z := reps_ints rs hl
      subst z
      exact ⟨p, l, rfl, h, q _ F ρ H Sub.refl (List.prefix_refl _) R (.inl (.int _))⟩
    · cases e
  · cases e
theorem cl1_any : Cl1 X fAny (rAny X.K) := by
  intro g S F ρ σ H v x d Q R r e q
  unfold fAny at e
  split at e
  · rename_i ds hd
    split at e
    · rename_i l hl
      cases e
      obtain ⟨p, xs, rfl, h, rs⟩ := (deref_ok R r hd).lst R
      have z := reps_bls rs hl
      subst z
      exact ⟨p, l, rfl, SqL.of h, q _ F ρ H Sub.refl (List.prefix_refl _) R (.inl (.bl _))⟩
    · cases e
  · cases e
theorem cl1_all : Cl1 X fAll (rAll X.K) := by
  intro g S F ρ σ H v x d Q R r e q
  unfold fAll at e
  split at e
  · rename_i ds hd
    split at e
    · rename_i l hl
      cases e
      obtain ⟨p, xs, rfl, h, rs⟩ := (deref_ok R r hd).lst R
      have z := reps_bls rs hl
      subst z
      exact ⟨p, l, rfl, SqL.of h, q _ F ρ H Sub.refl (List.prefix_refl _) R (.inl (.bl _))⟩
    · cases e
  · cases e
end
end DL

set_option Elab.async false
set_option linter.all false
set_option maxRecDepth 100000
set_option maxHeartbeats 1000000
namespace DL
open PySem PySem.Spec PyProof.Rows L2

/-! ### for the printed derivations -/
/-- the builtins' names are the builtins' -/
structure NoBlt (mg : Str → Option Value) : Prop where
  len : mg "len" = none
  int : mg "int" = none
  list : mg "list" = none
  tuple : mg "tuple" = none
  range : mg "range" = none
  enumerate : mg "enumerate" = none
  reversed : mg "reversed" = none
  zip : mg "zip" = none
  sum : mg "sum" = none
  any : mg "any" = none
  all : mg "all" = none
  isinstance : mg "isinstance" = none
  dict : mg "dict" = none
  iter : mg "iter" = none
structure CallOk (P : Program) (w : World) (K : PySem.W.Frag) (mg : Str → Option Value) (base : Heap) (k : Nat) (x : Str) (n : Nat) (Φ : FM) : Prop where
  ok : ∃ f fd ps, FnD P w K mg base k f fd ps Φ ∧ mg x = some (.ref f) ∧ PySem.W.keepIn K (.ref f) = true ∧ Binds K fd ps [] ∧ ps.length = n
section
variable {X : Cx} {pos : Pos}
theorem dv (i : Nat) {x : Str} (hN : X.N[i]? = some x := by rfl) (hv : Vis X.env.scope x := by first | exact Or.inl rfl | exact Or.inr (Or.inl rfl) | exact Or.inr (Or.inr rfl)) (hd : (x == ("__debug__" : Str)) = false := by decide)
    (hcd : (x == ("__classdict__" : Str)) = false := by decide) : ED X (.Name x pos) (eVar i) := ed_var i hN hv hd hcd
theorem un_of {k n : Nat} {A : Around} (hr : Room k A) (h : n ≤ 200) : A.units + n < cLine := by
  have := hr.un
  omega
/-- a comprehension's block, by its text -/
def blkB (N : List Str) (sc scope : Scope) (own : List (Str × Nat)) : Bool :=
  (scope.kind == .function) && (scope.names.all fun y => scope.names.lookup y.1 == some y.2) && (own.all fun p => N[p.2]? == some p.1) &&
  (scope.names.all fun y => (y.2 != .free) || (sc.names.lookup y.1 == some .cell || sc.names.lookup y.1 == some .free)) &&
  (scope.names.all fun y => (y.2 != .local && y.2 != .cell) || ((own.map (·.1)).contains y.1 || !N.contains y.1))
theorem blk_of {N : List Str} {sc scope : Scope} {own : List (Str × Nat)} (h : blkB N sc scope own = true) : BlkOk N sc scope own := by
  unfold blkB at h
  simp only [Bool.and_eq_true, List.all_eq_true, Bool.or_eq_true, beq_iff_eq, bne_iff_ne, ne_eq, Bool.not_eq_true', List.contains_iff_mem] at h
  obtain ⟨⟨⟨⟨h1, h2⟩, h3⟩, h4⟩, h5⟩ := h
  refine ⟨h1, h2, h3, fun y hy e => ?_, fun y hy e => ?_⟩
  · rcases h4 y hy with z | z
    · exact absurd e z
    · exact z
  · rcases h5 y hy with z | z
    · rcases e with e | e
      · exact absurd e z.1
      · exact absurd e z.2
    · rcases z with z | z
      · exact .inl z
      · exact .inr (fun hm => by rw [← List.contains_iff_mem, z] at hm; cases hm)
/-- the number of the arguments -/
def ALen (a : AM) (n : Nat) : Prop := ∀ S ds S', a S = some (ds, S') → ds.length = n
theorem aN_len : ALen aN 0 := fun S ds S' h => by cases h; rfl
theorem aC_len {m : EM} {r : AM} {n : Nat} (h : ALen r n) : ALen (aC m r) (n + 1) := fun S ds S' e => by
  unfold aC at e
  split at e
  · split at e
    · rename_i ds1 S2 h2
      cases e
      simp [h _ _ _ h2]
    · cases e
  · cases e
theorem ed_callC {k n : Nat} {Φ : FM} {x : Str} {p : Pos} {e : Expr} {es : List Expr} {a : AM} (C : CallOk X.prog X.w X.K X.mg X.base k x n Φ) (hr : Room k X.A) (hg : Gl X x) (ha : AD X (e :: es) a) (hn : (e :: es).length = n) (hl : ALen a (e :: es).length)
    (hdb : (x == ("__debug__" : Str)) = false := by decide) (he : starEach (e :: es) X.env = (false, eval e X.env) :: starEach es X.env := by rfl) (hpl : (backTo pos (starEach es X.env)).any (·.1) = false := by rfl) :
    ED X (.Call (.Name x p) (e :: es) [] pos) (eCall a [] Φ) := by
  obtain ⟨f, fd, ps, Fn, hm, hk, hb, hp⟩ := C.ok
  exact ed_call Fn hr hg hm hk hb .nil (fun _ _ => .nil) ha (by rw [hp, hn]; rfl) (fun S ds S' h => hl S ds S' h) hdb he hpl
end
end DL

set_option Elab.async false
set_option linter.all false
set_option maxRecDepth 100000
set_option maxHeartbeats 1000000
namespace SX
open PySem PySem.Spec PyProof.Rows L2 NdefX

/-! ### statements at a known code: super() -/
structure PSA (X : Cx) (b : List Stmt) (st : Stmt) (t : TS) : Prop where
  go : ∀ (pins : List (Addr × Obj)) (s : Shared) (σ : L2.St) (H : Hp) (D : Ends), Inv X pins σ H s → t D σ H → _root_.PySem.wpAt (model X.prog X.w) X.A (.func b X.env) (exec st X.env) (SP X pins D) X.xe s
structure PSAs (X : Cx) (b : List Stmt) (st : List Stmt) (t : TS) : Prop where
  go : ∀ (pins : List (Addr × Obj)) (s : Shared) (σ : L2.St) (H : Hp) (D : Ends), Inv X pins σ H s → t D σ H → _root_.PySem.wpAt (model X.prog X.w) X.A (.func b X.env) (execs st X.env) (SP X pins D) X.xe s
theorem psas_of {X : Cx} {b ss : List Stmt} {t : TS} (h : PSs X ss t) : PSAs X b ss t := ⟨fun pins s σ H D I q => wpAt_of_wpAny (h.run pins s σ H D I q)⟩
theorem psas_cons {X : Cx} {b ss : List Stmt} {st : Stmt} {t u : TS} (h : PSA X b st t) (r : PSAs X b ss u) : PSAs X b (st :: ss) (tSeq t u) := ⟨fun pins s σ H D I q => by
  refine PySem.ks_wpAt_execs_cons (PySem.ks_wpAt_mono (h.go pins s σ H { D with nx := u D } I q) (fun f s1 z => ?_) fun _ _ z => z)
  cases f with
  | next => obtain ⟨σ1, H1, I1, q1⟩ := z; exact r.go pins s1 σ1 H1 D I1 q1
  | brk => exact z
  | cont => exact z
  | ret u => exact z⟩

/-- the text of a method that says super() -/
structure ClsFn (K : PySem.W.Frag) (f cc cda D : Addr) (name qual : Str) (params : Arguments) (body : List Stmt) (scope : Scope) (fd : FuncData) : Prop where
  lk : ∃ (oc : Value) (od : Option Addr) (dV kV doc pm ct : Value) (an : Option Addr) (osl : Array (Option Value)),
    fd = PySem.W.ksFn name qual params body scope dV kV doc pm an (.ref cda) ct cc ∧ K.lookup f = some ⟨oc, od, .func fd, osl⟩
  cd : PySem.W.codeIn K (.ref cda) qual = true
  lc : ∃ (ccl : Value) (ccd : Option Addr) (csl : Array (Option Value)), K.lookup cc = some ⟨ccl, ccd, .cell (some (.ref D)), csl⟩
abbrev nfOf (name qual : Str) (params : Arguments) (body : List Stmt) (scope : Scope) (cc cda : Addr) : NF := ⟨name, qual, params, body, scope, [("__class__", cc)], cda⟩
theorem cls_cells {P : Program} {w : World} {K : PySem.W.Frag} {mg : Str → Option Value} {base : Heap} {A : Around} {outer : List Env} {s : Shared} {H : Hp} {f cc cda D : Addr} {name qual : Str} {params : Arguments} {body : List Stmt} {scope : Scope} {fd : FuncData}
    (T : ClsFn K f cc cda D name qual params body scope fd) (e0 : Env0 P w K mg base A outer s H) : CellsAt [("__class__", cc)] ["__class__"] [some (.ref D)] s.heap H := by
  obtain ⟨ccl, ccd, csl, lc⟩ := T.lc
  obtain ⟨h1, h2⟩ := e0.bs cc _ (e0.mod.kin _ _ lc)
  have one : ∀ {y : Str} {c : Addr}, ([("__class__", cc)] : List (Str × Addr)).lookup y = some c → y = "__class__" ∧ c = cc := fun {y c} h => by
    unfold List.lookup at h
    split at h
    · rename_i z
      cases h
      exact ⟨by simpa using z, rfl⟩
    · cases h
  refine ⟨rfl, fun y c h => ?_, fun x y c h1 h2 => ?_, fun i y h => ?_⟩
  · obtain ⟨rfl, rfl⟩ := one h
    exact ⟨h2, _, _, h1, rfl⟩
  · rw [(one h1).1, (one h2).1]
  · have hi : i = 0 := by
      cases i with
      | zero => rfl
      | succ n => simp at h
    subst hi
    have ey : y = "__class__" := by simpa using h.symm
    subst ey
    exact ⟨cc, rfl, fun v hv => ⟨.ref D, by cases hv; rfl, _, h1, rfl⟩⟩
/-- THE RULE of such a method -/
theorem fn_cls {CX : CXT} {P : Program} {w : World} {K : PySem.W.Frag} {mg : Str → Option Value} {base : Heap} {k : Nat} {f cc cda D : Addr} {name qual : Str} {params : Arguments} {body : List Stmt} {scope : Scope} {fd : FuncData} {N ps : List Str} {sp : Sp}
    (T : ClsFn K f cc cda D name qual params body scope fd) (S : NScope N ps ["__class__"] scope) (len : ∀ vs H Q E, sp vs H Q E → vs.length = ps.length)
    (hb : ∀ (A : Around) (outer : List Env) (s : Shared) (H : Hp) (vs : List V) (Q : VK) (E : XK), Room k (A.deeper (envF (nfOf name qual params body scope cc cda) f s.heap.objs.size)) → sp vs H Q E →
      ∃ t, PSAs (ncx CX P w K mg base N (nfOf name qual params body scope cc cda) f A outer s H E) body body t ∧ t { nx := fun _ H' => Q .non H', rt := Q } (startF N vs [some (.ref D)]) H) :
    FnOk P w K mg base CX (k + 1) f fd ps sp := by
  refine ⟨len, fun A outer s H args us vs Q E hr e0 hbi r hsp => ?_⟩
  have hlen := len _ _ _ _ hsp
  have kin : K.In s.heap := e0.mod.kin.keeps fun b o e => (e0.bs b o e).1
  have nolim : s.heap.NoLimit := e0.mod.nolimit.keeps fun b o e => (e0.bs b o e).1
  have cells := cls_cells T e0
  have tcd := T.cd
  obtain ⟨oc, od, dV, kV, doc, pm, ct, an, osl, rfl, lk⟩ := T.lk
  refine codeAny_call_function hr.depth (kin _ _ lk) rfl S.co S.gen rfl (PySem.W.codeRec_of kin tcd) (hbi _ _ _ _ ?_)
  refine wpAny_newFunctionEnv S.nocell (fun ⟨n, _⟩ hy => S.par n (List.of_mem_zip hy).1) (fun h₁ hns hsb => ⟨nolim.fresh _ hsb, ?_⟩) S.kind
  show codeAny _ _ (.func body (envF (nfOf name qual params body scope cc cda) f s.heap.objs.size)) _ _
  have kp : ∀ b o, s.heap.get? b = some o → h₁.get? b = some o := fun b o e => hsb.extBut b o (Nat.ne_of_lt (Heap.lt_size e)) (Heap.get?_push_of_some _ e)
  refine PySem.ks_codeAny_funcAt ?_
  obtain ⟨t, ht, hq⟩ := hb A outer s H vs Q E (hr.deeper _) hsp
  have I := inv_startN (CX := CX) (E := E) (tk := s.toks + (ps.zip us).length) (F := nfOf name qual params body scope cc cda) (f := f) (A := A) (outer := outer) S hr.hd e0 hlen r cells hns kp
  refine PySem.ks_wpAt_mono (ht.go [] _ _ H _ I hq) (fun fl s' hs => ?_) fun e s' hs => hs
  cases fl with
  | ret u =>
    obtain ⟨v, σ', H', J, rv, q⟩ := hs
    exact ⟨v, H', J.os, J.bare, J.base, J.hok, rv, q⟩
  | next =>
    obtain ⟨σ', H', J, q⟩ := hs
    exact ⟨.non, H', J.os, J.bare, J.base, J.hok, rfl, q⟩
  | brk =>
    obtain ⟨_, _, _, q⟩ := hs
    exact False.elim q
  | cont =>
    obtain ⟨_, _, _, q⟩ := hs
    exact False.elim q
end SX

set_option Elab.async false
set_option linter.all false
set_option maxRecDepth 100000
set_option maxHeartbeats 1000000
namespace SX
open PySem PySem.Spec PyProof.Rows L2 NdefX

section
open PySem.W
variable {prog : Program} {w : World} {A : Around} {E : Value → Shared → Prop} {h : Heap} {g : Array GenState} {d : Drawn} {t : Nat} {os : OsState}
/-- the bound __init__ of ValueError, called: the args are laid anew -/
theorem call_mwV {nm q : Str} {C N u e t0 : Addr} {bs bm : List Value} {hdct : Bool} {sn : List Str} {sub : List Value} {ab : Bool} {col : Option Bool} {dd : Option Addr} {k0 k1 k2 k3 k5 : Option Value} {rest : List Value} {Q : Value → Shared → Prop}
    (hC : h.get? C = some (excClassObj nm q C N bs bm hdct sn sub ab col dd k0 k1 k2 k3 k5 "ValueError.__new__")) (he : h.get? e = some (HandSPX.excO C t0)) (hu : h.get? u = some (kxs_mw "ValueError.__init__" e)) (hz : rest.length ≤ sizeLine)
    (hq : ∀ h' t1, (∀ b o, b ≠ e → h.get? b = some o → h'.get? b = some o) → h'.get? e = some (HandSPX.excO C t1) → Q .none ⟨h', g, d, t, os⟩) : wpAny (model prog w) A (call (.ref u) rest) Q E ⟨h, g, d, t, os⟩ := by
  have FB := F.excBase_ValueError
  refine wpAny_call (codeAny_of_tree ?_)
  show wpAny _ A.in1 (callAny (.ref u) ⟨rest, []⟩) _ _ _
  simp only [callAny]
  refine wpAny_bind (wpAny_load hu ?_)
  simp only [kxs_mw, show (Value.type "method-wrapper" == Value.type "method" || Value.type "method-wrapper" == Value.type "builtin_function_or_method" || Value.type "method-wrapper" == Value.type "method-wrapper") = true by decide, if_true]
  refine KFB.if_so (by decide) ?_
  refine wpAny_bind (check_bound_init FB.toExcCallFacts hC he rfl ?_)
  refine wpAny_bind (wpAny_pure (wpAny_pure ?_))
  refine ⟨plainId_quiet FB.init.plain _, codeAny_builtin FB.initEntry ?_⟩
  exact exc_init_tree (cls := .ref C) (t0 := t0) (dv := none) (c2 := .none) (c3 := .none) (b4 := .bool false) he hz fun h' kk e' _ => hq h' _ kk e'
end

/-- what is told of the class's method, and of super, by the text -/
structure SupTxt (P : Program) (K : PySem.W.Frag) (f cc cda D : Addr) : Prop where
  fn : ∃ (fd : FuncData) (ar : Arg) (oc : Value) (od : Option Addr) (osl : Array (Option Value)), K.lookup f = some ⟨oc, od, .func fd, osl⟩ ∧ (fd.params.posonlyargs ++ fd.params.args).head? = some ar ∧ ar.arg = "self"
  code : ∃ (ccl : Value) (cdd : Option Addr) (ccs : Array (Option Value)) (vs : Array Value) (file : Str) (tf : Tok), K.lookup cda = some ⟨ccl, cdd, .fields vs, ccs⟩ ∧ vs[2]? = some (.str file tf) ∧ ((P.main.file : Str) == file) = true
  cell : ∃ (cl : Value) (cld : Option Addr) (csl : Array (Option Value)), K.lookup cc = some ⟨cl, cld, .cell (some (.ref D)), csl⟩
  cls : ∃ cd, PySem.W.clsIn K D = some cd
  top : (P.main.scope.names.lookup ("super" : Str)).isSome = false
/-- super().__init__(e) in an own error over ValueError -/
def tVSup (C : Addr) (te : TE) : TS := fun D σ H => ∃ a : Addr, σ[0]? = some (some (.ref a)) ∧ H a = some (exo a C none) ∧ te σ H fun y H1 => H1 a = some (exo a C none) ∧ D.nx σ H1
theorem psa_vsuper {X : Cx} {b : List Stmt} {e : Expr} {te : TE} {f cc cda D : Addr} {scope : Scope} {q : Str} {L : Addr} {p0 p1 p2 p3 p4 : Pos} (T : SupTxt X.prog X.K f cc cda D)
    (hE : X.env = PySem.W.ksEnv q scope L f (.ref cda) cc) (hN : X.N[0]? = some ("self" : Str)) (hks : scope.names.lookup ("super" : Str) = some .globalImplicit) (hkc : scope.names.lookup ("__class__" : Str) = some .free)
    (hka : scope.names.lookup ("self" : Str) = some .local) (hmg : X.mg "super" = none) (hst : PySem.W.nsIn X.K cStatics "thirdparty.any" = some none)
    (TC : OexC X.K D) (hsub : PySem.W.mroIn X.K D (.ref D) = some true) (hsup : PySem.W.ks_superIn X.K D D "__init__" = some (some (.builtin "ValueError.__init__"))) (hVE : PySem.W.subIn X.K (.ref D) (.type "ValueError") = some true)
    (ha : PE X e te) (hi : interactive X.env = false := by rfl) (hsw : swapsWith (.Call (.Attribute (.Call (.Name "super" p0) [] [] p1) "__init__" p2) [e] [] p3) none p4.line X.env = pure false := by rfl) (hse : starEach [e] X.env = (false, eval e X.env) :: starEach [] X.env := by rfl)
    {pl : Sem Bool} (hev : eval (.Call (.Attribute (.Call (.Name "super" p0) [] [] p1) "__init__" p2) [e] [] p3) X.env = (do
      let ov ← attributeBase (.Call (.Name "super" p0) [] [] p1) "__init__" X.env (eval (.Call (.Name "super" p0) [] [] p1) X.env)
      standAt p2.atName
      let (f, first) ← holding [ov] (getMethod ov "__init__" pl)
      callWith p3 f first (backTo p3 (starEach [e] X.env)) []) := by rfl) :
    PSA X b (.Expr (.Call (.Attribute (.Call (.Name "super" p0) [] [] p1) "__init__" p2) [e] [] p3) p4) (tVSup D te) := by
  refine ⟨fun pins s σ H Dd I h => ?_⟩
  obtain ⟨a, hσ, eH, h⟩ := h
  obtain ⟨fd, ar, oc, od, osl, lkf, har, hself⟩ := T.fn
  obtain ⟨ccl, cdd, ccs, vs, file, tf, lkc, hvs, hfile⟩ := T.code
  obtain ⟨cl, cld, csl, lcell⟩ := T.cell
  obtain ⟨cd, hcd⟩ := T.cls
  obtain ⟨nm, qn, NN, bs, bm, sn, sub, ab, col, dd, k0, k1, k2, k3, k5, hCl, hbm⟩ := TC.cls
  obtain ⟨oD, hD1, hD2⟩ : ∃ oD, s.heap.get? D = some oD ∧ oD.data = .cls cd := by
    have hcd' := hcd
    unfold PySem.W.clsIn at hcd'
    rw [hCl] at hcd'
    cases hcd'
    exact ⟨_, I.kIn _ _ hCl, rfl⟩
  obtain ⟨t1, ho⟩ := exo_at I.hok eH
  have IA : PySem.W.InstAt s.heap a { cls := .ref D, dict := none, data := .fields #[.ref t1, .none, .none, .none, .bool false, .none] } D none := ⟨ho, rfl, rfl, trivial⟩
  have kU : X.env.kindOf "super" = some .globalImplicit := by rw [hE]; exact hks
  have kC : X.env.kindOf "__class__" = some .free := by rw [hE]; exact hkc
  have kS : X.env.kindOf "self" = some .local := by rw [hE]; exact hka
  refine PySem.ks_wpAt_Expr_any ?_ hi hsw
  refine PySem.ks_wpAt_MethodCall (pl := pl) ?_ hev
  refine PySem.ks_wpAt_super_base (f := f) (cc := cda) kU kC rfl (by rw [hE]) (I.kIn _ _ lkf) rfl har (by rw [hE]) (I.kIn _ _ lkc) rfl hvs hfile T.top ?_
  obtain ⟨mb, b1, b2⟩ := I.mod.blt
  refine PySem.W.ks_loadName_global I.ok.kind kU (Calls.loadGlobal_builtin (by rw [I.ok.glob]; exact I.mod.glob.keeps I.bk) hmg (by rw [I.ok.blt]; exact b1.keeps I.bk) ((b2 "super" (by decide)).trans (by decide +kernel)) ⟨rfl, ?_⟩)
  refine wpAny_loadName_free I.ok.kind kC (by rw [hE]; rfl) ⟨_, I.kIn _ _ lcell, rfl⟩ ?_
  obtain ⟨m, hns, hl⟩ := I.loc
  obtain ⟨u, ru, lk⟩ := hl 0 "self" (.ref a) hN hσ (.inl (by rw [hE]; exact hka))
  obtain rfl : u = Value.ref a := ru
  have hm : m "self" = some (.ref a) := by
    rcases lk with ⟨_, z⟩ | ⟨z, _⟩
    · exact z
    · rcases z with z | z
      · rw [kS] at z; cases z
      · rw [kS] at z; cases z
  rw [hself]
  refine wpAny_loadName_local I.ok.kind kS hns hm ?_
  refine PySem.ks_wpAny_isType_cls hD1 hD2 ⟨rfl, ?_⟩
  obtain ⟨hp, g, dr, tk, os⟩ := s
  refine PySem.ks_wpAny_call_super hD1 hD2 ho rfl (fun c z => by cases z) (PySem.W.looks_mroIn I.kIn hsub) fun h' eso ksup => ?_
  have I1 : Inv X pins σ H ⟨h', g, dr, tk, os⟩ := I.kept (t' := tk) ksup
  have hxC : a ≠ D := PySem.W.ks_ne I.kIn IA hcd
  have IA1 : PySem.W.InstAt h' a { cls := .ref D, dict := none, data := .fields #[.ref t1, .none, .none, .none, .bool false, .none] } D none := ⟨ksup _ _ ho, rfl, rfl, trivial⟩
  have hsup' := hsup
  unfold PySem.W.ks_superIn at hsup'
  rw [hcd] at hsup'
  refine PySem.W.kxs_getMethod PySem.W.kxs_ValueError eso (PySem.W.looks_opaque I1.kIn hst) (l₀ := cd.mro) ?_ rfl I1.kIn hsup' (IA1.type.andThen (PySem.W.looks_subIn I1.kIn hVE)) hxC rfl ?_
  · exact fun A Q E s k q => wpAny_bind ((PySem.W.looks_clsIn I1.kIn hcd) A _ E s k (wpAny_pure q))
  have kmw : ∀ b o, h'.get? b = some o → (h'.push (PySem.W.kxs_mw "ValueError.__init__" a)).get? b = some o := fun b o z => Heap.get?_push_of_some _ z
  have I2 : Inv X pins σ H ⟨h'.push (PySem.W.kxs_mw "ValueError.__init__" a), g, dr, tk + 1, os⟩ := I1.kept (t' := tk + 1) kmw
  have hu0 : (h'.push (PySem.W.kxs_mw "ValueError.__init__" a)).get? h'.objs.size = some (PySem.W.kxs_mw "ValueError.__init__" a) := Heap.get?_push_at rfl rfl
  have fpo : FpOk X pins H h'.objs.size := I1.fpOk (Nat.le_refl _) (I1.hok.fresh (Nat.le_refl _))
  have I3 := I2.pinned (fp := [h'.objs.size]) (fun b hb => by rw [List.mem_singleton] at hb; rw [hb]; exact fpo) (fun b hb => by
    rw [List.mem_singleton] at hb
    rw [hb]
    exact ⟨_, hu0, fun v z => by cases z⟩)
  refine PySem.W.kxs_callWith (i := "ValueError.__init__") (x := a) (by rw [hse]; rfl) ?_
  rw [hse]
  refine Calls.evalArgs_plain (Calls.spliced_cons (thn (ha.run _ _ σ H _ I3 h) fun v s3 ⟨y, H3, I4, ry, eH3, q⟩ => ?_))
  refine Calls.spliced_nil ?_
  have hu3 : s3.heap.get? h'.objs.size = some (PySem.W.kxs_mw "ValueError.__init__" a) := (I4.pin (h'.objs.size, _) (List.mem_append_right _ (List.mem_append_right _ (mem_pinsAt (List.mem_singleton.mpr rfl) hu0)))).1
  refine ⟨hu3, ?_⟩
  have I5 : Inv X pins σ H3 s3 := I4.unpinned
  obtain ⟨t3, ho3⟩ := exo_at I5.hok eH3
  obtain ⟨hp3, g3, dr3, tk3, os3⟩ := s3
  show wpAny _ _ (call (.ref h'.objs.size) ([] ++ [v])) _ _ _
  refine call_mwV (I5.kIn _ _ hCl) ho3 hu3 (by rw [sizeLine_eq]; exact (by decide : 1 ≤ 16777216)) fun h5 t5 kk e5 => ?_
  have J := I5.write (t' := tk3) (x := a) (e := a) (o := exo a D none) (by rw [eH3]; exact True.intro) (.inl rfl) kk ⟨_, e5⟩ (exo_ok e5)
  have eu : upd H3 a (exo a D none) = H3 := by
    funext z
    by_cases hz : z = a
    · rw [hz, upd_same, eH3]
    · rw [upd_ne hz]
  rw [eu] at J
  exact ⟨σ, H3, J, q⟩
end SX

set_option Elab.async false
set_option linter.all false
set_option maxRecDepth 100000
set_option maxHeartbeats 1000000
namespace DL
open PySem PySem.Spec PyProof.Rows L2

/-! ### what may raise -/
inductive RX where
  | ok (d : D) | ex (c : Str) (ns : List Str) (ds : List D)
inductive Fx where
  | ok (f : Fl) | ex (c : Str) (ns : List Str) (ds : List D)
abbrev EX := DS → Option (RX × DS)
abbrev XM := DS → Option (Fx × DS)
def XRep (T : Tx) (F : Hp) (ρ : List Addr) (C dx : Addr) (c : Str) (ns : List Str) (ds : List D) : Prop := T.mg c = some (.ref C) ∧ ∃ vs, F dx = some (.xd (ns.zip vs)) ∧ vs.length = ns.length ∧ Reps T F ρ vs ds
theorem XRep.mono {T : Tx} {F F' : Hp} {ρ ρ' : List Addr} {C dx : Addr} {c : Str} {ns : List Str} {ds : List D} (s : Sub F F') (p : ρ <+: ρ') (h : XRep T F ρ C dx c ns ds) : XRep T F' ρ' C dx c ns ds := by
  obtain ⟨m, vs, e, l, r⟩ := h
  exact ⟨m, vs, s _ _ e, l, r.mono s p⟩
theorem XRep.rep {T : Tx} {F : Hp} {ρ : List Addr} {a C dx : Addr} {c : Str} {ns : List Str} {ds : List D} (h : XRep T F ρ C dx c ns ds) : Rep T F ρ (.ref a) (.exc a C dx c ns ds) := by
  obtain ⟨m, vs, e, l, r⟩ := h
  exact .exc m e l r
def tEX (X : Cx) (W : WX) (m : EX) : TE := fun σ H Q => ∃ g S F ρ r S', SR (tx X) g S F ρ σ H ∧ m S = some (r, S') ∧ match r with
  | .ok d => ∀ v F' ρ' H', Sub F F' → ρ <+: ρ' → SR (tx X) g S' F' ρ' σ H' → RepX (tx X) F' ρ' σ v d → Q v H'
  | .ex c ns ds => ∀ C dx F' ρ' H', Sub F F' → ρ <+: ρ' → SR (tx X) g S' F' ρ' σ H' → XRep (tx X) F' ρ' C dx c ns ds → W (.ref C) (some dx) σ H'
def flowX (W : WX) (D : Ends) (X : Cx) (g : Gh) (F : Hp) (ρ : List Addr) (S' : DS) (fl : Fx) : Prop := match fl with
  | .ok f => flow D X g F ρ S' f
  | .ex c ns ds => ∀ C dx F' ρ' σ' H', Sub F F' → ρ <+: ρ' → SR (tx X) g S' F' ρ' σ' H' → XRep (tx X) F' ρ' C dx c ns ds → W (.ref C) (some dx) σ' H'
def tX (X : Cx) (W : WX) (m : XM) : TS := fun D σ H => ∃ g S F ρ fl S', SR (tx X) g S F ρ σ H ∧ m S = some (fl, S') ∧ flowX W D X g F ρ S' fl
abbrev EXD (X : Cx) (W : WX) (e : Expr) (m : EX) : Prop := PE X e (tEX X W m)
abbrev SXD (X : Cx) (W : WX) (s : Stmt) (m : XM) : Prop := PS X s (tX X W m)
abbrev BXD (X : Cx) (W : WX) (s : List Stmt) (m : XM) : Prop := PSs X s (tX X W m)
theorem flowX_mono {X : Cx} {W : WX} {g : Gh} {D : Ends} {F F' : Hp} {ρ ρ' : List Addr} {S : DS} {fl : Fx} (s : Sub F F') (p : ρ <+: ρ') (h : flowX W D X g F ρ S fl) : flowX W D X g F' ρ' S fl := by
  cases fl with
  | ok f => exact flow_mono s p h
  | ex c ns ds => exact fun C dx F2 ρ2 σ2 H2 s2 p2 R x => h C dx F2 ρ2 σ2 H2 (s.trans s2) (p.trans p2) R x
/-! lifts -/
def xL (m : SM) : XM := fun S => match m S with | some (f, S1) => some (.ok f, S1) | none => none
def xU (m : XM) : SM := fun S => match m S with | some (.ok f, S1) => some (f, S1) | _ => none
def eXL (m : EM) : EX := fun S => match m S with | some (d, S1) => some (.ok d, S1) | none => none
section
variable {X : Cx} {W : WX} {pos : Pos}
theorem tX_lift {m : SM} : ∀ σ H D, tX X W (xL m) D σ H → tS X m D σ H := by
  rintro σ H D ⟨g, S, F, ρ, fl, S', R, e, q⟩
  unfold xL at e
  split at e
  · rename_i f S1 h1
    cases e
    exact ⟨g, S, F, ρ, f, S', R, h1, q⟩
  · cases e
theorem sx_of {s : Stmt} {m : SM} (h : SD X s m) : SXD X W s (xL m) := PS_imp h tX_lift
theorem bx_of {s : List Stmt} {m : SM} (h : BD X s m) : BXD X W s (xL m) := PSs_imp h tX_lift
theorem tX_un {m : XM} : ∀ σ H D, tS X (xU m) D σ H → tX X W m D σ H := by
  rintro σ H D ⟨g, S, F, ρ, fl, S', R, e, q⟩
  unfold xU at e
  split at e
  · rename_i f S1 h1
    cases e
    exact ⟨g, S, F, ρ, .ok fl, S', R, h1, q⟩
  · cases e
/-- nothing is raised that leaves it -/
theorem sd_ux {s : Stmt} {m : XM} (h : SXD X W s m) : SD X s (xU m) := PS_imp h tX_un
theorem bd_ux {s : List Stmt} {m : XM} (h : BXD X W s m) : BD X s (xU m) := PSs_imp h tX_un
theorem ex_of {e : Expr} {m : EM} (h : ED X e m) : EXD X W e (eXL m) := by
  refine PE_imp h ?_
  rintro σ H Q ⟨g, S, F, ρ, r, S', R, e, q⟩
  unfold eXL at e
  split at e
  · rename_i d S1 h1
    cases e
    exact ⟨g, S, F, ρ, d, S', R, h1, q⟩
  · cases e
def xS (a b : XM) : XM := fun S => match a S with | some (.ok .nx, S1) => b S1 | r => r
def xIf (c : TM) (a b : XM) : XM := fun S => match c S with | some (true, S1) => a S1 | some (false, S1) => b S1 | none => none
theorem bx_cons {s : Stmt} {ss : List Stmt} {a b : XM} (h : SXD X W s a) (hb : BXD X W ss b) : BXD X W (s :: ss) (xS a b) := by
  refine PSs_imp (pss_cons h hb) ?_
  rintro σ H D ⟨g, S, F, ρ, fl, S', R, e, q⟩
  unfold xS at e
  cases h1 : a S with
  | none => rw [h1] at e; cases e
  | some p =>
    obtain ⟨f1, S1⟩ := p
    rw [h1] at e
    refine ⟨g, S, F, ρ, f1, S1, R, h1, ?_⟩
    cases f1 with
    | ex c ns ds => cases e; exact q
    | ok f1 =>
      cases f1 with
      | nx => exact fun F1 ρ1 σ1 H1 s1 p1 R1 => ⟨g, S1, F1, ρ1, fl, S', R1, e, flowX_mono s1 p1 q⟩
      | bk => cases e; exact q
      | ct => cases e; exact q
      | rt d => cases e; exact q
theorem bx_one {s : Stmt} {a : XM} (h : SXD X W s a) : BXD X W [s] a := pss_one h
theorem bx_nil : BXD X W [] (xL sN) := bx_of bd_nil
theorem sx_if {c : Expr} {a b : List Stmt} {mc : TM} {ma mb : XM} (hc : TD X c mc) (ha : BXD X W a ma) (hb : BXD X W b mb) : SXD X W (.If c a b pos) (xIf mc ma mb) := by
  refine PS_imp (ps_if hc ha hb) ?_
  rintro σ H D ⟨g, S, F, ρ, fl, S', R, e, q⟩
  unfold xIf at e
  cases h1 : mc S with
  | none => rw [h1] at e; cases e
  | some p =>
    obtain ⟨b0, S1⟩ := p
    rw [h1] at e
    refine ⟨g, S, F, ρ, b0, S1, R, h1, fun F1 ρ1 H1 s1 p1 R1 => ?_⟩
    cases b0 with
    | true => rw [if_pos rfl]; exact ⟨g, S1, F1, ρ1, fl, S', R1, e, flowX_mono s1 p1 q⟩
    | false => rw [if_neg Bool.false_ne_true]; exact ⟨g, S1, F1, ρ1, fl, S', R1, e, flowX_mono s1 p1 q⟩
/-! statements over an expression that may raise -/
def xDrop (m : EX) : XM := fun S => match m S with | some (.ok _, S1) => some (.ok .nx, S1) | some (.ex c ns ds, S1) => some (.ex c ns ds, S1) | none => none
def xRet (m : EX) : XM := fun S => match m S with | some (.ok d, S1) => if isHnd d then none else some (.ok (.rt d), S1) | some (.ex c ns ds, S1) => some (.ex c ns ds, S1) | none => none
def xSet (i : Nat) (m : EX) : XM := fun S => match m S with | some (.ok d, S1) => if isHnd d then none else some (.ok .nx, S1.setE i (.fro d)) | some (.ex c ns ds, S1) => some (.ex c ns ds, S1) | none => none
theorem sx_drop {e : Expr} {m : EX} (h : EXD X W e m) (hs : swapsWith e none pos.line X.env = pure false := by rfl) : SXD X W (.Expr e pos) (xDrop m) := by
  refine PS_imp (ps_expr h hs) ?_
  rintro σ H D ⟨g, S, F, ρ, fl, S', R, e, q⟩
  unfold xDrop at e
  split at e
  · rename_i d S1 h1
    cases e
    exact ⟨g, S, F, ρ, .ok d, S', R, h1, fun v F' ρ' H' s p R' r => q F' ρ' σ H' s p R'⟩
  · rename_i c ns ds S1 h1
    cases e
    exact ⟨g, S, F, ρ, .ex c ns ds, S', R, h1, fun C dx F' ρ' H' s p R' x => q C dx F' ρ' σ H' s p R' x⟩
  · cases e
theorem sx_ret {e : Expr} {m : EX} (h : EXD X W e m) : SXD X W (.Return (some e) pos) (xRet m) := by
  refine PS_imp (ps_ret h) ?_
  rintro σ H D ⟨g, S, F, ρ, fl, S', R, e, q⟩
  unfold xRet at e
  split at e
  · rename_i d S1 h1
    split at e
    · cases e
    · rename_i hn
      cases e
      exact ⟨g, S, F, ρ, .ok d, S', R, h1, fun v F' ρ' H' s p R' r => q v F' ρ' σ H' s p R' (r.rep (by simpa using hn))⟩
  · rename_i c ns ds S1 h1
    cases e
    exact ⟨g, S, F, ρ, .ex c ns ds, S', R, h1, fun C dx F' ρ' H' s p R' x => q C dx F' ρ' σ H' s p R' x⟩
  · cases e
theorem sx_set {x : Str} {e : Expr} {m : EX} {pos' : Pos} (i : Nat) (hN : X.N.Nodup) (hi : X.N[i]? = some x) (hx : Loc X.env.scope x) (he : EXD X W e m) (hs : swapsWith e (some (.Name x pos')) pos.line X.env = pure false := by rfl)
    (hf : X.fn x = true ∨ X.env.scope.names.lookup x = some .local := by first | exact .inl rfl | exact .inr rfl | assumption) : SXD X W (.Assign [.Name x pos'] e pos) (xSet i m) := by
  refine PS_imp (ps_set hN hi hx he hs hf) ?_
  rintro σ H D ⟨g, S, F, ρ, fl, S', R, e, q⟩
  unfold xSet at e
  split at e
  · rename_i d S1 h1
    split at e
    · cases e
    · rename_i hn
      cases e
      exact ⟨g, S, F, ρ, .ok d, S1, R, h1, fun v F' ρ' H' s p R' r => q F' ρ' _ H' s p (R'.set_fro (r.rep (by simpa using hn)))⟩
  · rename_i c ns ds S1 h1
    cases e
    exact ⟨g, S, F, ρ, .ex c ns ds, S', R, h1, fun C dx F' ρ' H' s p R' x => q C dx F' ρ' σ H' s p R' x⟩
  · cases e
end

/-! ### defs that may raise -/
abbrev FXM := List D → List Cell → Option (RX × List Cell)
def spX (T : Tx) (n : Nat) (Φ : FXM) : Sp := fun vs H Q E => ∃ F ρ st ds r st', vs.length = n ∧ SRc T F ρ st H ∧ Reps T F ρ vs ds ∧ Φ ds st = some (r, st') ∧ match r with
  | .ok d => ∀ v F' ρ' H', Post F ρ H F' ρ' H' → SRc T F' ρ' st' H' → Rep T F' ρ' v d → Q v H'
  | .ex c ns es => ∀ C dx F' ρ' H', Post F ρ H F' ρ' H' → SRc T F' ρ' st' H' → XRep T F' ρ' C dx c ns es → E (.ref C) (some dx) H'
abbrev FnX (P : Program) (w : World) (K : PySem.W.Frag) (mg : Str → Option Value) (base : Heap) (k : Nat) (f : Addr) (fd : FuncData) (ps : List Str) (Φ : FXM) : Prop := FnOk P w K mg base (L2N.CX P w) k f fd ps (spX ⟨P, w, mg, K⟩ ps.length Φ)
def runX (n : Nat) (m : XM) : FXM := fun ds st => match m ⟨ds.map .fro ++ List.replicate (n - ds.length) .non, st⟩ with
  | some (.ok (.rt d), S) => some (.ok d, S.store)
  | some (.ok .nx, S) => some (.ok .non, S.store)
  | some (.ex c ns es, S) => some (.ex c ns es, S.store)
  | _ => none
section
variable {P : Program} {w : World} {K : PySem.W.Frag} {mg : Str → Option Value} {base : Heap}
theorem fnX {x qual : Str} {st : Stmt} {f : Addr} {fd : FuncData} {N ps : List Str} {k : Nat} {m : XM} {n : Nat} (F : Fun K x qual st f fd) (S : FnScope N ps (defScope st)) (hn : N.length = n)
    (hbody : ∀ (cdv : Value) (A : Around) (outer : List Env) (s : Shared) (H : Hp) (E : XK), Room k (A.deeper (envOfC qual (defScope st) s.heap.objs.size f cdv)) →
      BXD (cxOf (L2N.CX P w) P w K mg base N qual (defScope st) f cdv A outer s H E) (fun cls d _ H => E cls d H) (defBody st) m) : FnX P w K mg base (k + 1) f fd ps (runX n m) := by
  subst hn
  obtain ⟨oc, od, kV, doc, pm, an, cdv, ct, osl, rfl, lk, hcd⟩ := F.ex
  refine fn_of lk hcd S (fun vs H Q E h => ?_) fun A outer s H vs Q E hr h => ?_
  · obtain ⟨_, _, _, _, _, _, h, _⟩ := h
    exact h
  · obtain ⟨F0, ρ0, st0, ds, r, st', hl, C, rs, e, q⟩ := h
    refine ⟨_, hbody cdv A outer s H E hr, ?_⟩
    have R0 := SR.start (S := ⟨ds.map .fro ++ List.replicate (N.length - ds.length) .non, st0⟩) C rs rfl
    unfold runX at e
    split at e
    · rename_i d S1 h1
      cases e
      refine ⟨_, _, F0, ρ0, .ok (.rt d), S1, R0, h1, fun v F' ρ' σ' H' s p R' r' => ?_⟩
      obtain ⟨P', C'⟩ := R'.post
      exact q v F' ρ' H' P' C' r'
    · rename_i S1 h1
      cases e
      refine ⟨_, _, F0, ρ0, .ok .nx, S1, R0, h1, fun F' ρ' σ' H' s p R' => ?_⟩
      obtain ⟨P', C'⟩ := R'.post
      exact q .non F' ρ' H' P' C' .non
    · rename_i c ns es S1 h1
      cases e
      refine ⟨_, _, F0, ρ0, .ex c ns es, S1, R0, h1, fun Ca dx F' ρ' σ' H' s p R' x => ?_⟩
      obtain ⟨P', C'⟩ := R'.post
      exact q Ca dx F' ρ' H' P' C' x
    · cases e
end
structure CallX (P : Program) (w : World) (K : PySem.W.Frag) (mg : Str → Option Value) (base : Heap) (k : Nat) (x : Str) (n : Nat) (Φ : FXM) : Prop where
  ok : ∃ f fd ps, FnX P w K mg base k f fd ps Φ ∧ mg x = some (.ref f) ∧ PySem.W.keepIn K (.ref f) = true ∧ Binds K fd ps [] ∧ ps.length = n
def eCallX (a : AM) (Φ : FXM) : EX := fun S => match a S with
  | some (ds, S1) => if ds.any isHnd then none else (match Φ ds S1.store with | some (r, st') => some (r, ⟨S1.env, st'⟩) | none => none)
  | none => none
section
variable {X : Cx} {W : WX} {pos : Pos}
theorem ex_callC {k n : Nat} {Φ : FXM} {x : Str} {p : Pos} {e : Expr} {es : List Expr} {a : AM} (tk : L2N.Takes X W) (C : CallX X.prog X.w X.K X.mg X.base k x n Φ) (hr : Room k X.A) (hg : Gl X x) (ha : AD X (e :: es) a) (hn : (e :: es).length = n) (hl : ALen a (e :: es).length)
    (hdb : (x == ("__debug__" : Str)) = false := by decide) (he : starEach (e :: es) X.env = (false, eval e X.env) :: starEach es X.env := by rfl) (hpl : (backTo pos (starEach es X.env)).any (·.1) = false := by rfl) :
    EXD X W (.Call (.Name x p) (e :: es) [] pos) (eCallX a Φ) := by
  obtain ⟨f, fd, ps, Fn, hm, hk, hb, hp⟩ := C.ok
  refine PE_imp (pe_callS (E := WE W) Fn hr hg hm hk hb (fun σ => L2N.passAt tk σ) ha hdb he hpl) ?_
  rintro σ H Q ⟨g, S, F, ρ, r, S', R, e1, q⟩
  unfold eCallX at e1
  split at e1
  · rename_i ds S1 h1
    split at e1
    · cases e1
    · rename_i hh
      split at e1
      · rename_i r' st' h2
        cases e1
        refine ⟨g, S, F, ρ, ds, S1, R, h1, fun vs F1 ρ1 H1 s1 p1 R1 r1 => ?_⟩
        have rs := r1.reps (by simpa using hh)
        refine ⟨F1, ρ1, S1.store, ds, r, st', by rw [rs.length, hl _ _ _ h1, hn, hp], R1.c, rs, h2, ?_⟩
        cases r with
        | ok d => exact fun v F' ρ' H' P C r => q v F' ρ' H' (s1.trans P.f) (p1.trans P.r) (R1.after P C) (.inl r)
        | ex c ns ds => exact fun Ca dx F' ρ' H' P C x => q Ca dx F' ρ' H' (s1.trans P.f) (p1.trans P.r) (R1.after P C) x
      · cases e1
  · cases e1
end

/-! ### try .. except X as n -/
section
variable {α : Type}
open Classical in
/-- what comes out wherever the error lies -/
noncomputable def allX (φ : Addr → Addr → Addr → Option α) : Option α := if h : ∃ r, ∀ a C d, φ a C d = some r then some h.choose else none
theorem allX_eq {φ : Addr → Addr → Addr → Option α} {r : α} (h : ∀ a C d, φ a C d = some r) : allX φ = some r := by
  unfold allX
  have hx : ∃ r, ∀ a C d, φ a C d = some r := ⟨r, h⟩
  rw [dif_pos hx]
  have z := hx.choose_spec 0 0 0
  rw [h] at z
  exact z.symm
theorem allX_some {φ : Addr → Addr → Addr → Option α} {r : α} (h : allX φ = some r) : ∀ a C d, φ a C d = some r := by
  unfold allX at h
  split at h
  · rename_i hx
    cases h
    exact hx.choose_spec
  · cases h
end
def finX (i : Nat) (r : Option (Fl × DS)) : Option (Fl × DS) := match r with | some (f, S) => some (f, S.setE i .non) | none => none
abbrev SuM := Addr → Addr → Addr → Str → List Str → List D → SM
noncomputable def xTry (mb : XM) (i : Nat) (cat : Str → Option Bool) (ms : SuM) : XM := fun S => match mb S with
  | some (.ok f, S1) => some (.ok f, S1)
  | some (.ex c ns ds, S1) => (match cat c with
    | some true => (match allX fun a C dx => finX i (ms a C dx c ns ds (S1.setE i (.fro (.exc a C dx c ns ds)))) with | some (f, S2) => some (.ok f, S2) | none => none)
    | some false => some (.ex c ns ds, S1)
    | none => none)
  | none => none
theorem SR.set_non {T : Tx} {g : Gh} {S : DS} {F : Hp} {ρ : List Addr} {σ : L2.St} {H : Hp} (R : SR T g S F ρ σ H) {i : Nat} : SR T g (S.setE i .non) F ρ (σ.set i none) H := by
  refine ⟨R.fg, R.fn, R.fh, R.keep, R.rg, R.rnd, R.rnew, R.clen, R.cell, by simp [DS.setE, R.slen], fun k v' sl h1 h2 => ?_, fun k j b d1 d2 h1 h2 h3 h4 => ?_, fun q hq => ?_⟩
  · simp only [DS.setE] at h2
    by_cases hk : k = i
    · subst hk
      have hl : k < S.env.length := by have := (List.getElem?_eq_some_iff.mp h2).1; simpa using this
      rw [List.getElem?_set_self hl] at h2
      cases h2
      exact .non
    · rw [List.getElem?_set_ne (Ne.symm hk)] at h1 h2
      exact R.slot k v' sl h1 h2
  · simp only [DS.setE] at h1 h2
    have hk : k ≠ i := fun z => by
      subst z
      have hl : k < S.env.length := by have := (List.getElem?_eq_some_iff.mp h1).1; simpa using this
      rw [List.getElem?_set_self hl] at h1; cases h1
    have hj : j ≠ i := fun z => by
      subst z
      have hl : j < S.env.length := by have := (List.getElem?_eq_some_iff.mp h2).1; simpa using this
      rw [List.getElem?_set_self hl] at h2; cases h2
    rw [List.getElem?_set_ne (Ne.symm hk)] at h1 h3
    rw [List.getElem?_set_ne (Ne.symm hj)] at h2 h4
    exact R.apart k j b d1 d2 h1 h2 h3 h4
  · obtain ⟨h1, h2, h3, h4⟩ := R.exo q hq
    refine ⟨h1, h2, h3, fun k e he => ?_⟩
    simp only [DS.setE] at he
    have hk : k ≠ i := fun z => by
      subst z
      have hl : k < S.env.length := by have := (List.getElem?_eq_some_iff.mp he).1; simpa using this
      rw [List.getElem?_set_self hl] at he; cases he
    rw [List.getElem?_set_ne (Ne.symm hk)] at he ⊢
    exact h4 k e he
section
variable {X : Cx} {W : WX} {pos : Pos}
/-- the suite's reading -/
def tSu (X : Cx) (ms : SuM) (a : Addr) (cls : Value) (d : Option Addr) : TS := fun D σ H => ∃ C dx c ns ds, cls = .ref C ∧ d = some dx ∧ tS X (ms a C dx c ns ds) D σ H
theorem sx_try {x n : Str} {cv : Value} {body suite : List Stmt} {b₀ : Stmt} {np pos' : Pos} {mb : XM} {ms : SuM} {cat : Str → Option Bool} (i : Nat) (hs : X.stack = X.env :: X.outer) (hf : X.env.frame = some X.env.locals) (hN : X.N.Nodup) (hi : X.N[i]? = some n) (hln : X.env.kindOf n = some .local)
    (hc : Names X x cv) (tk : L2N.Takes X W) (hcat : ∀ c b C, cat c = some b → X.mg c = some (.ref C) → PySem.W.exmOne X.K (.ref C) cv = some b)
    (hb : ∀ (W' : WX) (pn : List (Addr × Obj)) (xe : Value → Shared → Prop), L2N.Takes (X.tr pn xe) W' → PassesOwn (model X.prog X.w) X.A X.env xe → BXD (X.tr pn xe) W' body mb)
    (hsu : ∀ (a : Addr) (oe : Obj) (C dx : Addr) (pn : List (Addr × Obj)) (c : Str) (ns : List Str) (ds : List D), L2N.Zn (.ref C) (some dx) oe → (∃ vs, oe.data = .fields vs) → BD (X.suite a ((a, oe) :: pn)) (b₀ :: suite) (ms a C dx c ns ds)) :
    SXD X W (.Try body [.ExceptHandler (some (.Name x np)) (some n) (b₀ :: suite) pos'] [] [] pos) (xTry mb i cat ms) := by
  refine PS_imp (L2N.ps_try_as (i := i) (tb := fun W' => tX X W' mb) (ts := tSu X ms) (Wout := W) hs hf hN hi hln hc tk (fun W' pn xe t p => hb W' pn xe t p) (fun a oe cls d pn hz hfd => ?_)) ?_
  · refine ⟨fun pins s σ H D I q => ?_⟩
    obtain ⟨C, dx, c, ns, ds, rfl, rfl, q⟩ := q
    exact (hsu a oe C dx pn c ns ds hz hfd).run pins s σ H D I q
  · rintro σ H D ⟨g, S, F, ρ, fl, S', R, e, q⟩
    unfold xTry at e
    split at e
    · rename_i f S1 h1
      cases e
      exact ⟨g, S, F, ρ, .ok f, S', R, h1, q⟩
    · rename_i c ns ds S1 h1
      refine ⟨g, S, F, ρ, .ex c ns ds, S1, R, h1, fun C dx F1 ρ1 σ1 H1 s1 p1 R1 x => ?_⟩
      split at e
      · rename_i hcc
        split at e
        · rename_i f S2 h2
          cases e
          have h2' := allX_some h2
          refine ⟨true, hcat _ _ _ hcc x.1, fun _ a na => ?_, fun z => by cases z⟩
          have h3 := h2' a C dx
          unfold finX at h3
          split at h3
          · rename_i f' S3 h4
            cases h3
            refine ⟨C, dx, c, ns, ds, rfl, rfl, g, _, F1, ρ1, f, S3, R1.set_fro x.rep, h4, ?_⟩
            cases f with
            | nx => exact fun F2 ρ2 σ2 H2 s2 p2 R2 => q F2 ρ2 _ H2 (s1.trans s2) (p1.trans p2) R2.set_non
            | bk => exact fun F2 ρ2 σ2 H2 s2 p2 R2 => q F2 ρ2 _ H2 (s1.trans s2) (p1.trans p2) R2.set_non
            | ct => exact fun F2 ρ2 σ2 H2 s2 p2 R2 => q F2 ρ2 _ H2 (s1.trans s2) (p1.trans p2) R2.set_non
            | rt d => exact fun v F2 ρ2 σ2 H2 s2 p2 R2 r => q v F2 ρ2 _ H2 (s1.trans s2) (p1.trans p2) R2.set_non r
          · cases h3
        · cases e
      · rename_i hcc
        cases e
        exact ⟨false, hcat _ _ _ hcc x.1, (fun z => by cases z), fun _ => q C dx F1 ρ1 σ1 H1 s1 p1 R1 x⟩
      · cases e
    · cases e
end
end DL

set_option Elab.async false
set_option linter.all false
set_option maxRecDepth 100000
set_option maxHeartbeats 1000000
namespace SX
open PySem PySem.Spec PyProof.Rows L2 NdefX

/-! ### what an error's __init__ promises -/
/-- a text or an int that an error may be made of -/
def okR : V → Bool
  | .str y => decide (y.length ≤ 1000) && y.cps.toList.all fun c => decide (c < 16 ^ 8)
  | .int i => decide (i.natAbs.log2 < 1920)
  | _ => false
/-- fl: the fields, of the arguments -/
def spFld (C : Addr) (fl : List V → Option (List (Str × V))) : Sp := fun vs H Q _ => ∃ a args fs, vs = .ref a :: args ∧ H a = some (exo a C none) ∧ fl args = some fs ∧ ∀ d, H d = none → d ≠ a → Q .non (upd (upd H d (exd d fs)) a (exo a C (some d)))
def fl1 (x : Str) : List V → Option (List (Str × V)) := fun vs => match vs with | [v] => if okR v = true then some [(x, v)] else none | _ => none
def fl2 (x y : Str) : List V → Option (List (Str × V)) := fun vs => match vs with | [v, u] => if okR v = true ∧ okR u = true then some [(y, u), (x, v)] else none | _ => none
theorem sizeLine_big {n : Nat} (h : n ≤ 16777216) : n ≤ sizeLine := by rw [sizeLine_eq]; exact h
theorem okR_cases {v : V} (h : okR v = true) : (∃ y : Str, v = .str y ∧ (reprText y).length ≤ 20000 ∧ y.length ≤ 20000) ∨ ∃ i : Int, v = .int i ∧ i.natAbs.log2 < 1920 ∧ ((toString i : String) : Str).length ≤ 20000 := by
  cases v with
  | str y =>
    unfold okR at h
    rw [Bool.and_eq_true, decide_eq_true_eq] at h
    have hl := StrLaws.reprText_len y fun c hc => by simpa using (List.all_eq_true.mp h.2) c hc
    exact .inl ⟨y, rfl, by omega, by omega⟩
  | int i =>
    have h' : i.natAbs.log2 < 1920 := by simpa [okR] using h
    have hl := int_text_length_le (by decide) h'
    refine .inr ⟨i, rfl, h', ?_⟩
    show (Str.ofString (toString i)).length ≤ 20000
    rw [PySem.ofString_length]
    omega
  | _ => cases h
theorem app_len (a b : Str) : (a ++ b).length = a.length + b.length := Str.length_append a b
theorem app_fit {a b : Str} {n : Nat} (ha : a.length ≤ n) (hb : b.length ≤ 20000) : (a ++ b).length ≤ n + 20000 := by
  rw [app_len]
  omega
theorem fit_line {a : Str} {n : Nat} (h : a.length ≤ n) (hn : n ≤ 16777216) : a.length ≤ sizeLine := sizeLine_big (Nat.le_trans h hn)

/-- what the text says of an error class over ValueError, and of its __init__ -/
structure ErrC (P : Program) (K : PySem.W.Frag) (mg : Str → Option Value) (C f cc cda : Addr) : Prop where
  ox : OexC K C
  sup : SupTxt P K f cc cda C
  ms : mg "super" = none
  st : PySem.W.nsIn K cStatics "thirdparty.any" = some none
  sub : PySem.W.mroIn K C (.ref C) = some true
  ini : PySem.W.ks_superIn K C C "__init__" = some (some (.builtin "ValueError.__init__"))
  ve : PySem.W.subIn K (.ref C) (.type "ValueError") = some true

end SX

set_option Elab.async false
set_option linter.all false
set_option maxRecDepth 100000
set_option maxHeartbeats 1000000
namespace SX
open PySem PySem.Spec PyProof.Rows L2 NdefX

section
variable {prog : Program} {w : World} {A : Around} {E : Value → Shared → Prop} {s : Shared} {a : Addr} {o : Obj}
/-- list.__repr__, whatever is under way: some text -/
theorem list_repr_head {M : Model} {Q : Fin → Shared → Prop} {x : Value} {l : List Value} {n : Nat} (hget : s.heap.get? a = some o) (hd : o.data = .seq (x :: l).toArray n)
    (h1 : Q (.done (.ret (.str "[...]" s.toks))) { s with toks := s.toks + 1 })
    (h2 : wpAny M A (do again (.builtin "list.__repr__.loop" ⟨[.ref a, rawInt 0, ← newList [], rawInt 0], []⟩)) Q E s) : wpAny M A (Builtin.listReprAt 0 ⟨[.ref a], []⟩) Q E s := by
  intro Γ p hΓ
  have g2 := h2 Γ p hΓ
  unfold Builtin.listReprAt
  simp [slotArgs, Builtin.List.listItems, seqItems?, Sem.wp_load_of (h := hget), hd, stack]
  show Sem.wp M Γ (if (Γ.below.any _) = true then _ else _) _ _ p s
  split
  · simp [rule, retStr, ret]
    exact h1
  · exact g2
theorem list_repr_any {items : List Value} {n : Nat} {ts : List Str} {Q : Value → Shared → Prop} (hu : A.units < cLine) (hget : s.heap.get? a = some o) (hc : o.cls = .type "list") (hd : o.data = .seq items.toArray n) (hlen : ts.length = items.length)
    (hT : ∀ (i : Nat) (y : Value), items[i]? = some y → ∃ t, ts[i]? = some t ∧ ReprIs prog w y t) (hsz : (listText ts).length ≤ 1000000)
    (hQ : ∀ (m : Str) h' u tk, m.length ≤ 1000000 → (∀ b o, s.heap.get? b = some o → h'.get? b = some o) → Q (.str m u) { s with heap := h', toks := tk }) : wpAny (model prog w) A (pyReprObj (.ref a)) Q E s := by
  have hTy : s.TypeIs (.ref a) "list" := ⟨o, hget, hc⟩
  cases items with
  | nil => exact wpAny_pyReprObj_list_empty hTy hu hget hd (hQ _ s.heap _ _ (by decide +kernel) fun _ _ e => e)
  | cons x l =>
    refine wpAny_pyReprObj_slot hu hTy F.slot_list_repr.toG ?_
    refine wpAny_call (codeAny_call_builtin F.slot_list_repr.plain F.entry_list_repr (F.slot_list_repr.check _ _ _ _ _ _ _ _ hTy (F.args_list_repr_1 _) ?_))
    refine list_repr_head (A := A.in1) hget hd ?_ ?_
    · exact ⟨_, _, rfl, hQ _ s.heap _ _ (by decide +kernel) fun _ _ e => e⟩
    · refine wpAny_bind (m := newList []) (wpAny_newObj_type ?_)
      refine wpAny_pure ⟨F.quiet_list_repr_loop _, ?_⟩
      refine codeAny_list_repr_start (b := 0) (ts := ts) (P := s.heap.objs.size) (Nat.ne_of_lt (Heap.lt_size hget)) (by simpa using hlen) (fun i y e => hT i y (by simpa using e)) (Heap.get?_push_of_some _ hget) hd (Heap.get?_push_size _ rfl) (fun h' u tk hk => ?_) (by rw [sizeLine_eq]; omega)
      exact ⟨_, _, rfl, hQ _ h' u tk hsz fun b o e => hk b o (Nat.ne_of_lt (Heap.lt_size e)) (Heap.get?_push_of_some _ e)⟩
end
def smallI (i : Int) : Bool := decide (i.natAbs.log2 < 1920)
theorem reps_smallI : ∀ {l : List Int} {its : List Value}, Vals (l.map V.int) its → (∀ y ∈ l, smallI y = true) → ∀ (prog : Program) (w : World) (i : Nat) (y : Value), its[i]? = some y → ∃ t, (l.map fun k => (toString k : Str))[i]? = some t ∧ ReprIs prog w y t
  | [], _, r, _, _, _, i, y, h => by
    cases r
    simp at h
  | k :: l, _, r, hs, prog, w, i, y, h => by
    cases r with
    | cons r1 r2 =>
      obtain ⟨t, rfl⟩ := r1
      cases i with
      | zero =>
        simp at h
        subst h
        exact ⟨_, rfl, ReprIs.int t (by simpa [smallI] using hs k (by simp))⟩
      | succ i =>
        obtain ⟨t', h1, h2⟩ := reps_smallI r2 (fun z hz => hs z (List.mem_cons_of_mem _ hz)) prog w i y (by simpa using h)
        exact ⟨t', by simpa using h1, h2⟩
theorem shown_len {l : List Int} (hs : ∀ y ∈ l, smallI y = true) (hl : l.length ≤ 100) : (listText (l.map fun k => (toString k : Str))).length ≤ 1000000 := by
  have h1 := listText_len_le (l.map fun k => (toString k : Str))
  have h2 : ∀ l : List Int, (∀ y ∈ l, smallI y = true) → ((l.map fun k => (toString k : Str)).map (·.length)).sum ≤ 2000 * l.length := by
    intro l
    induction l with
    | nil => intro _; simp
    | cons k l ih =>
      intro h
      have i1 := ih fun z hz => h z (List.mem_cons_of_mem _ hz)
      have i2 : ((toString k : String) : Str).length ≤ 1921 := by
        show (Str.ofString (toString k)).length ≤ 1921
        rw [PySem.ofString_length]
        exact int_text_length_le (by decide) (by simpa [smallI] using h k (by simp))
      simp only [List.map_cons, List.sum_cons, List.length_cons]
      have i3 : ((toString k : String) : Str).length = (Str.ofString (toString k)).length := rfl
      omega
  have h3 := h2 l hs
  rw [List.length_map] at h1
  omega
/-- {x!r} of a list of ints: some text -/
def tFmtL (K : PySem.W.Frag) (te : TE) : TE := fun σ H Q => te σ H fun x H1 => ∃ (a : Addr) (l : List Int), x = .ref a ∧ SqL K H1 a (l.map V.int) ∧ (∀ y ∈ l, smallI y = true) ∧ l.length ≤ 100 ∧ ∀ m : Str, m.length ≤ 1000000 → Q (.str m) H1
theorem pe_fmtL {X : Cx} {e : Expr} {te : TE} {pos : Pos} (hu : X.A.units < cLine) (he : PE X e te) : PE X (.FormattedValue e 114 none pos) (tFmtL X.K te) := by
  refine ⟨fun pins s σ H Q I h => ?_⟩
  refine wpAny_FormattedValue_repr (thn (he.run pins s σ H _ I h) fun v s1 hv => ?_)
  obtain ⟨x, H1, I1, r1, a, l, rfl, hl, hs, hn, q⟩ := hv
  cases r1
  obtain ⟨its, rv, ⟨o, n, ho, hcl, hdn, hd⟩, _⟩ := I1.list hl
  refine list_repr_any hu ho hcl hd (ts := l.map fun k => (toString k : Str)) (by rw [List.length_map, ← Paired.length rv, List.length_map]) (reps_smallI rv hs _ _) (shown_len hs hn) fun m h' u tk hm hk => ?_
  have I2 : Inv X pins σ H1 { s1 with heap := h', toks := tk } := I1.kept (t' := tk) hk
  exact wpAny_formatField_str ⟨.str m, H1, I2, ⟨_, rfl⟩, q m hm⟩ ⟨.str m, H1, I2.tok _, ⟨_, rfl⟩, q m hm⟩ (sizeLine_big (by omega))
end SX

set_option Elab.async false
set_option linter.all false
set_option maxRecDepth 100000
set_option maxHeartbeats 1000000
namespace SX
open PySem PySem.Spec PyProof.Rows L2 NdefX DL
section
variable {X : Cx} {e : Expr} {es : List Expr} {ta : TA} {p pos : Pos}
/-- an own error made: as the kit's rule, its context told to be None -/
theorem pmk_own_init {CX : CXT} {x : Str} {C fI : Addr} {k : Nat} {fd : FuncData} {ps : List Str} {sp : Sp} (T : OexC X.K C) (iC : PySem.W.findIn X.K (.ref C) "__init__" = some (some (.ref fI))) (tI : PySem.W.typeIn X.K (.ref fI) = some (.type "function"))
    (F1 : FnOk X.prog X.w X.K X.mg X.base CX k fI fd ps sp) (hr : Room (k + 1) X.A) (hb : Binds X.K fd ps []) (hx : Passes CX X (fun _ _ _ => False)) (hg : Gl X x) (hm : X.mg x = some (.ref C)) (ha : PA X (e :: es) ta)
    (hdb : (x == ("__debug__" : Str)) = false := by decide) (he : starEach (e :: es) X.env = (false, eval e X.env) :: starEach es X.env := by rfl) (hpl : (backTo pos (starEach es X.env)).any (·.1) = false := by rfl) :
    L2N.PMk X (.Call (.Name x p) (e :: es) [] pos) (tMkO C sp [] ta) := by
  intro pins s σ H Q I h
  obtain ⟨nm, q, N, bs, bm, sn, sub, ab, col, dd, k0, k1, k2, k3, k5, hC, hbm⟩ := T.cls
  refine wpAny_Call_Name_kw (ld_glob I hg hm ?_ hdb)
  refine PySem.W.callWith_K (h₀ := X.base) I.ok.mod.kin T.kC (thn (ha.run pos pins s σ H _ I h) fun us s1 hh => ?_) he hpl
  obtain ⟨vs, H1, I1, r1, hz, q1⟩ := hh
  refine ⟨I1.kIn, ?_⟩
  show wpAny _ _ (call (.ref C) us) _ _ _
  obtain ⟨hp, g, dr, tk, os⟩ := s1
  have fresh : hp.objs.size ≤ hp.objs.size + 1 := Nat.le_succ _
  have hn : H1 (hp.objs.size + 1) = none := I1.hok.fresh fresh
  have hq := q1 (hp.objs.size + 1) hn
  rw [List.append_nil] at hq
  have two : ∀ b o, hp.get? b = some o → ((hp.push (PySem.W.kdv_tup us)).push (PySem.HandSPX.excO C hp.objs.size)).get? b = some o := fun b o e => Heap.get?_push_of_some _ (Heap.get?_push_of_some _ e)
  have laid : ((hp.push (PySem.W.kdv_tup us)).push (PySem.HandSPX.excO C hp.objs.size)).get? (hp.objs.size + 1) = some (PySem.HandSPX.excO C hp.objs.size) := by heap_get
  have I2 : Inv X pins σ (L2.upd H1 (hp.objs.size + 1) (exo (hp.objs.size + 1) C none)) ⟨(hp.push (PySem.W.kdv_tup us)).push (PySem.HandSPX.excO C hp.objs.size), g, dr, tk, os⟩ :=
    I1.laid (t' := tk) (a := hp.objs.size + 1) (o := exo (hp.objs.size + 1) C none) (h' := (hp.push (PySem.W.kdv_tup us)).push (PySem.HandSPX.excO C hp.objs.size)) two fresh (exo_ok laid)
  have r2 : Vals (V.ref (hp.objs.size + 1) :: vs) (Value.ref (hp.objs.size + 1) :: us) := .cons rfl r1
  have hl : (Value.ref (hp.objs.size + 1) :: us).length = ps.length := by rw [← r2.length]; exact F1.len _ _ _ _ hq
  have hus : us.length ≤ sizeLine := by
    rw [← Paired.length r1, sizeLine_eq]
    omega
  have b0 := hb _ (Value.ref (hp.objs.size + 1) :: us) I2.kIn (by rw [List.append_nil]; exact hl)
  rw [List.append_nil] at b0
  refine wpAny_call (PySem.HandSPX.call_own F.excBase_ValueError (fun Y => PySem.HandSPX.refsVE_contains Y bm hbm) (I1.kIn _ _ hC) (PySem.W.looks_findIn I1.kIn iC) (fun self => PySem.W.bind_fn I1.kIn self tI) hus
    (codeAny_mono (F1.run _ X.stack _ _ ⟨Value.ref (hp.objs.size + 1) :: us, []⟩ (Value.ref (hp.objs.size + 1) :: us) _ _ (fun _ _ _ => False) (hr.make C us []) (I2.env0.make C us []) b0 r2 hq) fun r s' hq' => ?_))
  cases r with
  | error er => exact hx pins σ _ _ er s' I2 hq'
  | ok fl =>
    cases fl with
    | ret u =>
      obtain ⟨v, H2, os2, bare2, un2, hok2, rv, ev, d, fs, ea, ed, hd1, q2⟩ := hq'
      subst ev
      obtain ⟨h2, g2, d2, t2, os'⟩ := s'
      obtain ⟨t0, G, J, kG, ge, hoe, na⟩ := mk_end0 (d2 := d2) (t2 := t2) I1 fresh two un2 hok2 os2 bare2 ea ed hd1
      exact ⟨rv, ⟨_, _, _, ⟨G, g2, d2, t2, os'⟩, _, .ref C, some d, rfl, J, kG, ge, hoe, ⟨rfl, rfl, fun vs e => by cases e; rfl⟩, rfl, rfl, na, rfl, bare2, raises_own T.exC T.tyC, q2⟩⟩
    | next => exact False.elim hq'
    | brk => exact False.elim hq'
    | cont => exact False.elim hq'
end

/-! ### raise C(..) -/
/-- the error's __init__ as its callers see it -/
structure MkX (P : Program) (w : World) (K : PySem.W.Frag) (mg : Str → Option Value) (base : Heap) (k : Nat) (x : Str) (n : Nat) (sp : Addr → Sp) : Prop where
  ok : ∃ C fI fd ps, OexC K C ∧ PySem.W.findIn K (.ref C) "__init__" = some (some (.ref fI)) ∧ PySem.W.typeIn K (.ref fI) = some (.type "function") ∧ FnOk P w K mg base CX0 k fI fd ps (sp C) ∧ Binds K fd ps [] ∧ mg x = some (.ref C) ∧ ps.length = n + 1
/-- the same fields, as data -/
def flD (fl : List V → Option (List (Str × V))) (fd : List D → Option (List Str × List D)) : Prop := ∀ (T : Tx) (F : Hp) (ρ : List Addr) (vs : List V) (ds : List D) (ns : List Str) (es : List D), Reps T F ρ vs ds → fd ds = some (ns, es) →
  ∃ us, fl vs = some (ns.zip us) ∧ us.length = ns.length ∧ Reps T F ρ us es
def xRaise (a : AM) (c : Str) (fd : List D → Option (List Str × List D)) : XM := fun S => match a S with
  | some (ds, S1) => if ds.any isHnd then none else (if ds.length ≤ 900 then (match fd ds with | some (ns, es) => some (.ex c ns es, S1) | none => none) else none)
  | none => none
theorem fin_upd {H : Hp} {a d : Addr} {e0 e1 o1 o2 : HO} (ha : H a = none) (hd : d ≠ a) : L2.upd (L2.del (L2.upd (L2.upd (L2.upd H a e0) d o1) a e1) a) d o2 = L2.upd H d o2 := by
  funext b
  by_cases h : b = d
  · rw [h, upd_same, upd_same]
  · rw [upd_ne h, upd_ne h]
    by_cases h2 : b = a
    · rw [h2, del_same, ha]
    · rw [del_ne h2, upd_ne h2, upd_ne h, upd_ne h2]
theorem sx_raise {X : Cx} {W : WX} {x : Str} {e : Expr} {es : List Expr} {a : AM} {k : Nat} {fl : List V → Option (List (Str × V))} {fdd : List D → Option (List Str × List D)} {p pos pos2 : Pos} (hc : X.calm = true) (tk : L2N.Takes X W)
    (M : MkX X.prog X.w X.K X.mg X.base k x (e :: es).length (fun C => spFld C fl)) (hfl : flD fl fdd) (hr : Room (k + 1) X.A) (hg : Gl X x) (ha : AD X (e :: es) a) (hl : ALen a (e :: es).length)
    (hdb : (x == ("__debug__" : Str)) = false := by decide) (he : starEach (e :: es) X.env = (false, eval e X.env) :: starEach es X.env := by rfl) (hpl : (backTo pos (starEach es X.env)).any (·.1) = false := by rfl) :
    SXD X W (.Raise (some (.Call (.Name x p) (e :: es) [] pos)) none pos2) (xRaise a x fdd) := by
  obtain ⟨C, fI, fd, ps, ox, hf, ht, F1, hb, hm, hp⟩ := M.ok
  refine PS_imp (L2N.ps_raise hc tk (pmk_own_init ox hf ht F1 hr hb (fun _ _ _ _ _ _ _ h => h.elim) hg hm ha hdb he hpl)) ?_
  rintro σ H Dd ⟨g, S, F, ρ, r, S', R, e1, q⟩
  unfold xRaise at e1
  split at e1
  · rename_i ds S1 h1
    split at e1
    · cases e1
    · rename_i hh
      split at e1
      · rename_i h900
        split at e1
        · rename_i ns es' h2
          cases e1
          refine ⟨g, S, F, ρ, ds, S', R, h1, fun vs F1' ρ1 H1 s1 p1 R1 r1 => ?_⟩
          have rs := r1.reps (by simpa using hh)
          refine ⟨by rw [rs.length]; omega, fun ad had => ?_⟩
          obtain ⟨us, hu, hul, hur⟩ := hfl _ _ _ _ _ _ _ rs h2
          rw [List.append_nil]
          refine ⟨ad, vs, ns.zip us, rfl, upd_same, hu, fun d hd hda => ⟨rfl, d, ns.zip us, upd_same, by rw [upd_ne hda, upd_same], by rw [upd_ne hda] at hd; exact hd, ?_⟩⟩
          have hd1 : H1 d = none := by rw [upd_ne hda] at hd; exact hd
          rw [fin_upd had hda]
          have s2 := Sub.upd (o := HO.xd (ns.zip us)) (R1.new_g hd1).2.2
          exact q C d _ ρ1 σ _ (s1.trans s2) p1 (R1.alloc hd1) ⟨hm, us, upd_same, hul, hur.mono s2 (List.prefix_refl _)⟩
        · cases e1
      · cases e1
  · cases e1
/-! the usual fields -/
def okD : D → Bool
  | .str y => okR (.str y)
  | .int i => okR (.int i)
  | _ => false
theorem okD_ok {T : Tx} {F : Hp} {ρ : List Addr} {v : V} {d : D} (r : Rep T F ρ v d) (h : okD d = true) : okR v = true := by
  cases r with
  | str s => exact h
  | int i => exact h
  | _ => cases h
def fd1 (x : Str) : List D → Option (List Str × List D) := fun ds => match ds with | [d] => if okD d = true then some ([x], [d]) else none | _ => none
def fd2 (x y : Str) : List D → Option (List Str × List D) := fun ds => match ds with | [d, e] => if okD d = true ∧ okD e = true then some ([y, x], [e, d]) else none | _ => none
theorem flD1 {x : Str} : flD (fl1 x) (fd1 x) := by
  intro T F ρ vs ds ns es rs h
  unfold fd1 at h
  split at h
  · rename_i d
    split at h
    · rename_i hd
      cases h
      cases rs with
      | cons a b =>
        cases b
        exact ⟨[_], by unfold fl1; dsimp only; rw [if_pos (okD_ok a hd)]; rfl, rfl, .cons a .nil⟩
    · cases h
  · cases h
theorem flD2 {x y : Str} : flD (fl2 x y) (fd2 x y) := by
  intro T F ρ vs ds ns es rs h
  unfold fd2 at h
  split at h
  · rename_i d e
    split at h
    · rename_i hd
      cases h
      cases rs with
      | cons a b =>
        cases b with
        | cons b c =>
          cases c
          exact ⟨[_, _], by unfold fl2; dsimp only; rw [if_pos ⟨okD_ok a hd.1, okD_ok b hd.2⟩]; rfl, rfl, .cons b (.cons a .nil)⟩
    · cases h
  · cases h
end SX

set_option Elab.async false
set_option linter.all false
set_option maxRecDepth 100000
set_option maxHeartbeats 1000000
namespace SX
open PySem PySem.Spec PyProof.Rows L2 NdefX DL

/-! ### an error that keeps a copy of a list of ints -/
def spRow (K : PySem.W.Frag) (x : Str) (C : Addr) : Sp := fun vs H Q _ => ∃ (a r : Addr) (l : List Int), vs = [.ref a, .ref r] ∧ H a = some (exo a C none) ∧ SqL K H r (l.map V.int) ∧ (∀ y ∈ l, smallI y = true) ∧ l.length ≤ 100 ∧
  ∀ b d, H b = none → b ≠ a → H d = none → d ≠ b → d ≠ a → Q .non (L2.upd (L2.upd (L2.upd H b (.lst (l.map V.int))) d (exd d [(x, .ref b)])) a (exo a C (some d)))
def fdRow (x : Str) : List D → Option (List Str × List D) := fun ds => match ds with
  | [.lst es] => (match intsOf es with | some l => if l.all smallI = true ∧ l.length ≤ 100 then some ([x], [.lst es]) else none | none => none)
  | _ => none
theorem intsOf_reps {T : Tx} {F : Hp} {ρ : List Addr} : ∀ {ds : List D} {l : List Int}, intsOf ds = some l → Reps T F ρ (l.map V.int) ds
  | [], l, h => by cases h; exact .nil
  | d :: ds, l, h => by
    unfold intsOf at h
    split at h
    · rename_i z; cases z
    · rename_i s r z
      cases z
      split at h
      · rename_i l' hl
        cases h
        exact .cons (.int s) (intsOf_reps hl)
      · cases h
    · cases h
theorem fin_upd2 {H : Hp} {a b d : Addr} {e0 e1 o0 o1 o2 : HO} (ha : H a = none) (hb : b ≠ a) (hd : d ≠ a) : L2.upd (L2.del (L2.upd (L2.upd (L2.upd (L2.upd H a e0) b o0) d o1) a e1) a) d o2 = L2.upd (L2.upd H b o0) d o2 := by
  funext z
  by_cases h : z = d
  · rw [h, upd_same, upd_same]
  · rw [upd_ne h, upd_ne h]
    by_cases h2 : z = a
    · rw [h2, del_same, upd_ne (Ne.symm hb), ha]
    · rw [del_ne h2, upd_ne h2, upd_ne h]
      by_cases h3 : z = b
      · rw [h3, upd_same, upd_same]
      · rw [upd_ne h3, upd_ne h3, upd_ne h2]
theorem sx_raiseRow {X : Cx} {W : WX} {x y : Str} {e : Expr} {a : AM} {k : Nat} {p pos pos2 : Pos} (hc : X.calm = true) (tk : L2N.Takes X W)
    (M : MkX X.prog X.w X.K X.mg X.base k x 1 (spRow X.K y)) (hr : Room (k + 1) X.A) (hg : Gl X x) (ha : AD X [e] a) (hl : ALen a 1)
    (hdb : (x == ("__debug__" : Str)) = false := by decide) (he : starEach [e] X.env = (false, eval e X.env) :: starEach [] X.env := by rfl) (hpl : (backTo pos (starEach [] X.env)).any (·.1) = false := by rfl) :
    SXD X W (.Raise (some (.Call (.Name x p) [e] [] pos)) none pos2) (xRaise a x (fdRow y)) := by
  obtain ⟨C, fI, fd, ps, ox, hf, ht, F1, hb, hm, hp⟩ := M.ok
  refine PS_imp (L2N.ps_raise hc tk (pmk_own_init ox hf ht F1 hr hb (fun _ _ _ _ _ _ _ h => h.elim) hg hm ha hdb he hpl)) ?_
  rintro σ H Dd ⟨g, S, F, ρ, r, S', R, e1, q⟩
  unfold xRaise at e1
  split at e1
  · rename_i ds S1 h1
    split at e1
    · cases e1
    · rename_i hh
      split at e1
      · rename_i h900
        split at e1
        · rename_i ns es' h2
          cases e1
          refine ⟨g, S, F, ρ, ds, S', R, h1, fun vs F1' ρ1 H1 s1 p1 R1 r1 => ?_⟩
          have rs := r1.reps (by simpa using hh)
          refine ⟨by rw [rs.length]; omega, fun ad had => ?_⟩
          rw [List.append_nil]
          unfold fdRow at h2
          split at h2
          · rename_i es
            split at h2
            · rename_i l hl'
              split at h2
              · rename_i hs
                cases h2
                cases rs with
                | cons ra rb =>
                  cases rb
                  cases ra with
                  | @lst r xs _ hF rxs =>
                    have ex := reps_ints rxs hl'
                    subst ex
                    have hne : r ≠ ad := ne_of_none (R1.fh _ _ hF) had
                    refine ⟨ad, r, l, rfl, upd_same, SqL.of (by rw [upd_ne hne]; exact R1.fh _ _ hF), fun y hy => (List.all_eq_true.mp hs.1) y hy, hs.2, fun b d hb hba hd hdb2 hda => ?_⟩
                    have hb1 : H1 b = none := by rw [upd_ne hba] at hb; exact hb
                    have hd1 : H1 d = none := by rw [upd_ne hda] at hd; exact hd
                    refine ⟨rfl, d, [(y, .ref b)], upd_same, by rw [upd_ne hda, upd_same], hd1, ?_⟩
                    rw [fin_upd2 had hba hda]
                    have s2 := Sub.upd (o := HO.lst (l.map V.int)) (R1.new_g hb1).2.2
                    have R2 := R1.alloc (o := .lst (l.map V.int)) hb1
                    have hd2 : L2.upd H1 b (.lst (l.map V.int)) d = none := by rw [upd_ne hdb2]; exact hd1
                    have s3 := Sub.upd (o := HO.xd [(y, .ref b)]) (R2.new_g hd2).2.2
                    have rl := intsOf_reps (T := tx X) (F := L2.upd (L2.upd F1' b (.lst (l.map V.int))) d (.xd [(y, .ref b)])) (ρ := ρ1) hl'
                    exact q C d _ ρ1 σ _ ((s1.trans s2).trans s3) p1 (R2.alloc hd2) ⟨hm, [.ref b], upd_same, rfl, .cons (.lst (by rw [upd_ne (Ne.symm hdb2), upd_same]) rl) .nil⟩
              · cases h2
            · cases h2
          · cases h2
        · cases e1
      · cases e1
  · cases e1
end SX

set_option Elab.async false
set_option linter.all false
set_option maxRecDepth 100000
set_option maxHeartbeats 1000000
namespace SX
open PySem PySem.Spec PyProof.Rows L2 NdefX DL

/-! ### the error in hand -/
/-- at a: the error that is handled, of the class at C, its dict at dx -/
structure HotAt (X : Cx) (a C dx : Addr) : Prop where
  ex : ∃ oe : Obj, (a, oe) ∈ X.pn ∧ oe.cls = .ref C ∧ oe.dict = some dx ∧ ∃ vs : Array Value, oe.data = .fields vs ∧ vs[2]? = some .none
  hd : X.A.handled = some (.ref a)
theorem hot_suite {X : Cx} {a C dx : Addr} {oe : Obj} {pn : List (Addr × Obj)} (hz : L2N.Zn (.ref C) (some dx) oe) (hf : ∃ vs, oe.data = .fields vs) : HotAt (X.suite a ((a, oe) :: pn)) a C dx := by
  obtain ⟨vs, hf⟩ := hf
  exact ⟨⟨oe, List.mem_cons_self .., hz.1, hz.2.1, vs, hf, hz.2.2 vs hf⟩, rfl⟩
structure ExcK (K : PySem.W.Frag) (C : Addr) : Prop where
  ga : PySem.W.findIn K (.ref C) "__getattribute__" = some (some (.builtin "BaseException.__getattribute__"))
  gg : PySem.W.findIn K (.ref C) "__getattr__" = some none
  sb : PySem.W.subIn K (.ref C) (.type "BaseException") = some true
  hd : PySem.W.hasDictIn K C = true
  cl : PySem.W.findIn K (.ref C) "__class__" = some (some (.builtin "object.__class__"))
  sp : PySem.W.specialIn K (.builtin "object.__class__") "__get__" = some (some (.builtin "getset_descriptor.__get__"))
  tk : PySem.W.takesIn K (.builtin "object.__class__") = some true
  mo : PySem.W.mroIn K C (.type "object") = some true
section
variable {X : Cx} {a C dx : Addr} {pins : List (Addr × Obj)} {σ : L2.St} {H : Hp} {s : Shared} {fs : List (Str × V)}
theorem hot_inst (h : HotAt X a C dx) (I : Inv X pins σ H s) (e : H dx = some (.xd fs)) : ∃ (oe od : Obj) (mA : Str → Option Value), PySem.W.InstAt s.heap a oe C (some od) ∧ (∀ f, RelO (fs.lookup f) (mA f)) ∧ ∀ n, PySem.W.lookIn n od = some (mA n) := by
  obtain ⟨oe, hm, hc, hd, vs, hf, _⟩ := h.ex
  obtain ⟨ha, _⟩ := I.pin (a, oe) (List.mem_append_left _ hm)
  have hx : ObjOk X.prog X.w H s.heap dx (.xd fs) := I.hok dx _ e
  obtain ⟨mA, hns, hr⟩ := hx
  obtain ⟨od, ho, hlk⟩ := lookIn_ns hns
  exact ⟨oe, od, mA, ⟨ha, hc, by unfold PySem.W.notCls; rw [hf] <;> rfl, by rw [hd]; exact ho⟩, hr, hlk⟩
end
section
variable {X : Cx} {a C dx : Addr} {e : Expr} {te : TE} {pos : Pos} {n : Str}
/-- e.n -/
def tXF (a dx : Addr) (n : Str) (te : TE) : TE := fun σ H Q => te σ H fun x H1 => x = .ref a ∧ ∃ (fs : List (Str × V)) (v : V), H1 dx = some (.xd fs) ∧ fs.lookup n = some v ∧ Q v H1
theorem pe_xF (h : HotAt X a C dx) (T : ExcK X.K C) (hno : PySem.W.findIn X.K (.ref C) n = some none) (he : PE X e te) (hb : attributeBase e n X.env (eval e X.env) = eval e X.env := by rfl) : PE X (.Attribute e n pos) (tXF a dx n te) := by
  refine ⟨fun pins s σ H Q I q => ?_⟩
  refine attr_of hb (thn (he.run pins s σ H _ I q) fun u s1 hh => ?_)
  obtain ⟨x, H1, I1, rx, ex, fs, v, ed, l, q1⟩ := hh
  subst ex
  obtain rfl : u = Value.ref a := rx
  obtain ⟨oe, od, mA, J, hr, hlk⟩ := hot_inst h I1 ed
  obtain ⟨u, hu, ru⟩ := RelO.some_of (v := v) (o := mA n) (by rw [← l]; exact hr n)
  exact HandSPX.exc_get I1.kIn J T.ga T.gg T.sb (PySem.W.findObj_own T.hd hno rfl (by rw [hlk, hu])) (handed_of ru) ⟨v, H1, I1.tok _, ru, q1⟩
/-- isinstance(e, T) -/
def rXI (K : PySem.W.Frag) (a C dx : Addr) : List V → Hp → VK → Prop := fun xs H Q => ∃ (c : V) (cv : Value) (b : Bool) (fs : List (Str × V)), xs = [.ref a, c] ∧ (∀ u, RelV c u → u = cv) ∧ ExcK K C ∧ PySem.W.kitOne K (.ref C) cv = some b ∧ H dx = some (.xd fs) ∧ Q (.bl b) H
theorem call_xI (h : HotAt X a C dx) : CallR X (.builtin "isinstance") (rXI X.K a C dx) := by
  intro pins s σ H xs us Q I r hh
  obtain ⟨c, cv, b, fs, rfl, hcv, T, ek, ed, q⟩ := hh
  cases r with
  | cons rx rr =>
    cases rr with
    | cons rt rr =>
      cases rr
      cases rx
      obtain rfl := hcv _ rt
      obtain ⟨oe, od, mA, J, _, _⟩ := hot_inst h I ed
      have hcl : (PySem.W.clsIn X.K C).isSome = true := by
        obtain ⟨cd, hc, _⟩ := PySem.W.any_some T.hd
        rw [hc] <;> rfl
      exact PySem.W.kia_one (PySem.W.kitx_exc hcl T.ga T.gg T.sb T.cl T.sp T.tk T.mo) I.kIn J ek (fun z => nomatch z) fun tk => ⟨.bl b, H, I.kept (t' := tk) fun _ _ z => z, rfl, q⟩

/-! as data -/
theorem look_zip {T : Tx} {F : Hp} {ρ : List Addr} : ∀ {ns : List Str} {vs : List V} {ds : List D} {k : Str} {d : D}, vs.length = ns.length → Reps T F ρ vs ds → lookD ns ds k = some d → ∃ v, (ns.zip vs).lookup k = some v ∧ Rep T F ρ v d
  | [], _, _, k, d, _, _, h => by cases h
  | n :: ns, [], _, k, d, hl, _, _ => by cases hl
  | n :: ns, v :: vs, d0 :: ds, k, d, hl, .cons r rs, h => by
    unfold lookD at h
    rw [List.zip_cons_cons]
    by_cases hk : n = k
    · subst hk
      rw [if_pos rfl] at h
      cases h
      exact ⟨v, by simp [List.lookup], r⟩
    · rw [if_neg hk] at h
      obtain ⟨w, h1, h2⟩ := look_zip (by simpa using hl) rs h
      refine ⟨w, ?_, h2⟩
      have hb : (k == n) = false := by simpa using fun z => hk z.symm
      simp only [List.lookup, hb]
      exact h1
/-- e.f of the error; ok: the classes of which it is known -/
def eXf (a C dx : Addr) (ok : Str → Bool) (m : EM) (f : Str) : EM := eB m fun x => fun S => match x with
  | .exc a' C' dx' c ns ds => if a' = a ∧ C' = C ∧ dx' = dx ∧ ok c = true then (match lookD ns ds f with | some d => some (d, S) | none => none) else none
  | _ => none
def eXi (a C dx : Addr) (tb : Str → Option Bool) (m : EM) : EM := eB m fun x => fun S => match x with
  | .exc a' C' dx' c ns ds => if a' = a ∧ C' = C ∧ dx' = dx then (match tb c with | some b => some (.bl b, S) | none => none) else none
  | _ => none
theorem ed_xf {ok : Str → Bool} {m : EM} (h : HotAt X a C dx) (hok : ∀ c C, ok c = true → X.mg c = some (.ref C) → ExcK X.K C ∧ PySem.W.findIn X.K (.ref C) n = some none) (he : ED X e m) (hb : attributeBase e n X.env (eval e X.env) = eval e X.env := by rfl) :
    ED X (.Attribute e n pos) (eXf a C dx ok m n) := by
  refine ⟨fun pins s σ H Q I q => ?_⟩
  obtain ⟨g, S, F, ρ, d, S', R, e1, q1⟩ := id q
  obtain ⟨x, S1, h1, h2⟩ := eB_some e1
  cases x <;> try cases h2
  rename_i a' C' dx' c ns ds
  dsimp only at h2
  split at h2
  · rename_i hh
    obtain ⟨rfl, rfl, rfl, hc⟩ := hh
    split at h2
    · rename_i d0 hd
      cases h2
      -- the class is known only behind the value
      refine attr_of hb (thn (he.run pins s σ H (fun v H1 => ∃ vs, v = .ref a' ∧ X.mg c = some (.ref C') ∧ H1 dx' = some (.xd (ns.zip vs)) ∧ ∃ w, (ns.zip vs).lookup n = some w ∧ Q w H1) I ⟨g, S, F, ρ, _, S', R, h1, fun v F1 ρ1 H1 s1 p1 R1 r1 => ?_⟩) fun u s1 hu => ?_)
      · have r2 := r1.rep rfl
        cases r2 with
        | @exc _ _ _ _ _ vs _ mc hF hl rs =>
          obtain ⟨w, hw, rw'⟩ := look_zip hl rs hd
          exact ⟨vs, rfl, mc, R1.fh _ _ hF, w, hw, q1 w F1 ρ1 H1 s1 p1 R1 (.inl rw')⟩
      · obtain ⟨x, H1, I1, rx, vs, rfl, mc, ed, w, hw, qw⟩ := hu
        obtain rfl : u = Value.ref a' := rx
        obtain ⟨T, hno⟩ := hok c C' hc mc
        obtain ⟨oe, od, mA, J, hr, hlk⟩ := hot_inst h I1 ed
        obtain ⟨u, hu, ru⟩ := RelO.some_of (v := w) (o := mA n) (by rw [← hw]; exact hr n)
        exact HandSPX.exc_get I1.kIn J T.ga T.gg T.sb (PySem.W.findObj_own T.hd hno rfl (by rw [hlk, hu])) (handed_of ru) ⟨w, H1, I1.tok _, ru, qw⟩
    · cases h2
  · cases h2
/-- a class as a value: its name -/
structure ClsE (X : Cx) (e : Expr) (c : V) (cv : Value) : Prop where
  pe : PE X e (tC c)
  uni : ∀ u, RelV c u → u = cv
theorem cls_own {x : Str} {A : Addr} (hg : Gl X x) (hm : X.mg x = some (.ref A)) (hd : (x == ("__debug__" : Str)) = false := by decide) : ClsE X (.Name x pos) (.ref A) (.ref A) := ⟨pe_glob hg hm rfl hd, fun _ h => h⟩
theorem cls_blt {x : Str} {N : String} (hg : Gl X x) (hm : X.mg x = none) (hv : bootBuiltins x = some (.type N)) (hn : x ≠ "__name__" := by decide) (hd : (x == ("__debug__" : Str)) = false := by decide) : ClsE X (.Name x pos) (.ty N) (.type N) := ⟨pe_bltn hg hm hv rfl hn hd, fun _ h => h⟩
theorem ed_xi {tb : Str → Option Bool} {m : EM} {e2 : Expr} {c2 : V} {cv : Value} {p : Pos} (h : HotAt X a C dx) (htb : ∀ c b C, tb c = some b → X.mg c = some (.ref C) → ExcK X.K C ∧ PySem.W.kitOne X.K (.ref C) cv = some b) (hg : Gl X "isinstance") (hm : X.mg "isinstance" = none)
    (he : ED X e m) (hc : ClsE X e2 c2 cv) (hs : starEach [e, e2] X.env = (false, eval e X.env) :: starEach [e2] X.env := by rfl) (hs2 : starEach [e2] X.env = (false, eval e2 X.env) :: starEach [] X.env := by rfl) (hpl : (backTo pos (starEach [e2] X.env)).any (·.1) = false := by rfl) :
    ED X (.Call (.Name "isinstance" p) [e, e2] [] pos) (eXi a C dx tb m) := by
  refine PE_imp (pe_callB (call_xI h) hg hm (by decide +kernel) (pa_cons he (pa_cons hc.pe pa_nil hs2) hs) (by decide) (by decide) hs hpl) ?_
  rintro σ H Q ⟨g, S, F, ρ, d, S', R, e1, q1⟩
  obtain ⟨x, S1, h1, h2⟩ := eB_some e1
  cases x <;> try cases h2
  rename_i a' C' dx' c ns ds
  dsimp only at h2
  split at h2
  · rename_i hh
    obtain ⟨rfl, rfl, rfl⟩ := hh
    split at h2
    · rename_i b hb
      cases h2
      refine ⟨g, S, F, ρ, _, S', R, h1, fun v F1 ρ1 H1 s1 p1 R1 r1 => ?_⟩
      have r2 := r1.rep rfl
      cases r2 with
      | @exc _ _ _ _ _ vs _ mc hF hl rs =>
        obtain ⟨T, ek⟩ := htb c b C' hb mc
        exact ⟨c2, cv, b, _, rfl, hc.uni, T, ek, R1.fh _ _ hF, q1 _ F1 ρ1 H1 s1 p1 R1 (.inl (.bl b))⟩
    · cases h2
  · cases h2
end
end SX

set_option Elab.async false
set_option linter.all false
set_option maxRecDepth 100000
set_option maxHeartbeats 1000000
namespace SX
open PySem PySem.Spec PyProof.Rows L2 NdefX DL

/-! ### a def called where an error is handled, the error among its arguments -/
structure FnHX (P : Program) (w : World) (K : PySem.W.Frag) (mg : Str → Option Value) (base : Heap) (k : Nat) (f : Addr) (fd : FuncData) (ps : List Str) (sp : Addr → Addr → Addr → Sp) : Prop where
  len : ∀ a C dx vs H Q E, sp a C dx vs H Q E → vs.length = ps.length
  go : ∀ (A : Around) (outer : List Env) (s : Shared) (H : Hp) (args : Args) (us : List Value) (vs : List V) (Q : VK) (E : XK) (p : Addr × Obj) (C dx : Addr), L2H.RoomH k A → L2H.Hot1 A p → p.2.cls = .ref C → p.2.dict = some dx → L2H.PinOk outer H s p → Env0 P w K mg base A outer s H →
    BindsTo s fd args (ps.zip us) → Vals vs us → sp p.1 C dx vs H Q E → codeAny (model P w) A (.call (.ref f) args) (CR CX0 outer P w H s Q E) s
def spHX (T : Tx) (n : Nat) (Φ : Addr → Addr → Addr → FM) : Addr → Addr → Addr → Sp := fun a C dx => spD T n (Φ a C dx)
section
variable {P : Program} {w : World} {K : PySem.W.Frag} {mg : Str → Option Value} {base : Heap}
theorem fnHX {x qual : Str} {st : Stmt} {f : Addr} {fd : FuncData} {N ps : List Str} {k : Nat} {m : Addr → Addr → Addr → SM} {n : Nat} (F : Fun K x qual st f fd) (S : FnScope N ps (defScope st)) (hn : N.length = n)
    (hbody : ∀ (cdv : Value) (A : Around) (outer : List Env) (s : Shared) (H : Hp) (E : XK) (p : Addr × Obj) (C dx : Addr), HotAt (L2H.cxH CX0 P w K mg base N qual (defScope st) f cdv A outer s H E p).nox p.1 C dx → L2H.RoomH k (A.deeper (envOfC qual (defScope st) s.heap.objs.size f cdv)) →
      BD (L2H.cxH CX0 P w K mg base N qual (defScope st) f cdv A outer s H E p).nox (defBody st) (m p.1 C dx)) : FnHX P w K mg base (k + 1) f fd ps (spHX ⟨P, w, mg, K⟩ ps.length fun a C dx => runD n (m a C dx)) := by
  subst hn
  obtain ⟨oc, od, kV, doc, pm, an, cdv, ct, osl, rfl, lk, hcd⟩ := F.ex
  refine ⟨fun a C dx vs H Q E h => ?_, fun A outer s H args us vs Q E p C dx hr hot hpc hpd hpin e0 hbi r hsp => ?_⟩
  · obtain ⟨_, _, _, _, _, _, h, _⟩ := h
    exact h
  have hl : vs.length = ps.length := by
    obtain ⟨_, _, _, _, _, _, h, _⟩ := hsp
    exact h
  have kin : K.In s.heap := e0.mod.kin.keeps fun b o e => (e0.bs b o e).1
  have nolim : s.heap.NoLimit := e0.mod.nolimit.keeps fun b o e => (e0.bs b o e).1
  have kinds : ∀ y ∈ ps.zip us, (defScope st).names.lookup y.1 = some .local ∨ ((defScope st).names.lookup y.1 = some .cell ∧ ((cellsFrom (s.heap.objs.size + 1) (defScope st).names []).lookup y.1).isSome = true) := fun ⟨n, v⟩ hy => by
    rcases S.par n (List.of_mem_zip hy).1 with q | q
    · exact .inl q
    · exact .inr ⟨q, PySem.W.cellsFrom_some _ _ _ (.inl q)⟩
  refine codeAny_call_function hr.depth (kin _ _ lk) rfl S.co S.gen rfl (PySem.W.codeRec_of kin hcd) (hbi _ _ _ _ ?_)
  refine wpAny_newFunctionEnv_cells S.kind kinds fun env he s1 x => ?_
  subst he
  refine ⟨nolim.keeps x.toInCall.keep, codeAny_func ?_⟩
  have I := (L2H.inv_startH (CX := CX0) (E := E) S hpin e0 hl r x).wish fun _ _ => False
  have hA : HotAt (L2H.cxH CX0 P w K mg base N qual (defScope st) f cdv A outer s H E p).nox p.1 C dx := by
    obtain ⟨h1, vs, h2, h3⟩ := hot
    exact ⟨⟨p.2, List.mem_singleton.mpr rfl, hpc, hpd, vs, h2, h3⟩, h1⟩
  have hq := hbody cdv A outer s H E p C dx hA (hr.deeper _)
  obtain ⟨F0, ρ0, st0, ds, r0, st', _, Cc, rs, e, q⟩ := hsp
  have R0 := SR.start (S := ⟨ds.map .fro ++ List.replicate (N.length - ds.length) .non, st0⟩) Cc rs rfl
  have fin : ∀ (fl : Fl) (S1 : DS), m p.1 C dx ⟨ds.map .fro ++ List.replicate (N.length - ds.length) .non, st0⟩ = some (fl, S1) →
      (∀ v F' ρ' H', Post F0 ρ0 H F' ρ' H' → SRc ⟨P, w, mg, K⟩ F' ρ' S1.store H' → (match fl with | .rt d => Rep ⟨P, w, mg, K⟩ F' ρ' v d | .nx => v = .non | _ => False) → Q v H') → (fl ≠ .bk ∧ fl ≠ .ct) →
      wpAny (model P w) (A.deeper (envOfC qual (defScope st) s.heap.objs.size f cdv)) (execs (defBody st) (envOfC qual (defScope st) s.heap.objs.size f cdv)) (fun fl s' => CR CX0 outer P w H s Q E (.ok (.ret (match fl with | .ret v => v | _ => .none))) s')
        (fun e s' => wpAny (model P w) (A.deeper (envOfC qual (defScope st) s.heap.objs.size f cdv)) (leaving (envOfC qual (defScope st) s.heap.objs.size f cdv) e) (fun _ s'' => CR CX0 outer P w H s Q E (.error e) s'') (fun e' s'' => CR CX0 outer P w H s Q E (.error e') s'') s') s1 := by
    intro fl S1 h1 q1 nb
    refine wpAny_mono (hq.run [] s1 _ H { nx := fun _ H' => Q .non H', rt := Q } I ⟨_, _, F0, ρ0, fl, S1, R0, h1, ?_⟩) (fun fl s' hs => ?_) fun e s' z => False.elim z
    · cases fl with
      | rt d =>
        intro v F' ρ' σ' H' s p R' r'
        obtain ⟨P', C'⟩ := R'.post
        exact q1 v F' ρ' H' P' C' r'
      | nx =>
        intro F' ρ' σ' H' s p R'
        obtain ⟨P', C'⟩ := R'.post
        exact q1 .non F' ρ' H' P' C' rfl
      | bk => exact absurd rfl nb.1
      | ct => exact absurd rfl nb.2
    · cases fl with
      | ret u =>
        obtain ⟨v, σ', H', J, rv, q⟩ := hs
        exact ⟨v, H', J.os, J.bare, J.base, J.hok, rv, q⟩
      | next =>
        obtain ⟨σ', H', J, q⟩ := hs
        exact ⟨.non, H', J.os, J.bare, J.base, J.hok, rfl, q⟩
      | brk =>
        obtain ⟨_, _, _, q⟩ := hs
        exact False.elim q
      | cont =>
        obtain ⟨_, _, _, q⟩ := hs
        exact False.elim q
  unfold runD at e
  dsimp only at e
  split at e
  · rename_i d S1 h1
    cases e
    exact fin _ S1 h1 (fun v F' ρ' H' P C r => q v F' ρ' H' P C r) ⟨(fun z => nomatch z), (fun z => nomatch z)⟩
  · rename_i S1 h1
    cases e
    exact fin _ S1 h1 (fun v F' ρ' H' P C r => q v F' ρ' H' P C (by
      have z : v = .non := r
      rw [z]
      exact .non)) ⟨(fun z => nomatch z), (fun z => nomatch z)⟩
  · cases e
end
structure CallHX (P : Program) (w : World) (K : PySem.W.Frag) (mg : Str → Option Value) (base : Heap) (k : Nat) (x : Str) (n : Nat) (Φ : Addr → Addr → Addr → FM) : Prop where
  ok : ∃ f fd ps, FnHX P w K mg base k f fd ps (spHX ⟨P, w, mg, K⟩ ps.length Φ) ∧ mg x = some (.ref f) ∧ PySem.W.keepIn K (.ref f) = true ∧ Binds K fd ps [] ∧ ps.length = n
section
variable {X : Cx} {a C dx : Addr} {pos : Pos}
theorem run_hx {k n : Nat} {f : Addr} {fd : FuncData} {ps : List Str} {sp : Addr → Addr → Addr → Sp} {pins : List (Addr × Obj)} {σ : L2.St} {H : Hp} {s : Shared} {Q : VK} {us : List Value} {vs : List V} (h : HotAt X a C dx) (F : FnHX X.prog X.w X.K X.mg X.base k f fd ps sp) (hr : L2H.RoomH k X.A) (hb : Binds X.K fd ps [])
    (I : Inv X pins σ H s) (r : Vals vs us) (hsp : sp a C dx vs H Q (fun _ _ _ => False)) : wpAny (model X.prog X.w) X.A (call (.ref f) us) (EP X pins σ Q) X.xe s := by
  obtain ⟨oe, hm, hc, hd, ws, h1, h2⟩ := h.ex
  have hl : us.length = ps.length := by rw [← r.length]; exact F.len _ _ _ _ _ _ _ hsp
  have b := hb s us I.kIn (by rw [List.append_nil]; exact hl)
  rw [List.append_nil] at b
  have P1 := I.pin (a, oe) (List.mem_append_left _ hm)
  have hpin : L2H.PinOk X.stack H s (a, oe) := ⟨P1.1, P1.2.1, fun hz => (List.mem_cons.mp (I.stkSub a hz)).elim P1.2.2.1 P1.2.2.2.1, P1.2.2.2.2⟩
  refine wpAny_call (codeAny_mono (F.go X.A X.stack s H ⟨us, []⟩ us vs Q (fun _ _ _ => False) (a, oe) C dx hr ⟨h.hd, ws, h1, h2⟩ hc hd hpin I.env0 b r hsp) fun r s' hq => ?_)
  cases r with
  | error e => exact (show False from hq).elim
  | ok fl =>
    cases fl with
    | ret u => exact I.after hq
    | next => exact False.elim hq
    | brk => exact False.elim hq
    | cont => exact False.elim hq
theorem ed_callHX {k n : Nat} {Φ : Addr → Addr → Addr → FM} {x : Str} {p : Pos} {e : Expr} {es : List Expr} {am : AM} (h : HotAt X a C dx) (F : CallHX X.prog X.w X.K X.mg X.base k x n Φ) (hr : L2H.RoomH k X.A) (hg : Gl X x) (ha : AD X (e :: es) am) (hn : (e :: es).length = n) (hl : ALen am (e :: es).length)
    (hdb : (x == ("__debug__" : Str)) = false := by decide) (he : starEach (e :: es) X.env = (false, eval e X.env) :: starEach es X.env := by rfl) (hpl : (backTo pos (starEach es X.env)).any (·.1) = false := by rfl) :
    ED X (.Call (.Name x p) (e :: es) [] pos) (eCall am [] (Φ a C dx)) := by
  obtain ⟨f, fd, ps, Fn, hm, hk, hb, hp⟩ := F.ok
  refine ⟨fun pins s σ H Q I q => ?_⟩
  refine wpAny_Call_Name_kw (ld_glob I hg hm ?_ hdb)
  obtain ⟨g, S, F, ρ, d, S', R, e1, q1⟩ := q
  obtain ⟨ds, S1, h1, h2, h3, h4⟩ := eCall_some e1
  rw [List.append_nil] at h3
  refine PySem.W.callWith_K (h₀ := X.base) I.ok.mod.kin hk (thn (ha.run pos pins s σ H (fun vs H1 => spHX (tx X) ps.length Φ a C dx vs H1 Q (fun _ _ _ => False)) I ⟨g, S, F, ρ, ds, S1, R, h1, fun vs F1 ρ1 H1 s1 p1 R1 r1 => ?_⟩) fun us s1 ⟨vs, H1, I1, r, q⟩ => ⟨I1.kIn, ?_⟩) he hpl
  · have rs := r1.reps h2
    exact call_run (E := fun _ _ _ => False) R1 rs (by rw [rs.length, hl _ _ _ h1, hn, hp]) h3 h4 fun v F' ρ' H' s p R' r => q1 v F' ρ' H' (s1.trans s) (p1.trans p) R' (.inl r)
  · exact run_hx (n := n) h Fn hr hb I1 r q
end
end SX

set_option Elab.async false
set_option linter.all false
set_option maxRecDepth 100000
set_option maxHeartbeats 2000000
namespace SX
open PySem PySem.Spec PyProof.Rows L2 NdefX DL

/-! ### a comprehension where an error is handled -/
abbrev blkH (X : Cx) (s : Shared) (H : Hp) (sc : Scope) (ce : Env) (fp : List Addr) : Cx := { X.blk s H sc ce fp with pn := X.pn }
theorem inv_pn {X : Cx} {s0 s : Shared} {H0 H : Hp} {sc : Scope} {ce : Env} {fp : List Addr} {σ : L2.St} (I : Inv (X.blk s0 H0 sc ce fp) [] σ H s)
    (hp : ∀ p ∈ X.pn, s.heap.get? p.1 = some p.2 ∧ H p.1 = none ∧ p.1 ≠ ce.locals ∧ p.1 ∉ frs X.stack ∧ ∀ v, p.2.data ≠ .cell v) : Inv (blkH X s0 H0 sc ce fp) [] σ H s := by
  have o := I.ok
  exact ⟨⟨o.mod, o.kind, o.glob, o.blt, o.above, o.inj, o.has, o.cab, o.hd, o.frames, o.stk, o.exf, o.bs, o.bsz, o.noex, o.exfs, o.funs, o.frf⟩, I.os, I.bare, I.base, I.loc, I.cell, I.free, I.freeC, fun p h => hp p (by simpa using h), I.hok, I.len⟩
theorem hotC_blk {X : Cx} {s : Shared} {H : Hp} {sc : Scope} {ce : Env} {fp : List Addr} (h : L2H.HotC X) : L2H.HotC (blkH X s H sc ce fp) := h
theorem lc_hot {X : Cx} {elt tg iter : Expr} {ifs : List Expr} {sc : Scope} {own : List (Str × Nat)} {pos : Pos} {wi : TI} {g : TG} {tt : TT} {te : TE} (hot : L2H.HotC X) (hN : X.N.Nodup) (hi : L2H.PIH X tg iter wi) (ok : BlkOk X.N X.env.scope sc own)
    (hg : ∀ (s : Shared) (H : Hp) (C : Addr) (cl : List (Str × Addr)) (fp : List Addr), PG (blkH X s H sc (compEnvC sc cl C X.env) fp) tg g) (ht : ∀ (s : Shared) (H : Hp) (C : Addr) (cl : List (Str × Addr)) (fp : List Addr), PTs (blkH X s H sc (compEnvC sc cl C X.env) fp) ifs tt)
    (he : ∀ (s : Shared) (H : Hp) (C : Addr) (cl : List (Str × Addr)) (fp : List Addr), PE (blkH X s H sc (compEnvC sc cl C X.env) fp) elt te) (hs : ∀ x, foldedSetIterable iter X.env x = pure x := by intro _; rfl) :
    PE X (.ListComp elt [⟨tg, iter, ifs, 0⟩] sc pos) (tLc wi g tt te (own.map (·.2))) := by
  refine ⟨fun pins s σ H Q I hq => ?_⟩
  rw [eval_ListComp]
  have free : ∀ y ∈ sc.names, y.2 = .free → ∃ c, X.env.cells.lookup y.1 = some c := fun y hy e => (ok.free y hy e).elim (fun z => I.ok.has _ (.inl z)) (fun z => I.ok.has _ (.inr z))
  refine wpAny_comprehension_free (use := none) rfl hs (closure_ok free) ok.kind (fun y hy e => by rw [ok.uniq y hy, e]) (thn (hi.run pins s σ H _ I hq) fun xv s1 h1 => thn h1 fun itv s2 h2 => ?_)
  obtain ⟨it, fp, tn, J, H2, rfl, I2, T, t2, f2, q⟩ := h2
  refine wpAny_newObj_type (newEnv_comp ?_) (by show 0 ≤ sizeLine; decide)
  obtain ⟨D, hD⟩ : ∃ D, s2.heap.objs.size = D := ⟨_, rfl⟩
  rw [hD]
  obtain ⟨W, ⟨m0, w0⟩, turn⟩ := q D (I2.hok.fresh (Nat.le_of_eq hD))
  obtain ⟨s3, hs3⟩ : ∃ s3 : Shared, ({ s2 with heap := s2.heap.push { cls := .type "list", data := .seq ([] : List Value).toArray } } : Shared) = s3 := ⟨_, rfl⟩
  rw [hs3]
  have heap3 : s3.heap = s2.heap.push { cls := .type "list", data := .seq ([] : List Value).toArray } := by rw [← hs3]
  have I3 : Inv X pins σ (L2.upd H2 D (.lst [])) s3 := by
    rw [← hs3]
    refine I2.laid (t' := s2.toks) (fun b o e => Heap.get?_push_of_some _ e) (Nat.le_of_eq hD) ⟨Nat.zero_le _, [], 0, .nil, ?_⟩
    rw [← hD]
    exact Heap.get?_push_size _ rfl
  have small : ∀ b ∈ fp, b < s2.heap.objs.size := fun b hb => by
    obtain ⟨o, e, _⟩ := T.obj _ _ t2 b hb
    exact Heap.lt_size e
  have f3 : ∀ b ∈ fp, FpOk X pins (L2.upd H2 D (.lst [])) b ∧ b < s3.heap.objs.size := fun b hb => by
    have lt := small b hb
    refine ⟨⟨?_, (f2 b hb).2⟩, by rw [heap3, Heap.size_push]; exact Nat.lt_succ_of_lt lt⟩
    rw [upd_ne (by rw [← hD]; exact Nat.ne_of_lt lt)]
    exact (f2 b hb).1
  have t3 : tn 0 s3.heap := T.keep _ _ _ t2 fun b _ o e => by rw [heap3]; exact Heap.get?_push_of_some _ e
  have I4b := block_start I3 ok hN f3
  have pg := hg s3 (L2.upd H2 D (.lst [])) s3.heap.objs.size (cellsFrom (s3.heap.objs.size + 1) sc.names (cloFrom X.env.cells sc.names [])) fp
  have pt := ht s3 (L2.upd H2 D (.lst [])) s3.heap.objs.size (cellsFrom (s3.heap.objs.size + 1) sc.names (cloFrom X.env.cells sc.names [])) fp
  have pe := he s3 (L2.upd H2 D (.lst [])) s3.heap.objs.size (cellsFrom (s3.heap.objs.size + 1) sc.names (cloFrom X.env.cells sc.names [])) fp
  obtain ⟨ce, hce⟩ : ∃ ce, compEnvC sc (cellsFrom (s3.heap.objs.size + 1) sc.names (cloFrom X.env.cells sc.names [])) s3.heap.objs.size X.env = ce := ⟨_, rfl⟩
  obtain ⟨H3, hH3⟩ : ∃ H3, L2.upd H2 D (.lst []) = H3 := ⟨_, rfl⟩
  obtain ⟨s4, hs4⟩ : ∃ s4 : Shared, ({ s3 with heap := pushCells (s3.heap.push { cls := .type "dict", data := .dict #[] }) sc.names } : Shared) = s4 := ⟨_, rfl⟩
  have cL : ce.locals = s3.heap.objs.size := by rw [← hce]; rfl
  have I4 : Inv (blkH X s3 (L2.upd H2 D (.lst [])) sc ce fp) [] (L2.wipe σ (own.map (·.2))) (L2.upd H2 D (.lst [])) s4 := by
    rw [hce, hs4] at I4b
    refine inv_pn I4b fun p hp => ?_
    obtain ⟨p1, p2, p3, p4, p5⟩ := I3.pin p (List.mem_append_left _ hp)
    refine ⟨?_, p2, ?_, fun hz => ?_, p5⟩
    · rw [← hs4]
      exact pushCells_keeps _ _ _ _ (Heap.get?_push_of_some _ p1)
    · rw [cL]
      exact Nat.ne_of_lt (Heap.lt_size p1)
    · exact (List.mem_cons.mp (I3.stkSub p.1 hz)).elim p3 p4
  show codeAny _ _ (.compStart (.ListComp elt [⟨tg, iter, ifs, 0⟩] sc pos) 0 (.ref it) (.ref D) (compEnvC sc (cellsFrom (s3.heap.objs.size + 1) sc.names (cloFrom X.env.cells sc.names [])) s3.heap.objs.size X.env)) (compPost (model X.prog X.w) X.A X.xe none (EP X pins σ Q) (.ref D) s3.heap.objs.size) { s3 with heap := pushCells (s3.heap.push { cls := .type "dict", data := .dict #[] }) sc.names }
  rw [hs4]
  rw [hce] at pg pt pe ⊢
  rw [hH3] at I3 I4 pg pt pe w0 f3
  have n0 : ∀ b ∈ fp, H3 b = none := fun b hb => (f3 b hb).1.1
  have t4 : tn 0 s4.heap := T.keep _ _ _ t3 fun b _ o e => by rw [← hs4]; exact pushCells_keeps _ _ _ _ (Heap.get?_push_of_some _ e)
  have fpB : ∀ {σ' : L2.St} {H' : Hp} {s' : Shared}, Inv (blkH X s3 H3 sc ce fp) [] σ' H' s' → tn 0 s4.heap → (∀ b ∈ fp, H' b = none) → ∀ b ∈ fp, FpOk (blkH X s3 H3 sc ce fp) [] H' b := fun {σ' H' s'} I' _ hn b hb => by
    refine ⟨hn b hb, (I'.ok.exf b hb).1, I'.ok.exfs b hb, .inl hb, fun x c e => (I'.ok.exf b hb).2 x c e, fun p hp => ?_⟩
    have hp' : p ∈ X.pn := by simpa using hp
    exact (f3 b hb).1.2.2.2.2.2 p (List.mem_append_left _ hp')
  have loop : codeAny (model X.prog X.w) X.A (.compLoop (.ListComp elt [⟨tg, iter, ifs, 0⟩] sc pos) 0 (.ref it) (.ref D) ce) (compPost (model X.prog X.w) X.A X.xe none (EP X pins σ Q) (.ref D) s3.heap.objs.size) s4 := by
    refine compLoop_any (fun n s' => ∃ i H', Inv (blkH X s3 H3 sc ce fp) [] (L2.wipe σ (own.map (·.2))) H' s' ∧ tn i s'.heap ∧ (∀ b ∈ fp, H' b = none) ∧ W i n H') ?_ m0 ⟨0, H3, I4, t4, n0, w0⟩
    rintro n s5 ⟨i, H5, I5, t5, n5, w5⟩
    have hotB : L2H.HotC (blkH X s3 H3 sc ce fp) := hot
    rcases turn i n H5 w5 with ⟨stop, qq⟩ | ⟨go, Nx, hNx, step⟩
    · refine thnF (T.done (blkH X s3 H3 sc ce fp) rfl rfl rfl hotB i [] s5 _ H5 (fun _ _ => False) I5 (fpB I5 t4 n5) t5 stop) fun r s6 ⟨hr, I6⟩ => ?_
      subst hr
      have I7 : Inv X pins σ H5 s6 := I3.call' (ch := fp) I6.os I6.base I6.hok I6.bare fun b hb => ⟨(f3 b hb).1.2.2.2.1, (f3 b hb).1.2.1, (f3 b hb).1.2.2.2.2.1, (f3 b hb).1.2.2.2.2.2⟩
      have nC : H5 s3.heap.objs.size = none := by
        have z : H5 ce.locals = none := I6.free
        rw [cL] at z
        exact z
      obtain ⟨m, hn, _⟩ := I6.loc
      have hn' : s6.heap.Ns ce.locals m := hn
      rw [cL] at hn'
      obtain ⟨g0, g1, g2, g3, g4, g5⟩ : FpOk X pins H5 s3.heap.objs.size := I3.fpOk (Nat.le_refl _) nC
      exact ⟨m, hn', fun h'' sb => ⟨.ref D, H5, I7.turned (t' := s6.toks) (fun b o hb e => (sb.2 b hb).trans e) g0 g1 g3 g4 g5, rfl, qq⟩⟩
    · refine thnF (T.item (blkH X s3 H3 sc ce fp) rfl rfl rfl hotB i [] s5 _ H5 (fun _ _ => False) I5 (fpB I5 t4 n5) t5 go) fun r s6 ⟨u, hr, h6⟩ => ?_
      subst hr
      refine thnF h6 fun _ s7 ⟨x, H7, I7, r7, y7, t7, n7⟩ => ?_
      have I7' := I7.pinned (fpB I7 t4 n7) (T.obj _ _ t7)
      refine thnF (pg.run _ s7 _ H7 x u _ I7' r7 (step x H7 y7)) fun _ s8 ⟨σ8, H8, I8, hw8, q8⟩ => ?_
      refine thnF (pt.run _ s8 σ8 H8 _ I8 q8) fun b s9 ⟨H9, I9, q9⟩ => ?_
      have again : ∀ {s' : Shared} {H' : Hp}, Inv (blkH X s3 H3 sc ce fp) ([] ++ pinsAt fp s7.heap) σ8 H' s' → Nx H' → ∃ m, m < n ∧ ∃ i H', Inv (blkH X s3 H3 sc ce fp) [] (L2.wipe σ (own.map (·.2))) H' s' ∧ tn i s'.heap ∧ (∀ b ∈ fp, H' b = none) ∧ W i m H' := fun {s' H'} I' nx => by
        obtain ⟨m', hm, w'⟩ := hNx H' nx
        have still : ∀ b ∈ fp, ∀ o, s7.heap.get? b = some o → s'.heap.get? b = some o ∧ H' b = none := fun b hb o e => by
          have z := I'.pin (b, o) (List.mem_append_right _ (List.mem_append_right _ (mem_pinsAt hb e)))
          exact ⟨z.1, z.2.1⟩
        refine ⟨m', hm, i + 1, H', (I'.unpinned (pins := [])).weak (by rw [← hw8, wipe_length]) (fun j v e => ?_), T.keep _ _ _ t7 fun b hb o e => (still b hb o e).1, fun b hb => ?_, w'⟩
        · rw [← hw8] at e
          exact (wipe_some e).1
        · obtain ⟨o, e, _⟩ := T.obj _ _ t7 b hb
          exact (still b hb o e).2
      cases b with
      | false =>
        simp only [Bool.false_eq_true, if_false] at q9 ⊢
        exact again I9 q9
      | true =>
        simp only [if_true] at q9 ⊢
        refine thnF (pe.run _ s9 σ8 H9 _ I9 q9) fun z s10 ⟨yv, H10, I10, r10, acc, e10, z10, nx⟩ => ?_
        exact app_ok (X := blkH X s3 H3 sc ce fp) I10 e10 z10 r10 fun s11 I11 => again I11 nx
  exact codeAny_compStart_list loop (T.self X.A 0 _ _ _ t4 loop)
end SX

set_option Elab.async false
set_option linter.all false
set_option maxRecDepth 100000
set_option maxHeartbeats 1000000
namespace SX
open PySem PySem.Spec PyProof.Rows L2 NdefX DL
section
variable {X : Cx} {pos : Pos} {tg : Expr}
theorem range1_imp {m : AM} : ∀ σ H Q, tI X (itRange m) σ H Q → iRng1 (tA X m) σ H Q := by
  rintro σ H Q ⟨g, S, F, ρ, ds, S', R, e, q⟩
  unfold itRange at e
  split at e
  · rename_i j S1 h1
    split at e
    · rename_i hj
      cases e
      refine ⟨g, S, F, ρ, _, S', R, h1, fun vs F1 ρ1 H1 s1 p1 R1 r1 => ?_⟩
      cases r1 with
      | cons a b =>
        cases b
        cases repx_int a
        refine ⟨j, rfl, hj.1, hj.2, q _ F1 ρ1 H1 s1 p1 R1 ?_⟩
        have := yields_range (X := X) (lo := 0) (n := j.toNat) (F := F1) (ρ := ρ1)
        simpa using this
    · cases e
  · cases e
abbrev IHD (X : Cx) (tg e : Expr) (m : AM) : Prop := L2H.PIH X tg e (tI X m)
theorem ih_range1 {a : Expr} {p : Pos} {m : AM} (hg : Gl X "range") (hm : X.mg "range" = none) (ha : AD X [a] m) (hs : starEach [a] X.env = [(false, eval a X.env)] := by rfl) : IHD X tg (.Call (.Name "range" p) [a] [] pos) (itRange m) :=
  ⟨fun pins s σ H R I q => (L2H.pi_range1H (tg := tg) hg hm ha hs).run pins s σ H R I (range1_imp _ _ _ q)⟩
theorem hotC_of {a C dx : Addr} (h : HotAt X a C dx) : L2H.HotC X := by
  obtain ⟨oe, hm, _, _, vs, h1, h2⟩ := h.ex
  exact ⟨(a, oe), ⟨h.hd, vs, h1, h2⟩, hm⟩
theorem ed_lcH {elt iter : Expr} {ifs : List Expr} {scope : Scope} {own : List (Str × Nat)} {is : List Nat} {mi : AM} {mg' : GM} {mt : TM} {me : EM} (hot : L2H.HotC X) (hN : X.N.Nodup) (hi : IHD X tg iter mi) (ok : BlkOk X.N X.env.scope scope own) (his : ∀ i ∈ is, i ∈ own.map (·.2))
    (hg : ∀ (s : Shared) (H : Hp) (C : Addr) (cl : List (Str × Addr)) (fp : List Addr), GD (blkH X s H scope (compEnvC scope cl C X.env) fp) tg is mg') (ht : ∀ (s : Shared) (H : Hp) (C : Addr) (cl : List (Str × Addr)) (fp : List Addr), PTsD (blkH X s H scope (compEnvC scope cl C X.env) fp) ifs mt)
    (he : ∀ (s : Shared) (H : Hp) (C : Addr) (cl : List (Str × Addr)) (fp : List Addr), ED (blkH X s H scope (compEnvC scope cl C X.env) fp) elt me) (hs : ∀ x, foldedSetIterable iter X.env x = pure x := by intro _; rfl) :
    ED X (.ListComp elt [⟨tg, iter, ifs, 0⟩] scope pos) (eLc mi (own.map (·.2)) mg' mt me) :=
  PE_imp (lc_hot (wi := tI X mi) (g := tG X is mg') (tt := tT X mt) (te := tE X me) hot hN hi ok hg ht he hs) (lc_impE his)
end
end SX
namespace DL
/-- a for whose turns end well -/
theorem loopF_run {g : GM} {b : SM} {ds : List D} (P : Nat → DS → Prop) (step : ∀ i d S, ds[i]? = some d → P i S → ∃ S1 S2, g d S = some S1 ∧ b S1 = some (.nx, S2) ∧ P (i + 1) S2) {S : DS} (h : P 0 S) : ∃ S', loopF g b ds S = some (.nx, S') ∧ P ds.length S' := by
  have key : ∀ (r : List D) (i : Nat) (S : DS), ds.drop i = r → P i S → ∃ S', loopF g b r S = some (.nx, S') ∧ P (i + r.length) S' := by
    intro r
    induction r with
    | nil => intro i S _ h; exact ⟨S, rfl, by simpa using h⟩
    | cons d r ih =>
      intro i S hd h
      have hi : ds[i]? = some d := by
        have := congrArg (·[0]?) hd
        simpa using this
      obtain ⟨S1, S2, h1, h2, h3⟩ := step i d S hi h
      have hr : ds.drop (i + 1) = r := by
        have := congrArg (List.drop 1) hd
        simpa [List.drop_drop, Nat.add_comm] using this
      obtain ⟨S', h4, h5⟩ := ih (i + 1) S2 hr h3
      have e : i + (d :: r).length = i + 1 + r.length := by
        rw [List.length_cons]
        omega
      rw [e]
      refine ⟨S', ?_, h5⟩
      unfold loopF
      rw [h1]
      dsimp only
      rw [h2]
      exact h4
  have := key ds 0 S rfl h
  simpa using this
end DL

set_option Elab.async false
set_option linter.all false
set_option maxRecDepth 100000
set_option maxHeartbeats 1000000
namespace SX
open PySem PySem.Spec PyProof.Rows L2 NdefX DL
theorem takesN0 {X : Cx} : L2N.Takes X (fun _ _ _ _ => False) := fun _ _ x => by
  obtain ⟨_, _, _, _, _, _, _, _, _, _, _, _, _, _, _, _, z⟩ := x
  exact z.elim
theorem un_ofH {k n : Nat} {A : Around} (hr : L2H.RoomH k A) (h : n ≤ 200) : A.units + n < cLine := by
  have := hr.un
  omega
end SX

set_option Elab.async false
set_option linter.all false
set_option maxRecDepth 100000
set_option maxHeartbeats 1000000
namespace DL
open PySem
theorem set_same {env : List Sl} {v : Nat} {s : Sl} (h : env[v]? = some s) : env.set v s = env := by
  apply List.ext_getElem?
  intro k
  by_cases hk : v = k
  · subst hk
    have hl := (List.getElem?_eq_some_iff.mp h).1
    rw [List.getElem?_set_self hl, h]
  · rw [List.getElem?_set_ne hk]
/-- a comprehension over one name, its element reckoned without a store -/
theorem eLc1 {it : AM} {e : EM} {v : Nat} {S : DS} {ds : List D} (f : Nat → D) (hv : v < S.env.length) (hit : it S = some (ds, S)) (hno : noOwn S.env [v] = true) (hz : ds.length ≤ 16777216)
    (he : ∀ i d, ds[i]? = some d → isHnd d = false ∧ isHnd (f i) = false ∧ e ⟨S.env.set v (.fro d), S.store⟩ = some (f i, ⟨S.env.set v (.fro d), S.store⟩)) : eLc it [v] (gV v) tY e S = some (.lst ((List.range ds.length).map f), S) := by
  have key : ∀ (r : List D) (i : Nat) (S' : DS) (acc : List D), ds.drop i = r → acc.length = i → (∃ x, S' = ⟨S.env.set v x, S.store⟩) → ∃ y, lcGo [v] (gV v) tY e r S' acc = some (acc ++ (List.range' i r.length).map f, ⟨S.env.set v y, S.store⟩) := by
    intro r
    induction r with
    | nil =>
      rintro i S' acc _ _ ⟨x, rfl⟩
      exact ⟨x, by simp [lcGo]⟩
    | cons d r ih =>
      rintro i S' acc hd ha ⟨x, rfl⟩
      have hi : ds[i]? = some d := by
        have := congrArg (·[0]?) hd
        simpa using this
      have hlt := (List.getElem?_eq_some_iff.mp hi).1
      have hr : ds.drop (i + 1) = r := by
        have := congrArg (List.drop 1) hd
        simpa [List.drop_drop, Nat.add_comm] using this
      obtain ⟨h1, h2, h3⟩ := he i d hi
      obtain ⟨y, hy⟩ := ih (i + 1) ⟨S.env.set v (.fro d), S.store⟩ (acc ++ [f i]) hr (by simp [ha]) ⟨_, rfl⟩
      refine ⟨y, ?_⟩
      unfold lcGo
      simp only [wipeE, gV, h1, DS.setE, List.set_set, tY, h3, h2, Bool.false_eq_true, if_false]
      rw [if_pos (by omega), hy]
      simp [List.range'_succ]
  obtain ⟨y, hy⟩ := key ds 0 S [] rfl rfl ⟨S.env[v], by rw [set_same (List.getElem?_eq_getElem hv)]⟩
  unfold eLc
  rw [hit]
  dsimp only
  rw [if_pos hno, hy]
  dsimp only
  have hm : mergeE S.env (wipeE (S.env.set v y) [v]) [v] = S.env := by
    simp only [mergeE, wipeE, List.getElem?_eq_getElem hv, List.set_set]
    exact set_same (List.getElem?_eq_getElem hv)
  rw [hm]
  simp [List.range_eq_range']
theorem atI_get {α : Type} {l : List α} {i : Int} {x : α} (h0 : 0 ≤ i) (h : l[i.toNat]? = some x) : L2.atI l i = some x := by
  have hl := (List.getElem?_eq_some_iff.mp h).1
  unfold L2.atI L2.ixN
  rw [if_pos h0, if_pos (by omega)]
  exact h
theorem ixN_in {n : Nat} {i : Int} (h0 : 0 ≤ i) (h1 : i < n) : L2.ixN n i = some i.toNat := by
  unfold L2.ixN
  rw [if_pos h0, if_pos h1]
def outF (r : Option (Fl × DS)) : Option (D × List Cell) := match r with
  | some (.rt d, S) => some (d, S.store)
  | some (.nx, S) => some (.non, S.store)
  | _ => none
theorem runD_out (n : Nat) (m : SM) (ds : List D) (st : List Cell) : runD n m ds st = outF (m ⟨ds.map .fro ++ List.replicate (n - ds.length) .non, st⟩) := by
  unfold runD outF
  generalize m ⟨ds.map .fro ++ List.replicate (n - ds.length) .non, st⟩ = r
  cases r with
  | none => rfl
  | some p =>
    obtain ⟨f, S⟩ := p
    cases f <;> rfl
def outX (r : Option (Fx × DS)) : Option (RX × List Cell) := match r with
  | some (.ok (.rt d), S) => some (.ok d, S.store)
  | some (.ok .nx, S) => some (.ok .non, S.store)
  | some (.ex c ns es, S) => some (.ex c ns es, S.store)
  | _ => none
theorem runX_out (n : Nat) (m : XM) (ds : List D) (st : List Cell) : runX n m ds st = outX (m ⟨ds.map .fro ++ List.replicate (n - ds.length) .non, st⟩) := by
  unfold runX outX
  generalize m ⟨ds.map .fro ++ List.replicate (n - ds.length) .non, st⟩ = r
  cases r with
  | none => rfl
  | some p =>
    obtain ⟨f, S⟩ := p
    cases f with
    | ok f => cases f <;> rfl
    | ex c ns es => rfl
theorem eq_int (S : DS) (i j : Int) : fEq S (.int i) (.int j) = some (.bl (decide (i = j))) := by
  simp [fEq, dataOf, deref, isPd, pd, PyData.eqv]
  try rfl
theorem ne_int (S : DS) (i j : Int) : fNe S (.int i) (.int j) = some (.bl (!decide (i = j))) := by
  simp [fNe, dataOf, deref, isPd, pd, PyData.eqv]
  try rfl
theorem eqv_self {d : D} {n : Nat} (h : isPd n d = true) : PyData.eqv (pd d) (pd d) = true := SeqAt.eqv_refl _ (isPd_lay d n h).1
theorem ne_same {S : DS} {x y d : D} (hx : deref S x = some d) (hy : deref S y = some d) (h : isPd 32 d = true) : fNe S x y = some (.bl false) := by
  have ha : dataOf S x = some d := by
    unfold dataOf
    rw [hx]
    dsimp only
    rw [if_pos h]
  have hb : dataOf S y = some d := by
    unfold dataOf
    rw [hy]
    dsimp only
    rw [if_pos h]
  unfold fNe
  rw [ha, hb]
  dsimp only
  rw [eqv_self h]
  rfl
end DL

set_option Elab.async false
set_option linter.all false
set_option maxRecDepth 100000
set_option maxHeartbeats 4000000
namespace K22
open PySem PySem.Spec PyProof.Rows L2 NdefX SX DL
def top (i : Nat) : Stmt := PySem.Challenge.pw_orderatonce_k22_errors_family.main.body.getD i (.Pass ⟨0, 0, 0, 0⟩)
def errN : List Str := ["BadTable", "NoOperation", "NoCell", "BadName", "BadNumber", "BadClient", "BadRun", "Over", "TooLarge", "BadStep", "BadRow"]
def fldN : List Str := ["name", "number", "caller", "at", "bound", "row"]
def okE (c : Str) : Bool := errN.contains c
def tbAll (c : Str) : Option Bool := if errN.contains c = true then some true else none
def tbOwn (T c : Str) : Option Bool := if errN.contains c = true then some (c == T) else none
structure ErrFacts (K : PySem.W.Frag) (mg : Str → Option Value) : Prop where
  all : ∀ c, errN.contains c = true → ∃ C, mg c = some (.ref C) ∧ ExcK K C ∧ (∀ n, fldN.contains n = true → PySem.W.findIn K (.ref C) n = some none) ∧ PySem.W.kitOne K (.ref C) (.type "ValueError") = some true ∧
    (∀ B, mg "OrderError" = some (.ref B) → PySem.W.exmOne K (.ref C) (.ref B) = some true) ∧ ∀ T, errN.contains T = true → ∀ B, mg T = some (.ref B) → PySem.W.kitOne K (.ref C) (.ref B) = some (c == T)
section
variable {K : PySem.W.Frag} {mg : Str → Option Value}
theorem ErrFacts.at (F : ErrFacts K mg) {c : Str} {C : Addr} (h : errN.contains c = true) (m : mg c = some (.ref C)) : ExcK K C ∧ (∀ n, fldN.contains n = true → PySem.W.findIn K (.ref C) n = some none) ∧ PySem.W.kitOne K (.ref C) (.type "ValueError") = some true ∧
    (∀ B, mg "OrderError" = some (.ref B) → PySem.W.exmOne K (.ref C) (.ref B) = some true) ∧ ∀ T, errN.contains T = true → ∀ B, mg T = some (.ref B) → PySem.W.kitOne K (.ref C) (.ref B) = some (c == T) := by
  obtain ⟨C', m', r⟩ := F.all c h
  rw [m] at m'
  cases m'
  exact r
theorem ErrFacts.fld (F : ErrFacts K mg) {n : Str} (h : fldN.contains n = true) : ∀ c C, okE c = true → mg c = some (.ref C) → ExcK K C ∧ PySem.W.findIn K (.ref C) n = some none := fun c C hc m => ⟨(F.at hc m).1, (F.at hc m).2.1 n h⟩
theorem ErrFacts.own (F : ErrFacts K mg) {T : Str} {B : Addr} (h : errN.contains T = true) (g : mg T = some (.ref B)) : ∀ c b C, tbOwn T c = some b → mg c = some (.ref C) → ExcK K C ∧ PySem.W.kitOne K (.ref C) (.ref B) = some b := fun c b C hc m => by
  unfold tbOwn at hc
  split at hc
  · rename_i z
    cases hc
    exact ⟨(F.at z m).1, (F.at z m).2.2.2.2 T h B g⟩
  · cases hc
theorem ErrFacts.ValueError (F : ErrFacts K mg) : ∀ c b C, tbAll c = some b → mg c = some (.ref C) → ExcK K C ∧ PySem.W.kitOne K (.ref C) (.type "ValueError") = some b := fun c b C hc m => by
  unfold tbAll at hc
  split at hc
  · rename_i z
    cases hc
    exact ⟨(F.at z m).1, (F.at z m).2.2.1⟩
  · cases hc
theorem ErrFacts.cat_OrderError (F : ErrFacts K mg) {B : Addr} (g : mg "OrderError" = some (.ref B)) : ∀ c b C, tbAll c = some b → mg c = some (.ref C) → PySem.W.exmOne K (.ref C) (.ref B) = some b := fun c b C hc m => by
  unfold tbAll at hc
  split at hc
  · rename_i z
    cases hc
    exact (F.at z m).2.2.2.1 B g
  · cases hc
end
/-! ### the errors' __init__ -/
section
variable {P : Program} {w : World} {K : PySem.W.Frag} {mg : Str → Option Value} {base : Heap} {C f cc cda : Addr} {fd : FuncData} {CX : CXT}
abbrev si_BadTable : Stmt := inClass (top 2) 0
theorem i_BadTable (E : ErrC P K mg C f cc cda) (h0 : PySem.W.findIn K (.ref C) "name" = some none)  (T : ClsFn K f cc cda C "__init__" "BadTable.__init__" (defArgs si_BadTable) (defBody si_BadTable) (defScope si_BadTable) fd) :
    FnOk P w K mg base CX 1 f fd ["self", "name"] (spFld C (fl1 "name")) := by
  have S : NScope ["self", "name", "__class__"] ["self", "name"] ["__class__"] (defScope si_BadTable) := nscope_by (by decide +kernel)
  refine fn_cls T S (fun vs H Q E' h => ?_) (fun A outer s H vs Q E' hr h => ?_)
  · obtain ⟨a, args, fs, rfl, _, hf, _⟩ := h
    unfold fl1 at hf
    split at hf
    · rfl
    · cases hf
  · obtain ⟨a, args, fs, rfl, ea, hf, q⟩ := h
    unfold fl1 at hf
    split at hf
    · rename_i v
      split at hf
      · rename_i hv
        cases hf
        refine ⟨_, psas_cons (psa_vsuper E.sup rfl rfl rfl rfl rfl E.ms E.st E.ox E.sub E.ini E.ve (pe_joined (.cons pe_str (.cons (pe_fmtR (pv 1)) .nil)))) (psas_of (pss_one (ps_ost (pv 0) (pv 1)))), ?_⟩
        refine ⟨a, rfl, ea, _, rfl, by decide +kernel, _, rfl, ?_⟩
        have fin := fun (y : Str) (hy : y.length ≤ 20000) => app_fit (a := Str.empty ++ ("BadTable: " : Str)) (n := 100) (by decide +kernel) hy
        rcases okR_cases hv with ⟨y, rfl, b1, b2⟩ | ⟨i, rfl, b1, b2⟩
        · exact .inl ⟨y, rfl, sizeLine_big (by omega), _, rfl, fit_line (fin _ b1) (by decide), ea, _, rfl, _, rfl, a, C, rfl, E.ox, h0, .inl ⟨ea, fun d hd hda => q d hd hda⟩⟩
        · exact .inr ⟨i, rfl, b1, _, rfl, fit_line (fin _ b2) (by decide), ea, _, rfl, _, rfl, a, C, rfl, E.ox, h0, .inl ⟨ea, fun d hd hda => q d hd hda⟩⟩
      · cases hf
    · cases hf
abbrev si_NoOperation : Stmt := inClass (top 3) 0
theorem i_NoOperation (E : ErrC P K mg C f cc cda) (h0 : PySem.W.findIn K (.ref C) "name" = some none)  (T : ClsFn K f cc cda C "__init__" "NoOperation.__init__" (defArgs si_NoOperation) (defBody si_NoOperation) (defScope si_NoOperation) fd) :
    FnOk P w K mg base CX 1 f fd ["self", "name"] (spFld C (fl1 "name")) := by
  have S : NScope ["self", "name", "__class__"] ["self", "name"] ["__class__"] (defScope si_NoOperation) := nscope_by (by decide +kernel)
  refine fn_cls T S (fun vs H Q E' h => ?_) (fun A outer s H vs Q E' hr h => ?_)
  · obtain ⟨a, args, fs, rfl, _, hf, _⟩ := h
    unfold fl1 at hf
    split at hf
    · rfl
    · cases hf
  · obtain ⟨a, args, fs, rfl, ea, hf, q⟩ := h
    unfold fl1 at hf
    split at hf
    · rename_i v
      split at hf
      · rename_i hv
        cases hf
        refine ⟨_, psas_cons (psa_vsuper E.sup rfl rfl rfl rfl rfl E.ms E.st E.ox E.sub E.ini E.ve (pe_joined (.cons pe_str (.cons (pe_fmtR (pv 1)) .nil)))) (psas_of (pss_one (ps_ost (pv 0) (pv 1)))), ?_⟩
        refine ⟨a, rfl, ea, _, rfl, by decide +kernel, _, rfl, ?_⟩
        have fin := fun (y : Str) (hy : y.length ≤ 20000) => app_fit (a := Str.empty ++ ("NoOperation: " : Str)) (n := 100) (by decide +kernel) hy
        rcases okR_cases hv with ⟨y, rfl, b1, b2⟩ | ⟨i, rfl, b1, b2⟩
        · exact .inl ⟨y, rfl, sizeLine_big (by omega), _, rfl, fit_line (fin _ b1) (by decide), ea, _, rfl, _, rfl, a, C, rfl, E.ox, h0, .inl ⟨ea, fun d hd hda => q d hd hda⟩⟩
        · exact .inr ⟨i, rfl, b1, _, rfl, fit_line (fin _ b2) (by decide), ea, _, rfl, _, rfl, a, C, rfl, E.ox, h0, .inl ⟨ea, fun d hd hda => q d hd hda⟩⟩
      · cases hf
    · cases hf
abbrev si_NoCell : Stmt := inClass (top 4) 0
theorem i_NoCell (E : ErrC P K mg C f cc cda) (h0 : PySem.W.findIn K (.ref C) "name" = some none)  (T : ClsFn K f cc cda C "__init__" "NoCell.__init__" (defArgs si_NoCell) (defBody si_NoCell) (defScope si_NoCell) fd) :
    FnOk P w K mg base CX 1 f fd ["self", "name"] (spFld C (fl1 "name")) := by
  have S : NScope ["self", "name", "__class__"] ["self", "name"] ["__class__"] (defScope si_NoCell) := nscope_by (by decide +kernel)
  refine fn_cls T S (fun vs H Q E' h => ?_) (fun A outer s H vs Q E' hr h => ?_)
  · obtain ⟨a, args, fs, rfl, _, hf, _⟩ := h
    unfold fl1 at hf
    split at hf
    · rfl
    · cases hf
  · obtain ⟨a, args, fs, rfl, ea, hf, q⟩ := h
    unfold fl1 at hf
    split at hf
    · rename_i v
      split at hf
      · rename_i hv
        cases hf
        refine ⟨_, psas_cons (psa_vsuper E.sup rfl rfl rfl rfl rfl E.ms E.st E.ox E.sub E.ini E.ve (pe_joined (.cons pe_str (.cons (pe_fmtR (pv 1)) .nil)))) (psas_of (pss_one (ps_ost (pv 0) (pv 1)))), ?_⟩
        refine ⟨a, rfl, ea, _, rfl, by decide +kernel, _, rfl, ?_⟩
        have fin := fun (y : Str) (hy : y.length ≤ 20000) => app_fit (a := Str.empty ++ ("NoCell: " : Str)) (n := 100) (by decide +kernel) hy
        rcases okR_cases hv with ⟨y, rfl, b1, b2⟩ | ⟨i, rfl, b1, b2⟩
        · exact .inl ⟨y, rfl, sizeLine_big (by omega), _, rfl, fit_line (fin _ b1) (by decide), ea, _, rfl, _, rfl, a, C, rfl, E.ox, h0, .inl ⟨ea, fun d hd hda => q d hd hda⟩⟩
        · exact .inr ⟨i, rfl, b1, _, rfl, fit_line (fin _ b2) (by decide), ea, _, rfl, _, rfl, a, C, rfl, E.ox, h0, .inl ⟨ea, fun d hd hda => q d hd hda⟩⟩
      · cases hf
    · cases hf
abbrev si_BadName : Stmt := inClass (top 5) 0
theorem i_BadName (E : ErrC P K mg C f cc cda) (h0 : PySem.W.findIn K (.ref C) "name" = some none)  (T : ClsFn K f cc cda C "__init__" "BadName.__init__" (defArgs si_BadName) (defBody si_BadName) (defScope si_BadName) fd) :
    FnOk P w K mg base CX 1 f fd ["self", "name"] (spFld C (fl1 "name")) := by
  have S : NScope ["self", "name", "__class__"] ["self", "name"] ["__class__"] (defScope si_BadName) := nscope_by (by decide +kernel)
  refine fn_cls T S (fun vs H Q E' h => ?_) (fun A outer s H vs Q E' hr h => ?_)
  · obtain ⟨a, args, fs, rfl, _, hf, _⟩ := h
    unfold fl1 at hf
    split at hf
    · rfl
    · cases hf
  · obtain ⟨a, args, fs, rfl, ea, hf, q⟩ := h
    unfold fl1 at hf
    split at hf
    · rename_i v
      split at hf
      · rename_i hv
        cases hf
        refine ⟨_, psas_cons (psa_vsuper E.sup rfl rfl rfl rfl rfl E.ms E.st E.ox E.sub E.ini E.ve (pe_joined (.cons pe_str (.cons (pe_fmtR (pv 1)) .nil)))) (psas_of (pss_one (ps_ost (pv 0) (pv 1)))), ?_⟩
        refine ⟨a, rfl, ea, _, rfl, by decide +kernel, _, rfl, ?_⟩
        have fin := fun (y : Str) (hy : y.length ≤ 20000) => app_fit (a := Str.empty ++ ("BadName: " : Str)) (n := 100) (by decide +kernel) hy
        rcases okR_cases hv with ⟨y, rfl, b1, b2⟩ | ⟨i, rfl, b1, b2⟩
        · exact .inl ⟨y, rfl, sizeLine_big (by omega), _, rfl, fit_line (fin _ b1) (by decide), ea, _, rfl, _, rfl, a, C, rfl, E.ox, h0, .inl ⟨ea, fun d hd hda => q d hd hda⟩⟩
        · exact .inr ⟨i, rfl, b1, _, rfl, fit_line (fin _ b2) (by decide), ea, _, rfl, _, rfl, a, C, rfl, E.ox, h0, .inl ⟨ea, fun d hd hda => q d hd hda⟩⟩
      · cases hf
    · cases hf
abbrev si_BadNumber : Stmt := inClass (top 6) 0
theorem i_BadNumber (E : ErrC P K mg C f cc cda) (h0 : PySem.W.findIn K (.ref C) "number" = some none)  (T : ClsFn K f cc cda C "__init__" "BadNumber.__init__" (defArgs si_BadNumber) (defBody si_BadNumber) (defScope si_BadNumber) fd) :
    FnOk P w K mg base CX 1 f fd ["self", "number"] (spFld C (fl1 "number")) := by
  have S : NScope ["self", "number", "__class__"] ["self", "number"] ["__class__"] (defScope si_BadNumber) := nscope_by (by decide +kernel)
  refine fn_cls T S (fun vs H Q E' h => ?_) (fun A outer s H vs Q E' hr h => ?_)
  · obtain ⟨a, args, fs, rfl, _, hf, _⟩ := h
    unfold fl1 at hf
    split at hf
    · rfl
    · cases hf
  · obtain ⟨a, args, fs, rfl, ea, hf, q⟩ := h
    unfold fl1 at hf
    split at hf
    · rename_i v
      split at hf
      · rename_i hv
        cases hf
        refine ⟨_, psas_cons (psa_vsuper E.sup rfl rfl rfl rfl rfl E.ms E.st E.ox E.sub E.ini E.ve (pe_joined (.cons pe_str (.cons (pe_fmtR (pv 1)) .nil)))) (psas_of (pss_one (ps_ost (pv 0) (pv 1)))), ?_⟩
        refine ⟨a, rfl, ea, _, rfl, by decide +kernel, _, rfl, ?_⟩
        have fin := fun (y : Str) (hy : y.length ≤ 20000) => app_fit (a := Str.empty ++ ("BadNumber: " : Str)) (n := 100) (by decide +kernel) hy
        rcases okR_cases hv with ⟨y, rfl, b1, b2⟩ | ⟨i, rfl, b1, b2⟩
        · exact .inl ⟨y, rfl, sizeLine_big (by omega), _, rfl, fit_line (fin _ b1) (by decide), ea, _, rfl, _, rfl, a, C, rfl, E.ox, h0, .inl ⟨ea, fun d hd hda => q d hd hda⟩⟩
        · exact .inr ⟨i, rfl, b1, _, rfl, fit_line (fin _ b2) (by decide), ea, _, rfl, _, rfl, a, C, rfl, E.ox, h0, .inl ⟨ea, fun d hd hda => q d hd hda⟩⟩
      · cases hf
    · cases hf
abbrev si_BadClient : Stmt := inClass (top 7) 0
theorem i_BadClient (E : ErrC P K mg C f cc cda) (h0 : PySem.W.findIn K (.ref C) "caller" = some none)  (T : ClsFn K f cc cda C "__init__" "BadClient.__init__" (defArgs si_BadClient) (defBody si_BadClient) (defScope si_BadClient) fd) :
    FnOk P w K mg base CX 1 f fd ["self", "caller"] (spFld C (fl1 "caller")) := by
  have S : NScope ["self", "caller", "__class__"] ["self", "caller"] ["__class__"] (defScope si_BadClient) := nscope_by (by decide +kernel)
  refine fn_cls T S (fun vs H Q E' h => ?_) (fun A outer s H vs Q E' hr h => ?_)
  · obtain ⟨a, args, fs, rfl, _, hf, _⟩ := h
    unfold fl1 at hf
    split at hf
    · rfl
    · cases hf
  · obtain ⟨a, args, fs, rfl, ea, hf, q⟩ := h
    unfold fl1 at hf
    split at hf
    · rename_i v
      split at hf
      · rename_i hv
        cases hf
        refine ⟨_, psas_cons (psa_vsuper E.sup rfl rfl rfl rfl rfl E.ms E.st E.ox E.sub E.ini E.ve (pe_joined (.cons pe_str (.cons (pe_fmtR (pv 1)) .nil)))) (psas_of (pss_one (ps_ost (pv 0) (pv 1)))), ?_⟩
        refine ⟨a, rfl, ea, _, rfl, by decide +kernel, _, rfl, ?_⟩
        have fin := fun (y : Str) (hy : y.length ≤ 20000) => app_fit (a := Str.empty ++ ("BadClient: " : Str)) (n := 100) (by decide +kernel) hy
        rcases okR_cases hv with ⟨y, rfl, b1, b2⟩ | ⟨i, rfl, b1, b2⟩
        · exact .inl ⟨y, rfl, sizeLine_big (by omega), _, rfl, fit_line (fin _ b1) (by decide), ea, _, rfl, _, rfl, a, C, rfl, E.ox, h0, .inl ⟨ea, fun d hd hda => q d hd hda⟩⟩
        · exact .inr ⟨i, rfl, b1, _, rfl, fit_line (fin _ b2) (by decide), ea, _, rfl, _, rfl, a, C, rfl, E.ox, h0, .inl ⟨ea, fun d hd hda => q d hd hda⟩⟩
      · cases hf
    · cases hf
abbrev si_BadRun : Stmt := inClass (top 8) 0
theorem i_BadRun (E : ErrC P K mg C f cc cda) (h0 : PySem.W.findIn K (.ref C) "at" = some none)  (T : ClsFn K f cc cda C "__init__" "BadRun.__init__" (defArgs si_BadRun) (defBody si_BadRun) (defScope si_BadRun) fd) :
    FnOk P w K mg base CX 1 f fd ["self", "at"] (spFld C (fl1 "at")) := by
  have S : NScope ["self", "at", "__class__"] ["self", "at"] ["__class__"] (defScope si_BadRun) := nscope_by (by decide +kernel)
  refine fn_cls T S (fun vs H Q E' h => ?_) (fun A outer s H vs Q E' hr h => ?_)
  · obtain ⟨a, args, fs, rfl, _, hf, _⟩ := h
    unfold fl1 at hf
    split at hf
    · rfl
    · cases hf
  · obtain ⟨a, args, fs, rfl, ea, hf, q⟩ := h
    unfold fl1 at hf
    split at hf
    · rename_i v
      split at hf
      · rename_i hv
        cases hf
        refine ⟨_, psas_cons (psa_vsuper E.sup rfl rfl rfl rfl rfl E.ms E.st E.ox E.sub E.ini E.ve (pe_joined (.cons pe_str (.cons (pe_fmtR (pv 1)) .nil)))) (psas_of (pss_one (ps_ost (pv 0) (pv 1)))), ?_⟩
        refine ⟨a, rfl, ea, _, rfl, by decide +kernel, _, rfl, ?_⟩
        have fin := fun (y : Str) (hy : y.length ≤ 20000) => app_fit (a := Str.empty ++ ("BadRun: " : Str)) (n := 100) (by decide +kernel) hy
        rcases okR_cases hv with ⟨y, rfl, b1, b2⟩ | ⟨i, rfl, b1, b2⟩
        · exact .inl ⟨y, rfl, sizeLine_big (by omega), _, rfl, fit_line (fin _ b1) (by decide), ea, _, rfl, _, rfl, a, C, rfl, E.ox, h0, .inl ⟨ea, fun d hd hda => q d hd hda⟩⟩
        · exact .inr ⟨i, rfl, b1, _, rfl, fit_line (fin _ b2) (by decide), ea, _, rfl, _, rfl, a, C, rfl, E.ox, h0, .inl ⟨ea, fun d hd hda => q d hd hda⟩⟩
      · cases hf
    · cases hf
abbrev si_Over : Stmt := inClass (top 9) 0
theorem i_Over (E : ErrC P K mg C f cc cda) (h0 : PySem.W.findIn K (.ref C) "caller" = some none)  (T : ClsFn K f cc cda C "__init__" "Over.__init__" (defArgs si_Over) (defBody si_Over) (defScope si_Over) fd) :
    FnOk P w K mg base CX 1 f fd ["self", "caller"] (spFld C (fl1 "caller")) := by
  have S : NScope ["self", "caller", "__class__"] ["self", "caller"] ["__class__"] (defScope si_Over) := nscope_by (by decide +kernel)
  refine fn_cls T S (fun vs H Q E' h => ?_) (fun A outer s H vs Q E' hr h => ?_)
  · obtain ⟨a, args, fs, rfl, _, hf, _⟩ := h
    unfold fl1 at hf
    split at hf
    · rfl
    · cases hf
  · obtain ⟨a, args, fs, rfl, ea, hf, q⟩ := h
    unfold fl1 at hf
    split at hf
    · rename_i v
      split at hf
      · rename_i hv
        cases hf
        refine ⟨_, psas_cons (psa_vsuper E.sup rfl rfl rfl rfl rfl E.ms E.st E.ox E.sub E.ini E.ve (pe_joined (.cons pe_str (.cons (pe_fmtR (pv 1)) .nil)))) (psas_of (pss_one (ps_ost (pv 0) (pv 1)))), ?_⟩
        refine ⟨a, rfl, ea, _, rfl, by decide +kernel, _, rfl, ?_⟩
        have fin := fun (y : Str) (hy : y.length ≤ 20000) => app_fit (a := Str.empty ++ ("Over: " : Str)) (n := 100) (by decide +kernel) hy
        rcases okR_cases hv with ⟨y, rfl, b1, b2⟩ | ⟨i, rfl, b1, b2⟩
        · exact .inl ⟨y, rfl, sizeLine_big (by omega), _, rfl, fit_line (fin _ b1) (by decide), ea, _, rfl, _, rfl, a, C, rfl, E.ox, h0, .inl ⟨ea, fun d hd hda => q d hd hda⟩⟩
        · exact .inr ⟨i, rfl, b1, _, rfl, fit_line (fin _ b2) (by decide), ea, _, rfl, _, rfl, a, C, rfl, E.ox, h0, .inl ⟨ea, fun d hd hda => q d hd hda⟩⟩
      · cases hf
    · cases hf
abbrev si_TooLarge : Stmt := inClass (top 10) 0
theorem i_TooLarge (E : ErrC P K mg C f cc cda) (h0 : PySem.W.findIn K (.ref C) "bound" = some none)  (T : ClsFn K f cc cda C "__init__" "TooLarge.__init__" (defArgs si_TooLarge) (defBody si_TooLarge) (defScope si_TooLarge) fd) :
    FnOk P w K mg base CX 1 f fd ["self", "bound"] (spFld C (fl1 "bound")) := by
  have S : NScope ["self", "bound", "__class__"] ["self", "bound"] ["__class__"] (defScope si_TooLarge) := nscope_by (by decide +kernel)
  refine fn_cls T S (fun vs H Q E' h => ?_) (fun A outer s H vs Q E' hr h => ?_)
  · obtain ⟨a, args, fs, rfl, _, hf, _⟩ := h
    unfold fl1 at hf
    split at hf
    · rfl
    · cases hf
  · obtain ⟨a, args, fs, rfl, ea, hf, q⟩ := h
    unfold fl1 at hf
    split at hf
    · rename_i v
      split at hf
      · rename_i hv
        cases hf
        refine ⟨_, psas_cons (psa_vsuper E.sup rfl rfl rfl rfl rfl E.ms E.st E.ox E.sub E.ini E.ve (pe_joined (.cons pe_str (.cons (pe_fmtR (pv 1)) .nil)))) (psas_of (pss_one (ps_ost (pv 0) (pv 1)))), ?_⟩
        refine ⟨a, rfl, ea, _, rfl, by decide +kernel, _, rfl, ?_⟩
        have fin := fun (y : Str) (hy : y.length ≤ 20000) => app_fit (a := Str.empty ++ ("TooLarge: " : Str)) (n := 100) (by decide +kernel) hy
        rcases okR_cases hv with ⟨y, rfl, b1, b2⟩ | ⟨i, rfl, b1, b2⟩
        · exact .inl ⟨y, rfl, sizeLine_big (by omega), _, rfl, fit_line (fin _ b1) (by decide), ea, _, rfl, _, rfl, a, C, rfl, E.ox, h0, .inl ⟨ea, fun d hd hda => q d hd hda⟩⟩
        · exact .inr ⟨i, rfl, b1, _, rfl, fit_line (fin _ b2) (by decide), ea, _, rfl, _, rfl, a, C, rfl, E.ox, h0, .inl ⟨ea, fun d hd hda => q d hd hda⟩⟩
      · cases hf
    · cases hf
abbrev si_BadStep : Stmt := inClass (top 11) 0
theorem i_BadStep (E : ErrC P K mg C f cc cda) (h0 : PySem.W.findIn K (.ref C) "name" = some none) (h1 : PySem.W.findIn K (.ref C) "at" = some none)  (T : ClsFn K f cc cda C "__init__" "BadStep.__init__" (defArgs si_BadStep) (defBody si_BadStep) (defScope si_BadStep) fd) :
    FnOk P w K mg base CX 1 f fd ["self", "name", "at"] (spFld C (fl2 "name" "at")) := by
  have S : NScope ["self", "name", "at", "__class__"] ["self", "name", "at"] ["__class__"] (defScope si_BadStep) := nscope_by (by decide +kernel)
  refine fn_cls T S (fun vs H Q E' h => ?_) (fun A outer s H vs Q E' hr h => ?_)
  · obtain ⟨a, args, fs, rfl, _, hf, _⟩ := h
    unfold fl2 at hf
    split at hf
    · rfl
    · cases hf
  · obtain ⟨a, args, fs, rfl, ea, hf, q⟩ := h
    unfold fl2 at hf
    split at hf
    · rename_i v u
      split at hf
      · rename_i hvu
        cases hf
        refine ⟨_, psas_cons (psa_vsuper E.sup rfl rfl rfl rfl rfl E.ms E.st E.ox E.sub E.ini E.ve (pe_joined (.cons pe_str (.cons (pe_fmtR (pv 1)) (.cons pe_str (.cons (pe_fmt (pv 2)) .nil))))))
          (psas_of (pss_cons (ps_ost (pv 0) (pv 1)) (pss_one (ps_ost (pv 0) (pv 2))))), ?_⟩
        refine ⟨a, rfl, ea, _, rfl, by decide +kernel, _, rfl, ?_⟩
        have f1 := fun (y : Str) (hy : y.length ≤ 20000) => app_fit (a := Str.empty ++ ("BadStep: " : Str)) (n := 100) (by decide +kernel) hy
        have f2 := fun (y : Str) (hy : y.length ≤ 20000) => app_fit (b := (" step " : Str)) (f1 y hy) (by decide +kernel)
        have f3 := fun (y z : Str) (hy : y.length ≤ 20000) (hz : z.length ≤ 20000) => app_fit (f2 y hy) hz
        have tail : H a = some (exo a C none) ∧ ∃ y : V, some v = some y ∧ ∃ x : V, some (V.ref a) = some x ∧ ∃ a' C', x = .ref a' ∧ OexC K C' ∧ PySem.W.findIn K (.ref C') "name" = some none ∧
            ((H a' = some (exo a' C' none) ∧ ∀ d, H d = none → d ≠ a' → ∃ y2 : V, some u = some y2 ∧ ∃ x2 : V, some (V.ref a) = some x2 ∧ ∃ a2 C2, x2 = .ref a2 ∧ OexC K C2 ∧ PySem.W.findIn K (.ref C2) "at" = some none ∧ True) ∨ True) := ⟨ea, v, rfl, _, rfl, a, C, rfl, E.ox, h0, .inr trivial⟩
        have rest : ∀ (H1 : Hp), H1 = H → (tSeq (tOst K "name" (tVar 0) (tVar 1)) (tOst K "at" (tVar 0) (tVar 2))) { nx := fun _ H' => Q .non H', rt := Q } (startF ["self", "name", "at", "__class__"] [V.ref a, v, u] [some (V.ref C)]) H1 := by
          intro H1 e0
          rw [e0]
          refine ⟨_, rfl, _, rfl, a, C, rfl, E.ox, h0, .inl ⟨ea, fun d hd hda => ⟨_, rfl, _, rfl, a, C, rfl, E.ox, h1, .inr ⟨d, _, upd_same, by rw [upd_ne hda, upd_same], (by show 1 ≤ 900; decide), ?_⟩⟩⟩⟩
          have z := q d hd hda
          have e1 : L2.upd (L2.upd (L2.upd H d (exd d [("name", v)])) a (exo a C (some d))) d (exd d [("at", u), ("name", v)]) = L2.upd (L2.upd H d (exd d [("at", u), ("name", v)])) a (exo a C (some d)) := by
            funext b
            by_cases hb : b = d
            · rw [hb, upd_same, upd_ne hda, upd_same]
            · rw [upd_ne hb]
              by_cases ha : b = a
              · rw [ha, upd_same, upd_same]
              · rw [upd_ne ha, upd_ne ha, upd_ne hb, upd_ne hb]
          show Q .non _
          rw [e1]
          exact z
        obtain ⟨hv, hu⟩ := hvu
        rcases okR_cases hv with ⟨y, rfl, b1, b2⟩ | ⟨i, rfl, b1, b2⟩
        · refine .inl ⟨y, rfl, sizeLine_big (by omega), _, rfl, fit_line (f1 _ b1) (by decide), _, rfl, fit_line (f2 _ b1) (by decide), _, rfl, ?_⟩
          rcases okR_cases hu with ⟨z, rfl, d1, d2⟩ | ⟨j, rfl, d1, d2⟩
          · exact .inl ⟨z, rfl, sizeLine_big (by omega), _, rfl, fit_line (f3 _ _ b1 d2) (by decide), ea, rest H rfl⟩
          · exact .inr ⟨j, rfl, d1, _, rfl, fit_line (f3 _ _ b1 d2) (by decide), ea, rest H rfl⟩
        · refine .inr ⟨i, rfl, b1, _, rfl, fit_line (f1 _ b2) (by decide), _, rfl, fit_line (f2 _ b2) (by decide), _, rfl, ?_⟩
          rcases okR_cases hu with ⟨z, rfl, d1, d2⟩ | ⟨j, rfl, d1, d2⟩
          · exact .inl ⟨z, rfl, sizeLine_big (by omega), _, rfl, fit_line (f3 _ _ b2 d2) (by decide), ea, rest H rfl⟩
          · exact .inr ⟨j, rfl, d1, _, rfl, fit_line (f3 _ _ b2 d2) (by decide), ea, rest H rfl⟩
      · cases hf
    · cases hf
abbrev si_BadRow : Stmt := inClass (top 12) 0
theorem i_BadRow (E : ErrC P K mg C f cc cda) (h0 : PySem.W.findIn K (.ref C) "row" = some none) (NL : mg "list" = none) (T : ClsFn K f cc cda C "__init__" "BadRow.__init__" (defArgs si_BadRow) (defBody si_BadRow) (defScope si_BadRow) fd) :
    FnOk P w K mg base CX 1 f fd ["self", "row"] (spRow K "row" C) := by
  have S : NScope ["self", "row", "__class__"] ["self", "row"] ["__class__"] (defScope si_BadRow) := nscope_by (by decide +kernel)
  refine fn_cls T S (fun vs H Q E' h => ?_) (fun A outer s H vs Q E' hr h => ?_)
  · obtain ⟨a, r, l, rfl, _⟩ := h
    rfl
  · obtain ⟨a, r, l, rfl, ea, hl, hs, hn, q⟩ := h
    refine ⟨_, psas_cons (psa_vsuper E.sup rfl rfl rfl rfl rfl E.ms E.st E.ox E.sub E.ini E.ve (pe_joined (.cons pe_str (.cons (pe_fmtL (un_of hr (n := 0) (by decide)) (pv 1)) .nil))))
      (psas_of (pss_one (ps_ost (pv 0) (pe_callTy call_list_of (by rfl) NL (by decide +kernel) (pa_cons (pv 1) pa_nil))))), ?_⟩
    refine ⟨a, rfl, ea, _, rfl, by decide +kernel, _, rfl, r, l, rfl, hl, hs, hn, fun m hm => ⟨m, rfl, ?_, ea, ?_⟩⟩
    · rw [app_len]
      have z : (Str.empty ++ ("BadRow: " : Str)).length ≤ 100 := by decide +kernel
      exact sizeLine_big (by omega)
    · refine ⟨_, rfl, r, _, rfl, .inl hl, fun b hb => ⟨_, rfl, a, C, rfl, E.ox, h0, .inl ⟨by rw [upd_ne (ne_of_none ea hb)]; exact ea, fun d hd hda => ?_⟩⟩⟩
      have hdb : d ≠ b := fun z => by rw [z, upd_same] at hd; cases hd
      rw [upd_ne hdb] at hd
      exact q b d hb (Ne.symm (ne_of_none ea hb)) hd hdb hda
end
abbrev st__law_row : Stmt := top 14
def m__law_row : SM :=
    (sS (sSet 3 (eC (.int 0)))
    (sS (sIf (tB2 (e2 oLt (eVar 1) (aOne (aC (eVar 0) aN) fLen))) (sSet 3 (aOne (aC (e2 fSub (eVar 0) (eVar 1)) aN) fInt)) sN)
    (sS (sSet 4 (e2 oGe (eVar 3) (e2 oPow (eC (.int 10)) (eC (.int 18)))))
    (sS (sSet 5 (e2 fSub (eA (aC (e2 fAdd (eVar 3) (e2 oMul (eC (.int 7919)) (eVar 1))) (aC (e2 oSub (eVar 3) (e2 oPow (eC (.int 10)) (eC (.int 18)))) aN)) fLst) (aOne (aC (eVar 4) aN) fInt)))
    (sS (sOwn 6 (eA aN fLst))
    (sS (sFor (itRange (aC (eVar 2) aN)) (gV 7) (sS (sIf (tNotM (tTru (eVar 4))) (sS (sSet 5 (e2 oMod (aOne (aC (e2 fAdd (e2 fAdd (e2 oMul (eVar 5) (eC (.int 48271))) (e2 oMul (eC (.int 11)) (eVar 7))) (eC (.int 7))) aN) fInt) (eC (.int 2147483647))))
    (sSet 5 (e2 oMod (aOne (aC (e2 fAdd (e2 fAdd (e2 oMul (eVar 5) (eC (.int 69621))) (e2 oMul (eC (.int 5)) (eVar 7))) (eC (.int 3))) aN) fInt) (eC (.int 2147483647))))) sN)
    (sS (sDrop (eMut (eVar 6) (aC (e2 oMod (aOne (aC (eVar 5) aN) fInt) (eC (.int 10000000))) aN) mApp))
    (sIf (tTru (eVar 4)) (sSet 5 (e2 oDiv (eVar 5) (eC (.int 10000000)))) sN))))
    (sRet (eG (eVar 6)))))))))
theorem sc__law_row : FnScope ["_law_script", "_law_k", "_law_many", "_law_cell", "_law_great", "_law_left", "_law_row_here", "_law_at"] ["_law_script", "_law_k", "_law_many"] (defScope st__law_row) := ⟨rfl, rfl, rfl, by decide +kernel, rfl, by decide +kernel, by decide +kernel⟩
theorem d__law_row {P : Program} {w : World} {K : PySem.W.Frag} {mg : Str → Option Value} {base : Heap} {f : Addr} {fd : FuncData} (NB : NoBlt mg) (F : Fun K "_law_row" "_law_row" st__law_row f fd) :
    FnD P w K mg base 1 f fd ["_law_script", "_law_k", "_law_many"] (runD 8 (m__law_row)) := by
  have SC := sc__law_row
  refine fnD F SC rfl fun cdv A outer s H E hr => ?_
  exact (bd_cons (sd_set 3 SC.nd rfl (by first | exact Or.inl rfl | exact Or.inr rfl) ed_int)
    (bd_cons (sd_if (td_lt (dv 1) (ed_blt call_lenA cl1_len (by rfl) NB.len (by decide +kernel) (ad_cons (dv 0) ad_nil))) (bd_one (sd_set 3 SC.nd rfl (by first | exact Or.inl rfl | exact Or.inr rfl) (ed_typ call_int1 cl1_int (by rfl) NB.int (by decide +kernel) (ad_cons (ed_sub (un_of hr (by decide)) (dv 0) (dv 1) (by intro _ _; rfl)) ad_nil)))) bd_nil)
    (bd_cons (sd_set 4 SC.nd rfl (by first | exact Or.inl rfl | exact Or.inr rfl) (ed_ge (dv 3) (ed_pow ed_int ed_int)))
    (bd_cons (sd_set 5 SC.nd rfl (by first | exact Or.inl rfl | exact Or.inr rfl) (ed_sub (un_of hr (by decide)) (ed_of_od (od_lst (ad_cons (ed_add (dv 3) (ed_mul ed_int (dv 1))) (ad_cons (ed_sub2 (dv 3) (ed_pow ed_int ed_int)) ad_nil)))) (ed_typ call_int1 cl1_int (by rfl) NB.int (by decide +kernel) (ad_cons (dv 4) ad_nil)) (by intro _ _; rfl)))
    (bd_cons (sd_own 6 SC.nd rfl (by first | exact Or.inl rfl | exact Or.inr rfl) (od_lst ad_nil))
    (bd_cons (sd_for PassesOwn.never rfl (id_range1 (by rfl) NB.range (ad_cons (dv 2) ad_nil)) (is := [7]) (gd_name 7 SC.nd rfl (by first | exact Or.inl rfl | exact Or.inr rfl)) (bd_cons (sd_if (td_not (td_tru (dv 4))) (bd_cons (sd_set 5 SC.nd rfl (by first | exact Or.inl rfl | exact Or.inr rfl) (ed_mod (ed_typ call_int1 cl1_int (by rfl) NB.int (by decide +kernel) (ad_cons (ed_add (ed_add (ed_mul (dv 5) ed_int) (ed_mul ed_int (dv 7))) ed_int) ad_nil)) ed_int))
    (bd_one (sd_set 5 SC.nd rfl (by first | exact Or.inl rfl | exact Or.inr rfl) (ed_mod (ed_typ call_int1 cl1_int (by rfl) NB.int (by decide +kernel) (ad_cons (ed_add (ed_add (ed_mul (dv 5) ed_int) (ed_mul ed_int (dv 7))) ed_int) ad_nil)) ed_int)))) bd_nil)
    (bd_cons (sd_drop (ed_app (dv 6) (ad_cons (ed_mod (ed_typ call_int1 cl1_int (by rfl) NB.int (by decide +kernel) (ad_cons (dv 5) ad_nil)) ed_int) ad_nil)))
    (bd_one (sd_if (td_tru (dv 4)) (bd_one (sd_set 5 SC.nd rfl (by first | exact Or.inl rfl | exact Or.inr rfl) (ed_div (dv 5) ed_int))) bd_nil)))))
    (bd_one (sd_ret (ed_give (dv 6))))))))))
abbrev st__law_names : Stmt := top 15
def m__law_names : SM :=
    (sS (sSet 2 (eC (.str "abcdefghijklmnopqrstuvwxyz")))
    (sS (sSet 3 (e2 fAdd (eC (.int 1)) (e2 oMod (e2 oDiv (aOne (aC (eVar 0) aN) fInt) (eC (.int 2))) (eC (.int 8)))))
    (sS (sOwn 4 (eA aN fLst))
    (sS (sFor (itRange (aC (eVar 1) aN)) (gV 5) (sS (sSet 6 (eVar 3))
    (sS (sIf (tB2 (e2 fEq (e2 oMod (aOne (aC (eVar 0) aN) fInt) (eC (.int 2))) (eC (.int 1)))) (sSet 6 (e2 fAdd (eC (.int 1)) (e2 oMod (e2 fAdd (eVar 3) (eVar 5)) (eC (.int 8))))) sN)
    (sS (sOwn 7 (eLc (itRange (aC (eVar 6) aN)) [8] (gV 8) tY (e2 fSub (eVar 2) (e2 oMod (aOne (aC (e2 fAdd (e2 oDiv (eVar 0) (eC (.int 7))) (eVar 8)) aN) fInt) (eC (.int 26))))))
    (sS (sSet 9 (e2 oMod (e2 oMod (aOne (aC (e2 oDiv (eVar 0) (eC (.int 16))) aN) fInt) (eVar 3)) (eVar 6)))
    (sS (sSub (e2 fSub (eVar 2) (e2 oMod (aOne (aC (e2 fAdd (e2 oDiv (eVar 0) (eC (.int 128))) (eVar 5)) aN) fInt) (eC (.int 26)))) (eVar 7) (eVar 9))
    (sDrop (eMut (eVar 4) (aC (e2 fJoin (eC (.str "")) (eVar 7)) aN) mApp))))))))
    (sRet (eG (eVar 4)))))))
theorem sc__law_names : FnScope ["_law_number", "_law_many", "_law_letters", "_law_size", "_law_names_here", "_law_k", "_law_length", "_law_name", "_law_at", "_law_spot"] ["_law_number", "_law_many"] (defScope st__law_names) := ⟨rfl, rfl, rfl, by decide +kernel, rfl, by decide +kernel, by decide +kernel⟩
theorem d__law_names {P : Program} {w : World} {K : PySem.W.Frag} {mg : Str → Option Value} {base : Heap} {f : Addr} {fd : FuncData} (NB : NoBlt mg) (F : Fun K "_law_names" "_law_names" st__law_names f fd) :
    FnD P w K mg base 1 f fd ["_law_number", "_law_many"] (runD 10 (m__law_names)) := by
  have SC := sc__law_names
  refine fnD F SC rfl fun cdv A outer s H E hr => ?_
  exact (bd_cons (sd_set 2 SC.nd rfl (by first | exact Or.inl rfl | exact Or.inr rfl) ed_str)
    (bd_cons (sd_set 3 SC.nd rfl (by first | exact Or.inl rfl | exact Or.inr rfl) (ed_add ed_int (ed_mod (ed_div (ed_typ call_int1 cl1_int (by rfl) NB.int (by decide +kernel) (ad_cons (dv 0) ad_nil)) ed_int) ed_int)))
    (bd_cons (sd_own 4 SC.nd rfl (by first | exact Or.inl rfl | exact Or.inr rfl) (od_lst ad_nil))
    (bd_cons (sd_for PassesOwn.never rfl (id_range1 (by rfl) NB.range (ad_cons (dv 1) ad_nil)) (is := [5]) (gd_name 5 SC.nd rfl (by first | exact Or.inl rfl | exact Or.inr rfl)) (bd_cons (sd_set 6 SC.nd rfl (by first | exact Or.inl rfl | exact Or.inr rfl) (dv 3))
    (bd_cons (sd_if (td_eq (un_of hr (by decide)) (ed_mod (ed_typ call_int1 cl1_int (by rfl) NB.int (by decide +kernel) (ad_cons (dv 0) ad_nil)) ed_int) ed_int) (bd_one (sd_set 6 SC.nd rfl (by first | exact Or.inl rfl | exact Or.inr rfl) (ed_add ed_int (ed_mod (ed_add (dv 3) (dv 5)) ed_int)))) bd_nil)
    (bd_cons (sd_ownLc 7 (own := [("_law_at", 8)]) (is := [8])  rfl SC.nd rfl (by rfl) (by rfl)  (id_range1 (by rfl) NB.range (ad_cons (dv 6) ad_nil)) (blk_of (by rfl)) (by decide) (fun _ _ _ _ _ => (gd_name 8 SC.nd rfl (by first | exact Or.inl rfl | exact Or.inr rfl))) (fun _ _ _ _ _ => ptsd_nil) (fun _ _ _ _ _ => (ed_sub (un_of hr (by decide)) (dv 2) (ed_mod (ed_typ call_int1 cl1_int (by rfl) NB.int (by decide +kernel) (ad_cons (ed_add (ed_div (dv 0) ed_int) (dv 8)) ad_nil)) ed_int) (by intro _ _; rfl))))
    (bd_cons (sd_set 9 SC.nd rfl (by first | exact Or.inl rfl | exact Or.inr rfl) (ed_mod (ed_mod (ed_typ call_int1 cl1_int (by rfl) NB.int (by decide +kernel) (ad_cons (ed_div (dv 0) ed_int) ad_nil)) (dv 3)) (dv 6)))
    (bd_cons (sd_sub (un_of hr (by decide)) (ed_sub (un_of hr (by decide)) (dv 2) (ed_mod (ed_typ call_int1 cl1_int (by rfl) NB.int (by decide +kernel) (ad_cons (ed_add (ed_div (dv 0) ed_int) (dv 5)) ad_nil)) ed_int) (by intro _ _; rfl)) (dv 7) (dv 9))
    (bd_one (sd_drop (ed_app (dv 4) (ad_cons (ed_join ed_str (dv 7)) ad_nil))))))))))
    (bd_one (sd_ret (ed_give (dv 4))))))))
abbrev st__law_raise : Stmt := top 16
theorem sc__law_raise : FnScope ["_law_at", "_law_name", "_law_number", "_law_row_here"] ["_law_at", "_law_name", "_law_number", "_law_row_here"] (defScope st__law_raise) := ⟨rfl, rfl, rfl, by decide +kernel, rfl, by decide +kernel, by decide +kernel⟩
def m__law_raise : XM :=
    (xS (xIf (tB2 (e2 fEq (eVar 0) (eC (.int 0)))) (xRaise (aC (eVar 1) aN) "BadTable" (fd1 "name")) (xL sN))
    (xS (xIf (tB2 (e2 fEq (eVar 0) (eC (.int 1)))) (xRaise (aC (eVar 1) aN) "NoOperation" (fd1 "name")) (xL sN))
    (xS (xIf (tB2 (e2 fEq (eVar 0) (eC (.int 2)))) (xRaise (aC (eVar 1) aN) "NoCell" (fd1 "name")) (xL sN))
    (xS (xIf (tB2 (e2 fEq (eVar 0) (eC (.int 3)))) (xRaise (aC (eVar 1) aN) "BadName" (fd1 "name")) (xL sN))
    (xS (xIf (tB2 (e2 fEq (eVar 0) (eC (.int 4)))) (xRaise (aC (eVar 2) aN) "BadNumber" (fd1 "number")) (xL sN))
    (xS (xIf (tB2 (e2 fEq (eVar 0) (eC (.int 5)))) (xRaise (aC (eVar 1) (aC (eVar 2) aN)) "BadStep" (fd2 "name" "at")) (xL sN))
    (xS (xIf (tB2 (e2 fEq (eVar 0) (eC (.int 6)))) (xRaise (aC (eVar 2) aN) "BadClient" (fd1 "caller")) (xL sN))
    (xS (xIf (tB2 (e2 fEq (eVar 0) (eC (.int 7)))) (xRaise (aC (eVar 2) aN) "BadRun" (fd1 "at")) (xL sN))
    (xS (xIf (tB2 (e2 fEq (eVar 0) (eC (.int 8)))) (xRaise (aC (aOne (aC (eVar 3) aN) fListOf) aN) "BadRow" (fdRow "row")) (xL sN))
    (xS (xIf (tB2 (e2 fEq (eVar 0) (eC (.int 9)))) (xRaise (aC (eVar 2) aN) "Over" (fd1 "caller")) (xL sN))
    (xRaise (aC (eVar 2) aN) "TooLarge" (fd1 "bound"))))))))))))
theorem d__law_raise {P : Program} {w : World} {K : PySem.W.Frag} {mg : Str → Option Value} {base : Heap} {f : Addr} {fd : FuncData} (NB : NoBlt mg) (M_BadTable : MkX P w K mg base 1 "BadTable" 1 (fun C => spFld C (fl1 "name"))) (M_NoOperation : MkX P w K mg base 1 "NoOperation" 1 (fun C => spFld C (fl1 "name"))) (M_NoCell : MkX P w K mg base 1 "NoCell" 1 (fun C => spFld C (fl1 "name"))) (M_BadName : MkX P w K mg base 1 "BadName" 1 (fun C => spFld C (fl1 "name"))) (M_BadNumber : MkX P w K mg base 1 "BadNumber" 1 (fun C => spFld C (fl1 "number"))) (M_BadClient : MkX P w K mg base 1 "BadClient" 1 (fun C => spFld C (fl1 "caller"))) (M_BadRun : MkX P w K mg base 1 "BadRun" 1 (fun C => spFld C (fl1 "at"))) (M_Over : MkX P w K mg base 1 "Over" 1 (fun C => spFld C (fl1 "caller"))) (M_TooLarge : MkX P w K mg base 1 "TooLarge" 1 (fun C => spFld C (fl1 "bound"))) (M_BadStep : MkX P w K mg base 1 "BadStep" 2 (fun C => spFld C (fl2 "name" "at"))) (M_BadRow : MkX P w K mg base 1 "BadRow" 1 (spRow K "row")) (F : Fun K "_law_raise" "_law_raise" st__law_raise f fd) :
    FnX P w K mg base 3 f fd ["_law_at", "_law_name", "_law_number", "_law_row_here"] (runX 4 m__law_raise) := by
  have SC := sc__law_raise
  refine fnX F SC rfl fun cdv A outer s H E hr => ?_
  exact (bx_cons (sx_if (td_eq (un_of hr (by decide)) (dv 0) ed_int) (bx_one (sx_raise rfl (L2N.takes_of rfl rfl rfl rfl) M_BadTable flD1 (hr.mono (by decide)) (by rfl) (ad_cons (dv 1) ad_nil) (aC_len aN_len))) bx_nil)
    (bx_cons (sx_if (td_eq (un_of hr (by decide)) (dv 0) ed_int) (bx_one (sx_raise rfl (L2N.takes_of rfl rfl rfl rfl) M_NoOperation flD1 (hr.mono (by decide)) (by rfl) (ad_cons (dv 1) ad_nil) (aC_len aN_len))) bx_nil)
    (bx_cons (sx_if (td_eq (un_of hr (by decide)) (dv 0) ed_int) (bx_one (sx_raise rfl (L2N.takes_of rfl rfl rfl rfl) M_NoCell flD1 (hr.mono (by decide)) (by rfl) (ad_cons (dv 1) ad_nil) (aC_len aN_len))) bx_nil)
    (bx_cons (sx_if (td_eq (un_of hr (by decide)) (dv 0) ed_int) (bx_one (sx_raise rfl (L2N.takes_of rfl rfl rfl rfl) M_BadName flD1 (hr.mono (by decide)) (by rfl) (ad_cons (dv 1) ad_nil) (aC_len aN_len))) bx_nil)
    (bx_cons (sx_if (td_eq (un_of hr (by decide)) (dv 0) ed_int) (bx_one (sx_raise rfl (L2N.takes_of rfl rfl rfl rfl) M_BadNumber flD1 (hr.mono (by decide)) (by rfl) (ad_cons (dv 2) ad_nil) (aC_len aN_len))) bx_nil)
    (bx_cons (sx_if (td_eq (un_of hr (by decide)) (dv 0) ed_int) (bx_one (sx_raise rfl (L2N.takes_of rfl rfl rfl rfl) M_BadStep flD2 (hr.mono (by decide)) (by rfl) (ad_cons (dv 1) (ad_cons (dv 2) ad_nil)) (aC_len (aC_len aN_len)))) bx_nil)
    (bx_cons (sx_if (td_eq (un_of hr (by decide)) (dv 0) ed_int) (bx_one (sx_raise rfl (L2N.takes_of rfl rfl rfl rfl) M_BadClient flD1 (hr.mono (by decide)) (by rfl) (ad_cons (dv 2) ad_nil) (aC_len aN_len))) bx_nil)
    (bx_cons (sx_if (td_eq (un_of hr (by decide)) (dv 0) ed_int) (bx_one (sx_raise rfl (L2N.takes_of rfl rfl rfl rfl) M_BadRun flD1 (hr.mono (by decide)) (by rfl) (ad_cons (dv 2) ad_nil) (aC_len aN_len))) bx_nil)
    (bx_cons (sx_if (td_eq (un_of hr (by decide)) (dv 0) ed_int) (bx_one (sx_raiseRow rfl (L2N.takes_of rfl rfl rfl rfl) M_BadRow (hr.mono (by decide)) (by rfl) (ad_cons (ed_of_od (od_list rfl (by rfl) NB.list (ad_cons (dv 3) ad_nil))) ad_nil) (aC_len aN_len))) bx_nil)
    (bx_cons (sx_if (td_eq (un_of hr (by decide)) (dv 0) ed_int) (bx_one (sx_raise rfl (L2N.takes_of rfl rfl rfl rfl) M_Over flD1 (hr.mono (by decide)) (by rfl) (ad_cons (dv 2) ad_nil) (aC_len aN_len))) bx_nil)
    (bx_one (sx_raise rfl (L2N.takes_of rfl rfl rfl rfl) M_TooLarge flD1 (hr.mono (by decide)) (by rfl) (ad_cons (dv 2) ad_nil) (aC_len aN_len)))))))))))))
abbrev st__law_classes : Stmt := top 17
theorem sc__law_classes : FnScope ["_law_e"] ["_law_e"] (defScope st__law_classes) := ⟨rfl, rfl, rfl, by decide +kernel, rfl, by decide +kernel, by decide +kernel⟩
def m__law_classes (a C dx : Addr) : SM :=
    (sRet (eA (aC (eXi a C dx (tbOwn "BadTable") (eVar 0)) (aC (eXi a C dx (tbOwn "NoOperation") (eVar 0)) (aC (eXi a C dx (tbOwn "NoCell") (eVar 0)) (aC (eXi a C dx (tbOwn "BadName") (eVar 0)) (aC (eXi a C dx (tbOwn "BadNumber") (eVar 0)) (aC (eXi a C dx (tbOwn "BadStep") (eVar 0)) (aC (eXi a C dx (tbOwn "BadClient") (eVar 0)) (aC (eXi a C dx (tbOwn "BadRun") (eVar 0)) (aC (eXi a C dx (tbOwn "BadRow") (eVar 0)) (aC (eXi a C dx (tbOwn "Over") (eVar 0)) (aC (eXi a C dx (tbOwn "TooLarge") (eVar 0)) aN))))))))))) fLst))
theorem d__law_classes {P : Program} {w : World} {K : PySem.W.Frag} {mg : Str → Option Value} {base : Heap} {f : Addr} {fd : FuncData} (NB : NoBlt mg) (EF : ErrFacts K mg) {A_BadTable : Addr} (G_BadTable : mg "BadTable" = some (.ref A_BadTable)) {A_NoOperation : Addr} (G_NoOperation : mg "NoOperation" = some (.ref A_NoOperation)) {A_NoCell : Addr} (G_NoCell : mg "NoCell" = some (.ref A_NoCell)) {A_BadName : Addr} (G_BadName : mg "BadName" = some (.ref A_BadName)) {A_BadNumber : Addr} (G_BadNumber : mg "BadNumber" = some (.ref A_BadNumber)) {A_BadClient : Addr} (G_BadClient : mg "BadClient" = some (.ref A_BadClient)) {A_BadRun : Addr} (G_BadRun : mg "BadRun" = some (.ref A_BadRun)) {A_Over : Addr} (G_Over : mg "Over" = some (.ref A_Over)) {A_TooLarge : Addr} (G_TooLarge : mg "TooLarge" = some (.ref A_TooLarge)) {A_BadStep : Addr} (G_BadStep : mg "BadStep" = some (.ref A_BadStep)) {A_BadRow : Addr} (G_BadRow : mg "BadRow" = some (.ref A_BadRow)) (F : Fun K "_law_classes" "_law_classes" st__law_classes f fd) :
    FnHX P w K mg base 1 f fd ["_law_e"] (spHX ⟨P, w, mg, K⟩ (["_law_e"] : List Str).length fun a C dx => runD 1 (m__law_classes a C dx)) := by
  have SC := sc__law_classes
  refine fnHX F SC rfl fun cdv A outer s H E p C dx hot hr => ?_
  exact (bd_one (sd_ret (ed_of_od (od_lst (ad_cons (ed_xi hot (EF.own (T := "BadTable") (by decide +kernel) G_BadTable) (by rfl) NB.isinstance (dv 0) (cls_own (by rfl) G_BadTable)) (ad_cons (ed_xi hot (EF.own (T := "NoOperation") (by decide +kernel) G_NoOperation) (by rfl) NB.isinstance (dv 0) (cls_own (by rfl) G_NoOperation)) (ad_cons (ed_xi hot (EF.own (T := "NoCell") (by decide +kernel) G_NoCell) (by rfl) NB.isinstance (dv 0) (cls_own (by rfl) G_NoCell)) (ad_cons (ed_xi hot (EF.own (T := "BadName") (by decide +kernel) G_BadName) (by rfl) NB.isinstance (dv 0) (cls_own (by rfl) G_BadName)) (ad_cons (ed_xi hot (EF.own (T := "BadNumber") (by decide +kernel) G_BadNumber) (by rfl) NB.isinstance (dv 0) (cls_own (by rfl) G_BadNumber)) (ad_cons (ed_xi hot (EF.own (T := "BadStep") (by decide +kernel) G_BadStep) (by rfl) NB.isinstance (dv 0) (cls_own (by rfl) G_BadStep)) (ad_cons (ed_xi hot (EF.own (T := "BadClient") (by decide +kernel) G_BadClient) (by rfl) NB.isinstance (dv 0) (cls_own (by rfl) G_BadClient)) (ad_cons (ed_xi hot (EF.own (T := "BadRun") (by decide +kernel) G_BadRun) (by rfl) NB.isinstance (dv 0) (cls_own (by rfl) G_BadRun)) (ad_cons (ed_xi hot (EF.own (T := "BadRow") (by decide +kernel) G_BadRow) (by rfl) NB.isinstance (dv 0) (cls_own (by rfl) G_BadRow)) (ad_cons (ed_xi hot (EF.own (T := "Over") (by decide +kernel) G_Over) (by rfl) NB.isinstance (dv 0) (cls_own (by rfl) G_Over)) (ad_cons (ed_xi hot (EF.own (T := "TooLarge") (by decide +kernel) G_TooLarge) (by rfl) NB.isinstance (dv 0) (cls_own (by rfl) G_TooLarge)) ad_nil)))))))))))))))
abbrev st__law_fields : Stmt := top 18
theorem sc__law_fields : FnScope ["_law_e", "_law_at"] ["_law_e", "_law_at"] (defScope st__law_fields) := ⟨rfl, rfl, rfl, by decide +kernel, rfl, by decide +kernel, by decide +kernel⟩
def m__law_fields (a C dx : Addr) : SM :=
    (sS (sIf (tB2 (e2 fIn (eVar 1) (eA (aC (eC (.int 0)) (aC (eC (.int 1)) (aC (eC (.int 2)) (aC (eC (.int 3)) aN)))) fLst))) (sRet (eA (aC (eXf a C dx okE (eVar 0) "name") aN) fLst)) sN)
    (sS (sIf (tB2 (e2 fEq (eVar 1) (eC (.int 4)))) (sRet (eA (aC (eXf a C dx okE (eVar 0) "number") aN) fLst)) sN)
    (sS (sIf (tB2 (e2 fEq (eVar 1) (eC (.int 5)))) (sRet (eA (aC (eXf a C dx okE (eVar 0) "name") (aC (eXf a C dx okE (eVar 0) "at") aN)) fLst)) sN)
    (sS (sIf (tOrM (tB2 (e2 fEq (eVar 1) (eC (.int 6)))) (tB2 (e2 fEq (eVar 1) (eC (.int 9))))) (sRet (eA (aC (eXf a C dx okE (eVar 0) "caller") aN) fLst)) sN)
    (sS (sIf (tB2 (e2 fEq (eVar 1) (eC (.int 7)))) (sRet (eA (aC (eXf a C dx okE (eVar 0) "at") aN) fLst)) sN)
    (sS (sIf (tB2 (e2 fEq (eVar 1) (eC (.int 8)))) (sRet (eA (aC (eXf a C dx okE (eVar 0) "row") aN) fLst)) sN)
    (sRet (eA (aC (eXf a C dx okE (eVar 0) "bound") aN) fLst))))))))
theorem d__law_fields {P : Program} {w : World} {K : PySem.W.Frag} {mg : Str → Option Value} {base : Heap} {f : Addr} {fd : FuncData} (NB : NoBlt mg) (EF : ErrFacts K mg) {A_BadTable : Addr} (G_BadTable : mg "BadTable" = some (.ref A_BadTable)) {A_NoOperation : Addr} (G_NoOperation : mg "NoOperation" = some (.ref A_NoOperation)) {A_NoCell : Addr} (G_NoCell : mg "NoCell" = some (.ref A_NoCell)) {A_BadName : Addr} (G_BadName : mg "BadName" = some (.ref A_BadName)) {A_BadNumber : Addr} (G_BadNumber : mg "BadNumber" = some (.ref A_BadNumber)) {A_BadClient : Addr} (G_BadClient : mg "BadClient" = some (.ref A_BadClient)) {A_BadRun : Addr} (G_BadRun : mg "BadRun" = some (.ref A_BadRun)) {A_Over : Addr} (G_Over : mg "Over" = some (.ref A_Over)) {A_TooLarge : Addr} (G_TooLarge : mg "TooLarge" = some (.ref A_TooLarge)) {A_BadStep : Addr} (G_BadStep : mg "BadStep" = some (.ref A_BadStep)) {A_BadRow : Addr} (G_BadRow : mg "BadRow" = some (.ref A_BadRow)) (F : Fun K "_law_fields" "_law_fields" st__law_fields f fd) :
    FnHX P w K mg base 1 f fd ["_law_e", "_law_at"] (spHX ⟨P, w, mg, K⟩ (["_law_e", "_law_at"] : List Str).length fun a C dx => runD 2 (m__law_fields a C dx)) := by
  have SC := sc__law_fields
  refine fnHX F SC rfl fun cdv A outer s H E p C dx hot hr => ?_
  exact (bd_cons (sd_if (td_in (un_ofH hr (by decide)) (dv 1) (ed_of_od (od_lst (ad_cons ed_int (ad_cons ed_int (ad_cons ed_int (ad_cons ed_int ad_nil)))))) (by rfl)) (bd_one (sd_ret (ed_of_od (od_lst (ad_cons (ed_xf hot (EF.fld (by decide +kernel)) (dv 0)) ad_nil))))) bd_nil)
    (bd_cons (sd_if (td_eq (un_ofH hr (by decide)) (dv 1) ed_int) (bd_one (sd_ret (ed_of_od (od_lst (ad_cons (ed_xf hot (EF.fld (by decide +kernel)) (dv 0)) ad_nil))))) bd_nil)
    (bd_cons (sd_if (td_eq (un_ofH hr (by decide)) (dv 1) ed_int) (bd_one (sd_ret (ed_of_od (od_lst (ad_cons (ed_xf hot (EF.fld (by decide +kernel)) (dv 0)) (ad_cons (ed_xf hot (EF.fld (by decide +kernel)) (dv 0)) ad_nil)))))) bd_nil)
    (bd_cons (sd_if (td_w (wd_or (td_eq (un_ofH hr (by decide)) (dv 1) ed_int) (wd_or1 (td_eq (un_ofH hr (by decide)) (dv 1) ed_int)))) (bd_one (sd_ret (ed_of_od (od_lst (ad_cons (ed_xf hot (EF.fld (by decide +kernel)) (dv 0)) ad_nil))))) bd_nil)
    (bd_cons (sd_if (td_eq (un_ofH hr (by decide)) (dv 1) ed_int) (bd_one (sd_ret (ed_of_od (od_lst (ad_cons (ed_xf hot (EF.fld (by decide +kernel)) (dv 0)) ad_nil))))) bd_nil)
    (bd_cons (sd_if (td_eq (un_ofH hr (by decide)) (dv 1) ed_int) (bd_one (sd_ret (ed_of_od (od_lst (ad_cons (ed_xf hot (EF.fld (by decide +kernel)) (dv 0)) ad_nil))))) bd_nil)
    (bd_one (sd_ret (ed_of_od (od_lst (ad_cons (ed_xf hot (EF.fld (by decide +kernel)) (dv 0)) ad_nil)))))))))))
abbrev st_law : Stmt := top 19
theorem sc_law : FnScope ["_law_script", "_law_row_here", "_law_name", "_law_number", "_law_tail", "_law_k", "_law_at", "_law_fields_here", "_law_caught", "_law_e"] ["_law_script"] (defScope st_law) := ⟨rfl, rfl, rfl, by decide +kernel, rfl, by decide +kernel, by decide +kernel⟩
noncomputable def m_law (Φ__law_row Φ__law_names : FM) (Φ__law_raise : FXM) (Φ__law_classes Φ__law_fields : Addr → Addr → Addr → FM) : SM :=
    (sS (sSet 1 (eCall (aC (eVar 0) (aC (eC (.int 0)) (aC (eC (.int 6)) aN))) [] Φ__law_row))
    (sS (sSet 2 (e2 fSub (eCall (aC (e2 fSub (eVar 1) (eC (.int 0))) (aC (eC (.int 1)) aN)) [] Φ__law_names) (eC (.int 0))))
    (sS (sSet 3 (e2 oSub (aOne (aC (e2 fSub (eVar 1) (eC (.int 1))) aN) fInt) (eC (.int 5000000))))
    (sS (sIf (tB2 (e2 oGt (aOne (aC (eVar 0) aN) fLen) (eC (.int 0)))) (sSet 3 (e2 oSub (e2 oMod (aOne (aC (e2 fSub (eVar 0) (eC (.int 0))) aN) fInt) (e2 oPow (eC (.int 10)) (eC (.int 60)))) (e2 oPow (eC (.int 10)) (eC (.int 59))))) sN)
    (sS (sSet 4 (eLc (itRange2 (aC (eC (.int 2)) (aC (e2 fAdd (eC (.int 2)) (e2 oMod (aOne (aC (e2 fSub (eVar 1) (eC (.int 1))) aN) fInt) (eC (.int 4)))) aN))) [5] (gV 5) tY (e2 oMod (aOne (aC (e2 fSub (eVar 1) (eVar 5)) aN) fInt) (eC (.int 9)))))
    (sS (sFor (itRange (aC (eC (.int 11)) aN)) (gV 6) (sS (sSet 7 (eA (aC (eA (aC (eVar 2) aN) fLst) (aC (eA (aC (eVar 2) aN) fLst) (aC (eA (aC (eVar 2) aN) fLst) (aC (eA (aC (eVar 2) aN) fLst) (aC (eA (aC (eVar 3) aN) fLst) (aC (eA (aC (eVar 2) (aC (eVar 3) aN)) fLst) (aC (eA (aC (eVar 3) aN) fLst) (aC (eA (aC (eVar 3) aN) fLst) (aC (eA (aC (eVar 4) aN) fLst) (aC (eA (aC (eVar 3) aN) fLst) aN)))))))))) fLst))
    (sS (sSet 7 (e2 fCat (eVar 7) (eA (aC (eA (aC (eVar 3) aN) fLst) aN) fLst)))
    (sS (sSet 8 (eC (.int 0)))
    (sS (xU (xTry (xDrop (eCallX (aC (eVar 6) (aC (eVar 2) (aC (eVar 3) (aC (eVar 4) aN)))) Φ__law_raise)) 9 tbAll (fun a C dx c ns ds => (sS (sSet 8 (eC (.int 1)))
    (sS (sIf (tOrM (tNotM (tTru (eXi a C dx tbAll (eVar 9)))) (tB2 (e2 fNe (eCall (aC (eVar 9) (aC (eVar 6) aN)) [] (Φ__law_fields a C dx)) (e2 fSub (eVar 7) (eVar 6))))) (sRet (eC (.bl false))) sN)
    (sIf (tB2 (e2 fNe (eCall (aC (eVar 9) aN) [] (Φ__law_classes a C dx)) (eLc (itRange (aC (eC (.int 11)) aN)) [5] (gV 5) tY (e2 fEq (eVar 5) (eVar 6))))) (sRet (eC (.bl false))) sN))))))
    (sIf (tB2 (e2 fNe (eVar 8) (eC (.int 1)))) (sRet (eC (.bl false))) sN))))))
    (sRet (eC (.bl true)))))))))
theorem d_law {P : Program} {w : World} {K : PySem.W.Frag} {mg : Str → Option Value} {base : Heap} {f : Addr} {fd : FuncData} (NB : NoBlt mg) (EF : ErrFacts K mg) (N_ValueError : mg "ValueError" = none) {B0 : Addr} (G_OrderError : mg "OrderError" = some (.ref B0)) {Φ__law_row Φ__law_names : FM} {Φ__law_raise : FXM} {Φ__law_classes Φ__law_fields : Addr → Addr → Addr → FM}
    (C__law_row : CallOk P w K mg base 1 "_law_row" 3 Φ__law_row) (C__law_names : CallOk P w K mg base 1 "_law_names" 2 Φ__law_names) (C__law_raise : CallX P w K mg base 3 "_law_raise" 4 Φ__law_raise)
    (C__law_classes : CallHX P w K mg base 1 "_law_classes" 1 Φ__law_classes) (C__law_fields : CallHX P w K mg base 1 "_law_fields" 2 Φ__law_fields) (F : Fun K "law" "law" st_law f fd) :
    FnD P w K mg base 4 f fd ["_law_script"] (runD 10 (m_law Φ__law_row Φ__law_names Φ__law_raise Φ__law_classes Φ__law_fields)) := by
  have SC := sc_law
  refine fnD F SC rfl fun cdv A outer s H E hr => ?_
  exact (bd_cons (sd_set 1 SC.nd rfl (by first | exact Or.inl rfl | exact Or.inr rfl) (ed_callC C__law_row (hr.mono (by decide)) (by rfl) (ad_cons (dv 0) (ad_cons ed_int (ad_cons ed_int ad_nil))) (by rfl) (aC_len (aC_len (aC_len aN_len)))))
    (bd_cons (sd_set 2 SC.nd rfl (by first | exact Or.inl rfl | exact Or.inr rfl) (ed_sub (un_of hr (by decide)) (ed_callC C__law_names (hr.mono (by decide)) (by rfl) (ad_cons (ed_sub (un_of hr (by decide)) (dv 1) ed_int (by intro _ _; rfl)) (ad_cons ed_int ad_nil)) (by rfl) (aC_len (aC_len aN_len))) ed_int (by intro _ _; rfl)))
    (bd_cons (sd_set 3 SC.nd rfl (by first | exact Or.inl rfl | exact Or.inr rfl) (ed_sub2 (ed_typ call_int1 cl1_int (by rfl) NB.int (by decide +kernel) (ad_cons (ed_sub (un_of hr (by decide)) (dv 1) ed_int (by intro _ _; rfl)) ad_nil)) ed_int))
    (bd_cons (sd_if (td_gt (ed_blt call_lenA cl1_len (by rfl) NB.len (by decide +kernel) (ad_cons (dv 0) ad_nil)) ed_int) (bd_one (sd_set 3 SC.nd rfl (by first | exact Or.inl rfl | exact Or.inr rfl) (ed_sub2 (ed_mod (ed_typ call_int1 cl1_int (by rfl) NB.int (by decide +kernel) (ad_cons (ed_sub (un_of hr (by decide)) (dv 0) ed_int (by intro _ _; rfl)) ad_nil)) (ed_pow ed_int ed_int)) (ed_pow ed_int ed_int)))) bd_nil)
    (bd_cons (sd_setLc 4 (own := [("_law_k", 5)]) (is := [5])  rfl SC.nd rfl (by rfl) (by rfl)  (id_range2 (by rfl) NB.range (ad_cons ed_int (ad_cons (ed_add ed_int (ed_mod (ed_typ call_int1 cl1_int (by rfl) NB.int (by decide +kernel) (ad_cons (ed_sub (un_of hr (by decide)) (dv 1) ed_int (by intro _ _; rfl)) ad_nil)) ed_int)) ad_nil))) (blk_of (by rfl)) (by decide) (fun _ _ _ _ _ => (gd_name 5 SC.nd rfl (by first | exact Or.inl rfl | exact Or.inr rfl))) (fun _ _ _ _ _ => ptsd_nil) (fun _ _ _ _ _ => (ed_mod (ed_typ call_int1 cl1_int (by rfl) NB.int (by decide +kernel) (ad_cons (ed_sub (un_of hr (by decide)) (dv 1) (dv 5) (by intro _ _; rfl)) ad_nil)) ed_int)))
    (bd_cons (sd_for PassesOwn.never rfl (id_range1 (by rfl) NB.range (ad_cons ed_int ad_nil)) (is := [6]) (gd_name 6 SC.nd rfl (by first | exact Or.inl rfl | exact Or.inr rfl)) (bd_cons (sd_set 7 SC.nd rfl (by first | exact Or.inl rfl | exact Or.inr rfl) (ed_of_od (od_lst (ad_cons (ed_of_od (od_lst (ad_cons (dv 2) ad_nil))) (ad_cons (ed_of_od (od_lst (ad_cons (dv 2) ad_nil))) (ad_cons (ed_of_od (od_lst (ad_cons (dv 2) ad_nil))) (ad_cons (ed_of_od (od_lst (ad_cons (dv 2) ad_nil))) (ad_cons (ed_of_od (od_lst (ad_cons (dv 3) ad_nil))) (ad_cons (ed_of_od (od_lst (ad_cons (dv 2) (ad_cons (dv 3) ad_nil)))) (ad_cons (ed_of_od (od_lst (ad_cons (dv 3) ad_nil))) (ad_cons (ed_of_od (od_lst (ad_cons (dv 3) ad_nil))) (ad_cons (ed_of_od (od_lst (ad_cons (dv 4) ad_nil))) (ad_cons (ed_of_od (od_lst (ad_cons (dv 3) ad_nil))) ad_nil)))))))))))))
    (bd_cons (sd_set 7 SC.nd rfl (by first | exact Or.inl rfl | exact Or.inr rfl) (ed_of_od (od_cat (dv 7) (ed_of_od (od_lst (ad_cons (ed_of_od (od_lst (ad_cons (dv 3) ad_nil))) ad_nil))))))
    (bd_cons (sd_set 8 SC.nd rfl (by first | exact Or.inl rfl | exact Or.inr rfl) ed_int)
    (bd_cons (sd_ux (W := fun _ _ _ _ => False) (sx_try 9 rfl rfl SC.nd rfl rfl ⟨by rfl, by decide, .inl G_OrderError⟩ takesN0 (EF.cat_OrderError G_OrderError) (fun W' pn xe tk _ => (bx_one (sx_drop (ex_callC tk C__law_raise (hr.mono (by decide)) (by rfl) (ad_cons (dv 6) (ad_cons (dv 2) (ad_cons (dv 3) (ad_cons (dv 4) ad_nil)))) (by rfl) (aC_len (aC_len (aC_len (aC_len aN_len)))))))) (fun a oe C dx pn c ns ds hz hf => (bd_cons (sd_set 8 SC.nd rfl (by first | exact Or.inl rfl | exact Or.inr rfl) ed_int)
    (bd_cons (sd_if (td_w (wd_or (td_not (td_tru (ed_xi (hot_suite hz hf) EF.ValueError (by rfl) NB.isinstance (dv 9) (cls_blt (by rfl) N_ValueError (by decide +kernel))))) (wd_or1 (td_ne (un_ofH (L2H.roomH_mark hr _) (by decide)) (ed_callHX (hot_suite hz hf) C__law_fields (L2H.roomH_mark (hr.mono (by decide)) _) (by rfl) (ad_cons (dv 9) (ad_cons (dv 6) ad_nil)) (by rfl) (aC_len (aC_len aN_len))) (ed_sub (un_ofH (L2H.roomH_mark hr _) (by decide)) (dv 7) (dv 6) (by intro _ _; rfl)))))) (bd_one (sd_ret ed_bl)) bd_nil)
    (bd_one (sd_if (td_ne (un_ofH (L2H.roomH_mark hr _) (by decide)) (ed_callHX (hot_suite hz hf) C__law_classes (L2H.roomH_mark (hr.mono (by decide)) _) (by rfl) (ad_cons (dv 9) ad_nil) (by rfl) (aC_len aN_len)) (ed_lcH (own := [("_law_k", 5)]) (is := [5]) (hotC_of (hot_suite hz hf)) SC.nd (ih_range1 (by rfl) NB.range (ad_cons ed_int ad_nil)) (blk_of (by rfl)) (by decide) (fun _ _ _ _ _ => (gd_name 5 SC.nd rfl (by first | exact Or.inl rfl | exact Or.inr rfl))) (fun _ _ _ _ _ => ptsd_nil) (fun _ _ _ _ _ => (ed_eq (un_ofH (L2H.roomH_mark hr _) (by decide)) (dv 5) (dv 6))))) (bd_one (sd_ret ed_bl)) bd_nil)))))))
    (bd_one (sd_if (td_ne (un_of hr (by decide)) (dv 8) ed_int) (bd_one (sd_ret ed_bl)) bd_nil)))))))
    (bd_one (sd_ret ed_bl))))))))
end K22

set_option Elab.async false
set_option linter.all false
set_option maxRecDepth 100000
set_option maxHeartbeats 4000000
namespace K22
open PySem DL SX

def rowP (script : D) (k many cell : Int) (gr : Bool) (i : Nat) (S : DS) : Prop := ∃ (left : Int) (acc : List Int) (x : Sl), acc.length = i ∧ (∀ y ∈ acc, 0 ≤ y ∧ y < 10000000) ∧
  S = ⟨[.fro script, .fro (.int k), .fro (.int many), .fro (.int cell), .fro (.bl gr), .fro (.int left), .own (.lst (acc.map .int)), x], []⟩
def rowB : SM := (sS (sIf (tNotM (tTru (eVar 4))) (sS (sSet 5 (e2 oMod (aOne (aC (e2 fAdd (e2 fAdd (e2 oMul (eVar 5) (eC (.int 48271))) (e2 oMul (eC (.int 11)) (eVar 7))) (eC (.int 7))) aN) fInt) (eC (.int 2147483647))))
    (sSet 5 (e2 oMod (aOne (aC (e2 fAdd (e2 fAdd (e2 oMul (eVar 5) (eC (.int 69621))) (e2 oMul (eC (.int 5)) (eVar 7))) (eC (.int 3))) aN) fInt) (eC (.int 2147483647))))) sN)
    (sS (sDrop (eMut (eVar 6) (aC (e2 oMod (aOne (aC (eVar 5) aN) fInt) (eC (.int 10000000))) aN) mApp))
    (sIf (tTru (eVar 4)) (sSet 5 (e2 oDiv (eVar 5) (eC (.int 10000000)))) sN)))
theorem row_more {script : D} {k many cell left z : Int} {gr : Bool} {i : Nat} {acc : List Int} {x : Sl} (hl : acc.length = i) (ha : ∀ y ∈ acc, 0 ≤ y ∧ y < 10000000) :
    rowP script k many cell gr (i + 1) ⟨[.fro script, .fro (.int k), .fro (.int many), .fro (.int cell), .fro (.bl gr), .fro (.int left), .own (.lst (acc.map .int ++ [.int (z % 10000000)])), x], []⟩ := by
  refine ⟨left, acc ++ [z % 10000000], x, by simp [hl], fun y hy => ?_, by simp⟩
  rcases List.mem_append.mp hy with h | h
  · exact ha y h
  · rw [List.mem_singleton] at h
    rw [h]
    omega
theorem row_step (script : D) (k many cell : Int) (gr : Bool) (i : Nat) (S : DS) (hi : i < 1000) (h : rowP script k many cell gr i S) : ∃ S1 S2, gV 7 (.int i) S = some S1 ∧ rowB S1 = some (.nx, S2) ∧ rowP script k many cell gr (i + 1) S2 := by
  obtain ⟨left, acc, x, hl, ha, rfl⟩ := h
  have hacc : acc.length < 16777216 := by omega
  cases gr
  · apply Exists.intro
    apply Exists.intro
    apply And.intro rfl
    apply And.intro
    · simp [rowB, hacc, sS, sIf, tNotM, tTru, eVar, DS.setE, truD, deref, sSet, e2, e1, eB, eC, oI, oIB, tB2, CMulD, CDivD, CPowD, fAdd, aOne, aC, aN, fInt, isHnd, sDrop, eMut, mApp, mutC, setC, sN, eA, fLst, sOwn, sRet, eG, give, fLen, fSub, sFor, itRange, gV]
      rfl
    · exact row_more hl ha
  · apply Exists.intro
    apply Exists.intro
    apply And.intro rfl
    apply And.intro
    · simp [rowB, hacc, sS, sIf, tNotM, tTru, eVar, DS.setE, truD, deref, sSet, e2, e1, eB, eC, oI, oIB, tB2, CMulD, CDivD, CPowD, fAdd, aOne, aC, aN, fInt, isHnd, sDrop, eMut, mApp, mutC, setC, sN, eA, fLst, sOwn, sRet, eG, give, fLen, fSub, sFor, itRange, gV]
      rfl
    · exact row_more hl ha
def rowT : SM := sS (sFor (itRange (aC (eVar 2) aN)) (gV 7) rowB) (sRet (eG (eVar 6)))
theorem row_split : m__law_row = (sS (sSet 3 (eC (.int 0)))
    (sS (sIf (tB2 (e2 oLt (eVar 1) (aOne (aC (eVar 0) aN) fLen))) (sSet 3 (aOne (aC (e2 fSub (eVar 0) (eVar 1)) aN) fInt)) sN)
    (sS (sSet 4 (e2 oGe (eVar 3) (e2 oPow (eC (.int 10)) (eC (.int 18)))))
    (sS (sSet 5 (e2 fSub (eA (aC (e2 fAdd (eVar 3) (e2 oMul (eC (.int 7919)) (eVar 1))) (aC (e2 oSub (eVar 3) (e2 oPow (eC (.int 10)) (eC (.int 18)))) aN)) fLst) (aOne (aC (eVar 4) aN) fInt)))
    (sS (sOwn 6 (eA aN fLst)) rowT))))) := rfl
theorem row_ok (ns : List Int) (h63 : ns.length ≤ 63) : ∃ l : List Int, l.length = 6 ∧ (∀ y ∈ l, 0 ≤ y ∧ y < 10000000) ∧ runD 8 m__law_row [.zst (ns.map .int), .int 0, .int 6] [] = some (.lst (l.map .int), []) := by
  have loop : ∀ (cell left : Int) (gr : Bool), ∃ S', loopF (gV 7) rowB ((List.range 6).map fun (k : Nat) => D.int k) ⟨[.fro (.zst (ns.map .int)), .fro (.int 0), .fro (.int 6), .fro (.int cell), .fro (.bl gr), .fro (.int left), .own (.lst []), .non], []⟩ = some (.nx, S') ∧ rowP (.zst (ns.map .int)) 0 6 cell gr 6 S' := by
    intro cell left gr
    refine loopF_run (P := rowP (.zst (ns.map .int)) 0 6 cell gr) (fun i d S hd h => ?_) ⟨left, [], .non, rfl, by simp, rfl⟩
    have hi : i < 6 := by
      have := (List.getElem?_eq_some_iff.mp hd).1
      simpa using this
    have e : d = .int i := by
      rw [List.getElem?_map, List.getElem?_range hi] at hd
      cases hd
      rfl
    subst e
    exact row_step _ _ _ _ _ i S (by omega) h
  have fin : ∀ (cell left : Int) (gr : Bool) (S0 : DS), S0 = ⟨[.fro (.zst (ns.map .int)), .fro (.int 0), .fro (.int 6), .fro (.int cell), .fro (.bl gr), .fro (.int left), .own (.lst []), .non], []⟩ →
      ∃ l : List Int, l.length = 6 ∧ (∀ y ∈ l, 0 ≤ y ∧ y < 10000000) ∧ outF (rowT S0) = some (.lst (l.map .int), []) := by
    rintro cell left gr _ rfl
    obtain ⟨S', e1, left', acc, x, h1, h2, rfl⟩ := loop cell left gr
    refine ⟨acc, h1, h2, ?_⟩
    have e1' := e1
    simp only [rowT, sS, sFor, itRange, aC, aN, eVar]
    simp
    rw [e1']
    simp [outF, sS, sIf, tNotM, tTru, eVar, DS.setE, truD, deref, sSet, e2, e1, eB, eC, oI, oIB, tB2, CMulD, CDivD, CPowD, fAdd, aOne, aC, aN, fInt, isHnd, sDrop, eMut, mApp, mutC, setC, sN, eA, fLst, sOwn, sRet, eG, give, fLen, fSub, sFor, itRange, gV]
  rw [runD_out, row_split]
  have hf := fin
  generalize rowT = tail at hf ⊢
  cases ns with
  | nil =>
    by_cases hg : (1000000000000000000 : Int) ≤ 0
    · omega
    · obtain ⟨l, h1, h2, h3⟩ := hf 0 0 false _ rfl
      refine ⟨l, h1, h2, ?_⟩
      rw [← h3]
      simp [sS, sIf, tNotM, tTru, eVar, DS.setE, truD, deref, sSet, e2, e1, eB, eC, oI, oIB, tB2, CMulD, CDivD, CPowD, fAdd, aOne, aC, aN, fInt, isHnd, sDrop, eMut, mApp, mutC, setC, sN, eA, fLst, sOwn, sRet, eG, give, fLen, fSub, sFor, itRange, gV, L2.atI, L2.ixN]
  | cons x r =>
    by_cases hg : (1000000000000000000 : Int) ≤ x
    · obtain ⟨l, h1, h2, h3⟩ := hf x (x - 1000000000000000000) true _ rfl
      refine ⟨l, h1, h2, ?_⟩
      rw [← h3]
      simp [sS, sIf, tNotM, tTru, eVar, DS.setE, truD, deref, sSet, e2, e1, eB, eC, oI, oIB, tB2, CMulD, CDivD, CPowD, fAdd, aOne, aC, aN, fInt, isHnd, sDrop, eMut, mApp, mutC, setC, sN, eA, fLst, sOwn, sRet, eG, give, fLen, fSub, sFor, itRange, gV, L2.atI, L2.ixN, hg]
    · obtain ⟨l, h1, h2, h3⟩ := hf x x false _ rfl
      refine ⟨l, h1, h2, ?_⟩
      rw [← h3]
      simp [sS, sIf, tNotM, tTru, eVar, DS.setE, truD, deref, sSet, e2, e1, eB, eC, oI, oIB, tB2, CMulD, CDivD, CPowD, fAdd, aOne, aC, aN, fInt, isHnd, sDrop, eMut, mApp, mutC, setC, sN, eA, fLst, sOwn, sRet, eG, give, fLen, fSub, sFor, itRange, gV, L2.atI, L2.ixN, hg]
end K22

set_option Elab.async false
set_option linter.all false
set_option maxRecDepth 100000
set_option maxHeartbeats 4000000
namespace K22
open PySem DL SX
theorem sS_nx {a b : SM} {S S1 : DS} (h : a S = some (.nx, S1)) : sS a b S = b S1 := by
  unfold sS
  rw [h]
/-! ### joined texts -/
theorem fold_join : ∀ (rest : List Str) (acc : Array Nat), (rest.foldl (fun acc p => acc ++ (Str.ofString "").cps ++ p.cps) acc).size = acc.size + (rest.map (·.length)).sum ∧
    ∀ c, c ∈ (rest.foldl (fun acc p => acc ++ (Str.ofString "").cps ++ p.cps) acc).toList → c ∈ acc.toList ∨ ∃ p ∈ rest, c ∈ p.cps.toList
  | [], acc => ⟨by simp, fun c h => .inl h⟩
  | p :: r, acc => by
    have e0 : (Str.ofString "").cps = #[] := by decide +kernel
    obtain ⟨h1, h2⟩ := fold_join r (acc ++ (Str.ofString "").cps ++ p.cps)
    refine ⟨?_, fun c hc => ?_⟩
    · rw [List.foldl_cons, h1, e0]
      simp [Str.length]
      omega
    · rw [List.foldl_cons] at hc
      rcases h2 c hc with h | ⟨q, hq, h⟩
      · rw [e0] at h
        simp at h
        rcases h with h | h
        · exact .inl (by simpa using h)
        · exact .inr ⟨p, by simp, by simpa using h⟩
      · exact .inr ⟨q, by simp [hq], h⟩
theorem join_good (ys : List Str) : (Txt.join (Str.ofString "") ys).length = (ys.map (·.length)).sum ∧ ∀ c ∈ (Txt.join (Str.ofString "") ys).cps.toList, ∃ p ∈ ys, c ∈ p.cps.toList := by
  cases ys with
  | nil => exact ⟨by decide +kernel, fun c hc => by
      have z : (Txt.join (Str.ofString "") []).cps.toList = [] := by decide +kernel
      rw [z] at hc
      cases hc⟩
  | cons x r =>
    obtain ⟨h1, h2⟩ := fold_join r x.cps
    refine ⟨?_, fun c hc => ?_⟩
    · show (r.foldl (fun acc p => acc ++ (Str.ofString "").cps ++ p.cps) x.cps).size = _
      rw [h1]
      simp [Str.length]
    · rcases h2 c hc with h | ⟨q, hq, h⟩
      · exact ⟨x, by simp, h⟩
      · exact ⟨q, by simp [hq], h⟩
/-- a name: short, of letters -/
def good (s : Str) : Prop := s.length ≤ 1000 ∧ ∀ c ∈ s.cps.toList, c < 128
def letters : Str := "abcdefghijklmnopqrstuvwxyz"
def ltc (z : Int) : Str := ⟨#[(letters.cps.toList).getD (z % 26).toNat 97]⟩
theorem lt_at (z : Int) : L2.atI letters.cps.toList (z % 26) = some ((letters.cps.toList).getD (z % 26).toNat 97) := by
  have hl : letters.cps.toList.length = 26 := by decide +kernel
  have hb : (z % 26).toNat < 26 := by omega
  refine atI_get (by omega) ?_
  rw [List.getD_eq_getElem?_getD, List.getElem?_eq_getElem (by omega)]
  rfl
theorem ltc_good (z : Int) : (ltc z).length = 1 ∧ ∀ c ∈ (ltc z).cps.toList, c < 128 := by
  refine ⟨rfl, fun c hc => ?_⟩
  have h : c = (letters.cps.toList).getD (z % 26).toNat 97 := by simpa [ltc] using hc
  have hb : (z % 26).toNat < 26 := by omega
  have all : ∀ k, k < 26 → (letters.cps.toList).getD k 97 < 128 := by decide +kernel
  rw [h]
  exact all _ hb
theorem sub_lt (S : DS) (z : Int) : fSub S (.str letters) (.int (z % 26)) = some (.str (ltc z)) := by
  have h26 : letters.length ≤ 16777216 := by decide +kernel
  simp [fSub, deref, h26, lt_at, ltc]
theorem strsOf_map : ∀ l : List Str, strsOf (l.map .str) = some l
  | [] => rfl
  | s :: r => by
    show (match strsOf (r.map .str) with | some l => some (s :: l) | none => none) = _
    rw [strsOf_map r]
theorem join_fit {ys : List Str} (hl : ys.length ≤ 100) (h : ∀ p ∈ ys, p.length = 1 ∧ ∀ c ∈ p.cps.toList, c < 128) : good (Txt.join (Str.ofString "") ys) ∧ (ys.map (·.length)).sum + ys.length * (Str.ofString "").length ≤ 16777216 := by
  obtain ⟨h1, h2⟩ := join_good ys
  have hs : ∀ ys : List Str, (∀ p ∈ ys, p.length = 1 ∧ ∀ c ∈ p.cps.toList, c < 128) → (ys.map (·.length)).sum = ys.length := by
    intro ys
    induction ys with
    | nil => intro _; rfl
    | cons y r ih =>
      intro h
      rw [List.map_cons, List.sum_cons, ih fun p hp => h p (by simp [hp]), (h y (by simp)).1, List.length_cons]
      omega
  have e0 : (Str.ofString "").length = 0 := by decide +kernel
  refine ⟨⟨by rw [h1, hs ys h]; omega, fun c hc => ?_⟩, by rw [hs ys h, e0]; omega⟩
  obtain ⟨p, hp, hc'⟩ := h2 c hc
  exact (h p hp).2 c hc'
/-! ### the names -/
def nLc : EM := eLc (itRange (aC (eVar 6) aN)) [8] (gV 8) tY (e2 fSub (eVar 2) (e2 oMod (aOne (aC (e2 fAdd (e2 oDiv (eVar 0) (eC (.int 7))) (eVar 8)) aN) fInt) (eC (.int 26))))
def nB : SM := (sS (sSet 6 (eVar 3))
    (sS (sIf (tB2 (e2 fEq (e2 oMod (aOne (aC (eVar 0) aN) fInt) (eC (.int 2))) (eC (.int 1)))) (sSet 6 (e2 fAdd (eC (.int 1)) (e2 oMod (e2 fAdd (eVar 3) (eVar 5)) (eC (.int 8))))) sN)
    (sS (sOwn 7 nLc)
    (sS (sSet 9 (e2 oMod (e2 oMod (aOne (aC (e2 oDiv (eVar 0) (eC (.int 16))) aN) fInt) (eVar 3)) (eVar 6)))
    (sS (sSub (e2 fSub (eVar 2) (e2 oMod (aOne (aC (e2 fAdd (e2 oDiv (eVar 0) (eC (.int 128))) (eVar 5)) aN) fInt) (eC (.int 26)))) (eVar 7) (eVar 9))
    (sDrop (eMut (eVar 4) (aC (e2 fJoin (eC (.str "")) (eVar 7)) aN) mApp)))))))
theorem nLc_ok (n len : Int) (a1 a3 a4 a5 a7 a9 : Sl) (h0 : 0 ≤ len) (h1 : len ≤ 8) : nLc ⟨[.fro (.int n), a1, .fro (.str letters), a3, a4, a5, .fro (.int len), a7, .non, a9], []⟩ =
    some (.lst ((List.range len.toNat).map fun k => .str (ltc (n / 7 + (k : Nat)))), ⟨[.fro (.int n), a1, .fro (.str letters), a3, a4, a5, .fro (.int len), a7, .non, a9], []⟩) := by
  have := eLc1 (it := itRange (aC (eVar 6) aN)) (e := (e2 fSub (eVar 2) (e2 oMod (aOne (aC (e2 fAdd (e2 oDiv (eVar 0) (eC (.int 7))) (eVar 8)) aN) fInt) (eC (.int 26))))) (v := 8) (S := ⟨[.fro (.int n), a1, .fro (.str letters), a3, a4, a5, .fro (.int len), a7, .non, a9], []⟩)
    (ds := (List.range len.toNat).map fun (k : Nat) => D.int k) (fun k => .str (ltc (n / 7 + (k : Nat)))) (by simp) (by simp [sS, sIf, tNotM, tTru, eVar, DS.setE, truD, deref, sSet, e2, e1, eB, eC, oI, oIB, tB2, CMulD, CDivD, CPowD, fAdd, aOne, aC, aN, fInt, isHnd, sDrop, eMut, mApp, mutC, setC, sN, eA, fLst, sOwn, sRet, eG, give, fLen, fSub, sFor, itRange, gV]; omega) rfl (by simp; omega) (fun i d hd => ?_)
  · rw [List.length_map, List.length_range] at this
    exact this
  · have hi : i < len.toNat := by
      have := (List.getElem?_eq_some_iff.mp hd).1
      simpa using this
    rw [List.getElem?_map, List.getElem?_range hi] at hd
    cases hd
    refine ⟨rfl, rfl, ?_⟩
    simp [sS, sIf, tNotM, tTru, eVar, DS.setE, truD, deref, sSet, e2, e1, eB, eC, oI, oIB, tB2, CMulD, CDivD, CPowD, fAdd, aOne, aC, aN, fInt, isHnd, sDrop, eMut, mApp, mutC, setC, sN, eA, fLst, sOwn, sRet, eG, give, fLen, sFor, itRange, gV, sub_lt]
def good1 (d : D) : Prop := ∃ s, d = .str s ∧ s.length = 1 ∧ ∀ c ∈ s.cps.toList, c < 128
def namP (n many size : Int) (i : Nat) (S : DS) : Prop := ∃ (acc : List Str) (x5 x6 x7 x9 : Sl), acc.length = i ∧ (∀ s ∈ acc, good s) ∧
  S = ⟨[.fro (.int n), .fro (.int many), .fro (.str letters), .fro (.int size), .own (.lst (acc.map .str)), x5, x6, x7, .non, x9], []⟩
theorem nam_end {n many size : Int} {i : Nat} {acc : List Str} {x5 x6 x7 x9 : Sl} {s : Str} (hl : acc.length = i) (ha : ∀ s ∈ acc, good s) (hs : good s) :
    namP n many size (i + 1) ⟨[.fro (.int n), .fro (.int many), .fro (.str letters), .fro (.int size), .own (.lst (acc.map .str ++ [.str s])), x5, x6, x7, .non, x9], []⟩ :=
  ⟨acc ++ [s], x5, x6, x7, x9, by simp [hl], fun y hy => by
    rcases List.mem_append.mp hy with h | h
    · exact ha y h
    · rw [List.mem_singleton] at h
      rw [h]
      exact hs, by simp⟩
theorem nam_step (n many size : Int) (hn : 0 ≤ n) (hs1 : 1 ≤ size) (hs8 : size ≤ 8) (i : Nat) (hi : i < 1000) (S : DS) (h : namP n many size i S) : ∃ S1 S2, gV 5 (.int i) S = some S1 ∧ nB S1 = some (.nx, S2) ∧ namP n many size (i + 1) S2 := by
  obtain ⟨acc, x5, x6, x7, x9, hl, ha, rfl⟩ := h
  have hacc : acc.length < 16777216 := by omega
  obtain ⟨len, h0, h8, hlen⟩ : ∃ len : Int, 1 ≤ len ∧ len ≤ 8 ∧ ∀ (b : SM), sS (sSet 6 (eVar 3)) (sS (sIf (tB2 (e2 fEq (e2 oMod (aOne (aC (eVar 0) aN) fInt) (eC (.int 2))) (eC (.int 1)))) (sSet 6 (e2 fAdd (eC (.int 1)) (e2 oMod (e2 fAdd (eVar 3) (eVar 5)) (eC (.int 8))))) sN) b)
      ⟨[.fro (.int n), .fro (.int many), .fro (.str letters), .fro (.int size), .own (.lst (acc.map .str)), .fro (.int i), x6, x7, .non, x9], []⟩ = b ⟨[.fro (.int n), .fro (.int many), .fro (.str letters), .fro (.int size), .own (.lst (acc.map .str)), .fro (.int i), .fro (.int len), x7, .non, x9], []⟩ := by
    by_cases hm : n % 2 = 1
    · refine ⟨1 + (size + i) % 8, by omega, by omega, fun b => ?_⟩
      simp [sS, sIf, tNotM, tTru, eVar, DS.setE, truD, deref, sSet, e2, e1, eB, eC, oI, oIB, tB2, CMulD, CDivD, CPowD, fAdd, aOne, aC, aN, fInt, isHnd, sDrop, eMut, mApp, mutC, setC, sN, eA, fLst, sOwn, sRet, eG, give, fLen, fSub, sFor, itRange, gV, eq_int, hm]
    · refine ⟨size, by omega, by omega, fun b => ?_⟩
      simp [sS, sIf, tNotM, tTru, eVar, DS.setE, truD, deref, sSet, e2, e1, eB, eC, oI, oIB, tB2, CMulD, CDivD, CPowD, fAdd, aOne, aC, aN, fInt, isHnd, sDrop, eMut, mApp, mutC, setC, sN, eA, fLst, sOwn, sRet, eG, give, fLen, fSub, sFor, itRange, gV, eq_int, hm]
  generalize hb : (sS (sOwn 7 nLc)
    (sS (sSet 9 (e2 oMod (e2 oMod (aOne (aC (e2 oDiv (eVar 0) (eC (.int 16))) aN) fInt) (eVar 3)) (eVar 6)))
    (sS (sSub (e2 fSub (eVar 2) (e2 oMod (aOne (aC (e2 fAdd (e2 oDiv (eVar 0) (eC (.int 128))) (eVar 5)) aN) fInt) (eC (.int 26)))) (eVar 7) (eVar 9))
    (sDrop (eMut (eVar 4) (aC (e2 fJoin (eC (.str "")) (eVar 7)) aN) mApp))))) = rest
  have hlen' := hlen rest
  have hnB : nB = sS (sSet 6 (eVar 3)) (sS (sIf (tB2 (e2 fEq (e2 oMod (aOne (aC (eVar 0) aN) fInt) (eC (.int 2))) (eC (.int 1)))) (sSet 6 (e2 fAdd (eC (.int 1)) (e2 oMod (e2 fAdd (eVar 3) (eVar 5)) (eC (.int 8))))) sN) rest) := by
    rw [← hb]
    rfl
  obtain ⟨ys, hy1, hy2, hy3⟩ : ∃ ys : List Str, ys.length = len.toNat ∧ (∀ p ∈ ys, p.length = 1 ∧ ∀ c ∈ p.cps.toList, c < 128) ∧ nLc ⟨[.fro (.int n), .fro (.int many), .fro (.str letters), .fro (.int size), .own (.lst (acc.map .str)), .fro (.int i), .fro (.int len), x7, .non, x9], []⟩ =
      some (.lst (ys.map .str), ⟨[.fro (.int n), .fro (.int many), .fro (.str letters), .fro (.int size), .own (.lst (acc.map .str)), .fro (.int i), .fro (.int len), x7, .non, x9], []⟩) := by
    refine ⟨(List.range len.toNat).map fun k => ltc (n / 7 + (k : Nat)), by simp, fun p hp => ?_, ?_⟩
    · obtain ⟨k, _, rfl⟩ := List.mem_map.mp hp
      exact ltc_good _
    · rw [nLc_ok n len _ _ _ _ _ _ (by omega) h8, List.map_map]
      rfl
  have hsp0 : 0 ≤ n / 16 % size % len := Int.emod_nonneg _ (by omega)
  have hsp1 : n / 16 % size % len < len := Int.emod_lt_of_pos _ (by omega)
  have hset : ∀ p ∈ ys.set (n / 16 % size % len).toNat (ltc (n / 128 + i)), p.length = 1 ∧ ∀ c ∈ p.cps.toList, c < 128 := fun p hp => by
    rcases List.mem_or_eq_of_mem_set hp with h | h
    · exact hy2 p h
    · rw [h]
      exact ltc_good _
  obtain ⟨g1, g2⟩ := join_fit (ys := ys.set (n / 16 % size % len).toNat (ltc (n / 128 + i))) (by rw [List.length_set]; omega) hset
  have hix : L2.ixN ys.length (n / 16 % size % len) = some (n / 16 % size % len).toNat := ixN_in hsp0 (by rw [hy1]; omega)
  apply Exists.intro
  apply Exists.intro
  apply And.intro rfl
  apply And.intro
  · show nB ⟨[.fro (.int n), .fro (.int many), .fro (.str letters), .fro (.int size), .own (.lst (acc.map .str)), .fro (.int i), x6, x7, .non, x9], []⟩ = _
    rw [hnB, hlen', ← hb]
    have hsz : (0 : Int) < size := by omega
    have hln : (0 : Int) < len := by omega
    have hjn : fJoin ⟨[.fro (.int n), .fro (.int many), .fro (.str letters), .fro (.int size), .own (.lst (acc.map .str)), .fro (.int i), .fro (.int len), .own (.lst ((ys.map D.str).set (n / 16 % size % len).toNat (.str (ltc (n / 128 + i))))), .non, .fro (.int (n / 16 % size % len))], []⟩ (.str (Str.ofString "")) (.hnd 7) =
        some (.str (Txt.join (Str.ofString "") (ys.set (n / 16 % size % len).toNat (ltc (n / 128 + i))))) := by
      have hm : (ys.map D.str).set (n / 16 % size % len).toNat (.str (ltc (n / 128 + i))) = (ys.set (n / 16 % size % len).toNat (ltc (n / 128 + i))).map D.str := by rw [List.map_set]
      simp only [fJoin, deref, List.getElem?_cons_succ, List.getElem?_cons_zero]
      rw [hm, strsOf_map]
      dsimp only
      rw [if_pos g2]
    simp [sS, sIf, tNotM, tTru, eVar, DS.setE, truD, deref, sSet, e2, e1, eB, eC, oI, oIB, tB2, CMulD, CDivD, CPowD, fAdd, aOne, aC, aN, fInt, isHnd, sDrop, eMut, mApp, mutC, setC, sN, eA, fLst, sOwn, sRet, eG, give, fLen, sFor, itRange, gV, sub_lt, hy3, sSub, putD, hix, hsz, hln, hacc, hjn]
    rfl
  · exact nam_end hl ha g1
end K22

set_option Elab.async false
set_option linter.all false
set_option maxRecDepth 100000
set_option maxHeartbeats 4000000
namespace K22
open PySem DL SX
theorem names_ok (n : Int) (hn : 0 ≤ n) : ∃ s : Str, good s ∧ runD 10 m__law_names [.int n, .int 1] [] = some (.lst [.str s], []) := by
  obtain ⟨S', e1, acc, x5, x6, x7, x9, h1, h2, rfl⟩ := loopF_run (g := gV 5) (b := nB) (ds := (List.range 1).map fun (k : Nat) => D.int k) (P := namP n 1 (1 + n / 2 % 8)) (fun i d S hd h => by
    have hi : i < 1 := by
      have := (List.getElem?_eq_some_iff.mp hd).1
      simpa using this
    have e : d = .int i := by
      rw [List.getElem?_map, List.getElem?_range hi] at hd
      cases hd
      rfl
    subst e
    exact nam_step n 1 (1 + n / 2 % 8) hn (by omega) (by omega) i (by omega) S h) (S := ⟨[.fro (.int n), .fro (.int 1), .fro (.str letters), .fro (.int (1 + n / 2 % 8)), .own (.lst []), .non, .non, .non, .non, .non], []⟩) ⟨[], .non, .non, .non, .non, rfl, by simp, rfl⟩
  have hl : acc.length = 1 := by simpa using h1
  obtain ⟨s, rfl⟩ : ∃ s, acc = [s] := by
    cases acc with
    | nil => cases hl
    | cons a r =>
      cases r with
      | nil => exact ⟨a, rfl⟩
      | cons b r => simp at hl
  refine ⟨s, h2 s (by simp), ?_⟩
  have hm : m__law_names = sS (sSet 2 (eC (.str letters))) (sS (sSet 3 (e2 fAdd (eC (.int 1)) (e2 oMod (e2 oDiv (aOne (aC (eVar 0) aN) fInt) (eC (.int 2))) (eC (.int 8)))))
    (sS (sOwn 4 (eA aN fLst)) (sS (sFor (itRange (aC (eVar 1) aN)) (gV 5) nB) (sRet (eG (eVar 4)))))) := rfl
  rw [runD_out, hm]
  simp [sS, sIf, tNotM, tTru, eVar, DS.setE, truD, deref, sSet, e2, e1, eB, eC, oI, oIB, tB2, CMulD, CDivD, CPowD, fAdd, aOne, aC, aN, fInt, isHnd, sDrop, eMut, mApp, mutC, setC, sN, eA, fLst, sOwn, sRet, eG, give, fLen, fSub, sFor, itRange, gV]
  rw [show List.map (fun (k : Nat) => D.int k) (List.range 1) = [D.int 0] from rfl] at e1
  rw [e1]
  simp [sS, sIf, tNotM, tTru, eVar, DS.setE, truD, deref, sSet, e2, e1, eB, eC, oI, oIB, tB2, CMulD, CDivD, CPowD, fAdd, aOne, aC, aN, fInt, isHnd, sDrop, eMut, mApp, mutC, setC, sN, eA, fLst, sOwn, sRet, eG, give, fLen, fSub, sFor, itRange, gV, outF]
/-! ### the errors -/
def exC : Nat → Str
  | 0 => "BadTable" | 1 => "NoOperation" | 2 => "NoCell" | 3 => "BadName" | 4 => "BadNumber" | 5 => "BadStep" | 6 => "BadClient" | 7 => "BadRun" | 8 => "BadRow" | 9 => "Over" | _ => "TooLarge"
def exF : Nat → List Str
  | 0 => ["name"] | 1 => ["name"] | 2 => ["name"] | 3 => ["name"] | 4 => ["number"] | 5 => ["at", "name"] | 6 => ["caller"] | 7 => ["at"] | 8 => ["row"] | 9 => ["caller"] | _ => ["bound"]
def exD (s : Str) (z : Int) (tl : List Int) : Nat → List D
  | 0 => [.str s] | 1 => [.str s] | 2 => [.str s] | 3 => [.str s] | 4 => [.int z] | 5 => [.int z, .str s] | 6 => [.int z] | 7 => [.int z] | 8 => [.lst (tl.map .int)] | 9 => [.int z] | _ => [.int z]
/-- as the law tells them -/
def exL (s : Str) (z : Int) (tl : List Int) : Nat → List D
  | 5 => [.str s, .int z] | n => exD s z tl n
theorem intsOf_map : ∀ l : List Int, intsOf (l.map .int) = some l
  | [] => rfl
  | s :: r => by
    show (match intsOf (r.map .int) with | some l => some (s :: l) | none => none) = _
    rw [intsOf_map r]
theorem raise_ok (s : Str) (z : Int) (tl : List Int) (hs : good s) (hz : z.natAbs.log2 < 1920) (ht : tl.all smallI = true) (htl : tl.length ≤ 100) (i : Nat) (hi : i < 11) :
    runX 4 m__law_raise [.int i, .str s, .int z, .lst (tl.map .int)] [] = some (.ex (exC i) (exF i) (exD s z tl i), []) := by
  have h1 : okR (.str s) = true := by
    unfold okR
    rw [Bool.and_eq_true, decide_eq_true_eq, List.all_eq_true]
    exact ⟨hs.1, fun c hc => decide_eq_true (by have := hs.2 c hc; omega)⟩
  have h2 : okR (.int z) = true := by simpa [okR] using hz
  rw [runX_out]
  match i, hi with
  | 0, _ => simp [sS, sIf, tNotM, tTru, eVar, DS.setE, truD, deref, sSet, e2, e1, eB, eC, oI, oIB, tB2, CMulD, CDivD, CPowD, fAdd, aOne, aC, aN, fInt, isHnd, sDrop, eMut, mApp, mutC, setC, sN, eA, fLst, sOwn, sRet, eG, give, fLen, fSub, sFor, itRange, gV, m__law_raise, xS, xIf, xRaise, xL, eq_int, fd1, fd2, fdRow, okD, h1, h2, outX, exC, exF, exD, fListOf, intsOf_map, ht, htl]
  | 1, _ => simp [sS, sIf, tNotM, tTru, eVar, DS.setE, truD, deref, sSet, e2, e1, eB, eC, oI, oIB, tB2, CMulD, CDivD, CPowD, fAdd, aOne, aC, aN, fInt, isHnd, sDrop, eMut, mApp, mutC, setC, sN, eA, fLst, sOwn, sRet, eG, give, fLen, fSub, sFor, itRange, gV, m__law_raise, xS, xIf, xRaise, xL, eq_int, fd1, fd2, fdRow, okD, h1, h2, outX, exC, exF, exD, fListOf, intsOf_map, ht, htl]
  | 2, _ => simp [sS, sIf, tNotM, tTru, eVar, DS.setE, truD, deref, sSet, e2, e1, eB, eC, oI, oIB, tB2, CMulD, CDivD, CPowD, fAdd, aOne, aC, aN, fInt, isHnd, sDrop, eMut, mApp, mutC, setC, sN, eA, fLst, sOwn, sRet, eG, give, fLen, fSub, sFor, itRange, gV, m__law_raise, xS, xIf, xRaise, xL, eq_int, fd1, fd2, fdRow, okD, h1, h2, outX, exC, exF, exD, fListOf, intsOf_map, ht, htl]
  | 3, _ => simp [sS, sIf, tNotM, tTru, eVar, DS.setE, truD, deref, sSet, e2, e1, eB, eC, oI, oIB, tB2, CMulD, CDivD, CPowD, fAdd, aOne, aC, aN, fInt, isHnd, sDrop, eMut, mApp, mutC, setC, sN, eA, fLst, sOwn, sRet, eG, give, fLen, fSub, sFor, itRange, gV, m__law_raise, xS, xIf, xRaise, xL, eq_int, fd1, fd2, fdRow, okD, h1, h2, outX, exC, exF, exD, fListOf, intsOf_map, ht, htl]
  | 4, _ => simp [sS, sIf, tNotM, tTru, eVar, DS.setE, truD, deref, sSet, e2, e1, eB, eC, oI, oIB, tB2, CMulD, CDivD, CPowD, fAdd, aOne, aC, aN, fInt, isHnd, sDrop, eMut, mApp, mutC, setC, sN, eA, fLst, sOwn, sRet, eG, give, fLen, fSub, sFor, itRange, gV, m__law_raise, xS, xIf, xRaise, xL, eq_int, fd1, fd2, fdRow, okD, h1, h2, outX, exC, exF, exD, fListOf, intsOf_map, ht, htl]
  | 5, _ => simp [sS, sIf, tNotM, tTru, eVar, DS.setE, truD, deref, sSet, e2, e1, eB, eC, oI, oIB, tB2, CMulD, CDivD, CPowD, fAdd, aOne, aC, aN, fInt, isHnd, sDrop, eMut, mApp, mutC, setC, sN, eA, fLst, sOwn, sRet, eG, give, fLen, fSub, sFor, itRange, gV, m__law_raise, xS, xIf, xRaise, xL, eq_int, fd1, fd2, fdRow, okD, h1, h2, outX, exC, exF, exD, fListOf, intsOf_map, ht, htl]
  | 6, _ => simp [sS, sIf, tNotM, tTru, eVar, DS.setE, truD, deref, sSet, e2, e1, eB, eC, oI, oIB, tB2, CMulD, CDivD, CPowD, fAdd, aOne, aC, aN, fInt, isHnd, sDrop, eMut, mApp, mutC, setC, sN, eA, fLst, sOwn, sRet, eG, give, fLen, fSub, sFor, itRange, gV, m__law_raise, xS, xIf, xRaise, xL, eq_int, fd1, fd2, fdRow, okD, h1, h2, outX, exC, exF, exD, fListOf, intsOf_map, ht, htl]
  | 7, _ => simp [sS, sIf, tNotM, tTru, eVar, DS.setE, truD, deref, sSet, e2, e1, eB, eC, oI, oIB, tB2, CMulD, CDivD, CPowD, fAdd, aOne, aC, aN, fInt, isHnd, sDrop, eMut, mApp, mutC, setC, sN, eA, fLst, sOwn, sRet, eG, give, fLen, fSub, sFor, itRange, gV, m__law_raise, xS, xIf, xRaise, xL, eq_int, fd1, fd2, fdRow, okD, h1, h2, outX, exC, exF, exD, fListOf, intsOf_map, ht, htl]
  | 8, _ => simp [sS, sIf, tNotM, tTru, eVar, DS.setE, truD, deref, sSet, e2, e1, eB, eC, oI, oIB, tB2, CMulD, CDivD, CPowD, fAdd, aOne, aC, aN, fInt, isHnd, sDrop, eMut, mApp, mutC, setC, sN, eA, fLst, sOwn, sRet, eG, give, fLen, fSub, sFor, itRange, gV, m__law_raise, xS, xIf, xRaise, xL, eq_int, fd1, fd2, fdRow, okD, h1, h2, outX, exC, exF, exD, fListOf, intsOf_map, ht, htl]
  | 9, _ => simp [sS, sIf, tNotM, tTru, eVar, DS.setE, truD, deref, sSet, e2, e1, eB, eC, oI, oIB, tB2, CMulD, CDivD, CPowD, fAdd, aOne, aC, aN, fInt, isHnd, sDrop, eMut, mApp, mutC, setC, sN, eA, fLst, sOwn, sRet, eG, give, fLen, fSub, sFor, itRange, gV, m__law_raise, xS, xIf, xRaise, xL, eq_int, fd1, fd2, fdRow, okD, h1, h2, outX, exC, exF, exD, fListOf, intsOf_map, ht, htl]
  | 10, _ => simp [sS, sIf, tNotM, tTru, eVar, DS.setE, truD, deref, sSet, e2, e1, eB, eC, oI, oIB, tB2, CMulD, CDivD, CPowD, fAdd, aOne, aC, aN, fInt, isHnd, sDrop, eMut, mApp, mutC, setC, sN, eA, fLst, sOwn, sRet, eG, give, fLen, fSub, sFor, itRange, gV, m__law_raise, xS, xIf, xRaise, xL, eq_int, fd1, fd2, fdRow, okD, h1, h2, outX, exC, exF, exD, fListOf, intsOf_map, ht, htl]
theorem in4 (S : DS) (i a b c d : Int) : fIn S (.int i) (.lst [.int a, .int b, .int c, .int d]) = some (.bl (a == i || (b == i || (c == i || d == i)))) := by
  simp [fIn, inD, deref, dataOf, isPd, pd, PyData.eqv]
theorem okE_exC (i : Nat) : exC i ∈ errN := by
  unfold exC
  split <;> decide +kernel
theorem at_name : ¬ ((Str.ofString "at") = Str.ofString "name") := by decide +kernel
theorem fields_ok (a C dx : Addr) (s : Str) (z : Int) (tl : List Int) (i : Nat) (hi : i < 11) : runD 2 (m__law_fields a C dx) [.exc a C dx (exC i) (exF i) (exD s z tl i), .int i] [] = some (.lst (exL s z tl i), []) := by
  rw [runD_out]
  match i, hi with
  | 0, _ =>
    have ok := okE_exC 0
    simp [sS, sIf, tNotM, tTru, eVar, DS.setE, truD, deref, sSet, e2, e1, eB, eC, oI, oIB, tB2, CMulD, CDivD, CPowD, fAdd, aOne, aC, aN, fInt, isHnd, sDrop, eMut, mApp, mutC, setC, sN, eA, fLst, sOwn, sRet, eG, give, fLen, fSub, sFor, itRange, gV, m__law_fields, outF, eXf, okE, ok, eq_int, in4, exF, exD, exL, lookD, tOrM, at_name]
  | 1, _ =>
    have ok := okE_exC 1
    simp [sS, sIf, tNotM, tTru, eVar, DS.setE, truD, deref, sSet, e2, e1, eB, eC, oI, oIB, tB2, CMulD, CDivD, CPowD, fAdd, aOne, aC, aN, fInt, isHnd, sDrop, eMut, mApp, mutC, setC, sN, eA, fLst, sOwn, sRet, eG, give, fLen, fSub, sFor, itRange, gV, m__law_fields, outF, eXf, okE, ok, eq_int, in4, exF, exD, exL, lookD, tOrM, at_name]
  | 2, _ =>
    have ok := okE_exC 2
    simp [sS, sIf, tNotM, tTru, eVar, DS.setE, truD, deref, sSet, e2, e1, eB, eC, oI, oIB, tB2, CMulD, CDivD, CPowD, fAdd, aOne, aC, aN, fInt, isHnd, sDrop, eMut, mApp, mutC, setC, sN, eA, fLst, sOwn, sRet, eG, give, fLen, fSub, sFor, itRange, gV, m__law_fields, outF, eXf, okE, ok, eq_int, in4, exF, exD, exL, lookD, tOrM, at_name]
  | 3, _ =>
    have ok := okE_exC 3
    simp [sS, sIf, tNotM, tTru, eVar, DS.setE, truD, deref, sSet, e2, e1, eB, eC, oI, oIB, tB2, CMulD, CDivD, CPowD, fAdd, aOne, aC, aN, fInt, isHnd, sDrop, eMut, mApp, mutC, setC, sN, eA, fLst, sOwn, sRet, eG, give, fLen, fSub, sFor, itRange, gV, m__law_fields, outF, eXf, okE, ok, eq_int, in4, exF, exD, exL, lookD, tOrM, at_name]
  | 4, _ =>
    have ok := okE_exC 4
    simp [sS, sIf, tNotM, tTru, eVar, DS.setE, truD, deref, sSet, e2, e1, eB, eC, oI, oIB, tB2, CMulD, CDivD, CPowD, fAdd, aOne, aC, aN, fInt, isHnd, sDrop, eMut, mApp, mutC, setC, sN, eA, fLst, sOwn, sRet, eG, give, fLen, fSub, sFor, itRange, gV, m__law_fields, outF, eXf, okE, ok, eq_int, in4, exF, exD, exL, lookD, tOrM, at_name]
  | 5, _ =>
    have ok := okE_exC 5
    simp [sS, sIf, tNotM, tTru, eVar, DS.setE, truD, deref, sSet, e2, e1, eB, eC, oI, oIB, tB2, CMulD, CDivD, CPowD, fAdd, aOne, aC, aN, fInt, isHnd, sDrop, eMut, mApp, mutC, setC, sN, eA, fLst, sOwn, sRet, eG, give, fLen, fSub, sFor, itRange, gV, m__law_fields, outF, eXf, okE, ok, eq_int, in4, exF, exD, exL, lookD, tOrM, at_name]
  | 6, _ =>
    have ok := okE_exC 6
    simp [sS, sIf, tNotM, tTru, eVar, DS.setE, truD, deref, sSet, e2, e1, eB, eC, oI, oIB, tB2, CMulD, CDivD, CPowD, fAdd, aOne, aC, aN, fInt, isHnd, sDrop, eMut, mApp, mutC, setC, sN, eA, fLst, sOwn, sRet, eG, give, fLen, fSub, sFor, itRange, gV, m__law_fields, outF, eXf, okE, ok, eq_int, in4, exF, exD, exL, lookD, tOrM, at_name]
  | 7, _ =>
    have ok := okE_exC 7
    simp [sS, sIf, tNotM, tTru, eVar, DS.setE, truD, deref, sSet, e2, e1, eB, eC, oI, oIB, tB2, CMulD, CDivD, CPowD, fAdd, aOne, aC, aN, fInt, isHnd, sDrop, eMut, mApp, mutC, setC, sN, eA, fLst, sOwn, sRet, eG, give, fLen, fSub, sFor, itRange, gV, m__law_fields, outF, eXf, okE, ok, eq_int, in4, exF, exD, exL, lookD, tOrM, at_name]
  | 8, _ =>
    have ok := okE_exC 8
    simp [sS, sIf, tNotM, tTru, eVar, DS.setE, truD, deref, sSet, e2, e1, eB, eC, oI, oIB, tB2, CMulD, CDivD, CPowD, fAdd, aOne, aC, aN, fInt, isHnd, sDrop, eMut, mApp, mutC, setC, sN, eA, fLst, sOwn, sRet, eG, give, fLen, fSub, sFor, itRange, gV, m__law_fields, outF, eXf, okE, ok, eq_int, in4, exF, exD, exL, lookD, tOrM, at_name]
  | 9, _ =>
    have ok := okE_exC 9
    simp [sS, sIf, tNotM, tTru, eVar, DS.setE, truD, deref, sSet, e2, e1, eB, eC, oI, oIB, tB2, CMulD, CDivD, CPowD, fAdd, aOne, aC, aN, fInt, isHnd, sDrop, eMut, mApp, mutC, setC, sN, eA, fLst, sOwn, sRet, eG, give, fLen, fSub, sFor, itRange, gV, m__law_fields, outF, eXf, okE, ok, eq_int, in4, exF, exD, exL, lookD, tOrM, at_name]
  | 10, _ =>
    have ok := okE_exC 10
    simp [sS, sIf, tNotM, tTru, eVar, DS.setE, truD, deref, sSet, e2, e1, eB, eC, oI, oIB, tB2, CMulD, CDivD, CPowD, fAdd, aOne, aC, aN, fInt, isHnd, sDrop, eMut, mApp, mutC, setC, sN, eA, fLst, sOwn, sRet, eG, give, fLen, fSub, sFor, itRange, gV, m__law_fields, outF, eXf, okE, ok, eq_int, in4, exF, exD, exL, lookD, tOrM, at_name]
def clsD (i : Nat) : List D := (List.range 11).map fun k => .bl (decide (k = i))
theorem classes_ok (a C dx : Addr) (ns : List Str) (ds : List D) (i : Nat) (hi : i < 11) : runD 1 (m__law_classes a C dx) [.exc a C dx (exC i) ns ds] [] = some (.lst (clsD i), []) := by
  have e0 : ∀ T : Str, tbOwn T (exC i) = some (exC i == T) := fun T => by
    unfold tbOwn
    rw [if_pos (by rw [List.contains_iff_mem]; exact okE_exC i)]
  have tab : [exC i == Str.ofString "BadTable", exC i == Str.ofString "NoOperation", exC i == Str.ofString "NoCell", exC i == Str.ofString "BadName", exC i == Str.ofString "BadNumber", exC i == Str.ofString "BadStep", exC i == Str.ofString "BadClient", exC i == Str.ofString "BadRun", exC i == Str.ofString "BadRow", exC i == Str.ofString "Over", exC i == Str.ofString "TooLarge"].map D.bl = clsD i := by
    match i, hi with
    | 0, _ => exact (by rw [show [exC 0 == Str.ofString "BadTable", exC 0 == Str.ofString "NoOperation", exC 0 == Str.ofString "NoCell", exC 0 == Str.ofString "BadName", exC 0 == Str.ofString "BadNumber", exC 0 == Str.ofString "BadStep", exC 0 == Str.ofString "BadClient", exC 0 == Str.ofString "BadRun", exC 0 == Str.ofString "BadRow", exC 0 == Str.ofString "Over", exC 0 == Str.ofString "TooLarge"] = (List.range 11).map (fun j => decide (j = 0)) from by decide +kernel, List.map_map]; rfl)
    | 1, _ => exact (by rw [show [exC 1 == Str.ofString "BadTable", exC 1 == Str.ofString "NoOperation", exC 1 == Str.ofString "NoCell", exC 1 == Str.ofString "BadName", exC 1 == Str.ofString "BadNumber", exC 1 == Str.ofString "BadStep", exC 1 == Str.ofString "BadClient", exC 1 == Str.ofString "BadRun", exC 1 == Str.ofString "BadRow", exC 1 == Str.ofString "Over", exC 1 == Str.ofString "TooLarge"] = (List.range 11).map (fun j => decide (j = 1)) from by decide +kernel, List.map_map]; rfl)
    | 2, _ => exact (by rw [show [exC 2 == Str.ofString "BadTable", exC 2 == Str.ofString "NoOperation", exC 2 == Str.ofString "NoCell", exC 2 == Str.ofString "BadName", exC 2 == Str.ofString "BadNumber", exC 2 == Str.ofString "BadStep", exC 2 == Str.ofString "BadClient", exC 2 == Str.ofString "BadRun", exC 2 == Str.ofString "BadRow", exC 2 == Str.ofString "Over", exC 2 == Str.ofString "TooLarge"] = (List.range 11).map (fun j => decide (j = 2)) from by decide +kernel, List.map_map]; rfl)
    | 3, _ => exact (by rw [show [exC 3 == Str.ofString "BadTable", exC 3 == Str.ofString "NoOperation", exC 3 == Str.ofString "NoCell", exC 3 == Str.ofString "BadName", exC 3 == Str.ofString "BadNumber", exC 3 == Str.ofString "BadStep", exC 3 == Str.ofString "BadClient", exC 3 == Str.ofString "BadRun", exC 3 == Str.ofString "BadRow", exC 3 == Str.ofString "Over", exC 3 == Str.ofString "TooLarge"] = (List.range 11).map (fun j => decide (j = 3)) from by decide +kernel, List.map_map]; rfl)
    | 4, _ => exact (by rw [show [exC 4 == Str.ofString "BadTable", exC 4 == Str.ofString "NoOperation", exC 4 == Str.ofString "NoCell", exC 4 == Str.ofString "BadName", exC 4 == Str.ofString "BadNumber", exC 4 == Str.ofString "BadStep", exC 4 == Str.ofString "BadClient", exC 4 == Str.ofString "BadRun", exC 4 == Str.ofString "BadRow", exC 4 == Str.ofString "Over", exC 4 == Str.ofString "TooLarge"] = (List.range 11).map (fun j => decide (j = 4)) from by decide +kernel, List.map_map]; rfl)
    | 5, _ => exact (by rw [show [exC 5 == Str.ofString "BadTable", exC 5 == Str.ofString "NoOperation", exC 5 == Str.ofString "NoCell", exC 5 == Str.ofString "BadName", exC 5 == Str.ofString "BadNumber", exC 5 == Str.ofString "BadStep", exC 5 == Str.ofString "BadClient", exC 5 == Str.ofString "BadRun", exC 5 == Str.ofString "BadRow", exC 5 == Str.ofString "Over", exC 5 == Str.ofString "TooLarge"] = (List.range 11).map (fun j => decide (j = 5)) from by decide +kernel, List.map_map]; rfl)
    | 6, _ => exact (by rw [show [exC 6 == Str.ofString "BadTable", exC 6 == Str.ofString "NoOperation", exC 6 == Str.ofString "NoCell", exC 6 == Str.ofString "BadName", exC 6 == Str.ofString "BadNumber", exC 6 == Str.ofString "BadStep", exC 6 == Str.ofString "BadClient", exC 6 == Str.ofString "BadRun", exC 6 == Str.ofString "BadRow", exC 6 == Str.ofString "Over", exC 6 == Str.ofString "TooLarge"] = (List.range 11).map (fun j => decide (j = 6)) from by decide +kernel, List.map_map]; rfl)
    | 7, _ => exact (by rw [show [exC 7 == Str.ofString "BadTable", exC 7 == Str.ofString "NoOperation", exC 7 == Str.ofString "NoCell", exC 7 == Str.ofString "BadName", exC 7 == Str.ofString "BadNumber", exC 7 == Str.ofString "BadStep", exC 7 == Str.ofString "BadClient", exC 7 == Str.ofString "BadRun", exC 7 == Str.ofString "BadRow", exC 7 == Str.ofString "Over", exC 7 == Str.ofString "TooLarge"] = (List.range 11).map (fun j => decide (j = 7)) from by decide +kernel, List.map_map]; rfl)
    | 8, _ => exact (by rw [show [exC 8 == Str.ofString "BadTable", exC 8 == Str.ofString "NoOperation", exC 8 == Str.ofString "NoCell", exC 8 == Str.ofString "BadName", exC 8 == Str.ofString "BadNumber", exC 8 == Str.ofString "BadStep", exC 8 == Str.ofString "BadClient", exC 8 == Str.ofString "BadRun", exC 8 == Str.ofString "BadRow", exC 8 == Str.ofString "Over", exC 8 == Str.ofString "TooLarge"] = (List.range 11).map (fun j => decide (j = 8)) from by decide +kernel, List.map_map]; rfl)
    | 9, _ => exact (by rw [show [exC 9 == Str.ofString "BadTable", exC 9 == Str.ofString "NoOperation", exC 9 == Str.ofString "NoCell", exC 9 == Str.ofString "BadName", exC 9 == Str.ofString "BadNumber", exC 9 == Str.ofString "BadStep", exC 9 == Str.ofString "BadClient", exC 9 == Str.ofString "BadRun", exC 9 == Str.ofString "BadRow", exC 9 == Str.ofString "Over", exC 9 == Str.ofString "TooLarge"] = (List.range 11).map (fun j => decide (j = 9)) from by decide +kernel, List.map_map]; rfl)
    | 10, _ => exact (by rw [show [exC 10 == Str.ofString "BadTable", exC 10 == Str.ofString "NoOperation", exC 10 == Str.ofString "NoCell", exC 10 == Str.ofString "BadName", exC 10 == Str.ofString "BadNumber", exC 10 == Str.ofString "BadStep", exC 10 == Str.ofString "BadClient", exC 10 == Str.ofString "BadRun", exC 10 == Str.ofString "BadRow", exC 10 == Str.ofString "Over", exC 10 == Str.ofString "TooLarge"] = (List.range 11).map (fun j => decide (j = 10)) from by decide +kernel, List.map_map]; rfl)
  rw [runD_out, ← tab]
  simp [sS, sIf, tNotM, tTru, eVar, DS.setE, truD, deref, sSet, e2, e1, eB, eC, oI, oIB, tB2, CMulD, CDivD, CPowD, fAdd, aOne, aC, aN, fInt, isHnd, sDrop, eMut, mApp, mutC, setC, sN, eA, fLst, sOwn, sRet, eG, give, fLen, fSub, sFor, itRange, gV, m__law_classes, outF, eXi, e0]
end K22

set_option Elab.async false
set_option linter.all false
set_option maxRecDepth 100000
set_option maxHeartbeats 8000000
namespace K22
open PySem DL SX
abbrev Φr : FM := runD 8 m__law_row
abbrev Φn : FM := runD 10 m__law_names
abbrev Φx : FXM := runX 4 m__law_raise
abbrev Φc : Addr → Addr → Addr → FM := fun a C dx => runD 1 (m__law_classes a C dx)
abbrev Φf : Addr → Addr → Addr → FM := fun a C dx => runD 2 (m__law_fields a C dx)
def lcE : EM := eLc (itRange (aC (eC (.int 11)) aN)) [5] (gV 5) tY (e2 fEq (eVar 5) (eVar 6))
def suB (a C dx : Addr) : SM := (sS (sSet 8 (eC (.int 1)))
    (sS (sIf (tOrM (tNotM (tTru (eXi a C dx tbAll (eVar 9)))) (tB2 (e2 fNe (eCall (aC (eVar 9) (aC (eVar 6) aN)) [] (Φf a C dx)) (e2 fSub (eVar 7) (eVar 6))))) (sRet (eC (.bl false))) sN)
    (sIf (tB2 (e2 fNe (eCall (aC (eVar 9) aN) [] (Φc a C dx)) lcE)) (sRet (eC (.bl false))) sN)))
noncomputable def tryB : SM := (xU (xTry (xDrop (eCallX (aC (eVar 6) (aC (eVar 2) (aC (eVar 3) (aC (eVar 4) aN)))) Φx)) 9 tbAll (fun a C dx c ns ds => suB a C dx)))
noncomputable def lawB : SM := (sS (sSet 7 (eA (aC (eA (aC (eVar 2) aN) fLst) (aC (eA (aC (eVar 2) aN) fLst) (aC (eA (aC (eVar 2) aN) fLst) (aC (eA (aC (eVar 2) aN) fLst) (aC (eA (aC (eVar 3) aN) fLst) (aC (eA (aC (eVar 2) (aC (eVar 3) aN)) fLst) (aC (eA (aC (eVar 3) aN) fLst) (aC (eA (aC (eVar 3) aN) fLst) (aC (eA (aC (eVar 4) aN) fLst) (aC (eA (aC (eVar 3) aN) fLst) aN)))))))))) fLst))
    (sS (sSet 7 (e2 fCat (eVar 7) (eA (aC (eA (aC (eVar 3) aN) fLst) aN) fLst)))
    (sS (sSet 8 (eC (.int 0)))
    (sS tryB
    (sIf (tB2 (e2 fNe (eVar 8) (eC (.int 1)))) (sRet (eC (.bl false))) sN)))))
def fldAll (s : Str) (z : Int) (tl : List Int) : List D := [.lst [.str s], .lst [.str s], .lst [.str s], .lst [.str s], .lst [.int z], .lst [.str s, .int z], .lst [.int z], .lst [.int z], .lst [.lst (tl.map .int)], .lst [.int z], .lst [.int z]]
theorem fldAll_get (s : Str) (z : Int) (tl : List Int) (i : Nat) (hi : i < 11) : (fldAll s z tl)[i]? = some (.lst (exL s z tl i)) := by
  match i, hi with
  | 0, _ => rfl
  | 1, _ => rfl
  | 2, _ => rfl
  | 3, _ => rfl
  | 4, _ => rfl
  | 5, _ => rfl
  | 6, _ => rfl
  | 7, _ => rfl
  | 8, _ => rfl
  | 9, _ => rfl
  | 10, _ => rfl
theorem isPd_ints : ∀ (l : List Int) (n : Nat), (l.map D.int).all (isPd n) = true
  | [], _ => rfl
  | k :: r, n => by
    rw [List.map_cons, List.all_cons, isPd_ints r n]
    cases n <;> rfl
theorem exL_pd (s : Str) (z : Int) (tl : List Int) (hs : good s) (i : Nat) (hi : i < 11) : isPd 32 (.lst (exL s z tl i)) = true := by
  have h1 : PyData.strOk s = true := by
    unfold PyData.strOk
    rw [← Array.all_toList, List.all_eq_true]
    exact fun c hc => decide_eq_true (by have := hs.2 c hc; omega)
  have h2 := isPd_ints tl 30
  match i, hi with
  | 0, _ => simp [exL, exD, isPd, h1]
  | 1, _ => simp [exL, exD, isPd, h1]
  | 2, _ => simp [exL, exD, isPd, h1]
  | 3, _ => simp [exL, exD, isPd, h1]
  | 4, _ => simp [exL, exD, isPd, h1]
  | 5, _ => simp [exL, exD, isPd, h1]
  | 6, _ => simp [exL, exD, isPd, h1]
  | 7, _ => simp [exL, exD, isPd, h1]
  | 8, _ => simp [exL, exD, isPd, h1]
  | 9, _ => simp [exL, exD, isPd, h1]
  | 10, _ => simp [exL, exD, isPd, h1]
def st0 (A : D) (l : List Int) (s : Str) (z : Int) (tl : List Int) (x6 x7 x8 x9 : Sl) : DS := ⟨[.fro A, .fro (.lst (l.map .int)), .fro (.str s), .fro (.int z), .fro (.lst (tl.map .int)), .non, x6, x7, x8, x9], []⟩
theorem lcB (A : D) (l : List Int) (s : Str) (z : Int) (tl : List Int) (i : Nat) (x7 x8 x9 : Sl) : lcE (st0 A l s z tl (.fro (.int i)) x7 x8 x9) = some (.lst (clsD i), st0 A l s z tl (.fro (.int i)) x7 x8 x9) := by
  have := eLc1 (it := itRange (aC (eC (.int 11)) aN)) (e := e2 fEq (eVar 5) (eVar 6)) (v := 5) (S := st0 A l s z tl (.fro (.int i)) x7 x8 x9) (ds := (List.range 11).map fun (k : Nat) => D.int k) (fun k => .bl (decide (k = i))) (by simp [st0]) (by simp [sS, sIf, tNotM, tTru, eVar, DS.setE, truD, deref, sSet, e2, e1, eB, eC, oI, oIB, tB2, CMulD, CDivD, CPowD, fAdd, aOne, aC, aN, fInt, isHnd, sDrop, eMut, mApp, mutC, setC, sN, eA, fLst, sOwn, sRet, eG, give, fLen, fSub, sFor, itRange, gV, st0]) rfl (by simp) (fun k d hd => ?_)
  · exact this
  · have hi : k < 11 := by
      have := (List.getElem?_eq_some_iff.mp hd).1
      simpa using this
    rw [List.getElem?_map, List.getElem?_range hi] at hd
    cases hd
    refine ⟨rfl, rfl, ?_⟩
    simp [sS, sIf, tNotM, tTru, eVar, DS.setE, truD, deref, sSet, e2, e1, eB, eC, oI, oIB, tB2, CMulD, CDivD, CPowD, fAdd, aOne, aC, aN, fInt, isHnd, sDrop, eMut, mApp, mutC, setC, sN, eA, fLst, sOwn, sRet, eG, give, fLen, fSub, sFor, itRange, gV, st0, eq_int]
    omega
theorem clsD_pd (i : Nat) : isPd 32 (.lst (clsD i)) = true := by
  show (clsD i).all (isPd 31) = true
  unfold clsD
  rw [List.all_map, List.all_eq_true]
  intro k _
  rfl
theorem suB_ok (A : D) (l : List Int) (s : Str) (z : Int) (tl : List Int) (hs : good s) (i : Nat) (hi : i < 11) (x8 : Sl) (a C dx : Addr) :
    suB a C dx (st0 A l s z tl (.fro (.int i)) (.fro (.lst (fldAll s z tl))) x8 (.fro (.exc a C dx (exC i) (exF i) (exD s z tl i)))) =
      some (.nx, st0 A l s z tl (.fro (.int i)) (.fro (.lst (fldAll s z tl))) (.fro (.int 1)) (.fro (.exc a C dx (exC i) (exF i) (exD s z tl i)))) := by
  have ok : tbAll (exC i) = some true := by
    unfold tbAll
    rw [if_pos (by rw [List.contains_iff_mem]; exact okE_exC i)]
  have f1 := fields_ok a C dx s z tl i hi
  have c1 := classes_ok a C dx (exF i) (exD s z tl i) i hi
  have g1 : L2.atI (fldAll s z tl) (i : Int) = some (.lst (exL s z tl i)) := atI_get (by omega) (by simpa using fldAll_get s z tl i hi)
  have lc := lcB A l s z tl i (.fro (.lst (fldAll s z tl))) (.fro (.int 1)) (.fro (.exc a C dx (exC i) (exF i) (exD s z tl i)))
  have n1 : ∀ S, fNe S (.lst (exL s z tl i)) (.lst (exL s z tl i)) = some (.bl false) := fun S => ne_same rfl rfl (exL_pd s z tl hs i hi)
  have n2 : ∀ S, fNe S (.lst (clsD i)) (.lst (clsD i)) = some (.bl false) := fun S => ne_same rfl rfl (clsD_pd i)
  unfold st0 at lc ⊢
  simp [sS, sIf, tNotM, tTru, eVar, DS.setE, truD, deref, sSet, e2, e1, eB, eC, oI, oIB, tB2, CMulD, CDivD, CPowD, fAdd, aOne, aC, aN, fInt, isHnd, sDrop, eMut, mApp, mutC, setC, sN, eA, fLst, sOwn, sRet, eG, give, fLen, fSub, sFor, itRange, gV, suB, eXi, ok, tOrM, eCall, f1, c1, g1, lc, n1, n2]
theorem tryB_ok (A : D) (l : List Int) (s : Str) (z : Int) (tl : List Int) (hs : good s) (hz : z.natAbs.log2 < 1920) (ht : tl.all smallI = true) (htl : tl.length ≤ 100) (i : Nat) (hi : i < 11) (x8 : Sl) :
    tryB (st0 A l s z tl (.fro (.int i)) (.fro (.lst (fldAll s z tl))) x8 .non) = some (.nx, st0 A l s z tl (.fro (.int i)) (.fro (.lst (fldAll s z tl))) (.fro (.int 1)) .non) := by
  have r1 := raise_ok s z tl hs hz ht htl i hi
  have ok : tbAll (exC i) = some true := by
    unfold tbAll
    rw [if_pos (by rw [List.contains_iff_mem]; exact okE_exC i)]
  have su := suB_ok A l s z tl hs i hi x8
  have al : allX (fun a C dx => finX 9 (suB a C dx (st0 A l s z tl (.fro (.int i)) (.fro (.lst (fldAll s z tl))) x8 (.fro (.exc a C dx (exC i) (exF i) (exD s z tl i)))))) = some (.nx, st0 A l s z tl (.fro (.int i)) (.fro (.lst (fldAll s z tl))) (.fro (.int 1)) .non) := by
    refine allX_eq fun a C dx => ?_
    rw [su a C dx]
    rfl
  have e1 : xDrop (eCallX (aC (eVar 6) (aC (eVar 2) (aC (eVar 3) (aC (eVar 4) aN)))) Φx) (st0 A l s z tl (.fro (.int i)) (.fro (.lst (fldAll s z tl))) x8 .non) = some (.ex (exC i) (exF i) (exD s z tl i), st0 A l s z tl (.fro (.int i)) (.fro (.lst (fldAll s z tl))) x8 .non) := by
    simp [sS, sIf, tNotM, tTru, eVar, DS.setE, truD, deref, sSet, e2, e1, eB, eC, oI, oIB, tB2, CMulD, CDivD, CPowD, fAdd, aOne, aC, aN, fInt, isHnd, sDrop, eMut, mApp, mutC, setC, sN, eA, fLst, sOwn, sRet, eG, give, fLen, fSub, sFor, itRange, gV, st0, xDrop, eCallX, r1]
  unfold tryB xU xTry
  rw [e1]
  dsimp only
  rw [ok]
  dsimp only
  have e2 : ∀ a C dx, DS.setE (st0 A l s z tl (.fro (.int i)) (.fro (.lst (fldAll s z tl))) x8 .non) 9 (.fro (.exc a C dx (exC i) (exF i) (exD s z tl i))) = st0 A l s z tl (.fro (.int i)) (.fro (.lst (fldAll s z tl))) x8 (.fro (.exc a C dx (exC i) (exF i) (exD s z tl i))) := fun a C dx => rfl
  simp only [e2]
  rw [al]
theorem fit11 : (11 : Nat) ≤ 16777216 := by decide
theorem lawB_ok (A : D) (l : List Int) (s : Str) (z : Int) (tl : List Int) (hs : good s) (hz : z.natAbs.log2 < 1920) (ht : tl.all smallI = true) (htl : tl.length ≤ 100) (i : Nat) (hi : i < 11) (x7 x8 : Sl) :
    lawB (st0 A l s z tl (.fro (.int i)) x7 x8 .non) = some (.nx, st0 A l s z tl (.fro (.int i)) (.fro (.lst (fldAll s z tl))) (.fro (.int 1)) .non) := by
  have t1 := tryB_ok A l s z tl hs hz ht htl i hi (.fro (.int 0))
  have n1 : ∀ S, fNe S (.int 1) (.int 1) = some (.bl false) := fun S => by rw [ne_int]; rfl
  unfold st0 fldAll at t1
  unfold lawB st0 fldAll
  simp [sS, sIf, tNotM, tTru, eVar, DS.setE, truD, deref, sSet, e2, e1, eB, eC, oI, oIB, tB2, CMulD, CDivD, CPowD, fAdd, aOne, aC, aN, fInt, isHnd, sDrop, eMut, mApp, mutC, setC, sN, eA, fLst, sOwn, sRet, eG, give, fLen, fSub, sFor, itRange, gV, fCat, t1, n1]
end K22

set_option Elab.async false
set_option linter.all false
set_option maxRecDepth 100000
set_option maxHeartbeats 8000000
namespace K22
open PySem DL SX
def tailE : EM := eLc (itRange2 (aC (eC (.int 2)) (aC (e2 fAdd (eC (.int 2)) (e2 oMod (aOne (aC (e2 fSub (eVar 1) (eC (.int 1))) aN) fInt) (eC (.int 4)))) aN))) [5] (gV 5) tY (e2 oMod (aOne (aC (e2 fSub (eVar 1) (eVar 5)) aN) fInt) (eC (.int 9)))
noncomputable def loopS : SM := sFor (itRange (aC (eC (.int 11)) aN)) (gV 6) lawB
theorem law_split : m_law Φr Φn Φx Φc Φf = (sS (sSet 1 (eCall (aC (eVar 0) (aC (eC (.int 0)) (aC (eC (.int 6)) aN))) [] Φr))
    (sS (sSet 2 (e2 fSub (eCall (aC (e2 fSub (eVar 1) (eC (.int 0))) (aC (eC (.int 1)) aN)) [] Φn) (eC (.int 0))))
    (sS (sSet 3 (e2 oSub (aOne (aC (e2 fSub (eVar 1) (eC (.int 1))) aN) fInt) (eC (.int 5000000))))
    (sS (sIf (tB2 (e2 oGt (aOne (aC (eVar 0) aN) fLen) (eC (.int 0)))) (sSet 3 (e2 oSub (e2 oMod (aOne (aC (e2 fSub (eVar 0) (eC (.int 0))) aN) fInt) (e2 oPow (eC (.int 10)) (eC (.int 60)))) (e2 oPow (eC (.int 10)) (eC (.int 59))))) sN)
    (sS (sSet 4 tailE)
    (sS loopS (sRet (eC (.bl true))))))))) := rfl
theorem loop_ok (A : D) (l : List Int) (s : Str) (z : Int) (tl : List Int) (hs : good s) (hz : z.natAbs.log2 < 1920) (ht : tl.all smallI = true) (htl : tl.length ≤ 100) :
    ∃ S', loopS (st0 A l s z tl .non .non .non .non) = some (.nx, S') ∧ S'.store = [] := by
  obtain ⟨S', h1, x6, x7, x8, rfl⟩ := loopF_run (g := gV 6) (b := lawB) (ds := (List.range 11).map fun (k : Nat) => D.int k) (P := fun _ S => ∃ x6 x7 x8, S = st0 A l s z tl x6 x7 x8 .non) (fun i d S hd h => by
    have hi : i < 11 := by
      have := (List.getElem?_eq_some_iff.mp hd).1
      simpa using this
    have e : d = .int i := by
      rw [List.getElem?_map, List.getElem?_range hi] at hd
      cases hd
      rfl
    subst e
    obtain ⟨x6, x7, x8, rfl⟩ := h
    exact ⟨_, _, rfl, lawB_ok A l s z tl hs hz ht htl i hi x7 x8, _, _, _, rfl⟩) (S := st0 A l s z tl .non .non .non .non) ⟨_, _, _, rfl⟩
  have h2 : loopS (st0 A l s z tl .non .non .non .non) = some (.nx, st0 A l s z tl x6 x7 x8 .non) := h1
  exact ⟨_, h2, rfl⟩
theorem tail_ok (A : D) (l0 l1 l2 l3 l4 l5 : Int) (a2 a3 a4 a6 a7 a8 a9 : Sl) (h1 : 0 ≤ l1) : ∃ tl : List Int, tl.all smallI = true ∧ tl.length ≤ 100 ∧
    tailE ⟨[.fro A, .fro (.lst [.int l0, .int l1, .int l2, .int l3, .int l4, .int l5]), a2, a3, a4, .non, a6, a7, a8, a9], []⟩ = some (.lst (tl.map .int), ⟨[.fro A, .fro (.lst [.int l0, .int l1, .int l2, .int l3, .int l4, .int l5]), a2, a3, a4, .non, a6, a7, a8, a9], []⟩) := by
  have hm : l1 % 4 < 4 := by omega
  have hm0 : 0 ≤ l1 % 4 := by omega
  have := eLc1 (it := itRange2 (aC (eC (.int 2)) (aC (e2 fAdd (eC (.int 2)) (e2 oMod (aOne (aC (e2 fSub (eVar 1) (eC (.int 1))) aN) fInt) (eC (.int 4)))) aN))) (e := e2 oMod (aOne (aC (e2 fSub (eVar 1) (eVar 5)) aN) fInt) (eC (.int 9))) (v := 5)
    (S := ⟨[.fro A, .fro (.lst [.int l0, .int l1, .int l2, .int l3, .int l4, .int l5]), a2, a3, a4, .non, a6, a7, a8, a9], []⟩) (ds := (List.range (l1 % 4).toNat).map fun (k : Nat) => D.int (2 + k)) (fun k => .int ((([l0, l1, l2, l3, l4, l5] : List Int).getD (2 + k) 0) % 9)) (by simp) (by
      simp [sS, sIf, tNotM, tTru, eVar, DS.setE, truD, deref, sSet, e2, e1, eB, eC, oI, oIB, tB2, CMulD, CDivD, CPowD, fAdd, aOne, aC, aN, fInt, isHnd, sDrop, eMut, mApp, mutC, setC, sN, eA, fLst, sOwn, sRet, eG, give, fLen, fSub, sFor, itRange, gV, itRange2, L2.atI, L2.ixN]
      refine ⟨by omega, ?_⟩
      rw [show 2 + l1 % 4 - 2 = l1 % 4 by omega]) rfl (by simp; omega) (fun k d hd => ?_)
  · refine ⟨(List.range (l1 % 4).toNat).map fun k => (([l0, l1, l2, l3, l4, l5] : List Int).getD (2 + k) 0) % 9, ?_, by simp; omega, ?_⟩
    · rw [List.all_map, List.all_eq_true]
      intro k _
      have a := Int.emod_nonneg (([l0, l1, l2, l3, l4, l5] : List Int).getD (2 + k) 0) (show (9 : Int) ≠ 0 by decide)
      have b := Int.emod_lt_of_pos (([l0, l1, l2, l3, l4, l5] : List Int).getD (2 + k) 0) (show (0 : Int) < 9 by decide)
      have c : ((([l0, l1, l2, l3, l4, l5] : List Int).getD (2 + k) 0) % 9).natAbs < 9 := by omega
      have d : Nat.log2 ((([l0, l1, l2, l3, l4, l5] : List Int).getD (2 + k) 0) % 9).natAbs < 1920 := by
        by_cases z : ((([l0, l1, l2, l3, l4, l5] : List Int).getD (2 + k) 0) % 9).natAbs = 0
        · rw [z]; decide
        · exact (Nat.log2_lt z).mpr (Nat.lt_of_lt_of_le c (Nat.le_trans (by decide : 9 ≤ 2 ^ 4) (Nat.pow_le_pow_right (by decide) (by omega))))
      exact decide_eq_true d
    · rw [List.length_map, List.length_range] at this
      unfold tailE
      rw [this, List.map_map]
      rfl
  · have hk : k < (l1 % 4).toNat := by
      have := (List.getElem?_eq_some_iff.mp hd).1
      simpa using this
    rw [List.getElem?_map, List.getElem?_range hk] at hd
    cases hd
    refine ⟨rfl, rfl, ?_⟩
    have hg : L2.atI [D.int l0, D.int l1, D.int l2, D.int l3, D.int l4, D.int l5] (2 + (k : Nat)) = some (.int (([l0, l1, l2, l3, l4, l5] : List Int).getD (2 + k) 0)) := by
      have h3 : k = 0 ∨ k = 1 ∨ k = 2 := by omega
      rcases h3 with rfl | rfl | rfl <;> rfl
    simp [sS, sIf, tNotM, tTru, eVar, DS.setE, truD, deref, sSet, e2, e1, eB, eC, oI, oIB, tB2, CMulD, CDivD, CPowD, fAdd, aOne, aC, aN, fInt, isHnd, sDrop, eMut, mApp, mutC, setC, sN, eA, fLst, sOwn, sRet, eG, give, fLen, fSub, sFor, itRange, gV, hg]
theorem log_lt {z : Int} (h : z.natAbs ≤ 10 ^ 60) : z.natAbs.log2 < 1920 := by
  by_cases hz : z.natAbs = 0
  · rw [hz]; decide
  · exact (Nat.log2_lt hz).mpr (Nat.lt_of_le_of_lt h (Nat.lt_of_lt_of_le (by decide : 10 ^ 60 < 2 ^ 200) (Nat.pow_le_pow_right (by decide) (by decide))))
theorem law_ok (ns : List Int) (h63 : ns.length ≤ 63) : runD 10 (m_law Φr Φn Φx Φc Φf) [.zst (ns.map .int)] [] = some (.bl true, []) := by
  obtain ⟨l, hl, hr, e1⟩ := row_ok ns h63
  obtain ⟨l0, l1, l2, l3, l4, l5, rfl⟩ : ∃ a b c d e f, l = [a, b, c, d, e, f] := by
    match l, hl with
    | [a, b, c, d, e, f], _ => exact ⟨a, b, c, d, e, f, rfl⟩
  have b0 := hr l0 (by simp)
  have b1 := hr l1 (by simp)
  obtain ⟨s, hs, e2'⟩ := names_ok l0 b0.1
  have fin : ∀ z : Int, z.natAbs ≤ 10 ^ 60 → ∀ S, S = (⟨[.fro (.zst (ns.map .int)), .fro (.lst [.int l0, .int l1, .int l2, .int l3, .int l4, .int l5]), .fro (.str s), .fro (.int z), .non, .non, .non, .non, .non, .non], []⟩ : DS) →
      outF ((sS (sSet 4 tailE) (sS loopS (sRet (eC (.bl true))))) S) = some (.bl true, []) := by
    rintro z hz _ rfl
    obtain ⟨tl, t1, t2, t3⟩ := tail_ok (.zst (ns.map .int)) l0 l1 l2 l3 l4 l5 (.fro (.str s)) (.fro (.int z)) .non .non .non .non .non b1.1
    obtain ⟨S', k1, k2⟩ := loop_ok (.zst (ns.map .int)) [l0, l1, l2, l3, l4, l5] s z tl hs (log_lt hz) t1 t2
    have c1 : sSet 4 tailE ⟨[.fro (.zst (ns.map .int)), .fro (.lst [.int l0, .int l1, .int l2, .int l3, .int l4, .int l5]), .fro (.str s), .fro (.int z), .non, .non, .non, .non, .non, .non], []⟩ = some (.nx, st0 (.zst (ns.map .int)) [l0, l1, l2, l3, l4, l5] s z tl .non .non .non .non) := by
      unfold sSet
      rw [t3]
      rfl
    rw [sS_nx c1, sS_nx k1]
    show some (D.bl true, S'.store) = _
    rw [k2]
  rw [runD_out, law_split]
  generalize hT : (sS (sSet 4 tailE) (sS loopS (sRet (eC (.bl true))))) = T at fin ⊢
  have e1' : runD 8 m__law_row [D.zst (ns.map .int), D.int 0, D.int 6] [] = some (.lst [.int l0, .int l1, .int l2, .int l3, .int l4, .int l5], []) := e1
  cases ns with
  | nil =>
    have f := fin (l1 - 5000000) (Nat.le_trans (by omega : (l1 - 5000000).natAbs ≤ 10000000) (by decide)) _ rfl
    rw [← f]
    simp at e1'
    simp [sS, sIf, tNotM, tTru, eVar, DS.setE, truD, deref, sSet, e2, e1, eB, eC, oI, oIB, tB2, CMulD, CDivD, CPowD, fAdd, aOne, aC, aN, fInt, isHnd, sDrop, eMut, mApp, mutC, setC, sN, eA, fLst, sOwn, sRet, eG, give, fLen, fSub, sFor, itRange, gV, eCall, e1', e2', L2.atI, L2.ixN]
  | cons x r =>
    have hx : (x % 10 ^ 60 - 10 ^ 59).natAbs ≤ 10 ^ 60 := by
      have a := Int.emod_nonneg x (show (10 ^ 60 : Int) ≠ 0 by decide)
      have b := Int.emod_lt_of_pos x (show (0 : Int) < 10 ^ 60 by decide)
      omega
    have f := fin (x % 10 ^ 60 - 10 ^ 59) hx _ rfl
    rw [← f]
    simp at e1'
    simp [sS, sIf, tNotM, tTru, eVar, DS.setE, truD, deref, sSet, e2, e1, eB, eC, oI, oIB, tB2, CMulD, CDivD, CPowD, fAdd, aOne, aC, aN, fInt, isHnd, sDrop, eMut, mApp, mutC, setC, sN, eA, fLst, sOwn, sRet, eG, give, fLen, fSub, sFor, itRange, gV, eCall, e1', e2', L2.atI, L2.ixN]
end K22

set_option Elab.async false
set_option linter.all false
set_option maxRecDepth 100000
set_option maxHeartbeats 8000000
namespace K22
open PySem PySem.Spec PyProof.Rows L2 NdefX SX DL
/-! ### what the top has written -/
structure ClsW (P : Program) (K : PySem.W.Frag) (x qual : Str) (si : Stmt) (ps : List Str) (C f cc cda : Addr) (fd : FuncData) : Prop where
  ns : PySem.W.nsIn K mainGlobals x = some (some (.ref C))
  cls : ∃ nm q N bs bm sn sub ab col dd k0 k1 k2 k3 k5, K.lookup C = some (excClassObj nm q C N bs bm true sn sub ab col dd k0 k1 k2 k3 k5 "ValueError.__new__") ∧ PySem.HandSPX.refsVE bm = true
  ini : PySem.W.findIn K (.ref C) "__init__" = some (some (.ref f))
  typ : PySem.W.typeIn K (.ref f) = some (.type "function")
  fn : ClsFn K f cc cda C "__init__" qual (defArgs si) (defBody si) (defScope si) fd
  sup : SupTxt P K f cc cda C
  bd : Binds K fd ps []
theorem clsW_mk {P : Program} {K : PySem.W.Frag} {x qual : Str} {si : Stmt} {ps : List Str} {C f cc cda : Addr} {nm q : Str} {N : Addr} {bs bm : List Value} {sn : List Str} {sub : List Value} {ab : Bool} {col : Option Bool} {dd : Option Addr} {k0 k1 k2 k3 k5 : Option Value}
    {oc dV kV doc pm ct ccl ccl2 : Value} {od an ccd cdd : Option Addr} {osl csl ccs : Array (Option Value)} {vs : Array Value} {file : Str} {tf : Tok} {ar : Arg}
    (h1 : PySem.W.nsIn K mainGlobals x = some (some (.ref C))) (h2 : K.lookup C = some (excClassObj nm q C N bs bm true sn sub ab col dd k0 k1 k2 k3 k5 "ValueError.__new__")) (h3 : PySem.W.findIn K (.ref C) "__init__" = some (some (.ref f))) (h4 : PySem.W.typeIn K (.ref f) = some (.type "function"))
    (h5 : K.lookup f = some ⟨oc, od, .func (PySem.W.ksFn "__init__" qual (defArgs si) (defBody si) (defScope si) dV kV doc pm an (.ref cda) ct cc), osl⟩) (h6 : PySem.W.codeIn K (.ref cda) qual = true) (h7 : K.lookup cc = some ⟨ccl, ccd, .cell (some (.ref C)), csl⟩)
    (h8 : K.lookup cda = some ⟨ccl2, cdd, .fields vs, ccs⟩) (h9 : PySem.HandSPX.refsVE bm = true) (h10 : vs[2]? = some (.str file tf)) (h11 : ((P.main.file : Str) == file) = true) (h12 : (P.main.scope.names.lookup ("super" : Str)).isSome = false)
    (h13 : ((defArgs si).posonlyargs ++ (defArgs si).args).head? = some ar) (h14 : ar.arg = "self") (h15 : ∀ us : List Value, us.length = ps.length → bindArgs (PySem.W.ksFn "__init__" qual (defArgs si) (defBody si) (defScope si) dV kV doc pm an (.ref cda) ct cc) ⟨us, []⟩ = pure (ps.zip us)) :
    ClsW P K x qual si ps C f cc cda (PySem.W.ksFn "__init__" qual (defArgs si) (defBody si) (defScope si) dV kV doc pm an (.ref cda) ct cc) :=
  ⟨h1, ⟨_, _, _, _, _, _, _, _, _, _, _, _, _, _, _, h2, h9⟩, h3, h4, ⟨⟨_, _, _, _, _, _, _, _, _, rfl, h5⟩, h6, _, _, _, h7⟩,
    ⟨⟨_, _, _, _, _, h5, h13, h14⟩, ⟨_, _, _, _, _, _, h8, h10, h11⟩, ⟨_, _, _, h7⟩, ⟨_, by unfold PySem.W.clsIn; rw [h2] <;> rfl⟩, h12⟩, .all h15⟩
/-- the classes' facts, looked up -/
def okCls (K : PySem.W.Frag) (B : Addr) (cs : List (Str × Addr)) (p : Str × Addr) : Bool :=
  (decide (PySem.W.findIn K (.ref p.2) "__setattr__" = some (some (.builtin "object.__setattr__"))) && (decide (PySem.W.subIn K (.ref p.2) (.type "BaseException") = some true) && (decide (PySem.W.typeIn K (.ref p.2) = some (.type "type")) && (PySem.W.keepIn K (.ref p.2) &&
  (decide (PySem.W.mroIn K p.2 (.ref p.2) = some true) && (decide (PySem.W.ks_superIn K p.2 p.2 "__init__" = some (some (.builtin "ValueError.__init__"))) && (decide (PySem.W.subIn K (.ref p.2) (.type "ValueError") = some true) &&
  (decide (PySem.W.findIn K (.ref p.2) "__getattribute__" = some (some (.builtin "BaseException.__getattribute__"))) && (decide (PySem.W.findIn K (.ref p.2) "__getattr__" = some none) && (PySem.W.hasDictIn K p.2 &&
  (decide (PySem.W.findIn K (.ref p.2) "__class__" = some (some (.builtin "object.__class__"))) && (decide (PySem.W.specialIn K (.builtin "object.__class__") "__get__" = some (some (.builtin "getset_descriptor.__get__"))) && (decide (PySem.W.takesIn K (.builtin "object.__class__") = some true) &&
  (decide (PySem.W.mroIn K p.2 (.type "object") = some true) && ((fldN.all fun n => decide (PySem.W.findIn K (.ref p.2) n = some none)) && (decide (PySem.W.kitOne K (.ref p.2) (.type "ValueError") = some true) && (decide (PySem.W.exmOne K (.ref p.2) (.ref B) = some true) &&
  (cs.all fun q => decide (PySem.W.kitOne K (.ref p.2) (.ref q.2) = some (p.1 == q.1))))))))))))))))))))
structure OkCls (K : PySem.W.Frag) (B : Addr) (cs : List (Str × Addr)) (p : Str × Addr) : Prop where
  sa : PySem.W.findIn K (.ref p.2) "__setattr__" = some (some (.builtin "object.__setattr__"))
  be : PySem.W.subIn K (.ref p.2) (.type "BaseException") = some true
  ty : PySem.W.typeIn K (.ref p.2) = some (.type "type")
  kp : PySem.W.keepIn K (.ref p.2) = true
  mr : PySem.W.mroIn K p.2 (.ref p.2) = some true
  su : PySem.W.ks_superIn K p.2 p.2 "__init__" = some (some (.builtin "ValueError.__init__"))
  ve : PySem.W.subIn K (.ref p.2) (.type "ValueError") = some true
  ek : ExcK K p.2
  fl : ∀ n, fldN.contains n = true → PySem.W.findIn K (.ref p.2) n = some none
  kv : PySem.W.kitOne K (.ref p.2) (.type "ValueError") = some true
  ex : PySem.W.exmOne K (.ref p.2) (.ref B) = some true
  ko : ∀ q ∈ cs, PySem.W.kitOne K (.ref p.2) (.ref q.2) = some (p.1 == q.1)
theorem okCls_ok {K : PySem.W.Frag} {B : Addr} {cs : List (Str × Addr)} {p : Str × Addr} (h : okCls K B cs p = true) : OkCls K B cs p := by
  unfold okCls at h
  simp only [Bool.and_eq_true, decide_eq_true_eq, List.all_eq_true] at h
  obtain ⟨a1, a2, a3, a4, a5, a6, a7, a8, a9, a10, a11, a12, a13, a14, a15, a16, a17, a18⟩ := h
  exact ⟨a1, a2, a3, a4, a5, a6, a7, ⟨a8, a9, a2, a10, a11, a12, a13, a14⟩, fun n hn => a15 n (List.contains_iff_mem.mp hn), a16, a17, a18⟩
theorem facts_of {K : PySem.W.Frag} {mg : Str → Option Value} {B : Addr} {cs : List (Str × Addr)} (gB : mg "OrderError" = some (.ref B)) (hn : cs.map (·.1) = errN) (hm : ∀ p ∈ cs, mg p.1 = some (.ref p.2)) (h : cs.all (okCls K B cs) = true) : ErrFacts K mg := by
  refine ⟨fun c hc => ?_⟩
  have get : ∀ c, errN.contains c = true → ∃ p ∈ cs, p.1 = c := fun c hc => by
    have z := List.contains_iff_mem.mp hc
    rw [← hn] at z
    obtain ⟨p, hp, e⟩ := List.mem_map.mp z
    exact ⟨p, hp, e⟩
  obtain ⟨p, hp, rfl⟩ := get c hc
  have o := okCls_ok ((List.all_eq_true.mp h) p hp)
  refine ⟨p.2, hm p hp, o.ek, o.fl, o.kv, fun B' g' => ?_, fun T hT B' g' => ?_⟩
  · rw [gB] at g'
    cases g'
    exact o.ex
  · obtain ⟨q, hq, rfl⟩ := get T hT
    rw [hm q hq] at g'
    cases g'
    exact o.ko q hq
theorem errC_of {P : Program} {K : PySem.W.Frag} {mg : Str → Option Value} {B : Addr} {cs : List (Str × Addr)} {x qual : Str} {si : Stmt} {ps : List Str} {C f cc cda : Addr} {fd : FuncData} {y : Str} (W : ClsW P K x qual si ps C f cc cda fd) (o : OkCls K B cs (y, C)) (ms : mg "super" = none) (st : PySem.W.nsIn K cStatics "thirdparty.any" = some none) : ErrC P K mg C f cc cda :=
  ⟨⟨W.cls, o.sa, o.be, o.ty, o.kp⟩, W.sup, ms, st, o.mr, o.su, o.ve⟩
theorem law_binds {K : PySem.W.Frag} {f : Addr} {fd : FuncData} (F : Fun K "law" "law" st_law f fd) (s : Shared) (u : Value) : BindsTo s fd ⟨[u], []⟩ [("_law_script", u)] := by
  obtain ⟨_, _, _, _, _, _, _, _, _, rfl, _, _⟩ := F.ex
  exact .of_eq rfl
/-- the law's promise -/
def spLaw (K : PySem.W.Frag) : Sp := fun vs H Q _ => ∃ (a : Addr) (ns : List Int), vs = [.ref a] ∧ SqL K H a (ns.map V.int) ∧ Only H ∧ ns.length ≤ 63 ∧ ∀ v H', v = .bl true → Q v H'
theorem reps_intmap {T : Tx} {F : Hp} {ρ : List Addr} : ∀ ns : List Int, Reps T F ρ (ns.map V.int) (ns.map D.int)
  | [] => .nil
  | n :: r => .cons (.int n) (reps_intmap r)
theorem law_sp {P : Program} {w : World} {K : PySem.W.Frag} {mg : Str → Option Value} {vs : List V} {H : Hp} {Q : VK} {E : XK} (h : spLaw K vs H Q E) : spD ⟨P, w, mg, K⟩ 1 (runD 10 (m_law Φr Φn Φx Φc Φf)) vs H Q E := by
  obtain ⟨a, ns, rfl, hS, hO, hl, q⟩ := h
  refine ⟨H, [], [], [.zst (ns.map .int)], .bl true, [], rfl, ⟨Sub.refl, .nil, rfl, fun i a c h => by simp at h⟩, .cons (.zst hS (reps_intmap ns)) .nil, law_ok ns hl, fun v F' ρ' H' _ _ r => ?_⟩
  cases r
  exact q _ _ rfl
theorem all_mk {l : PySem.W.OpenLaw} {w : World} {K : PySem.W.Frag} {h : Heap} {mg : Str → Option Value} {fa B : Addr} (X : K.In h) (G : h.Ns mainGlobals mg) (hfa : mg "law" = some (.ref fa))
    {C_BadTable f_BadTable cc_BadTable cd_BadTable : Addr} {fd_BadTable : FuncData}
    {C_NoOperation f_NoOperation cc_NoOperation cd_NoOperation : Addr} {fd_NoOperation : FuncData}
    {C_NoCell f_NoCell cc_NoCell cd_NoCell : Addr} {fd_NoCell : FuncData}
    {C_BadName f_BadName cc_BadName cd_BadName : Addr} {fd_BadName : FuncData}
    {C_BadNumber f_BadNumber cc_BadNumber cd_BadNumber : Addr} {fd_BadNumber : FuncData}
    {C_BadClient f_BadClient cc_BadClient cd_BadClient : Addr} {fd_BadClient : FuncData}
    {C_BadRun f_BadRun cc_BadRun cd_BadRun : Addr} {fd_BadRun : FuncData}
    {C_Over f_Over cc_Over cd_Over : Addr} {fd_Over : FuncData}
    {C_TooLarge f_TooLarge cc_TooLarge cd_TooLarge : Addr} {fd_TooLarge : FuncData}
    {C_BadStep f_BadStep cc_BadStep cd_BadStep : Addr} {fd_BadStep : FuncData}
    {C_BadRow f_BadRow cc_BadRow cd_BadRow : Addr} {fd_BadRow : FuncData}
    {a__law_row : Addr} {fd__law_row : FuncData}
    {a__law_names : Addr} {fd__law_names : FuncData}
    {a__law_raise : Addr} {fd__law_raise : FuncData}
    {a__law_classes : Addr} {fd__law_classes : FuncData}
    {a__law_fields : Addr} {fd__law_fields : FuncData}
    {a_law : Addr} {fd_law : FuncData}
    (w_BadTable : ClsW l.prog K "BadTable" "BadTable.__init__" si_BadTable ["self", "name"] C_BadTable f_BadTable cc_BadTable cd_BadTable fd_BadTable)
    (w_NoOperation : ClsW l.prog K "NoOperation" "NoOperation.__init__" si_NoOperation ["self", "name"] C_NoOperation f_NoOperation cc_NoOperation cd_NoOperation fd_NoOperation)
    (w_NoCell : ClsW l.prog K "NoCell" "NoCell.__init__" si_NoCell ["self", "name"] C_NoCell f_NoCell cc_NoCell cd_NoCell fd_NoCell)
    (w_BadName : ClsW l.prog K "BadName" "BadName.__init__" si_BadName ["self", "name"] C_BadName f_BadName cc_BadName cd_BadName fd_BadName)
    (w_BadNumber : ClsW l.prog K "BadNumber" "BadNumber.__init__" si_BadNumber ["self", "number"] C_BadNumber f_BadNumber cc_BadNumber cd_BadNumber fd_BadNumber)
    (w_BadClient : ClsW l.prog K "BadClient" "BadClient.__init__" si_BadClient ["self", "caller"] C_BadClient f_BadClient cc_BadClient cd_BadClient fd_BadClient)
    (w_BadRun : ClsW l.prog K "BadRun" "BadRun.__init__" si_BadRun ["self", "at"] C_BadRun f_BadRun cc_BadRun cd_BadRun fd_BadRun)
    (w_Over : ClsW l.prog K "Over" "Over.__init__" si_Over ["self", "caller"] C_Over f_Over cc_Over cd_Over fd_Over)
    (w_TooLarge : ClsW l.prog K "TooLarge" "TooLarge.__init__" si_TooLarge ["self", "bound"] C_TooLarge f_TooLarge cc_TooLarge cd_TooLarge fd_TooLarge)
    (w_BadStep : ClsW l.prog K "BadStep" "BadStep.__init__" si_BadStep ["self", "name", "at"] C_BadStep f_BadStep cc_BadStep cd_BadStep fd_BadStep)
    (w_BadRow : ClsW l.prog K "BadRow" "BadRow.__init__" si_BadRow ["self", "row"] C_BadRow f_BadRow cc_BadRow cd_BadRow fd_BadRow)
    (nB : PySem.W.nsIn K mainGlobals "OrderError" = some (some (.ref B)))
    (chk : (([("BadTable", C_BadTable), ("NoOperation", C_NoOperation), ("NoCell", C_NoCell), ("BadName", C_BadName), ("BadNumber", C_BadNumber), ("BadClient", C_BadClient), ("BadRun", C_BadRun), ("Over", C_Over), ("TooLarge", C_TooLarge), ("BadStep", C_BadStep), ("BadRow", C_BadRow)] : List (Str × Addr)).all (okCls K B [("BadTable", C_BadTable), ("NoOperation", C_NoOperation), ("NoCell", C_NoCell), ("BadName", C_BadName), ("BadNumber", C_BadNumber), ("BadClient", C_BadClient), ("BadRun", C_BadRun), ("Over", C_Over), ("TooLarge", C_TooLarge), ("BadStep", C_BadStep), ("BadRow", C_BadRow)])) = true)
    (n__law_row : PySem.W.nsIn K mainGlobals "_law_row" = some (some (.ref a__law_row))) (F__law_row : Fun K "_law_row" "_law_row" st__law_row a__law_row fd__law_row)
    (n__law_names : PySem.W.nsIn K mainGlobals "_law_names" = some (some (.ref a__law_names))) (F__law_names : Fun K "_law_names" "_law_names" st__law_names a__law_names fd__law_names)
    (n__law_raise : PySem.W.nsIn K mainGlobals "_law_raise" = some (some (.ref a__law_raise))) (F__law_raise : Fun K "_law_raise" "_law_raise" st__law_raise a__law_raise fd__law_raise)
    (n__law_classes : PySem.W.nsIn K mainGlobals "_law_classes" = some (some (.ref a__law_classes))) (F__law_classes : Fun K "_law_classes" "_law_classes" st__law_classes a__law_classes fd__law_classes)
    (n__law_fields : PySem.W.nsIn K mainGlobals "_law_fields" = some (some (.ref a__law_fields))) (F__law_fields : Fun K "_law_fields" "_law_fields" st__law_fields a__law_fields fd__law_fields)
    (n_law : PySem.W.nsIn K mainGlobals "law" = some (some (.ref a_law))) (F_law : Fun K "law" "law" st_law a_law fd_law)
    (z_len : PySem.W.nsIn K mainGlobals "len" = some none) (z_int : PySem.W.nsIn K mainGlobals "int" = some none) (z_list : PySem.W.nsIn K mainGlobals "list" = some none) (z_tuple : PySem.W.nsIn K mainGlobals "tuple" = some none) (z_range : PySem.W.nsIn K mainGlobals "range" = some none) (z_enumerate : PySem.W.nsIn K mainGlobals "enumerate" = some none) (z_reversed : PySem.W.nsIn K mainGlobals "reversed" = some none) (z_zip : PySem.W.nsIn K mainGlobals "zip" = some none) (z_sum : PySem.W.nsIn K mainGlobals "sum" = some none) (z_any : PySem.W.nsIn K mainGlobals "any" = some none) (z_all : PySem.W.nsIn K mainGlobals "all" = some none) (z_isinstance : PySem.W.nsIn K mainGlobals "isinstance" = some none) (z_dict : PySem.W.nsIn K mainGlobals "dict" = some none) (z_iter : PySem.W.nsIn K mainGlobals "iter" = some none) (z_ValueError : PySem.W.nsIn K mainGlobals "ValueError" = some none) (z_super : PySem.W.nsIn K mainGlobals "super" = some none)
    (st : PySem.W.nsIn K cStatics "thirdparty.any" = some none) :
    ∃ fd : FuncData, (∀ (s : Shared) (u : Value), BindsTo s fd ⟨[u], []⟩ [("_law_script", u)]) ∧ ∀ base : Heap, K.In base → base.Ns mainGlobals mg → FnOk l.prog w K mg base CX0 4 fa fd ["_law_script"] (spLaw K) := by
  have e := hfa.symm.trans (PySem.W.mg_of X G n_law)
  cases e
  have NB : NoBlt mg := ⟨PySem.W.mg_none_of X G z_len, PySem.W.mg_none_of X G z_int, PySem.W.mg_none_of X G z_list, PySem.W.mg_none_of X G z_tuple, PySem.W.mg_none_of X G z_range, PySem.W.mg_none_of X G z_enumerate, PySem.W.mg_none_of X G z_reversed, PySem.W.mg_none_of X G z_zip, PySem.W.mg_none_of X G z_sum, PySem.W.mg_none_of X G z_any, PySem.W.mg_none_of X G z_all, PySem.W.mg_none_of X G z_isinstance, PySem.W.mg_none_of X G z_dict, PySem.W.mg_none_of X G z_iter⟩
  have G_BadTable := PySem.W.mg_of X G w_BadTable.ns
  have G_NoOperation := PySem.W.mg_of X G w_NoOperation.ns
  have G_NoCell := PySem.W.mg_of X G w_NoCell.ns
  have G_BadName := PySem.W.mg_of X G w_BadName.ns
  have G_BadNumber := PySem.W.mg_of X G w_BadNumber.ns
  have G_BadClient := PySem.W.mg_of X G w_BadClient.ns
  have G_BadRun := PySem.W.mg_of X G w_BadRun.ns
  have G_Over := PySem.W.mg_of X G w_Over.ns
  have G_TooLarge := PySem.W.mg_of X G w_TooLarge.ns
  have G_BadStep := PySem.W.mg_of X G w_BadStep.ns
  have G_BadRow := PySem.W.mg_of X G w_BadRow.ns
  have GB := PySem.W.mg_of X G nB
  have hmem : ∀ p ∈ ([("BadTable", C_BadTable), ("NoOperation", C_NoOperation), ("NoCell", C_NoCell), ("BadName", C_BadName), ("BadNumber", C_BadNumber), ("BadClient", C_BadClient), ("BadRun", C_BadRun), ("Over", C_Over), ("TooLarge", C_TooLarge), ("BadStep", C_BadStep), ("BadRow", C_BadRow)] : List (Str × Addr)), mg p.1 = some (.ref p.2) := by
    intro p hp
    simp only [List.mem_cons, List.not_mem_nil, or_false] at hp
    rcases hp with rfl | rfl | rfl | rfl | rfl | rfl | rfl | rfl | rfl | rfl | rfl
    all_goals assumption
  have EF : ErrFacts K mg := facts_of GB rfl hmem chk
  have all := List.all_eq_true.mp chk
  have ms := PySem.W.mg_none_of X G z_super
  have o_BadTable := okCls_ok (all ("BadTable", C_BadTable) (by simp))
  have E_BadTable := errC_of w_BadTable o_BadTable ms st
  have o_NoOperation := okCls_ok (all ("NoOperation", C_NoOperation) (by simp))
  have E_NoOperation := errC_of w_NoOperation o_NoOperation ms st
  have o_NoCell := okCls_ok (all ("NoCell", C_NoCell) (by simp))
  have E_NoCell := errC_of w_NoCell o_NoCell ms st
  have o_BadName := okCls_ok (all ("BadName", C_BadName) (by simp))
  have E_BadName := errC_of w_BadName o_BadName ms st
  have o_BadNumber := okCls_ok (all ("BadNumber", C_BadNumber) (by simp))
  have E_BadNumber := errC_of w_BadNumber o_BadNumber ms st
  have o_BadClient := okCls_ok (all ("BadClient", C_BadClient) (by simp))
  have E_BadClient := errC_of w_BadClient o_BadClient ms st
  have o_BadRun := okCls_ok (all ("BadRun", C_BadRun) (by simp))
  have E_BadRun := errC_of w_BadRun o_BadRun ms st
  have o_Over := okCls_ok (all ("Over", C_Over) (by simp))
  have E_Over := errC_of w_Over o_Over ms st
  have o_TooLarge := okCls_ok (all ("TooLarge", C_TooLarge) (by simp))
  have E_TooLarge := errC_of w_TooLarge o_TooLarge ms st
  have o_BadStep := okCls_ok (all ("BadStep", C_BadStep) (by simp))
  have E_BadStep := errC_of w_BadStep o_BadStep ms st
  have o_BadRow := okCls_ok (all ("BadRow", C_BadRow) (by simp))
  have E_BadRow := errC_of w_BadRow o_BadRow ms st
  have b__law_row := F__law_row.binds (ps := ["_law_script", "_law_k", "_law_many"]) fun _ _ _ _ _ _ us hl => match us, hl with | [_, _, _], _ => rfl
  have b__law_names := F__law_names.binds (ps := ["_law_number", "_law_many"]) fun _ _ _ _ _ _ us hl => match us, hl with | [_, _], _ => rfl
  have b__law_raise := F__law_raise.binds (ps := ["_law_at", "_law_name", "_law_number", "_law_row_here"]) fun _ _ _ _ _ _ us hl => match us, hl with | [_, _, _, _], _ => rfl
  have b__law_classes := F__law_classes.binds (ps := ["_law_e"]) fun _ _ _ _ _ _ us hl => match us, hl with | [_], _ => rfl
  have b__law_fields := F__law_fields.binds (ps := ["_law_e", "_law_at"]) fun _ _ _ _ _ _ us hl => match us, hl with | [_, _], _ => rfl
  have b_law := F_law.binds (ps := ["_law_script"]) fun _ _ _ _ _ _ us hl => match us, hl with | [_], _ => rfl
  refine ⟨fd_law, fun s u => ?_, fun base hK hG => ?_⟩
  · exact law_binds F_law s u
  · have M_BadTable : MkX l.prog w K mg base 1 "BadTable" 1 (fun C => spFld C (fl1 "name")) := ⟨C_BadTable, f_BadTable, fd_BadTable, ["self", "name"], E_BadTable.ox, w_BadTable.ini, w_BadTable.typ, i_BadTable E_BadTable (o_BadTable.fl "name" (by decide +kernel)) w_BadTable.fn, w_BadTable.bd, G_BadTable, rfl⟩
    have M_NoOperation : MkX l.prog w K mg base 1 "NoOperation" 1 (fun C => spFld C (fl1 "name")) := ⟨C_NoOperation, f_NoOperation, fd_NoOperation, ["self", "name"], E_NoOperation.ox, w_NoOperation.ini, w_NoOperation.typ, i_NoOperation E_NoOperation (o_NoOperation.fl "name" (by decide +kernel)) w_NoOperation.fn, w_NoOperation.bd, G_NoOperation, rfl⟩
    have M_NoCell : MkX l.prog w K mg base 1 "NoCell" 1 (fun C => spFld C (fl1 "name")) := ⟨C_NoCell, f_NoCell, fd_NoCell, ["self", "name"], E_NoCell.ox, w_NoCell.ini, w_NoCell.typ, i_NoCell E_NoCell (o_NoCell.fl "name" (by decide +kernel)) w_NoCell.fn, w_NoCell.bd, G_NoCell, rfl⟩
    have M_BadName : MkX l.prog w K mg base 1 "BadName" 1 (fun C => spFld C (fl1 "name")) := ⟨C_BadName, f_BadName, fd_BadName, ["self", "name"], E_BadName.ox, w_BadName.ini, w_BadName.typ, i_BadName E_BadName (o_BadName.fl "name" (by decide +kernel)) w_BadName.fn, w_BadName.bd, G_BadName, rfl⟩
    have M_BadNumber : MkX l.prog w K mg base 1 "BadNumber" 1 (fun C => spFld C (fl1 "number")) := ⟨C_BadNumber, f_BadNumber, fd_BadNumber, ["self", "number"], E_BadNumber.ox, w_BadNumber.ini, w_BadNumber.typ, i_BadNumber E_BadNumber (o_BadNumber.fl "number" (by decide +kernel)) w_BadNumber.fn, w_BadNumber.bd, G_BadNumber, rfl⟩
    have M_BadClient : MkX l.prog w K mg base 1 "BadClient" 1 (fun C => spFld C (fl1 "caller")) := ⟨C_BadClient, f_BadClient, fd_BadClient, ["self", "caller"], E_BadClient.ox, w_BadClient.ini, w_BadClient.typ, i_BadClient E_BadClient (o_BadClient.fl "caller" (by decide +kernel)) w_BadClient.fn, w_BadClient.bd, G_BadClient, rfl⟩
    have M_BadRun : MkX l.prog w K mg base 1 "BadRun" 1 (fun C => spFld C (fl1 "at")) := ⟨C_BadRun, f_BadRun, fd_BadRun, ["self", "at"], E_BadRun.ox, w_BadRun.ini, w_BadRun.typ, i_BadRun E_BadRun (o_BadRun.fl "at" (by decide +kernel)) w_BadRun.fn, w_BadRun.bd, G_BadRun, rfl⟩
    have M_Over : MkX l.prog w K mg base 1 "Over" 1 (fun C => spFld C (fl1 "caller")) := ⟨C_Over, f_Over, fd_Over, ["self", "caller"], E_Over.ox, w_Over.ini, w_Over.typ, i_Over E_Over (o_Over.fl "caller" (by decide +kernel)) w_Over.fn, w_Over.bd, G_Over, rfl⟩
    have M_TooLarge : MkX l.prog w K mg base 1 "TooLarge" 1 (fun C => spFld C (fl1 "bound")) := ⟨C_TooLarge, f_TooLarge, fd_TooLarge, ["self", "bound"], E_TooLarge.ox, w_TooLarge.ini, w_TooLarge.typ, i_TooLarge E_TooLarge (o_TooLarge.fl "bound" (by decide +kernel)) w_TooLarge.fn, w_TooLarge.bd, G_TooLarge, rfl⟩
    have M_BadStep : MkX l.prog w K mg base 1 "BadStep" 2 (fun C => spFld C (fl2 "name" "at")) := ⟨C_BadStep, f_BadStep, fd_BadStep, ["self", "name", "at"], E_BadStep.ox, w_BadStep.ini, w_BadStep.typ, i_BadStep E_BadStep (o_BadStep.fl "name" (by decide +kernel)) (o_BadStep.fl "at" (by decide +kernel)) w_BadStep.fn, w_BadStep.bd, G_BadStep, rfl⟩
    have M_BadRow : MkX l.prog w K mg base 1 "BadRow" 1 (spRow K "row") := ⟨C_BadRow, f_BadRow, fd_BadRow, ["self", "row"], E_BadRow.ox, w_BadRow.ini, w_BadRow.typ, i_BadRow E_BadRow (o_BadRow.fl "row" (by decide +kernel)) NB.list w_BadRow.fn, w_BadRow.bd, G_BadRow, rfl⟩
    have c1 : CallOk l.prog w K mg base 1 "_law_row" 3 Φr := ⟨_, _, _, d__law_row NB F__law_row, PySem.W.mg_of X G n__law_row, F__law_row.kp, b__law_row, rfl⟩
    have c2 : CallOk l.prog w K mg base 1 "_law_names" 2 Φn := ⟨_, _, _, d__law_names NB F__law_names, PySem.W.mg_of X G n__law_names, F__law_names.kp, b__law_names, rfl⟩
    have c3 : CallX l.prog w K mg base 3 "_law_raise" 4 Φx := ⟨_, _, _, d__law_raise NB M_BadTable M_NoOperation M_NoCell M_BadName M_BadNumber M_BadClient M_BadRun M_Over M_TooLarge M_BadStep M_BadRow F__law_raise, PySem.W.mg_of X G n__law_raise, F__law_raise.kp, b__law_raise, rfl⟩
    have c4 : CallHX l.prog w K mg base 1 "_law_classes" 1 Φc := ⟨_, _, _, d__law_classes NB EF G_BadTable G_NoOperation G_NoCell G_BadName G_BadNumber G_BadClient G_BadRun G_Over G_TooLarge G_BadStep G_BadRow F__law_classes, PySem.W.mg_of X G n__law_classes, F__law_classes.kp, b__law_classes, rfl⟩
    have c5 : CallHX l.prog w K mg base 1 "_law_fields" 2 Φf := ⟨_, _, _, d__law_fields NB EF G_BadTable G_NoOperation G_NoCell G_BadName G_BadNumber G_BadClient G_BadRun G_Over G_TooLarge G_BadStep G_BadRow F__law_fields, PySem.W.mg_of X G n__law_fields, F__law_fields.kp, b__law_fields, rfl⟩
    have main := d_law NB EF (PySem.W.mg_none_of X G z_ValueError) GB c1 c2 c3 c4 c5 F_law
    exact ⟨fun vs H Q E h => by obtain ⟨a, ns, rfl, _⟩ := h; rfl, fun A outer s H args us vs Q E hr e0 hb r hsp => main.run A outer s H args us vs Q E hr e0 hb r (law_sp hsp)⟩
end K22

open PySem PySem.W PyProof.Rows in
set_option maxRecDepth 100000 in
set_option maxHeartbeats 0 in
theorem PySem.Challenge.cw_orderatonce_k22_errors_family_holds : PySem.Challenge.rw_orderatonce_k22_errors_family.Holds := by
  w_on; o_law; k_head; (case hw => w_witness2)
  k_fill
  refine L2.walk_of (n := 63) (k := 4) (x := "_law_script") (CX := fun _ => L2.CX0) (sp := fun w => K22.spLaw _) rfl (by decide) rfl ⟨rfl, by decide, by decide⟩ (fun w h Y => PySem.W.kIn_of Y) ?F (fun _ _ a ns hl hO hS => ⟨a, ns, rfl, hS, hO, hl, fun _ _ e => e⟩) fun _ _ _ _ _ z => z
  case F =>
    intro w mg fa h KX G hmg
    refine' K22.all_mk (l := PySem.Challenge.rw_orderatonce_k22_errors_family) KX G hmg ?w_BadTable ?w_NoOperation ?w_NoCell ?w_BadName ?w_BadNumber ?w_BadClient ?w_BadRun ?w_Over ?w_TooLarge ?w_BadStep ?w_BadRow ?nB ?chk ?n__law_row ?F__law_row ?n__law_names ?F__law_names ?n__law_raise ?F__law_raise ?n__law_classes ?F__law_classes ?n__law_fields ?F__law_fields ?n_law ?F_law ?z_len ?z_int ?z_list ?z_tuple ?z_range ?z_enumerate ?z_reversed ?z_zip ?z_sum ?z_any ?z_all ?z_isinstance ?z_dict ?z_iter ?z_ValueError ?z_super ?st
    (case w_BadTable => refine' K22.clsW_mk ?h1 ?h2 ?h3 ?h4 ?h5 ?h6 ?h7 ?h8 ?h9 ?h10 ?h11 ?h12 ?h13 ?h14 ?h15; (case h1 => k_is); (case h2 => k_is); (case h3 => k_is); (case h4 => k_is); (case h5 => k_is); (case h6 => k_is); (case h7 => k_is); (case h8 => k_is); (case h9 => decide +kernel); (case h10 => rfl); (case h11 => decide +kernel); (case h12 => decide +kernel); (case h13 => rfl); (case h14 => rfl); (case h15 => exact fun us hl => match us, hl with | [_, _], _ => rfl))
    (case w_NoOperation => refine' K22.clsW_mk ?h1 ?h2 ?h3 ?h4 ?h5 ?h6 ?h7 ?h8 ?h9 ?h10 ?h11 ?h12 ?h13 ?h14 ?h15; (case h1 => k_is); (case h2 => k_is); (case h3 => k_is); (case h4 => k_is); (case h5 => k_is); (case h6 => k_is); (case h7 => k_is); (case h8 => k_is); (case h9 => decide +kernel); (case h10 => rfl); (case h11 => decide +kernel); (case h12 => decide +kernel); (case h13 => rfl); (case h14 => rfl); (case h15 => exact fun us hl => match us, hl with | [_, _], _ => rfl))
    (case w_NoCell => refine' K22.clsW_mk ?h1 ?h2 ?h3 ?h4 ?h5 ?h6 ?h7 ?h8 ?h9 ?h10 ?h11 ?h12 ?h13 ?h14 ?h15; (case h1 => k_is); (case h2 => k_is); (case h3 => k_is); (case h4 => k_is); (case h5 => k_is); (case h6 => k_is); (case h7 => k_is); (case h8 => k_is); (case h9 => decide +kernel); (case h10 => rfl); (case h11 => decide +kernel); (case h12 => decide +kernel); (case h13 => rfl); (case h14 => rfl); (case h15 => exact fun us hl => match us, hl with | [_, _], _ => rfl))
    (case w_BadName => refine' K22.clsW_mk ?h1 ?h2 ?h3 ?h4 ?h5 ?h6 ?h7 ?h8 ?h9 ?h10 ?h11 ?h12 ?h13 ?h14 ?h15; (case h1 => k_is); (case h2 => k_is); (case h3 => k_is); (case h4 => k_is); (case h5 => k_is); (case h6 => k_is); (case h7 => k_is); (case h8 => k_is); (case h9 => decide +kernel); (case h10 => rfl); (case h11 => decide +kernel); (case h12 => decide +kernel); (case h13 => rfl); (case h14 => rfl); (case h15 => exact fun us hl => match us, hl with | [_, _], _ => rfl))
    (case w_BadNumber => refine' K22.clsW_mk ?h1 ?h2 ?h3 ?h4 ?h5 ?h6 ?h7 ?h8 ?h9 ?h10 ?h11 ?h12 ?h13 ?h14 ?h15; (case h1 => k_is); (case h2 => k_is); (case h3 => k_is); (case h4 => k_is); (case h5 => k_is); (case h6 => k_is); (case h7 => k_is); (case h8 => k_is); (case h9 => decide +kernel); (case h10 => rfl); (case h11 => decide +kernel); (case h12 => decide +kernel); (case h13 => rfl); (case h14 => rfl); (case h15 => exact fun us hl => match us, hl with | [_, _], _ => rfl))
    (case w_BadClient => refine' K22.clsW_mk ?h1 ?h2 ?h3 ?h4 ?h5 ?h6 ?h7 ?h8 ?h9 ?h10 ?h11 ?h12 ?h13 ?h14 ?h15; (case h1 => k_is); (case h2 => k_is); (case h3 => k_is); (case h4 => k_is); (case h5 => k_is); (case h6 => k_is); (case h7 => k_is); (case h8 => k_is); (case h9 => decide +kernel); (case h10 => rfl); (case h11 => decide +kernel); (case h12 => decide +kernel); (case h13 => rfl); (case h14 => rfl); (case h15 => exact fun us hl => match us, hl with | [_, _], _ => rfl))
    (case w_BadRun => refine' K22.clsW_mk ?h1 ?h2 ?h3 ?h4 ?h5 ?h6 ?h7 ?h8 ?h9 ?h10 ?h11 ?h12 ?h13 ?h14 ?h15; (case h1 => k_is); (case h2 => k_is); (case h3 => k_is); (case h4 => k_is); (case h5 => k_is); (case h6 => k_is); (case h7 => k_is); (case h8 => k_is); (case h9 => decide +kernel); (case h10 => rfl); (case h11 => decide +kernel); (case h12 => decide +kernel); (case h13 => rfl); (case h14 => rfl); (case h15 => exact fun us hl => match us, hl with | [_, _], _ => rfl))
    (case w_Over => refine' K22.clsW_mk ?h1 ?h2 ?h3 ?h4 ?h5 ?h6 ?h7 ?h8 ?h9 ?h10 ?h11 ?h12 ?h13 ?h14 ?h15; (case h1 => k_is); (case h2 => k_is); (case h3 => k_is); (case h4 => k_is); (case h5 => k_is); (case h6 => k_is); (case h7 => k_is); (case h8 => k_is); (case h9 => decide +kernel); (case h10 => rfl); (case h11 => decide +kernel); (case h12 => decide +kernel); (case h13 => rfl); (case h14 => rfl); (case h15 => exact fun us hl => match us, hl with | [_, _], _ => rfl))
    (case w_TooLarge => refine' K22.clsW_mk ?h1 ?h2 ?h3 ?h4 ?h5 ?h6 ?h7 ?h8 ?h9 ?h10 ?h11 ?h12 ?h13 ?h14 ?h15; (case h1 => k_is); (case h2 => k_is); (case h3 => k_is); (case h4 => k_is); (case h5 => k_is); (case h6 => k_is); (case h7 => k_is); (case h8 => k_is); (case h9 => decide +kernel); (case h10 => rfl); (case h11 => decide +kernel); (case h12 => decide +kernel); (case h13 => rfl); (case h14 => rfl); (case h15 => exact fun us hl => match us, hl with | [_, _], _ => rfl))
    (case w_BadStep => refine' K22.clsW_mk ?h1 ?h2 ?h3 ?h4 ?h5 ?h6 ?h7 ?h8 ?h9 ?h10 ?h11 ?h12 ?h13 ?h14 ?h15; (case h1 => k_is); (case h2 => k_is); (case h3 => k_is); (case h4 => k_is); (case h5 => k_is); (case h6 => k_is); (case h7 => k_is); (case h8 => k_is); (case h9 => decide +kernel); (case h10 => rfl); (case h11 => decide +kernel); (case h12 => decide +kernel); (case h13 => rfl); (case h14 => rfl); (case h15 => exact fun us hl => match us, hl with | [_, _, _], _ => rfl))
    (case w_BadRow => refine' K22.clsW_mk ?h1 ?h2 ?h3 ?h4 ?h5 ?h6 ?h7 ?h8 ?h9 ?h10 ?h11 ?h12 ?h13 ?h14 ?h15; (case h1 => k_is); (case h2 => k_is); (case h3 => k_is); (case h4 => k_is); (case h5 => k_is); (case h6 => k_is); (case h7 => k_is); (case h8 => k_is); (case h9 => decide +kernel); (case h10 => rfl); (case h11 => decide +kernel); (case h12 => decide +kernel); (case h13 => rfl); (case h14 => rfl); (case h15 => exact fun us hl => match us, hl with | [_, _], _ => rfl))
    (case nB => k_is)
    (case n__law_row => k_is)
    (case F__law_row => refine' L2.fun_mk ?l ?c ?k; (case l => k_is); (case c => k_is); (case k => k_is))
    (case n__law_names => k_is)
    (case F__law_names => refine' L2.fun_mk ?l ?c ?k; (case l => k_is); (case c => k_is); (case k => k_is))
    (case n__law_raise => k_is)
    (case F__law_raise => refine' L2.fun_mk ?l ?c ?k; (case l => k_is); (case c => k_is); (case k => k_is))
    (case n__law_classes => k_is)
    (case F__law_classes => refine' L2.fun_mk ?l ?c ?k; (case l => k_is); (case c => k_is); (case k => k_is))
    (case n__law_fields => k_is)
    (case F__law_fields => refine' L2.fun_mk ?l ?c ?k; (case l => k_is); (case c => k_is); (case k => k_is))
    (case n_law => k_is)
    (case F_law => refine' L2.fun_mk ?l ?c ?k; (case l => k_is); (case c => k_is); (case k => k_is))
    (case z_len => k_is)
    (case z_int => k_is)
    (case z_list => k_is)
    (case z_tuple => k_is)
    (case z_range => k_is)
    (case z_enumerate => k_is)
    (case z_reversed => k_is)
    (case z_zip => k_is)
    (case z_sum => k_is)
    (case z_any => k_is)
    (case z_all => k_is)
    (case z_isinstance => k_is)
    (case z_dict => k_is)
    (case z_iter => k_is)
    (case z_ValueError => k_is)
    (case z_super => k_is)
    (case st => k_is)
    (case chk => kernel_rfl)
