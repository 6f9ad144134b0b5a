import PyProof.Rows.All
import Wide.All
import OpenK.AllK
import Wide.FinOn
import HandS.ForMost
import HandS.ExcInit
import HandS.Iter
import HandS.Exc
import HandS.TupAny
import KE.KExcSuper
import KE.KExcIs
import KE.KExcPX
import HandS.ExcValue
import HandS.IsInst
import HandS.Comp
import HandS.RaiseMore
import HandS.Text
import HandS.Dict
import PyProof.ReprRoads
import HandS.TupSets
import HandS.SortOrd
import KE.KSortTupAny
import HandS.SortInts
import HandS.TupLe
import KE.GoesMore
import HandS.Property
import HandS.Records
import HandS.MakeKw
import HandS.Style
import HandS.Zip
import KE.KRevSl
import KE.KTupSum
import PySem.Challenge.RW_ovenhall_k64_whole_fillings_or_anything
import HandS.Ends
import HandS.Words
import HandS.WordsExc
import HandS.Defaults
import HandS.Head0
import HandS.Head1
import HandS.Head2
import HandS.HeadEnd
import HandS.HeadHook1
import HandS.HeadHook2
import HandS.HeadHook4
set_option Elab.async false
set_option linter.all false
set_option maxRecDepth 100000
set_option maxHeartbeats 8000000
/-! DLa: deep data over the hand layer: what a value stands for, slots with modes, what an expression denotes. -/
namespace DL
open PySem L2

/-- deep data -/
inductive Dt where
  | non | bl (b : Bool) | int (i : Int) | str (s : Str)
  | tup (xs : List Dt) | lst (xs : List Dt)
  | scr (xs : List Dt)
  | glob (x : Str)
  | ins (c : Str) (fs : List (Str × Dt))
  | exc (c : Str) (fs : List (Str × Dt)) | exc0 (c : Str)
  | dic (kvs : List (Key × Dt))
  | ty (n : String)

section
variable (K : PySem.W.Frag) (mg : Str → Option Value) (H : Hp)
mutual
inductive Rep : V → Dt → Prop
  | non : Rep .non .non
  | bl (b : Bool) : Rep (.bl b) (.bl b)
  | int (i : Int) : Rep (.int i) (.int i)
  | str (x : Str) : Rep (.str x) (.str x)
  | tup {a : Addr} {xs : List V} {ds : List Dt} : SqT K H a xs → RepA xs ds → Rep (.ref a) (.tup ds)
  | lst {a : Addr} {xs : List V} {ds : List Dt} : H a = some (.lst xs) → RepA xs ds → Rep (.ref a) (.lst ds)
  | scr {a : Addr} {xs : List V} {ds : List Dt} : SqL K H a xs → RepA xs ds → Rep (.ref a) (.scr ds)
  | ty (n : String) : Rep (.ty n) (.ty n)
  | glob {a : Addr} {x : Str} : mg x = some (.ref a) → Rep (.ref a) (.glob x)
  | ins {a C dx : Addr} {vf : List (Str × V)} {c : Str} {fs : List (Str × Dt)} : mg c = some (.ref C) → H a = some (.ins C dx vf) → RepF vf fs → Rep (.ref a) (.ins c fs)
  | exc {a C dx : Addr} {vf : List (Str × V)} {c : Str} {fs : List (Str × Dt)} : mg c = some (.ref C) → H a = some (exo a C (some dx)) → H dx = some (exd dx vf) → RepF vf fs → Rep (.ref a) (.exc c fs)
  | exc0 {a C : Addr} {c : Str} : mg c = some (.ref C) → H a = some (exo a C none) → Rep (.ref a) (.exc0 c)
  | dic {a : Addr} {kv : List (Key × V)} {ks : List (Key × Dt)} : H a = some (.dK kv) → RepK kv ks → Rep (.ref a) (.dic ks)
inductive RepK : List (Key × V) → List (Key × Dt) → Prop
  | nil : RepK [] []
  | cons {k : Key} {v : V} {vs : List (Key × V)} {d : Dt} {ds : List (Key × Dt)} : Rep v d → RepK vs ds → RepK ((k, v) :: vs) ((k, d) :: ds)
inductive RepA : List V → List Dt → Prop
  | nil : RepA [] []
  | cons {v : V} {vs : List V} {d : Dt} {ds : List Dt} : Rep v d → RepA vs ds → RepA (v :: vs) (d :: ds)
inductive RepF : List (Str × V) → List (Str × Dt) → Prop
  | nil : RepF [] []
  | cons {f : Str} {v : V} {vs : List (Str × V)} {d : Dt} {ds : List (Str × Dt)} : Rep v d → RepF vs ds → RepF ((f, v) :: vs) ((f, d) :: ds)
end
end

/-- all that the one heap tells the other one tells, too -/
def Le (H H' : Hp) : Prop := ∀ a o, H a = some o → H' a = some o
theorem Le.refl (H : Hp) : Le H H := fun _ _ h => h
theorem Le.trans {H H1 H2 : Hp} (a : Le H H1) (b : Le H1 H2) : Le H H2 := fun c o h => b c o (a c o h)
theorem Le.there {H H' : Hp} (e : Le H H') : ∀ a, H a ≠ none → H' a ≠ none := fun a q => by
  cases z : H a with
  | none => exact absurd z q
  | some o => rw [e a o z]; exact fun z => nomatch z
theorem Le.new {H : Hp} {p : Addr} {o : HO} (h : H p = none) : Le H (upd H p o) := fun b u e => by
  rw [upd_ne (ne_of_none e h)]
  exact e
theorem Le.rd {H H' : Hp} (e : Le H H') {a : Addr} {u : HO} (h : Rd H a u) : Rd H' a u := by
  rcases h with h | ⟨o, h⟩
  · exact Or.inl (e a _ h)
  · exact Or.inr ⟨o, e a _ h⟩
theorem Le.l {K : PySem.W.Frag} {H H' : Hp} (e : Le H H') {a : Addr} {xs : List V} (h : SqL K H a xs) : SqL K H' a xs := by
  rcases h with h | h
  · exact Or.inl (e.rd h)
  · exact Or.inr h
theorem Le.t {K : PySem.W.Frag} {H H' : Hp} (e : Le H H') {a : Addr} {xs : List V} (h : SqT K H a xs) : SqT K H' a xs := by
  rcases h with h | h
  · exact Or.inl (e.rd h)
  · exact Or.inr h

section
variable {K : PySem.W.Frag} {mg : Str → Option Value} {H H' : Hp}
mutual
theorem Rep.mono (e : Le H H') : ∀ {v : V} {d : Dt}, Rep K mg H v d → Rep K mg H' v d
  | _, _, .non => .non
  | _, _, .bl b => .bl b
  | _, _, .int i => .int i
  | _, _, .str x => .str x
  | _, _, .tup h r => .tup (e.t h) (RepA.mono e r)
  | _, _, .lst h r => .lst (e _ _ h) (RepA.mono e r)
  | _, _, .scr h r => .scr (e.l h) (RepA.mono e r)
  | _, _, .glob h => .glob h
  | _, _, .ty n => .ty n
  | _, _, .ins h1 h2 r => .ins h1 (e _ _ h2) (RepF.mono e r)
  | _, _, .exc h1 h2 h3 r => .exc h1 (e _ _ h2) (e _ _ h3) (RepF.mono e r)
  | _, _, .exc0 h1 h2 => .exc0 h1 (e _ _ h2)
  | _, _, .dic h r => .dic (e _ _ h) (RepK.mono e r)
theorem RepK.mono (e : Le H H') : ∀ {vs : List (Key × V)} {ds : List (Key × Dt)}, RepK K mg H vs ds → RepK K mg H' vs ds
  | _, _, .nil => .nil
  | _, _, .cons h r => .cons (Rep.mono e h) (RepK.mono e r)
theorem RepA.mono (e : Le H H') : ∀ {vs : List V} {ds : List Dt}, RepA K mg H vs ds → RepA K mg H' vs ds
  | _, _, .nil => .nil
  | _, _, .cons h r => .cons (Rep.mono e h) (RepA.mono e r)
theorem RepF.mono (e : Le H H') : ∀ {vs : List (Str × V)} {ds : List (Str × Dt)}, RepF K mg H vs ds → RepF K mg H' vs ds
  | _, _, .nil => .nil
  | _, _, .cons h r => .cons (Rep.mono e h) (RepF.mono e r)
end
theorem RepA.length : ∀ {vs : List V} {ds : List Dt}, RepA K mg H vs ds → vs.length = ds.length
  | _, _, .nil => rfl
  | _, _, .cons _ r => by rw [List.length_cons, List.length_cons, RepA.length r]
theorem RepA.get : ∀ {vs : List V} {ds : List Dt} {i : Nat} {d : Dt}, RepA K mg H vs ds → ds[i]? = some d → ∃ v, vs[i]? = some v ∧ Rep K mg H v d
  | _, _, _, _, .nil, e => by simp at e
  | _, _, 0, _, .cons r _, e => by simp at e; subst e; exact ⟨_, rfl, r⟩
  | _, _, i + 1, _, .cons _ t, e => by
    obtain ⟨v, h1, h2⟩ := RepA.get (i := i) t (by simpa using e)
    exact ⟨v, by simpa using h1, h2⟩
theorem RepA.get' : ∀ {vs : List V} {ds : List Dt} {i : Nat} {v : V}, RepA K mg H vs ds → vs[i]? = some v → ∃ d, ds[i]? = some d ∧ Rep K mg H v d
  | _, _, _, _, .nil, e => by simp at e
  | _, _, 0, _, .cons r _, e => by simp at e; subst e; exact ⟨_, rfl, r⟩
  | _, _, i + 1, _, .cons _ t, e => by
    obtain ⟨v, h1, h2⟩ := RepA.get' (i := i) t (by simpa using e)
    exact ⟨v, by simpa using h1, h2⟩
theorem RepA.append : ∀ {vs ws : List V} {ds es : List Dt}, RepA K mg H vs ds → RepA K mg H ws es → RepA K mg H (vs ++ ws) (ds ++ es)
  | _, _, _, _, .nil, s => s
  | _, _, _, _, .cons r t, s => .cons r (RepA.append t s)
theorem RepA.set {v : V} {d : Dt} (r : Rep K mg H v d) : ∀ {vs : List V} {ds : List Dt} (i : Nat), RepA K mg H vs ds → RepA K mg H (vs.set i v) (ds.set i d)
  | _, _, _, .nil => .nil
  | _, _, 0, .cons _ t => .cons r t
  | _, _, i + 1, .cons q t => .cons q (RepA.set r i t)
theorem RepA.take : ∀ {vs : List V} {ds : List Dt} (n : Nat), RepA K mg H vs ds → RepA K mg H (vs.take n) (ds.take n)
  | _, _, 0, _ => .nil
  | _, _, _ + 1, .nil => .nil
  | _, _, n + 1, .cons r t => .cons r (RepA.take n t)
theorem RepA.drop : ∀ {vs : List V} {ds : List Dt} (n : Nat), RepA K mg H vs ds → RepA K mg H (vs.drop n) (ds.drop n)
  | _, _, 0, r => r
  | _, _, _ + 1, .nil => .nil
  | _, _, n + 1, .cons _ t => RepA.drop n t
end

/-! ### a heap without some addresses -/
noncomputable def cut (L : Addr → Prop) (H : Hp) : Hp := fun a => open Classical in if L a then none else H a
theorem cut_in {L : Addr → Prop} {H : Hp} {a : Addr} (h : L a) : cut L H a = none := by unfold cut; rw [if_pos h]
theorem cut_out {L : Addr → Prop} {H : Hp} {a : Addr} (h : ¬ L a) : cut L H a = H a := by unfold cut; rw [if_neg h]
theorem cut_some {L : Addr → Prop} {H : Hp} {a : Addr} {o : HO} (h : cut L H a = some o) : ¬ L a ∧ H a = some o := by
  by_cases e : L a
  · rw [cut_in e] at h; cases h
  · rw [cut_out e] at h; exact ⟨e, h⟩
theorem cut_le (L : Addr → Prop) (H : Hp) : Le (cut L H) H := fun _ _ h => (cut_some h).2
theorem cut_sub {L L' : Addr → Prop} (H : Hp) (h : ∀ a, L' a → L a) : Le (cut L H) (cut L' H) := fun a o e => by
  obtain ⟨e1, e2⟩ := cut_some e
  rw [cut_out fun z => e1 (h a z)]
  exact e2
/-- what is kept outside -/
theorem cut_keep {L L' : Addr → Prop} {H H' : Hp} (h : ∀ a, L' a → H a ≠ none → L a) (k : ∀ a o, H a = some o → ¬ L a → H' a = some o) : Le (cut L H) (cut L' H') := fun a o e => by
  obtain ⟨e1, e2⟩ := cut_some e
  rw [cut_out fun z => e1 (h a z (by rw [e2]; exact fun q => nomatch q))]
  exact k a o e2 e1

/-! ### slots -/
/-- frozen (never written any more), owned (a list of ours that nobody else knows), lent by the caller (to be written, not to be kept) -/
inductive Md | fz | ow | io
abbrev Env := List (Option (Dt × Md))
abbrev Ow := Nat → Option Addr
def gs (env : Env) (i : Nat) : Option (Dt × Md) := (env[i]?).getD none
def gv (σ : St) (i : Nat) : Option V := (σ[i]?).getD none
def inO (ow : Ow) (a : Addr) : Prop := ∃ i, ow i = some a
def lim (ex : Addr → Prop) (ow : Ow) (a : Addr) : Prop := ex a ∨ inO ow a

section
variable (K : PySem.W.Frag) (mg : Str → Option Value)
/-- an object of ours -/
def OwnR (G : Hp) (o : HO) (d : Dt) : Prop := ∃ xs ds, o = .lst xs ∧ d = .lst ds ∧ RepA K mg G xs ds
/-- what may be read just now: frozen, or ours -/
def Rdb (G H : Hp) (v : V) (d : Dt) : Prop := Rep K mg G v d ∨ ∃ a o, v = .ref a ∧ H a = some o ∧ OwnR K mg G o d
def SlotOk (G H : Hp) : Option (Dt × Md) → Option Addr → Option V → Prop
  | none, o, _ => o = none
  | some (d, .fz), o, v => o = none ∧ ∃ x, v = some x ∧ Rep K mg G x d
  | some (d, _), o, v => ∃ a ob, o = some a ∧ v = some (.ref a) ∧ H a = some ob ∧ OwnR K mg G ob d
structure SR (ex : Addr → Prop) (env : Env) (ow : Ow) (σ : St) (H : Hp) : Prop where
  len : env.length = σ.length
  slot : ∀ i, SlotOk K mg (cut (lim ex ow) H) H (gs env i) (ow i) (gv σ i)
  inj : ∀ i j a, ow i = some a → ow j = some a → i = j
  dis : ∀ i a, ow i = some a → ¬ ex a
  tr : ∀ a, ex a → H a ≠ none
end
/-- what an expression leaves as it was -/
structure Post (env : Env) (ow : Ow) (H : Hp) (env' : Env) (ow' : Ow) (H' : Hp) : Prop where
  keep : ∀ a o, H a = some o → ¬ inO ow a → H' a = some o
  sub : ∀ i a, ow' i = some a → ow i = some a
  pin : ∀ i d, gs env i = some (d, .io) → ∃ d', gs env' i = some (d', .io)
  there : ∀ a, H a ≠ none → H' a ≠ none

/-- what an expression comes to: frozen data, a new object that nobody else knows, the object of a slot -/
inductive R | val (d : Dt) | new (d : Dt) | loc (i : Nat)
/-- an exception: its class, its attributes -/
abbrev Xn := Str × List (Str × Dt)
inductive Rs (α : Type) | ok (a : α) (env : Env) | er (x : Xn) (env : Env)
abbrev M (α : Type) := Env → Option (Rs α)
def M.pure {α : Type} (a : α) : M α := fun env => some (.ok a env)
def M.bind {α β : Type} (m : M α) (f : α → M β) : M β := fun env => match m env with
  | some (.ok a env') => f a env'
  | some (.er x env') => some (.er x env')
  | none => none

section
variable (K : PySem.W.Frag) (mg : Str → Option Value)
def ROk (ex : Addr → Prop) (env' : Env) (ow' : Ow) (σ : St) (H H' : Hp) : R → V → Prop
  | .val d, v => SR K mg ex env' ow' σ H' ∧ Rep K mg (cut (lim ex ow') H') v d
  | .new d, v => ∃ p ob, v = .ref p ∧ H p = none ∧ H' p = some ob ∧ OwnR K mg (cut (lim (fun a => ex a ∨ a = p) ow') H') ob d ∧ SR K mg (fun a => ex a ∨ a = p) env' ow' σ H'
  | .loc i, v => SR K mg ex env' ow' σ H' ∧ gv σ i = some v ∧ gs env' i ≠ none
/-- an exception as it lies -/
def XOk (G H : Hp) (x : Xn) (cls : Value) (d : Option Addr) : Prop := mg x.1 = some cls ∧ ∃ da vf, d = some da ∧ H da = some (.xd vf) ∧ RepF K mg G vf x.2
/-- what a computation on slots comes to -/
def WP {α : Type} (m : M α) (env : Env) (k : α → Env → Prop) (x : Xn → Env → Prop) : Prop := match m env with
  | some (.ok a e) => k a e
  | some (.er z e) => x z e
  | none => False
def kV (ex : Addr → Prop) (env : Env) (ow : Ow) (σ : St) (H : Hp) (Q : VK) : R → Env → Prop := fun r env' => ∀ v H' ow', Post env ow H env' ow' H' → ROk K mg ex env' ow' σ H H' r v → Q v H'
def kX (ex : Addr → Prop) (env : Env) (ow : Ow) (σ : St) (H : Hp) (E : XK) : Xn → Env → Prop := fun x env' => ∀ cls d H' ow', Post env ow H env' ow' H' → SR K mg ex env' ow' σ H' → XOk K mg (cut (lim ex ow') H') H' x cls d → E cls d H'
def kB (ex : Addr → Prop) (env : Env) (ow : Ow) (σ : St) (H : Hp) (Q : Bool → Hp → Prop) : Bool → Env → Prop := fun r env' => ∀ H' ow', Post env ow H env' ow' H' → SR K mg ex env' ow' σ H' → Q r H'
/-- expressions -/
def tM (E : XK) (m : M R) : TE := fun σ H Q => ∃ ex env ow, SR K mg ex env ow σ H ∧ WP m env (kV K mg ex env ow σ H Q) (kX K mg ex env ow σ H E)
/-- tests -/
def tMb (E : XK) (m : M Bool) : TT := fun σ H Q => ∃ ex env ow, SR K mg ex env ow σ H ∧ WP m env (kB K mg ex env ow σ H Q) (kX K mg ex env ow σ H E)
end
theorem WP.mono {α : Type} {m : M α} {env : Env} {k k' : α → Env → Prop} {x x' : Xn → Env → Prop} (h : WP m env k x) (h1 : ∀ a e, k a e → k' a e) (h2 : ∀ z e, x z e → x' z e) : WP m env k' x' := by
  unfold WP at *
  cases e : m env with
  | none => rw [e] at h; exact h
  | some r =>
    rw [e] at h
    cases r with
    | ok a e' => exact h1 a e' h
    | er z e' => exact h2 z e' h
theorem WP.bind {α β : Type} {m : M α} {f : α → M β} {env : Env} {k : β → Env → Prop} {x : Xn → Env → Prop} : WP (m.bind f) env k x ↔ WP m env (fun a e => WP (f a) e k x) x := by
  unfold WP M.bind
  cases e : m env with
  | none => exact Iff.rfl
  | some r =>
    cases r with
    | ok a e' => exact Iff.rfl
    | er z e' => exact Iff.rfl
theorem WP.pure {α : Type} {a : α} {env : Env} {k : α → Env → Prop} {x : Xn → Env → Prop} : WP (M.pure a) env k x ↔ k a env := Iff.rfl
end DL

/-! DLb: the glue: states go on, results are held, operations on data. -/
namespace DL
open PySem L2

theorem PE.weak {X : Cx} {e : Expr} {t t' : TE} (h : PE X e t) (w : ∀ σ H Q, t' σ H Q → t σ H Q) : PE X e t' := ⟨fun pins s σ H Q I q => h.run pins s σ H Q I (w σ H Q q)⟩
theorem PT.weak {X : Cx} {e : Expr} {t t' : TT} (h : PT X e t) (w : ∀ σ H Q, t' σ H Q → t σ H Q) : PT X e t' := ⟨fun pins s σ H Q I q => h.run pins s σ H Q I (w σ H Q q)⟩
theorem PA.weak {X : Cx} {es : List Expr} {t t' : TA} (h : PA X es t) (w : ∀ σ H Q, t' σ H Q → t σ H Q) : PA X es t' := ⟨fun pos pins s σ H Q I q => h.run pos pins s σ H Q I (w σ H Q q)⟩
theorem PS.weak {X : Cx} {st : Stmt} {t t' : TS} (h : PS X st t) (w : ∀ D σ H, t' D σ H → t D σ H) : PS X st t' := ⟨fun pins s σ H D I q => h.run pins s σ H D I (w D σ H q)⟩
theorem PSs.weak {X : Cx} {st : List Stmt} {t t' : TS} (h : PSs X st t) (w : ∀ D σ H, t' D σ H → t D σ H) : PSs X st t' := ⟨fun pins s σ H D I q => h.run pins s σ H D I (w D σ H q)⟩

section
variable {K : PySem.W.Frag} {mg : Str → Option Value} {ex ex' : Addr → Prop} {env env' env'' : Env} {ow ow' ow'' : Ow} {σ : St} {H H' H'' : Hp}

theorem OwnR.mono (e : Le H H') {o : HO} {d : Dt} : OwnR K mg H o d → OwnR K mg H' o d := fun ⟨xs, ds, e1, e2, r⟩ => ⟨xs, ds, e1, e2, r.mono e⟩
theorem SlotOk.mono {G G' : Hp} (e : Le G G') (k : ∀ a o, H a = some o → H' a = some o) : ∀ {s : Option (Dt × Md)} {o : Option Addr} {v : Option V}, SlotOk K mg G H s o v → SlotOk K mg G' H' s o v
  | none, _, _, h => h
  | some (d, .fz), _, _, ⟨h1, x, h2, r⟩ => ⟨h1, x, h2, r.mono e⟩
  | some (d, .ow), _, _, ⟨a, ob, h1, h2, h3, r⟩ => ⟨a, ob, h1, h2, k _ _ h3, r.mono e⟩
  | some (d, .io), _, _, ⟨a, ob, h1, h2, h3, r⟩ => ⟨a, ob, h1, h2, k _ _ h3, r.mono e⟩
theorem SlotOk.own {G : Hp} : ∀ {s : Option (Dt × Md)} {a : Addr} {v : Option V}, SlotOk K mg G H s (some a) v → ∃ d m ob, s = some (d, m) ∧ v = some (.ref a) ∧ H a = some ob ∧ OwnR K mg G ob d ∧ (m = .ow ∨ m = .io)
  | none, _, _, h => nomatch h
  | some (d, .fz), _, _, ⟨h1, _⟩ => nomatch h1
  | some (d, .ow), _, _, ⟨a, ob, h1, h2, h3, r⟩ => by cases h1; exact ⟨d, .ow, ob, rfl, h2, h3, r, .inl rfl⟩
  | some (d, .io), _, _, ⟨a, ob, h1, h2, h3, r⟩ => by cases h1; exact ⟨d, .io, ob, rfl, h2, h3, r, .inr rfl⟩
/-- an owned address is there -/
theorem SR.there (S : SR K mg ex env ow σ H) {a : Addr} (h : lim ex ow a) : H a ≠ none := by
  rcases h with h | ⟨i, h⟩
  · exact S.tr a h
  · have q := S.slot i
    rw [h] at q
    obtain ⟨d, m, ob, _, _, e, _⟩ := q.own
    rw [e]; exact fun z => nomatch z
theorem SR.nlim (S : SR K mg ex env ow σ H) {p : Addr} (h : H p = none) : ¬ lim ex ow p := fun z => S.there z h
/-- a heap that tells more -/
theorem SR.le (S : SR K mg ex env ow σ H) (e : Le H H') : SR K mg ex env ow σ H' :=
  ⟨S.len, fun i => (S.slot i).mono (cut_keep (fun _ h _ => h) fun a o h _ => e a o h) e, S.inj, S.dis, fun a h => e.there a (S.tr a h)⟩
/-- fewer that are beside -/
theorem SR.less (S : SR K mg ex env ow σ H) (h : ∀ a, ex' a → ex a) : SR K mg ex' env ow σ H :=
  ⟨S.len, fun i => (S.slot i).mono (cut_sub H fun a z => z.elim (fun q => .inl (h a q)) .inr) (fun _ _ q => q), S.inj, fun i a e q => S.dis i a e (h a q), fun a q => S.tr a (h a q)⟩
theorem Post.refl : Post env ow H env ow H := ⟨fun _ _ h _ => h, fun _ _ h => h, fun _ d h => ⟨d, h⟩, fun _ h => h⟩
theorem Post.le (e : Le H H') : Post env ow H env ow H' := ⟨fun a o h _ => e a o h, fun _ _ h => h, fun _ d h => ⟨d, h⟩, e.there⟩
theorem Post.trans (a : Post env ow H env' ow' H') (b : Post env' ow' H' env'' ow'' H'') : Post env ow H env'' ow'' H'' :=
  ⟨fun c o h n => b.keep c o (a.keep c o h n) fun ⟨i, z⟩ => n ⟨i, a.sub i c z⟩, fun i c h => a.sub i c (b.sub i c h), fun i d h => let ⟨d', h'⟩ := a.pin i d h; b.pin i d' h', fun c h => b.there c (a.there c h)⟩
theorem Post.cut (S : SR K mg ex env ow σ H) (P : Post env ow H env' ow' H') : Le (cut (lim ex ow) H) (cut (lim ex ow') H') :=
  cut_keep (fun a h _ => h.elim .inl fun ⟨i, z⟩ => .inr ⟨i, P.sub i a z⟩) fun a o h n => P.keep a o h fun z => n (.inr z)
/-! ### a result that is held while the rest is asked -/
def Held (K : PySem.W.Frag) (mg : Str → Option Value) (ex : Addr → Prop) (ow : Ow) (σ : St) (H : Hp) : R → V → Prop
  | .val d, v => Rep K mg (cut (lim ex ow) H) v d
  | .new d, v => Rep K mg (cut (lim ex ow) H) v d
  | .loc i, v => gv σ i = some v
def rs (env : Env) : R → Option Dt
  | .val d => some d
  | .new d => some d
  | .loc i => (gs env i).map (·.1)
theorem own_rep {p : Addr} {ob : HO} {d : Dt} (h : H p = some ob) (r : OwnR K mg H ob d) : Rep K mg H (.ref p) d := by
  obtain ⟨xs, ds, e1, e2, r⟩ := r
  subst e1; subst e2
  exact .lst h r
theorem ROk.sr {r : R} {v : V} {H0 : Hp} (h : ROk K mg ex env ow σ H0 H r v) : SR K mg ex env ow σ H := by
  cases r with
  | val d => exact h.1
  | new d =>
    obtain ⟨p, ob, _, _, _, _, S⟩ := h
    exact S.less fun a z => .inl z
  | loc i => exact h.1
theorem ROk.held {r : R} {v : V} {H0 : Hp} (tr : ∀ a, ex a → H0 a ≠ none) (h : ROk K mg ex env ow σ H0 H r v) : Held K mg ex ow σ H r v := by
  cases r with
  | val d => exact h.2
  | new d =>
    obtain ⟨p, ob, e, hp, hp', r, S⟩ := h
    subst e
    have np : ¬ lim ex ow p := fun z => z.elim (fun q => tr p q hp) fun ⟨i, q⟩ => S.dis i p q (.inr rfl)
    exact own_rep (by rw [cut_out np]; exact hp') (r.mono (cut_sub H fun a z => z.elim (fun q => .inl (.inl q)) .inr))
  | loc i => exact h.2.1
theorem Held.post (S : SR K mg ex env ow σ H) (P : Post env ow H env' ow' H') {r : R} {v : V} (h : Held K mg ex ow σ H r v) : Held K mg ex ow' σ H' r v := by
  cases r with
  | val d => exact Rep.mono (P.cut S) h
  | new d => exact Rep.mono (P.cut S) h
  | loc i => exact h
theorem Held.rdb (S : SR K mg ex env ow σ H) {r : R} {v : V} {d : Dt} (h : Held K mg ex ow σ H r v) (e : rs env r = some d) : Rdb K mg (cut (lim ex ow) H) H v d := by
  cases r with
  | val d' => cases e; exact .inl h
  | new d' => cases e; exact .inl h
  | loc i =>
    have q := S.slot i
    have hv : gv σ i = some v := h
    have e' : (gs env i).map (·.1) = some d := e
    rw [hv] at q
    cases z : gs env i with
    | none => rw [z] at e'; cases e'
    | some y =>
      obtain ⟨d', m⟩ := y
      rw [z] at e' q
      cases e'
      cases m with
      | fz => obtain ⟨_, x, e1, r⟩ := q; cases e1; exact .inl r
      | ow => obtain ⟨a, ob, _, e1, e2, r⟩ := q; cases e1; exact .inr ⟨a, ob, rfl, e2, r⟩
      | io => obtain ⟨a, ob, _, e1, e2, r⟩ := q; cases e1; exact .inr ⟨a, ob, rfl, e2, r⟩
/-- what may be read: a list, its items frozen -/
theorem Rdb.lst {L : Addr → Prop} {v : V} {ds : List Dt} (h : Rdb K mg (cut L H) H v (.lst ds)) : ∃ a xs, v = .ref a ∧ H a = some (.lst xs) ∧ RepA K mg (cut L H) xs ds := by
  rcases h with h | ⟨a, ob, e, ha, xs, ds', e1, e2, r⟩
  · cases h with
    | lst h r => exact ⟨_, _, rfl, cut_le L H _ _ h, r⟩
  · cases e2; subst e1
    exact ⟨a, xs, e, ha, r⟩
theorem Rdb.scr {L : Addr → Prop} {v : V} {ds : List Dt} (h : Rdb K mg (cut L H) H v (.scr ds)) : ∃ a xs, v = .ref a ∧ SqL K H a xs ∧ RepA K mg (cut L H) xs ds := by
  rcases h with h | ⟨a, ob, e, ha, xs, ds', e1, e2, r⟩
  · cases h with
    | scr h r => exact ⟨_, _, rfl, (cut_le L H).l h, r⟩
  · cases e2
theorem Rdb.tup {L : Addr → Prop} {v : V} {ds : List Dt} (h : Rdb K mg (cut L H) H v (.tup ds)) : ∃ a xs, v = .ref a ∧ SqT K H a xs ∧ RepA K mg (cut L H) xs ds := by
  rcases h with h | ⟨a, ob, e, ha, xs, ds', e1, e2, r⟩
  · cases h with
    | tup h r => exact ⟨_, _, rfl, (cut_le L H).t h, r⟩
  · cases e2
theorem Rdb.int {G : Hp} {v : V} {i : Int} (h : Rdb K mg G H v (.int i)) : v = .int i := by
  rcases h with h | ⟨a, ob, e, ha, xs, ds', e1, e2, r⟩
  · cases h; rfl
  · cases e2
theorem Rdb.bl {G : Hp} {v : V} {b : Bool} (h : Rdb K mg G H v (.bl b)) : v = .bl b := by
  rcases h with h | ⟨a, ob, e, ha, xs, ds', e1, e2, r⟩
  · cases h; rfl
  · cases e2
theorem Rdb.str {G : Hp} {v : V} {b : Str} (h : Rdb K mg G H v (.str b)) : v = .str b := by
  rcases h with h | ⟨a, ob, e, ha, xs, ds', e1, e2, r⟩
  · cases h; rfl
  · cases e2
theorem Rdb.non {G : Hp} {v : V} (h : Rdb K mg G H v .non) : v = .non := by
  rcases h with h | ⟨a, ob, e, ha, xs, ds', e1, e2, r⟩
  · cases h; rfl
  · cases e2
/-- readable as a whole (over the heap as it is) -/
theorem Rdb.rep {L : Addr → Prop} {v : V} {d : Dt} (h : Rdb K mg (cut L H) H v d) : Rep K mg H v d := by
  rcases h with h | ⟨a, ob, e, ha, r⟩
  · exact h.mono (cut_le L H)
  · subst e
    exact own_rep ha (r.mono (cut_le L H))

/-! ### operations on data -/
def RvOk (K : PySem.W.Frag) (mg : Str → Option Value) (L : Addr → Prop) (H H' : Hp) : R → V → Prop
  | .val d, v => Rep K mg (cut L H') v d
  | .new d, v => ∃ p ob, v = .ref p ∧ H p = none ∧ H' p = some ob ∧ OwnR K mg (cut (fun a => L a ∨ a = p) H') ob d
  | .loc _, _ => False
def OpS (K : PySem.W.Frag) (mg : Str → Option Value) (r : R2) (g : Dt → Dt → Option R) : Prop :=
  ∀ (L : Addr → Prop) (H : Hp) (x y : V) (dx dy : Dt) (rv : R) (Q : VK), (∀ a, L a → H a ≠ none) → Rdb K mg (cut L H) H x dx → Rdb K mg (cut L H) H y dy → g dx dy = some rv →
    (∀ v H', Le H H' → RvOk K mg L H H' rv v → Q v H') → r x y H Q
def UnS (K : PySem.W.Frag) (mg : Str → Option Value) (r : V → Hp → VK → Prop) (g : Dt → Option R) : Prop :=
  ∀ (L : Addr → Prop) (H : Hp) (x : V) (dx : Dt) (rv : R) (Q : VK), (∀ a, L a → H a ≠ none) → Rdb K mg (cut L H) H x dx → g dx = some rv → (∀ v H', Le H H' → RvOk K mg L H H' rv v → Q v H') → r x H Q
def RdA (K : PySem.W.Frag) (mg : Str → Option Value) (G H : Hp) : List V → List Dt → Prop := Paired (Rdb K mg G H)
def CallS (K : PySem.W.Frag) (mg : Str → Option Value) (r : List V → Hp → VK → Prop) (g : List Dt → Option R) : Prop :=
  ∀ (L : Addr → Prop) (H : Hp) (xs : List V) (ds : List Dt) (rv : R) (Q : VK), (∀ a, L a → H a ≠ none) → RdA K mg (cut L H) H xs ds → g ds = some rv → (∀ v H', Le H H' → RvOk K mg L H H' rv v → Q v H') → r xs H Q
/-- behind an operation -/
theorem op_back {H0 : Hp} {env0 : Env} {ow0 : Ow} (S0 : SR K mg ex env0 ow0 σ H0) (P : Post env0 ow0 H0 env ow H) (S : SR K mg ex env ow σ H) {rv : R} {v : V} (e : Le H H') (h : RvOk K mg (lim ex ow) H H' rv v) :
    Post env0 ow0 H0 env ow H' ∧ ROk K mg ex env ow σ H0 H' rv v := by
  refine ⟨P.trans (.le e), ?_⟩
  cases rv with
  | val d => exact ⟨S.le e, h⟩
  | new d =>
    obtain ⟨p, ob, e1, e2, e3, r⟩ := h
    have np := S.nlim e2
    refine ⟨p, ob, e1, ?_, e3, r.mono (cut_sub H' fun a z => ?_), ?_⟩
    · cases z : H0 p with
      | none => rfl
      | some o => exact absurd e2 (P.there p (by rw [z]; exact fun q => nomatch q))
    · rcases z with (z | z) | z
      · exact .inl (.inl z)
      · exact .inr z
      · exact .inl (.inr z)
    · refine ⟨S.len, fun i => (S.slot i).mono (cut_keep (fun a h n => ?_) fun a o h _ => e a o h) e, S.inj, fun i a q z => ?_, fun a z => ?_⟩
      · rcases h with (h | h) | h
        · exact .inl h
        · subst h; exact absurd e2 n
        · exact .inr h
      · rcases z with z | z
        · exact S.dis i a q z
        · subst z; exact np (.inr ⟨i, q⟩)
      · rcases z with z | z
        · exact (S.le e).tr a z
        · subst z; rw [e3]; exact fun q => nomatch q
  | loc i => exact h.elim
end
end DL

/-! DLc: the rules for expressions. -/
namespace DL
open PySem L2

/-- the data of results, as they are now -/
def use1 (g : Dt → Option R) (r : R) : M R := fun env => match rs env r with
  | some d => match g d with
    | some rv => some (.ok rv env)
    | none => none
  | none => none
def use2 (g : Dt → Dt → Option R) (r1 r2 : R) : M R := fun env => match rs env r1, rs env r2 with
  | some d1, some d2 => match g d1 d2 with
    | some rv => some (.ok rv env)
    | none => none
  | _, _ => none
def rsA (env : Env) : List R → Option (List Dt)
  | [] => some []
  | r :: l => match rs env r, rsA env l with
    | some d, some ds => some (d :: ds)
    | _, _ => none
def useA (g : List Dt → Option R) (l : List R) : M R := fun env => match rsA env l with
  | some ds => match g ds with
    | some rv => some (.ok rv env)
    | none => none
  | none => none
theorem WP.use1 {g : Dt → Option R} {r : R} {env : Env} {k : R → Env → Prop} {x : Xn → Env → Prop} (h : WP (use1 g r) env k x) : ∃ d rv, rs env r = some d ∧ g d = some rv ∧ k rv env := by
  unfold WP DL.use1 at h
  cases e : rs env r with
  | none => rw [e] at h; exact h.elim
  | some d =>
    rw [e] at h
    cases e2 : g d with
    | none => simp only [e2] at h
    | some rv => simp only [e2] at h; exact ⟨d, rv, rfl, e2, h⟩
theorem WP.use2 {g : Dt → Dt → Option R} {r1 r2 : R} {env : Env} {k : R → Env → Prop} {x : Xn → Env → Prop} (h : WP (use2 g r1 r2) env k x) : ∃ d1 d2 rv, rs env r1 = some d1 ∧ rs env r2 = some d2 ∧ g d1 d2 = some rv ∧ k rv env := by
  unfold WP DL.use2 at h
  cases e : rs env r1 with
  | none => rw [e] at h; exact h.elim
  | some d1 =>
    cases f : rs env r2 with
    | none => rw [e, f] at h; exact h.elim
    | some d2 =>
      rw [e, f] at h
      cases e2 : g d1 d2 with
      | none => simp only [e2] at h
      | some rv => simp only [e2] at h; exact ⟨d1, d2, rv, rfl, rfl, e2, h⟩
theorem WP.useA {g : List Dt → Option R} {l : List R} {env : Env} {k : R → Env → Prop} {x : Xn → Env → Prop} (h : WP (useA g l) env k x) : ∃ ds rv, rsA env l = some ds ∧ g ds = some rv ∧ k rv env := by
  unfold WP DL.useA at h
  cases e : rsA env l with
  | none => rw [e] at h; exact h.elim
  | some d =>
    rw [e] at h
    cases e2 : g d with
    | none => simp only [e2] at h
    | some rv => simp only [e2] at h; exact ⟨d, rv, rfl, e2, h⟩

def mC (d : Dt) : M R := M.pure (.val d)
def mN (i : Nat) : M R := fun env => match gs env i with
  | some (d, .fz) => some (.ok (.val d) env)
  | some _ => some (.ok (.loc i) env)
  | none => none
def mOp (g : Dt → Dt → Option R) (ma mb : M R) : M R := ma.bind fun ra => mb.bind fun rb => use2 g ra rb
def mUn (g : Dt → Option R) (ma : M R) : M R := ma.bind fun ra => use1 g ra
def mA (l : List (M R)) : M (List R) := match l with
  | [] => M.pure []
  | m :: r => m.bind fun a => (mA r).bind fun b => M.pure (a :: b)
def mCall (g : List Dt → Option R) (l : List (M R)) : M R := (mA l).bind fun rs => useA g rs
def mIf (t : M Bool) (a b : M R) : M R := t.bind fun c => if c then a else b
def mAnd (a b : M Bool) : M Bool := a.bind fun c => if c then b else M.pure false
def mOr (a b : M Bool) : M Bool := a.bind fun c => if c then M.pure true else b
def mNot (a : M Bool) : M Bool := a.bind fun c => M.pure (!c)
/-- a value as a test, a test as a value -/
def useT (r : R) : M Bool := fun env => match rs env r with
  | some (.bl b) => some (.ok b env)
  | _ => none
def mT (m : M R) : M Bool := m.bind useT
def mV (m : M Bool) : M R := m.bind fun b => M.pure (.val (.bl b))
/-- truth of data -/
def tru : Dt → Option Bool
  | .non => some false
  | .bl b => some b
  | .int i => some (i != 0)
  | .str s => if s.length ≤ 100000 then some (s.length != 0) else none
  | .tup xs => some (!xs.isEmpty)
  | .lst xs => some (!xs.isEmpty)
  | .scr xs => some (!xs.isEmpty)
  | _ => none
def useTru (r : R) : M Bool := fun env => match rs env r with
  | some d => match tru d with
    | some b => some (.ok b env)
    | none => none
  | none => none
def mTru (m : M R) : M Bool := m.bind useTru
theorem WP.useT {r : R} {env : Env} {k : Bool → Env → Prop} {x : Xn → Env → Prop} (h : WP (useT r) env k x) : ∃ b, rs env r = some (.bl b) ∧ k b env := by
  unfold WP DL.useT at h
  cases e : rs env r with
  | none => simp only [e] at h
  | some d =>
    cases d with
    | bl b => simp only [e] at h; exact ⟨b, rfl, h⟩
    | _ => simp only [e] at h
theorem WP.useTru {r : R} {env : Env} {k : Bool → Env → Prop} {x : Xn → Env → Prop} (h : WP (useTru r) env k x) : ∃ d b, rs env r = some d ∧ tru d = some b ∧ k b env := by
  unfold WP DL.useTru at h
  cases e : rs env r with
  | none => simp only [e] at h
  | some d =>
    cases e2 : tru d with
    | none => simp only [e, e2] at h
    | some b => simp only [e, e2] at h; exact ⟨d, b, rfl, e2, h⟩

section
variable {K : PySem.W.Frag} {mg : Str → Option Value} {ex ex' : Addr → Prop} {env env' env'' : Env} {ow ow' ow'' : Ow} {σ : St} {H H' H'' : Hp} {E : XK}
theorem kX.go (P : Post env ow H env' ow' H') {x : Xn} {e : Env} (h : kX K mg ex env ow σ H E x e) : kX K mg ex env' ow' σ H' E x e := fun cls d H1 ow1 P1 S1 X1 => h cls d H1 ow1 (P.trans P1) S1 X1
/-- a value that is handed on -/
theorem kV.val {Q : VK} {d : Dt} {v : V} (S : SR K mg ex env ow σ H) (h : kV K mg ex env ow σ H Q (.val d) env) (r : Rep K mg (cut (lim ex ow) H) v d) : Q v H := h v H ow .refl ⟨S, r⟩
/-- behind an operation on held results -/
theorem kV.op {H0 : Hp} {env0 : Env} {ow0 : Ow} {Q : VK} {rv : R} {v : V} (S0 : SR K mg ex env0 ow0 σ H0) (P : Post env0 ow0 H0 env ow H) (S : SR K mg ex env ow σ H) (h : kV K mg ex env0 ow0 σ H0 Q rv env) (e : Le H H') (q : RvOk K mg (lim ex ow) H H' rv v) : Q v H' := by
  obtain ⟨p1, p2⟩ := op_back S0 P S e q
  exact h v H' ow p1 p2
theorem rsA_rdb (S : SR K mg ex env ow σ H) : ∀ {l : List R} {vs : List V} {ds : List Dt}, Paired (Held K mg ex ow σ H) l vs → rsA env l = some ds → RdA K mg (cut (lim ex ow) H) H vs ds
  | _, _, _, .nil, e => by cases e; exact .nil
  | r :: l, v :: vs, ds, .cons h t, e => by
    unfold rsA at e
    cases e1 : rs env r with
    | none => rw [e1] at e; cases e
    | some d =>
      cases e2 : rsA env l with
      | none => rw [e1, e2] at e; cases e
      | some ds' =>
        rw [e1, e2] at e
        cases e
        exact .cons (h.rdb S e1) (rsA_rdb S t e2)
/-- lists of arguments -/
def kA (K : PySem.W.Frag) (mg : Str → Option Value) (ex : Addr → Prop) (env : Env) (ow : Ow) (σ : St) (H : Hp) (Q : List V → Hp → Prop) : List R → Env → Prop := fun l env' => ∀ vs H' ow', Post env ow H env' ow' H' → SR K mg ex env' ow' σ H' → Paired (Held K mg ex ow' σ H') l vs → Q vs H'
def tMa (K : PySem.W.Frag) (mg : Str → Option Value) (E : XK) (m : M (List R)) : TA := fun σ H Q => ∃ ex env ow, SR K mg ex env ow σ H ∧ WP m env (kA K mg ex env ow σ H Q) (kX K mg ex env ow σ H E)
theorem Held.postA (S : SR K mg ex env ow σ H) (P : Post env ow H env' ow' H') : ∀ {l : List R} {vs : List V}, Paired (Held K mg ex ow σ H) l vs → Paired (Held K mg ex ow' σ H') l vs
  | _, _, .nil => .nil
  | _, _, .cons h t => .cons (Held.post S P h) (Held.postA S P t)
end

section
variable {X : Cx} {E : XK} {a b c : Expr} {es : List Expr} {pos : Pos} {ma mb : M R} {mt : M Bool} {ml : List (M R)}
abbrev DE (X : Cx) (E : XK) (e : Expr) (m : M R) : Prop := PE X e (tM X.K X.mg E m)
abbrev DT (X : Cx) (E : XK) (e : Expr) (m : M Bool) : Prop := PT X e (tMb X.K X.mg E m)
abbrev DA (X : Cx) (E : XK) (es : List Expr) (l : List (M R)) : Prop := PA X es (tMa X.K X.mg E (mA l))

theorem dc {d : Dt} {v : V} {e : Expr} (h : PE X e (tC v)) (r : ∀ H, Rep X.K X.mg H v d) : DE X E e (mC d) := PE.weak h fun σ H Q ⟨ex, env, ow, S, w⟩ => kV.val S (WP.pure.mp w) (r _)
theorem dc_int {i : Int} {j : Nat} : DE X E (.Constant (.int i) j pos) (mC (.int i)) := dc pe_int fun _ => .int i
theorem dc_bl {i : Bool} {j : Nat} : DE X E (.Constant (.bool i) j pos) (mC (.bl i)) := dc pe_bl fun _ => .bl i
theorem dc_non {j : Nat} : DE X E (.Constant .none j pos) (mC .non) := dc pe_non fun _ => .non
theorem dc_str {i : Str} {j : Nat} : DE X E (.Constant (.str i) j pos) (mC (.str i)) := dc pe_str fun _ => .str i
theorem gv_some {σ : St} {i : Nat} {v : V} (h : gv σ i = some v) : σ[i]? = some (some v) := by
  unfold gv at h
  cases e : σ[i]? with
  | none => rw [e] at h; cases h
  | some y => rw [e] at h; cases h; rfl
theorem dn {i : Nat} {e : Expr} (h : PE X e (tVar i)) : DE X E e (mN i) := PE.weak h fun σ H Q ⟨ex, env, ow, S, w⟩ => by
  have q := S.slot i
  unfold WP mN at w
  cases z : gs env i with
  | none => rw [z] at w; exact w.elim
  | some y =>
    obtain ⟨d, m⟩ := y
    rw [z] at w q
    cases m with
    | fz =>
      obtain ⟨_, x, e1, r⟩ := q
      exact ⟨x, gv_some e1, w x H ow .refl ⟨S, r⟩⟩
    | ow =>
      obtain ⟨a, ob, _, e1, e2, r⟩ := q
      exact ⟨_, gv_some e1, w _ H ow .refl ⟨S, e1, by rw [z]; exact fun q => nomatch q⟩⟩
    | io =>
      obtain ⟨a, ob, _, e1, e2, r⟩ := q
      exact ⟨_, gv_some e1, w _ H ow .refl ⟨S, e1, by rw [z]; exact fun q => nomatch q⟩⟩

/-- two places -/
theorem t_op {K : PySem.W.Frag} {mg : Str → Option Value} {r : R2} {g : Dt → Dt → Option R} (hg : OpS K mg r g) (σ : St) (H : Hp) (Q : VK) (h : tM K mg E (mOp g ma mb) σ H Q) : tOp r (tM K mg E ma) (tM K mg E mb) σ H Q := by
  obtain ⟨ex, env, ow, S, w⟩ := h
  refine ⟨ex, env, ow, S, (WP.bind.mp w).mono (fun ra env1 w1 v1 H1 ow1 P1 R1 => ?_) fun _ _ z => z⟩
  refine ⟨ex, env1, ow1, R1.sr, (WP.bind.mp w1).mono (fun rb env2 w2 v2 H2 ow2 P2 R2 => ?_) fun _ _ z => z.go P1⟩
  obtain ⟨d1, d2, rv, e1, e2, e3, k⟩ := w2.use2
  have S2 := R2.sr
  have h1 := (R1.held S.tr).post R1.sr P2
  have h2 := R2.held R1.sr.tr
  exact hg (lim ex ow2) H2 v1 v2 d1 d2 rv Q (fun a z => S2.there z) (h1.rdb S2 e1) (h2.rdb S2 e2) e3 fun v H' l q => kV.op S (P1.trans P2) S2 k l q
theorem t_un {K : PySem.W.Frag} {mg : Str → Option Value} {r : V → Hp → VK → Prop} {g : Dt → Option R} (hg : UnS K mg r g) (σ : St) (H : Hp) (Q : VK) (h : tM K mg E (mUn g ma) σ H Q) : tUn r (tM K mg E ma) σ H Q := by
  obtain ⟨ex, env, ow, S, w⟩ := h
  refine ⟨ex, env, ow, S, (WP.bind.mp w).mono (fun ra env1 w1 v1 H1 ow1 P1 R1 => ?_) fun _ _ z => z⟩
  obtain ⟨d1, rv, e1, e3, k⟩ := w1.use1
  exact hg (lim ex ow1) H1 v1 d1 rv Q (fun a z => R1.sr.there z) ((R1.held S.tr).rdb R1.sr e1) e3 fun v H' l q => kV.op S P1 R1.sr k l q
theorem t_cb {K : PySem.W.Frag} {mg : Str → Option Value} {r : List V → Hp → VK → Prop} {g : List Dt → Option R} (hg : CallS K mg r g) (σ : St) (H : Hp) (Q : VK) (h : tM K mg E (mCall g ml) σ H Q) : tCB r (tMa K mg E (mA ml)) σ H Q := by
  obtain ⟨ex, env, ow, S, w⟩ := h
  refine ⟨ex, env, ow, S, (WP.bind.mp w).mono (fun l env1 w1 vs H1 ow1 P1 S1 hh => ?_) fun _ _ z => z⟩
  obtain ⟨ds, rv, e1, e3, k⟩ := w1.useA
  exact hg (lim ex ow1) H1 vs ds rv Q (fun a z => S1.there z) (rsA_rdb S1 hh e1) e3 fun v H' l q => kV.op S P1 S1 k l q
theorem da_nil : DA X E [] [] := PA.weak pa_nil fun σ H Q ⟨ex, env, ow, S, w⟩ => w [] H ow .refl S .nil
theorem da_cons (ha : DE X E a ma) (hr : DA X E es ml) (hs : starEach (a :: es) X.env = (false, eval a X.env) :: starEach es X.env := by rfl) : DA X E (a :: es) (ma :: ml) := PA.weak (pa_cons ha hr hs) fun σ H Q ⟨ex, env, ow, S, w⟩ => by
  refine ⟨ex, env, ow, S, (WP.bind.mp w).mono (fun ra env1 w1 v1 H1 ow1 P1 R1 => ?_) fun _ _ z => z⟩
  refine ⟨ex, env1, ow1, R1.sr, (WP.bind.mp w1).mono (fun l env2 w2 vs H2 ow2 P2 S2 hh => ?_) fun _ _ z => z.go P1⟩
  exact w2 (v1 :: vs) H2 ow2 (P1.trans P2) S2 (.cons ((R1.held S.tr).post R1.sr P2) hh)

theorem d_op {op : Operator} {r : R2} {g : Dt → Dt → Option R} (ho : OpR X (binaryOp op) r) (hg : OpS X.K X.mg r g) (ha : DE X E a ma) (hb : DE X E b mb) : DE X E (.BinOp a op b pos) (mOp g ma mb) := PE.weak (pe_op ho ha hb) (t_op hg)
theorem d_un {op : UnaryOp} {r : V → Hp → VK → Prop} {g : Dt → Option R} (ho : UnR X (unaryOp op) r) (hg : UnS X.K X.mg r g) (ha : DE X E a ma) : DE X E (.UnaryOp op a pos) (mUn g ma) := PE.weak (pe_un ho ha) (t_un hg)
theorem d_cmp {op : CmpOp} {r : R2} {g : Dt → Dt → Option R} (ho : OpR X (compareOp op) r) (hg : OpS X.K X.mg r g) (ha : DE X E a ma) (hb : DE X E b mb) (hm : behindInMarks op b = false) : DE X E (.Compare a [op] [b] pos) (mOp g ma mb) := PE.weak (pe_cmpR ho ha hb hm) (t_op hg)
/-- a value as a test -/
theorem t_T {K : PySem.W.Frag} {mg : Str → Option Value} (σ : St) (H : Hp) (Q : Bool → Hp → Prop) (h : tMb K mg E (mT ma) σ H Q) : tTest (tM K mg E ma) σ H Q := by
  obtain ⟨ex, env, ow, S, w⟩ := h
  refine ⟨ex, env, ow, S, (WP.bind.mp w).mono (fun ra env1 w1 v1 H1 ow1 P1 R1 => ?_) fun _ _ z => z⟩
  obtain ⟨b, e, k⟩ := w1.useT
  exact ⟨b, ((R1.held S.tr).rdb R1.sr e).bl, k H1 ow1 P1 R1.sr⟩
theorem d_test {op : CmpOp} {r : R2} {g : Dt → Dt → Option R} (ho : OpR X (compareOp op) r) (hg : OpS X.K X.mg r g) (ha : DE X E a ma) (hb : DE X E b mb) (hm : behindInMarks op b = false) : DT X E (.Compare a [op] [b] pos) (mT (mOp g ma mb)) :=
  PT.weak (pt_cmpR ho ha hb hm) fun σ H Q h => by
    obtain ⟨ex, env, ow, S, w⟩ := t_T σ H Q h
    exact t_op hg σ H _ ⟨ex, env, ow, S, w⟩
theorem d_val (ha : DE X E a ma) (he : ∀ whole, isTrue a X.env whole = (do let v ← whole; standAt a.pos; holding [v] (truthy v)) := by intro _; rfl) : DT X E a (mT ma) := PT.weak (pt_val ha he) fun σ H Q h => t_T σ H Q h
theorem tru_ok' {K : PySem.W.Frag} {mg : Str → Option Value} {L : Addr → Prop} {H : Hp} {v : V} {d : Dt} {b : Bool} (r : Rdb K mg (cut L H) H v d) (h : tru d = some b) : TruV K v H b := by
  have q := r.rep
  cases d with
  | non => cases q; cases h; rfl
  | bl i => cases q; cases h; rfl
  | int i => cases q; cases h; rfl
  | str s =>
    cases q
    have h' : (if s.length ≤ 100000 then some (s.length != 0) else none) = some b := h
    by_cases hs : s.length ≤ 100000
    · rw [if_pos hs] at h'
      cases h'
      refine ⟨Nat.le_trans hs (by decide), ?_⟩
      rw [Bool.eq_iff_iff]; simp
    · rw [if_neg hs] at h'; cases h'
  | tup xs =>
    cases h
    cases q with
    | tup h1 h2 =>
      refine .inr (.inl ⟨_, h1, ?_⟩)
      cases h2 <;> rfl
  | lst xs =>
    cases h
    cases q with
    | lst h1 h2 =>
      refine .inl ⟨_, SqL.of h1, ?_⟩
      cases h2 <;> rfl
  | scr xs =>
    cases h
    cases q with
    | scr h1 h2 =>
      refine .inl ⟨_, h1, ?_⟩
      cases h2 <;> rfl
  | glob x => cases h
  | ins c fs => cases h
  | exc c fs => cases h
  | exc0 c => cases h
  | dic fs => cases h
  | ty n => cases h
theorem d_tru (ha : DE X E a ma) (he : ∀ whole, isTrue a X.env whole = (do let v ← whole; standAt a.pos; holding [v] (truthy v)) := by intro _; rfl) : DT X E a (mTru ma) := PT.weak (pt_truth ha he) fun σ H Q ⟨ex, env, ow, S, w⟩ => by
  refine ⟨ex, env, ow, S, (WP.bind.mp w).mono (fun ra env1 w1 v1 H1 ow1 P1 R1 => ?_) fun _ _ z => z⟩
  obtain ⟨d, b, e, e2, k⟩ := w1.useTru
  exact ⟨b, tru_ok' ((R1.held S.tr).rdb R1.sr e) e2, k H1 ow1 P1 R1.sr⟩

/-! ### and, or, not, if -/
variable {rest : List Expr} {ta tb : M Bool}
abbrev DW (X : Cx) (E : XK) (e : Expr) (m : M Bool) : Prop := PW X e (tMb X.K X.mg E m)
theorem PW.weak {e : Expr} {t t' : TT} (h : PW X e t) (w : ∀ σ H Q, t' σ H Q → t σ H Q) : PW X e t' := ⟨fun wh pins s σ H Q I q => h.run wh pins s σ H Q I (w σ H Q q)⟩
theorem t_and {K : PySem.W.Frag} {mg : Str → Option Value} (σ : St) (H : Hp) (Q : Bool → Hp → Prop) (h : tMb K mg E (mAnd ta tb) σ H Q) : tAnd (tMb K mg E ta) (tMb K mg E tb) σ H Q := by
  obtain ⟨ex, env, ow, S, w⟩ := h
  refine ⟨ex, env, ow, S, (WP.bind.mp w).mono (fun c env1 w1 H1 ow1 P1 S1 => ?_) fun _ _ z => z⟩
  cases c with
  | true => exact ⟨ex, env1, ow1, S1, w1.mono (fun b env2 k H2 ow2 P2 S2 => k H2 ow2 (P1.trans P2) S2) fun _ _ z => z.go P1⟩
  | false => exact w1 H1 ow1 P1 S1
theorem t_or {K : PySem.W.Frag} {mg : Str → Option Value} (σ : St) (H : Hp) (Q : Bool → Hp → Prop) (h : tMb K mg E (mOr ta tb) σ H Q) : tOr (tMb K mg E ta) (tMb K mg E tb) σ H Q := by
  obtain ⟨ex, env, ow, S, w⟩ := h
  refine ⟨ex, env, ow, S, (WP.bind.mp w).mono (fun c env1 w1 H1 ow1 P1 S1 => ?_) fun _ _ z => z⟩
  cases c with
  | false => exact ⟨ex, env1, ow1, S1, w1.mono (fun b env2 k H2 ow2 P2 S2 => k H2 ow2 (P1.trans P2) S2) fun _ _ z => z.go P1⟩
  | true => exact w1 H1 ow1 P1 S1
theorem t_not {K : PySem.W.Frag} {mg : Str → Option Value} (σ : St) (H : Hp) (Q : Bool → Hp → Prop) (h : tMb K mg E (mNot ta) σ H Q) : tNot (tMb K mg E ta) σ H Q := by
  obtain ⟨ex, env, ow, S, w⟩ := h
  exact ⟨ex, env, ow, S, (WP.bind.mp w).mono (fun c env1 w1 H1 ow1 P1 S1 => w1 H1 ow1 P1 S1) fun _ _ z => z⟩
theorem dw_and1 (ha : DT X E a ta) : DW X E (.BoolOp .And [a] pos) ta := pw_and1 ha
theorem dw_or1 (ha : DT X E a ta) : DW X E (.BoolOp .Or [a] pos) ta := pw_or1 ha
theorem dw_and (ha : DT X E a ta) (hb : DW X E (.BoolOp .And (b :: rest) pos) tb) : DW X E (.BoolOp .And (a :: b :: rest) pos) (mAnd ta tb) := PW.weak (pw_and ha hb) t_and
theorem dw_or (ha : DT X E a ta) (hb : DW X E (.BoolOp .Or (b :: rest) pos) tb) : DW X E (.BoolOp .Or (a :: b :: rest) pos) (mOr ta tb) := PW.weak (pw_or ha hb) t_or
theorem dt_w {e : Expr} (h : DW X E e ta) : DT X E e ta := PW.pt h
theorem dt_not (ha : DT X E a ta) : DT X E (.UnaryOp .Not a pos) (mNot ta) := PT.weak (pt_not ha) t_not
theorem d_ifExp {t : Expr} (ht : DT X E t mt) (ha : DE X E a ma) (hb : DE X E b mb) : DE X E (.IfExp t a b pos) (mIf mt ma mb) := PE.weak (pe_ifExp ht ha hb) fun σ H Q ⟨ex, env, ow, S, w⟩ => by
  refine ⟨ex, env, ow, S, (WP.bind.mp w).mono (fun c env1 w1 H1 ow1 P1 S1 => ?_) fun _ _ z => z⟩
  have back : ∀ {r : R} {e2 : Env}, kV X.K X.mg ex env ow σ H Q r e2 → kV X.K X.mg ex env1 ow1 σ H1 Q r e2 := fun {r e2} k v H2 ow2 P2 R2 => by
    refine k v H2 ow2 (P1.trans P2) ?_
    cases r with
    | val d => exact R2
    | new d =>
      obtain ⟨p, ob, e1, e3, e4, e5⟩ := R2
      refine ⟨p, ob, e1, ?_, e4, e5⟩
      cases z : H p with
      | none => rfl
      | some o => exact absurd e3 (P1.there p (by rw [z]; exact fun q => nomatch q))
    | loc i => exact R2
  cases c with
  | true => exact ⟨ex, env1, ow1, S1, w1.mono (fun r e2 k => back k) fun _ _ z => z.go P1⟩
  | false => exact ⟨ex, env1, ow1, S1, w1.mono (fun r e2 k => back k) fun _ _ z => z.go P1⟩
end
end DL

/-! DLd: statements: stores, blocks, returns, ifs, loops. -/
namespace DL
open PySem L2

/-- how a statement ends -/
inductive Fl | nx | rt (d : Dt) (own : Bool) | bk | ct
structure PostS (env : Env) (ow : Ow) (H : Hp) (env' : Env) (ow' : Ow) (H' : Hp) : Prop where
  keep : ∀ a o, H a = some o → ¬ inO ow a → H' a = some o
  sub : ∀ a, inO ow' a → inO ow a ∨ H a = none
  pin : ∀ i d, gs env i = some (d, .io) → (∃ d', gs env' i = some (d', .io)) ∧ ow' i = ow i
  there : ∀ a, H a ≠ none → H' a ≠ none

section
variable {K : PySem.W.Frag} {mg : Str → Option Value} {ex ex' : Addr → Prop} {env env' env'' : Env} {ow ow' ow'' : Ow} {σ σ' : St} {H H' H'' : Hp} {E : XK}
theorem PostS.refl : PostS env ow H env ow H := ⟨fun _ _ h _ => h, fun _ h => .inl h, fun _ d h => ⟨⟨d, h⟩, rfl⟩, fun _ h => h⟩
theorem PostS.trans (a : PostS env ow H env' ow' H') (b : PostS env' ow' H' env'' ow'' H'') : PostS env ow H env'' ow'' H'' where
  keep := fun c o h n => b.keep c o (a.keep c o h n) fun z => by
    rcases a.sub c z with q | q
    · exact n q
    · rw [q] at h; cases h
  sub := fun c z => by
    rcases b.sub c z with q | q
    · exact a.sub c q
    · right
      cases y : H c with
      | none => rfl
      | some o => exact absurd q (a.there c (by rw [y]; exact fun q => nomatch q))
  pin := fun i d h => by
    obtain ⟨⟨d', h'⟩, e⟩ := a.pin i d h
    obtain ⟨q, e'⟩ := b.pin i d' h'
    exact ⟨q, e'.trans e⟩
  there := fun c h => b.there c (a.there c h)
theorem Post.s (P : Post env ow H env' ow' H') (S' : SR K mg ex env' ow' σ H') : PostS env ow H env' ow' H' := ⟨P.keep, fun a ⟨i, z⟩ => .inl ⟨i, P.sub i a z⟩, fun i d h => by
  obtain ⟨d', h'⟩ := P.pin i d h
  refine ⟨⟨d', h'⟩, ?_⟩
  have q := S'.slot i
  rw [h'] at q
  obtain ⟨a, ob, e, _⟩ := q
  rw [e]
  exact (P.sub i a e).symm, P.there⟩
theorem PostS.cut (P : PostS env ow H env' ow' H') : Le (cut (lim ex ow) H) (cut (lim ex ow') H') :=
  cut_keep (fun a h n => h.elim .inl fun z => by
    rcases P.sub a z with q | q
    · exact .inr q
    · exact absurd q n) fun a o h n => P.keep a o h fun z => n (.inr z)

/-! ### what is wanted behind a statement -/
def RetOk (K : PySem.W.Frag) (mg : Str → Option Value) (ex : Addr → Prop) (ow : Ow) (H : Hp) (env' : Env) (ow' : Ow) (σ' : St) (H' : Hp) (d : Dt) : Bool → V → Prop
  | false, v => SR K mg ex env' ow' σ' H' ∧ Rep K mg (cut (lim ex ow') H') v d
  | true, v => ∃ p ob, v = .ref p ∧ (inO ow p ∨ H p = none) ∧ H' p = some ob ∧ OwnR K mg (cut (lim (fun a => ex a ∨ a = p) ow') H') ob d ∧ SR K mg (fun a => ex a ∨ a = p) env' ow' σ' H' ∧ ¬ ex p
def kF (K : PySem.W.Frag) (mg : Str → Option Value) (ex : Addr → Prop) (env : Env) (ow : Ow) (H : Hp) (D : Ends) : Fl → Env → Prop
  | .nx, env' => ∀ σ' H' ow', PostS env ow H env' ow' H' → SR K mg ex env' ow' σ' H' → D.nx σ' H'
  | .bk, env' => ∀ σ' H' ow', PostS env ow H env' ow' H' → SR K mg ex env' ow' σ' H' → D.bk σ' H'
  | .ct, env' => ∀ σ' H' ow', PostS env ow H env' ow' H' → SR K mg ex env' ow' σ' H' → D.ct σ' H'
  | .rt d own, env' => ∀ v σ' H' ow', PostS env ow H env' ow' H' → RetOk K mg ex ow H env' ow' σ' H' d own v → D.rt v H'
def kY (K : PySem.W.Frag) (mg : Str → Option Value) (ex : Addr → Prop) (env : Env) (ow : Ow) (H : Hp) (E : XK) : Xn → Env → Prop := fun x env' => ∀ cls d σ' H' ow', PostS env ow H env' ow' H' → SR K mg ex env' ow' σ' H' → XOk K mg (cut (lim ex ow') H') H' x cls d → E cls d H'
def tS (K : PySem.W.Frag) (mg : Str → Option Value) (E : XK) (m : M Fl) : TS := fun D σ H => ∃ ex env ow, SR K mg ex env ow σ H ∧ WP m env (kF K mg ex env ow H D) (kY K mg ex env ow H E)
theorem kY.go (P : PostS env ow H env' ow' H') {x : Xn} {e : Env} (h : kY K mg ex env ow H E x e) : kY K mg ex env' ow' H' E x e := fun cls d σ1 H1 ow1 P1 S1 X1 => h cls d σ1 H1 ow1 (P.trans P1) S1 X1
theorem kY.x {x : Xn} {e : Env} (h : kY K mg ex env ow H E x e) : kX K mg ex env ow σ H E x e := fun cls d H1 ow1 P1 S1 X1 => h cls d σ H1 ow1 (P1.s S1) S1 X1
theorem RetOk.go (P : PostS env ow H env' ow' H') {e2 : Env} {ow2 : Ow} {σ2 : St} {H2 : Hp} {d : Dt} {own : Bool} {v : V} (h : RetOk K mg ex ow' H' e2 ow2 σ2 H2 d own v) : RetOk K mg ex ow H e2 ow2 σ2 H2 d own v := by
  cases own with
  | false => exact h
  | true =>
    obtain ⟨p, ob, e, f, r⟩ := h
    refine ⟨p, ob, e, ?_, r⟩
    rcases f with q | q
    · exact P.sub p q
    · right
      cases y : H p with
      | none => rfl
      | some o => exact absurd q (P.there p (by rw [y]; exact fun q => nomatch q))
theorem kF.go (P : PostS env ow H env' ow' H') {D : Ends} {f : Fl} {e : Env} (h : kF K mg ex env ow H D f e) : kF K mg ex env' ow' H' D f e := by
  cases f with
  | nx => exact fun σ1 H1 ow1 P1 S1 => h σ1 H1 ow1 (P.trans P1) S1
  | bk => exact fun σ1 H1 ow1 P1 S1 => h σ1 H1 ow1 (P.trans P1) S1
  | ct => exact fun σ1 H1 ow1 P1 S1 => h σ1 H1 ow1 (P.trans P1) S1
  | rt d own => exact fun v σ1 H1 ow1 P1 R1 => h v σ1 H1 ow1 (P.trans P1) (R1.go P)

/-! ### slots that change -/
def del (ow : Ow) (i : Nat) : Ow := fun j => if j = i then none else ow j
def putO (ow : Ow) (i : Nat) (p : Addr) : Ow := fun j => if j = i then some p else ow j
theorem gs_set_self {i : Nat} {s : Option (Dt × Md)} (h : i < env.length) : gs (env.set i s) i = s := by
  unfold gs; rw [List.getElem?_set_self h]; rfl
theorem gs_set_ne {i j : Nat} {s : Option (Dt × Md)} (h : i ≠ j) : gs (env.set i s) j = gs env j := by
  unfold gs; rw [List.getElem?_set_ne h]
theorem gv_set_self {i : Nat} {v : Option V} (h : i < σ.length) : gv (σ.set i v) i = v := by
  unfold gv; rw [List.getElem?_set_self h]; rfl
theorem gv_set_ne {i j : Nat} {v : Option V} (h : i ≠ j) : gv (σ.set i v) j = gv σ j := by
  unfold gv; rw [List.getElem?_set_ne h]
theorem inO_del {i : Nat} {a : Addr} (h : inO (del ow i) a) : inO ow a := by
  obtain ⟨j, h⟩ := h
  unfold del at h
  by_cases e : j = i
  · rw [if_pos e] at h; cases h
  · rw [if_neg e] at h; exact ⟨j, h⟩
theorem lim_del {i : Nat} {a : Addr} (h : lim ex (del ow i) a) : lim ex ow a := h.elim .inl fun z => .inr (inO_del z)
def isIo : Option (Dt × Md) → Bool
  | some (_, .io) => true
  | _ => false
theorem isIo_some {d : Dt} {s : Option (Dt × Md)} (e : s = some (d, .io)) (h : isIo s = false) : False := by subst e; cases h
/-- a slot holds frozen data (or nothing) from now on -/
theorem SR.setFz {v : Option V} {s : Option (Dt × Md)} {i : Nat} (S : SR K mg ex env ow σ H) (hi : i < env.length) (r : SlotOk K mg (cut (lim ex (del ow i)) H) H s none v) : SR K mg ex (env.set i s) (del ow i) (σ.set i v) H := by
  refine ⟨by simpa using S.len, fun j => ?_, fun j k a h1 h2 => ?_, fun j a h => ?_, S.tr⟩
  · by_cases e : j = i
    · subst e
      rw [gs_set_self hi, gv_set_self (by rw [← S.len]; exact hi)]
      unfold del
      rw [if_pos rfl]
      exact r
    · rw [gs_set_ne (Ne.symm e), gv_set_ne (Ne.symm e)]
      have q := (S.slot j).mono (G' := cut (lim ex (del ow i)) H) (H' := H) (cut_sub H fun a z => lim_del z) fun _ _ z => z
      unfold del
      rw [if_neg e]
      exact q
  · unfold del at h1 h2
    by_cases e1 : j = i
    · rw [if_pos e1] at h1; cases h1
    · by_cases e2 : k = i
      · rw [if_pos e2] at h2; cases h2
      · rw [if_neg e1] at h1; rw [if_neg e2] at h2; exact S.inj j k a h1 h2
  · unfold del at h
    by_cases e : j = i
    · rw [if_pos e] at h; cases h
    · rw [if_neg e] at h; exact S.dis j a h
theorem PostS.setFz {s : Option (Dt × Md)} {i : Nat} (hio : isIo (gs env i) = false) : PostS env ow H (env.set i s) (del ow i) H := by
  refine ⟨fun _ _ h _ => h, fun a h => .inl (inO_del h), fun j d h => ?_, fun _ h => h⟩
  have ne : i ≠ j := fun e => by subst e; exact isIo_some h hio
  refine ⟨⟨d, by rw [gs_set_ne ne]; exact h⟩, ?_⟩
  unfold del
  rw [if_neg (Ne.symm ne)]
/-- a slot gets an object of its own -/
theorem SR.setOw {p : Addr} {ob : HO} {d : Dt} {i : Nat} (S : SR K mg (fun a => ex a ∨ a = p) env ow σ H) (hi : i < env.length) (hp : H p = some ob) (r : OwnR K mg (cut (lim (fun a => ex a ∨ a = p) ow) H) ob d) (np : ¬ ex p) :
    SR K mg ex (env.set i (some (d, .ow))) (putO ow i p) (σ.set i (some (.ref p))) H := by
  have sub : ∀ a, lim ex (putO ow i p) a → lim (fun a => ex a ∨ a = p) ow a := fun a z => by
    rcases z with z | ⟨j, z⟩
    · exact .inl (.inl z)
    · unfold putO at z
      by_cases e : j = i
      · rw [if_pos e] at z; cases z; exact .inl (.inr rfl)
      · rw [if_neg e] at z; exact .inr ⟨j, z⟩
  refine ⟨by simpa using S.len, fun j => ?_, fun j k a h1 h2 => ?_, fun j a h => ?_, fun a z => S.tr a (.inl z)⟩
  · by_cases e : j = i
    · subst e
      rw [gs_set_self hi, gv_set_self (by rw [← S.len]; exact hi)]
      exact ⟨p, ob, by unfold putO; rw [if_pos rfl], rfl, hp, r.mono (cut_sub H sub)⟩
    · rw [gs_set_ne (Ne.symm e), gv_set_ne (Ne.symm e)]
      have q := (S.slot j).mono (G' := cut (lim ex (putO ow i p)) H) (H' := H) (cut_sub H sub) fun _ _ z => z
      have e2 : putO ow i p j = ow j := by unfold putO; rw [if_neg e]
      rw [e2]
      exact q
  · unfold putO at h1 h2
    by_cases e1 : j = i
    · by_cases e2 : k = i
      · rw [e1, e2]
      · rw [if_pos e1] at h1; rw [if_neg e2] at h2; cases h1
        exact absurd (.inr rfl) (S.dis k p h2)
    · by_cases e2 : k = i
      · rw [if_neg e1] at h1; rw [if_pos e2] at h2; cases h2
        exact absurd (.inr rfl) (S.dis j p h1)
      · rw [if_neg e1] at h1; rw [if_neg e2] at h2; exact S.inj j k a h1 h2
  · unfold putO at h
    by_cases e : j = i
    · rw [if_pos e] at h; cases h; exact np
    · rw [if_neg e] at h; exact fun z => S.dis j a h (.inl z)
theorem PostS.setOw {p : Addr} {d : Dt} {i : Nat} {H0 : Hp} {env0 : Env} {ow0 : Ow} (P : PostS env0 ow0 H0 env ow H) (hio : isIo (gs env i) = false) (hp : H0 p = none) : PostS env0 ow0 H0 (env.set i (some (d, .ow))) (putO ow i p) H := by
  refine ⟨P.keep, fun a h => ?_, fun j d0 h => ?_, P.there⟩
  · obtain ⟨j, z⟩ := h
    unfold putO at z
    by_cases e : j = i
    · rw [if_pos e] at z; cases z; exact .inr hp
    · rw [if_neg e] at z; exact P.sub a ⟨j, z⟩
  · obtain ⟨⟨d', h'⟩, e⟩ := P.pin j d0 h
    have ne : i ≠ j := fun e => by subst e; exact isIo_some h' hio
    refine ⟨⟨d', by rw [gs_set_ne ne]; exact h'⟩, ?_⟩
    unfold putO
    rw [if_neg (Ne.symm ne)]
    exact e
/-- an owned slot is frozen -/
theorem SR.freeze {d : Dt} {i : Nat} {v : V} (S : SR K mg ex env ow σ H) (h : gs env i = some (d, .ow)) (hv : gv σ i = some v) : SR K mg ex (env.set i (some (d, .fz))) (del ow i) σ H ∧ Rep K mg (cut (lim ex (del ow i)) H) v d := by
  have q := S.slot i
  rw [h, hv] at q
  obtain ⟨a, ob, e1, e2, e3, r⟩ := q
  cases e2
  have hi : i < env.length := by
    unfold gs at h
    cases z : env[i]? with
    | none => rw [z] at h; cases h
    | some y => exact (List.getElem?_eq_some_iff.mp z).1
  have na : ¬ lim ex (del ow i) a := fun z => by
    rcases z with z | ⟨j, z⟩
    · exact S.dis i a e1 z
    · unfold del at z
      by_cases e : j = i
      · rw [if_pos e] at z; cases z
      · rw [if_neg e] at z; exact e (S.inj j i a z e1)
  have rr : Rep K mg (cut (lim ex (del ow i)) H) (.ref a) d := own_rep (by rw [cut_out na]; exact e3) (r.mono (cut_sub H fun b z => lim_del z))
  have S' := S.setFz (v := some (.ref a)) (s := some (d, .fz)) hi ⟨rfl, _, rfl, rr⟩
  have e : σ.set i (some (V.ref a)) = σ := by
    apply List.ext_getElem?
    intro j
    by_cases z : j = i
    · subst z
      rw [List.getElem?_set_self (by rw [← S.len]; exact hi), gv_some hv]
    · rw [List.getElem?_set_ne (Ne.symm z)]
  rw [e] at S'
  exact ⟨S', rr⟩
theorem Post.freeze {d : Dt} {i : Nat} (h : gs env i = some (d, .ow)) : Post env ow H (env.set i (some (d, .fz))) (del ow i) H := by
  refine ⟨fun _ _ h _ => h, fun j a z => ?_, fun j d0 z => ?_, fun _ h => h⟩
  · unfold del at z
    by_cases e : j = i
    · rw [if_pos e] at z; cases z
    · rw [if_neg e] at z; exact z
  · have ne : i ≠ j := fun e => by subst e; rw [h] at z; cases z
    exact ⟨d0, by rw [gs_set_ne ne]; exact z⟩

/-- a result as frozen data -/
def frz (r : R) : M Dt := fun env => match r with
  | .val d => some (.ok d env)
  | .new d => some (.ok d env)
  | .loc i => match gs env i with
    | some (d, .fz) => some (.ok d env)
    | some (d, .ow) => some (.ok d (env.set i (some (d, .fz))))
    | _ => none
theorem WP.frz {r : R} {v : V} {k : Dt → Env → Prop} {x : Xn → Env → Prop} (S : SR K mg ex env ow σ H) (h : Held K mg ex ow σ H r v) (w : WP (frz r) env k x) : ∃ d env' ow', SR K mg ex env' ow' σ H ∧ Post env ow H env' ow' H ∧ Rep K mg (DL.cut (lim ex ow') H) v d ∧ k d env' := by
  cases r with
  | val d => exact ⟨d, env, ow, S, .refl, h, w⟩
  | new d => exact ⟨d, env, ow, S, .refl, h, w⟩
  | loc i =>
    unfold WP DL.frz at w
    have hv : gv σ i = some v := h
    cases e : gs env i with
    | none => simp only [e] at w
    | some y =>
      obtain ⟨d, m⟩ := y
      cases m with
      | fz =>
        simp only [e] at w
        have q := S.slot i
        rw [e, hv] at q
        obtain ⟨_, x, e1, r⟩ := q
        cases e1
        exact ⟨d, env, ow, S, .refl, r, w⟩
      | ow =>
        simp only [e] at w
        obtain ⟨S', r⟩ := S.freeze e hv
        exact ⟨d, _, _, S', .freeze e, r, w⟩
      | io => simp only [e] at w
end

/-! ### statements -/
def mSeq (a b : M Fl) : M Fl := a.bind fun f => match f with
  | .nx => b
  | f => M.pure f
def putS (i : Nat) (s : Option (Dt × Md)) : M Fl := fun env => if i < env.length ∧ isIo (gs env i) = false then some (.ok .nx (env.set i s)) else none
def setR (i : Nat) (r : R) : M Fl := match r with
  | .new d => putS i (some (d, .ow))
  | r => (frz r).bind fun d => putS i (some (d, .fz))
def mSet (i : Nat) (m : M R) : M Fl := m.bind (setR i)
def mDrop (m : M R) : M Fl := m.bind fun _ => M.pure .nx
def retR (r : R) : M Fl := fun env => match r with
  | .val d => some (.ok (.rt d false) env)
  | .new d => some (.ok (.rt d true) env)
  | .loc i => match gs env i with
    | some (d, .fz) => some (.ok (.rt d false) env)
    | some (d, .ow) => some (.ok (.rt d true) (env.set i none))
    | _ => none
def mRet (m : M R) : M Fl := m.bind retR
def mIfS (t : M Bool) (a b : M Fl) : M Fl := t.bind fun c => if c then a else b

section
variable {K : PySem.W.Frag} {mg : Str → Option Value} {ex ex' : Addr → Prop} {env env' env'' : Env} {ow ow' ow'' : Ow} {σ σ' : St} {H H' H'' : Hp} {E : XK}
theorem WP.putS {i : Nat} {s : Option (Dt × Md)} {k : Fl → Env → Prop} {x : Xn → Env → Prop} (w : WP (putS i s) env k x) : i < env.length ∧ isIo (gs env i) = false ∧ k .nx (env.set i s) := by
  unfold WP DL.putS at w
  by_cases h : i < env.length ∧ isIo (gs env i) = false
  · rw [if_pos h] at w; exact ⟨h.1, h.2, w⟩
  · rw [if_neg h] at w; exact w.elim
/-- x = a result -/
theorem WP.setR {i : Nat} {r : R} {v : V} {H0 : Hp} {env0 : Env} {ow0 : Ow} {D : Ends} {x : Xn → Env → Prop} (tr : ∀ a, ex a → H0 a ≠ none) (P : Post env0 ow0 H0 env ow H) (R1 : ROk K mg ex env ow σ H0 H r v) (w : WP (setR i r) env (kF K mg ex env0 ow0 H0 D) x) : D.nx (σ.set i (some v)) H := by
  have fin : ∀ {d : Dt} {env1 : Env} {ow1 : Ow}, SR K mg ex env1 ow1 σ H → Post env ow H env1 ow1 H → Rep K mg (DL.cut (lim ex ow1) H) v d → WP (DL.putS i (some (d, .fz))) env1 (kF K mg ex env0 ow0 H0 D) x → D.nx (σ.set i (some v)) H := fun {d env1 ow1} S1 P1 r1 w1 => by
    obtain ⟨h1, h2, k⟩ := w1.putS
    exact k (σ.set i (some v)) H (del ow1 i) (((P.trans P1).s S1).trans (.setFz h2)) (S1.setFz h1 ⟨rfl, v, rfl, r1.mono (cut_sub H fun a z => lim_del z)⟩)
  cases r with
  | val d =>
    have w' : WP ((DL.frz (.val d)).bind fun d => DL.putS i (some (d, .fz))) env (kF K mg ex env0 ow0 H0 D) x := w
    obtain ⟨d', env1, ow1, S1, P1, r1, w1⟩ := WP.frz (r := .val d) R1.1 R1.2 (WP.bind.mp w')
    exact fin S1 P1 r1 w1
  | new d =>
    obtain ⟨p, ob, e, hp, hp', r, S⟩ := R1
    subst e
    obtain ⟨h1, h2, k⟩ := WP.putS w
    exact k _ H (putO ow i p) (PostS.setOw (P.s (S.less fun a z => .inl z)) h2 hp) (S.setOw h1 hp' r fun z => tr p z hp)
  | loc j =>
    have w' : WP ((DL.frz (.loc j)).bind fun d => DL.putS i (some (d, .fz))) env (kF K mg ex env0 ow0 H0 D) x := w
    obtain ⟨d', env1, ow1, S1, P1, r1, w1⟩ := WP.frz (r := .loc j) R1.1 R1.2.1 (WP.bind.mp w')
    exact fin S1 P1 r1 w1
theorem WP.retR {r : R} {v : V} {H0 : Hp} {env0 : Env} {ow0 : Ow} {D : Ends} {x : Xn → Env → Prop} (tr : ∀ a, ex a → H0 a ≠ none) (P : Post env0 ow0 H0 env ow H) (R1 : ROk K mg ex env ow σ H0 H r v) (w : WP (retR r) env (kF K mg ex env0 ow0 H0 D) x) : D.rt v H := by
  cases r with
  | val d => exact w v σ H ow (P.s R1.1) R1
  | new d =>
    obtain ⟨p, ob, e, hp, hp', r, S⟩ := R1
    exact w v σ H ow (P.s (S.less fun a z => .inl z)) ⟨p, ob, e, .inr hp, hp', r, S, fun z => tr p z hp⟩
  | loc i =>
    obtain ⟨S, hv, ne⟩ := R1
    unfold WP DL.retR at w
    have q := S.slot i
    rw [hv] at q
    cases e : gs env i with
    | none => exact absurd e ne
    | some y =>
      obtain ⟨d, m⟩ := y
      rw [e] at q
      cases m with
      | fz =>
        simp only [e] at w
        obtain ⟨_, y, e1, r⟩ := q
        cases e1
        exact w v σ H ow (P.s S) ⟨S, r⟩
      | ow =>
        simp only [e] at w
        obtain ⟨p, ob, e1, e2, e3, r⟩ := q
        cases e2
        have hi : i < env.length := by
          unfold gs at e
          cases z : env[i]? with
          | none => rw [z] at e; cases e
          | some y => exact (List.getElem?_eq_some_iff.mp z).1
        have S1 := S.setFz (v := some (.ref p)) (s := none) hi rfl
        have io : isIo (gs env i) = false := by rw [e]; rfl
        have nd : ¬ inO (del ow i) p := fun ⟨j, z⟩ => by
          unfold del at z
          by_cases e : j = i
          · rw [if_pos e] at z; cases z
          · rw [if_neg e] at z; exact e (S.inj j i p z e1)
        have es : σ.set i (some (V.ref p)) = σ := by
          apply List.ext_getElem?
          intro j
          by_cases z : j = i
          · subst z
            rw [List.getElem?_set_self (by rw [← S.len]; exact hi), gv_some hv]
          · rw [List.getElem?_set_ne (Ne.symm z)]
        rw [es] at S1
        have sub : ∀ a, lim (fun a => ex a ∨ a = p) (del ow i) a → lim ex ow a := fun a z => by
          rcases z with (z | z) | z
          · exact .inl z
          · subst z; exact .inr ⟨i, e1⟩
          · exact .inr (inO_del z)
        refine w (.ref p) σ H (del ow i) ((P.s S).trans (.setFz io)) ⟨p, ob, rfl, ?_, e3, r.mono (cut_sub H sub), ⟨S1.len, fun j => ?_, S1.inj, fun j a h z => ?_, fun a z => ?_⟩, S.dis i p e1⟩
        · exact (P.s S).sub p ⟨i, e1⟩
        · have q := S.slot j
          by_cases ej : j = i
          · subst ej
            rw [gs_set_self hi]
            show del ow j j = none
            unfold del; rw [if_pos rfl]
          · rw [gs_set_ne (Ne.symm ej)]
            have eo : del ow i j = ow j := by unfold del; rw [if_neg ej]
            rw [eo]
            exact q.mono (cut_sub H sub) fun _ _ z => z
        · rcases z with z | z
          · exact S1.dis j a h z
          · subst z; exact nd ⟨j, h⟩
        · rcases z with z | z
          · exact S1.tr a z
          · subst z; rw [e3]; exact fun q => nomatch q
      | io => simp only [e] at w
end

section
variable {X : Cx} {E : XK} {e : Expr} {st : Stmt} {sts sts' : List Stmt} {pos : Pos} {m : M R} {a b : M Fl} {mt : M Bool}
abbrev DS (X : Cx) (E : XK) (st : Stmt) (m : M Fl) : Prop := PS X st (tS X.K X.mg E m)
abbrev DB (X : Cx) (E : XK) (sts : List Stmt) (m : M Fl) : Prop := PSs X sts (tS X.K X.mg E m)
theorem db_nil : DB X E [] (M.pure .nx) := PSs.weak pss_nil fun D σ H ⟨ex, env, ow, S, w⟩ => w σ H ow .refl S
theorem db_cons (h1 : DS X E st a) (h2 : DB X E sts b) : DB X E (st :: sts) (mSeq a b) := PSs.weak (pss_cons h1 h2) fun D σ H ⟨ex, env, ow, S, w⟩ => by
  refine ⟨ex, env, ow, S, (WP.bind.mp w).mono (fun f env1 w1 => ?_) fun _ _ z => z⟩
  cases f with
  | nx => exact fun σ1 H1 ow1 P1 S1 => ⟨ex, env1, ow1, S1, w1.mono (fun g e2 k => k.go P1) fun _ _ z => z.go P1⟩
  | bk => exact w1
  | ct => exact w1
  | rt d own => exact w1
theorem db_one (h1 : DS X E st a) : DB X E [st] a := pss_one h1
theorem ds_set {i : Nat} {x : Str} {p : Pos} (hN : X.N.Nodup) (hi : X.N[i]? = some x) (hx : Loc X.env.scope x) (he : DE X E e m) (hs : swapsWith e (some (.Name x p)) pos.line X.env = pure false := by rfl)
    (hf : X.fn x = true ∨ X.env.scope.names.lookup x = some .local := by first | exact .inl rfl | exact .inr rfl | assumption) : DS X E (.Assign [.Name x p] e pos) (mSet i m) :=
  PS.weak (ps_set hN hi hx he hs hf) fun D σ H ⟨ex, env, ow, S, w⟩ => ⟨ex, env, ow, S, (WP.bind.mp w).mono (fun r env1 w1 v H1 ow1 P1 R1 => w1.setR S.tr P1 R1) fun _ _ z => z.x⟩
theorem ds_expr (he : DE X E e m) (hs : swapsWith e none pos.line X.env = pure false := by rfl) : DS X E (.Expr e pos) (mDrop m) :=
  PS.weak (ps_expr he hs) fun D σ H ⟨ex, env, ow, S, w⟩ => ⟨ex, env, ow, S, (WP.bind.mp w).mono (fun r env1 w1 v H1 ow1 P1 R1 => w1 σ H1 ow1 (P1.s R1.sr) R1.sr) fun _ _ z => z.x⟩
theorem ds_ret (he : DE X E e m) : DS X E (.Return (some e) pos) (mRet m) :=
  PS.weak (ps_ret he) fun D σ H ⟨ex, env, ow, S, w⟩ => ⟨ex, env, ow, S, (WP.bind.mp w).mono (fun r env1 w1 v H1 ow1 P1 R1 => w1.retR S.tr P1 R1) fun _ _ z => z.x⟩
theorem ds_retN : DS X E (.Return none pos) (M.pure (.rt .non false)) := PS.weak ps_retN fun D σ H ⟨ex, env, ow, S, w⟩ => w .non σ H ow .refl ⟨S, .non⟩
theorem ds_pass : DS X E (.Pass pos) (M.pure .nx) := PS.weak ps_pass fun D σ H ⟨ex, env, ow, S, w⟩ => w σ H ow .refl S
theorem ds_break : DS X E (.Break pos) (M.pure .bk) := PS.weak ps_break fun D σ H ⟨ex, env, ow, S, w⟩ => w σ H ow .refl S
theorem ds_continue : DS X E (.Continue pos) (M.pure .ct) := PS.weak ps_continue fun D σ H ⟨ex, env, ow, S, w⟩ => w σ H ow .refl S
theorem ds_if {t : Expr} (ht : DT X E t mt) (ha : DB X E sts a) (hb : DB X E sts' b) : DS X E (.If t sts sts' pos) (mIfS mt a b) :=
  PS.weak (ps_if ht ha hb) fun D σ H ⟨ex, env, ow, S, w⟩ => ⟨ex, env, ow, S, (WP.bind.mp w).mono (fun c env1 w1 H1 ow1 P1 S1 => by
    have q := P1.s S1
    cases c with
    | true => exact ⟨ex, env1, ow1, S1, w1.mono (fun g e2 k => k.go q) fun _ _ z => z.go q⟩
    | false => exact ⟨ex, env1, ow1, S1, w1.mono (fun g e2 k => k.go q) fun _ _ z => z.go q⟩) fun _ _ z => z.x⟩
/-- a statement that is never come to -/
theorem ds_never : DS X E st (fun _ => none) := PS.weak ps_never fun D σ H ⟨ex, env, ow, S, w⟩ => w.elim
end
end DL

/-! DLe: targets and loops. -/
namespace DL
open PySem L2

/-! ### targets -/
/-- what a target does with frozen data -/
abbrev Tg := Dt → M Fl
def kG (K : PySem.W.Frag) (mg : Str → Option Value) (ex : Addr → Prop) (env : Env) (ow : Ow) (H : Hp) (Q : St → Hp → Prop) : Fl → Env → Prop := fun _ env' => ∀ σ' H' ow', PostS env ow H env' ow' H' → SR K mg ex env' ow' σ' H' → Q σ' H'
def tG (K : PySem.W.Frag) (mg : Str → Option Value) (t : Tg) : TG := fun v σ H Q => ∃ ex env ow d, SR K mg ex env ow σ H ∧ Rep K mg (cut (lim ex ow) H) v d ∧ WP (t d) env (kG K mg ex env ow H Q) (fun _ _ => True)
def tGs (K : PySem.W.Frag) (mg : Str → Option Value) (t : List Dt → M Fl) : TGs := fun vs σ H Q => ∃ ex env ow ds, SR K mg ex env ow σ H ∧ RepA K mg (cut (lim ex ow) H) vs ds ∧ WP (t ds) env (kG K mg ex env ow H Q) (fun _ _ => True)
def gN (i : Nat) : Tg := fun d => putS i (some (d, .fz))
def gNil' : List Dt → M Fl := fun ds => match ds with
  | [] => M.pure .nx
  | _ => fun _ => none
def gCons' (t : Tg) (u : List Dt → M Fl) : List Dt → M Fl := fun ds => match ds with
  | [] => fun _ => none
  | d :: r => (t d).bind fun _ => u r
def gT (n : Nat) (t : List Dt → M Fl) : Tg := fun d => match d with
  | .tup ds => if ds.length = n then t ds else fun _ => none
  | _ => fun _ => none

theorem PG.weak {X : Cx} {e : Expr} {t t' : TG} (h : PG X e t) (w : ∀ v σ H Q, t' v σ H Q → t v σ H Q) : PG X e t' := ⟨fun pins s σ H v u Q I r q => h.run pins s σ H v u Q I r (w v σ H Q q)⟩
theorem PGs.weak {X : Cx} {e : List Expr} {t t' : TGs} (h : PGs X e t) (w : ∀ v σ H Q, t' v σ H Q → t v σ H Q) : PGs X e t' := ⟨fun pins s σ H v u Q I r q => h.run pins s σ H v u Q I r (w v σ H Q q)⟩
theorem PI.weak {X : Cx} {tg e : Expr} {t t' : TI} (h : PI X tg e t) (w : ∀ σ H R, t' σ H R → t σ H R) : PI X tg e t' := ⟨fun pins s σ H R I q => h.run pins s σ H R I (w σ H R q)⟩

section
variable {X : Cx} {e : Expr} {es : List Expr} {pos : Pos} {t : Tg} {u : List Dt → M Fl}
abbrev DG (X : Cx) (e : Expr) (t : Tg) : Prop := PG X e (tG X.K X.mg t)
abbrev DGs (X : Cx) (es : List Expr) (t : List Dt → M Fl) : Prop := PGs X es (tGs X.K X.mg t)
theorem dg_name {i : Nat} {x : Str} (hN : X.N.Nodup) (hi : X.N[i]? = some x) (hx : Loc X.env.scope x) (hf : X.fn x = true ∨ X.env.scope.names.lookup x = some .local := by first | exact .inl rfl | exact .inr rfl | assumption) : DG X (.Name x pos) (gN i) :=
  PG.weak (pg_name hN hi hx hf) fun v σ H Q ⟨ex, env, ow, d, S, r, w⟩ => by
    obtain ⟨h1, h2, k⟩ := WP.putS w
    exact k _ H (del ow i) (.setFz h2) (S.setFz h1 ⟨rfl, v, rfl, r.mono (cut_sub H fun a z => lim_del z)⟩)
theorem dgs_nil : DGs X [] gNil' := PGs.weak pgs_nil fun vs σ H Q ⟨ex, env, ow, ds, S, r, w⟩ => by
  cases r with
  | nil => exact ⟨rfl, w σ H ow .refl S⟩
  | cons _ _ => exact w.elim
theorem dgs_cons (h1 : DG X e t) (h2 : DGs X es u) (hs : (assignEach (e :: es) X.env).map (·.2) = assign e X.env :: (assignEach es X.env).map (·.2) := by rfl) : DGs X (e :: es) (gCons' t u) :=
  PGs.weak (pgs_cons h1 h2 hs) fun vs σ H Q ⟨ex, env, ow, ds, S, r, w⟩ => by
    cases r with
    | nil => exact w.elim
    | @cons v vs d ds r rr =>
      refine ⟨v, vs, rfl, ex, env, ow, d, S, r, (WP.bind.mp w).mono (fun f env1 w1 => ?_) fun _ _ z => z⟩
      exact fun σ1 H1 ow1 P1 S1 => ⟨ex, env1, ow1, ds, S1, rr.mono P1.cut, w1.mono (fun g e2 k => fun σ2 H2 ow2 P2 S2 => k σ2 H2 ow2 (P1.trans P2) S2) fun _ _ z => z⟩
theorem dg_tup {k n : Nat} (hc : X.calm = true) (h : DGs X es u) (hn : (assignEach es X.env).length = n := by rfl) (hst : (assignEach es X.env).findIdx? (·.1) = none := by rfl) : DG X (.Tuple es k pos) (gT n u) :=
  PG.weak (pg_tup hc h hn hst) fun v σ H Q ⟨ex, env, ow, d, S, r, w⟩ => by
    cases d with
    | tup ds =>
      cases r with
      | @tup a xs ds h1 h2 =>
        have w' : WP (if ds.length = n then u ds else fun _ => none) env (kG X.K X.mg ex env ow H Q) (fun _ _ => True) := w
        by_cases e : ds.length = n
        · rw [if_pos e] at w'
          exact ⟨a, xs, rfl, (cut_le _ H).t h1, h2.length.trans e, ex, env, ow, ds, S, h2, w'⟩
        · rw [if_neg e] at w'; exact w'.elim
    | _ => exact w.elim
end

/-! ### what is walked -/
/-- an iterator hands out just these, as long as what is frozen stays -/
structure Yields (K : PySem.W.Frag) (mg : Str → Option Value) (G : Hp) (J : It) (ds : List Dt) : Prop where
  go : ∀ i H, Le G H → i < ds.length → J.go i H
  stop : ∀ i H, Le G H → ds.length ≤ i → J.stop i H
  yld : ∀ (L : Addr → Prop) i H x H', (∀ a, L a → H a ≠ none) → Le G (cut L H) → i < ds.length → J.yld i H x H' → Le H H' ∧ ∃ d, ds[i]? = some d ∧ Rep K mg (cut L H') x d
theorem Le.fresh {L : Addr → Prop} {H : Hp} {p : Addr} {o : HO} (tr : ∀ a, L a → H a ≠ none) (h : H p = none) : Le (cut L H) (cut L (upd H p o)) ∧ cut L (upd H p o) p = some o := by
  refine ⟨cut_keep (fun _ h _ => h) fun a ob e _ => Le.new h a ob e, ?_⟩
  rw [cut_out fun z => tr p z h, upd_same]
section
variable {K : PySem.W.Frag} {mg : Str → Option Value} {G : Hp}
theorem yields_list {a : Addr} {xs : List V} {ds : List Dt} (h : SqL K G a xs) (r : RepA K mg G xs ds) : Yields K mg G (Itl K a) ds where
  go := fun i H l hi => ⟨xs, xs[i]'(by rw [r.length]; exact hi), l.l h, by simp⟩
  stop := fun i H l hi => ⟨xs, l.l h, by rw [r.length]; exact hi⟩
  yld := fun L i H x H' tr l hi ⟨e, y⟩ => by
    subst e
    obtain ⟨d, h1, h2⟩ := r.get' (y xs (((l.trans (cut_le L _))).l h))
    exact ⟨.refl _, d, h1, h2.mono l⟩
theorem yields_tup {a : Addr} {xs : List V} {ds : List Dt} (h : SqT K G a xs) (r : RepA K mg G xs ds) : Yields K mg G (Itt K a) ds where
  go := fun i H l hi => ⟨xs, xs[i]'(by rw [r.length]; exact hi), l.t h, by simp⟩
  stop := fun i H l hi => ⟨xs, l.t h, by rw [r.length]; exact hi⟩
  yld := fun L i H x H' tr l hi ⟨e, y⟩ => by
    subst e
    obtain ⟨d, h1, h2⟩ := r.get' (y xs (((l.trans (cut_le L _))).t h))
    exact ⟨.refl _, d, h1, h2.mono l⟩
def rangeD (lo : Int) : Nat → List Dt
  | 0 => []
  | n + 1 => .int lo :: rangeD (lo + 1) n
theorem rangeD_length : ∀ (n : Nat) (lo : Int), (rangeD lo n).length = n
  | 0, _ => rfl
  | n + 1, lo => by rw [rangeD, List.length_cons, rangeD_length n]
theorem rangeD_get : ∀ (n i : Nat) (lo : Int), i < n → (rangeD lo n)[i]? = some (.int (lo + i))
  | 0, _, _, h => absurd h (Nat.not_lt_zero _)
  | n + 1, 0, lo, _ => by simp [rangeD]
  | n + 1, i + 1, lo, h => by
    rw [rangeD, List.getElem?_cons_succ, rangeD_get n i (lo + 1) (by omega)]
    congr 2
    omega
theorem yields_range (lo : Int) (n : Nat) : Yields K mg G (Itr lo n) (rangeD lo n) where
  go := fun i H l hi => by rw [rangeD_length] at hi; exact hi
  stop := fun i H l hi => by rw [rangeD_length] at hi; exact hi
  yld := fun L i H x H' tr l hi ⟨e, y⟩ => by
    subst e; subst y
    rw [rangeD_length] at hi
    exact ⟨.refl _, _, rangeD_get n i lo hi, .int _⟩
def signs : List Nat → List Dt
  | [] => []
  | c :: r => .str ⟨#[c]⟩ :: signs r
theorem signs_length : ∀ l : List Nat, (signs l).length = l.length
  | [] => rfl
  | c :: r => by rw [signs, List.length_cons, List.length_cons, signs_length r]
theorem signs_get : ∀ (l : List Nat) (i : Nat) (c : Nat), l[i]? = some c → (signs l)[i]? = some (.str ⟨#[c]⟩)
  | [], _, _, h => by simp at h
  | c :: r, 0, _, h => by simp at h; subst h; rfl
  | c :: r, i + 1, d, h => by
    rw [signs, List.getElem?_cons_succ]
    exact signs_get r i d (by simpa using h)
theorem yields_str (x : Str) : Yields K mg G (Its x) (signs x.cps.toList) where
  go := fun i H l hi => by rw [signs_length] at hi; show i < x.cps.size; simpa using hi
  stop := fun i H l hi => by rw [signs_length] at hi; show x.cps.size ≤ i; simpa using hi
  yld := fun L i H v H' tr l hi ⟨e, c, h1, h2⟩ => by
    subst e; subst h2
    exact ⟨.refl _, _, signs_get _ i c (by simpa using h1), .str _⟩
def enumD (k : Int) : List Dt → List Dt
  | [] => []
  | d :: r => .tup [.int k, d] :: enumD (k + 1) r
theorem enumD_length : ∀ (l : List Dt) (k : Int), (enumD k l).length = l.length
  | [], _ => rfl
  | d :: r, k => by rw [enumD, List.length_cons, List.length_cons, enumD_length r]
theorem enumD_get : ∀ (l : List Dt) (i : Nat) (k : Int) (d : Dt), l[i]? = some d → (enumD k l)[i]? = some (.tup [.int (k + i), d])
  | [], _, _, _, h => by simp at h
  | c :: r, 0, k, _, h => by simp at h; subst h; simp [enumD]
  | c :: r, i + 1, k, d, h => by
    rw [enumD, List.getElem?_cons_succ, enumD_get r i (k + 1) d (by simpa using h)]
    congr 3
    have e : k + 1 + (i : Int) = k + ((i + 1 : Nat) : Int) := by omega
    rw [e]
theorem yields_enum {a : Addr} {xs : List V} {ds : List Dt} (h : SqL K G a xs) (r : RepA K mg G xs ds) : Yields K mg G (Ite K a) (enumD 0 ds) where
  go := fun i H l hi => by
    rw [enumD_length] at hi
    exact ⟨xs, xs[i]'(by rw [r.length]; exact hi), l.l h, by simp⟩
  stop := fun i H l hi => by
    rw [enumD_length] at hi
    exact ⟨xs, l.l h, by rw [r.length]; exact hi⟩
  yld := fun L i H v H' tr l hi ⟨T, x, e1, e2, e3, y⟩ => by
    subst e1; subst e3
    obtain ⟨d, h1, h2⟩ := r.get' (y xs (((l.trans (cut_le L _))).l h))
    obtain ⟨l2, e4⟩ := Le.fresh (L := L) (o := .tup [.int (i : Nat), x]) tr e2
    refine ⟨.new e2, _, enumD_get ds i 0 d h1, .tup (SqT.of e4) (.cons ?_ (.cons (h2.mono (l.trans l2)) .nil))⟩
    have e : (0 : Int) + (i : Int) = (i : Int) := Int.zero_add _
    rw [e]; exact .int _
end

/-- a walked thing as its data -/
def kI (K : PySem.W.Frag) (mg : Str → Option Value) (ex : Addr → Prop) (env : Env) (ow : Ow) (σ : St) (H : Hp) (R : It → Hp → Prop) : List Dt → Env → Prop := fun ds env' => ∀ H' ow' J G, Post env ow H env' ow' H' → SR K mg ex env' ow' σ H' → Le G (cut (lim ex ow') H') → Yields K mg G J ds → R J H'
def tI (K : PySem.W.Frag) (mg : Str → Option Value) (E : XK) (m : M (List Dt)) : TI := fun σ H R => ∃ ex env ow, SR K mg ex env ow σ H ∧ WP m env (kI K mg ex env ow σ H R) (kX K mg ex env ow σ H E)
abbrev DI (X : Cx) (E : XK) (tg e : Expr) (m : M (List Dt)) : Prop := PI X tg e (tI X.K X.mg E m)

/-! ### loops -/
def forL (tg : Tg) (body : M Fl) : List Dt → M Fl
  | [] => M.pure .nx
  | d :: ds => (tg d).bind fun _ => body.bind fun f => match f with
    | .nx => forL tg body ds
    | .ct => forL tg body ds
    | .bk => M.pure .nx
    | .rt d o => M.pure (.rt d o)
def mFor (src : M (List Dt)) (tg : Tg) (body : M Fl) : M Fl := src.bind (forL tg body)
section
variable {K : PySem.W.Frag} {mg : Str → Option Value} {ex : Addr → Prop} {env env' : Env} {ow ow' : Ow} {σ σ' : St} {H H' : Hp} {E : XK}
theorem for_yields {tg : Tg} {body : M Fl} {ds : List Dt} {G : Hp} {J : It} {D : Ends} {env0 : Env} {ow0 : Ow} {H0 : Hp} (P : PostS env0 ow0 H0 env ow H) (S : SR K mg ex env ow σ H) (l : Le G (cut (lim ex ow) H)) (y : Yields K mg G J ds)
    (w : WP (forL tg body ds) env (kF K mg ex env0 ow0 H0 D) (kY K mg ex env0 ow0 H0 E)) :
    ∃ W : Nat → Nat → St → Hp → Prop, (∃ m, W 0 m σ H) ∧ ∀ i m σ H, W i m σ H →
      (J.stop i H ∧ D.nx σ H) ∨ (J.go i H ∧ ∃ N : St → Hp → Prop, (∀ σ' H', N σ' H' → ∃ m', m' < m ∧ W (i + 1) m' σ' H') ∧ ∀ x H', J.yld i H x H' → tG K mg tg x σ H' fun σ2 H2 => tS K mg E body { D with nx := N, ct := N, bk := D.nx } σ2 H2) := by
  refine ⟨fun i m σ1 H1 => m = ds.length - i ∧ i ≤ ds.length ∧ ∃ env1 ow1, PostS env0 ow0 H0 env1 ow1 H1 ∧ SR K mg ex env1 ow1 σ1 H1 ∧ Le G (cut (lim ex ow1) H1) ∧ WP (forL tg body (ds.drop i)) env1 (kF K mg ex env0 ow0 H0 D) (kY K mg ex env0 ow0 H0 E),
    ⟨ds.length, by simp, Nat.zero_le _, env, ow, P, S, l, by simpa using w⟩, ?_⟩
  rintro i m σ1 H1 ⟨rfl, hi, env1, ow1, P1, S1, l1, w1⟩
  by_cases hlt : i < ds.length
  · refine .inr ⟨y.go i H1 (l1.trans (cut_le _ _)) hlt, fun σ2 H2 => ∃ env2 ow2, PostS env0 ow0 H0 env2 ow2 H2 ∧ SR K mg ex env2 ow2 σ2 H2 ∧ Le G (cut (lim ex ow2) H2) ∧ WP (forL tg body (ds.drop (i + 1))) env2 (kF K mg ex env0 ow0 H0 D) (kY K mg ex env0 ow0 H0 E), ?_, ?_⟩
    · rintro σ2 H2 ⟨env2, ow2, h⟩
      exact ⟨ds.length - (i + 1), by omega, rfl, hlt, env2, ow2, h⟩
    · intro x H2 q
      obtain ⟨l2, d, hd, r⟩ := y.yld (lim ex ow1) i H1 x H2 (fun a z => S1.there z) l1 hlt q
      have S2 := S1.le l2
      have P2 : PostS env0 ow0 H0 env1 ow1 H2 := P1.trans ((Post.le l2).s S2)
      have l12 : Le G (cut (lim ex ow1) H2) := l1.trans (cut_keep (fun _ h _ => h) fun a o e _ => l2 a o e)
      have hd' : ds.drop i = d :: ds.drop (i + 1) := by
        have e1 : ds[i]? = some (ds[i]'hlt) := List.getElem?_eq_getElem hlt
        rw [e1] at hd
        have e2 : ds[i]'hlt = d := Option.some.inj hd
        rw [← e2]
        exact List.drop_eq_getElem_cons hlt
      rw [hd'] at w1
      refine ⟨ex, env1, ow1, d, S2, r, (WP.bind.mp (show WP ((tg d).bind _) env1 _ _ from w1)).mono (fun f env3 w3 => ?_) fun _ _ _ => True.intro⟩
      intro σ3 H3 ow3 P3 S3
      refine ⟨ex, env3, ow3, S3, (WP.bind.mp w3).mono (fun g env4 w4 => ?_) fun _ _ z => z.go (P2.trans P3)⟩
      have nx : WP (forL tg body (ds.drop (i + 1))) env4 (kF K mg ex env0 ow0 H0 D) (kY K mg ex env0 ow0 H0 E) → ∀ σ4 H4 ow4, PostS env3 ow3 H3 env4 ow4 H4 → SR K mg ex env4 ow4 σ4 H4 →
          ∃ env2 ow2, PostS env0 ow0 H0 env2 ow2 H4 ∧ SR K mg ex env2 ow2 σ4 H4 ∧ Le G (cut (lim ex ow2) H4) ∧ WP (forL tg body (ds.drop (i + 1))) env2 (kF K mg ex env0 ow0 H0 D) (kY K mg ex env0 ow0 H0 E) :=
        fun w5 σ4 H4 ow4 P4 S4 => ⟨env4, ow4, (P2.trans P3).trans P4, S4, (l12.trans P3.cut).trans P4.cut, w5⟩
      cases g with
      | nx => exact nx w4
      | ct => exact nx w4
      | bk => exact fun σ4 H4 ow4 P4 S4 => w4 σ4 H4 ow4 ((P2.trans P3).trans P4) S4
      | rt d o => exact fun v σ4 H4 ow4 P4 R4 => w4 v σ4 H4 ow4 ((P2.trans P3).trans P4) (R4.go (P2.trans P3))
  · have e : i = ds.length := by omega
    subst e
    rw [List.drop_length] at w1
    exact .inl ⟨y.stop _ H1 (l1.trans (cut_le _ _)) (Nat.le_refl _), w1 σ1 H1 ow1 P1 S1⟩
end
section
variable {X : Cx} {E : XK} {tg iter : Expr} {body : List Stmt} {pos : Pos} {src : M (List Dt)} {t : Tg} {b : M Fl}
theorem ds_for (hp : PassesOwn (model X.prog X.w) X.A X.env X.xe) (hc : X.calm = true) (hi : DI X E tg iter src) (hg : DG X tg t) (hb : DB X E body b) (hs : ∀ x, foldedSetIterable iter X.env x = pure x := by intro _; rfl) : DS X E (.For tg iter body [] pos) (mFor src t b) :=
  PS.weak (ps_for hp hc hi hg hb hs) fun D σ H ⟨ex, env, ow, S, w⟩ => ⟨ex, env, ow, S, (WP.bind.mp w).mono (fun ds env1 w1 H1 ow1 J G P1 S1 l y => for_yields (P1.s S1) S1 l y w1) fun _ _ z => z.x⟩
end
end DL

/-! DLf: what is walked, lists that are written. -/
namespace DL
open PySem L2

/-- a list, a tuple or a text -/
def iSeq (K : PySem.W.Frag) (tl : TE) : TI := fun σ H R => tl σ H fun x H1 => (∃ a xs, x = .ref a ∧ SqL K H1 a xs ∧ R (Itl K a) H1) ∨ (∃ a xs, x = .ref a ∧ SqT K H1 a xs ∧ R (Itt K a) H1) ∨ ∃ z, x = .str z ∧ R (Its z) H1
theorem pi_seq {X : Cx} {tg l : Expr} {tl : TE} (hl : PE X l tl) : PI X tg l (iSeq X.K tl) := by
  refine ⟨fun pins s σ H R I h => ?_⟩
  refine thn (hl.run pins s σ H _ I h) fun v s1 ⟨x, H1, I1, r1, q1⟩ => ?_
  rcases q1 with ⟨a, xs, e, hq, q⟩ | ⟨a, xs, e, hq, q⟩ | ⟨z, e, q⟩
  · subst e
    cases r1
    obtain ⟨its, rv, p, hz⟩ := I1.list hq
    refine wpAny_pyIter_list p.isList ?_
    refine ⟨s1.heap.objs.size, [s1.heap.objs.size], _, _, H1, rfl, I1.kept (t' := s1.toks) fun b o e => Heap.get?_push_of_some _ e, turn_list a _, ⟨_, Heap.get?_push_size _ rfl, rfl, rfl⟩, fun b hb => ?_, q⟩
    have e : b = s1.heap.objs.size := by simpa using hb
    subst e
    exact I1.fpOk (Nat.le_refl _) (I1.hok.fresh (Nat.le_refl _))
  · subst e
    cases r1
    obtain ⟨its, rv, p, hz⟩ := I1.tuple hq
    refine wpAny_pyIter_tuple (show s1.heap.IsTuple a its.toArray from p) ?_
    refine ⟨s1.heap.objs.size, [s1.heap.objs.size], _, _, H1, rfl, I1.kept (t' := s1.toks) fun b o e => Heap.get?_push_of_some _ e, turn_tuple a _, ⟨_, Heap.get?_push_size _ rfl, rfl, rfl⟩, fun b hb => ?_, q⟩
    have e : b = s1.heap.objs.size := by simpa using hb
    subst e
    exact I1.fpOk (Nat.le_refl _) (I1.hok.fresh (Nat.le_refl _))
  · subst e
    obtain ⟨t, rfl⟩ := r1
    cases ha : z.cps.all (· < 128)
    · exact wpAny_pyIter_wide ha (pi_one (tk := s1.toks) I1 _ (turn_str _ z t "str_iterator" (.inr rfl)) ⟨_, Heap.get?_push_size _ rfl, rfl, rfl⟩ q)
    · exact wpAny_pyIter_ascii ha (pi_one (tk := s1.toks) I1 _ (turn_str _ z t "str_ascii_iterator" (.inl rfl)) ⟨_, Heap.get?_push_size _ rfl, rfl, rfl⟩ q)

def itemsD (d : Dt) : M (List Dt) := fun env => match d with
  | .lst ds => some (.ok ds env)
  | .scr ds => some (.ok ds env)
  | .tup ds => some (.ok ds env)
  | .str s => some (.ok (signs s.cps.toList) env)
  | _ => none
def mItems (m : M R) : M (List Dt) := m.bind fun r => (frz r).bind itemsD
def bndR (a b : Int) : Prop := -1000000000 ≤ a ∧ a ≤ 1000000000 ∧ -1000000000 ≤ b ∧ b ≤ 1000000000
instance (a b : Int) : Decidable (bndR a b) := by unfold bndR; infer_instance
def rng1 (l : List R) : M (List Dt) := fun env => match rsA env l with
  | some [.int n] => if bndR 0 n then some (.ok (rangeD 0 n.toNat) env) else none
  | _ => none
def rng2 (l : List R) : M (List Dt) := fun env => match rsA env l with
  | some [.int a, .int b] => if bndR a b then some (.ok (rangeD a (b - a).toNat) env) else none
  | _ => none
def mRng1 (a : M R) : M (List Dt) := (mA [a]).bind rng1
def mRng2 (a b : M R) : M (List Dt) := (mA [a, b]).bind rng2
def enum1 (l : List R) : M (List Dt) := match l with
  | [r] => (frz r).bind fun d => (itemsD d).bind fun ds => M.pure (enumD 0 ds)
  | _ => fun _ => none
def mEnum (a : M R) : M (List Dt) := (mA [a]).bind enum1

section
variable {K : PySem.W.Frag} {mg : Str → Option Value} {ex ex' : Addr → Prop} {env env' env'' : Env} {ow ow' ow'' : Ow} {σ σ' : St} {H H' H'' : Hp} {E : XK}
theorem WP.itemsD {d : Dt} {v : V} {L : Addr → Prop} {k : List Dt → Env → Prop} {x : Xn → Env → Prop} (r : Rep K mg (DL.cut L H) v d) (w : WP (itemsD d) env k x) :
    (∃ a xs ds, v = .ref a ∧ SqL K (DL.cut L H) a xs ∧ RepA K mg (DL.cut L H) xs ds ∧ k ds env) ∨ (∃ a xs ds, v = .ref a ∧ SqT K (DL.cut L H) a xs ∧ RepA K mg (DL.cut L H) xs ds ∧ k ds env) ∨ ∃ z, v = .str z ∧ k (signs z.cps.toList) env := by
  cases d with
  | lst ds => cases r with | lst h1 h2 => exact .inl ⟨_, _, _, rfl, SqL.of h1, h2, w⟩
  | scr ds => cases r with | scr h1 h2 => exact .inl ⟨_, _, _, rfl, h1, h2, w⟩
  | tup ds => cases r with | tup h1 h2 => exact .inr (.inl ⟨_, _, _, rfl, h1, h2, w⟩)
  | str s => cases r; exact .inr (.inr ⟨_, rfl, w⟩)
  | _ => exact w.elim
theorem t_items {m : M R} (σ : St) (H : Hp) (R : It → Hp → Prop) (h : tI K mg E (mItems m) σ H R) : iSeq K (tM K mg E m) σ H R := by
  obtain ⟨ex, env, ow, S, w⟩ := h
  refine ⟨ex, env, ow, S, (WP.bind.mp w).mono (fun ra env1 w1 v1 H1 ow1 P1 R1 => ?_) fun _ _ z => z⟩
  obtain ⟨d, env2, ow2, S2, P2, r2, w2⟩ := WP.frz R1.sr (R1.held S.tr) (WP.bind.mp w1)
  rcases WP.itemsD r2 w2 with ⟨a, xs, ds, e, h1, h2, k⟩ | ⟨a, xs, ds, e, h1, h2, k⟩ | ⟨z, e, k⟩
  · exact .inl ⟨a, xs, e, (cut_le _ _).l h1, k H1 ow2 _ _ (P1.trans P2) S2 (.refl _) (yields_list h1 h2)⟩
  · exact .inr (.inl ⟨a, xs, e, (cut_le _ _).t h1, k H1 ow2 _ _ (P1.trans P2) S2 (.refl _) (yields_tup h1 h2)⟩)
  · exact .inr (.inr ⟨z, e, k H1 ow2 _ _ (P1.trans P2) S2 (.refl _) (yields_str z)⟩)
theorem Paired.one {α β : Type} {F : α → β → Prop} : ∀ {x : List α} {b : β}, Paired F x [b] → ∃ a, x = [a] ∧ F a b
  | _, _, .cons h .nil => ⟨_, rfl, h⟩
theorem Paired.two {α β : Type} {F : α → β → Prop} : ∀ {x : List α} {b c : β}, Paired F x [b, c] → ∃ a a', x = [a, a'] ∧ F a b ∧ F a' c
  | _, _, _, .cons h (.cons h' .nil) => ⟨_, _, rfl, h, h'⟩
theorem t_rng1 {a : M R} (σ : St) (H : Hp) (R : It → Hp → Prop) (h : tI K mg E (mRng1 a) σ H R) : iRng1 (tMa K mg E (mA [a])) σ H R := by
  obtain ⟨ex, env, ow, S, w⟩ := h
  refine ⟨ex, env, ow, S, (WP.bind.mp w).mono (fun l env1 w1 vs H1 ow1 P1 S1 hh => ?_) fun _ _ z => z⟩
  unfold WP rng1 at w1
  cases e : rsA env1 l with
  | none => simp only [e] at w1
  | some ds =>
    have q := rsA_rdb S1 hh e
    rw [e] at w1
    split at w1
    · rename_i r env' heq
      split at heq
      · rename_i n hab
        cases hab
        obtain ⟨v, e1, q1⟩ := Paired.one q
        have e2 := q1.int
        subst e2
        by_cases hb : bndR 0 n
        · rw [if_pos hb] at heq
          cases heq
          unfold bndR at hb
          exact ⟨n, e1, by omega, by omega, w1 H1 ow1 _ _ P1 S1 (.refl _) (yields_range 0 n.toNat)⟩
        · rw [if_neg hb] at heq; cases heq
      · cases heq
    · rename_i z env' heq
      split at heq
      · split at heq <;> cases heq
      · cases heq
    · exact w1.elim
theorem t_rng2 {a b : M R} (σ : St) (H : Hp) (R : It → Hp → Prop) (h : tI K mg E (mRng2 a b) σ H R) : iRng2 (tMa K mg E (mA [a, b])) σ H R := by
  obtain ⟨ex, env, ow, S, w⟩ := h
  refine ⟨ex, env, ow, S, (WP.bind.mp w).mono (fun l env1 w1 vs H1 ow1 P1 S1 hh => ?_) fun _ _ z => z⟩
  unfold WP rng2 at w1
  cases e : rsA env1 l with
  | none => simp only [e] at w1
  | some ds =>
    have q := rsA_rdb S1 hh e
    rw [e] at w1
    split at w1
    · rename_i r env' heq
      split at heq
      · rename_i a b hab
        cases hab
        obtain ⟨v, v', e1, q1, q2⟩ := Paired.two q
        have e2 := q1.int
        have e3 := q2.int
        subst e2; subst e3
        by_cases hb : bndR a b
        · rw [if_pos hb] at heq
          cases heq
          unfold bndR at hb
          exact ⟨a, b, e1, ⟨by omega, by omega, by omega, by omega⟩, w1 H1 ow1 _ _ P1 S1 (.refl _) (yields_range a (b - a).toNat)⟩
        · rw [if_neg hb] at heq; cases heq
      · cases heq
    · rename_i z env' heq
      split at heq
      · split at heq <;> cases heq
      · cases heq
    · exact w1.elim
end
section
variable {X : Cx} {E : XK} {tg a b : Expr} {es : List Expr} {p pos : Pos} {ma mb : M R}
theorem di_seq (h : DE X E a ma) : DI X E tg a (mItems ma) := PI.weak (pi_seq h) t_items
theorem di_rng1 (hg : Gl X "range") (hm : X.mg "range" = none) (ha : DE X E a ma) (hs : starEach [a] X.env = [(false, eval a X.env)] := by rfl) : DI X E tg (.Call (.Name "range" p) [a] [] pos) (mRng1 ma) := PI.weak (pi_range1 hg hm (da_cons ha da_nil (by rw [hs] <;> rfl)) hs) t_rng1
theorem di_rng2 (hg : Gl X "range") (hm : X.mg "range" = none) (ha : DE X E a ma) (hb : DE X E b mb) (hs : starEach [a, b] X.env = [(false, eval a X.env), (false, eval b X.env)] := by rfl) (hs2 : starEach [b] X.env = [(false, eval b X.env)] := by rfl) :
    DI X E tg (.Call (.Name "range" p) [a, b] [] pos) (mRng2 ma mb) := PI.weak (pi_range2 hg hm (da_cons ha (da_cons hb da_nil (by rw [hs2] <;> rfl)) (by rw [hs, hs2] <;> rfl)) hs hs2) t_rng2
end

/-! ### lists that are written -/
def frzA : List R → M (List Dt)
  | [] => M.pure []
  | r :: l => (frz r).bind fun d => (frzA l).bind fun ds => M.pure (d :: ds)
def mutS (i : Nat) (g : List Dt → List Dt → Option (List Dt × Dt)) (es : List Dt) : M R := fun env => match gs env i with
  | some (.lst ds, .ow) => match g ds es with
    | some (ys, d) => some (.ok (.val d) (env.set i (some (.lst ys, .ow))))
    | none => none
  | some (.lst ds, .io) => match g ds es with
    | some (ys, d) => some (.ok (.val d) (env.set i (some (.lst ys, .io))))
    | none => none
  | _ => none
def mMut (i : Nat) (g : List Dt → List Dt → Option (List Dt × Dt)) (l : List (M R)) : M R := (mN i).bind fun _ => (mA l).bind fun rs => (frzA rs).bind (mutS i g)
def MutS (K : PySem.W.Frag) (mg : Str → Option Value) (r : V → List V → Hp → VK → Prop) (g : List Dt → List Dt → Option (List Dt × Dt)) : Prop :=
  ∀ (G H : Hp) (l : Addr) (xs vs : List V) (ds es ys : List Dt) (d : Dt) (Q : VK), Le G H → H l = some (.lst xs) → RepA K mg G xs ds → RepA K mg G vs es → g ds es = some (ys, d) →
    (∀ v zs, RepA K mg G zs ys → Rep K mg G v d → Q v (upd H l (.lst zs))) → r (.ref l) vs H Q
section
variable {K : PySem.W.Frag} {mg : Str → Option Value} {ex ex' : Addr → Prop} {env env' env'' : Env} {ow ow' ow'' : Ow} {σ σ' : St} {H H' H'' : Hp} {E : XK}
theorem cut_upd {L : Addr → Prop} {a : Addr} {o : HO} (h : L a) : cut L (upd H a o) = cut L H := by
  funext b
  unfold cut
  by_cases e : L b
  · rw [if_pos e, if_pos e]
  · rw [if_neg e, if_neg e, upd_ne]
    intro z; subst z; exact e h
theorem SR.write {i : Nat} {a : Addr} {ob : HO} {d d' : Dt} {m : Md} (S : SR K mg ex env ow σ H) (hm : m = .ow ∨ m = .io) (h : gs env i = some (d, m)) (ha : ow i = some a) (r : OwnR K mg (cut (lim ex ow) H) ob d') : SR K mg ex (env.set i (some (d', m))) ow σ (upd H a ob) := by
  have la : lim ex ow a := .inr ⟨i, ha⟩
  have hi : i < env.length := by
    unfold gs at h
    cases z : env[i]? with
    | none => rw [z] at h; cases h
    | some y => exact (List.getElem?_eq_some_iff.mp z).1
  refine ⟨by simpa using S.len, fun j => ?_, S.inj, S.dis, fun b z => ?_⟩
  · rw [cut_upd la]
    by_cases e : j = i
    · subst e
      rw [gs_set_self hi]
      have q := S.slot j
      rw [h] at q
      rcases hm with rfl | rfl
      · obtain ⟨a', ob', e1, e2, e3, _⟩ := q
        rw [ha] at e1; cases e1
        exact ⟨a, ob, ha, e2, upd_same, r⟩
      · obtain ⟨a', ob', e1, e2, e3, _⟩ := q
        rw [ha] at e1; cases e1
        exact ⟨a, ob, ha, e2, upd_same, r⟩
    · rw [gs_set_ne (Ne.symm e)]
      have q := S.slot j
      have keep : ∀ b o, ow j = some b → H b = some o → upd H a ob b = some o := fun b o hb ho => by
        rw [upd_ne (fun z => e (S.inj j i a (by rw [← z]; exact hb) ha))]
        exact ho
      cases z : gs env j with
      | none => rw [z] at q; exact q
      | some y =>
        obtain ⟨dj, mj⟩ := y
        rw [z] at q
        cases mj with
        | fz => exact q
        | ow => obtain ⟨b, o, e1, e2, e3, r⟩ := q; exact ⟨b, o, e1, e2, keep b o e1 e3, r⟩
        | io => obtain ⟨b, o, e1, e2, e3, r⟩ := q; exact ⟨b, o, e1, e2, keep b o e1 e3, r⟩
  · rw [upd_ne (fun e => S.dis i a ha (by rw [← e]; exact z))]
    exact S.tr b z
theorem Post.write {i : Nat} {a : Addr} {ob : HO} {d d' : Dt} {m : Md} (h : gs env i = some (d, m)) (ha : ow i = some a) : Post env ow H (env.set i (some (d', m))) ow (upd H a ob) := by
  refine ⟨fun b o e n => ?_, fun _ _ h => h, fun j d0 e => ?_, fun b e => ?_⟩
  · rw [upd_ne (fun z => n ⟨i, by rw [z]; exact ha⟩)]; exact e
  · by_cases z : i = j
    · subst z
      rw [h] at e; cases e
      have hi : i < env.length := by
        unfold gs at h
        cases z : env[i]? with
        | none => rw [z] at h; cases h
        | some y => exact (List.getElem?_eq_some_iff.mp z).1
      exact ⟨d', by rw [gs_set_self hi]⟩
    · exact ⟨d0, by rw [gs_set_ne z]; exact e⟩
  · by_cases z : b = a
    · subst z; rw [upd_same]; exact fun q => nomatch q
    · rw [upd_ne z]; exact e
theorem WP.frzA {x : Xn → Env → Prop} : ∀ {l : List R} {vs : List V} {env : Env} {ow : Ow} {k : List Dt → Env → Prop}, SR K mg ex env ow σ H → Paired (Held K mg ex ow σ H) l vs → WP (frzA l) env k x →
    ∃ ds env' ow', SR K mg ex env' ow' σ H ∧ Post env ow H env' ow' H ∧ RepA K mg (DL.cut (lim ex ow') H) vs ds ∧ k ds env'
  | [], _, env, ow, k, S, .nil, w => ⟨[], env, ow, S, .refl, .nil, w⟩
  | r :: l, v :: vs, env, ow, k, S, .cons h t, w => by
    obtain ⟨d, env1, ow1, S1, P1, r1, w1⟩ := WP.frz S h (WP.bind.mp (show WP ((DL.frz r).bind _) env _ _ from w))
    obtain ⟨ds, env2, ow2, S2, P2, r2, w2⟩ := WP.frzA (x := x) S1 (Held.postA S P1 t) (WP.bind.mp w1)
    exact ⟨d :: ds, env2, ow2, S2, P1.trans P2, .cons (r1.mono (P2.cut S1)) r2, w2⟩
/-- a slot's object is written -/
theorem WP.mutS {r : V → List V → Hp → VK → Prop} {g : List Dt → List Dt → Option (List Dt × Dt)} (hg : MutS K mg r g) {i : Nat} {x : V} {vs : List V} {es : List Dt} {k : R → Env → Prop} {xx : Xn → Env → Prop} {Q : VK} (S : SR K mg ex env ow σ H) (hx : gv σ i = some x)
    (rv : RepA K mg (DL.cut (lim ex ow) H) vs es) (w : WP (mutS i g es) env k xx)
    (fin : ∀ d env' v H', SR K mg ex env' ow σ H' → Post env ow H env' ow H' → Rep K mg (DL.cut (lim ex ow) H') v d → k (.val d) env' → Q v H') : r x vs H Q := by
  unfold WP DL.mutS at w
  have q := S.slot i
  rw [hx] at q
  have go : ∀ (ds : List Dt) (m : Md), (m = .ow ∨ m = .io) → gs env i = some (.lst ds, m) → ∀ ys d, g ds es = some (ys, d) → k (.val d) (env.set i (some (.lst ys, m))) → r x vs H Q := fun ds m hm e ys d e2 kk => by
    have q' : ∃ a ob, ow i = some a ∧ some x = some (.ref a) ∧ H a = some ob ∧ OwnR K mg (DL.cut (lim ex ow) H) ob (.lst ds) := by
      rw [e] at q
      rcases hm with rfl | rfl
      · exact q
      · exact q
    obtain ⟨a, ob, e3, e4, e5, xs, ds', e6, e7, rr⟩ := q'
    cases e4; cases e7; subst e6
    refine hg (DL.cut (lim ex ow) H) H a xs vs ds es ys d Q (cut_le _ _) e5 rr rv e2 fun v zs r1 r2 => ?_
    refine fin d _ v _ (S.write hm e e3 ⟨zs, ys, rfl, rfl, r1⟩) (.write e e3) ?_ kk
    rw [cut_upd (.inr ⟨i, e3⟩)]
    exact r2
  cases e : gs env i with
  | none => simp only [e] at w
  | some y =>
    obtain ⟨d0, m⟩ := y
    cases d0 with
    | lst ds =>
      cases m with
      | fz => simp only [e] at w
      | ow =>
        cases e2 : g ds es with
        | none => simp only [e, e2] at w
        | some p =>
          obtain ⟨ys, d⟩ := p
          simp only [e, e2] at w
          exact go ds .ow (.inl rfl) e ys d e2 w
      | io =>
        cases e2 : g ds es with
        | none => simp only [e, e2] at w
        | some p =>
          obtain ⟨ys, d⟩ := p
          simp only [e, e2] at w
          exact go ds .io (.inr rfl) e ys d e2 w
    | _ => simp only [e] at w
theorem WP.mN {i : Nat} {k : R → Env → Prop} {x : Xn → Env → Prop} (S : SR K mg ex env ow σ H) (w : WP (mN i) env k x) : ∃ v r, gv σ i = some v ∧ k r env ∧ ROk K mg ex env ow σ H H r v := by
  unfold WP DL.mN at w
  have q := S.slot i
  cases e : gs env i with
  | none => simp only [e] at w
  | some y =>
    obtain ⟨d, m⟩ := y
    rw [e] at q
    cases m with
    | fz =>
      simp only [e] at w
      obtain ⟨_, v, e1, r⟩ := q
      exact ⟨v, _, e1, w, S, r⟩
    | ow =>
      simp only [e] at w
      obtain ⟨a, ob, _, e1, _⟩ := q
      exact ⟨_, _, e1, w, S, e1, by rw [e]; exact fun z => nomatch z⟩
    | io =>
      simp only [e] at w
      obtain ⟨a, ob, _, e1, _⟩ := q
      exact ⟨_, _, e1, w, S, e1, by rw [e]; exact fun z => nomatch z⟩
/-- an owned slot holds a list -/
theorem SR.isList (S : SR K mg ex env ow σ H) {i : Nat} {v : V} (hv : gv σ i = some v) {d : Dt} {m : Md} (e : gs env i = some (d, m)) (hm : m = .ow ∨ m = .io) : ∃ a xs, v = .ref a ∧ H a = some (.lst xs) := by
  have q := S.slot i
  rw [e, hv] at q
  have q' : ∃ a ob, ow i = some a ∧ some v = some (.ref a) ∧ H a = some ob ∧ OwnR K mg (DL.cut (lim ex ow) H) ob d := by
    rcases hm with rfl | rfl
    · exact q
    · exact q
  obtain ⟨a, ob, _, e2, e3, xs, ds, e4, _, _⟩ := q'
  cases e2; subst e4
  exact ⟨a, xs, rfl, e3⟩
end
end DL

/-! DLg: methods and items of lists that are written. -/
namespace DL
open PySem L2

/-- a slot that holds a list of ours -/
def mLs (i : Nat) : M R := fun env => match gs env i with
  | some (.lst _, .ow) => some (.ok (.loc i) env)
  | some (.lst _, .io) => some (.ok (.loc i) env)
  | _ => none
def mMt (i : Nat) (g : List Dt → List Dt → Option (List Dt × Dt)) (l : List (M R)) : M R := (mLs i).bind fun _ => (mA l).bind fun rs => (frzA rs).bind (mutS i g)
/-- xs[k] = v -/
def setIx (i : Nat) (d : Dt) (r : R) : M Fl := fun env => match rs env r with
  | some (.int k) => match gs env i with
    | some (.lst ds, .ow) => match ixN ds.length k with
      | some j => some (.ok .nx (env.set i (some (.lst (ds.set j d), .ow))))
      | none => none
    | some (.lst ds, .io) => match ixN ds.length k with
      | some j => some (.ok .nx (env.set i (some (.lst (ds.set j d), .io))))
      | none => none
    | _ => none
  | _ => none
def gIx (i : Nat) (mi : M R) : Tg := fun d => (mLs i).bind fun _ => mi.bind (setIx i d)
def mAsg (m : M R) (t : Tg) : M Fl := m.bind fun r => (frz r).bind fun d => (t d).bind fun _ => M.pure .nx

section
variable {K : PySem.W.Frag} {mg : Str → Option Value} {ex ex' : Addr → Prop} {env env' env'' : Env} {ow ow' ow'' : Ow} {σ σ' : St} {H H' H'' : Hp} {E : XK}
theorem WP.mLs {i : Nat} {k : R → Env → Prop} {x : Xn → Env → Prop} (S : SR K mg ex env ow σ H) (w : WP (mLs i) env k x) : ∃ a xs, gv σ i = some (.ref a) ∧ H a = some (.lst xs) ∧ k (.loc i) env ∧ gs env i ≠ none := by
  unfold WP DL.mLs at w
  have q := S.slot i
  cases e : gs env i with
  | none => simp only [e] at w
  | some y =>
    obtain ⟨d, m⟩ := y
    rw [e] at q
    cases d with
    | lst ds =>
      cases m with
      | fz => simp only [e] at w
      | ow =>
        simp only [e] at w
        obtain ⟨a, ob, _, e1, e2, xs, ds', e3, e4, _⟩ := q
        subst e3
        exact ⟨a, xs, e1, e2, w, fun z => nomatch z⟩
      | io =>
        simp only [e] at w
        obtain ⟨a, ob, _, e1, e2, xs, ds', e3, e4, _⟩ := q
        subst e3
        exact ⟨a, xs, e1, e2, w, fun z => nomatch z⟩
    | _ => simp only [e] at w
theorem WP.mLs' {i : Nat} {k : R → Env → Prop} {x : Xn → Env → Prop} (w : WP (DL.mLs i) env k x) : DL.mLs i env = some (.ok (.loc i) env) := by
  unfold WP at w
  unfold DL.mLs at w ⊢
  cases e : gs env i with
  | none => simp only [e] at w
  | some y =>
    obtain ⟨d, m⟩ := y
    cases d <;> cases m <;> first | rfl | (simp only [e] at w)
theorem t_mls {i : Nat} (σ : St) (H : Hp) (Q : VK) (h : tM K mg E (mLs i) σ H Q) : tVar i σ H Q := by
  obtain ⟨ex, env, ow, S, w⟩ := h
  obtain ⟨a, xs, e1, e2, k, ne⟩ := WP.mLs S w
  exact ⟨_, gv_some e1, k _ H ow .refl ⟨S, e1, ne⟩⟩
theorem t_mt {r : V → List V → Hp → VK → Prop} {g : List Dt → List Dt → Option (List Dt × Dt)} {i : Nat} {l : List (M R)} (hg : MutS K mg r g) (σ : St) (H : Hp) (Q : VK) (h : tM K mg E (mMt i g l) σ H Q) : tBM K "list" r (tM K mg E (mLs i)) (tMa K mg E (mA l)) σ H Q := by
  obtain ⟨ex, env, ow, S, w⟩ := h
  obtain ⟨a, xs, e1, e2, k, ne⟩ := WP.mLs S (WP.bind.mp w)
  have hl := WP.mLs' (WP.bind.mp w)
  refine ⟨ex, env, ow, S, ?_⟩
  unfold WP
  rw [hl]
  intro v H1 ow1 P1 R1
  obtain ⟨S1, hv, _⟩ := R1
  rw [e1] at hv; cases hv
  have q1 : ∃ ys, H1 a = some (.lst ys) := by
    have z : gs env i ≠ none := ne
    cases e : gs env i with
    | none => exact absurd e z
    | some y =>
      obtain ⟨d, m⟩ := y
      have hm : m = .ow ∨ m = .io := by
        unfold DL.mLs at hl
        rw [e] at hl
        cases d <;> cases m <;> first | exact .inl rfl | exact .inr rfl | (cases hl)
      have qs := S1.slot i
      rw [e, e1] at qs
      have qs' : ∃ a' ob, ow1 i = some a' ∧ some (V.ref a) = some (V.ref a') ∧ H1 a' = some ob ∧ OwnR K mg (DL.cut (lim ex ow1) H1) ob d := by
        rcases hm with rfl | rfl
        · exact qs
        · exact qs
      obtain ⟨a', ob, _, e4, e5, ys, ds, e6, _, _⟩ := qs'
      cases e4; subst e6
      exact ⟨ys, e5⟩
  obtain ⟨ys, q1⟩ := q1
  refine ⟨.inl ⟨rfl, ys, SqL.of q1⟩, ex, env, ow1, S1, (WP.bind.mp k).mono (fun rs env2 w2 vs H2 ow2 P2 S2 hh => ?_) fun _ _ z => z.go P1⟩
  obtain ⟨es, env3, ow3, S3, P3, r3, w3⟩ := WP.frzA S2 hh (WP.bind.mp w2)
  exact WP.mutS hg S3 e1 r3 w3 fun d env4 v H4 S4 P4 r4 k4 => k4 v H4 ow3 (((P1.trans P2).trans P3).trans P4) ⟨S4, r4⟩
theorem t_mt0 {r : V → List V → Hp → VK → Prop} {g : List Dt → List Dt → Option (List Dt × Dt)} {i : Nat} (hg : MutS K mg r g) (σ : St) (H : Hp) (Q : VK) (h : tM K mg E (mMt i g []) σ H Q) : tBM0 K "list" r (tM K mg E (mLs i)) σ H Q := by
  obtain ⟨ex, env, ow, S, w⟩ := t_mt hg σ H Q h
  refine ⟨ex, env, ow, S, w.mono (fun ra env1 w1 v1 H1 ow1 P1 R1 => ?_) fun _ _ z => z⟩
  obtain ⟨ty, ex', env', ow', S', w'⟩ := w1 v1 H1 ow1 P1 R1
  exact ⟨ty, w' [] H1 ow' .refl S' .nil⟩
end
section
variable {X : Cx} {E : XK} {o e : Expr} {es : List Expr} {name : Str} {apos cpos pos : Pos} {id : String} {r : V → List V → Hp → VK → Prop} {i : Nat} {g : List Dt → List Dt → Option (List Dt × Dt)} {me : M R} {ml : List (M R)}
theorem dls (h : PE X o (tVar i)) : DE X E o (mLs i) := PE.weak h t_mls
theorem d_mt0 (slot : Slot "list" name id) (hty : typeOf (.builtin id) = pure (.type "method_descriptor")) (hm : MtR X id r) (hg : MutS X.K X.mg r g) (ho : PE X o (tVar i))
    (hbase : attributeBase o name X.env (eval o X.env) = eval o X.env := by rfl) (hline : (apos.endLine == cpos.line) = true := by rfl) : DE X E (.Call (.Attribute o name apos) [] [] cpos) (mMt i g []) :=
  PE.weak (pe_bm0 PySem.F.plainAttrs_list slot hty hm (dls (E := E) ho) hbase hline) (t_mt0 hg)
theorem d_mt (slot : Slot "list" name id) (hty : typeOf (.builtin id) = pure (.type "method_descriptor")) (hm : MtR X id r) (hg : MutS X.K X.mg r g) (ho : PE X o (tVar i)) (ha : DA X E (e :: es) ml)
    (hbase : attributeBase o name X.env (eval o X.env) = eval o X.env := by rfl)
    (hfew : ((backTo cpos (starEach (e :: es) X.env)).all (fun x => !x.1) && (backToKw cpos (keywordEach [] X.env)).all (fun x => x.1.isSome)
      && decide ((e :: es).length + ([] : List Keyword).length + (if ([] : List Keyword).isEmpty then 0 else 1) < 30)) = true := by rfl)
    (hline : (apos.endLine == cpos.line) = true := by rfl) (hs : starEach (e :: es) X.env = (false, eval e X.env) :: starEach es X.env := by rfl) (hplain : (backTo cpos (starEach es X.env)).any (·.1) = false := by rfl) :
    DE X E (.Call (.Attribute o name apos) (e :: es) [] cpos) (mMt i g ml) :=
  PE.weak (pe_bm PySem.F.plainAttrs_list slot hty hm (dls (E := E) ho) ha hbase hfew hline hs hplain) (t_mt hg)

def gApp : List Dt → List Dt → Option (List Dt × Dt) := fun ds es => match es with
  | [e] => if ds.length < 100000 then some (ds ++ [e], .non) else none
  | _ => none
def gPop : List Dt → List Dt → Option (List Dt × Dt) := fun ds es => match es with
  | [] => match ds[ds.length - 1]? with
    | some d => some (ds.dropLast, d)
    | none => none
  | _ => none
def gPopAt : List Dt → List Dt → Option (List Dt × Dt) := fun ds es => match es with
  | [.int k] => if 0 ≤ k ∧ k < ds.length ∧ ds.length ≤ 100000 then match ds[k.toNat]? with
    | some d => some (ds.eraseIdx k.toNat, d)
    | none => none
    else none
  | _ => none
theorem RepA.dropLast {K : PySem.W.Frag} {mg : Str → Option Value} {H : Hp} : ∀ {vs : List V} {ds : List Dt}, RepA K mg H vs ds → RepA K mg H vs.dropLast ds.dropLast
  | _, _, .nil => .nil
  | _, _, .cons r .nil => .nil
  | _, _, .cons r (.cons q t) => .cons r (RepA.dropLast (.cons q t))
theorem RepA.eraseIdx {K : PySem.W.Frag} {mg : Str → Option Value} {H : Hp} : ∀ {vs : List V} {ds : List Dt} (i : Nat), RepA K mg H vs ds → RepA K mg H (vs.eraseIdx i) (ds.eraseIdx i)
  | _, _, _, .nil => .nil
  | _, _, 0, .cons _ t => t
  | _, _, i + 1, .cons r t => .cons r (RepA.eraseIdx i t)
theorem mu_app {K : PySem.W.Frag} {mg : Str → Option Value} : MutS K mg rAppend gApp := by
  intro G H l xs vs ds es ys d Q hG hl r1 r2 e fin
  match es, r2, e with
  | [e1], .cons (v := v) r3 .nil, e =>
    by_cases h : ds.length < 100000
    · have e' : (if ds.length < 100000 then some (ds ++ [e1], Dt.non) else none) = some (ys, d) := e
      rw [if_pos h] at e'; cases e'
      exact ⟨l, xs, v, rfl, rfl, hl, by rw [r1.length]; exact Nat.lt_of_lt_of_le h (by decide), fin .non _ (r1.append (.cons r3 .nil)) .non⟩
    · have e' : (if ds.length < 100000 then some (ds ++ [e1], Dt.non) else none) = some (ys, d) := e
      rw [if_neg h] at e'; cases e'
theorem mu_pop {K : PySem.W.Frag} {mg : Str → Option Value} : MutS K mg rPop gPop := by
  intro G H l xs vs ds es ys d Q hG hl r1 r2 e fin
  match es, r2, e with
  | [], .nil, e =>
    cases h : ds[ds.length - 1]? with
    | none => simp only [gPop, h] at e; cases e
    | some z =>
      simp only [gPop, h] at e; cases e
      obtain ⟨v, h1, h2⟩ := r1.get h
      exact ⟨l, xs, v, rfl, rfl, hl, by rw [r1.length]; exact h1, fin v _ r1.dropLast h2⟩
theorem mu_popAt {K : PySem.W.Frag} {mg : Str → Option Value} : MutS K mg rPopAt gPopAt := by
  intro G H l xs vs ds es ys d Q hG hl r1 r2 e fin
  match es, r2, e with
  | [.int k], .cons (v := v) r3 .nil, e =>
    cases r3
    have e' : (if 0 ≤ k ∧ k < ds.length ∧ ds.length ≤ 100000 then (match ds[k.toNat]? with
      | some d => some (ds.eraseIdx k.toNat, d)
      | none => none) else none) = some (ys, d) := e
    by_cases h : 0 ≤ k ∧ k < ds.length ∧ ds.length ≤ 100000
    · rw [if_pos h] at e'
      cases h2 : ds[k.toNat]? with
      | none => simp only [h2] at e'; cases e'
      | some z =>
        simp only [h2] at e'; cases e'
        obtain ⟨v, h3, h4⟩ := r1.get h2
        refine ⟨l, xs, k, k.toNat, v, rfl, rfl, hl, by omega, by omega, ?_, h3, fin v _ (r1.eraseIdx _) h4⟩
        exact PySem.StrLaws.seqIndex_nonneg h.1 (by rw [r1.length]; exact h.2.1)
    · rw [if_neg h] at e'; cases e'
theorem d_append (ho : PE X o (tVar i)) (ha : DE X E e me) (hbase : attributeBase o "append" X.env (eval o X.env) = eval o X.env := by rfl)
    (hfew : ((backTo cpos (starEach [e] X.env)).all (fun x => !x.1) && (backToKw cpos (keywordEach [] X.env)).all (fun x => x.1.isSome)
      && decide ([e].length + ([] : List Keyword).length + (if ([] : List Keyword).isEmpty then 0 else 1) < 30)) = true := by rfl)
    (hline : (apos.endLine == cpos.line) = true := by rfl) (hs : starEach [e] X.env = (false, eval e X.env) :: starEach [] X.env := by rfl) : DE X E (.Call (.Attribute o "append" apos) [e] [] cpos) (mMt i gApp [me]) :=
  d_mt PySem.F.slot_list_append PySem.F.type_list_append mt_append mu_app ho (da_cons ha da_nil hs) hbase hfew hline hs rfl
theorem d_pop (ho : PE X o (tVar i)) (hbase : attributeBase o "pop" X.env (eval o X.env) = eval o X.env := by rfl) (hline : (apos.endLine == cpos.line) = true := by rfl) : DE X E (.Call (.Attribute o "pop" apos) [] [] cpos) (mMt i gPop []) :=
  d_mt0 PySem.F.slot_list_pop PySem.F.type_list_pop mt_pop mu_pop ho hbase hline
theorem d_popAt (ho : PE X o (tVar i)) (ha : DE X E e me) (hbase : attributeBase o "pop" X.env (eval o X.env) = eval o X.env := by rfl)
    (hfew : ((backTo cpos (starEach [e] X.env)).all (fun x => !x.1) && (backToKw cpos (keywordEach [] X.env)).all (fun x => x.1.isSome)
      && decide ([e].length + ([] : List Keyword).length + (if ([] : List Keyword).isEmpty then 0 else 1) < 30)) = true := by rfl)
    (hline : (apos.endLine == cpos.line) = true := by rfl) (hs : starEach [e] X.env = (false, eval e X.env) :: starEach [] X.env := by rfl) : DE X E (.Call (.Attribute o "pop" apos) [e] [] cpos) (mMt i gPopAt [me]) :=
  d_mt PySem.F.slot_list_pop PySem.F.type_list_pop mt_popAt mu_popAt ho (da_cons ha da_nil hs) hbase hfew hline hs rfl
end
section
variable {K : PySem.W.Frag} {mg : Str → Option Value} {ex ex' : Addr → Prop} {env env' env'' : Env} {ow ow' ow'' : Ow} {σ σ' : St} {H H' H'' : Hp} {E : XK}
theorem WP.setIx {i : Nat} {d : Dt} {r : R} {x y v : V} {kk : Fl → Env → Prop} {xx : Xn → Env → Prop} {Q : Hp → Prop} (S : SR K mg ex env ow σ H) (hx : gv σ i = some x) (hy : Held K mg ex ow σ H r y) (rv : Rep K mg (DL.cut (lim ex ow) H) v d) (w : WP (setIx i d r) env kk xx)
    (fin : ∀ env' H', SR K mg ex env' ow σ H' → Post env ow H env' ow H' → kk .nx env' → Q H') : rSetL x y v H Q := by
  unfold WP DL.setIx at w
  cases e1 : rs env r with
  | none => simp only [e1] at w
  | some dk =>
    cases dk with
    | int k =>
      have hk := (hy.rdb S e1).int
      subst hk
      have go : ∀ (ds : List Dt) (m : Md), (m = .ow ∨ m = .io) → gs env i = some (.lst ds, m) → ∀ j, ixN ds.length k = some j → kk .nx (env.set i (some (.lst (ds.set j d), m))) → rSetL x (.int k) v H Q := fun ds m hm e j e2 w2 => by
        have q := S.slot i
        rw [hx] at q
        have q' : ∃ a ob, ow i = some a ∧ some x = some (.ref a) ∧ H a = some ob ∧ OwnR K mg (DL.cut (lim ex ow) H) ob (.lst ds) := by
          rw [e] at q
          rcases hm with rfl | rfl
          · exact q
          · exact q
        obtain ⟨a, ob, e3, e4, e5, xs, ds', e6, e7, rr⟩ := q'
        cases e4; cases e7; subst e6
        exact ⟨a, xs, k, j, rfl, rfl, e5, by rw [rr.length]; exact e2, fin _ _ (S.write hm e e3 ⟨_, _, rfl, rfl, rr.set rv j⟩) (.write e e3) w2⟩
      cases e : gs env i with
      | none => simp only [e1, e] at w
      | some y =>
        obtain ⟨d0, m⟩ := y
        cases d0 with
        | lst ds =>
          cases m with
          | fz => simp only [e1, e] at w
          | ow =>
            cases e2 : ixN ds.length k with
            | none => simp only [e1, e, e2] at w
            | some j => simp only [e1, e, e2] at w; exact go ds .ow (.inl rfl) e j e2 w
          | io =>
            cases e2 : ixN ds.length k with
            | none => simp only [e1, e, e2] at w
            | some j => simp only [e1, e, e2] at w; exact go ds .io (.inr rfl) e j e2 w
        | _ => simp only [e1, e] at w
    | _ => simp only [e1] at w
end
section
variable {X : Cx} {E : XK} {o idx e tg : Expr} {pos : Pos} {i : Nat} {mi m : M R} {t : Tg}
theorem dg_ix (ho : PE X o (tVar i)) (hi : DE X (fun _ _ _ => True) idx mi)
    (ha : ∀ v, assign (.Subscript o idx pos) X.env v = (do
      let ov ← holding [v] (eval o X.env)
      let iv ← holding [v, ov] (eval idx X.env)
      standAt pos
      holding [v, ov, iv] (setItem ov iv v)
      release [v, ov, iv] []) := by intro _; rfl) : DG X (.Subscript o idx pos) (gIx i mi) := PG.weak (pg_sub (dls (E := fun _ _ _ => True) ho) hi set_list ha) fun v σ H Q ⟨ex, env, ow, d, S, r, w⟩ => by
  obtain ⟨a, xs, e1, e2, k, ne⟩ := WP.mLs S (WP.bind.mp w)
  have hl := WP.mLs' (WP.bind.mp w)
  refine ⟨ex, env, ow, S, ?_⟩
  unfold WP
  rw [hl]
  intro v0 H0 ow0 P0 R0
  refine ⟨ex, env, ow0, R0.sr, (WP.bind.mp k).mono (fun r1 env1 w1 v1 H1 ow1 P1 R1 => ?_) fun _ _ _ => fun _ _ _ _ _ _ _ => True.intro⟩
  have hv0 : gv σ i = some v0 := R0.2.1
  refine WP.setIx R1.sr hv0 (R1.held R0.sr.tr) ((r.mono (P0.cut S)).mono (P1.cut R0.sr)) w1 fun env2 H2 S2 P2 k2 => ?_
  exact k2 σ H2 ow1 (((P0.trans P1).trans P2).s S2) S2
theorem ds_asg (he : DE X E e m) (hg : DG X tg t) (hs : swapsWithSole [tg] e pos.line X.env = pure false := by rfl) (hw : swappedStores [tg] e X.env = pure none := by rfl)
    (h1 : (assignEach [tg] X.env).map (·.2) = [assign tg X.env] := by rfl) : DS X E (.Assign [tg] e pos) (mAsg m t) :=
  PS.weak (ps_asg he hg hs hw h1) fun D σ H ⟨ex, env, ow, S, w⟩ => by
    refine ⟨ex, env, ow, S, (WP.bind.mp w).mono (fun r env1 w1 v H1 ow1 P1 R1 => ?_) fun _ _ z => z.x⟩
    obtain ⟨d, env2, ow2, S2, P2, r2, w2⟩ := WP.frz R1.sr (R1.held S.tr) (WP.bind.mp w1)
    refine ⟨ex, env2, ow2, d, S2, r2, (WP.bind.mp w2).mono (fun f env3 k => ?_) fun _ _ _ => True.intro⟩
    intro σ3 H3 ow3 P3 S3
    exact k σ3 H3 ow3 (((P1.trans P2).s S2).trans P3) S3
end
end DL

/-! DLh: defs by what they compute on data; calls of them. -/
namespace DL
open PySem L2

/-- what a call comes to: a value (frozen, or new), or an exception; with the lent lists behind it (.non where nothing is lent) -/
inductive Fr | ret (r : R) (outs : List Dt) | exc (x : Xn) (outs : List Dt)
structure Fs where
  io : List Md
  run : List Dt → Option Fr
def mixE : List Md → List Dt → List Dt → Env
  | .io :: ms, _ :: ds, o :: os => some (o, .io) :: mixE ms ds os
  | _ :: ms, d :: ds, _ :: os => some (d, .fz) :: mixE ms ds os
  | _, _, _ => []
def argE (io : List Md) (ds : List Dt) : Env := mixE io ds ds
def Keep (ow : Ow) (H H' : Hp) : Prop := (∀ a o, H a = some o → ¬ inO ow a → H' a = some o) ∧ ∀ a, H a ≠ none → H' a ≠ none
def isLoc : R → Bool
  | .loc _ => true
  | _ => false
/-- the promise of a def -/
def spOf (K : PySem.W.Frag) (mg : Str → Option Value) (n : Nat) (fs : Fs) : Sp := fun vs H Q E => vs.length = n ∧ ∃ ex ow ds, ds.length = n ∧ SR K mg ex (argE fs.io ds) ow (vs.map some) H ∧ match fs.run ds with
  | some (.ret r outs) => isLoc r = false ∧ ∀ v H', Keep ow H H' → ROk K mg ex (mixE fs.io ds outs) ow (vs.map some) H H' r v → Q v H'
  | some (.exc x outs) => ∀ cls d H', Keep ow H H' → SR K mg ex (mixE fs.io ds outs) ow (vs.map some) H' → XOk K mg (cut (lim ex ow) H') H' x cls d → E cls d H'
  | none => False

/-! ### a def where no guard runs -/
structure FnG (P : Program) (w : World) (K : PySem.W.Frag) (mg : Str → Option Value) (base : Heap) (k : Nat) (f : Addr) (fd : FuncData) (ps : List Str) (sp : Sp) : Prop where
  len : ∀ vs H Q E, sp vs H Q E → vs.length = ps.length
  run : ∀ (A : Around) (outer : List PySem.Env) (s : Shared) (H : Hp) (args : Args) (us : List Value) (vs : List V) (Q : VK) (E : XK), A.guards = some [] → Room k A → Env0 P w K mg base A outer s H → BindsTo s fd args (ps.zip us) → Vals vs us → sp vs H Q E →
    codeAny (model P w) A (.call (.ref f) args) (CR (L2.CX P w) outer P w H s Q E) s
theorem FnG.mono {P : Program} {w : World} {K : PySem.W.Frag} {mg : Str → Option Value} {base : Heap} {j k : Nat} {f : Addr} {fd : FuncData} {ps : List Str} {sp : Sp} (F : FnG P w K mg base j f fd ps sp) (h : j ≤ k) : FnG P w K mg base k f fd ps sp :=
  ⟨F.len, fun A outer s H args us vs Q E g hr => F.run A outer s H args us vs Q E g (hr.mono h)⟩

/-- what the body of a def may lean on -/
structure Bd (X : Cx) (k : Nat) (E : XK) : Prop where
  calm : X.calm = true
  room : Room k X.A
  gd : X.A.guards = some []
  ps : Passes (L2.CX X.prog X.w) X E
  own : PassesOwn (model X.prog X.w) X.A X.env X.xe
  tk : Takes X (fun cls d _ H => E cls d H)

section
variable {P : Program} {w : World} {K : PySem.W.Frag} {mg : Str → Option Value} {base : Heap}
/-- by its body -/
theorem fn_body {x qual : Str} {st : Stmt} {f : Addr} {fd : FuncData} {N ps : List Str} {k : Nat} {sp : Sp} (F : Fun K x qual st f fd) (S : FnScope N ps (defScope st)) (len : ∀ vs H Q E, sp vs H Q E → vs.length = ps.length)
    (hbody : ∀ (cdv : Value) (A : Around) (outer : List PySem.Env) (s : Shared) (H : Hp) (vs : List V) (Q : VK) (E : XK), Bd (cxOf (L2.CX P w) P w K mg base N qual (defScope st) f cdv A outer s H E) k E → sp vs H Q E →
      ∃ t, PSs (cxOf (L2.CX P w) P w K mg base N qual (defScope st) f cdv A outer s H E) (defBody st) t ∧ t { nx := fun _ H' => Q .non H', rt := Q } (start N vs) H) : FnG P w K mg base (k + 1) f fd ps sp := by
  obtain ⟨oc, od, kV, doc, pm, an, cdv, ct, osl, rfl, lk, hcd⟩ := F.ex
  refine ⟨len, fun A outer s H args us vs Q E hg hr e0 hb r hsp => ?_⟩
  have KX : K.In s.heap := e0.mod.kin.keeps fun b o e => (e0.bs b o e).1
  have lm : s.heap.NoLimit := e0.mod.nolimit.keeps fun b o e => (e0.bs b o e).1
  have hkind : ∀ y ∈ ps.zip us, (defScope st).names.lookup y.1 = some .local ∨ ((defScope st).names.lookup y.1 = some .cell ∧ ((cellsFrom (s.heap.objs.size + 1) (defScope st).names []).lookup y.1).isSome = true) := by
    rintro ⟨n, v⟩ hy
    rcases S.par n (List.of_mem_zip hy).1 with q | q
    · exact .inl q
    · exact .inr ⟨q, PySem.W.cellsFrom_some _ _ _ (.inl q)⟩
  refine codeAny_call_function hr.depth (KX _ _ lk) rfl S.co S.gen rfl (PySem.W.codeRec_of KX hcd) (hb _ _ _ _ (wpAny_newFunctionEnv_cells S.kind hkind fun env he s1 y => ?_))
  subst he
  have I : Inv (cxOf (L2.CX P w) P w K mg base N qual (defScope st) f cdv A outer s H E) [] (start N vs) H s1 := inv_start S hr.hd e0 (len _ _ _ _ hsp) r y
  have tk : Takes (cxOf (L2.CX P w) P w K mg base N qual (defScope st) f cdv A outer s H E) (fun cls d _ H => E cls d H) := takes_of rfl rfl rfl rfl
  obtain ⟨t, ht, hq⟩ := hbody cdv A outer s H vs Q E ⟨rfl, hr.deeper _, hg, passes_call tk (fun _ _ _ _ h => h), passes_of rfl, tk⟩ hsp
  refine ⟨lm.keeps y.toInCall.keep, codeAny_func (wpAny_mono (ht.run [] s1 (start N vs) H _ I hq) (fun fl s' hs => ?_) fun e s' hs => hs)⟩
  cases fl with
  | ret u => obtain ⟨v, σ', H', J, rv, q⟩ := hs; exact ⟨v, H', J.os, J.bare, J.base, J.hok, rv, q⟩
  | next => obtain ⟨σ', H', J, q⟩ := hs; exact ⟨V.non, H', J.os, J.bare, J.base, J.hok, rfl, q⟩
  | brk => obtain ⟨_, _, _, q⟩ := hs; exact False.elim q
  | cont => obtain ⟨_, _, _, q⟩ := hs; exact False.elim q
end

/-! ### the body's data -/
def outsOf (io : List Md) (env : Env) : List Dt := match io, env with
  | .io :: ms, some (d, _) :: r => d :: outsOf ms r
  | _ :: ms, _ :: r => .non :: outsOf ms r
  | _, _ => []
def startE (io : List Md) (k : Nat) (ds : List Dt) : Env := argE io ds ++ List.replicate k none
def finF (io : List Md) (f : Fl) (env : Env) : Option Fr := match f with
  | .nx => some (.ret (.val .non) (outsOf io env))
  | .rt d false => some (.ret (.val d) (outsOf io env))
  | .rt d true => some (.ret (.new d) (outsOf io env))
  | _ => none
def runB (io : List Md) (k : Nat) (m : M Fl) (ds : List Dt) : Option Fr := match m (startE io k ds) with
  | some (.ok f env) => if io.length ≤ env.length then finF io f env else none
  | some (.er x env) => if io.length ≤ env.length then some (.exc x (outsOf io env)) else none
  | none => none

section
variable {K : PySem.W.Frag} {mg : Str → Option Value} {ex : Addr → Prop} {env env' : Env} {ow ow' : Ow} {σ σ' : St} {H H' : Hp} {E : XK}
theorem mixE_length : ∀ (io : List Md) (ds os : List Dt), ds.length = io.length → os.length = io.length → (mixE io ds os).length = io.length
  | [], [], [], _, _ => rfl
  | .fz :: ms, d :: ds, o :: os, h1, h2 => by simp only [mixE, List.length_cons] at *; rw [mixE_length ms ds os (by omega) (by omega)]
  | .ow :: ms, d :: ds, o :: os, h1, h2 => by simp only [mixE, List.length_cons] at *; rw [mixE_length ms ds os (by omega) (by omega)]
  | .io :: ms, d :: ds, o :: os, h1, h2 => by simp only [mixE, List.length_cons] at *; rw [mixE_length ms ds os (by omega) (by omega)]
  | [], _ :: _, _, h1, _ => by cases h1
  | [], [], _ :: _, _, h2 => by cases h2
  | _ :: _, [], _, h1, _ => by cases h1
  | _ :: _, _ :: _, [], _, h2 => by cases h2
theorem gs_append_left {a b : Env} {i : Nat} (h : i < a.length) : gs (a ++ b) i = gs a i := by
  unfold gs; rw [List.getElem?_append_left h]
theorem gs_append_right {a : Env} {i k : Nat} (h : a.length ≤ i) : gs (a ++ List.replicate k none) i = none := by
  unfold gs
  rw [List.getElem?_append_right h, List.getElem?_replicate]
  split <;> rfl
theorem gs_out {a : Env} {i : Nat} (h : a.length ≤ i) : gs a i = none := by
  unfold gs; rw [List.getElem?_eq_none_iff.mpr h]; rfl
/-- the arguments' slots, then empty ones -/
theorem SR.start {N : List Str} {vs : List V} {k : Nat} (S : SR K mg ex env ow (vs.map some) H) (hN : N.length = vs.length + k) : SR K mg ex (env ++ List.replicate k none) ow (start N vs) H := by
  have l0 : env.length = vs.length := by rw [S.len, List.length_map]
  refine ⟨?_, fun i => ?_, S.inj, S.dis, S.tr⟩
  · unfold L2.start
    rw [List.length_append, List.length_append, List.length_map, List.length_replicate, List.length_replicate, l0]
    omega
  · by_cases h : i < env.length
    · rw [gs_append_left h]
      have e : gv (L2.start N vs) i = gv (vs.map some) i := by
        unfold gv L2.start
        rw [List.getElem?_append_left (by rw [List.length_map]; omega)]
      rw [e]
      exact S.slot i
    · rw [gs_append_right (by omega)]
      have q := S.slot i
      rw [gs_out (by omega)] at q
      exact q
/-- what is lent comes back -/
theorem mix_slot (G G' H H' : Hp) (l : Le G G') (ow : Ow) (vs : List V) : ∀ (io : List Md) (ds : List Dt) (env1 : Env) (base : Nat), ds.length = io.length →
    (∀ i, SlotOk K mg G H (gs (argE io ds) i) (ow (base + i)) (gv (vs.map some) (base + i))) →
    (∀ i d, gs (argE io ds) i = some (d, .io) → ∃ d', gs env1 i = some (d', .io) ∧ SlotOk K mg G' H' (some (d', .io)) (ow (base + i)) (gv (vs.map some) (base + i))) → io.length ≤ env1.length →
    ∀ i, SlotOk K mg G' H' (gs (mixE io ds (outsOf io env1)) i) (ow (base + i)) (gv (vs.map some) (base + i))
  | [], ds, env1, base, h, h1, h2, hl, i => by
    have q := h1 i
    have e : gs (mixE [] ds (outsOf [] env1)) i = none := by
      unfold outsOf mixE gs
      simp
    have e2 : gs (argE [] ds) i = none := by
      unfold argE mixE gs
      simp
    rw [e2] at q
    rw [e]
    exact q
  | m :: ms, [], _, _, h, _, _, _, _ => by cases h
  | m :: ms, d :: ds, [], _, _, _, _, hl, _ => by simp at hl
  | m :: ms, d :: ds, y :: env1, base, h, h1, h2, hl, 0 => by
    have q := h1 0
    cases m with
    | fz =>
      have e : gs (mixE (.fz :: ms) (d :: ds) (outsOf (.fz :: ms) (y :: env1))) 0 = some (d, .fz) := rfl
      rw [e]
      have q' : SlotOk K mg G H (some (d, .fz)) (ow (base + 0)) (gv (vs.map some) (base + 0)) := q
      obtain ⟨e1, x, e2, r⟩ := q'
      exact ⟨e1, x, e2, r.mono l⟩
    | ow =>
      have e : gs (mixE (.ow :: ms) (d :: ds) (outsOf (.ow :: ms) (y :: env1))) 0 = some (d, .fz) := rfl
      rw [e]
      have q' : SlotOk K mg G H (some (d, .fz)) (ow (base + 0)) (gv (vs.map some) (base + 0)) := q
      obtain ⟨e1, x, e2, r⟩ := q'
      exact ⟨e1, x, e2, r.mono l⟩
    | io =>
      obtain ⟨d', e1, e2⟩ := h2 0 d rfl
      have e3 : y = some (d', .io) := by
        have e1' : (y :: env1)[0]?.getD none = some (d', .io) := e1
        simpa using e1'
      subst e3
      have e : gs (mixE (.io :: ms) (d :: ds) (outsOf (.io :: ms) (some (d', .io) :: env1))) 0 = some (d', .io) := rfl
      rw [e]
      exact e2
  | m :: ms, d :: ds, y :: env1, base, h, h1, h2, hl, i + 1 => by
    have ih := mix_slot G G' H H' l ow vs ms ds env1 (base + 1) (by simpa using h) (fun j => by
      have q := h1 (j + 1)
      have e : gs (argE (m :: ms) (d :: ds)) (j + 1) = gs (argE ms ds) j := by cases m <;> rfl
      rw [e] at q
      have eb : base + (j + 1) = base + 1 + j := by omega
      rw [eb] at q
      exact q) (fun j d0 hj => by
      have e : gs (argE (m :: ms) (d :: ds)) (j + 1) = gs (argE ms ds) j := by cases m <;> rfl
      obtain ⟨d', e1, e2⟩ := h2 (j + 1) d0 (by rw [e]; exact hj)
      have eb : base + (j + 1) = base + 1 + j := by omega
      rw [eb] at e2
      exact ⟨d', e1, e2⟩) (by simpa using hl) i
    have e : gs (mixE (m :: ms) (d :: ds) (outsOf (m :: ms) (y :: env1))) (i + 1) = gs (mixE ms ds (outsOf ms env1)) i := by
      cases m with
      | fz => rfl
      | ow => rfl
      | io =>
        obtain ⟨d', e1, _⟩ := h2 0 d rfl
        have e1' : (y :: env1)[0]?.getD none = some (d', .io) := e1
        have e3 : y = some (d', .io) := by simpa using e1'
        subst e3
        rfl
    rw [e]
    have eb : base + (i + 1) = base + 1 + i := by omega
    rw [eb]
    exact ih
theorem outsOf_length : ∀ (io : List Md) (ds : List Dt) (env1 : Env), io.length ≤ env1.length → (∀ i d, gs (argE io ds) i = some (d, .io) → ∃ d', gs env1 i = some (d', .io)) → ds.length = io.length → (outsOf io env1).length = io.length
  | [], _, _, _, _, _ => by unfold outsOf; rfl
  | m :: ms, [], _, _, _, h => by cases h
  | m :: ms, d :: ds, [], h, _, _ => by simp at h
  | m :: ms, d :: ds, y :: env1, h, h2, h3 => by
    have ih := outsOf_length ms ds env1 (by simpa using h) (fun j d0 hj => by
      have e : gs (argE (m :: ms) (d :: ds)) (j + 1) = gs (argE ms ds) j := by cases m <;> rfl
      exact h2 (j + 1) d0 (by rw [e]; exact hj)) (by simpa using h3)
    cases m with
    | fz => show (outsOf ms env1).length + 1 = ms.length + 1; rw [ih]
    | ow => show (outsOf ms env1).length + 1 = ms.length + 1; rw [ih]
    | io =>
      obtain ⟨d', e1⟩ := h2 0 d rfl
      have e1' : (y :: env1)[0]?.getD none = some (d', .io) := e1
      have e3 : y = some (d', .io) := by simpa using e1'
      subst e3
      show (outsOf ms env1).length + 1 = ms.length + 1; rw [ih]
theorem argE_length {io : List Md} {ds : List Dt} (h : ds.length = io.length) : (argE io ds).length = io.length := mixE_length io ds ds h h
theorem argE_io : ∀ (io : List Md) (ds : List Dt) (i : Nat) (d : Dt), gs (argE io ds) i ≠ some (d, .ow)
  | [], ds, i, d => by unfold argE mixE gs; simp
  | m :: ms, [], i, d => by unfold argE mixE gs; cases m <;> simp
  | m :: ms, d0 :: ds, 0, d => by cases m <;> (show some (d0, _) ≠ some (d, Md.ow); intro z; cases z)
  | m :: ms, d0 :: ds, i + 1, d => by
    have e : gs (argE (m :: ms) (d0 :: ds)) (i + 1) = gs (argE ms ds) i := by cases m <;> rfl
    rw [e]
    exact argE_io ms ds i d
theorem argE_start {io : List Md} {ds : List Dt} {k i : Nat} {d : Dt} (h : gs (argE io ds) i = some (d, .io)) : gs (startE io k ds) i = some (d, .io) := by
  unfold startE
  rw [gs_append_left]
  · exact h
  · by_cases q : i < (argE io ds).length
    · exact q
    · rw [gs_out (by omega)] at h; cases h
theorem SR.sub_io {io : List Md} {ds : List Dt} {vs : List V} {k : Nat} (S0 : SR K mg ex (argE io ds) ow (vs.map some) H) (P : PostS (startE io k ds) ow H env' ow' H') {i : Nat} {a : Addr} (h : ow i = some a) : ow' i = some a := by
  have q := S0.slot i
  rw [h] at q
  obtain ⟨d, m, ob, e, _, _, _, hm⟩ := q.own
  have hm' : m = .io := by
    rcases hm with rfl | rfl
    · exact absurd e (argE_io io ds i d)
    · rfl
  subst hm'
  obtain ⟨_, e2⟩ := P.pin i d (argE_start e)
  rw [e2]; exact h
/-- the arguments' slots behind the body -/
theorem SR.back {ex' : Addr → Prop} {io : List Md} {ds : List Dt} {vs : List V} {k : Nat} {σ1 : St} (hx : ∀ a, ex a → ex' a) (hx2 : ∀ a, ex' a → H a ≠ none → ex a) (hd : ds.length = io.length) (S0 : SR K mg ex (argE io ds) ow (vs.map some) H) (P : PostS (startE io k ds) ow H env' ow' H') (S1 : SR K mg ex' env' ow' σ1 H') (hl : io.length ≤ env'.length) :
    SR K mg ex' (mixE io ds (outsOf io env')) ow (vs.map some) H' := by
  have la : (argE io ds).length = io.length := argE_length hd
  have g0 : ∀ i d, gs (argE io ds) i = some (d, .io) → gs (startE io k ds) i = some (d, .io) := fun i d h => argE_start h
  have sub : ∀ i a, ow i = some a → ow' i = some a := fun i a h => SR.sub_io S0 P h
  have lsub : ∀ a, lim ex' ow a → lim ex' ow' a := fun a h => h.elim .inl fun ⟨i, z⟩ => .inr ⟨i, sub i a z⟩
  have lk : Le (cut (lim ex ow) H) (cut (lim ex' ow) H') := cut_keep (fun a h n => h.elim (fun z => .inl (hx2 a z n)) .inr) fun a o h n => P.keep a o h fun z => n (.inr z)
  refine ⟨?_, fun i => ?_, S0.inj, fun i a h z => ?_, S1.tr⟩
  · rw [mixE_length io ds _ hd (outsOf_length io ds env' hl (fun i d h => (P.pin i d (g0 i d h)).1) hd), ← la, S0.len]
  · have q := mix_slot (cut (lim ex ow) H) (cut (lim ex' ow) H') H H' lk ow vs io ds env' 0 hd (fun i => by rw [Nat.zero_add]; exact S0.slot i) (fun i d h => ?_) hl i
    · rw [Nat.zero_add] at q; exact q
    · rw [Nat.zero_add]
      obtain ⟨⟨d', e1⟩, e2⟩ := P.pin i d (g0 i d h)
      refine ⟨d', e1, ?_⟩
      have s0 := S0.slot i
      rw [h] at s0
      obtain ⟨a, ob, h1, h2, h3, _⟩ := s0
      have s1 := S1.slot i
      rw [e1] at s1
      obtain ⟨a', ob', h1', h2', h3', r'⟩ := s1
      rw [e2, h1] at h1'; cases h1'
      exact ⟨a, ob', h1, h2, h3', r'.mono (cut_sub H' lsub)⟩
  · exact S1.dis i a (sub i a h) z
end

section
variable {P : Program} {w : World} {K : PySem.W.Frag} {mg : Str → Option Value} {base : Heap}
theorem matches_len {n : Nat} {fs : Fs} (vs : List V) (H : Hp) (Q : VK) (E : XK) (h : spOf K mg n fs vs H Q E) : vs.length = n := h.1
/-- a def by what its body does with data -/
theorem fn_data {x qual : Str} {st : Stmt} {f : Addr} {fd : FuncData} {N ps : List Str} {j : Nat} {fs : Fs} {m : M Fl} (F : Fun K x qual st f fd) (S : FnScope N ps (defScope st)) (hio : fs.io.length = ps.length) (k : Nat) (hN : N.length = ps.length + k)
    (pure : ∀ ds r, ds.length = ps.length → fs.run ds = some r → runB fs.io k m ds = some r) 
    (body : ∀ (cdv : Value) (A : Around) (outer : List PySem.Env) (s : Shared) (H : Hp) (E : XK), Bd (cxOf (L2.CX P w) P w K mg base N qual (defScope st) f cdv A outer s H E) j E →
      DB (cxOf (L2.CX P w) P w K mg base N qual (defScope st) f cdv A outer s H E) E (defBody st) m) : FnG P w K mg base (j + 1) f fd ps (spOf K mg ps.length fs) := by
  refine fn_body F S (fun vs H Q E h => h.1) fun cdv A outer s H vs Q E bd hsp => ⟨_, body cdv A outer s H E bd, ?_⟩
  obtain ⟨hv, ex, ow, ds, hd, S0, h⟩ := hsp
  have S1 := S0.start (N := N) (k := k) (by rw [hv]; exact hN)
  have hd' : ds.length = fs.io.length := by rw [hio]; exact hd
  have l0 : (startE fs.io k ds).length = fs.io.length + k := by unfold startE; rw [List.length_append, List.length_replicate, argE_length hd']
  refine ⟨ex, startE fs.io k ds, ow, S1, ?_⟩
  cases e : fs.run ds with
  | none => rw [e] at h; exact h.elim
  | some fr =>
    rw [e] at h
    have hp := pure ds fr hd e
    unfold runB at hp
    unfold WP
    cases e2 : m (startE fs.io k ds) with
    | none => simp only [e2] at hp; cases hp
    | some rr =>
      cases rr with
      | er z env1 =>
        simp only [e2] at hp
        by_cases hl : fs.io.length ≤ env1.length
        · rw [if_pos hl] at hp
          cases hp
          intro cls d σ1 H1 ow1 P1 S2 X1
          refine h cls d H1 ⟨P1.keep, P1.there⟩ (SR.back (fun _ h => h) (fun _ h _ => h) hd' S0 P1 S2 hl) ?_
          obtain ⟨q1, da, vf, q2, q3, q4⟩ := X1
          exact ⟨q1, da, vf, q2, q3, q4.mono (cut_sub H1 fun a z => z.elim .inl fun ⟨i, z⟩ => .inr ⟨i, SR.sub_io S0 P1 z⟩)⟩
        · rw [if_neg hl] at hp; cases hp
      | ok f env1 =>
        simp only [e2] at hp
        have hl : fs.io.length ≤ env1.length := by
          by_cases q : fs.io.length ≤ env1.length
          · exact q
          · rw [if_neg q] at hp; cases hp
        rw [if_pos hl] at hp
        cases f with
        | bk => cases hp
        | ct => cases hp
        | nx =>
          cases hp
          intro σ1 H1 ow1 P1 S2
          exact h.2 .non H1 ⟨P1.keep, P1.there⟩ ⟨SR.back (fun _ h => h) (fun _ h _ => h) hd' S0 P1 S2 hl, .non⟩
        | rt d own =>
          cases own with
          | false =>
            cases hp
            intro v σ1 H1 ow1 P1 R1
            obtain ⟨S2, r⟩ := R1
            refine h.2 v H1 ⟨P1.keep, P1.there⟩ ⟨SR.back (fun _ h => h) (fun _ h _ => h) hd' S0 P1 S2 hl, r.mono (cut_sub H1 fun a z => z.elim .inl fun ⟨i, z⟩ => .inr ⟨i, SR.sub_io S0 P1 z⟩)⟩
          | true =>
            cases hp
            intro v σ1 H1 ow1 P1 R1
            obtain ⟨p, ob, e3, e4, e5, r, S2, np⟩ := R1
            have hn : H p = none := by
              rcases e4 with ⟨i, z⟩ | z
              · exact absurd (.inr rfl) (S2.dis i p (SR.sub_io S0 P1 z))
              · exact z
            refine h.2 v H1 ⟨P1.keep, P1.there⟩ ⟨p, ob, e3, hn, e5, r.mono (cut_sub H1 fun a z => z.elim .inl fun ⟨i, z⟩ => .inr ⟨i, SR.sub_io S0 P1 z⟩), SR.back (fun _ h => .inl h) (fun a h n => h.elim (fun z => z) fun z => absurd (by rw [z]; exact hn) n) hd' S0 P1 S2 hl⟩
end
end DL

/-! DLi: calls of defs that are known by data. -/
namespace DL
open PySem L2

/-- the arguments' data: what is lent is not frozen -/
def argsD : List Md → List R → M (List Dt)
  | [], [] => M.pure []
  | .io :: ms, .loc i :: rs => fun env => match gs env i with
    | some (d, .ow) => (argsD ms rs).bind (fun ds => M.pure (d :: ds)) env
    | some (d, .io) => (argsD ms rs).bind (fun ds => M.pure (d :: ds)) env
    | _ => none
  | .fz :: ms, r :: rs => (frz r).bind fun d => (argsD ms rs).bind fun ds => M.pure (d :: ds)
  | _, _ => fun _ => none
/-- the slots that are lent -/
def lent : List Md → List R → List Nat
  | .io :: ms, .loc i :: rs => i :: lent ms rs
  | _ :: ms, _ :: rs => lent ms rs
  | _, _ => []
def setD (env : Env) (i : Nat) (o : Dt) : Env := match gs env i with
  | some (_, m) => env.set i (some (o, m))
  | none => env
def putB : List Md → List R → List Dt → Env → Env
  | .io :: ms, .loc i :: rs, o :: os, env => putB ms rs os (setD env i o)
  | _ :: ms, _ :: rs, _ :: os, env => putB ms rs os env
  | _, _, _, env => env
def isOwn : Option (Dt × Md) → Bool
  | some (_, .ow) => true
  | some (_, .io) => true
  | _ => false
def callF (fs : Fs) (rs : List R) (ds : List Dt) : M R := fun env => if (lent fs.io rs).Nodup ∧ (lent fs.io rs).all (fun i => isOwn (gs env i)) = true then match fs.run ds with
    | some (.ret (.val d) outs) => if outs.length = fs.io.length then some (.ok (.val d) (putB fs.io rs outs env)) else none
    | some (.ret (.new d) outs) => if outs.length = fs.io.length then some (.ok (.new d) (putB fs.io rs outs env)) else none
    | some (.exc x outs) => if outs.length = fs.io.length then some (.er x (putB fs.io rs outs env)) else none
    | _ => none
  else none
def mFn (fs : Fs) (l : List (M R)) : M R := (mA l).bind fun rs => (argsD fs.io rs).bind fun ds => callF fs rs ds

section
variable {K : PySem.W.Frag} {mg : Str → Option Value} {ex : Addr → Prop} {env env' : Env} {ow ow' : Ow} {σ σ' : St} {H H' : Hp} {E : XK}
/-- the same data, whatever the modes -/
def Same (env env' : Env) : Prop := ∀ i, (gs env' i).map (·.1) = (gs env i).map (·.1)
theorem Same.trans {env'' : Env} (a : Same env env') (b : Same env' env'') : Same env env'' := fun i => (b i).trans (a i)
theorem Same.get (a : Same env env') {i : Nat} {d : Dt} {m : Md} (h : gs env i = some (d, m)) : ∃ m', gs env' i = some (d, m') := by
  have q := a i
  rw [h] at q
  cases e : gs env' i with
  | none => rw [e] at q; cases q
  | some y =>
    obtain ⟨d', m'⟩ := y
    rw [e] at q
    have q' : some d' = some d := q
    cases q'
    exact ⟨m', rfl⟩
theorem WP.frzS {r : R} {v : V} {k : Dt → Env → Prop} {x : Xn → Env → Prop} (S : SR K mg ex env ow σ H) (h : Held K mg ex ow σ H r v) (w : WP (DL.frz r) env k x) : ∃ d env' ow', SR K mg ex env' ow' σ H ∧ Post env ow H env' ow' H ∧ Same env env' ∧ Rep K mg (DL.cut (lim ex ow') H) v d ∧ k d env' := by
  have w2 : WP (DL.frz r) env (fun d env' => Same env env' ∧ k d env') x := by
    unfold WP at w ⊢
    cases r with
    | val d => exact ⟨fun _ => rfl, w⟩
    | new d => exact ⟨fun _ => rfl, w⟩
    | loc i =>
      unfold DL.frz at w ⊢
      cases e : gs env i with
      | none => simp only [e] at w
      | some y =>
        obtain ⟨d, m⟩ := y
        cases m with
        | fz => simp only [e] at w ⊢; exact ⟨fun _ => rfl, w⟩
        | ow =>
          simp only [e] at w ⊢
          refine ⟨fun j => ?_, w⟩
          by_cases z : i = j
          · subst z
            have hi : i < env.length := by
              unfold gs at e
              cases z : env[i]? with
              | none => rw [z] at e; cases e
              | some y => exact (List.getElem?_eq_some_iff.mp z).1
            rw [gs_set_self hi, e]
            rfl
          · rw [gs_set_ne z]
        | io => simp only [e] at w
  obtain ⟨d, env', ow', a, b, c, e, f⟩ := WP.frz S h w2
  exact ⟨d, env', ow', a, b, e, c, f⟩
/-- an argument as it stands for the callee -/
def ArgOk (K : PySem.W.Frag) (mg : Str → Option Value) (L : Addr → Prop) (σ : St) (H : Hp) : Md → R → V → Dt → Prop
  | .io, .loc i, v, _ => gv σ i = some v
  | .fz, _, v, d => Rep K mg (cut L H) v d
  | _, _, _, _ => False
inductive Args4 (P : Md → R → V → Dt → Prop) : List Md → List R → List V → List Dt → Prop
  | nil : Args4 P [] [] [] []
  | cons {m r v d ms rs vs ds} : P m r v d → Args4 P ms rs vs ds → Args4 P (m :: ms) (r :: rs) (v :: vs) (d :: ds)
theorem Args4.mono {P Q : Md → R → V → Dt → Prop} {ms : List Md} {rs : List R} {vs : List V} {ds : List Dt} (h : Args4 P ms rs vs ds) (f : ∀ m r v d, P m r v d → Q m r v d) : Args4 Q ms rs vs ds := by
  induction h with
  | nil => exact .nil
  | cons p _ ih => exact .cons (f _ _ _ _ p) ih
theorem Args4.len {P : Md → R → V → Dt → Prop} {ms : List Md} {rs : List R} {vs : List V} {ds : List Dt} (h : Args4 P ms rs vs ds) : rs.length = ms.length ∧ vs.length = ms.length ∧ ds.length = ms.length := by
  induction h with
  | nil => exact ⟨rfl, rfl, rfl⟩
  | cons p _ ih => simp only [List.length_cons]; omega
theorem ArgOk.mono {L L' : Addr → Prop} {H H' : Hp} (l : Le (cut L H) (cut L' H')) : ∀ m r v d, ArgOk K mg L σ H m r v d → ArgOk K mg L' σ H' m r v d
  | .io, .loc i, v, _, h => h
  | .fz, r, v, d, h => Rep.mono l (show Rep K mg (cut L H) v d from h)
  | .io, .val _, _, _, h => h.elim
  | .io, .new _, _, _, h => h.elim
  | .ow, .val _, _, _, h => h.elim
  | .ow, .new _, _, _, h => h.elim
  | .ow, .loc _, _, _, h => h.elim
theorem WP.argsD {x : Xn → Env → Prop} : ∀ {ms : List Md} {rs : List R} {vs : List V} {env : Env} {ow : Ow} {k : List Dt → Env → Prop}, SR K mg ex env ow σ H → Paired (Held K mg ex ow σ H) rs vs → WP (argsD ms rs) env k x →
    ∃ ds env' ow', SR K mg ex env' ow' σ H ∧ Post env ow H env' ow' H ∧ Same env env' ∧ Args4 (ArgOk K mg (lim ex ow') σ H) ms rs vs ds ∧ Args4 (fun m r _ d => m = .io → ∀ i, r = .loc i → ∃ m', gs env' i = some (d, m')) ms rs vs ds ∧ k ds env'
  | [], [], _, env, ow, k, S, .nil, w => ⟨[], env, ow, S, .refl, fun _ => rfl, .nil, .nil, w⟩
  | .fz :: ms, r :: rs, v :: vs, env, ow, k, S, .cons h t, w => by
    obtain ⟨d, env1, ow1, S1, P1, s1, r1, w1⟩ := WP.frzS S h (WP.bind.mp (show WP ((DL.frz r).bind _) env _ _ from w))
    obtain ⟨ds, env2, ow2, S2, P2, s2, A2, B2, w2⟩ := WP.argsD (x := x) S1 (Held.postA S P1 t) (WP.bind.mp w1)
    exact ⟨d :: ds, env2, ow2, S2, P1.trans P2, s1.trans s2, .cons (show ArgOk K mg (lim ex ow2) σ H .fz r v d from r1.mono (P2.cut S1)) A2, .cons (fun z => nomatch z) B2, w2⟩
  | .io :: ms, .loc i :: rs, v :: vs, env, ow, k, S, .cons h t, w => by
    have go : ∀ d m, gs env i = some (d, m) → WP ((DL.argsD ms rs).bind (fun ds => M.pure (d :: ds))) env k x → ∃ ds env' ow', SR K mg ex env' ow' σ H ∧ Post env ow H env' ow' H ∧ Same env env' ∧ Args4 (ArgOk K mg (lim ex ow') σ H) (.io :: ms) (.loc i :: rs) (v :: vs) ds ∧
        Args4 (fun m r _ d => m = .io → ∀ i, r = .loc i → ∃ m', gs env' i = some (d, m')) (.io :: ms) (.loc i :: rs) (v :: vs) ds ∧ k ds env' := fun d m e w1 => by
      obtain ⟨ds, env2, ow2, S2, P2, s2, A2, B2, w2⟩ := WP.argsD (x := x) S t (WP.bind.mp w1)
      exact ⟨d :: ds, env2, ow2, S2, P2, s2, .cons (show gv σ i = some v from h) A2, .cons (fun _ j z => by cases z; exact s2.get e) B2, w2⟩
    unfold WP DL.argsD at w
    cases e : gs env i with
    | none => simp only [e] at w
    | some y =>
      obtain ⟨d, m⟩ := y
      cases m with
      | fz => simp only [e] at w
      | ow => simp only [e] at w; exact go d _ e w
      | io => simp only [e] at w; exact go d _ e w
  | .io :: ms, .val _ :: rs, _, _, _, _, _, _, w => w.elim
  | .io :: ms, .new _ :: rs, _, _, _, _, _, _, w => w.elim
  | .ow :: ms, _ :: rs, _, _, _, _, _, _, w => by cases rs <;> exact w.elim
  | [], _ :: _, _, _, _, _, _, _, w => w.elim
  | .io :: ms, [], _, _, _, _, _, _, w => w.elim
  | .ow :: ms, [], _, _, _, _, _, _, w => w.elim
  | .fz :: ms, [], _, _, _, _, _, _, w => w.elim

/-- the callee's own addresses -/
def owC (ow : Ow) : List Md → List R → Ow
  | .io :: _, .loc i :: _, 0 => ow i
  | _ :: ms, _ :: rs, j + 1 => owC ow ms rs j
  | _, _, _ => none
theorem owC_lent : ∀ {ms : List Md} {rs : List R} {j : Nat} {a : Addr}, owC ow ms rs j = some a → ∃ i, i ∈ lent ms rs ∧ ow i = some a
  | .io :: ms, .loc i :: rs, 0, a, h => ⟨i, by simp [lent], h⟩
  | .io :: ms, .val _ :: rs, 0, a, h => nomatch h
  | .io :: ms, .new _ :: rs, 0, a, h => nomatch h
  | .fz :: ms, _ :: rs, 0, a, h => by cases rs <;> exact nomatch h
  | .ow :: ms, _ :: rs, 0, a, h => by cases rs <;> exact nomatch h
  | m :: ms, r :: rs, j + 1, a, h => by
    have h' : owC ow ms rs j = some a := by
      have e : owC ow (m :: ms) (r :: rs) (j + 1) = owC ow ms rs j := by cases m <;> cases r <;> rfl
      rw [e] at h; exact h
    obtain ⟨i, h1, h2⟩ := owC_lent h'
    refine ⟨i, ?_, h2⟩
    cases m <;> cases r <;> simp [lent, h1]
  | [], _, j, a, h => by cases j <;> exact nomatch h
  | m :: ms, [], j, a, h => by cases m <;> cases j <;> exact nomatch h
theorem owC_inj (inj : ∀ i j a, ow i = some a → ow j = some a → i = j) : ∀ {ms : List Md} {rs : List R} {j k : Nat} {a : Addr}, (lent ms rs).Nodup → owC ow ms rs j = some a → owC ow ms rs k = some a → j = k
  | m :: ms, r :: rs, 0, 0, a, _, _, _ => rfl
  | m :: ms, r :: rs, j + 1, k + 1, a, nd, h1, h2 => by
    have e : ∀ j, owC ow (m :: ms) (r :: rs) (j + 1) = owC ow ms rs j := fun j => by cases m <;> cases r <;> rfl
    rw [e] at h1 h2
    rw [owC_inj inj (by cases m <;> cases r <;> simp [lent] at nd <;> first | exact nd.2 | exact nd) h1 h2]
  | .io :: ms, .loc i :: rs, 0, k + 1, a, nd, h1, h2 => by
    have h1' : ow i = some a := h1
    have h2' : owC ow ms rs k = some a := h2
    obtain ⟨i', m1, m2⟩ := owC_lent h2'
    have q := inj i i' a h1' m2
    subst q
    exact absurd m1 (List.nodup_cons.mp nd).1
  | .io :: ms, .loc i :: rs, j + 1, 0, a, nd, h1, h2 => by
    have h2' : ow i = some a := h2
    have h1' : owC ow ms rs j = some a := h1
    obtain ⟨i', m1, m2⟩ := owC_lent h1'
    have q := inj i i' a h2' m2
    subst q
    exact absurd m1 (List.nodup_cons.mp nd).1
  | .io :: ms, .val _ :: rs, 0, _ + 1, a, _, h1, _ => nomatch h1
  | .io :: ms, .new _ :: rs, 0, _ + 1, a, _, h1, _ => nomatch h1
  | .fz :: ms, _ :: rs, 0, _ + 1, a, _, h1, _ => by cases rs <;> exact nomatch h1
  | .ow :: ms, _ :: rs, 0, _ + 1, a, _, h1, _ => by cases rs <;> exact nomatch h1
  | .io :: ms, .val _ :: rs, _ + 1, 0, a, _, _, h1 => nomatch h1
  | .io :: ms, .new _ :: rs, _ + 1, 0, a, _, _, h1 => nomatch h1
  | .fz :: ms, _ :: rs, _ + 1, 0, a, _, _, h1 => by cases rs <;> exact nomatch h1
  | .ow :: ms, _ :: rs, _ + 1, 0, a, _, _, h1 => by cases rs <;> exact nomatch h1
  | [], _, j, _, a, _, h, _ => by cases j <;> exact nomatch h
  | m :: ms, [], j, _, a, _, h, _ => by cases m <;> cases j <;> exact nomatch h
/-- the callee's slots -/
theorem callee_slots {L : Addr → Prop} (own : ∀ i a, ow i = some a → L a) (S : ∀ i, SlotOk K mg (cut L H) H (gs env i) (ow i) (gv σ i)) : ∀ {ms : List Md} {rs : List R} {vs : List V} {ds : List Dt}, Args4 (ArgOk K mg L σ H) ms rs vs ds →
    Args4 (fun m r _ d => m = .io → ∀ i, r = .loc i → ∃ m', gs env i = some (d, m')) ms rs vs ds → (lent ms rs).all (fun i => isOwn (gs env i)) = true → ∀ j, SlotOk K mg (cut L H) H (gs (argE ms ds) j) (owC ow ms rs j) (gv (vs.map some) j)
  | [], [], [], [], .nil, _, _, j => by
    have e : gs (argE [] []) j = none := by unfold argE mixE gs; simp
    rw [e]
    cases j <;> rfl
  | .fz :: ms, r :: rs, v :: vs, d :: ds, .cons h t, _, _, 0 => ⟨rfl, v, rfl, h⟩
  | .io :: ms, .loc i :: rs, v :: vs, d :: ds, .cons h t, .cons q _, o, 0 => by
    have hv : gv σ i = some v := h
    obtain ⟨m', e⟩ := q rfl i rfl
    have s := S i
    have o' : isOwn (gs env i) = true := by
      have o2 := List.all_eq_true.mp o i (by simp [lent])
      exact o2
    rw [e] at o' s
    rw [hv] at s
    have e2 : gs (argE (.io :: ms) (d :: ds)) 0 = some (d, .io) := rfl
    have e3 : gv ((v :: vs).map some) 0 = some v := rfl
    rw [e2, e3]
    cases m' with
    | fz => cases o'
    | ow => exact s
    | io => exact s
  | .io :: ms, .val _ :: rs, v :: vs, d :: ds, .cons h t, _, _, 0 => h.elim
  | .io :: ms, .new _ :: rs, v :: vs, d :: ds, .cons h t, _, _, 0 => h.elim
  | .ow :: ms, r :: rs, v :: vs, d :: ds, .cons h t, _, _, 0 => by cases r <;> exact h.elim
  | m :: ms, r :: rs, v :: vs, d :: ds, .cons h t, .cons q t', o, j + 1 => by
    have ih := callee_slots own S t t' (by
      have o' := List.all_eq_true.mp o
      refine List.all_eq_true.mpr fun i hi => o' i ?_
      cases m <;> cases r <;> simp [lent, hi]) j
    have e1 : gs (argE (m :: ms) (d :: ds)) (j + 1) = gs (argE ms ds) j := by cases m <;> rfl
    have e2 : owC ow (m :: ms) (r :: rs) (j + 1) = owC ow ms rs j := by cases m <;> cases r <;> rfl
    have e3 : gv ((v :: vs).map some) (j + 1) = gv (vs.map some) j := rfl
    rw [e1, e2, e3]
    exact ih

/-! ### behind the call -/
theorem setD_length (i : Nat) (o : Dt) : (setD env i o).length = env.length := by
  unfold setD
  split
  · simp
  · rfl
theorem setD_self {i : Nat} {o d : Dt} {m : Md} (h : gs env i = some (d, m)) : gs (setD env i o) i = some (o, m) := by
  have hi : i < env.length := by
    unfold gs at h
    cases z : env[i]? with
    | none => rw [z] at h; cases h
    | some y => exact (List.getElem?_eq_some_iff.mp z).1
  unfold setD
  rw [h]
  exact gs_set_self hi
theorem setD_ne {i j : Nat} {o : Dt} (h : i ≠ j) : gs (setD env i o) j = gs env j := by
  unfold setD
  split
  · exact gs_set_ne h
  · rfl
theorem putB_length : ∀ (ms : List Md) (rs : List R) (os : List Dt) (env : Env), (putB ms rs os env).length = env.length
  | .io :: ms, .loc i :: rs, o :: os, env => by
    show (putB ms rs os (setD env i o)).length = env.length
    rw [putB_length ms rs os, setD_length]
  | .io :: ms, .val _ :: rs, _ :: os, env => putB_length ms rs os env
  | .io :: ms, .new _ :: rs, _ :: os, env => putB_length ms rs os env
  | .fz :: ms, _ :: rs, _ :: os, env => by cases rs <;> exact putB_length ms _ os env
  | .ow :: ms, _ :: rs, _ :: os, env => by cases rs <;> exact putB_length ms _ os env
  | [], _, _, env => by unfold putB; rfl
  | m :: ms, [], _, env => by cases m <;> rfl
  | m :: ms, r :: rs, [], env => by cases m <;> cases r <;> rfl
theorem putB_ne : ∀ {ms : List Md} {rs : List R} {os : List Dt} {env : Env} {i : Nat}, i ∉ lent ms rs → gs (putB ms rs os env) i = gs env i
  | .io :: ms, .loc j :: rs, o :: os, env, i, h => by
    have h' : i ≠ j ∧ i ∉ lent ms rs := by simpa [lent] using h
    show gs (putB ms rs os (setD env j o)) i = gs env i
    rw [putB_ne h'.2, setD_ne (Ne.symm h'.1)]
  | .io :: ms, .val _ :: rs, _ :: os, env, i, h => putB_ne (ms := ms) (rs := rs) (by simpa [lent] using h)
  | .io :: ms, .new _ :: rs, _ :: os, env, i, h => putB_ne (ms := ms) (rs := rs) (by simpa [lent] using h)
  | .fz :: ms, r :: rs, _ :: os, env, i, h => by cases r <;> exact putB_ne (ms := ms) (rs := rs) (by simpa [lent] using h)
  | .ow :: ms, r :: rs, _ :: os, env, i, h => by cases r <;> exact putB_ne (ms := ms) (rs := rs) (by simpa [lent] using h)
  | [], _, _, env, i, h => by unfold putB; rfl
  | m :: ms, [], _, env, i, h => by cases m <;> rfl
  | m :: ms, r :: rs, [], env, i, h => by cases m <;> cases r <;> rfl
/-- a lent slot's new data stand at some place of the callee -/
theorem putB_lent (K : PySem.W.Frag) (mg : Str → Option Value) (σ : St) (H : Hp) (L : Addr → Prop) : ∀ {ms : List Md} {rs : List R} {vs : List V} {ds os : List Dt} {env : Env} {ow : Ow} {i : Nat}, Args4 (ArgOk K mg L σ H) ms rs vs ds → os.length = ms.length → (lent ms rs).Nodup → i ∈ lent ms rs → (∀ i ∈ lent ms rs, ∃ d m, gs env i = some (d, m)) →
    ∃ j o d m, gs env i = some (d, m) ∧ gs (putB ms rs os env) i = some (o, m) ∧ gs (mixE ms ds os) j = some (o, .io) ∧ owC ow ms rs j = ow i ∧ gv (vs.map some) j = gv σ i
  | .io :: ms, .loc k :: rs, v :: vs, d :: ds, o :: os, env, ow, i, .cons h t, hl, nd, hi, he => by
    by_cases e : i = k
    · subst e
      have nd' := (List.nodup_cons.mp nd).1
      obtain ⟨d0, m0, e0⟩ := he i (by simp [lent])
      refine ⟨0, o, d0, m0, e0, ?_, rfl, rfl, ?_⟩
      · show gs (putB ms rs os (setD env i o)) i = some (o, m0)
        rw [putB_ne nd', setD_self e0]
      · have hv : gv σ i = some v := h
        rw [hv]; rfl
    · have hi' : i ∈ lent ms rs := by
        rcases List.mem_cons.mp hi with z | z
        · exact absurd z e
        · exact z
      obtain ⟨j, o', d', m', e1, e2, e3, e4, e5⟩ := putB_lent K mg σ H L (env := setD env k o) (ow := ow) t (by simpa using hl) (List.nodup_cons.mp nd).2 hi' fun i' hi2 => by
        obtain ⟨d2, m2, e2⟩ := he i' (List.mem_cons_of_mem _ hi2)
        by_cases z : k = i'
        · subst z; exact ⟨o, m2, setD_self e2⟩
        · exact ⟨d2, m2, by rw [setD_ne z]; exact e2⟩
      rw [setD_ne (Ne.symm e)] at e1
      exact ⟨j + 1, o', d', m', e1, e2, e3, e4, e5⟩
  | .fz :: ms, r :: rs, v :: vs, d :: ds, o :: os, env, ow, i, .cons h t, hl, nd, hi, he => by
    have e0 : lent (.fz :: ms) (r :: rs) = lent ms rs := by cases r <;> rfl
    rw [e0] at nd hi he
    obtain ⟨j, o', d', m', e1, e2, e3, e4, e5⟩ := putB_lent K mg σ H L (env := env) (ow := ow) t (by simpa using hl) nd hi he
    refine ⟨j + 1, o', d', m', e1, ?_, e3, ?_, e5⟩
    · cases r <;> exact e2
    · cases r <;> exact e4
  | .io :: ms, .val _ :: rs, v :: vs, d :: ds, os, env, ow, i, .cons h t, _, _, _, _ => h.elim
  | .io :: ms, .new _ :: rs, v :: vs, d :: ds, os, env, ow, i, .cons h t, _, _, _, _ => h.elim
  | .ow :: ms, r :: rs, v :: vs, d :: ds, os, env, ow, i, .cons h t, _, _, _, _ => by cases r <;> exact h.elim
  | [], [], [], [], _, _, _, _, .nil, _, _, hi, _ => by cases hi
  | .io :: ms, .loc k :: rs, v :: vs, d :: ds, [], _, _, _, _, hl, _, _, _ => by cases hl
  | .fz :: ms, r :: rs, v :: vs, d :: ds, [], _, _, _, _, hl, _, _, _ => by cases hl

/-- the caller's slots behind a call -/
theorem SR.called {ex2 : Addr → Prop} {ms : List Md} {rs : List R} {vs : List V} {ds os : List Dt} (S : SR K mg ex env ow σ H) (A : Args4 (ArgOk K mg (lim ex ow) σ H) ms rs vs ds) (hl : os.length = ms.length) (nd : (lent ms rs).Nodup) (own : ∀ i ∈ lent ms rs, isOwn (gs env i) = true)
    (k : Keep (owC ow ms rs) H H') (h1 : ∀ a, ex2 a → lim ex ow a ∨ H a = none) (h2 : ∀ a, ex a → ex2 a) (h3 : ∀ i a, ow i = some a → (∀ j, owC ow ms rs j ≠ some a) → ex2 a) (ex3 : Addr → Prop) (h4 : ∀ a, ex3 a ↔ ex a ∨ (ex2 a ∧ H a = none))
    (S' : SR K mg ex2 (mixE ms ds os) (owC ow ms rs) (vs.map some) H') : SR K mg ex3 (putB ms rs os env) ow σ H' ∧ Post env ow H (putB ms rs os env) ow H' ∧ ∀ a, lim ex3 ow a → lim ex2 (owC ow ms rs) a := by
  have sub : ∀ a, lim ex3 ow a → lim ex2 (owC ow ms rs) a := fun a z => by
    rcases z with z | ⟨i, z⟩
    · rcases (h4 a).mp z with z | z
      · exact .inl (h2 a z)
      · exact .inl z.1
    · by_cases q : ∃ j, owC ow ms rs j = some a
      · exact .inr q
      · exact .inl (h3 i a z fun j e => q ⟨j, e⟩)
  have sub2 : ∀ a, inO (owC ow ms rs) a → inO ow a := fun a ⟨j, z⟩ => let ⟨i, _, e⟩ := owC_lent z; ⟨i, e⟩
  have lk : Le (cut (lim ex ow) H) (cut (lim ex3 ow) H') := cut_keep (fun a z n => by
    rcases z with z | z
    · rcases (h4 a).mp z with z | z
      · exact .inl z
      · exact absurd z.2 n
    · exact .inr z) fun a o h n => k.1 a o h fun z => n (.inr (sub2 a z))
  have he : ∀ i ∈ lent ms rs, ∃ d m, gs env i = some (d, m) := fun i hi => by
    have q := own i hi
    cases e : gs env i with
    | none => rw [e] at q; cases q
    | some y => exact ⟨y.1, y.2, rfl⟩
  refine ⟨⟨by rw [putB_length]; exact S.len, fun i => ?_, S.inj, fun i a h z => ?_, fun a z => ?_⟩, ⟨fun a o h n => k.1 a o h fun z => n (sub2 a z), fun _ _ h => h, fun i d h => ?_, k.2⟩, sub⟩
  · by_cases hi : i ∈ lent ms rs
    · obtain ⟨j, o, d, m, e1, e2, e3, e4, e5⟩ := putB_lent K mg σ H (lim ex ow) (env := env) (ow := ow) A hl nd hi he
      rw [e2]
      have s := S'.slot j
      rw [e3, e4, e5] at s
      obtain ⟨a, ob, f1, f2, f3, r⟩ := s
      have o1 := own i hi
      rw [e1] at o1
      have r' := r.mono (cut_sub H' sub)
      cases m with
      | fz => cases o1
      | ow => exact ⟨a, ob, f1, f2, f3, r'⟩
      | io => exact ⟨a, ob, f1, f2, f3, r'⟩
    · rw [putB_ne hi]
      have s := S.slot i
      have keep : ∀ a o, ow i = some a → H a = some o → H' a = some o := fun a o e1 e2 => k.1 a o e2 fun ⟨j, z⟩ => by
        obtain ⟨i', m1, m2⟩ := owC_lent z
        exact hi (by rw [S.inj i i' a e1 m2]; exact m1)
      cases z : gs env i with
      | none => rw [z] at s; exact s
      | some y =>
        obtain ⟨d, m⟩ := y
        rw [z] at s
        cases m with
        | fz => obtain ⟨e1, x, e2, r⟩ := s; exact ⟨e1, x, e2, r.mono lk⟩
        | ow => obtain ⟨a, ob, e1, e2, e3, r⟩ := s; exact ⟨a, ob, e1, e2, keep a ob e1 e3, r.mono lk⟩
        | io => obtain ⟨a, ob, e1, e2, e3, r⟩ := s; exact ⟨a, ob, e1, e2, keep a ob e1 e3, r.mono lk⟩
  · rcases (h4 a).mp z with z | z
    · exact S.dis i a h z
    · exact S.there (.inr ⟨i, h⟩) z.2
  · rcases (h4 a).mp z with z | z
    · exact k.2 a (S.tr a z)
    · exact S'.tr a z.1
  · by_cases hi : i ∈ lent ms rs
    · obtain ⟨j, o, d', m, e1, e2, _⟩ := putB_lent K mg σ H (lim ex ow) (env := env) (ow := ow) A hl nd hi he
      rw [h] at e1; cases e1
      exact ⟨o, e2⟩
    · exact ⟨d, by rw [putB_ne hi]; exact h⟩
/-- the call's reading -/
theorem t_fn {fs : Fs} {l : List (M R)} {n : Nat} (hn : fs.io.length = n) (σ : St) (H : Hp) (Q : VK) (h : tM K mg E (mFn fs l) σ H Q) : tCall (spOf K mg n fs) [] E (tMa K mg E (mA l)) σ H Q := by
  obtain ⟨ex, env, ow, S, w⟩ := h
  refine ⟨ex, env, ow, S, (WP.bind.mp w).mono (fun rs env1 w1 vs H1 ow1 P1 S1 hh => ?_) fun _ _ z => z⟩
  obtain ⟨ds, env2, ow2, S2, P2, _, A2, B2, w2⟩ := WP.argsD S1 hh (WP.bind.mp w1)
  obtain ⟨l1, l2, l3⟩ := A2.len
  unfold WP callF at w2
  by_cases hc : (lent fs.io rs).Nodup ∧ (lent fs.io rs).all (fun i => isOwn (gs env2 i)) = true
  · rw [if_pos hc] at w2
    obtain ⟨nd, own⟩ := hc
    have own' : ∀ i ∈ lent fs.io rs, isOwn (gs env2 i) = true := List.all_eq_true.mp own
    have lims : ∀ a, lim (fun a => lim ex ow2 a ∧ ∀ j, owC ow2 fs.io rs j ≠ some a) (owC ow2 fs.io rs) a ↔ lim ex ow2 a := fun a => by
      constructor
      · rintro (z | ⟨j, z⟩)
        · exact z.1
        · obtain ⟨i, _, e⟩ := owC_lent z
          exact .inr ⟨i, e⟩
      · intro z
        by_cases q : ∃ j, owC ow2 fs.io rs j = some a
        · exact .inr q
        · exact .inl ⟨z, fun j e => q ⟨j, e⟩⟩
    have eqL : lim (fun a => lim ex ow2 a ∧ ∀ j, owC ow2 fs.io rs j ≠ some a) (owC ow2 fs.io rs) = lim ex ow2 := funext fun a => propext (lims a)
    have hlen : (argE fs.io ds).length = (vs.map some).length := by rw [argE_length l3, List.length_map, l2]
    have SC : SR K mg (fun a => lim ex ow2 a ∧ ∀ j, owC ow2 fs.io rs j ≠ some a) (argE fs.io ds) (owC ow2 fs.io rs) (vs.map some) H1 := by
      refine ⟨hlen, fun j => ?_, fun i j a h1 h2 => owC_inj S2.inj nd h1 h2, fun i a h z => z.2 i h, fun a z => S2.there z.1⟩
      rw [eqL]
      exact callee_slots (fun i a e => .inr ⟨i, e⟩) (fun i => S2.slot i) A2 B2 own j
    show spOf K mg n fs (vs ++ []) H1 Q E
    rw [List.append_nil]
    refine ⟨by rw [l2, hn], _, _, ds, by rw [l3, hn], SC, ?_⟩
    cases e : fs.run ds with
    | none => simp only [e] at w2
    | some fr =>
      simp only [e] at w2
      cases fr with
      | exc x outs =>
        by_cases ho : outs.length = fs.io.length
        · simp only [ho, if_pos] at w2
          intro cls d H3 k3 S3 X3
          have R := S2.called (ex2 := fun a => lim ex ow2 a ∧ ∀ j, owC ow2 fs.io rs j ≠ some a) A2 ho nd own' k3 (fun a z => .inl z.1) (fun a z => ⟨.inl z, fun j e => by
            obtain ⟨i, _, e2⟩ := owC_lent e
            exact S2.dis i a e2 z⟩) (fun i a e z => ⟨.inr ⟨i, e⟩, z⟩) ex (fun a => ⟨.inl, fun z => z.elim (fun z => z) fun z => absurd z.2 (S2.there z.1.1)⟩) S3
          obtain ⟨R1, R2, R3⟩ := R
          refine w2 cls d H3 ow2 ((P1.trans P2).trans R2) R1 ?_
          rw [eqL] at X3
          exact X3
        · simp only [ho, if_neg, not_false_eq_true] at w2
      | ret r outs =>
        cases r with
        | loc i => simp only at w2
        | val d0 =>
          by_cases ho : outs.length = fs.io.length
          · simp only [ho, if_pos] at w2
            refine ⟨rfl, fun v H3 k3 R0 => ?_⟩
            obtain ⟨S3, r3⟩ := R0
            obtain ⟨R1, R2, R3⟩ := S2.called (ex2 := fun a => lim ex ow2 a ∧ ∀ j, owC ow2 fs.io rs j ≠ some a) A2 ho nd own' k3 (fun a z => .inl z.1) (fun a z => ⟨.inl z, fun j e => by
              obtain ⟨i, _, e2⟩ := owC_lent e
              exact S2.dis i a e2 z⟩) (fun i a e z => ⟨.inr ⟨i, e⟩, z⟩) ex (fun a => ⟨.inl, fun z => z.elim (fun z => z) fun z => absurd z.2 (S2.there z.1.1)⟩) S3
            refine w2 v H3 ow2 ((P1.trans P2).trans R2) ⟨R1, ?_⟩
            rw [eqL] at r3
            exact r3
          · simp only [ho, if_neg, not_false_eq_true] at w2
        | new d0 =>
          by_cases ho : outs.length = fs.io.length
          · simp only [ho, if_pos] at w2
            refine ⟨rfl, fun v H3 k3 R0 => ?_⟩
            obtain ⟨p, ob, f1, f2, f3, r3, S3⟩ := R0
            obtain ⟨R1, R2, R3⟩ := S2.called (ex2 := fun a => (lim ex ow2 a ∧ ∀ j, owC ow2 fs.io rs j ≠ some a) ∨ a = p) A2 ho nd own' k3 (fun a z => z.elim (fun z => .inl z.1) fun z => .inr (by rw [z]; exact f2)) (fun a z => .inl ⟨.inl z, fun j e => by
              obtain ⟨i, _, e2⟩ := owC_lent e
              exact S2.dis i a e2 z⟩) (fun i a e z => .inl ⟨.inr ⟨i, e⟩, z⟩) (fun a => ex a ∨ a = p) (fun a => by
                constructor
                · rintro (z | z)
                  · exact .inl z
                  · exact .inr ⟨.inr z, by rw [z]; exact f2⟩
                · rintro (z | ⟨z | z, n⟩)
                  · exact .inl z
                  · exact absurd n (S2.there z.1)
                  · exact .inr z) S3
            have hp : H p = none := by
              cases z : H p with
              | none => rfl
              | some o => exact absurd f2 (P1.there p (by rw [z]; exact fun q => nomatch q))
            refine w2 v H3 ow2 ((P1.trans P2).trans R2) ⟨p, ob, f1, hp, f3, r3.mono (cut_sub H3 fun a z => ?_), R1⟩
            exact R3 a z
          · simp only [ho, if_neg, not_false_eq_true] at w2
  · rw [if_neg hc] at w2; exact w2.elim
end
end DL

/-! DLj: the calls' rules, the law's end. -/
namespace DL
open PySem L2

section
variable {X : Cx} {k : Nat} {f C : Addr} {fd : FuncData} {ps : List Str} {sp : Sp} {dvs : List V} {ds : List Value} {E : XK} {x m : Str} {p pos apos : Pos} {e o : Expr} {es : List Expr} {ta : TE} {t : TA}
theorem runG {pins : List (Addr × Obj)} {σ : St} {H : Hp} {s : Shared} {Q : VK} {us : List Value} {vs : List V} (F : FnG X.prog X.w X.K X.mg X.base k f fd ps sp) (bd : Bd X k E) (hb : Binds X.K fd ps ds) (hd : Vals dvs ds)
    (I : Inv X pins σ H s) (r : Vals vs us) (h : sp (vs ++ dvs) H Q E) : wpAny (model X.prog X.w) X.A (call (.ref f) us) (EP X pins σ Q) X.xe s := by
  have rr : Vals (vs ++ dvs) (us ++ ds) := r.append hd
  have hl : (us ++ ds).length = ps.length := rr.length.symm.trans (F.len _ _ _ _ h)
  have go := F.run X.A X.stack s H ⟨us, []⟩ (us ++ ds) (vs ++ dvs) Q E bd.gd bd.room I.env0 (hb s us I.kIn hl) rr h
  refine wpAny_call (codeAny_mono go fun rv s' hq => ?_)
  match rv, hq with
  | .error e, hq => exact bd.ps pins σ H s e s' I hq
  | .ok (.ret u), hq => exact I.after hq
  | .ok .next, hq => exact False.elim hq
  | .ok .brk, hq => exact False.elim hq
  | .ok .cont, hq => exact False.elim hq
theorem pe_callG (F : FnG X.prog X.w X.K X.mg X.base k f fd ps sp) (bd : Bd X k E) (hg : Gl X x) (hm : X.mg x = some (.ref f)) (hk : PySem.W.keepIn X.K (.ref f) = true) (hb : Binds X.K fd ps ds) (hd : Vals dvs ds)
    (ha : PA X (e :: es) t) (hdb : (x == ("__debug__" : Str)) = false := by decide) (he : starEach (e :: es) X.env = (false, eval e X.env) :: starEach es X.env := by rfl) (hpl : (backTo pos (starEach es X.env)).any (·.1) = false := by rfl) :
    PE X (.Call (.Name x p) (e :: es) [] pos) (tCall sp dvs E t) :=
  ⟨fun pins s σ H Q I h => wpAny_Call_Name_kw (ld_glob I hg hm (PySem.W.callWith_K (h₀ := X.base) I.ok.mod.kin hk (thn (ha.run pos pins s σ H _ I h) fun us s1 ⟨vs, H1, I1, r, q⟩ => ⟨I1.kIn, runG F bd hb hd I1 r q⟩) he hpl) hdb)⟩
theorem pe_callG0 (F : FnG X.prog X.w X.K X.mg X.base k f fd ps sp) (bd : Bd X k E) (hg : Gl X x) (hm : X.mg x = some (.ref f)) (hk : PySem.W.keepIn X.K (.ref f) = true) (hb : Binds X.K fd ps ds) (hd : Vals dvs ds)
    (hdb : (x == ("__debug__" : Str)) = false := by decide) : PE X (.Call (.Name x p) [] [] pos) (tCall sp dvs E tNil) :=
  ⟨fun pins s σ H Q I h => wpAny_Call_Name_kw (ld_glob I hg hm (PySem.W.callWith_K0 I.kIn hk (runG (us := []) F bd hb hd I .nil h)) hdb)⟩
end
theorem Bd.mono {X : Cx} {j k : Nat} {E : XK} (b : Bd X k E) (h : j ≤ k) : Bd X j E := ⟨b.calm, b.room.mono h, b.gd, b.ps, b.own, b.tk⟩

/-- all that a caller must know of a def -/
structure Df (P : Program) (w : World) (K : PySem.W.Frag) (mg : Str → Option Value) (base : Heap) (k n : Nat) (x : Str) (fs : Fs) : Prop where
  ok : ∃ (f : Addr) (fd : FuncData) (ps : List Str), ps.length = n ∧ FnG P w K mg base k f fd ps (spOf K mg n fs) ∧ mg x = some (.ref f) ∧ PySem.W.keepIn K (.ref f) = true ∧ Binds K fd ps []
  io : fs.io.length = n
section
variable {X : Cx} {E : XK} {x : Str} {p pos : Pos} {e : Expr} {es : List Expr} {k n : Nat} {fs : Fs} {ml : List (M R)}
theorem d_fn (D : Df X.prog X.w X.K X.mg X.base k n x fs) (bd : Bd X k E) (hg : Gl X x) (ha : DA X E (e :: es) ml) (hdb : (x == ("__debug__" : Str)) = false := by decide) (he : starEach (e :: es) X.env = (false, eval e X.env) :: starEach es X.env := by rfl)
    (hpl : (backTo pos (starEach es X.env)).any (·.1) = false := by rfl) : DE X E (.Call (.Name x p) (e :: es) [] pos) (mFn fs ml) := by
  obtain ⟨f, fd, ps, hl, F, hm, hk, hb⟩ := D.ok
  exact PE.weak (pe_callG F bd hg hm hk hb .nil ha hdb he hpl) (t_fn D.io)
theorem d_fn0 (D : Df X.prog X.w X.K X.mg X.base k n x fs) (bd : Bd X k E) (hg : Gl X x) (hdb : (x == ("__debug__" : Str)) = false := by decide) : DE X E (.Call (.Name x p) [] [] pos) (mFn fs []) := by
  obtain ⟨f, fd, ps, hl, F, hm, hk, hb⟩ := D.ok
  refine PE.weak (pe_callG0 F bd hg hm hk hb .nil hdb) fun σ H Q h => ?_
  obtain ⟨ex, env, ow, S, w⟩ := t_fn D.io σ H Q h
  exact w [] H ow .refl S .nil
end

/-! ### the law's end -/
section
open PySem.W
theorem only_ints {K : PySem.W.Frag} {mg : Str → Option Value} {H : Hp} : ∀ ns : List Int, RepA K mg H (ns.map V.int) (ns.map Dt.int)
  | [] => .nil
  | n :: ns => .cons (.int n) (only_ints ns)
/-- the script alone -/
theorem SR.script {K : PySem.W.Frag} {mg : Str → Option Value} {H : Hp} {a : Addr} {ns : List Int} (h : SqL K H a (ns.map V.int)) : SR K mg (fun _ => False) (argE [.fz] [.scr (ns.map Dt.int)]) (fun _ => none) ([V.ref a].map some) H := by
  have e : cut (lim (fun _ => False) (fun _ => none)) H = H := by
    funext b
    rw [cut_out]
    rintro (z | ⟨i, z⟩)
    · exact z
    · cases z
  refine ⟨rfl, fun i => ?_, (fun _ _ _ h => nomatch h), (fun _ _ h => nomatch h), fun _ h => False.elim h⟩
  cases i with
  | zero =>
    refine ⟨rfl, .ref a, rfl, ?_⟩
    rw [e]
    exact .scr h (only_ints ns)
  | succ i => rfl
/-- a def that gives True for every script -/
structure AllTrue (n : Nat) (fs : Fs) : Prop where
  io : fs.io = [.fz]
  yes : ∀ ns : List Int, ns.length ≤ n → fs.run [.scr (ns.map Dt.int)] = some (.ret (.val (.bl true)) [.non])
end
end DL

/-! DLk: the end of a law. -/
namespace DL
open PySem PySem.Spec PyProof.Rows PySem.W L2

section
variable {P : Program} {w : World} {K : PySem.W.Frag} {mg mb : Str → Option Value} {k n : Nat} {fa a : Addr} {fd : FuncData} {x : Str} {fs : Fs} {s₁ : Shared} {vs : List Value} {ns : List Int}
/-- the heap of which the script alone is known -/
def only1 (a : Addr) (o : Option HO) : Hp := fun b => if b = a then o else none
theorem only1_ne {o : Option HO} {b : Addr} (h : only1 a o b ≠ none) : b = a := by
  unfold only1 at h
  by_cases e : b = a
  · exact e
  · rw [if_neg e] at h; exact absurd rfl h
theorem law_run (KX : K.In s₁.heap) (hns : s₁.heap.Ns mainGlobals mg) (hb : s₁.heap.Ns builtinsNs mb) (hbb : ∀ x : Str, x ≠ "__name__" → mb x = bootBuiltins x) (hlim : s₁.heap.NoLimit) (hg : s₁.gens = #[])
    (ha : s₁.heap.get? a = some { cls := .type "list", data := .seq vs.toArray }) (hi : IntsAre vs ns) (hl : ns.length ≤ sizeLine) (hr : Room k callerA)
    (F : ∀ base : Heap, K.In base → base.Ns mainGlobals mg → FnG P w K mg base k fa fd [x] (spOf K mg 1 fs)) (hbind : ∀ (s : Shared) (u : Value), BindsTo s fd ⟨[u], []⟩ [(x, u)])
    (hio : fs.io = [.fz]) (yes : fs.run [.scr (ns.map Dt.int)] = some (.ret (.val (.bl true)) [.non])) :
    codeAny (model P w) callerA (.call (.ref fa) ⟨[.ref a], []⟩) (fun r s' => r = .ok (.ret (.bool true)) ∧ OldK s₁.heap s'.heap ∧ s'.os = s₁.os ∧ AllBare s'.gens) s₁ := by
  have rv := vals_ints hi
  have lv := hi.length
  have main : ∀ o : Option HO, (o = none ∨ ∃ ob xs, o = some (.frz ob (.lst xs))) → SqL K (only1 a o) a (ns.map V.int) → HOk P w (only1 a o) s₁.heap → (o ≠ none → K.lookup a = none) →
      codeAny (model P w) callerA (.call (.ref fa) ⟨[.ref a], []⟩) (fun r s' => r = .ok (.ret (.bool true)) ∧ OldK s₁.heap s'.heap ∧ s'.os = s₁.os ∧ AllBare s'.gens) s₁ := by
    intro o ho hS hok hK
    have nodict : ∀ {b : Addr} {ob : Obj} {es : Array DictEntry} {ep : Nat}, s₁.heap.get? b = some ob → ob.data = .dict es ep → only1 a o b = none := fun {b ob es ep} e d => by
      cases q : only1 a o b with
      | none => rfl
      | some u =>
        have z : b = a := only1_ne (o := o) (by rw [q]; exact fun z => nomatch z)
        rw [z, ha] at e
        cases e
        exact nomatch (show Data.seq vs.toArray _ = Data.dict es ep from d)
    have nsH : ∀ {b : Addr} {m : Str → Option Value}, s₁.heap.Ns b m → (hidT s₁.heap (only1 a o)).Ns b m := fun {b m} ⟨ob, es, ep, e, d, r⟩ => ⟨ob, es, ep, hidT_get e (nodict e d), d, r⟩
    have kb : K.In (hidT s₁.heap (only1 a o)) := fun b ob e => hidT_get (KX b ob e) (by
      cases q : only1 a o b with
      | none => rfl
      | some u =>
        have z : b = a := only1_ne (o := o) (by rw [q]; exact fun z => nomatch z)
        have no : o ≠ none := fun z2 => by
          unfold only1 at q
          rw [if_pos z, z2] at q
          cases q
        rw [z, hK no] at e
        cases e)
    have md : Mod K mg (hidT s₁.heap (only1 a o)) := ⟨kb, nsH hns, ⟨mb, nsH hb, hbb⟩, let ⟨mc, h1, h2⟩ := hlim; ⟨mc, nsH h1, h2⟩⟩
    have e0 : Env0 P w K mg (hidT s₁.heap (only1 a o)) callerA [] s₁ (only1 a o) := ⟨rfl, md, fun b ob e => of_hidT e, Nat.le_of_eq (hidT_size _ _), trivial, fun b hb => absurd (show b ∈ ([] : List Addr) from hb) (by simp), hok, .of_eq hg⟩
    have pre : spOf K mg 1 fs [.ref a] (only1 a o) (fun v _ => v = .bl true) (fun _ _ _ => False) := by
      refine ⟨rfl, (fun _ => False), (fun _ => none), [.scr (ns.map Dt.int)], rfl, ?_, ?_⟩
      · rw [hio]; exact SR.script hS
      · rw [yes]
        refine ⟨rfl, fun v H' _ R => ?_⟩
        obtain ⟨_, r⟩ := R
        cases r
        rfl
    refine codeAny_mono ((F _ kb (nsH hns)).run callerA [] s₁ (only1 a o) ⟨[.ref a], []⟩ [.ref a] [.ref a] _ _ rfl hr e0 (hbind s₁ (.ref a)) (.cons rfl .nil) pre) fun r s' h => ?_
    match r, h with
    | .error e, h =>
      obtain ⟨_, _, _, _, _, _, _, _, _, _, _, _, z⟩ := h
      exact z.elim
    | .ok .next, h => exact False.elim h
    | .ok .brk, h => exact False.elim h
    | .ok .cont, h => exact False.elim h
    | .ok (.ret u), h =>
      obtain ⟨v, H', os, bare, un, hok', r', q⟩ := h
      have e : v = .bl true := q
      subst e
      obtain rfl : u = Value.bool true := r'
      refine ⟨rfl, OldK.of_keep fun b ob e => ?_, os, bare⟩
      cases q : only1 a o b with
      | none => exact un.keep b ob e q (by simp [frs]) (by simp)
      | some u =>
        rcases ho with z | ⟨oz, xs, z⟩
        · have z2 : b = a := only1_ne (o := o) (by rw [q]; exact fun z => nomatch z)
          unfold only1 at q
          rw [if_pos z2, z] at q
          cases q
        · have z2 : b = a := only1_ne (o := o) (by rw [q]; exact fun z => nomatch z)
          have z3 : only1 a o b = some (.frz oz (.lst xs)) := by unfold only1; rw [if_pos z2]; exact z
          obtain ⟨e1, _⟩ := hok b _ z3
          obtain ⟨e2, _⟩ := hok' b _ (un.frzs b oz _ z3)
          rw [e] at e1
          cases e1
          exact e2
  cases hk : K.lookup a with
  | some ob =>
    have e := KX a ob hk
    rw [ha] at e
    cases e
    refine main none (.inl rfl) (.inr ⟨_, vs.toArray, _, hk, rfl, rfl, rfl, by rw [List.size_toArray, lv]; exact hl, by simpa using rv⟩) (fun b u z => ?_) fun z => absurd rfl z
    unfold only1 at z
    split at z <;> cases z
  | none =>
    have e : only1 a (some (.frz { cls := .type "list", data := .seq vs.toArray } (.lst (ns.map V.int)))) a = some (.frz { cls := .type "list", data := .seq vs.toArray } (.lst (ns.map V.int))) := by unfold only1; rw [if_pos rfl]
    refine main _ (.inr ⟨_, _, rfl⟩) (.inl (.inr ⟨_, e⟩)) (fun b u z => ?_) fun _ => hk
    have z2 : b = a := only1_ne (by rw [z]; exact fun z => nomatch z)
    subst z2
    rw [e] at z
    cases z
    exact ⟨ha, by rw [List.length_map]; exact hl, vs, _, rv, ha⟩
end
/-- a law by the data that its def gives -/
theorem data_law {l : PySem.W.OpenLaw} {n k : Nat} {q : Program} {loose : List Str} {XP : (Str → Option Value) → Heap → Prop} {YP : World → Heap → Prop} {d : DefRec} {K : Params → PySem.W.Frag} {fs : World → Fs} {x : Str}
    (hn : l.most = some n) (hn2 : n ≤ sizeLine) (hdf : d.params.defaults = []) (hr : Room k callerA) (hY : ∀ (w : World) (h : Heap), YP w h → (K w.params).In h)
    (F : ∀ (w : World) (mg : Str → Option Value) (fa : Addr) (h : Heap), (K w.params).In h → h.Ns mainGlobals mg → mg d.name = some (.ref fa) →
      ∃ fd : FuncData, (∀ (s : Shared) (u : Value), BindsTo s fd ⟨[u], []⟩ [(x, u)]) ∧ ∀ base : Heap, (K w.params).In base → base.Ns mainGlobals mg → FnG l.prog w (K w.params) mg base k fa fd [x] (spOf (K w.params) mg 1 (fs w)))
    (yes : ∀ w, AllTrue n (fs w)) : PySem.W.WalkO q loose XP YP l.row.toRowW d [] (fun f vs => PySem.call f vs) := by
  refine Att.attach_call hn hdf fun w s₀ s₁ mg mb fa o pm cd doc a vs ns G Y ho hd hcd hmg hobj hints hlen hg => ?_
  obtain ⟨fd, hb, hF⟩ := F w mg fa _ (hY w _ Y) G.T.g hmg
  exact law_run (hY w _ Y) G.T.g G.T.b G.T.builtins G.T.nolimit hg hobj hints (Nat.le_trans hlen hn2) hr hF hb (yes w).io ((yes w).yes ns hlen)
end DL

/-! DLo: what the operators and the built-ins make of data. -/
namespace DL
open PySem L2

section
variable {K : PySem.W.Frag} {mg : Str → Option Value} {L : Addr → Prop} {H H' : Hp}

/-! ### numbers -/
def gI (c : Int → Int → Bool) (f : Int → Int → Dt) : Dt → Dt → Option R := fun x y => match x, y with
  | .int i, .int j => if c i j then some (.val (f i j)) else none
  | _, _ => none
theorem gI_some {c : Int → Int → Bool} {f : Int → Int → Dt} {x y : Dt} {rv : R} (h : gI c f x y = some rv) : ∃ i j, x = .int i ∧ y = .int j ∧ c i j = true ∧ rv = .val (f i j) := by
  unfold gI at h
  split at h
  · rename_i i j
    by_cases e : c i j = true
    · rw [if_pos e] at h; cases h; exact ⟨i, j, rfl, rfl, e, rfl⟩
    · rw [if_neg e] at h; cases h
  · cases h
theorem os_int {C : Int → Int → Prop} {v : Int → Int → V} {c : Int → Int → Bool} {f : Int → Int → Dt} (hc : ∀ i j, c i j = true → C i j) (hv : ∀ (G : Hp) i j, Rep K mg G (v i j) (f i j)) : OpS K mg (rI C v) (gI c f) :=
  fun L H x y dx dy rv Q tr rx ry h k => by
    obtain ⟨i, j, rfl, rfl, e, rfl⟩ := gI_some h
    exact ⟨i, j, rx.int, ry.int, hc i j e, k _ H (.refl H) (hv _ i j)⟩
theorem os_int0 {v : Int → Int → V} {f : Int → Int → Dt} (hv : ∀ (G : Hp) i j, Rep K mg G (v i j) (f i j)) : OpS K mg (rI0 v) (gI (fun _ _ => true) f) :=
  fun L H x y dx dy rv Q tr rx ry h k => by
    obtain ⟨i, j, rfl, rfl, e, rfl⟩ := gI_some h
    exact ⟨i, j, rx.int, ry.int, k _ H (.refl H) (hv _ i j)⟩
def small (i : Int) : Bool := decide (-(2 ^ 64) < i ∧ i < 2 ^ 64)
def gAdd := gI (fun _ _ => true) fun i j => .int (i + j)
def gSub := gI (fun _ _ => true) fun i j => .int (i - j)
def gMul := gI (fun i j => small i || small j) fun i j => .int (i * j)
def gDiv := gI (fun _ j => decide (0 < j ∧ j < 1073741824)) fun i j => .int (i / j)
def gMod := gI (fun _ j => decide (0 < j)) fun i j => .int (i % j)
def gPow := gI (fun i j => decide (0 ≤ j ∧ j ≤ 1000000 ∧ i.natAbs < 2 ^ 64)) fun i j => .int (i ^ j.toNat)
def gLt := gI (fun _ _ => true) fun i j => .bl (decide (i < j))
def gLe := gI (fun _ _ => true) fun i j => .bl (decide (i ≤ j))
def gGt := gI (fun _ _ => true) fun i j => .bl (decide (j < i))
def gGe := gI (fun _ _ => true) fun i j => .bl (decide (j ≤ i))
theorem os_add : OpS K mg (rI0 fun i j => .int (i + j)) gAdd := os_int0 fun _ _ _ => .int _
theorem os_sub : OpS K mg (rI0 fun i j => .int (i - j)) gSub := os_int0 fun _ _ _ => .int _
theorem os_mul : OpS K mg (rI CMul fun i j => .int (i * j)) gMul := os_int (fun i j h => by
  rcases Bool.or_eq_true _ _ ▸ h with e | e
  · exact .inl (of_decide_eq_true e)
  · exact .inr (of_decide_eq_true e)) fun _ _ _ => .int _
theorem os_div : OpS K mg (rI CDiv fun i j => .int (i / j)) gDiv := os_int (fun i j h => (of_decide_eq_true h : 0 < j ∧ j < 1073741824)) fun _ _ _ => .int _
theorem os_mod : OpS K mg (rI (fun _ j => 0 < j) fun i j => .int (i % j)) gMod := os_int (fun i j h => of_decide_eq_true h) fun _ _ _ => .int _
theorem os_pow : OpS K mg (rI CPow fun i j => .int (i ^ j.toNat)) gPow := os_int (fun i j h => (of_decide_eq_true h : 0 ≤ j ∧ j ≤ 1000000 ∧ i.natAbs < 2 ^ 64)) fun _ _ _ => .int _
theorem os_lt : OpS K mg (rI0 fun i j => .bl (decide (i < j))) gLt := os_int0 fun _ _ _ => .bl _
theorem os_le : OpS K mg (rI0 fun i j => .bl (decide (i ≤ j))) gLe := os_int0 fun _ _ _ => .bl _
theorem os_gt : OpS K mg (rI0 fun i j => .bl (decide (j < i))) gGt := os_int0 fun _ _ _ => .bl _
theorem os_ge : OpS K mg (rI0 fun i j => .bl (decide (j ≤ i))) gGe := os_int0 fun _ _ _ => .bl _
def gNeg : Dt → Option R := fun x => match x with | .int i => some (.val (.int (-i))) | _ => none
theorem us_neg : UnS K mg (rU fun i => .int (-i)) gNeg := fun L H x dx rv Q tr rx h k => by
  unfold gNeg at h
  split at h
  · rename_i i
    cases h
    exact ⟨i, rx.int, k _ H (.refl H) (.int _)⟩
  · cases h

/-! ### == and != of flat data -/
def flatD : Dt → Bool
  | .non => true | .bl _ => true | .int _ => true | .str _ => true | _ => false
def eqF : Dt → Dt → Option Bool
  | .non, .non => some true | .non, .int _ => some false | .int _, .non => some false | .non, .bl _ => some false | .bl _, .non => some false | .non, .str _ => some false | .str _, .non => some false
  | .int i, .int j => some (decide (i = j)) | .bl i, .bl j => some (decide (i = j)) | .str i, .str j => some (decide (i = j))
  | .int _, .str _ => some false | .str _, .int _ => some false | .bl _, .str _ => some false | .str _, .bl _ => some false
  | _, _ => none
def gEq : Dt → Dt → Option R := fun x y => (eqF x y).map fun b => .val (.bl b)
def gNe : Dt → Dt → Option R := fun x y => (eqF x y).map fun b => .val (.bl !b)
theorem eqF_ok {G H : Hp} {x y : V} {dx dy : Dt} {b : Bool} (rx : Rdb K mg G H x dx) (ry : Rdb K mg G H y dy) (h : eqF dx dy = some b) : scal x y = true ∧ decide (x = y) = b := by
  unfold eqF at h
  split at h <;> cases h
  all_goals (first
    | (rw [rx.non, ry.non]; exact ⟨rfl, by simp⟩) | (rw [rx.non, ry.int]; exact ⟨rfl, by simp⟩) | (rw [rx.int, ry.non]; exact ⟨rfl, by simp⟩)
    | (rw [rx.non, ry.bl]; exact ⟨rfl, by simp⟩) | (rw [rx.bl, ry.non]; exact ⟨rfl, by simp⟩) | (rw [rx.non, ry.str]; exact ⟨rfl, by simp⟩) | (rw [rx.str, ry.non]; exact ⟨rfl, by simp⟩)
    | (rw [rx.int, ry.int]; exact ⟨rfl, by simp⟩) | (rw [rx.bl, ry.bl]; exact ⟨rfl, by simp⟩) | (rw [rx.str, ry.str]; exact ⟨rfl, by simp⟩)
    | (rw [rx.int, ry.str]; exact ⟨rfl, by simp⟩) | (rw [rx.str, ry.int]; exact ⟨rfl, by simp⟩) | (rw [rx.bl, ry.str]; exact ⟨rfl, by simp⟩) | (rw [rx.str, ry.bl]; exact ⟨rfl, by simp⟩))
theorem os_eq : OpS K mg rEq gEq := fun L H x y dx dy rv Q tr rx ry h k => by
  unfold gEq at h
  cases e : eqF dx dy with
  | none => rw [e] at h; cases h
  | some b =>
    rw [e] at h
    cases h
    obtain ⟨e1, e2⟩ := eqF_ok rx ry e
    exact ⟨e1, k _ H (.refl H) (by rw [e2]; exact .bl b)⟩
theorem os_ne : OpS K mg rNe gNe := fun L H x y dx dy rv Q tr rx ry h k => by
  unfold gNe at h
  cases e : eqF dx dy with
  | none => rw [e] at h; cases h
  | some b =>
    rw [e] at h
    cases h
    obtain ⟨e1, e2⟩ := eqF_ok rx ry e
    exact ⟨e1, k _ H (.refl H) (by rw [e2]; exact .bl _)⟩
/-- is None -/
def isNonD : Dt → Bool
  | .non => true | _ => false
theorem isNon_ok {G H : Hp} {x : V} {d : Dt} (rx : Rdb K mg G H x d) : decide (x = .non) = isNonD d := by
  rcases rx with h | ⟨a, ob, e, _, xs, ds, _, e2, _⟩
  · cases h <;> simp [isNonD]
  · subst e; subst e2; simp [isNonD]
def gIsN : Dt → Dt → Option R := fun x y => match y with | .non => some (.val (.bl (isNonD x))) | _ => none
def gNotN : Dt → Dt → Option R := fun x y => match y with | .non => some (.val (.bl !(isNonD x))) | _ => none
theorem os_isN : OpS K mg (fun x y H Q => y = .non ∧ Q (.bl (decide (x = .non))) H) gIsN := fun L H x y dx dy rv Q tr rx ry h k => by
  unfold gIsN at h
  split at h
  · cases h
    exact ⟨ry.non, k _ H (.refl H) (by rw [isNon_ok rx]; exact .bl _)⟩
  · cases h
theorem os_notN : OpS K mg (fun x y H Q => y = .non ∧ Q (.bl (!decide (x = .non))) H) gNotN := fun L H x y dx dy rv Q tr rx ry h k => by
  unfold gNotN at h
  split at h
  · cases h
    exact ⟨ry.non, k _ H (.refl H) (by rw [isNon_ok rx]; exact .bl _)⟩
  · cases h

/-! ### texts -/
def line : Nat := 100000
def gCatS : Dt → Dt → Option R := fun x y => match x, y with
  | .str a, .str b => if a.length + b.length ≤ line then some (.val (.str (a ++ b))) else none
  | _, _ => none
theorem line_le {n : Nat} (h : n ≤ line) : n ≤ sizeLine := by rw [sizeLine_eq]; unfold line at h; omega
theorem os_catS : OpS K mg (fun x y H Q => ∃ i j, x = .str i ∧ y = .str j ∧ i.length + j.length ≤ sizeLine ∧ Q (.str (i ++ j)) H) gCatS := fun L H x y dx dy rv Q tr rx ry h k => by
  unfold gCatS at h
  split at h
  · rename_i a b
    by_cases e : a.length + b.length ≤ line
    · rw [if_pos e] at h; cases h
      exact ⟨a, b, rx.str, ry.str, line_le e, k _ H (.refl H) (.str _)⟩
    · rw [if_neg e] at h; cases h
  · cases h
def ltS (a b : Str) : Bool := decide (a.cps.toList < b.cps.toList)
def gLtS : Dt → Dt → Option R := fun x y => match x, y with
  | .str a, .str b => some (.val (.bl (ltS a b)))
  | _, _ => none
theorem os_ltS : OpS K mg (fun x y H Q => ∃ i j, x = .str i ∧ y = .str j ∧ Q (.bl (decide (i.cps.toList < j.cps.toList))) H) gLtS := fun L H x y dx dy rv Q tr rx ry h k => by
  unfold gLtS at h
  split at h
  · rename_i a b
    cases h
    exact ⟨a, b, rx.str, ry.str, k _ H (.refl H) (.bl _)⟩
  · cases h

/-! ### a new object -/
theorem new_lst {xs : List V} {ds : List Dt} {p : Addr} (tr : ∀ a, L a → H a ≠ none) (hp : H p = none) (r : RepA K mg (cut L H) xs ds) : RvOk K mg L H (upd H p (.lst xs)) (.new (.lst ds)) (.ref p) :=
  ⟨p, _, rfl, hp, upd_same, xs, ds, rfl, rfl, r.mono (cut_keep (fun a h n => h.elim id fun e => absurd hp (by subst e; exact n)) fun a o h _ => Le.new hp a o h)⟩
theorem new_tup {xs : List V} {ds : List Dt} {p : Addr} (tr : ∀ a, L a → H a ≠ none) (hp : H p = none) (r : RepA K mg (cut L H) xs ds) : RvOk K mg L H (upd H p (.tup xs)) (.val (.tup ds)) (.ref p) :=
  .tup (.inl (.inl (Le.fresh tr hp).2)) (r.mono (Le.fresh tr hp).1)
def gCatL : Dt → Dt → Option R := fun x y => match x, y with
  | .lst a, .lst b => if a.length + b.length ≤ line then some (.new (.lst (a ++ b))) else none
  | _, _ => none
theorem os_catL : OpS K mg rCat gCatL := fun L H x y dx dy rv Q tr rx ry h k => by
  unfold gCatL at h
  split at h
  · rename_i a b
    by_cases e : a.length + b.length ≤ line
    · rw [if_pos e] at h; cases h
      obtain ⟨p1, xs, rfl, h1, r1⟩ := rx.lst
      obtain ⟨p2, ys, rfl, h2, r2⟩ := ry.lst
      exact ⟨p1, p2, xs, ys, rfl, rfl, h1, h2, line_le (by rw [r1.length, r2.length]; exact e), fun p hp => k _ _ (.new hp) (new_lst tr hp (r1.append r2))⟩
    · rw [if_neg e] at h; cases h
  · cases h
def gCatT : Dt → Dt → Option R := fun x y => match x, y with
  | .tup a, .tup b => if a.length + b.length ≤ line then some (.val (.tup (a ++ b))) else none
  | _, _ => none
theorem RepA.nil_iff {G : Hp} {vs : List V} {ds : List Dt} (r : RepA K mg G vs ds) : vs = [] ↔ ds = [] := by
  cases r <;> simp
/-- a tuple that is read is frozen -/
theorem Rdb.tupz {G H : Hp} {v : V} {ds : List Dt} (h : Rdb K mg G H v (.tup ds)) : Rep K mg G v (.tup ds) := by
  rcases h with h | ⟨a, ob, e, ha, xs, ds', e1, e2, r⟩
  · exact h
  · cases e2
theorem os_catT : OpS K mg (rCatA K) gCatT := fun L H x y dx dy rv Q tr rx ry h k => by
  unfold gCatT at h
  split at h
  · rename_i a b
    by_cases e : a.length + b.length ≤ line
    · rw [if_pos e] at h; cases h
      have rx' := rx.tupz
      have ry' := ry.tupz
      cases rx' with
      | tup hx r1 =>
        cases ry' with
        | tup hy r2 =>
          refine ⟨_, _, _, _, rfl, rfl, (cut_le L H).t hx, (cut_le L H).t hy, line_le (by rw [r1.length, r2.length]; exact e), fun z => ?_, fun z z2 => ?_, fun z z2 p hp => ?_⟩
          · have ea := r1.nil_iff.mp z
            subst ea
            exact k _ H (.refl H) (.tup hy r2)
          · have eb := r2.nil_iff.mp z2
            subst eb
            refine k _ H (.refl H) ?_
            show Rep K mg (cut L H) _ (.tup (a ++ []))
            rw [List.append_nil]
            exact .tup hx r1
          · exact k _ _ (.new hp) (new_tup tr hp (r1.append r2))
    · rw [if_neg e] at h; cases h
  · cases h

/-! ### in -/
def eqD : Dt → Dt → Bool
  | .non, .non => true
  | .bl a, .bl b => a == b
  | .bl a, .int b => (if a then 1 else 0) == b
  | .int a, .bl b => a == (if b then 1 else 0)
  | .int a, .int b => a == b
  | .str a, .str b => a == b
  | _, _ => false
theorem flat_rep {G : Hp} {v : V} {d : Dt} (r : Rep K mg G v d) (h : flatD d = true) : flatV v = true := by
  cases r <;> first | rfl | cases h
theorem eqD_rep {G : Hp} {v u : V} {d e : Dt} (r : Rep K mg G v d) (q : Rep K mg G u e) (h : flatD d = true) (h2 : flatD e = true) : eqV v u = eqD d e := by
  cases r <;> first | (cases h; done) | (cases q <;> first | (cases h2; done) | rfl)
theorem flat_all {G : Hp} : ∀ {vs : List V} {ds : List Dt}, RepA K mg G vs ds → ds.all flatD = true → vs.all flatV = true
  | _, _, .nil, _ => rfl
  | _, _, .cons r t, h => by
    rw [List.all_cons, Bool.and_eq_true] at h
    rw [List.all_cons, flat_rep r h.1, flat_all t h.2]; rfl
theorem in_rep {G : Hp} {u : V} {e : Dt} (q : Rep K mg G u e) (h2 : flatD e = true) : ∀ {vs : List V} {ds : List Dt}, RepA K mg G vs ds → ds.all flatD = true → inV u vs = ds.any fun d => eqD d e
  | _, _, .nil, _ => rfl
  | _, _, .cons r t, h => by
    rw [List.all_cons, Bool.and_eq_true] at h
    unfold inV
    rw [List.any_cons, List.any_cons, eqD_rep r q h.1 h2]
    have := in_rep q h2 t h.2
    unfold inV at this
    rw [this]
def seqD : Dt → Option (List Dt)
  | .tup xs => some xs | .lst xs => some xs | .scr xs => some xs | _ => none
theorem Rdb.seq {L : Addr → Prop} {H : Hp} {v : V} {d : Dt} {ds : List Dt} (h : Rdb K mg (cut L H) H v d) (e : seqD d = some ds) : ∃ a xs, v = .ref a ∧ (SqL K H a xs ∨ SqT K H a xs) ∧ RepA K mg (cut L H) xs ds := by
  unfold seqD at e
  split at e
  · cases e; obtain ⟨a, xs, e1, e2, r⟩ := h.tup; exact ⟨a, xs, e1, .inr e2, r⟩
  · cases e; obtain ⟨a, xs, e1, e2, r⟩ := h.lst; exact ⟨a, xs, e1, .inl (SqL.of e2), r⟩
  · cases e; obtain ⟨a, xs, e1, e2, r⟩ := h.scr; exact ⟨a, xs, e1, .inl e2, r⟩
  · cases e
def inD (x y : Dt) : Option Bool := match seqD y with
  | some ds => if flatD x && ds.all flatD then some (ds.any fun d => eqD d x) else none
  | none => none
def gIn : Dt → Dt → Option R := fun x y => (inD x y).map fun b => .val (.bl b)
def gNotIn : Dt → Dt → Option R := fun x y => (inD x y).map fun b => .val (.bl !b)
theorem inD_ok {L : Addr → Prop} {H : Hp} {x y : V} {dx dy : Dt} {b : Bool} (rx : Rdb K mg (cut L H) H x dx) (ry : Rdb K mg (cut L H) H y dy) (h : inD dx dy = some b) :
    ∃ p xs, y = .ref p ∧ (SqL K H p xs ∨ SqT K H p xs) ∧ flatV x = true ∧ xs.all flatV = true ∧ inV x xs = b := by
  unfold inD at h
  cases e : seqD dy with
  | none => rw [e] at h; cases h
  | some ds =>
    simp only [e] at h
    by_cases c : (flatD dx && ds.all flatD) = true
    · rw [if_pos c] at h
      cases h
      rw [Bool.and_eq_true] at c
      obtain ⟨a, xs, e1, e2, r⟩ := ry.seq e
      have qx := rx.rep
      have r' := r.mono (cut_le L H)
      exact ⟨a, xs, e1, e2, flat_rep qx c.1, flat_all r' c.2, in_rep qx c.1 r' c.2⟩
    · rw [if_neg c] at h; cases h
theorem os_in : OpS K mg (rIn K false) gIn := fun L H x y dx dy rv Q tr rx ry h k => by
  unfold gIn at h
  cases e : inD dx dy with
  | none => rw [e] at h; cases h
  | some b =>
    rw [e] at h; cases h
    obtain ⟨p, xs, e1, e2, e3, e4, e5⟩ := inD_ok rx ry e
    exact ⟨p, xs, e1, e2, e3, e4, k _ H (.refl H) (by rw [← e5]; exact .bl _)⟩
theorem os_notIn : OpS K mg (rIn K true) gNotIn := fun L H x y dx dy rv Q tr rx ry h k => by
  unfold gNotIn at h
  cases e : inD dx dy with
  | none => rw [e] at h; cases h
  | some b =>
    rw [e] at h; cases h
    obtain ⟨p, xs, e1, e2, e3, e4, e5⟩ := inD_ok rx ry e
    exact ⟨p, xs, e1, e2, e3, e4, k _ H (.refl H) (by rw [← e5]; exact .bl _)⟩

/-! ### x[i], x[a:b], len -/
def atD (xs : List Dt) (i : Int) : Option Dt := (ixN xs.length i).bind fun j => xs[j]?
def gIdx : Dt → Dt → Option R := fun x y => match x, y with
  | .str s, .int i => if s.length ≤ line then (atI s.cps.toList i).map fun c => .val (.str ⟨#[c]⟩) else none
  | d, .int i => match seqD d with
    | some xs => (atD xs i).map .val
    | none => none
  | _, _ => none
theorem atD_ok {G : Hp} {vs : List V} {ds : List Dt} {i : Int} {d : Dt} (r : RepA K mg G vs ds) (h : atD ds i = some d) : ∃ v, atI vs i = some v ∧ Rep K mg G v d := by
  unfold atD at h
  unfold atI
  rw [r.length]
  cases e : ixN ds.length i with
  | none => rw [e] at h; cases h
  | some j =>
    rw [e] at h
    exact r.get h
theorem os_idx : OpS K mg (rIx K) gIdx := fun L H x y dx dy rv Q tr rx ry h k => by
  unfold gIdx at h
  split at h
  · rename_i s i
    by_cases e : s.length ≤ line
    · rw [if_pos e] at h
      cases e2 : atI s.cps.toList i with
      | none => rw [e2] at h; cases h
      | some c =>
        rw [e2] at h; cases h
        exact .inr (.inr ⟨s, i, c, rx.str, ry.int, line_le e, e2, k _ H (.refl H) (.str _)⟩)
    · rw [if_neg e] at h; cases h
  · rename_i i hne
    cases e : seqD dx with
    | none => simp only [e] at h; cases h
    | some ds =>
      simp only [e] at h
      cases e2 : atD ds i with
      | none => rw [e2] at h; cases h
      | some d =>
        rw [e2] at h; cases h
        obtain ⟨a, xs, e1, e3, r⟩ := rx.seq e
        obtain ⟨v, e4, e5⟩ := atD_ok r e2
        rcases e3 with e3 | e3
        · exact .inl ⟨a, xs, i, v, e1, ry.int, e3, e4, k _ H (.refl H) e5⟩
        · exact .inr (.inl ⟨a, xs, i, v, e1, ry.int, e3, e4, k _ H (.refl H) e5⟩)
  · cases h
def lenD : Dt → Option Nat
  | .str s => if s.length ≤ line then some s.length else none
  | d => (seqD d).map List.length
def gLen : List Dt → Option R := fun l => match l with
  | [d] => (lenD d).map fun n => .val (.int n)
  | _ => none
theorem lenD_ok {L : Addr → Prop} {H : Hp} {v : V} {d : Dt} {n : Nat} (r : Rdb K mg (cut L H) H v d) (h : lenD d = some n) : LenV K v H n := by
  unfold lenD at h
  split at h
  · rename_i s
    by_cases e : s.length ≤ line
    · rw [if_pos e] at h; cases h
      rw [r.str]
      exact ⟨line_le e, rfl⟩
    · rw [if_neg e] at h; cases h
  · cases e : seqD d with
    | none => rw [e] at h; cases h
    | some ds =>
      rw [e] at h; cases h
      obtain ⟨a, xs, e1, e3, r⟩ := r.seq e
      rw [e1]
      rcases e3 with e3 | e3
      · exact .inl ⟨xs, e3, r.length.symm⟩
      · exact .inr ⟨xs, e3, r.length.symm⟩
theorem cs_len : CallS K mg (fun xs H Q => ∃ x n, xs = [x] ∧ LenV K x H n ∧ Q (.int n) H) gLen := fun L H xs ds rv Q tr r h k => by
  unfold gLen at h
  split at h
  · rename_i d
    obtain ⟨v, rfl, rv1⟩ := Paired.one r
    cases e : lenD d with
    | none => rw [e] at h; cases h
    | some n =>
      rw [e] at h; cases h
      exact ⟨v, n, rfl, lenD_ok rv1 e, k _ H (.refl H) (.int _)⟩
  · cases h

/-! ### built-ins of numbers -/
def gInt : List Dt → Option R := fun l => match l with
  | [.int i] => some (.val (.int i))
  | _ => none
def gAbs : List Dt → Option R := fun l => match l with
  | [.int i] => some (.val (.int (if i < 0 then -i else i)))
  | _ => none
def gMax2 : List Dt → Option R := fun l => match l with
  | [.int i, .int j] => some (.val (.int (if j > i then j else i)))
  | _ => none
def gMin2 : List Dt → Option R := fun l => match l with
  | [.int i, .int j] => some (.val (.int (if j < i then j else i)))
  | _ => none
def gDivmod : List Dt → Option R := fun l => match l with
  | [.int i, .int j] => if 0 < j ∧ j < 1073741824 then some (.val (.tup [.int (i / j), .int (i % j)])) else none
  | _ => none
theorem cs_int : CallS K mg (fun xs H Q => (∃ i, xs = [.int i] ∧ Q (.int i) H) ∨ ∃ k, xs = [.bl k] ∧ Q (.int (if k then 1 else 0)) H) gInt := fun L H xs ds rv Q tr r h k => by
  unfold gInt at h
  split at h
  · obtain ⟨v, rfl, rv1⟩ := Paired.one r
    cases h
    exact .inl ⟨_, by rw [rv1.int], k _ H (.refl H) (.int _)⟩
  · cases h
theorem cs_abs : CallS K mg (fun xs H Q => ∃ i, xs = [.int i] ∧ Q (.int (if i < 0 then -i else i)) H) gAbs := fun L H xs ds rv Q tr r h k => by
  unfold gAbs at h
  split at h
  · obtain ⟨v, rfl, rv1⟩ := Paired.one r
    cases h
    exact ⟨_, by rw [rv1.int], k _ H (.refl H) (.int _)⟩
  · cases h
theorem cs_max2 : CallS K mg (fun xs H Q => ∃ i j, xs = [.int i, .int j] ∧ Q (.int (if j > i then j else i)) H) gMax2 := fun L H xs ds rv Q tr r h k => by
  unfold gMax2 at h
  split at h
  · obtain ⟨v, u, rfl, rv1, rv2⟩ := Paired.two r
    cases h
    exact ⟨_, _, by rw [rv1.int, rv2.int], k _ H (.refl H) (.int _)⟩
  · cases h
theorem cs_min2 : CallS K mg (fun xs H Q => ∃ i j, xs = [.int i, .int j] ∧ Q (.int (if j < i then j else i)) H) gMin2 := fun L H xs ds rv Q tr r h k => by
  unfold gMin2 at h
  split at h
  · obtain ⟨v, u, rfl, rv1, rv2⟩ := Paired.two r
    cases h
    exact ⟨_, _, by rw [rv1.int, rv2.int], k _ H (.refl H) (.int _)⟩
  · cases h
theorem cs_divmod : CallS K mg (fun xs H Q => ∃ i j, xs = [.int i, .int j] ∧ CDiv i j ∧ ∀ p, H p = none → Q (.ref p) (upd H p (.tup [.int (i / j), .int (i % j)]))) gDivmod := fun L H xs ds rv Q tr r h k => by
  unfold gDivmod at h
  split at h
  · rename_i i j
    obtain ⟨v, u, rfl, rv1, rv2⟩ := Paired.two r
    by_cases e : 0 < j ∧ j < 1073741824
    · rw [if_pos e] at h; cases h
      exact ⟨i, j, by rw [rv1.int, rv2.int], e, fun p hp => k _ _ (.new hp) (new_tup tr hp (.cons (.int _) (.cons (.int _) .nil)))⟩
    · rw [if_neg e] at h; cases h
  · cases h

/-! ### sums, all, any -/
def intsD : List Dt → Option (List Int)
  | [] => some []
  | .int i :: r => (intsD r).map (i :: ·)
  | _ => none
def blsD : List Dt → Option (List Bool)
  | [] => some []
  | .bl i :: r => (blsD r).map (i :: ·)
  | _ => none
def strsD : List Dt → Option (List Str)
  | [] => some []
  | .str i :: r => (strsD r).map (i :: ·)
  | _ => none
theorem intsD_ok {G : Hp} : ∀ {vs : List V} {ds : List Dt} {ns : List Int}, RepA K mg G vs ds → intsD ds = some ns → vs = ns.map V.int ∧ ds = ns.map Dt.int
  | _, _, _, .nil, h => by cases h; exact ⟨rfl, rfl⟩
  | _, _, _, .cons (d := d) (ds := ds) r t, h => by
    cases d with
    | int i =>
      have h' : (intsD ds).map (i :: ·) = some _ := h
      cases e : intsD ds with
      | none => rw [e] at h'; cases h'
      | some ns =>
        rw [e] at h'; cases h'
        obtain ⟨e1, e2⟩ := intsD_ok t e
        cases r
        subst e1; subst e2
        exact ⟨rfl, rfl⟩
    | _ => cases h
theorem blsD_ok {G : Hp} : ∀ {vs : List V} {ds : List Dt} {ns : List Bool}, RepA K mg G vs ds → blsD ds = some ns → vs = ns.map V.bl ∧ ds = ns.map Dt.bl
  | _, _, _, .nil, h => by cases h; exact ⟨rfl, rfl⟩
  | _, _, _, .cons (d := d) (ds := ds) r t, h => by
    cases d with
    | bl i =>
      have h' : (blsD ds).map (i :: ·) = some _ := h
      cases e : blsD ds with
      | none => rw [e] at h'; cases h'
      | some ns =>
        rw [e] at h'; cases h'
        obtain ⟨e1, e2⟩ := blsD_ok t e
        cases r
        subst e1; subst e2
        exact ⟨rfl, rfl⟩
    | _ => cases h
theorem strsD_ok {G : Hp} : ∀ {vs : List V} {ds : List Dt} {ns : List Str}, RepA K mg G vs ds → strsD ds = some ns → vs = ns.map V.str ∧ ds = ns.map Dt.str
  | _, _, _, .nil, h => by cases h; exact ⟨rfl, rfl⟩
  | _, _, _, .cons (d := d) (ds := ds) r t, h => by
    cases d with
    | str i =>
      have h' : (strsD ds).map (i :: ·) = some _ := h
      cases e : strsD ds with
      | none => rw [e] at h'; cases h'
      | some ns =>
        rw [e] at h'; cases h'
        obtain ⟨e1, e2⟩ := strsD_ok t e
        cases r
        subst e1; subst e2
        exact ⟨rfl, rfl⟩
    | _ => cases h
def lstD : Dt → Option (List Dt)
  | .lst xs => some xs | .scr xs => some xs | _ => none
theorem Rdb.lists {L : Addr → Prop} {H : Hp} {v : V} {d : Dt} {ds : List Dt} (h : Rdb K mg (cut L H) H v d) (e : lstD d = some ds) : ∃ a xs, v = .ref a ∧ SqL K H a xs ∧ RepA K mg (cut L H) xs ds := by
  unfold lstD at e
  split at e
  · cases e; obtain ⟨a, xs, e1, e2, r⟩ := h.lst; exact ⟨a, xs, e1, SqL.of e2, r⟩
  · cases e; obtain ⟨a, xs, e1, e2, r⟩ := h.scr; exact ⟨a, xs, e1, e2, r⟩
  · cases e
def gBls (f : List Bool → Bool) : List Dt → Option R := fun l => match l with
  | [d] => match lstD d with
    | some ds => (blsD ds).map fun bs => .val (.bl (f bs))
    | none => none
  | _ => none
def gAll := gBls fun bs => bs.all id
def gAny := gBls fun bs => bs.any id
theorem gBls_ok {f : List Bool → Bool} {L : Addr → Prop} {H : Hp} {xs : List V} {ds : List Dt} {rv : R} (r : RdA K mg (cut L H) H xs ds) (h : gBls f ds = some rv) : ∃ a bs, xs = [.ref a] ∧ SqL K H a (bs.map V.bl) ∧ rv = .val (.bl (f bs)) := by
  unfold gBls at h
  split at h
  · rename_i d
    obtain ⟨v, rfl, rv1⟩ := Paired.one r
    cases e : lstD d with
    | none => simp only [e] at h; cases h
    | some l =>
      simp only [e] at h
      cases e2 : blsD l with
      | none => rw [e2] at h; cases h
      | some bs =>
        rw [e2] at h; cases h
        obtain ⟨a, ys, e1, e3, r⟩ := rv1.lists e
        obtain ⟨e4, _⟩ := blsD_ok r e2
        subst e4
        exact ⟨a, bs, by rw [e1], e3, rfl⟩
  · cases h
theorem cs_all : CallS K mg (rAll K) gAll := fun L H xs ds rv Q tr r h k => by
  obtain ⟨a, bs, e1, e2, rfl⟩ := gBls_ok r h
  exact ⟨a, bs, e1, e2, k _ H (.refl H) (.bl _)⟩
theorem cs_any : CallS K mg (rAny K) gAny := fun L H xs ds rv Q tr r h k => by
  obtain ⟨a, bs, e1, e2, rfl⟩ := gBls_ok r h
  exact ⟨a, bs, e1, e2, k _ H (.refl H) (.bl _)⟩
def gSum : List Dt → Option R := fun l => match l with
  | [d] => match lstD d with
    | some ds => (intsD ds).map fun ns => .val (.int ns.sum)
    | none => none
  | _ => none
theorem cs_sum : CallS K mg (rSum K) gSum := fun L H xs ds rv Q tr r h k => by
  unfold gSum at h
  split at h
  · rename_i d
    obtain ⟨v, rfl, rv1⟩ := Paired.one r
    cases e : lstD d with
    | none => simp only [e] at h; cases h
    | some l =>
      simp only [e] at h
      cases e2 : intsD l with
      | none => rw [e2] at h; cases h
      | some ns =>
        rw [e2] at h; cases h
        obtain ⟨a, ys, e1, e3, r⟩ := rv1.lists e
        obtain ⟨e4, _⟩ := intsD_ok r e2
        subst e4
        exact ⟨a, ns, by rw [e1], e3, k _ H (.refl H) (.int _)⟩
  · cases h
end
end DL

/-! DLx: own exceptions over ValueError, made by an __init__ that says super().__init__(g); self.g = g. -/
namespace DX
open PySem PySem.W PySem.Calls PyProof.Rows

/-- the scope of such an __init__ -/
def iniScope (g : Str) : Scope := { kind := .function, names := [("self", .local), (g, .local), ("__class__", .free), ("super", .globalImplicit)], isGenerator := false, isCoroutine := false, more := [] }
def iniArgs (g : Str) (q0 q1 : Pos) : Arguments := { posonlyargs := [], args := [{ arg := "self", annotation := none, pos := q0 }, { arg := g, annotation := none, pos := q1 }], vararg := none, kwonlyargs := [], kw_defaults := [], kwarg := none, defaults := [] }
def iniBody (g : Str) (p0 p1 p2 p3 p4 p6 p7 p8 p9 : Pos) : List Stmt :=
  [.Expr (.Call (.Attribute (.Call (.Name "super" p0) [] [] p1) "__init__" p2) [.Name g p3] [] p4) p4, .Assign [.Attribute (.Name "self" p6) g p7] (.Name g p8) p9]

/-- the call of super().__init__(g), as it is read -/
def SupEq (g : Str) (p0 p1 p2 p3 p4 : Pos) : Prop := ∃ pl : Sem Bool, ∀ env : Env, eval (.Call (.Attribute (.Call (.Name "super" p0) [] [] p1) "__init__" p2) [.Name g p3] [] p4) env = (do
  let ov ← attributeBase (.Call (.Name "super" p0) [] [] p1) "__init__" env (eval (.Call (.Name "super" p0) [] [] p1) env)
  standAt p2.atName
  let (f, first) ← holding [ov] (getMethod ov "__init__" pl)
  callWith p4 f first (backTo p4 (starEach [.Name g p3] env)) [])
/-- what the written part tells of such a class -/
structure IniC (P : Program) (K : Frag) (g : Str) (C fI cc cda : Addr) : Prop where
  cls : L2.OexC K C
  ini : findIn K (.ref C) "__init__" = some (some (.ref fI))
  noG : findIn K (.ref C) g = some none
  fnc : ∃ (q0 q1 p0 p1 p2 p3 p4 p6 p7 p8 p9 : Pos) (name qual : Str) (dV kV doc pm ct oc : Value) (an od : Option Addr) (osl : Array (Option Value)),
    K.lookup fI = some ⟨oc, od, .func (ksFn name qual (iniArgs g q0 q1) (iniBody g p0 p1 p2 p3 p4 p6 p7 p8 p9) (iniScope g) dV kV doc pm an (.ref cda) ct cc), osl⟩ ∧ oc = .type "function" ∧ codeIn K (.ref cda) qual = true ∧ SupEq g p0 p1 p2 p3 p4 ∧ (∀ env : Env, swapsWith (.Name g p8) (some (.Attribute (.Name "self" p6) g p7)) p9.line env = pure false) ∧
    (∀ (s : Shared) (a v : Value), BindsTo s (ksFn name qual (iniArgs g q0 q1) (iniBody g p0 p1 p2 p3 p4 p6 p7 p8 p9) (iniScope g) dV kV doc pm an (.ref cda) ct cc) ⟨[a, v], []⟩ [("self", a), (g, v)]) ∧
    ∀ (s : Shared) (a v : Value), BindsTo s (ksFn name qual (iniArgs g q0 q1) (iniBody g p0 p1 p2 p3 p4 p6 p7 p8 p9) (iniScope g) dV kV doc pm an (.ref cda) ct cc) ⟨[a], [(g, v)]⟩ [("self", a), (g, v)]
  code : ∃ (ccl : Value) (cdd : Option Addr) (vs : Array Value) (ccs : Array (Option Value)) (file : Str) (tf : Tok), K.lookup cda = some ⟨ccl, cdd, .fields vs, ccs⟩ ∧ vs[2]? = some (.str file tf) ∧ ((P.main.file : Str) == file) = true
  cell : ∃ (cl : Value) (cld : Option Addr) (csl : Array (Option Value)), K.lookup cc = some ⟨cl, cld, .cell (some (.ref C)), csl⟩
  self : mroIn K C (.ref C) = some true
  sup : ks_superIn K C C "__init__" = some (some (.builtin "ValueError.__init__"))
  isB : subIn K (.ref C) (.type "ValueError") = some true
  any : nsIn K cStatics "thirdparty.any" = some none
  top : (P.main.scope.names.lookup ("super" : Str)).isSome = false

section
variable {P : Program} {w : World} {K : Frag} {A : Around} {s : Shared} {g : Str} {C fI cc cda e t0 : Addr} {v : Value} {R : Result → Shared → Prop} {args : Args} {mg : Str → Option Value}

theorem init_raw (T : IniC P K g C fI cc cda) (hg1 : g ≠ "self") (hg2 : g ≠ "super") (hg3 : g ≠ "__class__") (hg4 : (g == ("__debug__" : Str)) = false) (X : K.In s.heap) (hns : s.heap.Ns mainGlobals mg) (hms : mg "super" = none) (hbl : ∃ mb, s.heap.Ns builtinsNs mb ∧ mb "super" = some (.type "super")) (lim : s.heap.NoLimit)
    (hroom : A.depth < recursionLimit) (he : s.heap.get? e = some (HandSPX.excO C t0)) (heK : ∀ b o, K.lookup b = some o → b ≠ e)
    (hargs : args = ⟨[.ref e, v], []⟩ ∨ args = ⟨[.ref e], [(g, v)]⟩)
    (hq : ∀ h' tk' dx t1, (∀ b o, b ≠ e → s.heap.get? b = some o → h'.get? b = some o) → s.heap.objs.size ≤ dx → dx ≠ e → h'.get? e = some ({ cls := .ref C, dict := some dx, data := .fields #[.ref t1, .none, .none, .none, .bool false, .none] } : Obj) → h'.Ns1 dx (fun y => if y = g then some v else none) →
      R (.ok (.ret .none)) { s with heap := h', toks := tk' }) :
    codeAny (model P w) A (.call (.ref fI) args) R s := by
  obtain ⟨q0, q1, p0, p1, p2, p3, p4, p6, p7, p8, p9, name, qual, dV, kV, doc, pm, ct, oc, an, od, osl, hf, rfl, hcd, ⟨pl, hsup⟩, hsw, hb3, hb4⟩ := T.fnc
  obtain ⟨ccl, cdd, vs, ccs, file, tf, hcode, hvs, hfile⟩ := T.code
  obtain ⟨cl, cld, csl, hcell⟩ := T.cell
  obtain ⟨nm, qn, N, bs, bm, sn, sub, ab, col, dd, k0, k1, k2, k3, k5, hC, hbm⟩ := T.cls.cls
  obtain ⟨mb, hb1, hb2⟩ := hbl
  refine ks_codeAny_call_defAt (fd := ksFn name qual (iniArgs g q0 q1) (iniBody g p0 p1 p2 p3 p4 p6 p7 p8 p9) (iniScope g) dV kV doc pm an (.ref cda) ct cc) (body := iniBody g p0 p1 p2 p3 p4 p6 p7 p8 p9) (binds := [("self", .ref e), (g, v)]) hroom (X _ _ hf) rfl lim (codeRec_of X hcd) rfl (by rcases hargs with q | q <;> subst q; exact hb3 _ _ _; exact hb4 _ _ _) ?_ ?_ (fun h₁ hns1 hk1 => ?_)
  · intro x hx
    simp only [iniScope, List.mem_cons, List.not_mem_nil, or_false] at hx
    rcases hx with rfl | rfl | rfl | rfl <;> exact fun z => nomatch z
  · intro x hx
    simp only [List.mem_cons, List.not_mem_nil, or_false] at hx
    rcases hx with rfl | rfl
    · rfl
    · show ([("self", NameKind.local), (g, .local), ("__class__", .free), ("super", .globalImplicit)] : List (Str × NameKind)).lookup g = some .local
      rw [List.lookup_cons, show (g == ("self" : Str)) = false by simpa using hg1]
      rw [List.lookup_cons, show (g == g) = true by simp]
  have lkS : ([("self", NameKind.local), (g, .local), ("__class__", .free), ("super", .globalImplicit)] : List (Str × NameKind)).lookup ("super" : Str) = some .globalImplicit := by
    rw [List.lookup_cons, show ((("super" : Str)) == ("self" : Str)) = false by decide]
    rw [List.lookup_cons, show ((("super" : Str)) == g) = false by simpa using fun z => hg2 z.symm]
    rfl
  have lkC : ([("self", NameKind.local), (g, .local), ("__class__", .free), ("super", .globalImplicit)] : List (Str × NameKind)).lookup ("__class__" : Str) = some .free := by
    rw [List.lookup_cons, show ((("__class__" : Str)) == ("self" : Str)) = false by decide]
    rw [List.lookup_cons, show ((("__class__" : Str)) == g) = false by simpa using fun z => hg3 z.symm]
    rfl
  have lkG : ([("self", NameKind.local), (g, .local), ("__class__", .free), ("super", .globalImplicit)] : List (Str × NameKind)).lookup g = some .local := by
    rw [List.lookup_cons, show (g == ("self" : Str)) = false by simpa using hg1]
    rw [List.lookup_cons, show (g == g) = true by simp]
  have X1 : K.In h₁ := X.keeps hk1
  have he1 := hk1 _ _ he
  have hel := Heap.lt_size he
  have hcl : clsIn K C = some { name := nm, bases := bs, mro := .ref C :: bm, ns := N, qualname := qn, hasDict := true, slotNames := sn, subclasses := sub, abstract := ab, collection := col, hasDel := false } := by unfold clsIn; rw [hC] <;> rfl
  have mS : (fun x : Str => ([("self", Value.ref e), (g, v)] : List (Str × Value)).reverse.lookup x) "self" = some (.ref e) := by
    show ([(g, v), ("self", Value.ref e)] : List (Str × Value)).lookup ("self" : Str) = _
    rw [List.lookup_cons, show ((("self" : Str)) == g) = false by simpa using fun z => hg1 z.symm]
    rfl
  have mG : (fun x : Str => ([("self", Value.ref e), (g, v)] : List (Str × Value)).reverse.lookup x) g = some v := by
    show ([(g, v), ("self", Value.ref e)] : List (Str × Value)).lookup g = _
    rw [List.lookup_cons, show (g == g) = true by simp]
  generalize (fun x : Str => ([("self", Value.ref e), (g, v)] : List (Str × Value)).reverse.lookup x) = m at hns1 mS mG
  obtain ⟨hh, gg, dd', t, os⟩ := s
  have I1 : InstAt h₁ e (HandSPX.excO C t0) C none := ⟨he1, rfl, rfl, trivial⟩
  have notC : e ≠ C := ks_ne X1 I1 hcl
  refine ks_wpAt_execs_cons (ks_wpAt_Expr_any (ks_wpAt_MethodCall (pl := pl) ?_ (hsup _)))
  refine ks_wpAt_super_base (env := ksEnv qual (iniScope g) hh.objs.size fI (.ref cda) cc) lkS lkC (by decide) rfl (X1 _ _ hf) rfl rfl rfl (X1 _ _ hcode) rfl hvs hfile T.top ?_
  refine ks_loadName_global rfl lkS (loadGlobal_builtin (env := ksEnv qual (iniScope g) hh.objs.size fI (.ref cda) cc) (hns.keeps hk1) hms (hb1.keeps hk1) hb2 ⟨rfl, ?_⟩)
  refine wpAny_loadName_free rfl lkC rfl ⟨_, X1 _ _ hcell, rfl⟩ ?_
  refine wpAny_loadName_local rfl rfl hns1 mS ?_
  refine ks_wpAny_isType_cls (X1 _ _ hC) rfl ⟨rfl, ?_⟩
  refine ks_wpAny_call_super (X1 _ _ hC) rfl he1 rfl (fun c z => nomatch z) (looks_mroIn X1 T.self) (fun h2 hso k2 => ?_)
  have X2 : K.In h2 := X1.keeps k2
  have I2 : InstAt h2 e (HandSPX.excO C t0) C none := ⟨k2 _ _ he1, rfl, rfl, trivial⟩
  have hsp := T.sup
  unfold ks_superIn at hsp
  rw [hcl] at hsp
  refine kxs_getMethod kxs_ValueError hso (looks_opaque X2 T.any) (fun A Q E s k q => wpAny_bind ((looks_clsIn X2 hcl) A _ E s k (wpAny_pure q))) rfl X2 hsp (I2.type.andThen (looks_subIn X2 T.isB)) notC (by decide) ?_
  have ns2 : h2.Ns hh.objs.size m := by
    obtain ⟨oL, es, ep, hL, r⟩ := hns1
    exact ⟨oL, es, ep, k2 _ _ hL, r⟩
  have ns3 : (h2.push (kxs_mw "ValueError.__init__" e)).Ns hh.objs.size m := by
    obtain ⟨oL, es, ep, hL, r⟩ := ns2
    exact ⟨oL, es, ep, Heap.get?_push_of_some _ hL, r⟩
  have hu : (h2.push (kxs_mw "ValueError.__init__" e)).get? h2.objs.size = some (kxs_mw "ValueError.__init__" e) := Heap.get?_push_size _ rfl
  refine kxs_callWith (i := "ValueError.__init__") (x := e) rfl (evalArgs_plain ?_)
  show wpAny _ _ (spliced ((false, eval (.Name g p3) (ksEnv qual (iniScope g) hh.objs.size fI (.ref cda) cc)) :: backTo p4 [])) _ _ _
  refine Calls.spliced_cons (wpAny_Name (wpAny_loadName_local rfl lkG ns3 mG ?_) hg4)
  refine Calls.spliced_nil ⟨hu, ?_⟩
  have keep3 : ∀ b o, hh.get? b = some o → (h2.push (kxs_mw "ValueError.__init__" e)).get? b = some o := fun b o z => Heap.get?_push_of_some _ (k2 _ _ (hk1 _ _ z))
  have he3 := keep3 _ _ he
  have hC3 := keep3 _ _ (X _ _ hC)
  generalize (h2.push (kxs_mw "ValueError.__init__" e)) = h3 at ns3 hu keep3 he3 hC3
  refine wpAny_call (codeAny_of_tree ?_)
  show wpAny _ _ (callAny (.ref h2.objs.size) ⟨[v], []⟩) _ _ _
  simp only [callAny]
  refine wpAny_bind (wpAny_load hu ?_)
  simp only [kxs_mw, show (Value.type "method-wrapper" == Value.type "method" || Value.type "method-wrapper" == Value.type "builtin_function_or_method" || Value.type "method-wrapper" == Value.type "method-wrapper") = true by decide, if_true]
  refine KFB.if_so (by decide) ?_
  refine wpAny_bind (check_bound_init F.excBase_ValueError.toExcCallFacts hC3 he3 rfl ?_)
  refine wpAny_bind (wpAny_pure (wpAny_pure ?_))
  refine ⟨plainId_quiet F.excBase_ValueError.init.plain _, codeAny_builtin F.excBase_ValueError.initEntry ?_⟩
  refine exc_init_tree (cls := .ref C) (t0 := t0) (dv := none) (c2 := .none) (c3 := .none) (b4 := .bool false) he3 (by rw [sizeLine_eq]; show 1 ≤ 16777216; decide) (fun h4 k4 he4 _ => ?_)
  have ns4 : h4.Ns hh.objs.size m := by
    obtain ⟨oL, es, ep, hL, r⟩ := ns3
    exact ⟨oL, es, ep, k4 _ _ (Nat.ne_of_gt hel) hL, r⟩
  have X4 : K.In h4 := fun b o z => k4 b o (heK b o z) (keep3 _ _ (X b o z))
  show PySem.wpAt _ _ _ (execs [_] _) _ _ _
  refine ks_wpAt_execs_cons (wpAt_of_wpAny (plainObj_wpAny_Assign_Attribute ?_ (hsw _)))
  refine wpAny_Name (wpAny_loadName_local rfl lkG ns4 mG ?_) hg4
  refine wpAny_Name (wpAny_loadName_local rfl rfl ns4 mS ?_) (by decide)
  refine set_plain X4 (ox := { cls := .ref C, dict := none, data := .fields #[.ref h3.objs.size, .none, .none, .none, .bool false, .none] }) (od := none) ⟨he4, rfl, rfl, trivial⟩ T.cls.sa ?_
  refine HandSPX.exc_osa X4 he4 hcl (show HandSPX.refsVE (.ref C :: bm) = true from hbm) rfl T.noG (fun h5 tk5 dx k5 dn dne hx hn => ?_)
  refine wpAt_of_wpAny (wpAny_execs_nil ?_)
  have sz : hh.objs.size ≤ h4.objs.size := by
    rcases Nat.lt_or_ge h4.objs.size hh.objs.size with q | q
    · obtain ⟨oL, es, ep, hL, r⟩ := ns4
      exact absurd (Heap.lt_size hL) (Nat.not_lt_of_gt q)
    · exact q
  exact hq h5 tk5 dx _ (fun b o hb z => k5 b o hb (k4 b o hb (keep3 _ _ z))) (Nat.le_trans sz dn) dne hx hn
end

end DX

/-! DLy: such an exception made, as an expression. -/
namespace DX
open PySem L2

section
variable {X : Cx} {pins : List (Addr × Obj)} {σ : St} {H : Hp} {s : Shared} {g : Str} {C fI cc cda : Addr} {y : V} {u : Value} {A : Around} {E : Value → Shared → Prop} {Q : Value → Shared → Prop}
/-- names that such a parameter may not have -/
structure Gn (g : Str) : Prop where
  h1 : g ≠ "self"
  h2 : g ≠ "super"
  h3 : g ≠ "__class__"
  h4 : (g == ("__debug__" : Str)) = false
/-- two objects are laid at once -/
theorem laid2 {h' : Heap} {a b : Addr} {o o' : HO} {tk : Nat} (I : Inv X pins σ H s) (k : ∀ c w, s.heap.get? c = some w → h'.get? c = some w) (ha : s.heap.objs.size ≤ a) (hb : s.heap.objs.size ≤ b) (ne : b ≠ a)
    (na : ∀ G : Heap, G.get? a = h'.get? a → ObjOk X.prog X.w (upd H a o) G a o) (nb : ObjOk X.prog X.w (upd (upd H a o) b o') h' b o') : Inv X pins σ (upd (upd H a o) b o') { s with heap := h', toks := tk } := by
  obtain ⟨G, g1, g2⟩ := restrict h' fun c => decide (c ≠ b)
  have gk : ∀ c, c ≠ b → G.get? c = h'.get? c := fun c hc => g1 c (decide_eq_true hc)
  have ge : G.get? b = none := g2 b (by simp)
  have J := I.laid (a := a) (o := o) (t' := tk) (h' := G) (fun c w z => by
    rw [gk c (Nat.ne_of_lt (Nat.lt_of_lt_of_le (Heap.lt_size z) hb))]
    exact k c w z) ha (na G (gk a (Ne.symm ne)))
  refine Inv.laidN (s := { s with heap := G, toks := tk }) (h' := h') (t' := tk) J (fun c w z => ?_) ge ?_ nb
  · by_cases hc : c = b
    · rw [hc] at z
      have z' : G.get? b = some w := z
      rw [ge] at z'; cases z'
    · have z' : G.get? c = some w := z
      rw [gk c hc] at z'
      exact z'
  · rw [upd_ne ne]
    exact I.hok.fresh hb
theorem init_mod (I : Inv X pins σ H s) (hm : X.mg "super" = none) {s1 : Shared} (k : ∀ b o, s.heap.get? b = some o → s1.heap.get? b = some o) :
    s1.heap.Ns mainGlobals X.mg ∧ (∃ mb, s1.heap.Ns builtinsNs mb ∧ mb "super" = some (.type "super")) ∧ s1.heap.NoLimit := by
  obtain ⟨mb, h1, h2⟩ := I.mod.blt
  have kk : ∀ b o, X.base.get? b = some o → s1.heap.get? b = some o := fun b o z => k b o (I.bk b o z)
  exact ⟨I.mod.glob.keeps kk, ⟨mb, h1.keeps kk, (h2 "super" (by decide)).trans (by first | rfl | decide +kernel)⟩, I.mod.nolimit.keeps kk⟩

/-- C(v): the new object's way -/
theorem make_raw {k : Nat} (T : IniC X.prog X.K g C fI cc cda) (G : Gn g) (I : Inv X pins σ H s) (hm : X.mg "super" = none) (r : RelV y u) (hr : Room (k + 1) X.A) {R : Result → Shared → Prop}
    (hq : ∀ a dx s', H a = none → H dx = none → a ≠ dx → Inv X pins σ (upd (upd H a (exo a C (some dx))) dx (exd dx [(g, y)])) s' → R (.ok (.ret (.ref a))) s') :
    codeAny (model X.prog X.w) X.A (.call (.ref C) ⟨[u], []⟩) R s := by
  obtain ⟨nm, q, N, bs, bm, sn, sub, ab, col, dd, k0, k1, k2, k3, k5, hC, hbm⟩ := T.cls.cls
  have tI : PySem.W.typeIn X.K (.ref fI) = some (.type "function") := by
    obtain ⟨_, _, _, _, _, _, _, _, _, _, _, _, _, _, _, _, _, _, _, _, _, _, lk, e, _⟩ := T.fnc
    show (X.K.lookup fI).map (·.cls) = _
    rw [lk, e] <;> rfl
  obtain ⟨hp, gg, dr, tk, os⟩ := s
  have hsz : hp.objs.size ≤ hp.objs.size + 1 := Nat.le_succ _
  have kk : ∀ b o, hp.get? b = some o → ((hp.push (PySem.W.kdv_tup [u])).push (PySem.HandSPX.excO C hp.objs.size)).get? b = some o := fun b o e => Heap.get?_push_of_some _ (Heap.get?_push_of_some _ e)
  have hget : ((hp.push (PySem.W.kdv_tup [u])).push (PySem.HandSPX.excO C hp.objs.size)).get? (hp.objs.size + 1) = some (PySem.HandSPX.excO C hp.objs.size) := by heap_get
  obtain ⟨m1, m2, m3⟩ := init_mod I hm (s1 := ⟨(hp.push (PySem.W.kdv_tup [u])).push (PySem.HandSPX.excO C hp.objs.size), gg, dr, tk, os⟩) kk
  have KX : X.K.In hp := I.kIn
  refine PySem.HandSPX.call_own F.excBase_ValueError (fun Y => PySem.HandSPX.refsVE_contains Y bm hbm) (KX _ _ hC) (PySem.W.looks_findIn KX T.ini) (fun self => PySem.W.bind_fn KX self tI) (by rw [sizeLine_eq]; show 1 ≤ 16777216; decide) ?_
  refine init_raw (v := u) (s := ⟨(hp.push (PySem.W.kdv_tup [u])).push (PySem.HandSPX.excO C hp.objs.size), gg, dr, tk, os⟩) T G.h1 G.h2 G.h3 G.h4 (KX.keeps kk) m1 hm m2 m3 (by have := (hr.make C [u] []).dp; omega) hget (fun b o z q => ?_) (.inl rfl) (fun h' tk' dx t1 k4 dn dne hx hn => ?_)
  · exact Nat.ne_of_lt (Nat.lt_succ_of_lt (Heap.lt_size (KX b o z))) q
  · have sz : hp.objs.size + 1 + 1 ≤ dx := by
      have z : ((hp.push (PySem.W.kdv_tup [u])).push (PySem.HandSPX.excO C hp.objs.size)).objs.size ≤ dx := dn
      rw [Heap.size_push, Heap.size_push] at z
      exact z
    show _ ∧ R _ _
    refine ⟨rfl, hq (hp.objs.size + 1) dx _ (I.hok.fresh hsz) (I.hok.fresh (Nat.le_trans (Nat.le_add_right _ 2) sz)) (Ne.symm dne) (laid2 (s := ⟨hp, gg, dr, tk, os⟩) I (fun b o z => k4 b o (Nat.ne_of_lt (Nat.lt_succ_of_lt (Heap.lt_size z))) (kk b o z)) hsz (Nat.le_trans (Nat.le_add_right _ 2) sz) dne (fun G e => exo_ok (e.trans hx)) (exd_ok hn (relO_put (fs := []) r fun _ => True.intro)))⟩
end
end DX

/-! DLk2: the same by keyword. -/
namespace DX
open PySem PySem.HandSPX
section
variable {M : Model} {A : Around} {E : Value → Shared → Prop} {h : Heap} {g : Array GenState} {d : Drawn} {t : Nat} {os : OsState}
variable {nm q : Str} {C N : Addr} {bs bm bmB : List Value} {hdct : Bool} {sn : List Str} {sub : List Value} {ab : Bool} {col : Option Bool} {dd : Option Addr} {k0 k1 k2 k3 k5 : Option Value} {B newId initId : String} {x : Str} {u : Value}

theorem check_newK (F : ExcBaseFacts B newId initId bmB) (hT : ∀ X : String, bm.contains (.type X) = bmB.contains (.type X)) {Q : Unit → Shared → Prop}
    (hC : h.get? C = some (excClassObj nm q C N bs bm hdct sn sub ab col dd k0 k1 k2 k3 k5 newId)) (hq : Q () ⟨h, g, d, t, os⟩) : wpAny M A (checkBuiltinCall newId ⟨[.ref C], [(x, u)]⟩) Q E ⟨h, g, d, t, os⟩ := by
  have hcont : (Value.ref C :: bm).contains (.type B) = true := by rw [List.contains_cons, hT, F.hasB, Bool.or_true]
  have hstar := F.noStar
  simp only [checkBuiltinCall, F.newKind, F.newSplit, F.newRow]
  repeat (first | refine wpAny_loadPart_at hC ?_ | (refine wpAny_isSubtype_exc hC ?_; rw [hcont]) | refine wpAny_staticBase_exc hC ?_ | refine wpAny_madeBy_exc hC ?_ | simp only [bne_self_eq_false, Bool.false_eq_true, if_false] | wp_step)
  exact hq
end

section
variable {prog : Program} {w : World} {A : Around} {E : Value → Shared → Prop} {R : Result → Shared → Prop} {h : Heap} {g : Array GenState} {d : Drawn} {t : Nat} {os : OsState}
variable {nm q : Str} {C N : Addr} {bs bm bmB : List Value} {hdct : Bool} {sn : List Str} {sub : List Value} {ab : Bool} {col : Option Bool} {dd : Option Addr} {k0 k1 k2 k3 k5 : Option Value} {B newId initId : String} {x : Str} {u : Value}

theorem newK (F : ExcBaseFacts B newId initId bmB) (hT : ∀ X : String, bm.contains (.type X) = bmB.contains (.type X))
    (hC : h.get? C = some (excClassObj nm q C N bs bm hdct sn sub ab col dd k0 k1 k2 k3 k5 newId))
    (hq : R (.ok (.ret (.ref (h.objs.size + 1)))) ⟨(h.push (W.kdv_tup [])).push (excO C h.objs.size), g, d, t, os⟩) :
    codeAny (model prog w) A (.builtin newId ⟨[.ref C], [(x, u)]⟩) R ⟨h, g, d, t, os⟩ := by
  have hends := F.ends
  have e1 : (Value.ref C :: bm).contains (.type B) = true := by rw [List.contains_cons, hT, F.hasB, Bool.or_true]
  have e2 : (Value.ref C :: bm).contains (.type "AttributeError") = false := by rw [List.contains_cons, hT, F.noAttr]; rfl
  have e3 : (Value.ref C :: bm).contains (.type "NameError") = false := by rw [List.contains_cons, hT, F.noName]; rfl
  have hz : ([] : List Value).length ≤ sizeLine := by rw [sizeLine_eq]; decide
  refine codeAny_builtinAt F.entry ?_
  unfold Builtin.«BaseException.__new__»
  refine wpAt_bind ?_
  show wpAt _ _ _ (stack >>= _) _ _ _
  refine wpAt_bind (wpAt_stack fun p below => wpAt_of_wpAny ?_)
  wp_walk
  refine wpAt_of_wpAny ?_
  rw [F.owner]
  repeat (first | with_reducible refine wpAny_madeHere_exc F.canon hC ?_ | with_reducible refine wpAny_loadPart_at hC ?_ | (with_reducible refine wpAny_isSubtype_exc hC ?_; first | rw [e1] | rw [e2] | rw [e3]) | wp_step)
  show R _ _
  rw [Heap.size_push]
  exact hq

theorem typeCallK (F : ExcBaseFacts B newId initId bmB) (hT : ∀ X : String, bm.contains (.type X) = bmB.contains (.type X)) {fI : Addr} {Q : Fin → Shared → Prop}
    (hC : h.get? C = some (excClassObj nm q C N bs bm hdct sn sub ab col dd k0 k1 k2 k3 k5 newId))
    (hi : W.Looks (model prog w) h (typeLookup (.ref C) "__init__") (some (.ref fI))) (hb : ∀ self, W.Looks (model prog w) h (bindSpecial (.ref fI) self) (.ref fI, [self]))
    (hq : codeAny (model prog w) A (.call (.ref fI) ⟨[.ref (h.objs.size + 1)], [(x, u)]⟩)
      (fun r s' => match r with | .ok (.ret v) => v = .none ∧ Q (.done (.ret (.ref (h.objs.size + 1)))) s' | .ok _ => False | .error e => E e s')
      ⟨(h.push (W.kdv_tup [])).push (excO C h.objs.size), g, d, t, os⟩) :
    wpAny (model prog w) A (Builtin.«type.__call__» ⟨[.ref C], [(x, u)]⟩) Q E ⟨h, g, d, t, os⟩ := by
  repeat (first | with_reducible refine wpAny_loadPart_at hC ?_ | with_reducible refine wpAny_madeBy_exc hC ?_ | wp_step)
  refine codeAny_call_builtin_code (Code.quiet_builtin _ F.quiet) (check_newK F hT hC ?_)
  refine newK F hT hC ?_
  show wpAny _ _ _ _ _ _
  have kp : ∀ b o, h.get? b = some o → ((h.push (W.kdv_tup [])).push (excO C h.objs.size)).get? b = some o := fun b o e => Heap.get?_push_of_some _ (Heap.get?_push_of_some _ e)
  have hC1 := kp _ _ hC
  have hget : ((h.push (W.kdv_tup [])).push (excO C h.objs.size)).get? (h.objs.size + 1) = some (excO C h.objs.size) := by heap_get
  have hcC : (Value.ref C :: bm).contains (.ref C) = true := by simp
  have i1 := hi.keeps kp
  have b1 := (hb (.ref (h.objs.size + 1))).keeps kp
  unfold isInstance
  repeat (first | with_reducible refine wpAny_loadPart_at hget ?_ | (with_reducible refine wpAny_isSubtype_exc hC1 ?_; rw [hcC]) | wp_step)
  show wpAny _ _ (typeLookup (.ref C) _) _ _ _
  refine i1.at ?_
  refine wpAny_holding (wpAny_bind (b1.at ?_))
  refine wpAny_bind (wpAny_call (codeAny_mono hq fun r s' z => ?_))
  rcases r with e | (v | _ | _ | _) <;> first | exact z | exact z.elim | skip
  obtain ⟨rfl, z⟩ := z
  first
    | exact wpAny_pure (wpAny_pure z)
    | (wp_walk; exact z)
theorem callK (F : ExcBaseFacts B newId initId bmB) (hT : ∀ X : String, bm.contains (.type X) = bmB.contains (.type X)) {fI : Addr}
    (hC : h.get? C = some (excClassObj nm q C N bs bm hdct sn sub ab col dd k0 k1 k2 k3 k5 newId))
    (hi : W.Looks (model prog w) h (typeLookup (.ref C) "__init__") (some (.ref fI))) (hb : ∀ self, W.Looks (model prog w) h (bindSpecial (.ref fI) self) (.ref fI, [self]))
    (hq : codeAny (model prog w) (A.under (.builtin "type.__call__" ⟨[.ref C], [(x, u)]⟩)) (.call (.ref fI) ⟨[.ref (h.objs.size + 1)], [(x, u)]⟩) (W.InitBack (h.objs.size + 1) R)
      ⟨(h.push (W.kdv_tup [])).push (excO C h.objs.size), g, d, t, os⟩) :
    codeAny (model prog w) A (.call (.ref C) ⟨[], [(x, u)]⟩) R ⟨h, g, d, t, os⟩ := by
  have f1 := tc_lookup
  have f2 := tc_bind (.ref C)
  have hTy : (⟨h, g, d, t, os⟩ : Shared).TypeIs (.ref C) "type" := ⟨_, hC, rfl⟩
  refine codeAny_of_tree ?_
  show wpAny _ _ (callAny (.ref C) _) _ _ _
  repeat (any_goals (first | assumption | with_reducible refine wpAny_loadPart_at hC ?_ | wp_step))
  refine ⟨rfl, ?_⟩
  refine codeAny_call_builtin_at (Code.quiet_builtin _ (by decide +kernel)) entry_typeCall (wpAny_check_type_call_sub hC (typeCallK F hT hC hi hb ?_))
  refine codeAny_mono hq fun r s' z => ?_
  rcases r with e | (v | _ | _ | _) <;> exact z
end
section
open L2
variable {X : Cx} {pins : List (Addr × Obj)} {σ : L2.St} {H : Hp} {s : Shared} {g : Str} {C fI cc cda : Addr} {y : V} {u : Value} {A : Around} {E : Value → Shared → Prop} {Q : Value → Shared → Prop}
/-- C(g=v) -/
theorem makeK_raw {k : Nat} (T : IniC X.prog X.K g C fI cc cda) (G : Gn g) (I : Inv X pins σ H s) (hm : X.mg "super" = none) (r : RelV y u) (hr : Room (k + 1) X.A) {R : Result → Shared → Prop}
    (hq : ∀ a dx s', H a = none → H dx = none → a ≠ dx → Inv X pins σ (upd (upd H a (exo a C (some dx))) dx (exd dx [(g, y)])) s' → R (.ok (.ret (.ref a))) s') :
    codeAny (model X.prog X.w) X.A (.call (.ref C) ⟨[], [(g, u)]⟩) R s := by
  obtain ⟨nm, q, N, bs, bm, sn, sub, ab, col, dd, k0, k1, k2, k3, k5, hC, hbm⟩ := T.cls.cls
  have tI : PySem.W.typeIn X.K (.ref fI) = some (.type "function") := by
    obtain ⟨_, _, _, _, _, _, _, _, _, _, _, _, _, _, _, _, _, _, _, _, _, _, lk, e, _⟩ := T.fnc
    show (X.K.lookup fI).map (·.cls) = _
    rw [lk, e] <;> rfl
  obtain ⟨hp, gg, dr, tk, os⟩ := s
  have hsz : hp.objs.size ≤ hp.objs.size + 1 := Nat.le_succ _
  have kk : ∀ b o, hp.get? b = some o → ((hp.push (PySem.W.kdv_tup [])).push (PySem.HandSPX.excO C hp.objs.size)).get? b = some o := fun b o e => Heap.get?_push_of_some _ (Heap.get?_push_of_some _ e)
  have hget : ((hp.push (PySem.W.kdv_tup [])).push (PySem.HandSPX.excO C hp.objs.size)).get? (hp.objs.size + 1) = some (PySem.HandSPX.excO C hp.objs.size) := by heap_get
  obtain ⟨m1, m2, m3⟩ := init_mod I hm (s1 := ⟨(hp.push (PySem.W.kdv_tup [])).push (PySem.HandSPX.excO C hp.objs.size), gg, dr, tk, os⟩) kk
  have KX : X.K.In hp := I.kIn
  refine callK F.excBase_ValueError (fun Y => PySem.HandSPX.refsVE_contains Y bm hbm) (KX _ _ hC) (PySem.W.looks_findIn KX T.ini) (fun self => PySem.W.bind_fn KX self tI) ?_
  refine init_raw (v := u) (s := ⟨(hp.push (PySem.W.kdv_tup [])).push (PySem.HandSPX.excO C hp.objs.size), gg, dr, tk, os⟩) T G.h1 G.h2 G.h3 G.h4 (KX.keeps kk) m1 hm m2 m3 (by have := (hr.make C [] [(g, u)]).dp; omega) hget (fun b o z q => ?_) (.inr rfl) (fun h' tk' dx t1 k4 dn dne hx hn => ?_)
  · exact Nat.ne_of_lt (Nat.lt_succ_of_lt (Heap.lt_size (KX b o z))) q
  · have sz : hp.objs.size + 1 + 1 ≤ dx := by
      have z : ((hp.push (PySem.W.kdv_tup [])).push (PySem.HandSPX.excO C hp.objs.size)).objs.size ≤ dx := dn
      rw [Heap.size_push, Heap.size_push] at z
      exact z
    show _ ∧ R _ _
    refine ⟨rfl, hq (hp.objs.size + 1) dx _ (I.hok.fresh hsz) (I.hok.fresh (Nat.le_trans (Nat.le_add_right _ 2) sz)) (Ne.symm dne) (laid2 (s := ⟨hp, gg, dr, tk, os⟩) I (fun b o z => k4 b o (Nat.ne_of_lt (Nat.lt_succ_of_lt (Heap.lt_size z))) (kk b o z)) hsz (Nat.le_trans (Nat.le_add_right _ 2) sz) dne (fun G e => exo_ok (e.trans hx)) (exd_ok hn (relO_put (fs := []) r fun _ => True.intro)))⟩
end
end DX

/-! DLz: exceptions as data: made, asked, read. -/
namespace DL
open PySem L2 DX

section
variable {X : Cx} {E : XK} {e : Expr} {es : List Expr} {p pos : Pos} {x g : Str} {C fI cc cda : Addr} {m : M R} {te : TE} {k : Nat}
def tMx (C : Addr) (g : Str) (te : TE) : TE := fun σ H Q => te σ H fun y H1 => ∀ a dx, H1 a = none → H1 dx = none → a ≠ dx → Q (.ref a) (upd (upd H1 a (exo a C (some dx))) dx (exd dx [(g, y)]))
theorem pe_mkx (T : IniC X.prog X.K g C fI cc cda) (G : Gn g) (hr : Room (k + 1) X.A) (hms : X.mg "super" = none) (hg : Gl X x) (hm : X.mg x = some (.ref C)) (he : PE X e te)
    (hdb : (x == ("__debug__" : Str)) = false := by decide) (hs : starEach [e] X.env = (false, eval e X.env) :: starEach [] X.env := by rfl) (hpl : (backTo pos (starEach [] X.env)).any (·.1) = false := by rfl) :
    PE X (.Call (.Name x p) [e] [] pos) (tMx C g te) := by
  refine ⟨fun pins s σ H Q I h => ?_⟩
  refine wpAny_Call_Name_kw (ld_glob I hg hm ?_ hdb)
  refine PySem.W.callWith_K (h₀ := X.base) I.ok.mod.kin T.cls.kC ?_ hs hpl
  rw [hs]
  show wpAny _ _ (spliced ((false, eval e X.env) :: backTo pos (starEach [] X.env))) _ _ s
  refine Calls.spliced_cons (thn (he.run pins s σ H _ I h) fun u s1 ⟨y, H1, I1, r1, q1⟩ => ?_)
  rw [show starEach [] X.env = [] by rfl]
  refine Calls.spliced_nil ⟨I1.kIn, ?_⟩
  exact wpAny_call (make_raw T G I1 hms r1 hr fun a dx s' h1 h2 ne J => ⟨.ref a, _, J, rfl, q1 a dx h1 h2 ne⟩)
theorem pe_mkxk {kp : Pos} (T : IniC X.prog X.K g C fI cc cda) (G : Gn g) (hr : Room (k + 1) X.A) (hms : X.mg "super" = none) (hg : Gl X x) (hm : X.mg x = some (.ref C)) (he : PE X e te)
    (hall : (backToKw pos (keywordEach [⟨some g, e, kp⟩] X.env)).all (·.1.isSome) = true := by rfl) (hks : (backToKw pos (keywordEach [⟨some g, e, kp⟩] X.env)).filterMap (·.1) = [g] := by rfl)
    (hdb : (x == ("__debug__" : Str)) = false := by decide) (hpl : ((backTo pos (starEach [] X.env)).any (·.1) || (backToKw pos (keywordEach [⟨some g, e, kp⟩] X.env)).any (·.1.isNone)) = false := by rfl) :
    PE X (.Call (.Name x p) [] [⟨some g, e, kp⟩] pos) (tMx C g te) := by
  refine ⟨fun pins s σ H Q I h => ?_⟩
  refine wpAny_Call_Name_kw (ld_glob I hg hm ?_ hdb)
  refine PySem.W.callWith_KW0 (h₀ := X.base) I.ok.mod.kin T.cls.kC hall ?_ hpl
  refine thn ((pk_cons he pk_nil).run pos pins s σ H (fun zs H1 => match zs with | [y] => ∀ a dx, H1 a = none → H1 dx = none → a ≠ dx → Q (.ref a) (upd (upd H1 a (exo a C (some dx))) dx (exd dx [(g, y)])) | _ => False) I h) fun ws s2 ⟨zs, H2, I2, rz, q2⟩ => ⟨I2.kIn, ?_⟩
  rw [hks]
  cases rz with
  | nil => exact q2.elim
  | @cons y u ys us r1 rr =>
    cases rr with
    | cons _ _ => exact q2.elim
    | nil => exact wpAny_call (makeK_raw T G I2 hms r1 hr fun a dx s' h1 h2 ne J => ⟨.ref a, _, J, rfl, q2 a dx h1 h2 ne⟩)
/-- C(e) -/
def mExc (x g : Str) (m : M R) : M R := m.bind fun r => (frz r).bind fun d => M.pure (.val (.exc x [(g, d)]))
theorem t_exc {K : PySem.W.Frag} {mg : Str → Option Value} (hm : mg x = some (.ref C)) (σ : St) (H : Hp) (Q : VK) (h : tM K mg E (mExc x g m) σ H Q) : tMx C g (tM K mg E m) σ H Q := by
  obtain ⟨ex, env, ow, S, w⟩ := h
  refine ⟨ex, env, ow, S, (WP.bind.mp w).mono (fun ra env1 w1 v1 H1 ow1 P1 R1 a dx h1 h2 ne => ?_) fun _ _ z => z⟩
  obtain ⟨d, env2, ow2, S2, P2, r2, k⟩ := WP.frz R1.sr (R1.held S.tr) (WP.bind.mp w1)
  have h2' : upd H1 a (exo a C (some dx)) dx = none := by rw [upd_ne (Ne.symm ne)]; exact h2
  have l : Le H1 (upd (upd H1 a (exo a C (some dx))) dx (exd dx [(g, v1)])) := (Le.new h1).trans (Le.new h2')
  have na : ¬ lim ex ow2 a := S2.nlim h1
  have nd : ¬ lim ex ow2 dx := S2.nlim h2
  refine k (.ref a) _ ow2 (P1.trans (P2.trans (.le l))) ⟨S2.le l, .exc (dx := dx) (vf := [(g, v1)]) hm ?_ ?_ (.cons ?_ .nil)⟩
  · rw [cut_out na, upd_ne ne, upd_same]
  · rw [cut_out nd, upd_same]
  · exact r2.mono (cut_keep (fun _ h _ => h) fun c o h _ => l c o h)
theorem d_exc (T : IniC X.prog X.K g C fI cc cda) (G : Gn g) (bd : Bd X (k + 1) E) (hms : X.mg "super" = none) (hg : Gl X x) (hm : X.mg x = some (.ref C)) (he : DE X E e m)
    (hdb : (x == ("__debug__" : Str)) = false := by decide) (hs : starEach [e] X.env = (false, eval e X.env) :: starEach [] X.env := by rfl) (hpl : (backTo pos (starEach [] X.env)).any (·.1) = false := by rfl) :
    DE X E (.Call (.Name x p) [e] [] pos) (mExc x g m) := PE.weak (pe_mkx T G bd.room hms hg hm he hdb hs hpl) (t_exc hm)
theorem d_exck {kp : Pos} (T : IniC X.prog X.K g C fI cc cda) (G : Gn g) (bd : Bd X (k + 1) E) (hms : X.mg "super" = none) (hg : Gl X x) (hm : X.mg x = some (.ref C)) (he : DE X E e m)
    (hall : (backToKw pos (keywordEach [⟨some g, e, kp⟩] X.env)).all (·.1.isSome) = true := by rfl) (hks : (backToKw pos (keywordEach [⟨some g, e, kp⟩] X.env)).filterMap (·.1) = [g] := by rfl)
    (hdb : (x == ("__debug__" : Str)) = false := by decide) (hpl : ((backTo pos (starEach [] X.env)).any (·.1) || (backToKw pos (keywordEach [⟨some g, e, kp⟩] X.env)).any (·.1.isNone)) = false := by rfl) :
    DE X E (.Call (.Name x p) [] [⟨some g, e, kp⟩] pos) (mExc x g m) := PE.weak (pe_mkxk T G bd.room hms hg hm he hall hks hdb hpl) (t_exc hm)
end

/-! ### asked and read -/
/-- what the written part tells of a class of exceptions -/
structure ExR (K : PySem.W.Frag) (C : Addr) : Prop where
  hcl : (PySem.W.clsIn K C).isSome = true
  hga : PySem.W.findIn K (.ref C) "__getattribute__" = some (some (.builtin "BaseException.__getattribute__"))
  hgt : PySem.W.findIn K (.ref C) "__getattr__" = some none
  hsub : PySem.W.subIn K (.ref C) (.type "BaseException") = some true
  ha : PySem.W.findIn K (.ref C) "__class__" = some (some (.builtin "object.__class__"))
  hn : PySem.W.specialIn K (.builtin "object.__class__") "__get__" = some (some (.builtin "getset_descriptor.__get__"))
  htk : PySem.W.takesIn K (.builtin "object.__class__") = some true
  hm : PySem.W.mroIn K C (.type "object") = some true
  hd : PySem.W.hasDictIn K C = true
def XAt (H : Hp) (a C : Addr) : Prop := H a = some (exo a C none) ∨ ∃ dx fs, H a = some (exo a C (some dx)) ∧ H dx = some (exd dx fs)
section
variable {X : Cx} {pins : List (Addr × Obj)} {σ : St} {H : Hp} {s : Shared} {a C : Addr}
theorem xat_inst (I : Inv X pins σ H s) (h : XAt H a C) : ∃ ox od, PySem.W.InstAt s.heap a ox C od := by
  rcases h with h | ⟨dx, fs, h1, h2⟩
  · obtain ⟨t1, ho⟩ := exo_at I.hok h
    exact ⟨_, none, ho, rfl, rfl, trivial⟩
  · obtain ⟨t1, ho⟩ := exo_at I.hok h1
    obtain ⟨mA, hn, _⟩ := exd_at I.hok h2
    obtain ⟨od, e, _⟩ := lookIn_ns hn
    exact ⟨_, some od, ho, rfl, rfl, e⟩
def rIsX (K : PySem.W.Frag) : List V → Hp → VK → Prop := fun xs H Q => ∃ (a C : Addr) (c : V) (u : Value) (b : Bool), xs = [.ref a, c] ∧ XAt H a C ∧ ExR K C ∧ ClsV c u ∧ PySem.W.kitOne K (.ref C) u = some b ∧ Q (.bl b) H
def rIsXT (K : PySem.W.Frag) : List V → Hp → VK → Prop := fun xs H Q => ∃ (a C tp : Addr) (cs : List V) (us : List Value) (b : Bool), xs = [.ref a, .ref tp] ∧ XAt H a C ∧ ExR K C ∧ SqT K H tp cs ∧ Paired ClsV cs us ∧ PySem.W.kitAny K (.ref C) us = some b ∧ Q (.bl b) H
theorem cr_isX : CallR X (.builtin "isinstance") (rIsX X.K) := by
  intro pins s σ H xs us Q I r h
  obtain ⟨a, C, c, u, b, rfl, hx, T, k, e, q⟩ := h
  obtain ⟨u1, u2, rfl, r1, r2⟩ := vals2 r
  have e2 := k.eq r2
  subst e2
  cases (show u1 = Value.ref a from r1)
  obtain ⟨ox, od, J⟩ := xat_inst I hx
  exact PySem.W.kia_one (PySem.W.kitx_exc T.hcl T.hga T.hgt T.hsub T.ha T.hn T.htk T.hm) I.kIn J e (fun z => nomatch z) fun tk => ⟨.bl b, H, I.tok tk, rfl, q⟩
theorem cr_isXT : CallR X (.builtin "isinstance") (rIsXT X.K) := by
  intro pins s σ H xs us Q I r h
  obtain ⟨a, C, tp, cs, ws, b, rfl, hx, T, hT, k, e, q⟩ := h
  obtain ⟨u1, u2, rfl, r1, r2⟩ := vals2 r
  cases (show u1 = Value.ref a from r1)
  cases (show u2 = Value.ref tp from r2)
  obtain ⟨ox, od, J⟩ := xat_inst I hx
  obtain ⟨its, rv, ⟨o, h1, h2, n, h3⟩, _⟩ := I.tuple hT
  have e3 := ClsV.all k rv
  subst e3
  obtain ⟨oc, od', dt, sl⟩ := o
  simp only at h2 h3
  subst h2 h3
  exact PySem.W.kia_tup (PySem.W.kitx_exc T.hcl T.hga T.hgt T.hsub T.ha T.hn T.htk T.hm) I.kIn J h1 e (fun z => nomatch z) fun tk => ⟨.bl b, H, I.tok tk, rfl, q⟩
/-- e.f -/
def rFx (K : PySem.W.Frag) (f : Str) : V → Hp → VK → Prop := fun x H Q => ∃ (a C dx : Addr) (fs : List (Str × V)) (v : V), x = .ref a ∧ H a = some (exo a C (some dx)) ∧ H dx = some (exd dx fs) ∧ ExR K C ∧ PySem.W.findIn K (.ref C) f = some none ∧ fs.lookup f = some v ∧ Q v H
theorem pe_xfld {e : Expr} {f : Str} {pos : Pos} {te : TE} (he : PE X e te) (hb : attributeBase e f X.env (eval e X.env) = eval e X.env) : PE X (.Attribute e f pos) (tUn (rFx X.K f) te) := by
  refine ⟨fun pins s σ H Q I h => ?_⟩
  refine attr_of hb (thn (he.run pins s σ H _ I h) fun u s1 ⟨x, H1, I1, rx, a, C, dx, fs, v, ex, ea, ed, T, n, l, q⟩ => ?_)
  subst ex
  obtain rfl : u = Value.ref a := rx
  obtain ⟨t1, ho⟩ := exo_at I1.hok ea
  obtain ⟨mA, hn, r⟩ := exd_at I1.hok ed
  obtain ⟨od, e1, e2⟩ := lookIn_ns hn
  obtain ⟨u', hu, ru⟩ := RelO.some_of (v := v) (o := mA f) (by rw [← l]; exact r f)
  exact PySem.PX.exc_get I1.kIn (od := some od) ⟨ho, rfl, rfl, e1⟩ T.hga T.hgt T.hsub (PySem.W.findObj_own T.hd n rfl (by rw [e2, hu])) (handed_of ru) ⟨v, H1, I1.tok _, ru, q⟩
end
/-- C(), a class without __init__ of its own -/
def tMx0 (C : Addr) : TE := fun _ H Q => ∀ a, H a = none → Q (.ref a) (upd H a (exo a C none))
section
variable {X : Cx} {E : XK} {e c : Expr} {es : List Expr} {p pos : Pos} {x f : Str} {C : Addr} {m m2 : M R}
theorem pe_mkx0 {bmB : List Value} {B newId initId : String} (F : ExcBaseFacts B newId initId bmB) (q : PySem.W.excIn X.K C bmB newId = true) (kC : PySem.W.keepIn X.K (.ref C) = true) (hg : Gl X x) (hm : X.mg x = some (.ref C))
    (hdb : (x == ("__debug__" : Str)) = false := by decide) : PE X (.Call (.Name x p) [] [] pos) (tMx0 C) := by
  refine ⟨fun pins s σ H Q I h => ?_⟩
  refine wpAny_Call_Name_kw (ld_glob I hg hm ?_ hdb)
  refine PySem.W.callWith_K0 I.kIn kC ?_
  obtain ⟨bm, N, nm, qn, bs, hdct, sn, sub, ab, col, dd, k0, k1, k2, k3, k5, mN, hC, hN, hni, T⟩ := exc_obj I.kIn q
  refine wpAny_call_exc_subT F T hC hN hni (fun h' a w => ?_) (by show 0 ≤ sizeLine; omega)
  obtain ⟨t, ht, _, _⟩ := w.there
  have z : H a = none := I.hok.gone w.new
  exact ⟨.ref a, upd H a (exo a C none), I.laidN w.keeps w.new z (exo_ok ht), rfl, h a z⟩
def mExc0 (x : Str) : M R := M.pure (.val (.exc0 x))
theorem t_exc0 {K : PySem.W.Frag} {mg : Str → Option Value} (hm : mg x = some (.ref C)) (σ : St) (H : Hp) (Q : VK) (h : tM K mg E (mExc0 x) σ H Q) : tMx0 C σ H Q := by
  obtain ⟨ex, env, ow, S, w⟩ := h
  intro a ha
  have l : Le H (upd H a (exo a C none)) := Le.new ha
  refine w (.ref a) _ ow (.le l) ⟨S.le l, .exc0 hm ?_⟩
  rw [cut_out (S.nlim ha), upd_same]
theorem d_exc0 {bmB : List Value} {B newId initId : String} (F : ExcBaseFacts B newId initId bmB) (q : PySem.W.excIn X.K C bmB newId = true) (kC : PySem.W.keepIn X.K (.ref C) = true) (hg : Gl X x) (hm : X.mg x = some (.ref C))
    (hdb : (x == ("__debug__" : Str)) = false := by decide) : DE X E (.Call (.Name x p) [] [] pos) (mExc0 x) := PE.weak (pe_mkx0 F q kC hg hm hdb) (t_exc0 hm)
/-- a class, a function, a type by its name -/
theorem d_glob {u : Addr} (hg : Gl X x) (hm : X.mg x = some (.ref u)) (hd : (x == ("__debug__" : Str)) = false := by decide) : DE X E (.Name x pos) (mC (.glob x)) := dc (pe_glob hg hm (show RelV (.ref u) (.ref u) from rfl) hd) fun _ => .glob hm
theorem d_ty {n : String} (hg : Gl X x) (hm : X.mg x = none) (hv : bootBuiltins x = some (.type n)) (hn : x ≠ "__name__" := by decide) (hd : (x == ("__debug__" : Str)) = false := by decide) : DE X E (.Name x pos) (mC (.ty n)) := dc (pe_bltn hg hm hv (show RelV (.ty n) (.type n) from rfl) hn hd) fun _ => .ty n
end
/-! ### isinstance of an exception, its attribute -/
def TabOk (K : PySem.W.Frag) (mg : Str → Option Value) (C : Addr) (t : Dt) (b : Bool) : Prop := match t with
  | .glob y => ∀ D, mg y = some (.ref D) → PySem.W.kitOne K (.ref C) (.ref D) = some b
  | .ty n => PySem.W.kitOne K (.ref C) (.type n) = some b
  | .tup ts => ∃ ns : List String, ts = ns.map Dt.ty ∧ PySem.W.kitAny K (.ref C) (ns.map Value.type) = some b
  | _ => False
structure XTab (K : PySem.W.Frag) (mg : Str → Option Value) (names : List Str) (tab : Str → Dt → Option Bool) (fld : Str) : Prop where
  cls : ∀ c ∈ names, ∀ C, mg c = some (.ref C) → ExR K C
  ans : ∀ c ∈ names, ∀ C, mg c = some (.ref C) → ∀ t b, tab c t = some b → TabOk K mg C t b
def gIsX (names : List Str) (tab : Str → Dt → Option Bool) : List Dt → Option R := fun l => match l with
  | [.exc c _, t] => if c ∈ names then (tab c t).map fun b => .val (.bl b) else none
  | [.exc0 c, t] => if c ∈ names then (tab c t).map fun b => .val (.bl b) else none
  | _ => none
section
variable {K : PySem.W.Frag} {mg : Str → Option Value} {names : List Str} {tab : Str → Dt → Option Bool} {fld : Str}
theorem tys_rep {G : Hp} : ∀ {vs : List V} {ns : List String}, RepA K mg G vs (ns.map Dt.ty) → Paired ClsV vs (ns.map Value.type)
  | _, [], h => by cases h; exact .nil
  | _, n :: ns, h => by
    cases h with
    | cons r t => cases r; exact .cons (.ty n) (tys_rep t)
theorem isX_ok {L : Addr → Prop} {H : Hp} {a C : Addr} {c : Str} {v : V} {t : Dt} {rv : R} {Q : VK} (T : XTab K mg names tab fld) (hc : mg c = some (.ref C)) (hx : XAt H a C) (rt : Rdb K mg (cut L H) H v t)
    (h : (if c ∈ names then (tab c t).map fun b => R.val (.bl b) else none) = some rv) (k : ∀ v H', Le H H' → RvOk K mg L H H' rv v → Q v H') : rIsX K [.ref a, v] H Q ∨ rIsXT K [.ref a, v] H Q := by
  by_cases hm : c ∈ names
  · rw [if_pos hm] at h
    cases e : tab c t with
    | none => rw [e] at h; cases h
    | some b =>
      rw [e] at h
      cases h
      have q := T.ans c hm C hc t b e
      have kk := k (.bl b) H (.refl H) (.bl b)
      have r := rt.rep
      cases t with
      | glob y => cases r with | glob hy => exact .inl ⟨a, C, _, _, b, rfl, hx, T.cls c hm C hc, .own _, q _ hy, kk⟩
      | ty n => cases r; exact .inl ⟨a, C, _, _, b, rfl, hx, T.cls c hm C hc, .ty n, q, kk⟩
      | tup ts =>
        obtain ⟨ns, e1, e2⟩ := q
        subst e1
        cases r with | tup h1 h2 => exact .inr ⟨a, C, _, _, _, b, rfl, hx, T.cls c hm C hc, h1, tys_rep h2, e2, kk⟩
      | _ => exact q.elim
  · rw [if_neg hm] at h; cases h
theorem cs_isX (T : XTab K mg names tab fld) : CallS K mg (fun xs H Q => rIsX K xs H Q ∨ rIsXT K xs H Q) (gIsX names tab) := fun L H xs ds rv Q tr r h k => by
  unfold gIsX at h
  split at h
  · obtain ⟨v, u, rfl, r1, r2⟩ := Paired.two r
    have q := r1.rep
    cases q with
    | exc hc h1 h2 rf => exact isX_ok T hc (.inr ⟨_, _, h1, h2⟩) r2 h k
  · obtain ⟨v, u, rfl, r1, r2⟩ := Paired.two r
    have q := r1.rep
    cases q with
    | exc0 hc h1 => exact isX_ok T hc (.inl h1) r2 h k
  · cases h
def gFx (names : List Str) (f : Str) : Dt → Option R := fun d => match d with
  | .exc c fs => if c ∈ names then (fs.lookup f).map .val else none
  | _ => none
theorem RepF.get {G : Hp} {f : Str} {d : Dt} : ∀ {vs : List (Str × V)} {ds : List (Str × Dt)}, RepF K mg G vs ds → ds.lookup f = some d → ∃ v, vs.lookup f = some v ∧ Rep K mg G v d
  | _, _, .nil, e => by cases e
  | _, _, .cons (f := f') r t, e => by
    rw [List.lookup_cons] at e ⊢
    by_cases h : (f == f') = true
    · simp only [h] at e ⊢
      cases e
      exact ⟨_, rfl, r⟩
    · have h' : (f == f') = false := by simpa using h
      simp only [h'] at e ⊢
      exact RepF.get t e
theorem us_fx {f : Str} (hx : ∀ c ∈ names, ∀ C, mg c = some (.ref C) → ExR K C ∧ PySem.W.findIn K (.ref C) f = some none) : UnS K mg (rFx K f) (gFx names f) := fun L H x dx rv Q tr rx h k => by
  unfold gFx at h
  split at h
  · rename_i c fs
    by_cases hm : c ∈ names
    · rw [if_pos hm] at h
      cases e : fs.lookup f with
      | none => rw [e] at h; cases h
      | some d =>
        rw [e] at h
        cases h
        rcases rx with q | ⟨a, ob, e1, _, xs, ds, _, e2, _⟩
        · cases q with
          | exc hc h1 h2 rf =>
            obtain ⟨v, e3, r3⟩ := rf.get e
            obtain ⟨q1, q2⟩ := hx c hm _ hc
            exact ⟨_, _, _, _, v, rfl, cut_le L H _ _ h1, cut_le L H _ _ h2, q1, q2, e3, k v H (.refl H) r3⟩
        · cases e2
    · rw [if_neg hm] at h; cases h
  · cases h
end
end DL

/-! DLp: calls with a fresh list that is lent; several readings of one operator; displays; slices. -/
namespace DL
open PySem L2

section
variable {K : PySem.W.Frag} {mg : Str → Option Value} {ex : Addr → Prop} {env env' : Env} {ow ow' : Ow} {σ σ' : St} {H H' : Hp} {E : XK}
/-- f(e), e a new list that f may write -/
def runT (fs : Fs) (r : R) : M R := match r with
  | .new d => fun env => match fs.run [d] with
    | some (.ret (.val d') outs) => if outs.length = 1 then some (.ok (.val d') env) else none
    | _ => none
  | _ => fun _ => none
def mFnT (fs : Fs) (m : M R) : M R := m.bind (runT fs)
theorem t_fnT {fs : Fs} {m : M R} (hio : fs.io = [.io]) (σ : St) (H : Hp) (Q : VK) (h : tM K mg E (mFnT fs m) σ H Q) : tCall (spOf K mg 1 fs) [] E (tCons (tM K mg E m) tNil) σ H Q := by
  obtain ⟨ex, env, ow, S, w⟩ := h
  refine ⟨ex, env, ow, S, (WP.bind.mp w).mono (fun r env1 w1 v H1 ow1 P1 R1 => ?_) fun _ _ z => z⟩
  cases r with
  | val d => exact w1.elim
  | loc i => exact w1.elim
  | new d =>
    obtain ⟨p, ob, rfl, hp, hp1, ho, S1⟩ := R1
    have npx : ¬ ex p := fun z => S.tr p z hp
    have nex : lim (fun a => ex a ∨ a = p) ow1 p := .inl (.inr rfl)
    have now : ∀ j, ow1 j ≠ some p := fun j z => S1.dis j p z (.inr rfl)
    show spOf K mg 1 fs ([V.ref p] ++ []) H1 Q E
    have eqL : lim (fun a => lim ex ow1 a) (fun j => if j = 0 then some p else none) = lim (fun a => ex a ∨ a = p) ow1 := funext fun a => propext (by
      constructor
      · rintro ((z | z) | ⟨j, z⟩)
        · exact .inl (.inl z)
        · exact .inr z
        · by_cases e : j = 0
          · simp only [e, if_pos] at z; cases z; exact nex
          · simp only [e, if_neg, not_false_eq_true] at z; cases z
      · rintro ((z | z) | z)
        · exact .inl (.inl z)
        · exact .inr ⟨0, by rw [z]; rfl⟩
        · exact .inl (.inr z))
    have SC : SR K mg (fun a => lim ex ow1 a) (argE fs.io [d]) (fun j => if j = 0 then some p else none) ([V.ref p].map some) H1 := by
      rw [hio]
      refine ⟨rfl, fun j => ?_, fun i j a h1 h2 => ?_, fun i a h z => ?_, fun a z => S1.there (z.elim (fun q => .inl (.inl q)) .inr)⟩
      · rw [eqL]
        cases j with
        | zero => exact ⟨p, ob, rfl, rfl, hp1, ho⟩
        | succ j => exact rfl
      · by_cases e1 : i = 0
        · by_cases e2 : j = 0
          · rw [e1, e2]
          · simp only [e2, if_neg, not_false_eq_true] at h2; cases h2
        · simp only [e1, if_neg, not_false_eq_true] at h1; cases h1
      · by_cases e1 : i = 0
        · simp only [e1, if_pos] at h
          cases h
          rcases z with z | ⟨j, z⟩
          · exact npx z
          · exact now j z
        · simp only [e1, if_neg, not_false_eq_true] at h; cases h
    refine ⟨rfl, _, _, [d], rfl, SC, ?_⟩
    unfold WP runT at w1
    cases e : fs.run [d] with
    | none => simp only [e] at w1
    | some fr =>
      simp only [e] at w1
      cases fr with
      | exc x outs => simp only at w1
      | ret r outs =>
        cases r with
        | loc i => simp only at w1
        | new d0 => simp only at w1
        | val d0 =>
          by_cases hl : outs.length = 1
          · simp only [hl, if_pos] at w1
            refine ⟨rfl, fun v H3 k3 R0 => ?_⟩
            obtain ⟨S3, r3⟩ := R0
            rw [eqL] at r3
            have kp : ∀ a o, H1 a = some o → a ≠ p → H3 a = some o := fun a o h n => k3.1 a o h fun ⟨j, z⟩ => by
              by_cases e1 : j = 0
              · simp only [e1, if_pos] at z; cases z; exact n rfl
              · simp only [e1, if_neg, not_false_eq_true] at z; cases z
            have lG : Le (cut (lim (fun a => ex a ∨ a = p) ow1) H1) (cut (lim ex ow1) H3) := fun a o h => by
              obtain ⟨h1, h2⟩ := cut_some h
              rw [cut_out fun z => h1 (z.elim (fun q => .inl (.inl q)) .inr)]
              exact kp a o h2 fun z => h1 (by rw [z]; exact nex)
            have S4 : SR K mg ex env1 ow1 σ H3 := by
              refine ⟨S1.len, fun i => ?_, S1.inj, fun i a h z => S1.dis i a h (.inl z), fun a z => k3.2 a (S1.tr a (.inl z))⟩
              have q := S1.slot i
              cases c : gs env1 i with
              | none => rw [c] at q; exact q
              | some y =>
                obtain ⟨d', md⟩ := y
                rw [c] at q
                cases md with
                | fz => obtain ⟨q1, x, q2, q3⟩ := q; exact ⟨q1, x, q2, q3.mono lG⟩
                | ow => obtain ⟨a, o, q1, q2, q3, q4⟩ := q; exact ⟨a, o, q1, q2, kp a o q3 (fun z => now i (by rw [← z]; exact q1)), q4.mono lG⟩
                | io => obtain ⟨a, o, q1, q2, q3, q4⟩ := q; exact ⟨a, o, q1, q2, kp a o q3 (fun z => now i (by rw [← z]; exact q1)), q4.mono lG⟩
            refine w1 v H3 ow1 ⟨fun a o h n => kp a o (P1.keep a o h n) fun z => ?_, P1.sub, P1.pin, fun a h => k3.2 a (P1.there a h)⟩ ⟨S4, r3.mono (cut_sub H3 fun a z => z.elim (fun q => .inl (.inl q)) .inr)⟩
            rw [z, hp] at h; cases h
          · simp only [hl, if_neg, not_false_eq_true] at w1
end
section
variable {X : Cx} {E : XK} {e : Expr} {p pos : Pos} {m : M R} {k : Nat} {x : Str}
theorem d_fnT {fs : Fs} (D : Df X.prog X.w X.K X.mg X.base k 1 x fs) (hio : fs.io = [.io]) (bd : Bd X k E) (hg : Gl X x) (he : DE X E e m) (hdb : (x == ("__debug__" : Str)) = false := by decide)
    (hs : starEach [e] X.env = (false, eval e X.env) :: starEach [] X.env := by rfl) (hpl : (backTo pos (starEach [] X.env)).any (·.1) = false := by rfl) : DE X E (.Call (.Name x p) [e] [] pos) (mFnT fs m) := by
  obtain ⟨f, fd, ps, hl, F, hm, hk, hb⟩ := D.ok
  exact PE.weak (pe_callG F bd hg hm hk hb .nil (pa_cons he pa_nil hs) hdb hs hpl) (t_fnT hio)
end
end DL

/-! DLq: list comprehensions. -/
namespace DL
open PySem L2

/-! ### targets that write just their own slots -/
def Elsewhere (vs : List Nat) (σ σ' : St) : Prop := σ'.length = σ.length ∧ ∀ j, j ∉ vs → σ'[j]? = σ[j]?
theorem Elsewhere.refl {vs : List Nat} {σ : St} : Elsewhere vs σ σ := ⟨rfl, fun _ _ => rfl⟩
theorem Elsewhere.trans {vs : List Nat} {σ σ' σ'' : St} (a : Elsewhere vs σ σ') (b : Elsewhere vs σ' σ'') : Elsewhere vs σ σ'' := ⟨b.1.trans a.1, fun j h => (b.2 j h).trans (a.2 j h)⟩
section
variable (K : PySem.W.Frag) (mg : Str → Option Value) (vs : List Nat)
def kGc (ex : Addr → Prop) (env : Env) (ow : Ow) (σ : St) (H : Hp) (Q : St → Hp → Prop) : Fl → Env → Prop := fun _ env' => ∀ σ' H' ow', Elsewhere vs σ σ' ∧ (∀ i a, ow' i = some a → ow i = some a) → PostS env ow H env' ow' H' → SR K mg ex env' ow' σ' H' → Q σ' H'
def tGc (t : Tg) : TG := fun v σ H Q => ∃ ex env ow d, SR K mg ex env ow σ H ∧ Rep K mg (cut (lim ex ow) H) v d ∧ WP (t d) env (kGc K mg vs ex env ow σ H Q) (fun _ _ => True)
def tGcs (t : List Dt → M Fl) : TGs := fun us σ H Q => ∃ ex env ow ds, SR K mg ex env ow σ H ∧ RepA K mg (cut (lim ex ow) H) us ds ∧ WP (t ds) env (kGc K mg vs ex env ow σ H Q) (fun _ _ => True)
end
section
variable {X : Cx} {e : Expr} {es : List Expr} {pos : Pos} {t : Tg} {u : List Dt → M Fl} {vs : List Nat}
abbrev DGc (X : Cx) (vs : List Nat) (e : Expr) (t : Tg) : Prop := PG X e (tGc X.K X.mg vs t)
abbrev DGcs (X : Cx) (vs : List Nat) (es : List Expr) (t : List Dt → M Fl) : Prop := PGs X es (tGcs X.K X.mg vs t)
theorem dgc_name {i : Nat} {x : Str} (hN : X.N.Nodup) (hi : X.N[i]? = some x) (hx : Loc X.env.scope x) (hv : i ∈ vs := by decide) (hf : X.fn x = true ∨ X.env.scope.names.lookup x = some .local := by first | exact .inl rfl | exact .inr rfl | assumption) : DGc X vs (.Name x pos) (gN i) :=
  PG.weak (pg_name hN hi hx hf) fun v σ H Q ⟨ex, env, ow, d, S, r, w⟩ => by
    obtain ⟨h1, h2, k⟩ := WP.putS w
    exact k _ H (del ow i) ⟨⟨by rw [List.length_set], fun j hj => List.getElem?_set_ne fun z => hj (by rw [← z]; exact hv)⟩, fun j a z => by unfold del at z; by_cases e : j = i; (rw [if_pos e] at z; cases z); (rw [if_neg e] at z; exact z)⟩ (.setFz h2) (S.setFz h1 ⟨rfl, v, rfl, r.mono (cut_sub H fun a z => lim_del z)⟩)
theorem dgcs_nil : DGcs X vs [] gNil' := PGs.weak pgs_nil fun us σ H Q ⟨ex, env, ow, ds, S, r, w⟩ => by
  cases r with
  | nil => exact ⟨rfl, w σ H ow ⟨.refl, fun _ _ z => z⟩ .refl S⟩
  | cons _ _ => exact w.elim
theorem dgcs_cons (h1 : DGc X vs e t) (h2 : DGcs X vs es u) (hs : (assignEach (e :: es) X.env).map (·.2) = assign e X.env :: (assignEach es X.env).map (·.2) := by rfl) : DGcs X vs (e :: es) (gCons' t u) :=
  PGs.weak (pgs_cons h1 h2 hs) fun us σ H Q ⟨ex, env, ow, ds, S, r, w⟩ => by
    cases r with
    | nil => exact w.elim
    | @cons v us d ds r rr =>
      refine ⟨v, us, rfl, ex, env, ow, d, S, r, (WP.bind.mp w).mono (fun f env1 w1 => ?_) fun _ _ z => z⟩
      exact fun σ1 H1 ow1 q1 P1 S1 => ⟨ex, env1, ow1, ds, S1, rr.mono P1.cut, w1.mono (fun g e2 k => fun σ2 H2 ow2 q2 P2 S2 => k σ2 H2 ow2 ⟨q1.1.trans q2.1, fun i a z => q1.2 i a (q2.2 i a z)⟩ (P1.trans P2) S2) fun _ _ z => z⟩
theorem dgc_tup {k n : Nat} (hc : X.calm = true) (h : DGcs X vs es u) (hn : (assignEach es X.env).length = n := by rfl) (hst : (assignEach es X.env).findIdx? (·.1) = none := by rfl) : DGc X vs (.Tuple es k pos) (gT n u) :=
  PG.weak (pg_tup hc h hn hst) fun v σ H Q ⟨ex, env, ow, d, S, r, w⟩ => by
    cases d with
    | tup ds =>
      cases r with
      | @tup a xs ds h1 h2 =>
        have w' : WP (if ds.length = n then u ds else fun _ => none) env (kGc X.K X.mg vs ex env ow σ H Q) (fun _ _ => True) := w
        by_cases e : ds.length = n
        · rw [if_pos e] at w'
          exact ⟨a, xs, rfl, (cut_le _ H).t h1, h2.length.trans e, ex, env, ow, ds, S, h2, w'⟩
        · rw [if_neg e] at w'; exact w'.elim
    | _ => exact w.elim
end

/-! ### slots forgotten -/
def wipeE (env : Env) : List Nat → Env
  | [] => env
  | v :: vs => (wipeE env vs).set v none
def delA (ow : Ow) : List Nat → Ow
  | [] => ow
  | v :: vs => del (delA ow vs) v
section
variable {K : PySem.W.Frag} {mg : Str → Option Value} {ex : Addr → Prop} {env env' : Env} {ow ow' : Ow} {σ σ' : St} {H H' : Hp} {E : XK}
theorem wipeE_length : ∀ vs : List Nat, (wipeE env vs).length = env.length
  | [] => rfl
  | v :: vs => by unfold wipeE; rw [List.length_set, wipeE_length vs]
theorem wipeE_ne : ∀ {vs : List Nat} {j : Nat}, j ∉ vs → gs (wipeE env vs) j = gs env j
  | [], _, _ => rfl
  | v :: vs, j, h => by
    unfold wipeE
    rw [gs_set_ne fun z => h (by rw [z]; exact List.mem_cons_self), wipeE_ne fun z => h (List.mem_cons_of_mem _ z)]
theorem wipeE_in : ∀ {vs : List Nat} {j : Nat}, j ∈ vs → gs (wipeE env vs) j = none
  | [], _, h => by cases h
  | v :: vs, j, h => by
    unfold wipeE
    by_cases e : v = j
    · subst e
      by_cases hl : v < (wipeE env vs).length
      · rw [gs_set_self hl]
      · unfold gs
        rw [List.getElem?_eq_none (by rw [List.length_set]; omega)]
        rfl
    · rw [gs_set_ne e]
      rcases List.mem_cons.mp h with q | q
      · exact absurd q.symm e
      · exact wipeE_in q
theorem delA_sub : ∀ {vs : List Nat} {i : Nat} {a : Addr}, delA ow vs i = some a → ow i = some a
  | [], _, _, h => h
  | v :: vs, i, a, h => by
    unfold delA del at h
    by_cases e : i = v
    · rw [if_pos e] at h; cases h
    · rw [if_neg e] at h; exact delA_sub h
theorem wipe_gv : ∀ {vs : List Nat} {σ : St} {j : Nat}, j ∉ vs → gv (wipe σ vs) j = gv σ j
  | [], _, _, _ => rfl
  | v :: vs, σ, j, h => by
    unfold wipe
    rw [gv_set_ne fun z => h (by rw [z]; exact List.mem_cons_self), wipe_gv fun z => h (List.mem_cons_of_mem _ z)]
theorem wipe_out : ∀ {vs : List Nat} {σ : St} {j : Nat}, j ∉ vs → (wipe σ vs)[j]? = σ[j]?
  | [], _, _, _ => rfl
  | v :: vs, σ, j, h => by
    unfold wipe
    rw [List.getElem?_set_ne fun z => h (by rw [z]; exact List.mem_cons_self), wipe_out fun z => h (List.mem_cons_of_mem _ z)]
theorem wipe_in : ∀ {vs : List Nat} {σ : St} {j : Nat}, j ∈ vs → (wipe σ vs)[j]? = if j < σ.length then some none else none
  | [], _, _, h => by cases h
  | v :: vs, σ, j, h => by
    unfold wipe
    by_cases e : v = j
    · subst e
      by_cases hl : v < σ.length
      · rw [List.getElem?_set_self (by rw [wipe_length]; exact hl), if_pos hl]
      · rw [if_neg hl, List.getElem?_eq_none (by rw [List.length_set, wipe_length]; omega)]
    · rw [List.getElem?_set_ne e]
      rcases List.mem_cons.mp h with q | q
      · exact absurd q.symm e
      · exact wipe_in q
theorem wipe_same {vs : List Nat} {σ σ' : St} (h : Elsewhere vs σ σ') : wipe σ' vs = wipe σ vs := List.ext_getElem? fun j => by
  by_cases e : j ∈ vs
  · rw [wipe_in e, wipe_in e, h.1]
  · rw [wipe_out e, wipe_out e, h.2 j e]
theorem wipe_wipe {vs : List Nat} {σ : St} : wipe (wipe σ vs) vs = wipe σ vs := wipe_same ⟨wipe_length σ vs, fun j h => wipe_out h⟩
theorem SR.wipe (S : SR K mg ex env ow σ H) : ∀ vs : List Nat, (∀ i ∈ vs, i < env.length) → SR K mg ex (wipeE env vs) (delA ow vs) (L2.wipe σ vs) H
  | [], _ => S
  | v :: vs, h => (SR.wipe S vs fun i z => h i (List.mem_cons_of_mem _ z)).setFz (v := none) (by rw [wipeE_length]; exact h v List.mem_cons_self) rfl
theorem SR.unwipe {vs : List Nat} (S : SR K mg ex env ow (L2.wipe σ vs) H) (h : ∀ i ∈ vs, gs env i = none) : SR K mg ex env ow σ H := by
  refine ⟨S.len.trans (wipe_length σ vs), fun i => ?_, S.inj, S.dis, S.tr⟩
  have q := S.slot i
  by_cases e : i ∈ vs
  · rw [h i e] at q ⊢
    exact q
  · rw [wipe_gv e] at q
    exact q
end

section
variable {K : PySem.W.Frag} {mg : Str → Option Value} {ex : Addr → Prop} {env env' : Env} {ow ow' : Ow} {σ σ' : St} {H H' : Hp} {E : XK}
theorem SR.wiped {vs : List Nat} (S : SR K mg ex env ow σ H) (h : ∀ i ∈ vs, gs env i = none) : SR K mg ex env ow (L2.wipe σ vs) H := by
  refine ⟨S.len.trans (wipe_length σ vs).symm, fun i => ?_, S.inj, S.dis, S.tr⟩
  have q := S.slot i
  by_cases e : i ∈ vs
  · rw [h i e] at q ⊢
    exact q
  · rw [wipe_gv e]
    exact q
theorem SR.updEx {D : Addr} {o : HO} (S : SR K mg ex env ow σ H) (hD : ex D) : SR K mg ex env ow σ (upd H D o) := by
  refine ⟨S.len, fun i => ?_, S.inj, S.dis, fun a z => ?_⟩
  · have q := S.slot i
    rw [cut_upd (L := lim ex ow) (a := D) (o := o) (.inl hD)]
    have ne : ∀ a, ow i = some a → a ≠ D := fun a z e => S.dis i a z (by rw [e]; exact hD)
    cases c : gs env i with
    | none => rw [c] at q; exact q
    | some y =>
      obtain ⟨d', md⟩ := y
      rw [c] at q
      cases md with
      | fz => exact q
      | ow => obtain ⟨a, o', q1, q2, q3, q4⟩ := q; exact ⟨a, o', q1, q2, by rw [upd_ne (ne a q1)]; exact q3, q4⟩
      | io => obtain ⟨a, o', q1, q2, q3, q4⟩ := q; exact ⟨a, o', q1, q2, by rw [upd_ne (ne a q1)]; exact q3, q4⟩
  · by_cases e : a = D
    · rw [e, upd_same]; exact fun z => nomatch z
    · rw [upd_ne e]; exact S.tr a z
/-- how far a turn of a comprehension is from its start -/
structure Far (vs : List Nat) (env0 : Env) (ow0 : Ow) (H0 : Hp) (env : Env) (ow : Ow) (H : Hp) : Prop where
  keep : ∀ a o, H0 a = some o → ¬ inO ow0 a → H a = some o
  sub : ∀ i a, ow i = some a → ow0 i = some a
  pin : ∀ i d, i ∉ vs → gs env0 i = some (d, .io) → ∃ d', gs env i = some (d', .io)
  there : ∀ a, H0 a ≠ none → H a ≠ none
variable {vs : List Nat} {env0 : Env} {ow0 : Ow} {H0 : Hp}
theorem Far.of (P : Post env0 ow0 H0 env ow H) : Far vs env0 ow0 H0 env ow H := ⟨P.keep, P.sub, fun i d _ h => P.pin i d h, P.there⟩
theorem Far.step (F : Far vs env0 ow0 H0 env ow H) (P : Post env ow H env' ow' H') : Far vs env0 ow0 H0 env' ow' H' :=
  ⟨fun a o h n => P.keep a o (F.keep a o h n) fun ⟨i, z⟩ => n ⟨i, F.sub i a z⟩, fun i a z => F.sub i a (P.sub i a z), fun i d n h => let ⟨d', h'⟩ := F.pin i d n h; P.pin i d' h', fun a h => P.there a (F.there a h)⟩
theorem Far.stepS (F : Far vs env0 ow0 H0 env ow H) (P : PostS env ow H env' ow' H') (hs : ∀ i a, ow' i = some a → ow i = some a) : Far vs env0 ow0 H0 env' ow' H' :=
  ⟨fun a o h n => P.keep a o (F.keep a o h n) fun ⟨i, z⟩ => n ⟨i, F.sub i a z⟩, fun i a z => F.sub i a (hs i a z), fun i d n h => let ⟨d', h'⟩ := F.pin i d n h; (P.pin i d' h').1, fun a h => P.there a (F.there a h)⟩
theorem Far.wipe (F : Far vs env0 ow0 H0 env ow H) : Far vs env0 ow0 H0 (wipeE env vs) (delA ow vs) H :=
  ⟨F.keep, fun i a z => F.sub i a (delA_sub z), fun i d n h => by rw [wipeE_ne n]; exact F.pin i d n h, F.there⟩
theorem Far.write {D : Addr} {o : HO} (F : Far vs env0 ow0 H0 env ow H) (hD : H0 D = none) : Far vs env0 ow0 H0 env ow (upd H D o) :=
  ⟨fun a u h n => by rw [upd_ne (ne_of_none h hD)]; exact F.keep a u h n, F.sub, F.pin, fun a h => by rw [upd_ne fun e => h (by rw [e]; exact hD)]; exact F.there a h⟩
theorem Far.post (F : Far vs env0 ow0 H0 env ow H) (hn : ∀ i d, gs env0 i = some (d, .io) → i ∉ vs) : Post env0 ow0 H0 env ow H := ⟨F.keep, F.sub, fun i d h => F.pin i d (hn i d h) h, F.there⟩
end
/-! ### the comprehension -/
def onEr {α : Type} (f : Env → Env) (m : M α) : M α := fun env => match m env with
  | some (.er z e) => some (.er z (f e))
  | o => o
theorem WP.onEr {α : Type} {f : Env → Env} {m : M α} {env : Env} {k : α → Env → Prop} {x : Xn → Env → Prop} (h : WP (onEr f m) env k x) : WP m env k fun z e => x z (f e) := by
  unfold WP DL.onEr at h
  unfold WP
  cases e : m env with
  | none => rw [e] at h; exact h
  | some r =>
    rw [e] at h
    cases r with
    | ok a e' => exact h
    | er z e' => exact h
/-- no exception comes out of a comprehension's block -/
def noEr {α : Type} (m : M α) : M α := fun env => match m env with
  | some (.er _ _) => none
  | o => o
theorem WP.noEr {α : Type} {m : M α} {env : Env} {k : α → Env → Prop} {x : Xn → Env → Prop} (h : WP (noEr m) env k x) : WP m env k fun _ _ => False := by
  unfold WP DL.noEr at h
  unfold WP
  cases e : m env with
  | none => rw [e] at h; exact h
  | some r =>
    rw [e] at h
    cases r with
    | ok a e' => exact h
    | er z e' => exact h
def ff : XK := fun _ _ _ => False
def lcL (vs : List Nat) (tg : Tg) (tt : M Bool) (te : M R) : List Dt → List Dt → M R
  | [], acc => M.pure (.new (.lst acc))
  | d :: ds, acc => (tg d).bind fun _ => tt.bind fun b => if b then te.bind fun r => (frz r).bind fun x => fun env => if acc.length < line then lcL vs tg tt te ds (acc ++ [x]) (wipeE env vs) else none
    else fun env => lcL vs tg tt te ds acc (wipeE env vs)
def lcG (vs : List Nat) (m : M R) : M R := fun env => if (vs.all fun i => decide (i < env.length) && (gs env i).isNone) = true then onEr (fun e => wipeE e vs) m env else none
def mLC (vs : List Nat) (src : M (List Dt)) (tg : Tg) (tt : M Bool) (te : M R) : M R := src.bind fun ds => lcG vs (lcL vs tg (noEr tt) (noEr te) ds [])
section
variable {K : PySem.W.Frag} {mg : Str → Option Value} {ex : Addr → Prop} {env env' : Env} {ow ow' : Ow} {σ σ' : St} {H H' : Hp} {E : XK}
theorem t_lc {vs : List Nat} {src : M (List Dt)} {tg : Tg} {tt : M Bool} {te : M R} (σ : St) (H : Hp) (Q : VK) (h : tM K mg E (mLC vs src tg tt te) σ H Q) :
    tLc (tI K mg E src) (tGc K mg vs tg) (tMb K mg ff tt) (tM K mg ff te) vs σ H Q := by
  obtain ⟨ex, env0, ow0, S0, w⟩ := h
  refine ⟨ex, env0, ow0, S0, (WP.bind.mp w).mono (fun ds env1 w1 H1 ow1 J G P1 S1 l y D hD => ?_) fun _ _ z => z⟩
  have w1' : WP (if (vs.all fun i => decide (i < env1.length) && (gs env1 i).isNone) = true then onEr (fun e => wipeE e vs) (lcL vs tg (noEr tt) (noEr te) ds []) else fun _ => none) env1 (kV K mg ex env0 ow0 σ H Q) (kX K mg ex env0 ow0 σ H E) := by
    unfold WP lcG at w1
    unfold WP
    by_cases c : (vs.all fun i => decide (i < env1.length) && (gs env1 i).isNone) = true
    · rw [if_pos c] at w1 ⊢; exact w1
    · rw [if_neg c] at w1; exact w1.elim
  by_cases c : (vs.all fun i => decide (i < env1.length) && (gs env1 i).isNone) = true
  · rw [if_pos c] at w1'
    have w2 := WP.onEr w1'
    have hv : ∀ i ∈ vs, i < env1.length ∧ gs env1 i = none := fun i hi => by
      have q := List.all_eq_true.mp c i hi
      rw [Bool.and_eq_true] at q
      exact ⟨of_decide_eq_true q.1, Option.isNone_iff_eq_none.mp q.2⟩
    have hvl : ∀ i ∈ vs, i < env1.length := fun i hi => (hv i hi).1
    have hD0 : H D = none := by
      cases z : H D with
      | none => rfl
      | some o => exact absurd hD (P1.there D (by rw [z]; exact fun q => nomatch q))
    have hn : ∀ i d, gs env0 i = some (d, .io) → i ∉ vs := fun i d h z => by
      obtain ⟨d', h'⟩ := P1.pin i d h
      rw [(hv i z).2] at h'
      cases h'
    let Iv : Nat → Hp → Prop := fun i H2 => ∃ env2 ow2 xs acc, Far vs env0 ow0 H env2 ow2 H2 ∧ SR K mg (fun a => ex a ∨ a = D) env2 ow2 (L2.wipe σ vs) H2 ∧ H2 D = some (.lst xs) ∧ RepA K mg (cut (lim (fun a => ex a ∨ a = D) ow2) H2) xs acc ∧
      Le G (cut (lim (fun a => ex a ∨ a = D) ow2) H2) ∧ (∀ i ∈ vs, gs env2 i = none) ∧ WP (lcL vs tg (noEr tt) (noEr te) (ds.drop i) acc) env2 (kV K mg ex env0 ow0 σ H Q) (fun z e => kX K mg ex env0 ow0 σ H E z (wipeE e vs))
    refine ⟨fun i m H2 => m = ds.length - i ∧ i ≤ ds.length ∧ Iv i H2, ⟨ds.length, by simp, Nat.zero_le _, ?_⟩, ?_⟩
    · obtain ⟨q1, p, ob, q2, q3, q4, q5, q6⟩ := op_back (H' := upd H1 D (.lst [])) (rv := .new (.lst [])) (v := .ref D) S1 .refl S1 (Le.new hD) (new_lst (fun a z => S1.there z) hD .nil)
      cases q2
      refine ⟨env1, ow1, [], [], (Far.of P1).step q1, q6.wiped fun i hi => (hv i hi).2, upd_same, .nil, l.trans (cut_keep (fun a h n => ?_) fun a o h _ => Le.new hD a o h), fun i hi => (hv i hi).2, by simpa using w2⟩
      rcases h with (h | h) | h
      · exact .inl h
      · rw [h] at n; exact absurd hD n
      · exact .inr h
    · rintro i m H2 ⟨rfl, hi, env2, ow2, xs, acc, F2, S2, hxs, rxs, l2, hv2, w3⟩
      by_cases hlt : i < ds.length
      · refine .inr ⟨y.go i H2 (l2.trans (cut_le _ _)) hlt, fun H' => Iv (i + 1) H', fun H' z => ⟨ds.length - (i + 1), by omega, rfl, hlt, z⟩, fun x H3 q => ?_⟩
        obtain ⟨l3, d, hd, r⟩ := y.yld (lim (fun a => ex a ∨ a = D) ow2) i H2 x H3 (fun a z => S2.there z) l2 hlt q
        have S3 := S2.le l3
        have c3 : Le (cut (lim (fun a => ex a ∨ a = D) ow2) H2) (cut (lim (fun a => ex a ∨ a = D) ow2) H3) := cut_keep (fun _ h _ => h) fun a o e _ => l3 a o e
        have F3 : Far vs env0 ow0 H env2 ow2 H3 := F2.step (.le l3)
        have D3 : H3 D = some (.lst xs) := l3 D _ hxs
        have hd' : ds.drop i = d :: ds.drop (i + 1) := by
          have e1 : ds[i]? = some (ds[i]'hlt) := List.getElem?_eq_getElem hlt
          rw [e1] at hd
          rw [← Option.some.inj hd]
          exact List.drop_eq_getElem_cons hlt
        rw [hd'] at w3
        refine ⟨_, env2, ow2, d, S3, r, (WP.bind.mp (show WP ((tg d).bind _) env2 _ _ from w3)).mono (fun f env3 w4 σ3 H4 ow3 el P3 S4 => ?_) fun _ _ _ => True.intro⟩
        have sw : L2.wipe σ3 vs = L2.wipe σ vs := (wipe_same el.1).trans wipe_wipe
        have F4 : Far vs env0 ow0 H env3 ow3 H4 := F3.stepS P3 el.2
        have c4 := P3.cut (ex := fun a => ex a ∨ a = D)
        have D4 : H4 D = some (.lst xs) := P3.keep D _ D3 fun ⟨j, z⟩ => S3.dis j D z (.inr rfl)
        have inl : ∀ {env : Env}, env.length = σ3.length → ∀ j ∈ vs, j < env.length := fun {env} e j hj => by
          rw [e, el.1.1, wipe_length, ← S1.len]; exact hvl j hj
        refine ⟨sw, _, env3, ow3, S4, (WP.noEr (WP.bind.mp w4)).mono (fun b env4 w5 H5 ow4 P4 S5 => ?_) fun _ _ z => z.elim⟩
        have F5 := F4.step P4
        have c5 := P4.cut S4
        have D5 : H5 D = some (.lst xs) := P4.keep D _ D4 fun ⟨j, z⟩ => S4.dis j D z (.inr rfl)
        cases b with
        | false =>
          show Iv (i + 1) H5
          have SW := S5.wipe vs (inl S5.len)
          rw [sw] at SW
          have cw : Le (cut (lim (fun a => ex a ∨ a = D) ow4) H5) (cut (lim (fun a => ex a ∨ a = D) (delA ow4 vs)) H5) := cut_sub H5 fun a z => z.elim .inl fun ⟨j, z⟩ => .inr ⟨j, delA_sub z⟩
          exact ⟨wipeE env4 vs, delA ow4 vs, xs, acc, F5.wipe, SW, D5, ((((rxs.mono c3).mono c4).mono c5).mono cw), (((l2.trans c3).trans c4).trans c5).trans cw, fun j hj => wipeE_in hj, w5⟩
        | true =>
          refine ⟨_, env4, ow4, S5, (WP.noEr (WP.bind.mp w5)).mono (fun rr env5 w6 v H6 ow5 P5 R6 => ?_) fun _ _ z => z.elim⟩
          have S6 := R6.sr
          obtain ⟨d6, env6, ow6, S7, P6, r7, w7⟩ := WP.frz S6 (R6.held S5.tr) (WP.bind.mp w6)
          have F7 := (F5.step P5).step P6
          have c6 := P5.cut S5
          have c7 := P6.cut S6
          have D6 : H6 D = some (.lst xs) := P5.keep D _ D5 fun ⟨j, z⟩ => S5.dis j D z (.inr rfl)
          have rx7 := ((((rxs.mono c3).mono c4).mono c5).mono c6).mono c7
          have w7 : WP (fun env => (if acc.length < line then lcL vs tg (noEr tt) (noEr te) (ds.drop (i + 1)) (acc ++ [d6]) (wipeE env vs) else none)) env6 (kV K mg ex env0 ow0 σ H Q) (fun z e => kX K mg ex env0 ow0 σ H E z (wipeE e vs)) := w7
          unfold WP at w7
          dsimp only at w7
          by_cases hl : acc.length < line
          · rw [if_pos hl] at w7
            refine ⟨xs, D6, Nat.lt_of_lt_of_le (by rw [rxs.length]; exact hl) (line_le (Nat.le_refl _)), ?_⟩
            show Iv (i + 1) _
            have SW := (S7.updEx (o := .lst (xs ++ [v])) (D := D) (.inr rfl)).wipe vs (inl S7.len)
            rw [sw] at SW
            have cw : Le (cut (lim (fun a => ex a ∨ a = D) ow6) H6) (cut (lim (fun a => ex a ∨ a = D) (delA ow6 vs)) (upd H6 D (.lst (xs ++ [v])))) := by
              rw [cut_upd (.inl (.inr rfl))]
              exact cut_sub H6 fun a z => z.elim .inl fun ⟨j, z⟩ => .inr ⟨j, delA_sub z⟩
            exact ⟨wipeE env6 vs, delA ow6 vs, xs ++ [v], acc ++ [d6], (F7.write hD0).wipe, SW, upd_same, (rx7.append (.cons r7 .nil)).mono cw, (((((l2.trans c3).trans c4).trans c5).trans c6).trans c7).trans cw, fun j hj => wipeE_in hj, w7⟩
          · rw [if_neg hl] at w7; exact w7.elim
      · have e : i = ds.length := by omega
        subst e
        rw [List.drop_length] at w3
        refine .inl ⟨y.stop _ H2 (l2.trans (cut_le _ _)) (Nat.le_refl _), ?_⟩
        exact w3 (.ref D) H2 ow2 (F2.post hn) ⟨D, _, rfl, hD0, hxs, ⟨xs, acc, rfl, rfl, rxs⟩, S2.unwipe hv2⟩
  · rw [if_neg c] at w1'; exact w1'.elim
end
section
variable {X : Cx} {E : XK} {elt tg iter c : Expr} {scope : Scope} {own : List (Str × Nat)} {pos : Pos} {src : M (List Dt)} {t : Tg} {mt : M Bool} {me : M R}
theorem d_lc (hc : X.calm = true) (hN : X.N.Nodup) (hi : DI X E tg iter src) (ok : BlkOk X.N X.env.scope scope own)
    (hg : ∀ (s : Shared) (H : Hp) (C : Addr) (cl : List (Str × Addr)) (fp : List Addr), DGc (X.blk s H scope (compEnvC scope cl C X.env) fp) (own.map (·.2)) tg t)
    (he : ∀ (s : Shared) (H : Hp) (C : Addr) (cl : List (Str × Addr)) (fp : List Addr), DE (X.blk s H scope (compEnvC scope cl C X.env) fp) ff elt me) (hs : ∀ x, foldedSetIterable iter X.env x = pure x := by intro _; rfl) :
    DE X E (.ListComp elt [⟨tg, iter, [], 0⟩] scope pos) (mLC (own.map (·.2)) src t (M.pure true) me) :=
  PE.weak (pe_lc (te := tM X.K X.mg ff me) (g := tGc X.K X.mg (own.map (·.2)) t) (tt := tMb X.K X.mg ff (M.pure true)) hc hN hi ok hg (fun s H C cl fp => ⟨fun pins s σ H Q I h => pts_nil.run pins s σ H Q I (by
    obtain ⟨ex, env, ow, S, w⟩ := h
    exact w H ow .refl S)⟩) he hs) (t_lc (vs := own.map (·.2)))
theorem d_lcIf (hc : X.calm = true) (hN : X.N.Nodup) (hi : DI X E tg iter src) (ok : BlkOk X.N X.env.scope scope own)
    (hg : ∀ (s : Shared) (H : Hp) (C : Addr) (cl : List (Str × Addr)) (fp : List Addr), DGc (X.blk s H scope (compEnvC scope cl C X.env) fp) (own.map (·.2)) tg t)
    (ht : ∀ (s : Shared) (H : Hp) (C : Addr) (cl : List (Str × Addr)) (fp : List Addr), DT (X.blk s H scope (compEnvC scope cl C X.env) fp) ff c mt)
    (he : ∀ (s : Shared) (H : Hp) (C : Addr) (cl : List (Str × Addr)) (fp : List Addr), DE (X.blk s H scope (compEnvC scope cl C X.env) fp) ff elt me) (hs : ∀ x, foldedSetIterable iter X.env x = pure x := by intro _; rfl) :
    DE X E (.ListComp elt [⟨tg, iter, [c], 0⟩] scope pos) (mLC (own.map (·.2)) src t mt me) :=
  PE.weak (pe_lc (te := tM X.K X.mg ff me) (g := tGc X.K X.mg (own.map (·.2)) t) (tt := tMb X.K X.mg ff mt) hc hN hi ok hg (fun s H C cl fp => pts_one (ht s H C cl fp)) he hs) (t_lc (vs := own.map (·.2)))
/-- within the block -/
theorem Bd.blk {k : Nat} (bd : Bd X k E) (s : Shared) (H : Hp) (C : Addr) (cl : List (Str × Addr)) (fp : List Addr) : Bd (X.blk s H scope (compEnvC scope cl C X.env) fp) k ff where
  calm := bd.calm
  room := bd.room
  gd := bd.gd
  ps := fun pins σ H s e s' I c => by
    obtain ⟨_, _, _, _, _, _, _, _, _, _, _, _, z⟩ := c
    exact z
  own := PassesOwn.never
  tk := fun u s' x => by
    obtain ⟨_, _, _, _, _, _, _, _, _, _, _, _, _, _, _, _, z⟩ := x
    exact z
end
end DL

/-! DLr: several readings of one operator; displays; slices; calls of built-ins; repr. -/
namespace DL
open PySem L2

/-! ### one operator, several kinds of data -/
def gOr (g g' : Dt → Dt → Option R) : Dt → Dt → Option R := fun x y => match g x y with
  | some r => some r
  | none => g' x y
section
variable {K : PySem.W.Frag} {mg : Str → Option Value}
theorem os_or {r r' : R2} {g g' : Dt → Dt → Option R} (h : OpS K mg r g) (h' : OpS K mg r' g') : OpS K mg (fun x y H Q => r x y H Q ∨ r' x y H Q) (gOr g g') := fun L H x y dx dy rv Q tr rx ry e k => by
  unfold gOr at e
  cases c : g dx dy with
  | some z => rw [c] at e; cases e; exact .inl (h L H x y dx dy _ Q tr rx ry c k)
  | none => rw [c] at e; exact .inr (h' L H x y dx dy rv Q tr rx ry e k)
def gCOr (g g' : List Dt → Option R) : List Dt → Option R := fun l => match g l with
  | some r => some r
  | none => g' l
theorem cs_or {r r' : List V → Hp → VK → Prop} {g g' : List Dt → Option R} (h : CallS K mg r g) (h' : CallS K mg r' g') : CallS K mg (fun xs H Q => r xs H Q ∨ r' xs H Q) (gCOr g g') := fun L H xs ds rv Q tr rx e k => by
  unfold gCOr at e
  cases c : g ds with
  | some z => rw [c] at e; cases e; exact .inl (h L H xs ds _ Q tr rx c k)
  | none => rw [c] at e; exact .inr (h' L H xs ds rv Q tr rx e k)
end
def gPlus := gOr gAdd (gOr gCatS (gOr gCatL gCatT))
def gLess := gOr gLt gLtS
section
variable {X : Cx} {E : XK} {a b c e : Expr} {es : List Expr} {p pos : Pos} {x : Str} {ma mb m : M R} {ml : List (M R)}
theorem d_plus (ha : DE X E a ma) (hb : DE X E b mb) : DE X E (.BinOp a .Add b pos) (mOp gPlus ma mb) := d_op (op_add.or (op_add_str.or (op_cat.or op_catA))) (os_or os_add (os_or os_catS (os_or os_catL os_catT))) ha hb
theorem d_sub (ha : DE X E a ma) (hb : DE X E b mb) : DE X E (.BinOp a .Sub b pos) (mOp gSub ma mb) := d_op op_sub os_sub ha hb
theorem d_mul (ha : DE X E a ma) (hb : DE X E b mb) : DE X E (.BinOp a .Mult b pos) (mOp gMul ma mb) := d_op op_mul os_mul ha hb
theorem d_div (ha : DE X E a ma) (hb : DE X E b mb) : DE X E (.BinOp a .FloorDiv b pos) (mOp gDiv ma mb) := d_op op_fdiv os_div ha hb
theorem d_mod (ha : DE X E a ma) (hb : DE X E b mb) : DE X E (.BinOp a .Mod b pos) (mOp gMod ma mb) := d_op op_mod os_mod ha hb
theorem d_pow (ha : DE X E a ma) (hb : DE X E b mb) : DE X E (.BinOp a .Pow b pos) (mOp gPow ma mb) := d_op op_pow os_pow ha hb
theorem d_neg (ha : DE X E a ma) : DE X E (.UnaryOp .USub a pos) (mUn gNeg ma) := d_un un_neg us_neg ha
/-- tests by one operator, and the same as values -/
def mTC (g : Dt → Dt → Option R) (ma mb : M R) : M Bool := mT (mOp g ma mb)
theorem dt_eq (ha : DE X E a ma) (hb : DE X E b mb) (hm : behindInMarks .Eq b = false := by rfl) : DT X E (.Compare a [.Eq] [b] pos) (mTC gEq ma mb) := d_test op_eq os_eq ha hb hm
theorem dt_ne (ha : DE X E a ma) (hb : DE X E b mb) (hm : behindInMarks .NotEq b = false := by rfl) : DT X E (.Compare a [.NotEq] [b] pos) (mTC gNe ma mb) := d_test op_ne os_ne ha hb hm
theorem dt_lt (ha : DE X E a ma) (hb : DE X E b mb) (hm : behindInMarks .Lt b = false := by rfl) : DT X E (.Compare a [.Lt] [b] pos) (mTC gLess ma mb) := d_test (op_lt.or op_lt_str) (os_or os_lt os_ltS) ha hb hm
theorem dt_le (ha : DE X E a ma) (hb : DE X E b mb) (hm : behindInMarks .LtE b = false := by rfl) : DT X E (.Compare a [.LtE] [b] pos) (mTC gLe ma mb) := d_test op_le os_le ha hb hm
theorem dt_gt (ha : DE X E a ma) (hb : DE X E b mb) (hm : behindInMarks .Gt b = false := by rfl) : DT X E (.Compare a [.Gt] [b] pos) (mTC gGt ma mb) := d_test op_gt os_gt ha hb hm
theorem dt_ge (ha : DE X E a ma) (hb : DE X E b mb) (hm : behindInMarks .GtE b = false := by rfl) : DT X E (.Compare a [.GtE] [b] pos) (mTC gGe ma mb) := d_test op_ge os_ge ha hb hm
theorem dt_in (ha : DE X E a ma) (hb : DE X E b mb) (hm : behindInMarks .In b = false := by rfl) : DT X E (.Compare a [.In] [b] pos) (mTC gIn ma mb) := d_test op_in_seq os_in ha hb hm
theorem dt_notIn (ha : DE X E a ma) (hb : DE X E b mb) (hm : behindInMarks .NotIn b = false := by rfl) : DT X E (.Compare a [.NotIn] [b] pos) (mTC gNotIn ma mb) := d_test op_notIn_seq os_notIn ha hb hm
theorem dt_isN (ha : DE X E a ma) (hb : DE X E b mb) (hm : behindInMarks .Is b = false := by rfl) : DT X E (.Compare a [.Is] [b] pos) (mTC gIsN ma mb) := d_test op_isN os_isN ha hb hm
theorem dt_notN (ha : DE X E a ma) (hb : DE X E b mb) (hm : behindInMarks .IsNot b = false := by rfl) : DT X E (.Compare a [.IsNot] [b] pos) (mTC gNotN ma mb) := d_test op_notN os_notN ha hb hm
theorem dv_eq (ha : DE X E a ma) (hb : DE X E b mb) (hm : behindInMarks .Eq b = false := by rfl) : DE X E (.Compare a [.Eq] [b] pos) (mOp gEq ma mb) := d_cmp op_eq os_eq ha hb hm
theorem d_ix (ha : DE X E a ma) (hb : DE X E b mb) (hs : PlainIx b) : DE X E (.Subscript a b pos) (mOp gIdx ma mb) := PE.weak (pe_ix ix_seq ha hb hs) (t_op os_idx)
/-- calls -/
theorem d_cb {id : String} {r : List V → Hp → VK → Prop} {g : List Dt → Option R} (hc : CallR X (.builtin id) r) (hg : CallS X.K X.mg r g) (hgl : Gl X x) (hm : X.mg x = none) (hv : bootBuiltins x = some (.builtin id)) (ha : DA X E (e :: es) ml) (hn : x ≠ "__name__" := by decide) (hdb : (x == ("__debug__" : Str)) = false := by decide)
    (he : starEach (e :: es) X.env = (false, eval e X.env) :: starEach es X.env := by rfl) (hpl : (backTo pos (starEach es X.env)).any (·.1) = false := by rfl) : DE X E (.Call (.Name x p) (e :: es) [] pos) (mCall g ml) := PE.weak (pe_callB hc hgl hm hv ha hn hdb he hpl) (t_cb hg)
theorem d_cty {T : String} {r : List V → Hp → VK → Prop} {g : List Dt → Option R} (hc : CallR X (.type T) r) (hg : CallS X.K X.mg r g) (hgl : Gl X x) (hm : X.mg x = none) (hv : bootBuiltins x = some (.type T)) (ha : DA X E (e :: es) ml) (hn : x ≠ "__name__" := by decide) (hdb : (x == ("__debug__" : Str)) = false := by decide)
    (he : starEach (e :: es) X.env = (false, eval e X.env) :: starEach es X.env := by rfl) (hpl : (backTo pos (starEach es X.env)).any (·.1) = false := by rfl) : DE X E (.Call (.Name x p) (e :: es) [] pos) (mCall g ml) := PE.weak (pe_callTy hc hgl hm hv ha hn hdb he hpl) (t_cb hg)

/-! ### displays -/
def dispT (ds : List Dt) : M R := fun env => if ds.length ≤ line then some (.ok (.val (.tup ds)) env) else none
def dispL (ds : List Dt) : M R := fun env => if ds.length ≤ line then some (.ok (.new (.lst ds)) env) else none
def mTup (l : List (M R)) : M R := (mA l).bind fun rs => (frzA rs).bind dispT
def mLst (l : List (M R)) : M R := (mA l).bind fun rs => (frzA rs).bind dispL
section
variable {K : PySem.W.Frag} {mg : Str → Option Value}
theorem t_tup {l : List (M R)} (σ : St) (H : Hp) (Q : VK) (h : tM K mg E (mTup l) σ H Q) : tTup (tMa K mg E (mA l)) σ H Q := by
  obtain ⟨ex, env, ow, S, w⟩ := h
  refine ⟨ex, env, ow, S, (WP.bind.mp w).mono (fun rs env1 w1 vs H1 ow1 P1 S1 hh => ?_) fun _ _ z => z⟩
  obtain ⟨ds, env2, ow2, S2, P2, r2, w2⟩ := WP.frzA S1 hh (WP.bind.mp w1)
  unfold WP dispT at w2
  by_cases hl : ds.length ≤ line
  · rw [if_pos hl] at w2
    refine ⟨line_le (by rw [r2.length]; exact hl), fun p hp => ?_⟩
    exact kV.op S (P1.trans P2) S2 w2 (Le.new hp) (new_tup (fun a z => S2.there z) hp r2)
  · rw [if_neg hl] at w2; exact w2.elim
theorem t_lst {l : List (M R)} (σ : St) (H : Hp) (Q : VK) (h : tM K mg E (mLst l) σ H Q) : tLst (tMa K mg E (mA l)) σ H Q := by
  obtain ⟨ex, env, ow, S, w⟩ := h
  refine ⟨ex, env, ow, S, (WP.bind.mp w).mono (fun rs env1 w1 vs H1 ow1 P1 S1 hh => ?_) fun _ _ z => z⟩
  obtain ⟨ds, env2, ow2, S2, P2, r2, w2⟩ := WP.frzA S1 hh (WP.bind.mp w1)
  unfold WP dispL at w2
  by_cases hl : ds.length ≤ line
  · rw [if_pos hl] at w2
    refine ⟨line_le (by rw [r2.length]; exact hl), fun p hp => ?_⟩
    exact kV.op S (P1.trans P2) S2 w2 (Le.new hp) (new_lst (fun a z => S2.there z) hp r2)
  · rw [if_neg hl] at w2; exact w2.elim
end
theorem d_tup {k : Nat} (h : DA X E es ml) : DE X E (.Tuple es k pos) (mTup ml) := PE.weak (pe_tup h) t_tup
theorem d_lst (h : DA X E es ml) : DE X E (.List es pos) (mLst ml) := PE.weak (pe_lst h) t_lst
/-- an empty dict -/
theorem d_dic0 : DE X E (.Dict [] [] pos) (M.pure (.val (.dic []))) := PE.weak pe_dnewK fun σ H Q ⟨ex, env, ow, S, w⟩ p hp => by
  have l := Le.new (o := .dK []) hp
  refine w (.ref p) _ ow (.le l) ⟨S.le l, .dic ?_ .nil⟩
  rw [cut_out (S.nlim hp), upd_same]
end
end DL

/-! ### repr -/
namespace DL
open PySem L2
mutual
def pyD : Dt → Option PyData
  | .non => some .none
  | .bl b => some (.bool b)
  | .int i => some (.int i)
  | .str s => some (.str s)
  | .tup xs => (pyA xs).map .tuple
  | .lst xs => (pyA xs).map .list
  | .scr xs => (pyA xs).map .list
  | _ => none
def pyA : List Dt → Option (List PyData)
  | [] => some []
  | d :: ds => match pyD d, pyA ds with
    | some p, some ps => some (p :: ps)
    | _, _ => none
end
section
variable {K : PySem.W.Frag} {mg : Str → Option Value} {H : Hp}
mutual
theorem dp_of : ∀ {d : Dt} {v : V} {p : PyData}, Rep K mg H v d → pyD d = some p → Dp K H v p
  | .non, _, _, r, e => by cases r; cases e; exact .non
  | .bl b, _, _, r, e => by cases r; cases e; exact .bl b
  | .int i, _, _, r, e => by cases r; cases e; exact .int i
  | .str s, _, _, r, e => by cases r; cases e; exact .str s
  | .tup xs, _, _, r, e => by
    cases r with
    | tup h rr =>
      unfold pyD at e
      cases c : pyA xs with
      | none => rw [c] at e; cases e
      | some ps => rw [c] at e; cases e; exact .tup h (dpA_of rr c)
  | .lst xs, _, _, r, e => by
    cases r with
    | lst h rr =>
      unfold pyD at e
      cases c : pyA xs with
      | none => rw [c] at e; cases e
      | some ps => rw [c] at e; cases e; exact .lst (SqL.of h) (dpA_of rr c)
  | .scr xs, _, _, r, e => by
    cases r with
    | scr h rr =>
      unfold pyD at e
      cases c : pyA xs with
      | none => rw [c] at e; cases e
      | some ps => rw [c] at e; cases e; exact .lst h (dpA_of rr c)
  | .glob _, _, _, _, e => by cases e
  | .ins _ _, _, _, _, e => by cases e
  | .exc _ _, _, _, _, e => by cases e
  | .exc0 _, _, _, _, e => by cases e
  | .dic _, _, _, _, e => by cases e
  | .ty _, _, _, _, e => by cases e
theorem dpA_of : ∀ {ds : List Dt} {vs : List V} {ps : List PyData}, RepA K mg H vs ds → pyA ds = some ps → DpAll K H vs ps
  | [], _, _, r, e => by cases r; cases e; exact .nil
  | d :: ds, _, _, r, e => by
    cases r with
    | cons h t =>
      unfold pyA at e
      cases c1 : pyD d with
      | none => rw [c1] at e; cases e
      | some p =>
        cases c2 : pyA ds with
        | none => rw [c1, c2] at e; cases e
        | some ps =>
          rw [c1, c2] at e
          cases e
          exact .cons (dp_of h c1) (dpA_of t c2)
end
end

/-- a dict of flat things -/
def flP : Dt → Option PyData
  | .non => some .none
  | .bl b => some (.bool b)
  | .int i => some (.int i)
  | .str s => some (.str s)
  | _ => none
def keyP : Key → PyData
  | .inl i => .int i
  | .inr s => .str s
def pyK : List (Key × Dt) → Option (List (PyData × PyData))
  | [] => some []
  | (k, d) :: r => match flP d, pyK r with
    | some p, some ps => some ((keyP k, p) :: ps)
    | _, _ => none
section
variable {X : Cx} {pins : List (Addr × Obj)} {σ : St} {H : Hp} {s : Shared} {h : Heap}
theorem flP_reads {K : PySem.W.Frag} {mg : Str → Option Value} {v : V} {u : Value} {d : Dt} {p : PyData} (r : Rep K mg H v d) (rv : RelV v u) (e : flP d = some p) : Reads h u p [] := by
  unfold flP at e
  split at e <;> cases e
  · cases r; cases rv; exact .none
  · cases r; cases rv; exact .bool _
  · cases r; obtain ⟨t, rfl⟩ := rv; exact .int _ t
  · cases r; obtain ⟨t, rfl⟩ := rv; exact .str _ t
theorem key_reads {k : Key} {u : Value} (e : keyIs k u = true) : Reads h u (keyP k) [] := by
  rcases keyIs_shape e with ⟨i, t, rfl, rfl⟩ | ⟨x, t, rfl, rfl⟩
  · exact .int _ t
  · exact .str _ t
theorem pairs_reads {P : Program} {w : World} {K : PySem.W.Frag} {mg : Str → Option Value} : ∀ {ks : List (Key × Dt)} {kv : List (Key × V)} {vs : List (Key × Value)} {es : List DictEntry} {ps : List (PyData × PyData)},
    RepK K mg H kv ks → KV kv vs → Pairs (mixKind P w) es vs → pyK ks = some ps → ReadsAll h (es.map (·.key)) (ps.map (·.1)) [] ∧ ReadsAll h (es.map (·.val)) (ps.map (·.2)) []
  | [], _, _, _, _, r, q, z, e => by
    cases r
    cases q
    cases z
    cases e
    exact ⟨.nil, .nil⟩
  | (k, d) :: ks, _, _, _, _, r, q, z, e => by
    cases r with
    | cons r1 r2 =>
      cases q with
      | cons q1 q2 =>
        cases z with
        | cons z1 z2 z3 =>
          unfold pyK at e
          cases c1 : flP d with
          | none => rw [c1] at e; cases e
          | some p =>
            cases c2 : pyK ks with
            | none => rw [c1, c2] at e; cases e
            | some ps =>
              rw [c1, c2] at e
              cases e
              obtain ⟨i1, i2⟩ := pairs_reads r2 q2 z3 c2
              obtain ⟨q3, q4⟩ := q1
              refine ⟨.cons (as := []) (bs := []) (key_reads (k := k) ?_) i1, .cons (as := []) (bs := []) (flP_reads r1 (by show RelV _ (DictEntry.val _); rw [z2]; exact q4) c1) i2⟩
              have z4 : keyIs _ _ = true := z1
              rw [← q3] at z4
              exact z4
theorem dic_reads {a : Addr} {kv : List (Key × V)} {ks : List (Key × Dt)} {ps : List (PyData × PyData)} (I : Inv X pins σ H s) (e : H a = some (.dK kv)) (r : RepK X.K X.mg H kv ks) (c : pyK ks = some ps) : ∃ as, Reads s.heap (.ref a) (.dict ps) as ∧ sysModules ∉ as := by
  obtain ⟨_, hm, vs, q, o, es, ep, ho, hx, hd, _, hp, _⟩ := dk_of I.hok e
  obtain ⟨i1, i2⟩ := pairs_reads (h := s.heap) r q hp c
  refine ⟨_, Reads.dict ho hx.1 hd i1 i2, ?_⟩
  have ne : a ≠ sysModules := beq_eq_false_iff_ne.mp hm
  simpa using Ne.symm ne
theorem noD : ∀ (d : PyData), (∀ x, d ≠ .dict x) → True := fun _ _ => trivial
mutual
theorem pyD_noDict : ∀ {d : Dt} {p : PyData}, pyD d = some p → p.hasDict = false
  | .non, _, e => by cases e; rfl
  | .bl b, _, e => by cases e; rfl
  | .int i, _, e => by cases e; rfl
  | .str s, _, e => by cases e; rfl
  | .tup xs, _, e => by
    unfold pyD at e
    cases c : pyA xs with
    | none => rw [c] at e; cases e
    | some ps => rw [c] at e; cases e; exact pyA_noDict c
  | .lst xs, _, e => by
    unfold pyD at e
    cases c : pyA xs with
    | none => rw [c] at e; cases e
    | some ps => rw [c] at e; cases e; exact pyA_noDict c
  | .scr xs, _, e => by
    unfold pyD at e
    cases c : pyA xs with
    | none => rw [c] at e; cases e
    | some ps => rw [c] at e; cases e; exact pyA_noDict c
  | .glob _, _, e => by cases e
  | .ins _ _, _, e => by cases e
  | .exc _ _, _, e => by cases e
  | .exc0 _, _, e => by cases e
  | .dic _, _, e => by cases e
  | .ty _, _, e => by cases e
theorem pyA_noDict : ∀ {ds : List Dt} {ps : List PyData}, pyA ds = some ps → PyData.hasDictAll ps = false
  | [], _, e => by cases e; rfl
  | d :: ds, _, e => by
    unfold pyA at e
    cases c1 : pyD d with
    | none => rw [c1] at e; cases e
    | some p =>
      cases c2 : pyA ds with
      | none => rw [c1, c2] at e; cases e
      | some ps =>
        rw [c1, c2] at e
        cases e
        show (p.hasDict || PyData.hasDictAll ps) = false
        rw [pyD_noDict c1, pyA_noDict c2]
        rfl
end
/-- what repr reads -/
def pyR : Dt → Option PyData := fun d => match d with
  | .dic ks => (pyK ks).map .dict
  | d => pyD d
def fitR (p : PyData) : Bool := p.showable && decide (p.depth ≤ 60) && decide (p.shown.length ≤ line)
def gRepr : List Dt → Option R := fun l => match l with
  | [d] => match pyR d with
    | some p => if fitR p then some (.val (.str p.shown)) else none
    | none => none
  | _ => none
def rRepr (X : Cx) : List V → Hp → VK → Prop := fun xs H Q => ∃ (v : V) (d : Dt) (p : PyData), xs = [v] ∧ Rep X.K X.mg H v d ∧ pyR d = some p ∧ fitR p = true ∧ Q (.str p.shown) H
theorem reads_R {v : V} {u : Value} {d : Dt} {p : PyData} (I : Inv X pins σ H s) (r : Rep X.K X.mg H v d) (rv : RelV v u) (e : pyR d = some p) : ∃ as, Reads s.heap u p as ∧ (p.hasDict = true → sysModules ∉ as) := by
  have go : pyD d = some p → ∃ as, Reads s.heap u p as ∧ (p.hasDict = true → sysModules ∉ as) := fun e => by
    obtain ⟨as, q⟩ := Dp.reads I p v u (dp_of r e) rv
    exact ⟨as, q, fun z => by rw [pyD_noDict e] at z; cases z⟩
  cases d with
  | dic ks =>
    have e' : (pyK ks).map PyData.dict = some p := e
    cases c : pyK ks with
    | none => rw [c] at e'; cases e'
    | some ps =>
      rw [c] at e'
      cases e'
      cases r with
      | dic h1 h2 =>
        cases rv
        obtain ⟨as, q1, q2⟩ := dic_reads I h1 h2 c
        exact ⟨as, q1, fun _ => q2⟩
  | _ => exact go e
theorem cr_repr (hg : X.A.guards = some []) (hu : X.A.units + 64 < cLine) : CallR X (.builtin "repr") (rRepr X) := by
  intro pins s σ H xs us Q I r h
  obtain ⟨v, d, p, rfl, rd, e, hf, q⟩ := h
  obtain ⟨u, rfl, rv⟩ := vals1 r
  obtain ⟨as, hr, hs⟩ := reads_R I rd rv e
  unfold fitR at hf
  rw [Bool.and_eq_true, Bool.and_eq_true] at hf
  obtain ⟨⟨f1, f2⟩, f3⟩ := hf
  have f2 := of_decide_eq_true f2
  have f3 := of_decide_eq_true f3
  have f4 := line_le f3
  cases hr with
  | none => exact PySem.P.repr_of_none ⟨.str _, H, I.tok _, ⟨_, rfl⟩, q⟩
  | bool b => exact PySem.P.repr_of_bool ⟨.str _, H, I.tok _, ⟨_, rfl⟩, q⟩
  | int i t => exact PySem.P.repr_of_int (of_decide_eq_true f1) ⟨.str _, H, I.tok _, ⟨_, rfl⟩, q⟩
  | str x t => exact PySem.P.repr_of_str ⟨.str _, H, I.tok _, ⟨_, rfl⟩, q⟩ f4
  | list h1 h2 h3 h4 => exact repr_of_reads' (.list h1 h2 h3 h4) f1 hs hg (by omega) (fun _ _ z => z) (fun h' u tk hk => ⟨.str _, H, I.kept hk, ⟨_, rfl⟩, q⟩) f4
  | tuple h1 h2 h3 h4 => exact repr_of_reads' (.tuple h1 h2 h3 h4) f1 hs hg (by omega) (fun _ _ z => z) (fun h' u tk hk => ⟨.str _, H, I.kept hk, ⟨_, rfl⟩, q⟩) f4
  | dict h1 h2 h3 h4 h5 => exact repr_of_reads' (.dict h1 h2 h3 h4 h5) f1 hs hg (by omega) (fun _ _ z => z) (fun h' u tk hk => ⟨.str _, H, I.kept hk, ⟨_, rfl⟩, q⟩) f4
theorem cs_repr : CallS X.K X.mg (rRepr X) gRepr := fun L H xs ds rv Q tr r h k => by
  unfold gRepr at h
  split at h
  · rename_i d
    obtain ⟨v, rfl, rv1⟩ := Paired.one r
    cases e : pyR d with
    | none => simp only [e] at h; cases h
    | some p =>
      simp only [e] at h
      by_cases hf : fitR p = true
      · rw [if_pos hf] at h
        cases h
        exact ⟨v, d, p, rfl, rv1.rep, e, hf, k _ H (.refl H) (.str _)⟩
      · rw [if_neg hf] at h; cases h
  · cases h
end
section
variable {X : Cx} {E : XK} {a e : Expr} {es : List Expr} {p pos : Pos} {ma : M R} {k : Nat}
theorem d_repr (bd : Bd X k E) (hg : Gl X "repr") (hm : X.mg "repr" = none) (ha : DE X E a ma) (hs : starEach [a] X.env = (false, eval a X.env) :: starEach [] X.env := by rfl) (hpl : (backTo pos (starEach [] X.env)).any (·.1) = false := by rfl) :
    DE X E (.Call (.Name "repr" p) [a] [] pos) (mCall gRepr [ma]) :=
  d_cb (cr_repr bd.gd (by have := bd.room.un; omega)) cs_repr hg hm (by first | rfl | kernel_rfl | decide +kernel) (da_cons ha da_nil hs) (by decide) (by decide) hs hpl
/-- {'a': 1} -/
theorem d_dic1 {x : Str} {i : Int} {j1 j2 : Nat} {p1 p2 : Pos} : DE X E (.Dict [some (.Constant (.str x) j1 p1)] [.Constant (.int i) j2 p2] pos) (M.pure (.val (.dic [(.inr x, .int i)]))) :=
  PE.weak (pe_disp (pps_cons pe_str pe_int pps_nil) (by rfl) (by rfl) (by simp) (by show 1 ≤ 15; decide)) fun σ H Q ⟨ex, env, ow, S, w⟩ p hp => by
    show upd H p (.dK []) p = some (.dK []) ∧ ∃ kvs : List (Key × V), [(V.str x, V.int i)] = kvs.map (fun kv => (L2.kV kv.1, kv.2)) ∧ kvs.length ≤ 15 ∧ Q (.ref p) (upd (upd H p (.dK [])) p (.dK (mergeK [] kvs)))
    refine ⟨upd_same, [(.inr x, .int i)], rfl, by show 1 ≤ 15; decide, ?_⟩
    have l : Le H (upd (upd H p (.dK [])) p (.dK (mergeK [] [(.inr x, .int i)]))) := fun b o h => by
      have ne : b ≠ p := ne_of_none h hp
      rw [upd_ne ne, upd_ne ne]
      exact h
    refine w (.ref p) _ ow (.le l) ⟨S.le l, .dic (kv := [(.inr x, .int i)]) ?_ (.cons (.int i) .nil)⟩
    rw [cut_out (S.nlim hp), upd_same]
    rfl
end
end DL

/-! DLs: slices; what else the laws of errors and kitchens want. -/
namespace DL
open PySem L2

def useI (r : R) : M (Option Int) := fun env => match rs env r with
  | some (.int i) => some (.ok (some i) env)
  | _ => none
def partM : Option (M R) → M (Option Int)
  | none => M.pure none
  | some m => m.bind useI
def cutD (xs : List Dt) (lo hi : Option Int) : List Dt := (xs.drop (HT.sIx xs.length 0 lo)).take (HT.sIx xs.length xs.length hi - HT.sIx xs.length 0 lo)
def gSl (lo hi : Option Int) : Dt → Option R := fun d => match d with
  | .lst xs => some (.new (.lst (cutD xs lo hi)))
  | .scr xs => some (.new (.lst (cutD xs lo hi)))
  | .tup xs => some (.val (.tup (cutD xs lo hi)))
  | .str s => if s.length ≤ line then some (.val (.str (cutS s lo hi))) else none
  | _ => none
def mSl (m : M R) (lo hi : Option (M R)) : M R := m.bind fun r => (partM lo).bind fun l => (partM hi).bind fun u => use1 (gSl l u) r
section
variable {K : PySem.W.Frag} {mg : Str → Option Value} {ex : Addr → Prop} {env env' : Env} {ow ow' : Ow} {σ σ' : St} {H H' : Hp} {E : XK}
theorem WP.useI {r : R} {env : Env} {k : Option Int → Env → Prop} {x : Xn → Env → Prop} (h : WP (useI r) env k x) : ∃ i, rs env r = some (.int i) ∧ k (some i) env := by
  unfold WP DL.useI at h
  cases e : rs env r with
  | none => simp only [e] at h
  | some d =>
    cases d with
    | int i => simp only [e] at h; exact ⟨i, rfl, h⟩
    | _ => simp only [e] at h
theorem RepA.cut {G : Hp} {vs : List V} {ds : List Dt} (r : RepA K mg G vs ds) (lo hi : Option Int) : RepA K mg G (cutV vs lo hi) (cutD ds lo hi) := by
  unfold cutV cutD
  rw [r.length]
  exact (r.drop _).take _
theorem cutD_whole {ds : List Dt} {lo hi : Option Int} (h : HT.sIx ds.length 0 lo = 0 ∧ HT.sIx ds.length ds.length hi = ds.length) : cutD ds lo hi = ds := by
  unfold cutD
  rw [h.1, h.2, List.drop_zero, Nat.sub_zero, List.take_length]
def rSl3 (K : PySem.W.Frag) : V → Option Int → Option Int → Hp → VK → Prop := fun x lo hi H Q => rSlL K x lo hi H Q ∨ (rSlA K x lo hi H Q ∨ rSlS x lo hi H Q)
theorem sl3_ok {L : Addr → Prop} {x : V} {d : Dt} {lo hi : Option Int} {rv : R} {Q : VK} (tr : ∀ a, L a → H a ≠ none) (rx : Rdb K mg (cut L H) H x d) (h : gSl lo hi d = some rv) (k : ∀ v H', Le H H' → RvOk K mg L H H' rv v → Q v H') : rSl3 K x lo hi H Q := by
  unfold gSl at h
  split at h
  · cases h
    obtain ⟨a, xs, rfl, h1, r1⟩ := rx.lst
    exact .inl ⟨a, xs, rfl, SqL.of h1, fun p hp => k _ _ (.new hp) (new_lst tr hp (r1.cut lo hi))⟩
  · cases h
    obtain ⟨a, xs, rfl, h1, r1⟩ := rx.scr
    exact .inl ⟨a, xs, rfl, h1, fun p hp => k _ _ (.new hp) (new_lst tr hp (r1.cut lo hi))⟩
  · cases h
    have rx' := rx.tupz
    cases rx' with
    | tup h1 r1 =>
      refine .inr (.inl ⟨_, _, rfl, (cut_le L H).t h1, fun w => ?_, fun _ p hp => k _ _ (.new hp) (new_tup tr hp (r1.cut lo hi))⟩)
      rw [r1.length] at w
      refine k _ H (.refl H) ?_
      show Rep K mg (DL.cut L H) _ (.tup (cutD _ lo hi))
      rw [cutD_whole w]
      exact .tup h1 r1
  · rename_i s
    by_cases e : s.length ≤ line
    · rw [if_pos e] at h
      cases h
      exact .inr (.inr ⟨s, rx.str, line_le e, k _ H (.refl H) (.str _)⟩)
    · rw [if_neg e] at h; cases h
  · cases h
/-- a part left out or told -/
def tP (K : PySem.W.Frag) (mg : Str → Option Value) (E : XK) (m : M (Option Int)) : TO := fun σ H Q => ∃ ex env ow, SR K mg ex env ow σ H ∧ WP m env (fun o env' => ∀ H' ow', Post env ow H env' ow' H' → SR K mg ex env' ow' σ H' → Q o H') (kX K mg ex env ow σ H E)
theorem t_sl {m : M R} {lo hi : Option (M R)} (σ : St) (H : Hp) (Q : VK) (h : tM K mg E (mSl m lo hi) σ H Q) : tSl (rSl3 K) (tM K mg E m) (tP K mg E (partM lo)) (tP K mg E (partM hi)) σ H Q := by
  obtain ⟨ex, env, ow, S, w⟩ := h
  refine ⟨ex, env, ow, S, (WP.bind.mp w).mono (fun ra env1 w1 v1 H1 ow1 P1 R1 => ?_) fun _ _ z => z⟩
  have S1 := R1.sr
  refine ⟨ex, env1, ow1, S1, (WP.bind.mp w1).mono (fun l env2 w2 H2 ow2 P2 S2 => ?_) fun _ _ z => z.go P1⟩
  refine ⟨ex, env2, ow2, S2, (WP.bind.mp w2).mono (fun u env3 w3 H3 ow3 P3 S3 => ?_) fun _ _ z => z.go (P1.trans P2)⟩
  obtain ⟨d, rv, e1, e2, k⟩ := w3.use1
  have hh := ((R1.held S.tr).post S1 P2).post S2 P3
  exact sl3_ok (fun a z => S3.there z) (hh.rdb S3 e1) e2 fun v H' l q => kV.op S ((P1.trans P2).trans P3) S3 k l q
end
section
variable {X : Cx} {E : XK} {a e : Expr} {lo hi : Option Expr} {p2 pos : Pos} {ma m : M R} {ml mh : Option (M R)}
abbrev DP (X : Cx) (E : XK) (e : Option Expr) (o : Option (M R)) : Prop := PO X e (tP X.K X.mg E (partM o))
theorem dp_none : DP X E none none := ⟨fun pins s σ H Q I ⟨ex, env, ow, S, w⟩ => po_none.run pins s σ H Q I (w H ow .refl S)⟩
theorem dp_some (h : DE X E e m) : DP X E (some e) (some m) := ⟨fun pins s σ H Q I ⟨ex, env, ow, S, w⟩ => (po_some h).run pins s σ H Q I ⟨ex, env, ow, S, (WP.bind.mp w).mono (fun r env1 w1 v H1 ow1 P1 R1 => by
  obtain ⟨i, e1, k⟩ := w1.useI
  exact ⟨i, ((R1.held S.tr).rdb R1.sr e1).int, k H1 ow1 P1 R1.sr⟩) fun _ _ z => z⟩⟩
theorem d_sl (ha : DE X E a ma) (hl : DP X E lo ml) (hh : DP X E hi mh) : DE X E (.Subscript a (.Slice lo hi none p2) pos) (mSl ma ml mh) := PE.weak (pe_slice (sl_list.or (sl_tupA.or sl_str)) ha hl hh) t_sl
end
/-! ### and, or as values (of truths) -/
def mAndV (ma mb : M R) : M R := (mT ma).bind fun c => if c then mb else M.pure (.val (.bl false))
def mOrV (ma mb : M R) : M R := (mT ma).bind fun c => if c then M.pure (.val (.bl true)) else mb
section
variable {K : PySem.W.Frag} {mg : Str → Option Value} {ex : Addr → Prop} {env env' : Env} {ow ow' : Ow} {σ σ' : St} {H H' : Hp} {E : XK} {ma mb : M R}
theorem kV.go {Q : VK} {r : R} {e2 : Env} (P1 : Post env ow H env' ow' H') (k : kV K mg ex env ow σ H Q r e2) : kV K mg ex env' ow' σ H' Q r e2 := fun v H2 ow2 P2 R2 => by
  refine k v H2 ow2 (P1.trans P2) ?_
  cases r with
  | val d => exact R2
  | new d =>
    obtain ⟨p, ob, e1, e3, e4, e5⟩ := R2
    refine ⟨p, ob, e1, ?_, e4, e5⟩
    cases z : H p with
    | none => rfl
    | some o => exact absurd e3 (P1.there p (by rw [z]; exact fun q => nomatch q))
  | loc i => exact R2
theorem t_andV (σ : St) (H : Hp) (Q : VK) (h : tM K mg E (mAndV ma mb) σ H Q) : tAndV (tM K mg E ma) (tM K mg E mb) σ H Q := by
  obtain ⟨ex, env, ow, S, w⟩ := h
  refine ⟨ex, env, ow, S, (WP.bind.mp (WP.bind.mp w)).mono (fun ra env1 w1 v1 H1 ow1 P1 R1 => ?_) fun _ _ z => z⟩
  obtain ⟨b, e, k⟩ := w1.useT
  refine ⟨b, ((R1.held S.tr).rdb R1.sr e).bl, ?_⟩
  cases b with
  | true => exact ⟨ex, env1, ow1, R1.sr, k.mono (fun r e2 z => z.go P1) fun _ _ z => z.go P1⟩
  | false => exact k (.bl false) H1 ow1 P1 ⟨R1.sr, .bl false⟩
theorem t_orV (σ : St) (H : Hp) (Q : VK) (h : tM K mg E (mOrV ma mb) σ H Q) : tOrV (tM K mg E ma) (tM K mg E mb) σ H Q := by
  obtain ⟨ex, env, ow, S, w⟩ := h
  refine ⟨ex, env, ow, S, (WP.bind.mp (WP.bind.mp w)).mono (fun ra env1 w1 v1 H1 ow1 P1 R1 => ?_) fun _ _ z => z⟩
  obtain ⟨b, e, k⟩ := w1.useT
  refine ⟨b, ((R1.held S.tr).rdb R1.sr e).bl, ?_⟩
  cases b with
  | false => exact ⟨ex, env1, ow1, R1.sr, k.mono (fun r e2 z => z.go P1) fun _ _ z => z.go P1⟩
  | true => exact k (.bl true) H1 ow1 P1 ⟨R1.sr, .bl true⟩
end
section
variable {X : Cx} {E : XK} {a b : Expr} {rest : List Expr} {pos : Pos} {ma mb : M R} {op : BoolOp}
theorem dv_one (ha : DE X E a ma) : DE X E (.BoolOp op [a] pos) ma := pe_one ha
theorem dv_and (ha : DE X E a ma) (hb : DE X E (.BoolOp .And (b :: rest) pos) mb) : DE X E (.BoolOp .And (a :: b :: rest) pos) (mAndV ma mb) := PE.weak (pe_and ha hb) t_andV
theorem dv_or (ha : DE X E a ma) (hb : DE X E (.BoolOp .Or (b :: rest) pos) mb) : DE X E (.BoolOp .Or (a :: b :: rest) pos) (mOrV ma mb) := PE.weak (pe_or ha hb) t_orV
end
end DL

/-! MSa: sets of tuples of whole numbers and texts: the search and the adding. -/
namespace MS
open PySem PySem.Spec PyProof.Rows L2

abbrev mh (P : Program) (w : World) (k : List Key) : Int := tupleKeyHash (mixKind P w) k
abbrev IsM (P : Program) (w : World) (h : Heap) (k : List Key) (a : Addr) : Prop := IsTupleKey (mixKind P w) h k a
abbrev Row := Addr × List Key
def Flat1 (v : Value) : Prop := (∃ i t, v = Value.int i t) ∨ ∃ x t, v = Value.str x t

section
variable {P : Program} {w : World} {A : Around} {E : Value → Shared → Prop} {s : Shared}
theorem flat_of_mix {k : Key} {v : Value} (h : (mixKind P w).is k v = true) : Flat1 v := by
  cases v with
  | int i t => exact .inl ⟨i, t, rfl⟩
  | str x t => exact .inr ⟨x, t, rfl⟩
  | _ => exact absurd h (by cases k <;> (intro z; cases z))
theorem flat_items {k : List Key} {vs : List Value} (h : ItemsAre (mixKind P w) k vs) : ∀ v ∈ vs, Flat1 v := by
  induction h with
  | nil => exact fun v hv => absurd hv (by simp)
  | cons h1 _ ih =>
    intro v hv
    rcases List.mem_cons.mp hv with e | hv
    · rw [e]; exact flat_of_mix h1
    · exact ih v hv
theorem Flat1.cls {v : Value} (f : Flat1 v) (n : Nat) : ofAClassStatement n v = pure false := by
  rcases f with ⟨i, t, rfl⟩ | ⟨x, t, rfl⟩ <;> cases n <;> rfl
theorem Flat1.hby {v : Value} (f : Flat1 v) (n : Nat) : ∃ b, hashByValue n v = pure b := by
  rcases f with ⟨i, t, rfl⟩ | ⟨x, t, rfl⟩
  · exact ⟨true, by cases n <;> rfl⟩
  · exact ⟨false, by cases n <;> rfl⟩
/-- no class's own text is asked for such a tuple -/
theorem cls_no {k : List Key} {b : Addr} {Q : Bool → Shared → Prop} (hk : IsM P w s.heap k b) (q : Q false s) : wpAny (model P w) A (ofAClassStatement 8 (.ref b)) Q E s := by
  have ty := hk.typeIs
  obtain ⟨o, its, m, g, _, hd, hi⟩ := hk
  unfold ofAClassStatement
  refine wpAny_bind (wpAny_typeOf ty ?_)
  dsimp only
  have yes : (("tuple" : String) == "tuple") = true := by decide
  simp only [yes, if_true, Bool.not_true, Bool.false_eq_true, if_false]
  (try refine wpAny_bind (wpAny_pure ?_)); (try simp only [Bool.not_true, Bool.false_eq_true, if_false])
  refine wpAny_bind (show wpAny _ _ (seqItems? (.ref b)) _ _ s from wpAny_seqItems g hd ?_)
  dsimp only
  refine wpAny_bind (show wpAny _ _ (forIn its _ _) _ _ s from ?_)
  rw [← Array.forIn_toList]
  refine wpAny_forIn_list _ (fun left r s1 => (r.1 = none ∧ s1 = s) ∧ ∀ v ∈ left, Flat1 v) _ ?step ?out _ _ ⟨⟨rfl, rfl⟩, flat_items hi⟩
  case step =>
    rintro v left r s1 ⟨⟨e1, rfl⟩, all⟩
    rw [(all v List.mem_cons_self).cls]
    refine wpAny_bind (wpAny_pure ?_); simp only [Bool.false_eq_true, if_false]
    exact wpAny_pure ⟨⟨rfl, rfl⟩, fun u hu => all u (List.mem_cons_of_mem _ hu)⟩
  case out =>
    rintro ⟨r1, r2⟩ s1 ⟨⟨e1, rfl⟩, _⟩
    cases (show r1 = none from e1)
    exact wpAny_pure q
theorem hby_any {k : List Key} {b : Addr} {Q : Bool → Shared → Prop} (hk : IsM P w s.heap k b) (q : ∀ r, Q r s) : wpAny (model P w) A (hashByValue 8 (.ref b)) Q E s := by
  have ty := hk.typeIs
  obtain ⟨o, its, m, g, _, hd, hi⟩ := hk
  unfold hashByValue
  refine wpAny_bind (wpAny_specialOf ty F.slot_tuple_hash.lookup ?_)
  refine show wpAny _ _ (seqItems? (.ref b) >>= _) _ _ s from wpAny_bind (wpAny_seqItems g hd ?_)
  refine wpAny_bind (show wpAny _ _ (forIn its _ _) _ _ s from ?_)
  rw [← Array.forIn_toList]
  refine wpAny_forIn_list _ (fun left r s1 => (r.1 = none ∧ s1 = s) ∧ ∀ v ∈ left, Flat1 v) _ ?step ?out _ _ ⟨⟨rfl, rfl⟩, flat_items hi⟩
  case step =>
    rintro v left r s1 ⟨⟨e1, rfl⟩, all⟩
    obtain ⟨c, hc⟩ := (all v List.mem_cons_self).hby 7
    rw [hc]
    refine wpAny_bind (wpAny_pure ?_)
    cases c with
    | true =>
      simp only [Bool.not_true, Bool.false_eq_true, if_false]
      exact wpAny_pure ⟨⟨rfl, rfl⟩, fun u hu => all u (List.mem_cons_of_mem _ hu)⟩
    | false =>
      simp only [Bool.not_false, if_true]
      exact wpAny_pure (wpAny_pure (q false))
  case out =>
    rintro ⟨r1, r2⟩ s1 ⟨⟨e1, rfl⟩, _⟩
    cases (show r1 = none from e1)
    exact wpAny_pure (q true)
def AllM (P : Program) (w : World) (h : Heap) (ys : List Value) : Prop := ∀ y ∈ ys, ∃ k c, y = Value.ref c ∧ IsM P w h k c
/-- nobody sees such a search -/
theorem unseen {k : List Key} {b : Addr} {Q : Bool → Shared → Prop} (hk : IsM P w s.heap k b) {ys : List Value} (hy : AllM P w s.heap ys) (q : Q false s) : wpAny (model P w) A (searchCouldBeSeen (.ref b) ys) Q E s := by
  unfold searchCouldBeSeen
  refine wpAny_bind (wpAny_forIn_list _ (fun left r s1 => (r.1 = none ∧ s1 = s) ∧ AllM P w s.heap left) _ ?step ?out _ _ ⟨⟨rfl, rfl⟩, hy⟩)
  case step =>
    rintro v left r s1 ⟨⟨e1, rfl⟩, all⟩
    obtain ⟨k', c, rfl, hc⟩ := all v List.mem_cons_self
    have on : AllM P w s1.heap left := fun u hu => all u (List.mem_cons_of_mem _ hu)
    dsimp only
    by_cases z : (b == c || (carriedByValue (.ref b) && carriedByValue (.ref c))) = true
    · exact wp_if_pos z (wpAny_pure ⟨⟨rfl, rfl⟩, on⟩)
    · refine wp_if_neg z (wpAny_bind (wpAny_eqIsQuiet_tuple hk ?_)); simp only [Bool.not_true, Bool.false_eq_true, if_false]
      refine wpAny_bind (wpAny_eqIsQuiet_tuple hc ?_); simp only [Bool.not_true, Bool.false_eq_true, if_false]
      refine wpAny_bind (cls_no hk ?_); simp only [Bool.false_eq_true, if_false]
      refine wpAny_bind (cls_no hc ?_); simp only [Bool.false_eq_true, if_false]
      exact wpAny_pure ⟨⟨rfl, rfl⟩, on⟩
  case out =>
    rintro ⟨r1, r2⟩ s1 ⟨⟨e1, rfl⟩, _⟩
    cases (show r1 = none from e1)
    exact wpAny_pure q

/-! ### the set -/
def rws (P : Program) (w : World) (L : List Row) : List (Int × Value) := L.map fun p => (mh P w p.2, Value.ref p.1)
theorem rws_len (L : List Row) : (rws P w L).length = L.length := List.length_map _
def hss (P : Program) (w : World) (L : List Row) : List Int := L.map fun p => mh P w p.2
theorem hss_len (L : List Row) : (hss P w L).length = L.length := List.length_map _
theorem hss_at {L : List Row} {i : Nat} {p : Row} (h : L[i]? = some p) : (hss P w L)[i]? = some (mh P w p.2) := by
  unfold hss; rw [List.getElem?_map, h]; rfl
structure Mst (P : Program) (w : World) (h : Heap) (a : Addr) (L : List Row) (es : Array (Int × Value)) (ep : Nat) (t : SetTable) : Prop where
  at_ : ∃ o, h.get? a = some o ∧ o.ExactSet ∧ o.data = .set es ep t
  row : es.toList = rws P w L
  tok : TabOk t (hss P w L)
  dif : (L.map Prod.snd).Nodup
  key : ∀ p ∈ L, IsM P w h p.2 p.1
  ld : w.params.followText "set-order" = true ∨ t.led = true
  rm : L.length * 5 < t.mask * 3
  fw : L.length < 64
variable {a : Addr} {L : List Row} {es : Array (Int × Value)} {ep : Nat} {t : SetTable}
theorem len_of (h : es.toList = rws P w L) : es.size = L.length := by
  rw [← Array.length_toList, h, rws_len]
theorem Mst.sz (R : Mst P w s.heap a L es ep t) : es.size = L.length := len_of R.row
theorem Mst.psz (R : Mst P w s.heap a L es ep t) : t.place.size = L.length := R.tok.sz.trans (hss_len L)
theorem fits_of {n : Nat} (hd : t.dummies = #[]) (h1 : t.place.size = n) (h2 : n ≤ t.mask) : t.fits n = true := by
  unfold SetTable.fits SetTable.fill
  rw [hd, Bool.and_eq_true, beq_iff_eq, decide_eq_true_eq]
  exact ⟨h1, by show t.place.size + 0 ≤ t.mask; omega⟩
theorem Mst.fit (R : Mst P w s.heap a L es ep t) : t.fits es.size = true := by
  have r := R.rm
  exact fits_of R.tok.dm (R.psz.trans R.sz.symm) (by rw [R.sz]; omega)
theorem Mst.ent (R : Mst P w s.heap a L es ep t) {i : Nat} {p : Row} (h : L[i]? = some p) : es[i]? = some (mh P w p.2, Value.ref p.1) := by
  rw [← Array.getElem?_toList, R.row, rws, List.getElem?_map, h]
  rfl
theorem Mst.stays (R : Mst P w s.heap a L es ep t) : ¬ t.gaveWay = true := by
  unfold SetTable.gaveWay
  rw [mask_odd R.tok.mok]
  decide
abbrev pr0 (m : Nat) (h : Int) : SetTable.Probe := runAt m (SetTable.bits h % (m + 1)) (SetTable.bits h)
theorem nth_dm (m : Nat) : ∀ (n : Nat) (p : SetTable.Probe), p.dummy = none → (nth m p n).dummy = none
  | 0, _, h => h
  | n + 1, p, h => nth_dm m n (adv m p) (by unfold adv; split <;> exact h)
theorem nth_way (m : Nat) (h : Int) (c q : Nat) : (nth m (nth m (pr0 m h) c) q).j = way m h (c + q) := by
  rw [← nth_add]

/-- from the c-th slot of the way on: the key is found, or the first empty slot -/
theorem look (R : Mst P w s.heap a L es ep t) {x : Addr} {k : List Key} (hx : IsM P w s.heap k x) (hu : A.units < cLine) {N : Nat} (hN : N < 10 * SetTable.turns t.mask) (h0 : way t.mask (mh P w k) N ∉ t.place.toList)
    (hb : ∀ c, c < N → way t.mask (mh P w k) c ∈ t.place.toList) {Q : SetFound → Shared → Prop} (yes : k ∈ L.map Prod.snd → Q (.there none) s) (no : k ∉ L.map Prod.snd → Q (.free (way t.mask (mh P w k) N) false) s) :
    ∀ (f c : Nat) (from_ : Option SetTable.Probe), from_.getD (t.probeStart (mh P w k)) = nth t.mask (pr0 t.mask (mh P w k)) c → c ≤ N → N - c < f →
      (∀ (i : Nat) (p : Row), L[i]? = some p → p.2 = k → ∃ d, c ≤ d ∧ d < N ∧ t.place.toList[i]? = some (way t.mask (mh P w k) d)) → wpAny (model P w) A (setSearchFrom a (.ref x) (mh P w k) true f from_) Q E s
  | 0, c, _, _, _, z, _ => absurd z (Nat.not_lt_zero _)
  | f + 1, c, from_, hf, hc, hl, hre => by
    obtain ⟨o, ho, _, hd⟩ := R.at_
    rw [setSearchFrom_succ]
    refine wpAny_bind (wpAny_setState_of ho hd R.fit ?_)
    dsimp only
    refine wp_if_neg R.stays ?_
    (try refine wpAny_bind (wpAny_pure ?_))
    have hAt : ∀ (i : Nat) (p : Row), L[i]? = some p → (fun i => (es[i]?.map (·.1)).getD 0) i = mh P w p.2 := fun i p hp => by
      show (es[i]?.map (·.1)).getD 0 = _
      rw [R.ent hp]; rfl
    have W := go_spec t R.tok.ris R.tok.dm (fun i => (es[i]?.map (·.1)).getD 0) (mh P w k) (10 * SetTable.turns t.mask) (N - c) _ (nth_dm t.mask c (pr0 t.mask (mh P w k)) rfl) (by omega)
      (fun q hq => by rw [nth_way]; exact hb (c + q) (by omega)) (by rw [nth_way, Nat.add_sub_cancel' hc]; exact h0)
    have miss : ∀ (bd : Nat), (∀ (k' i' : Nat), k' < bd → t.place.toList[i']? = some (nth t.mask (nth t.mask (pr0 t.mask (mh P w k)) c) k').j → (fun (i : Nat) => (es[i]?.map (·.1)).getD 0) i' ≠ mh P w k) →
        ∀ (i : Nat) (p : Row), L[i]? = some p → p.2 = k → ∀ d, c ≤ d → d < c + bd → t.place.toList[i]? = some (way t.mask (mh P w k) d) → False := fun bd hno i p hp hk d d1 d2 hw => by
      refine hno (d - c) i (by omega) (by rw [nth_way, Nat.add_sub_cancel' d1]; exact hw) ?_
      rw [hAt i p hp, hk]
    rcases W with ⟨q, i, hq, hi, hh, hno, hpr⟩ | ⟨hno, hpr⟩
    · have e : t.probe (fun i => (es[i]?.map (·.1)).getD 0) (mh P w k) (from_.getD (t.probeStart (mh P w k))) = some (.candidate (way t.mask (mh P w k) (c + q)) i (nth t.mask (pr0 t.mask (mh P w k)) (c + (q + 1)))) := by
        rw [hf, ← nth_way, nth_add]
        exact hpr
      rw [e]
      dsimp only
      rw [nth_way] at hi
      have hil : i < L.length := by
        have z := (List.getElem?_eq_some_iff.mp hi).1
        rw [Array.length_toList, R.psz] at z
        exact z
      obtain ⟨p, hp⟩ : ∃ p, L[i]? = some p := ⟨_, List.getElem?_eq_getElem hil⟩
      have pm : p ∈ L := List.mem_of_getElem? hp
      have live : t.slot (way t.mask (mh P w k) (c + q)) = .live i := slot_live R.tok.ris hi
      have go : wpAny (model P w) A (searchRest a (.ref x) (mh P w k) true f es t (way t.mask (mh P w k) (c + q)) i (nth t.mask (pr0 t.mask (mh P w k)) (c + (q + 1)))) Q E s := by
        unfold searchRest
        rw [R.ent hp]
        dsimp only
        refine wpAny_bind (wpAny_holding (wpAny_eqBool_tuple hu (R.key p pm) hx (wpAny_bind (wpAny_setState_of ho hd R.fit ?_))))
        dsimp only
        by_cases same : p.2 = k
        · exact wp_if_pos (by simp [same]) (wpAny_pure (yes (List.mem_map.mpr ⟨p, pm, same⟩)))
        · refine wp_if_neg (by simp [same]) ?_
          (try refine wpAny_bind (wpAny_pure ?_))
          rw [sameMem]
          dsimp only
          simp only [if_true, live, R.ent hp]
          refine wpAny_bind (wpAny_isSame_ref_self (wpAny_bind (wpAny_pure ?_)))
          simp only [if_true]
          refine wp_if_neg (by simp [same]) (look R hx hu hN h0 hb yes no f (c + (q + 1)) _ rfl (by omega) (by omega) fun i2 p2 hp2 hk2 => ?_)
          obtain ⟨d, d1, d2, d3⟩ := hre i2 p2 hp2 hk2
          refine ⟨d, ?_, d2, d3⟩
          rcases Nat.lt_trichotomy d (c + q) with z | z | z
          · exact (miss q hno i2 p2 hp2 hk2 d d1 z d3).elim
          · subst z
            have s2 := slot_live R.tok.ris d3
            rw [live] at s2
            injection s2 with s2
            rw [← s2, hp] at hp2
            exact absurd ((congrArg Prod.snd (Option.some.inj hp2)).trans hk2) same
          · omega
      by_cases l : t.led = true
      · refine wp_if_neg (by simp [l]) ?_
        (try refine wpAny_bind (wpAny_pure ?_))
        exact go
      · refine wp_if_pos (by simp [l]) (wpAny_bind (unseen hx (fun y hy => ?_) ?_))
        · obtain ⟨e1, he, rfl⟩ := List.mem_map.mp hy
          have h1 : e1 ∈ es.toList := by
            have z : e1 ∈ es ∧ e1.1 = mh P w k := by simpa using he
            simpa using z.1
          rw [R.row] at h1
          obtain ⟨p2, h2, rfl⟩ := List.mem_map.mp h1
          exact ⟨p2.2, p2.1, rfl, R.key p2 h2⟩
        · refine wp_if_neg (by decide) ?_
          (try refine wpAny_bind (wpAny_pure ?_))
          exact go
    · have e : t.probe (fun i => (es[i]?.map (·.1)).getD 0) (mh P w k) (from_.getD (t.probeStart (mh P w k))) = some (.empty (way t.mask (mh P w k) N) none) := by
        have z := nth_way t.mask (mh P w k) c (N - c)
        rw [Nat.add_sub_cancel' hc] at z
        rw [hf, ← z]
        exact hpr
      rw [e]
      dsimp only
      refine wpAny_pure (no fun hm => ?_)
      obtain ⟨p, pm, hk⟩ := List.mem_map.mp hm
      obtain ⟨i, hi⟩ := List.mem_iff_getElem?.mp pm
      obtain ⟨d, d1, d2, d3⟩ := hre i p hi hk
      exact miss (N - c) hno i p hi hk d d1 (by omega) d3
theorem look0 (R : Mst P w s.heap a L es ep t) {x : Addr} {k : List Key} (hx : IsM P w s.heap k x) (hu : A.units < cLine) {Q : SetFound → Shared → Prop} (yes : k ∈ L.map Prod.snd → Q (.there none) s)
    (no : ∀ N, k ∉ L.map Prod.snd → way t.mask (mh P w k) N ∉ t.place.toList → (∀ c, c < N → way t.mask (mh P w k) c ∈ t.place.toList) → Q (.free (way t.mask (mh P w k) N) false) s) :
    wpAny (model P w) A (setSearch a (.ref x) (mh P w k) true) Q E s := by
  have r := R.rm
  obtain ⟨N, n1, n2, n3⟩ := R.tok.first (by rw [hss_len]; omega) (mh P w k)
  have big : N < 100000 := by
    unfold SetTable.turns at n1
    rcases R.tok.mok with e | e | e <;> omega
  unfold setSearch
  refine look R hx hu n1 n2 n3 yes (fun z => no N z n2 n3) 100000 0 none rfl (Nat.zero_le _) (by omega) fun i p hp hk => ?_
  have hl : i < t.place.toList.length := by
    rw [Array.length_toList, R.psz]
    exact (List.getElem?_eq_some_iff.mp hp).1
  obtain ⟨d, d1, d2⟩ := R.tok.before n2 (by rw [hss_at hp, hk]) (List.getElem?_eq_getElem hl)
  exact ⟨d, Nat.zero_le _, d1, by rw [List.getElem?_eq_getElem hl, d2]⟩
end
end MS

/-! MSb: adding to such a set, and set(xs). -/
namespace MS
open PySem PySem.Spec PyProof.Rows L2

section
variable {P : Program} {w : World} {A : Around} {E : Value → Shared → Prop} {s : Shared}
theorem key_on {h h' : Heap} {k : List Key} {a b : Addr} {o : Obj} {es : Array (Int × Value)} {ep : Nat} {t : SetTable} (hb : IsM P w h k b) (ho : h.get? a = some o) (hd : o.data = .set es ep t) (sb : Heap.SameBut a h h') : IsM P w h' k b := by
  obtain ⟨o1, its, n, g, c, d, i⟩ := hb
  refine ⟨o1, its, n, (sb.2 b fun e => ?_).trans g, c, d, i⟩
  rw [e, ho] at g
  cases g
  rw [hd] at d
  cases d
theorem key_up {h h' : Heap} {k : List Key} {b : Addr} (x : IsM P w h k b) (up : ∀ c o, h.get? c = some o → h'.get? c = some o) : IsM P w h' k b := by
  obtain ⟨o, its, n, g, r⟩ := x
  exact ⟨o, its, n, up b o g, r⟩
/-- the rows picked in another order -/
theorem picked (L : List Row) (es : Array (Int × Value)) (ord : Array Nat) (hr : es.toList = rws P w L) (hp : ord.toList.Perm (List.range L.length)) :
    ∃ L2 : List Row, (ord.filterMap (es[·]?)).toList = rws P w L2 ∧ L2.Perm L ∧ hss P w L2 = ord.toList.map fun i => (es.map (·.1)).getD i 0 := by
  have at_ : ∀ i, es[i]? = L[i]?.map fun (p : Row) => (mh P w p.2, Value.ref p.1) := fun i => by
    rw [← Array.getElem?_toList, hr, rws, List.getElem?_map]
  have hashed : ∀ i (p : Row), L[i]? = some p → (es.map (·.1)).getD i 0 = mh P w p.2 := fun i p hp => by
    have z : (es.map (·.1))[i]? = some (mh P w p.2) := by rw [Array.getElem?_map, at_, hp]; rfl
    simp [Array.getD_eq_getD_getElem?, z]
  have all : ∀ l : List Nat, (∀ i ∈ l, i < L.length) → l.filterMap (fun i => es[i]?) = rws P w (l.filterMap fun i => L[i]?) ∧ hss P w (l.filterMap fun i => L[i]?) = l.map fun i => (es.map (·.1)).getD i 0 := by
    intro l
    induction l with
    | nil => exact fun _ => ⟨rfl, rfl⟩
    | cons i l ih =>
      intro hl
      obtain ⟨p, hp⟩ : ∃ p, L[i]? = some p := ⟨_, List.getElem?_eq_getElem (hl i List.mem_cons_self)⟩
      obtain ⟨e1, e2⟩ := ih fun j hj => hl j (List.mem_cons_of_mem _ hj)
      have hz : es[i]? = some (mh P w p.2, Value.ref p.1) := by rw [at_, hp]; rfl
      rw [List.filterMap_cons_some hz, List.filterMap_cons_some hp, List.map_cons, hashed i p hp, ← e2, e1]
      exact ⟨rfl, rfl⟩
  obtain ⟨e1, e2⟩ := all ord.toList fun i hi => List.mem_range.mp (hp.mem_iff.mp hi)
  refine ⟨ord.toList.filterMap fun i => L[i]?, by first | (rw [Array.toList_filterMap]; exact e1) | simpa using e1, ?_, e2⟩
  have whole : ∀ M : List Row, (List.range M.length).filterMap (fun i => M[i]?) = M := by
    intro M
    apply List.ext_getElem?
    intro j
    induction M generalizing j with
    | nil => rfl
    | cons x M ih =>
      rw [List.length_cons, List.range_succ_eq_map, List.filterMap_cons_some (f := fun i => (x :: M)[i]?) (a := 0) (b := x) rfl, List.filterMap_map]
      cases j with
      | zero => rfl
      | succ j =>
        rw [List.getElem?_cons_succ, List.getElem?_cons_succ, ← ih j]
        rfl
  have z := hp.filterMap fun i => L[i]?
  rw [whole L] at z
  exact z
variable {a : Addr} {L : List Row} {es : Array (Int × Value)} {ep : Nat} {t : SetTable}
/-- the table grows -/
theorem grow {o : Obj} (ho : s.heap.get? a = some o) (ex : o.ExactSet) (hd : o.data = .set es ep t) (row : es.toList = rws P w L) (psz : t.place.size = es.size) (dm : t.dummies = #[]) (le : es.size ≤ t.mask) (dif : (L.map Prod.snd).Nodup)
    (key : ∀ p ∈ L, IsM P w s.heap p.2 p.1) (ld : w.params.followText "set-order" = true ∨ t.led = true) (fw : L.length < 64) {want M : Nat} (hw : SetTable.sizeAbove want - 1 = M) (hM : MaskOk M) (h128 : SetTable.sizeAbove want ≤ 128)
    (rm : L.length * 5 < M * 3) {Q : Unit → Shared → Prop} (q : ∀ h2 L2 es2 ep2 t2, Heap.SameBut a s.heap h2 → Mst P w h2 a L2 es2 ep2 t2 → L2.Perm L → Q () { s with heap := h2 }) : wpAny (model P w) A (setRelay a want) Q E s := by
  have sz := len_of row
  obtain ⟨t2, ord, e1, pm, T, m2, l2, _, _⟩ := relaid_ok t (hs := es.map (·.1)) (wanted := want) hw hM (by rw [Array.size_map, sz]; omega)
  rw [Array.size_map, sz] at pm
  obtain ⟨L2, r1, r2, r3⟩ := picked L es ord row pm
  have n2 := len_of r1
  rw [r2.length_eq] at n2
  rw [setRelay_eq]
  refine wpAny_bind (wpAny_setState_of ho hd (fits_of dm psz le) ?_)
  dsimp only
  refine wp_if_neg (by rw [sizeLine_eq]; omega) ?_
  (try refine wpAny_bind (wpAny_pure ?_))
  rw [e1]
  dsimp only
  refine wpAny_bind (wp_if_neg (by rw [n2, sz]; simp) ?_)
  (try refine wpAny_bind (wpAny_pure ?_))
  refine wpAny_pure ?_
  dsimp only
  refine wpAny_storeSet_of ho hd ?_ (by rw [n2, sizeLine_eq]; omega)
  have sb : Heap.SameBut a s.heap (s.heap.update a (Obj.putSet (ord.filterMap (es[·]?)) t2)) := Heap.SameBut.update ..
  refine q _ L2 _ (ep + 1) t2 sb ⟨⟨_, store_at ho hd, ⟨ex.1, ex.2.1, ex.2.2⟩, rfl⟩, r1, by rw [r3]; exact T, (r2.map _).nodup_iff.mpr dif, fun p hp => key_on (key p (r2.mem_iff.mp hp)) ho hd sb, ?_, ?_, by rw [r2.length_eq]; exact fw⟩ r2
  · rw [l2]; exact ld
  · rw [r2.length_eq, m2]; exact rm
/-- the last steps of adding: the row is stored, the table grows if it is too full -/
theorem put_end {o : Obj} (ho : s.heap.get? a = some o) (ex : o.ExactSet) (hd : o.data = .set es ep t) {x : Addr} {k : List Key} (hx : IsM P w s.heap k x) (rm : L.length * 5 < t.mask * 3) (mok : MaskOk t.mask) (sz : es.size = L.length) (few : L.length + 1 < 64)
    (key : ∀ p ∈ L, IsM P w s.heap p.2 p.1) (dif : (L.map Prod.snd).Nodup) (new : k ∉ L.map Prod.snd) {L1 : List Row} {es1 : Array (Int × Value)} {t2 : SetTable} (pm : L1.Perm ((x, k) :: L)) (row1 : es1.toList = rws P w L1) (tok1 : TabOk t2 (hss P w L1))
    (c4 : t2.mask = t.mask) (c9 : t2.fill = L.length + 1) (ld1 : w.params.followText "set-order" = true ∨ t2.led = true) {Q : Bool → Shared → Prop}
    (q : ∀ h2 L2 es2 ep2 t2, Heap.SameBut a s.heap h2 → Mst P w h2 a L2 es2 ep2 t2 → L2.Perm ((x, k) :: L) → Q true { s with heap := h2 }) :
    wpAny (model P w) A (do
      storeSet a es1 t2
      if !false && t2.tooFull then setRelay a (SetTable.grown (es.size + 1))
      return true) Q E s := by
  have n1 : L1.length = L.length + 1 := pm.length_eq
  have sz1 := len_of row1
  rw [n1] at sz1
  refine wpAny_bind (wpAny_storeSet_of ho hd ?_ (by rw [sz1, sizeLine_eq]; omega))
  have dif1 : (L1.map Prod.snd).Nodup := (pm.map _).nodup_iff.mpr (by rw [List.map_cons]; exact List.nodup_cons.mpr ⟨new, dif⟩)
  have sb : Heap.SameBut a s.heap (s.heap.update a (Obj.putSet es1 t2)) := Heap.SameBut.update ..
  have ho1 := store_at (es' := es1) (t' := t2) ho hd
  generalize s.heap.update a (Obj.putSet es1 t2) = h1 at sb ho1 ⊢
  have key1 : ∀ p ∈ L1, IsM P w h1 p.2 p.1 := fun p hp => by
    rcases List.mem_cons.mp (pm.mem_iff.mp hp) with e | hp
    · rw [e]; exact key_on hx ho hd sb
    · exact key_on (key p hp) ho hd sb
  have ps1 : t2.place.size = es1.size := by rw [tok1.sz, hss_len, n1, sz1]
  by_cases full : t2.tooFull = true
  · first
      | refine wpAny_bind (wp_if_pos (by simp [full]) ?_)
      | refine wp_if_pos (by simp [full]) (wpAny_bind ?_)
    have lots : (L.length + 1) * 5 ≥ t2.mask * 3 := by
      unfold SetTable.tooFull at full
      rw [decide_eq_true_eq, c9] at full
      exact full
    rw [sz]
    have to : ∀ M, SetTable.sizeAbove (SetTable.grown (L.length + 1)) - 1 = M → MaskOk M → SetTable.sizeAbove (SetTable.grown (L.length + 1)) ≤ 128 → (L.length + 1) * 5 < M * 3 → es1.size ≤ t2.mask →
        wpAny (model P w) A (setRelay a (SetTable.grown (L.length + 1))) (fun _ s1 => wpAny (model P w) A (pure true) Q E s1) E { s with heap := h1 } := fun M z1 z2 z3 z4 z5 =>
      grow (s := { s with heap := h1 }) ho1 ⟨ex.1, ex.2.1, ex.2.2⟩ rfl row1 ps1 tok1.dm z5 dif1 key1 ld1 (by rw [n1]; exact few) z1 z2 z3 (by rw [n1]; exact z4) fun h2 L2 es2 ep2 t3 sb2 R2 pm2 =>
        wpAny_pure (q h2 L2 es2 ep2 t3 (sb.trans sb2) R2 (pm2.trans pm))
    have which : (t.mask = 7 ∧ L.length = 4) ∨ (t.mask = 31 ∧ L.length = 18) := by
      rw [c4] at lots
      rcases mok with e | e | e <;> rw [e] at lots rm
      · exact .inl ⟨e, by omega⟩
      · exact .inr ⟨e, by omega⟩
      · omega
    rcases which with ⟨e, n⟩ | ⟨e, n⟩
    · exact to 31 (by rw [n, size_20]) (.inr (.inl rfl)) (by rw [n, size_20]; decide) (by omega) (by rw [sz1, c4]; omega)
    · exact to 127 (by rw [n, size_76]) (.inr (.inr rfl)) (by rw [n, size_76]; decide) (by omega) (by rw [sz1, c4]; omega)
  · first
      | refine wp_if_neg (by simp [full]) ?_
      | refine wpAny_bind (wp_if_neg (by simp [full]) (wpAny_pure ?_))
    refine wpAny_pure (q h1 L1 es1 (ep + 1) t2 sb ⟨⟨_, ho1, ⟨ex.1, ex.2.1, ex.2.2⟩, rfl⟩, row1, tok1, dif1, key1, ld1, ?_, by rw [n1]; exact few⟩ pm)
    unfold SetTable.tooFull at full
    rw [decide_eq_true_eq, c9] at full
    rw [n1]
    omega
/-- one more -/
theorem put1 (R : Mst P w s.heap a L es ep t) {x : Addr} {k : List Key} (hx : IsM P w s.heap k x) (hu : A.units < cLine) (few : L.length + 1 < 64) {Q : Bool → Shared → Prop}
    (q : ∀ b h2 L2 es2 ep2 t2, Heap.SameBut a s.heap h2 → Mst P w h2 a L2 es2 ep2 t2 → (L2 = L ∧ k ∈ L.map Prod.snd) ∨ (L2.Perm ((x, k) :: L) ∧ k ∉ L.map Prod.snd) → Q b { s with heap := h2 }) :
    wpAny (model P w) A (setAddHashed a (.ref x) (mh P w k)) Q E s := by
  obtain ⟨o, ho, ex, hd⟩ := R.at_
  unfold setAddHashed
  rw [show (100000 : Nat) = 99999 + 1 from rfl, setAddHashedIn_succ]
  refine wpAny_holding (wpAny_bind (wpAny_setState_of ho hd R.fit ?_))
  dsimp only
  refine wp_if_neg (by simp [byScan, Value.scannable]) ?_
  (try refine wpAny_bind (wpAny_pure ?_))
  refine wpAny_bind (look0 R hx hu (fun hm => ?_) fun N new free busy => ?_)
  · dsimp only
    exact wpAny_pure (q false s.heap L es ep t (Heap.SameBut.refl a s.heap) R (.inl ⟨rfl, hm⟩))
  dsimp only
  refine wpAny_bind (wpAny_setState_of ho hd R.fit ?_)
  dsimp only
  obtain ⟨c1, c2, c3, c4, c5, _, _, _, c9⟩ := R.tok.put free busy
  rw [hss_len] at c9
  generalize ht : t.put (way t.mask (mh P w k) N) = tp at c1 c3 c4 c5 c9 ⊢
  obtain ⟨t1, i⟩ := tp
  dsimp only at c1 c3 c4 c5 c9 ⊢
  subst c1
  generalize SetTable.below t.place (way t.mask (mh P w k) N) = i at c2 c3 ⊢
  have row1 : (SetTable.insertAt es i (mh P w k, Value.ref x)).toList = rws P w (L.take i ++ (x, k) :: L.drop i) := by
    unfold rws
    rw [SetTable.toList_insertAt, R.row, rws, List.map_append, List.map_cons, List.map_take, List.map_drop]
  have tok1 : TabOk t1 (hss P w (L.take i ++ (x, k) :: L.drop i)) := by
    unfold hss at c3 ⊢
    rw [List.map_append, List.map_cons, List.map_take, List.map_drop]
    exact c3
  have ld1 : w.params.followText "set-order" = true ∨ t1.led = true := by rw [c5]; exact R.ld
  have stop := put_end (A := A) (E := E) (t2 := t1) ho ex hd hx R.rm R.tok.mok R.sz few R.key R.dif new (put_perm L i (x, k)) row1 tok1 c4 c9 ld1 (Q := Q) fun h2 L2 es2 ep2 t2 sb M2 pm => q true h2 L2 es2 ep2 t2 sb M2 (.inr ⟨pm, new⟩)
  have stop2 := put_end (A := A) (E := E) (t2 := { t1 with plain := false }) ho ex hd hx R.rm R.tok.mok R.sz few R.key R.dif new (put_perm L i (x, k)) row1 ⟨tok1.ris, tok1.dm, tok1.sz, tok1.mok, tok1.bd, tok1.reach⟩ c4 c9 ld1 (Q := Q) fun h2 L2 es2 ep2 t2 sb M2 pm => q true h2 L2 es2 ep2 t2 sb M2 (.inr ⟨pm, new⟩)
  first
    | refine wpAny_bind (wpAny_ite_split (fun z => hby_any hx fun b => ?_) fun z => wpAny_pure ?_)
    | refine wpAny_ite_split (fun z => wpAny_bind (hby_any hx fun b => ?_)) (fun z => ?_)
  · cases b
    · exact stop2
    · exact stop
  · exact stop

/-- what a set has from the first items -/
structure Has (ks : List Row) (i : Nat) (L : List Row) : Prop where
  of : ∀ p ∈ L, p ∈ ks.take i
  to : ∀ p ∈ ks.take i, p.2 ∈ L.map Prod.snd
  le : L.length ≤ i
theorem Has.next {ks L L2 : List Row} {i : Nat} {p : Row} (H : Has ks i L) (hp : ks[i]? = some p) (h : (L2 = L ∧ p.2 ∈ L.map Prod.snd) ∨ (L2.Perm (p :: L) ∧ p.2 ∉ L.map Prod.snd)) : Has ks (i + 1) L2 := by
  have e : ks.take (i + 1) = ks.take i ++ [p] := by rw [List.take_succ, hp]; rfl
  rcases h with ⟨rfl, m⟩ | ⟨pm, _⟩
  · refine ⟨fun r hr => by rw [e]; exact List.mem_append_left _ (H.of r hr), fun r hr => ?_, Nat.le_succ_of_le H.le⟩
    rw [e] at hr
    rcases List.mem_append.mp hr with z | z
    · exact H.to r z
    · rw [List.mem_singleton.mp z]; exact m
  · refine ⟨fun r hr => ?_, fun r hr => ?_, by rw [pm.length_eq]; exact Nat.succ_le_succ H.le⟩
    · rw [e]
      rcases List.mem_cons.mp (pm.mem_iff.mp hr) with z | z
      · rw [z]; exact List.mem_append_right _ List.mem_cons_self
      · exact List.mem_append_left _ (H.of r z)
    · rw [(pm.map _).mem_iff, List.map_cons]
      rw [e] at hr
      rcases List.mem_append.mp hr with z | z
      · exact List.mem_cons_of_mem _ (H.to r z)
      · rw [List.mem_singleton.mp z]; exact List.mem_cons_self
theorem Mst.up {h h' : Heap} (R : Mst P w h a L es ep t) (ha : ∀ o, h.get? a = some o → h'.get? a = some o) (key : ∀ p ∈ L, IsM P w h' p.2 p.1) : Mst P w h' a L es ep t := by
  obtain ⟨o, ho, r⟩ := R.at_
  exact ⟨⟨o, ha o ho, r⟩, R.row, R.tok, R.dif, key, R.ld, R.rm, R.fw⟩
abbrev set0 (w : World) : Obj := { cls := .type "set", dict := none, data := .set #[] 0 (.fresh 0 0 (!w.params.followText "set-order")) }
theorem mst0 {h : Heap} (ho : h.get? a = some (set0 w)) : Mst P w h a [] #[] 0 (.fresh 0 0 (!w.params.followText "set-order")) := by
  refine ⟨⟨_, ho, ⟨rfl, rfl, rfl⟩, rfl⟩, rfl, ⟨List.Pairwise.nil, rfl, rfl, .inl rfl, fun x hx => absurd hx (by simp [SetTable.fresh]), fun i h j hi => absurd hi (by simp [hss])⟩, List.nodup_nil, fun p hp => absurd hp (by simp), ?_, by show 0 * 5 < 7 * 3; decide, by show 0 < 64; decide⟩
  show _ ∨ (!w.params.followText "set-order") = true
  cases w.params.followText "set-order"
  · exact .inr rfl
  · exact .inl rfl

/-- the loop of set.update over a walked list -/
theorem fill {I : Addr} {fp wr : List Addr} {G : Array GenState → Array GenState → Prop} {n : Nat} {Pv : Nat → Value → Prop} {St : Nat → Shared → Prop} {R : Result → Shared → Prop} (W : WalksS P w A.in1 I fp wr G n Pv St) (S : Addr) (out : S ∉ fp) (ks : List Row)
    (hn : n = ks.length) (few : ks.length < 64) (val : ∀ i v, Pv i v → ∃ p, ks[i]? = some p ∧ v = .ref p.1) (g0 : Heap) (key : ∀ p ∈ ks, IsM P w g0 p.2 p.1) (hS : g0.get? S = none) (hW : ∀ b ∈ wr, g0.get? b = none) (hu : A.in1.units < cLine) :
    ∀ (k i : Nat) (s : Shared), n - i = k → i ≤ n → St i s → (∀ b o, g0.get? b = some o → s.heap.get? b = some o) → (∃ L es ep t, Mst P w s.heap S L es ep t ∧ Has ks i L) →
      (∀ s' L es ep t, Moved (S :: wr) G s s' → Mst P w s'.heap S L es ep t → Has ks n L → (∀ b o, g0.get? b = some o → s'.heap.get? b = some o) → R (.ok (.ret .none)) s') →
      codeAny (model P w) A (.builtin "set.update.loop" ⟨[.ref S, .ref I], []⟩) R s := by
  have S_wr : S ∉ wr := fun z => out (W.sub _ z)
  have more : ∀ b ∈ wr, b ∈ S :: wr := fun b hb => List.mem_cons_of_mem _ hb
  have on : ∀ {s s' : Shared}, Moved wr G s s' → (∀ b o, g0.get? b = some o → s.heap.get? b = some o) → ∀ b o, g0.get? b = some o → s'.heap.get? b = some o := fun mv k b o e =>
    mv.heap b o (fun hb => by rw [hW b hb] at e; cases e) (k b o e)
  have mine : ∀ {i : Nat} {L : List Row}, Has ks i L → ∀ p ∈ L, p ∈ ks := fun H p hp => List.mem_of_mem_take (H.of p hp)
  intro k
  induction k with
  | zero =>
    rintro i s hk hi hst kp ⟨L, es, ep, t, hM, H⟩ fin
    obtain rfl : i = n := by omega
    refine codeAny_builtin F.entry_set_update_loop ?_
    rw [Around.under_plainId F.plain_set_update_loop _]
    refine show wpAny _ A.in1 (pyNext (.ref I) >>= _) _ _ s from wpAny_bind (W.done s _ _ hst fun s1 mv => ?_)
    have kp1 := on mv kp
    exact show wpAny _ A.in1 (ret Value.none) _ _ s1 from wpAny_pure (fin s1 L es ep t (mv.mono more) (hM.up (fun o e => mv.heap S o S_wr e) fun p hp => key_up (key p (mine H p hp)) kp1) H kp1)
  | succ k ih =>
    rintro i s hk hi hst kp ⟨L, es, ep, t, hM, H⟩ fin
    have hlt : i < n := by omega
    refine codeAny_builtin F.entry_set_update_loop ?_
    rw [Around.under_plainId F.plain_set_update_loop _]
    refine show wpAny _ A.in1 (pyNext (.ref I) >>= _) _ _ s from wpAny_bind (W.item i s _ _ hlt hst fun v s1 hv hst1 mv => ?_)
    obtain ⟨p, hp, rfl⟩ := val i v hv
    have kp1 := on mv kp
    have M1 : Mst P w s1.heap S L es ep t := hM.up (fun o e => mv.heap S o S_wr e) fun r hr => key_up (key r (mine H r hr)) kp1
    have x1 : IsM P w s1.heap p.2 p.1 := key_up (key p (List.mem_of_getElem? hp)) kp1
    refine show wpAny _ A.in1 (holding [Value.ref p.1] (setAdd S (.ref p.1)) >>= _) _ _ s1 from wpAny_bind (wpAny_holding ?_)
    unfold setAdd
    refine wpAny_holding (wpAny_bind (wpAny_pyHash_tuple hu x1 ?_))
    refine put1 (s := { s1 with toks := s1.toks + (p.2.length + 1) }) M1 x1 hu (by have := H.le; omega) fun b h2 L2 es2 ep2 t2 sb M2 hc => ?_
    have kp2 : ∀ b o, g0.get? b = some o → h2.get? b = some o := fun b o e => (sb.2 b (fun z => by rw [z, hS] at e; cases e)).trans (kp1 b o e)
    refine wpAny_pure ⟨plainId_quiet F.plain_set_update_loop _, ih (i + 1) _ (by omega) hlt (W.frame _ s1 _ _ hst1 (Nat.le_add_right _ _) fun b hb o e => ?_) kp2 ⟨L2, es2, ep2, t2, M2, H.next hp hc⟩ fun s3 L3 es3 ep3 t3 mv3 M3 H3 kp3 => ?_⟩
    · exact (sb.2 b fun z : b = S => out (z ▸ hb)).trans e
    · refine fin s3 L3 es3 ep3 t3 (Moved.trans W.gtrans ((mv.mono more).then_heap (Nat.le_add_right _ _) fun b o hb e => ?_) mv3) M3 H3 kp3
      exact (sb.2 b fun z : b = S => hb (z ▸ List.mem_cons_self)).trans e
end
end MS

/-! MSc: the order of such tuples; list.sort of them. -/
namespace MS
open PySem PySem.Spec PyProof.Rows L2

/-- a key as numbers, so that the order of lists is the tuples' -/
def ek : Key → List Int
  | .inl i => [0, i]
  | .inr s => 1 :: s.cps.toList.map fun c : Nat => (c : Int)
def ekl (k : List Key) : List (List Int) := k.map ek
def klt (k m : List Key) : Bool := decide (ekl k < ekl m)
/-- which are numbers -/
def kinds (k : List Key) : List Bool := k.map fun | .inl _ => true | .inr _ => false
theorem castL_inj : ∀ {a b : List Nat}, a.map (fun c : Nat => (c : Int)) = b.map (fun c : Nat => (c : Int)) → a = b
  | [], [], _ => rfl
  | [], _ :: _, h => by cases h
  | _ :: _, [], h => by cases h
  | a :: l, b :: m, h => by
    rw [List.map_cons, List.map_cons] at h
    obtain ⟨h1, h2⟩ := List.cons.inj h
    rw [Int.ofNat.inj h1, castL_inj h2]
theorem castL_lt : ∀ {a b : List Nat}, a.map (fun c : Nat => (c : Int)) < b.map (fun c : Nat => (c : Int)) ↔ a < b
  | [], [] => by simp
  | [], _ :: _ => by simp
  | _ :: _, [] => by simp
  | a :: l, b :: m => by
    rw [List.map_cons, List.map_cons, List.cons_lt_cons_iff, List.cons_lt_cons_iff, castL_lt (a := l) (b := m), Int.ofNat_lt, Int.ofNat_inj]
theorem ek_inj {k m : Key} (h : ek k = ek m) : k = m := by
  cases k with
  | inl i =>
    cases m with
    | inl j => unfold ek at h; simp at h; rw [h]
    | inr t => unfold ek at h; simp at h
  | inr s =>
    cases m with
    | inl j => unfold ek at h; simp at h
    | inr t =>
      unfold ek at h
      have q := castL_inj (List.cons.inj h).2
      obtain ⟨⟨c⟩⟩ := s
      obtain ⟨⟨d⟩⟩ := t
      have q' : c = d := q
      rw [q']
theorem ekl_inj : ∀ {k m : List Key}, ekl k = ekl m → k = m
  | [], [], _ => rfl
  | [], _ :: _, h => by cases h
  | _ :: _, [], h => by cases h
  | a :: l, b :: m, h => by
    obtain ⟨h1, h2⟩ := List.cons.inj (show ek a :: ekl l = ek b :: ekl m from h)
    rw [ek_inj h1, ekl_inj h2]
theorem klt_swo {α : Type} (f : α → List Key) : SrtO.Swo fun x y => klt (f x) (f y) := by
  refine ⟨fun x y h => ?_, fun x y z h1 h2 => ?_⟩
  · exact decide_eq_false (List.lt_asymm (of_decide_eq_true h))
  · exact decide_eq_false (List.not_lt.mpr (List.le_trans (List.not_lt.mp (of_decide_eq_false h1)) (List.not_lt.mp (of_decide_eq_false h2))))
theorem klt_eq {k m : List Key} (h1 : klt k m = false) (h2 : klt m k = false) : k = m :=
  ekl_inj (List.le_antisymm (List.not_lt.mp (of_decide_eq_false h2)) (List.not_lt.mp (of_decide_eq_false h1)))
theorem klt_irr (k : List Key) : klt k k = false := decide_eq_false (List.lt_irrefl _)
theorem klt_tr {k m n : List Key} (h1 : klt k m = true) (h2 : klt m n = true) : klt k n = true := decide_eq_true (List.lt_trans (of_decide_eq_true h1) (of_decide_eq_true h2))
/-- what the model asks of two first unlike ones -/
def k1 : Key → Key → Bool
  | .inl i, .inl j => decide (i < j)
  | .inr s, .inr t => decide (s.cps.toList < t.cps.toList)
  | _, _ => false
theorem klt_same {a : Key} {l m : List Key} : klt (a :: l) (a :: m) = klt l m := by
  unfold klt
  rw [decide_eq_decide]
  show ek a :: ekl l < ek a :: ekl m ↔ _
  rw [List.cons_lt_cons_iff]
  exact ⟨fun z => z.elim (fun z => absurd z (List.lt_irrefl _)) fun z => z.2, fun z => .inr ⟨rfl, z⟩⟩
theorem klt_head {a b : Key} {l m : List Key} (ne : a ≠ b) (hk : (kinds [a]) = kinds [b]) : klt (a :: l) (b :: m) = k1 a b := by
  have e : klt (a :: l) (b :: m) = decide (ek a < ek b) := by
    unfold klt
    rw [decide_eq_decide]
    show ek a :: ekl l < ek b :: ekl m ↔ _
    rw [List.cons_lt_cons_iff]
    exact ⟨fun z => z.elim id fun z => absurd (ek_inj z.1) ne, .inl⟩
  rw [e]
  cases a with
  | inl i =>
    cases b with
    | inl j =>
      show decide (([0, i] : List Int) < [0, j]) = decide (i < j)
      rw [decide_eq_decide, List.cons_lt_cons_iff, List.cons_lt_cons_iff]
      simp
    | inr t => cases hk
  | inr s =>
    cases b with
    | inl j => cases hk
    | inr t =>
      show decide (((1 : Int) :: s.cps.toList.map fun c : Nat => (c : Int)) < 1 :: t.cps.toList.map fun c : Nat => (c : Int)) = decide (s.cps.toList < t.cps.toList)
      rw [decide_eq_decide, List.cons_lt_cons_iff, castL_lt]
      simp

section
variable {P : Program} {w : World} {A : Around} {E : Value → Shared → Prop} {s : Shared}
theorem mix_shape {k : Key} {v : Value} (h : (mixKind P w).is k v = true) : (∃ i t, k = .inl i ∧ v = Value.int i t) ∨ ∃ x t, k = .inr x ∧ v = Value.str x t := by
  rcases flat_of_mix h with ⟨i, t, rfl⟩ | ⟨x, t, rfl⟩
  · exact .inl ⟨i, t, (mixKind P w).inj _ _ _ h (mixKind_int P w i t), rfl⟩
  · exact .inr ⟨x, t, (mixKind P w).inj _ _ _ h (mixKind_str P w x t), rfl⟩
theorem lex_mix {b : Bool} {Q : Bool → Shared → Prop} : ∀ {k m : List Key} {xs ys : List Value} (i : Nat), ItemsAre (mixKind P w) k xs → ItemsAre (mixKind P w) m ys → kinds k = kinds m → Q (klt k m) s → PySem.W.KatLex P w A b false Q (xs.zip ys) i s := by
  intro k m xs ys i hx
  induction hx generalizing m ys i with
  | nil =>
    intro hy hk q
    cases hy with
    | nil => exact PySem.W.kat_nil (by rw [klt_irr] at q; exact q)
    | cons _ _ => cases hk
  | @cons a v k xs h1 _ ih =>
    intro hy hk q
    cases hy with
    | nil => cases hk
    | @cons a' v' m ys h2 hy =>
      obtain ⟨hk1, hk2⟩ := List.cons.inj (show (kinds [a]).head! :: kinds k = (kinds [a']).head! :: kinds m from by cases a <;> cases a' <;> exact hk)
      have hk0 : kinds [a] = kinds [a'] := by cases a <;> cases a' <;> first | rfl | exact Bool.noConfusion (show true = false from hk1) | exact Bool.noConfusion (show false = true from hk1)
      show PySem.W.KatLex P w A b false Q ((v, v') :: xs.zip ys) i s
      rcases mix_shape h1 with ⟨j, t, rfl, rfl⟩ | ⟨x, t, rfl, rfl⟩
      · rcases mix_shape h2 with ⟨j', t', rfl, rfl⟩ | ⟨x', t', rfl, rfl⟩
        · refine PySem.W.kat_cons (wpAny_eqBool_int ?_)
          by_cases e : j = j'
          · subst e
            rw [beq_self_eq_true]
            rw [klt_same] at q
            exact PySem.W.kat_yes (ih (i + 1) hy hk2 q)
          · rw [show (j == j') = false from beq_eq_false_iff_ne.mpr e]
            rw [klt_head (fun z => e (Sum.inl.inj z)) rfl] at q
            exact PySem.W.kat_no (oneLt_any_int q)
        · exact Bool.noConfusion (show true = false from hk1)
      · rcases mix_shape h2 with ⟨j', t', rfl, rfl⟩ | ⟨x', t', rfl, rfl⟩
        · exact Bool.noConfusion (show false = true from hk1)
        · refine PySem.W.kat_cons (wpAny_eqBool_str ?_)
          by_cases e : x = x'
          · subst e
            rw [decide_eq_true rfl]
            rw [klt_same] at q
            exact PySem.W.kat_yes (ih (i + 1) hy hk2 q)
          · rw [decide_eq_false e]
            rw [klt_head (fun z => e (Sum.inr.inj z)) rfl] at q
            exact PySem.W.kat_no (oneLt_any_str q)
/-- the items: tuples whose keys f tells, all of the same kinds, none empty -/
def SortM (P : Program) (w : World) (h : Heap) (f : Value → List Key) (S : List Bool) (vs : List Value) : Prop := S ≠ [] ∧ ∀ v ∈ vs, ∃ a, v = .ref a ∧ IsM P w h (f v) a ∧ kinds (f v) = S
theorem SortM.sortable {a : Addr} {f : Value → List Key} {S : List Bool} {vs : List Value} (h0 : 0 < vs.length) (x : SortM P w s.heap f S vs) (ha : ∀ o, s.heap.get? a = some o → o.cls ≠ .type "tuple") : SrtO.SortableO P w A s a vs fun u v => klt (f u) (f v) := by
  intro h2 keep
  obtain ⟨hS, x⟩ := x
  have on : ∀ v ∈ vs, ∃ b, v = .ref b ∧ IsM P w h2 (f v) b ∧ kinds (f v) = S := fun v hv => by
    obtain ⟨b, e, ⟨o, its, n, g, c, r⟩, k⟩ := x v hv
    exact ⟨b, e, ⟨o, its, n, keep b o (fun z => ha o (by rw [← z]; exact g) c) g, c, r⟩, k⟩
  have firsts : ∀ l : List Value, (∀ v ∈ l, ∃ b, v = .ref b ∧ IsM P w h2 (f v) b ∧ kinds (f v) = S) → ∃ fs, PySem.W.KatTups h2 l fs ∧ fs.length = l.length ∧ ∀ u ∈ fs, ∃ k, (mixKind P w).is k u = true ∧ (kinds [k]).head? = S.head? := by
    intro l
    induction l with
    | nil => exact fun _ => ⟨[], PySem.W.KatTups.nil, rfl, fun u hu => absurd hu (by simp)⟩
    | cons v l ih =>
      intro hl
      obtain ⟨fs, t, e, hf⟩ := ih fun u hu => hl u (List.mem_cons_of_mem _ hu)
      obtain ⟨b, rfl, ⟨o, its, n, g, c, d, i⟩, k⟩ := hl v List.mem_cons_self
      generalize f (Value.ref b) = kk at i k
      cases i' : its.toList with
      | nil =>
        rw [i'] at i
        cases i
        exact absurd k.symm hS
      | cons u us =>
        rw [i'] at i
        cases i with
        | @cons k0 _ ks _ h1 h2 =>
          have g0 : its[0]? = some u := by rw [← Array.getElem?_toList, i']; rfl
          refine ⟨u :: fs, PySem.W.KatTups.cons g c d g0 t, by rw [List.length_cons, List.length_cons, e], fun y hy => ?_⟩
          rcases List.mem_cons.mp hy with z | z
          · rw [z]; exact ⟨k0, h1, by rw [← k]; cases k0 <;> rfl⟩
          · exact hf y z
  obtain ⟨fs, t, e, hf⟩ := firsts vs on
  refine ⟨tuples' true, fun Q E' q => ?_, fun p q hp hq => ?_⟩
  · obtain ⟨T, hT, eT⟩ : ∃ T : String, (T = "int" ∨ T = "str") ∧ ∀ u ∈ fs, PySem.W.Looks (model P w) h2 (typeOf u) (.type T) := by
      obtain ⟨c, S', rfl⟩ : ∃ c S', S = c :: S' := by
        cases S with
        | nil => exact absurd rfl hS
        | cons c S' => exact ⟨c, S', rfl⟩
      refine ⟨if c then "int" else "str", by cases c <;> simp, fun u hu => ?_⟩
      obtain ⟨k, h1, h3⟩ := hf u hu
      rcases mix_shape h1 with ⟨j, tk, rfl, rfl⟩ | ⟨y, tk, rfl, rfl⟩
      · have ec : c = true := (Option.some.inj h3).symm
        subst ec
        exact PySem.W.Looks.now
      · have ec : c = false := (Option.some.inj h3).symm
        subst ec
        exact PySem.W.Looks.now
    refine PySem.W.kat_kind (T := .type T) t (by omega) eT (by rcases hT with rfl | rfl <;> rfl) ?_
    have ne : (Value.type T != Value.type "tuple") = true := by rcases hT with rfl | rfl <;> decide
    rw [ne]
    exact q
  · obtain ⟨b, e1, ⟨o, its, n, g, c, d, i⟩, k⟩ := on p.1 hp
    obtain ⟨b', e2, ⟨o', its', n', g', c', d', i'⟩, k'⟩ := on q.1 hq
    show wpAny (model P w) A (keyLt' (tuples' true) p.1 q.1) (fun r s' => s' = _ ∧ r = klt (f p.1) (f q.1)) (fun _ _ => False) _
    generalize f p.1 = kp at i k
    generalize f q.1 = kq at i' k'
    rw [e1, e2]
    refine PySem.W.kat_lt g d g' d' ?_
    have l1 := i.length
    have l2 := i'.length
    have l3 : kp.length = kq.length := by
      have z := congrArg List.length (k.trans k'.symm)
      unfold kinds at z
      rwa [List.length_map, List.length_map] at z
    have sz : decide (its.size < its'.size) = false := by
      have l4 : its.toList.length = its.size := Array.length_toList
      have l5 : its'.toList.length = its'.size := Array.length_toList
      exact decide_eq_false (by omega)
    rw [sz]
    exact lex_mix 0 i i' (k.trans k'.symm) ⟨rfl, rfl⟩
end
end MS

/-! MSd: set(xs), sorted(set(xs)) (printed by gen/genset.py: MSd to stdout, MSe to its argument). -/
namespace MS
open PySem PySem.Spec PyProof.Rows L2

section
variable {P : Program} {w : World} {A : Around} {E : Value → Shared → Prop} {s : Shared}

set_option maxRecDepth 100000 in
set_option maxHeartbeats 3200000 in
/-- set(xs), xs a List -/
theorem make_List {l : Addr} {items : Array Value} (ks : List Row) {Q : Value → Shared → Prop} (hh : A.handled = none) (hl : s.heap.IsList l items) (hit : items.toList = ks.map fun p => Value.ref p.1) (key : ∀ p ∈ ks, IsM P w s.heap p.2 p.1) (few : ks.length < 64) (hu : A.units + 3 < cLine)
    (q : ∀ (h2 : Heap) (tk : Nat) L es ep t, Mst P w h2 s.heap.objs.size L es ep t → Has ks ks.length L → (∀ b o, s.heap.get? b = some o → h2.get? b = some o) → Q (.ref s.heap.objs.size) { s with heap := h2, toks := tk }) :
    wpAny (model P w) A (call (.type "set") [.ref l]) Q E s := by
  have isz : items.size = ks.length := by rw [← Array.length_toList, hit, List.length_map]
  have at_ : ∀ (i : Nat) (v : Value), items[i]? = some v → ∃ p, ks[i]? = some p ∧ v = .ref p.1 := fun i v hv => by
    rw [← Array.getElem?_toList, hit, List.getElem?_map] at hv
    obtain ⟨p, e1, e2⟩ := Option.map_eq_some_iff.mp hv
    exact ⟨p, e1, e2.symm⟩
  obtain ⟨c, tl, m0⟩ := F.called_set.mro
  have m1 := F.called_set.made; have m2 := F.called_set.sub; have m3 := F.called_set.notType; have m4 := F.called_set.canCreate; have m5 := F.typeCall_set_1 (.ref l)
  refine wpAny_call (codeAny_of_tree (show wpAny _ _ (callAny (.type "set") _) _ _ _ from wpAny_pure ⟨Code.quiet_builtin _ (by decide +kernel), codeAny_builtin F.entry_type_call ?_⟩))
  rw [Around.under_plain (weight_type_call_type "set" [.ref l] []) rfl]
  repeat (any_goals (first | assumption | wp_step))
  refine codeAny_mono (code_set_led1 (.ref l) (E := E) (Q₁ := fun u s1 => u = .ref s.heap.objs.size ∧ s1 = { s with heap := s.heap.push (set0 w) }) ⟨rfl, rfl⟩) fun r s1 hr => ?_
  rcases r with e | fl
  · exact hr
  cases fl with
  | ret u =>
    obtain ⟨rfl, rfl⟩ := hr
    have S0 : (s.heap.push (set0 w)).get? s.heap.objs.size = some (set0 w) := Heap.get?_push_size _ rfl
    have T0 : Shared.TypeIs { s with heap := s.heap.push (set0 w) } (.ref s.heap.objs.size) "set" := ⟨_, S0, rfl⟩
    have m6 := F.called_set.init.lookup; have m7 := F.called_set.init.bind (.ref s.heap.objs.size)
    repeat (any_goals (first | assumption | wp_step))
    refine codeAny_mono (codeAny_call_builtin (R := wants (fun r s2 => r = .none ∧ ∃ h2 tk L es ep t, s2 = { s with heap := h2, toks := tk } ∧ Mst P w h2 s.heap.objs.size L es ep t ∧ Has ks ks.length L ∧ ∀ b o, s.heap.get? b = some o → h2.get? b = some o) E)
      F.called_set.init.plain F.entry_set_init (check_set_init_1 T0 ?_)) fun r2 s2 hr2 => ?_
    · obtain ⟨⟨oc, od, odt, osl⟩, ho, hc, nl, hd⟩ := hl
      simp only at hc hd
      subst hc; subst hd
      have g1 : (s.heap.push (set0 w)).get? l = some { cls := .type "list", dict := od, data := .seq items nl, slots := osl } := Heap.get?_push_of_some _ ho
      have m8 := F.sub_list_set; have m9 := F.sub_list_frozenset; have ma : (Value.type "list" == Value.type "dict") = false := by decide
      have L1 : (s.heap.push (set0 w)).IsList l items := ⟨_, g1, rfl, nl, rfl⟩
      unfold Builtin.«set.__init__» noKeywords Builtin.Frozenset.updateFrom
      generalize hPI : pyIter = PI
      wp_walk
      subst hPI
      refine wpAny_pyIter_list L1 (wpAny_bind (wpAny_runValue ?_))
      have lt : l < s.heap.objs.size := Heap.lt_size ho
      have z1 : (s.heap.push (set0 w)).objs.size = s.heap.objs.size + 1 := Heap.size_push ..
      have ne : l ≠ (s.heap.push (set0 w)).objs.size := by rw [z1]; exact Nat.ne_of_lt (Nat.lt_succ_of_lt lt)
      have out : s.heap.objs.size ∉ [(s.heap.push (set0 w)).objs.size, l] := by
        rw [z1]; intro z
        rcases List.mem_cons.mp z with z | z
        · exact absurd z (Nat.ne_of_lt (Nat.lt_succ_self _))
        · exact absurd (List.mem_singleton.mp z) (Nat.ne_of_gt lt)
      have gone : ∀ b, s.heap.objs.size ≤ b → s.heap.get? b = none := fun b hb => by
        cases z : s.heap.get? b with
        | none => rfl
        | some o => exact absurd (Nat.lt_of_lt_of_le (Heap.lt_size z) hb) (Nat.lt_irrefl _)
      refine fill ((Walks.list (show A.in1.in1.in1.handled = none by simp [hh]) _ l ne items).toS) s.heap.objs.size out ks isz few at_ s.heap key (gone _ (Nat.le_refl _)) (fun b hb => gone b (by rw [List.mem_singleton.mp hb, z1]; exact Nat.le_succ _)) hu (items.size - 0) 0 _ (by omega) (Nat.zero_le _)
        ⟨⟨_, Heap.get?_push_size _ rfl, rfl, rfl⟩, L1.push _⟩ (fun b o e => Heap.get?_push_of_some _ (Heap.get?_push_of_some _ e)) ?first ?last
      case first => exact ⟨[], #[], 0, _, mst0 (Heap.get?_push_of_some _ S0), fun p h => absurd h (by simp), fun p h => absurd h (by simp), Nat.le_refl _⟩
      case last =>
        rintro ⟨h2, g2, d2, tk2, os2⟩ L es ep t mv M2 H2 kp
        obtain rfl : g2 = s.gens := mv.gens
        obtain rfl : d2 = s.drawn := mv.drawn
        obtain rfl : os2 = s.os := mv.os
        rw [isz] at H2
        exact show wpAny _ _ _ _ _ _ from wpAny_pure (show wpAny _ _ (ret Value.none) _ _ _ from wpAny_pure ⟨rfl, h2, tk2, L, es, ep, t, rfl, M2, H2, kp⟩)
    · rcases r2 with e | fl2
      · exact hr2
      cases fl2 with
      | ret r =>
        obtain ⟨rfl, h2, tk, L, es, ep, t, rfl, M2, H2, kp⟩ := hr2
        repeat (any_goals (first | assumption | wp_step))
        exact q _ _ _ _ _ _ M2 H2 kp
      | _ => exact hr2.elim
  | _ => exact hr.elim

set_option maxRecDepth 100000 in
set_option maxHeartbeats 3200000 in
/-- set(xs), xs a Tuple -/
theorem make_Tuple {l : Addr} {items : Array Value} (ks : List Row) {Q : Value → Shared → Prop} (hh : A.handled = none) (hl : s.heap.IsTuple l items) (hit : items.toList = ks.map fun p => Value.ref p.1) (key : ∀ p ∈ ks, IsM P w s.heap p.2 p.1) (few : ks.length < 64) (hu : A.units + 3 < cLine)
    (q : ∀ (h2 : Heap) (tk : Nat) L es ep t, Mst P w h2 s.heap.objs.size L es ep t → Has ks ks.length L → (∀ b o, s.heap.get? b = some o → h2.get? b = some o) → Q (.ref s.heap.objs.size) { s with heap := h2, toks := tk }) :
    wpAny (model P w) A (call (.type "set") [.ref l]) Q E s := by
  have isz : items.size = ks.length := by rw [← Array.length_toList, hit, List.length_map]
  have at_ : ∀ (i : Nat) (v : Value), items[i]? = some v → ∃ p, ks[i]? = some p ∧ v = .ref p.1 := fun i v hv => by
    rw [← Array.getElem?_toList, hit, List.getElem?_map] at hv
    obtain ⟨p, e1, e2⟩ := Option.map_eq_some_iff.mp hv
    exact ⟨p, e1, e2.symm⟩
  obtain ⟨c, tl, m0⟩ := F.called_set.mro
  have m1 := F.called_set.made; have m2 := F.called_set.sub; have m3 := F.called_set.notType; have m4 := F.called_set.canCreate; have m5 := F.typeCall_set_1 (.ref l)
  refine wpAny_call (codeAny_of_tree (show wpAny _ _ (callAny (.type "set") _) _ _ _ from wpAny_pure ⟨Code.quiet_builtin _ (by decide +kernel), codeAny_builtin F.entry_type_call ?_⟩))
  rw [Around.under_plain (weight_type_call_type "set" [.ref l] []) rfl]
  repeat (any_goals (first | assumption | wp_step))
  refine codeAny_mono (code_set_led1 (.ref l) (E := E) (Q₁ := fun u s1 => u = .ref s.heap.objs.size ∧ s1 = { s with heap := s.heap.push (set0 w) }) ⟨rfl, rfl⟩) fun r s1 hr => ?_
  rcases r with e | fl
  · exact hr
  cases fl with
  | ret u =>
    obtain ⟨rfl, rfl⟩ := hr
    have S0 : (s.heap.push (set0 w)).get? s.heap.objs.size = some (set0 w) := Heap.get?_push_size _ rfl
    have T0 : Shared.TypeIs { s with heap := s.heap.push (set0 w) } (.ref s.heap.objs.size) "set" := ⟨_, S0, rfl⟩
    have m6 := F.called_set.init.lookup; have m7 := F.called_set.init.bind (.ref s.heap.objs.size)
    repeat (any_goals (first | assumption | wp_step))
    refine codeAny_mono (codeAny_call_builtin (R := wants (fun r s2 => r = .none ∧ ∃ h2 tk L es ep t, s2 = { s with heap := h2, toks := tk } ∧ Mst P w h2 s.heap.objs.size L es ep t ∧ Has ks ks.length L ∧ ∀ b o, s.heap.get? b = some o → h2.get? b = some o) E)
      F.called_set.init.plain F.entry_set_init (check_set_init_1 T0 ?_)) fun r2 s2 hr2 => ?_
    · obtain ⟨⟨oc, od, odt, osl⟩, ho, hc, nl, hd⟩ := hl
      simp only at hc hd
      subst hc; subst hd
      have g1 : (s.heap.push (set0 w)).get? l = some { cls := .type "tuple", dict := od, data := .seq items nl, slots := osl } := Heap.get?_push_of_some _ ho
      have m8 := F.sub_tuple_set; have m9 := F.sub_tuple_frozenset; have ma : (Value.type "tuple" == Value.type "dict") = false := by decide
      have L1 : (s.heap.push (set0 w)).IsTuple l items := ⟨_, g1, rfl, nl, rfl⟩
      unfold Builtin.«set.__init__» noKeywords Builtin.Frozenset.updateFrom
      generalize hPI : pyIter = PI
      wp_walk
      subst hPI
      refine wpAny_pyIter_tuple L1 (wpAny_bind (wpAny_runValue ?_))
      have lt : l < s.heap.objs.size := Heap.lt_size ho
      have z1 : (s.heap.push (set0 w)).objs.size = s.heap.objs.size + 1 := Heap.size_push ..
      have ne : l ≠ (s.heap.push (set0 w)).objs.size := by rw [z1]; exact Nat.ne_of_lt (Nat.lt_succ_of_lt lt)
      have out : s.heap.objs.size ∉ [(s.heap.push (set0 w)).objs.size, l] := by
        rw [z1]; intro z
        rcases List.mem_cons.mp z with z | z
        · exact absurd z (Nat.ne_of_lt (Nat.lt_succ_self _))
        · exact absurd (List.mem_singleton.mp z) (Nat.ne_of_gt lt)
      have gone : ∀ b, s.heap.objs.size ≤ b → s.heap.get? b = none := fun b hb => by
        cases z : s.heap.get? b with
        | none => rfl
        | some o => exact absurd (Nat.lt_of_lt_of_le (Heap.lt_size z) hb) (Nat.lt_irrefl _)
      refine fill ((Walks.tuple (show A.in1.in1.in1.handled = none by simp [hh]) _ l ne items).toS) s.heap.objs.size out ks isz few at_ s.heap key (gone _ (Nat.le_refl _)) (fun b hb => gone b (by rw [List.mem_singleton.mp hb, z1]; exact Nat.le_succ _)) hu (items.size - 0) 0 _ (by omega) (Nat.zero_le _)
        ⟨⟨_, Heap.get?_push_size _ rfl, rfl, rfl⟩, L1.push _⟩ (fun b o e => Heap.get?_push_of_some _ (Heap.get?_push_of_some _ e)) ?first ?last
      case first => exact ⟨[], #[], 0, _, mst0 (Heap.get?_push_of_some _ S0), fun p h => absurd h (by simp), fun p h => absurd h (by simp), Nat.le_refl _⟩
      case last =>
        rintro ⟨h2, g2, d2, tk2, os2⟩ L es ep t mv M2 H2 kp
        obtain rfl : g2 = s.gens := mv.gens
        obtain rfl : d2 = s.drawn := mv.drawn
        obtain rfl : os2 = s.os := mv.os
        rw [isz] at H2
        exact show wpAny _ _ _ _ _ _ from wpAny_pure (show wpAny _ _ (ret Value.none) _ _ _ from wpAny_pure ⟨rfl, h2, tk2, L, es, ep, t, rfl, M2, H2, kp⟩)
    · rcases r2 with e | fl2
      · exact hr2
      cases fl2 with
      | ret r =>
        obtain ⟨rfl, h2, tk, L, es, ep, t, rfl, M2, H2, kp⟩ := hr2
        repeat (any_goals (first | assumption | wp_step))
        exact q _ _ _ _ _ _ M2 H2 kp
      | _ => exact hr2.elim
  | _ => exact hr.elim

end
end MS

/-! MSe: sorted(set(xs)) (printed by gen/genset.py). -/
namespace MS
open PySem PySem.Spec PyProof.Rows L2

section
variable {P : Program} {w : World} {A : Around} {E : Value → Shared → Prop} {s : Shared}

/-- sorted(set) -/
theorem sort_set {a : Addr} {L : List Row} {es : Array (Int × Value)} {ep : Nat} {t : SetTable} {Q : Value → Shared → Prop} (R : Mst P w s.heap a L es ep t) (hh : A.handled = none) {S : List Bool} (hS : S ≠ []) (hk : ∀ p ∈ L, kinds p.2 = S)
    (q : ∀ s2 p (out : List Value) (c : Nat) (L2 : List Row), (∀ b o, s.heap.get? b = some o → s2.heap.get? b = some o) → s2.gens = s.gens → s2.os = s.os → s.heap.objs.size ≤ p → s2.heap.get? p = some (seqObj "list" out.toArray c) → out = L2.map (fun r => Value.ref r.1) →
      L2.Perm L → SrtO.Srtd (fun r r' => klt r.2 r'.2) L2 → Q (.ref p) s2) : wpAny (model P w) A (call (.builtin "sorted") [.ref a]) Q E s := by
  obtain ⟨o, ho, ex, hd⟩ := R.at_
  have n1 := R.sz
  have n2 := R.fw
  refine Calls.call_function_entry kind_sorted plain_sorted entry_sorted (args_sorted1 _) ?_
  unfold Builtin.«sorted»
  refine wpAny_bind (m := checkCount "sorted" 1 1 _) (wpAny_pure (wpAny_bind (collect_set (A := A.in1) hh ⟨o, ho, ex.1, hd⟩ R.fit (by unfold scanBound; omega) R.tok.ris R.ld fun s1 vs k1 z1 g1 o1 pm => ?_)))
  have rows : es.toList.map (·.2) = L.map fun r => Value.ref r.1 := by
    rw [R.row, rws, List.map_map]; rfl
  rw [rows] at pm
  have nL : vs.length = L.length := by rw [pm.length_eq, List.length_map]
  -- the key of an object
  have one : ∀ p ∈ L, ∀ r ∈ L, p.1 = r.1 → p = r := fun p hp r hr e => Prod.ext e ((show IsM P w s.heap p.2 r.1 from e ▸ R.key p hp).inj (R.key r hr))
  let f : Value → List Key := fun v => match v with
    | .ref b => ((L.find? fun r => r.1 == b).map (·.2)).getD []
    | _ => []
  have fk : ∀ p ∈ L, f (.ref p.1) = p.2 := fun p hp => by
    show ((L.find? fun r => r.1 == p.1).map (·.2)).getD [] = p.2
    cases z : L.find? fun r => r.1 == p.1 with
    | none => exact absurd (List.find?_eq_none.mp z p hp) (by simp)
    | some r =>
      have h1 := List.find?_some z
      rw [one r (List.mem_of_find?_eq_some z) p hp (by simpa using h1)]
      rfl
  refine wpAny_bind (wpAny_newList ?_ (by rw [nL, sizeLine_eq]; omega))
  have gL : (s1.heap.push (seqObj "list" vs.toArray 0)).get? s1.heap.objs.size = some (seqObj "list" vs.toArray 0) := Heap.get?_push_size _ rfl
  have of : ∀ v ∈ vs, ∃ p ∈ L, v = .ref p.1 := fun v hv => by
    obtain ⟨p, hp, e⟩ := List.mem_map.mp (pm.mem_iff.mp hv)
    exact ⟨p, hp, e.symm⟩
  have ok : SortM P w (s1.heap.push (seqObj "list" vs.toArray 0)) f S vs := ⟨hS, fun v hv => by
    obtain ⟨p, hp, rfl⟩ := of v hv
    refine ⟨p.1, rfl, ?_, ?_⟩
    · rw [fk p hp]; exact key_up (R.key p hp) fun b u e => Heap.get?_push_of_some _ (k1 b u e)
    · rw [fk p hp]; exact hk p hp⟩
  refine wpAny_bind (wpAny_holding (wpAny_call_entry slot_list_sort ⟨_, gL, rfl⟩ entry_list_sort (SrtO.list_sort_ord (s := { s1 with heap := s1.heap.push (seqObj "list" vs.toArray 0) }) (klt_swo f) gL (by rw [nL, sizeLine_eq]; omega)
    (fun h2 => SortM.sortable (by omega) ok fun u e c => ?_) fun out a1 a2 => ⟨_, rfl, ?_⟩) (args_list_sort _)))
  · rw [gL] at e
    cases e
    exact absurd (Value.type.inj c) (by decide)
  obtain ⟨c, hc⟩ := sortedHeap_at (vs := vs) (out := out.toArray) gL
  have back : ∀ l : List Value, (∀ v ∈ l, ∃ p ∈ L, v = .ref p.1) → ∃ L2 : List Row, l = L2.map (fun r => Value.ref r.1) ∧ ∀ r ∈ L2, r ∈ L := by
    intro l
    induction l with
    | nil => exact fun _ => ⟨[], rfl, fun r hr => absurd hr (by simp)⟩
    | cons v l ih =>
      intro hl
      obtain ⟨p, hp, e⟩ := hl v List.mem_cons_self
      obtain ⟨L2, e2, m2⟩ := ih fun u hu => hl u (List.mem_cons_of_mem _ hu)
      refine ⟨p :: L2, by rw [List.map_cons, e, e2], fun r hr => ?_⟩
      rcases List.mem_cons.mp hr with z | z
      · rw [z]; exact hp
      · exact m2 r z
  obtain ⟨L2, e2, m2⟩ := back out fun v hv => of v (a2.perm.mem_iff.mp hv)
  have inj : ∀ l : List Row, (∀ r ∈ l, r ∈ L) → (l.map fun r => Value.ref r.1).Nodup → l.Nodup := fun l _ h => nodup_of_map h
  have nd : (L.map fun r => Value.ref r.1).Nodup := by
    refine List.pairwise_map.mpr (List.Pairwise.imp_of_mem (fun {p r} hp hr hne e => ?_) (nodup_of_map R.dif))
    injection e with e
    exact hne (one p hp r hr e)
  have pp : (L2.map fun r => Value.ref r.1).Perm (L.map fun r => Value.ref r.1) := by rw [← e2]; exact a2.perm.trans pm
  have p2 : L2.Perm L := by
    refine (List.perm_ext_iff_of_nodup (inj L2 m2 (pp.nodup_iff.mpr nd)) (nodup_of_map R.dif)).mpr fun r => ⟨m2 r, fun hr => ?_⟩
    obtain ⟨r', h1, e⟩ := List.mem_map.mp (pp.mem_iff.mpr (List.mem_map.mpr ⟨r, hr, rfl⟩))
    injection e with e
    rw [← one r' (m2 r' h1) r hr e]
    exact h1
  have srt : SrtO.Srtd (fun r r' => klt r.2 r'.2) L2 := by
    rw [e2] at a1
    refine List.Pairwise.imp_of_mem (fun {p r} hp hr h => ?_) (List.pairwise_map.mp a1)
    show klt r.2 p.2 = false
    rw [← fk p (m2 p hp), ← fk r (m2 r hr)]
    exact h
  refine wpAny_pure ⟨_, rfl, q _ s1.heap.objs.size out c L2 (fun b u e => ?_) g1 o1 z1 hc e2 p2 srt⟩
  have lt := Heap.lt_size (k1 b u e)
  exact (sortedHeap_old (Nat.ne_of_lt lt) (by rw [size_push']; exact Nat.lt_succ_of_lt lt)).trans (Heap.get?_push_of_some _ (k1 b u e))
end

/-! ### as a rule of the hand layer -/
def rSS (K : PySem.W.Frag) : V → Hp → VK → Prop := fun x H Q => ∃ (l : Addr) (ks : List Row) (S : List Bool), x = .ref l ∧ (SqL K H l (ks.map fun p => V.ref p.1) ∨ SqT K H l (ks.map fun p => V.ref p.1)) ∧ (∀ p ∈ ks, SqT K H p.1 (p.2.map kV)) ∧ ks.length < 64 ∧ S ≠ [] ∧ (∀ p ∈ ks, kinds p.2 = S) ∧
  ∀ (L : List Row) (p : Addr), (∀ r ∈ L, r ∈ ks) → (∀ r ∈ ks, r.2 ∈ L.map Prod.snd) → (L.map Prod.snd).Nodup → SrtO.Srtd (fun r r' => klt r.2 r'.2) L → H p = none → Q (.ref p) (upd H p (.lst (L.map fun r => V.ref r.1)))
def tSS (K : PySem.W.Frag) (ta : TE) : TE := fun σ H Q => ta σ H fun x H1 => rSS K x H1 Q
section
variable {X : Cx}
theorem key_of {pins : List (Addr × Obj)} {σ : L2.St} {H : Hp} {s : Shared} {b : Addr} {k : List Key} (I : Inv X pins σ H s) (h : SqT X.K H b (k.map kV)) : IsM X.prog X.w s.heap k b := by
  obtain ⟨its, r, ⟨o, ho, hc, n, hd⟩, _⟩ := I.tuple h
  exact ⟨o, its.toArray, n, ho, hc, hd, items_are (by simpa using r)⟩
theorem refs_vals : ∀ {ks : List Row} {us : List Value}, Vals (ks.map fun p => V.ref p.1) us → us = ks.map fun p => Value.ref p.1
  | [], _, .nil => rfl
  | p :: ks, _, .cons r t => by cases r; rw [refs_vals t]; rfl
theorem vals_refs : ∀ ks : List Row, Vals (ks.map fun p => V.ref p.1) (ks.map fun p => Value.ref p.1)
  | [] => .nil
  | p :: ks => .cons rfl (vals_refs ks)
theorem pe_sortSet {a : Expr} {ta : TE} {p p2 q pos : Pos} (hc : X.calm = true) (hu : X.A.units + 64 < cLine) (hg : Gl X "sorted") (hm : X.mg "sorted" = none) (hg2 : Gl X "set") (hm2 : X.mg "set" = none) (ha : PE X a ta)
    (na : starEach [a] X.env = (false, eval a X.env) :: starEach [] X.env := by rfl) : PE X (.Call (.Name "sorted" p) [.Call (.Name "set" p2) [a] [] q] [] pos) (tSS X.K ta) := by
  refine ⟨fun pins s σ H Q I h => ?_⟩
  refine Call_ (ld_blt I hg hm (u := .builtin "sorted") (by first | rfl | decide +kernel) ?_)
  refine PyProof.Rows.callWith_builtin1 (PyProof.Rows.args_cons ?_ rfl) rfl rfl
  refine Call_ (ld_blt I hg2 hm2 (u := .type "set") (by first | rfl | decide +kernel) ?_)
  refine PyProof.Rows.callWith_type1 (PyProof.Rows.args_cons (thn (ha.run pins s σ H _ I h) fun v s1 ⟨x, H1, I1, r1, q1⟩ => PyProof.Rows.args_nil ?_) na) na rfl
  obtain ⟨l, ks, S, rfl, hq, hk, few, hS, kd, q1⟩ := q1
  cases r1
  have fin : ∀ (h2 : Heap) (tk : Nat) L es ep t, Mst X.prog X.w h2 s1.heap.objs.size L es ep t → Has ks ks.length L → (∀ b o, s1.heap.get? b = some o → h2.get? b = some o) →
      wpAny (model X.prog X.w) X.A (spliced (backTo pos (starEach [] X.env))) (fun vs s2 => wpAny (model X.prog X.w) X.A (call (.builtin "sorted") (Value.ref s1.heap.objs.size :: vs)) (EP X pins σ Q) X.xe s2) X.xe { s1 with heap := h2, toks := tk } := fun h2 tk L es ep t M Hs kp => by
    refine PyProof.Rows.args_nil ?_
    have I2 : Inv X pins σ H1 { s1 with heap := h2, toks := tk } := I1.kept kp
    have sub : ∀ r ∈ L, r ∈ ks := fun r hr => List.mem_of_mem_take (Hs.of r hr)
    refine sort_set M (I2.ok.hd hc) hS (fun r hr => kd r (sub r hr)) fun s3 p out c L2 kp3 g3 o3 le hp eo pm srt => ?_
    have hn : H1 p = none := I2.hok.fresh le
    have hl : (L2.map fun r => V.ref r.1).length ≤ sizeLine := by
      have z := M.fw
      rw [List.length_map, pm.length_eq, sizeLine_eq]
      omega
    have J : Inv X pins σ (upd H1 p (.lst (L2.map fun r => V.ref r.1))) { ({ s1 with heap := h2, toks := tk } : Shared) with heap := s3.heap, gens := s3.gens, drawn := s3.drawn, toks := s3.toks } :=
      I2.call (ch := []) (Un.laid kp3 le hn) (I2.hok.laid kp3 le ⟨hl, out, c, by rw [eo]; exact vals_refs L2, hp⟩) (by rw [g3]; exact I2.bare) (fun _ z => nomatch z)
    have e : s3 = { ({ s1 with heap := h2, toks := tk } : Shared) with heap := s3.heap, gens := s3.gens, drawn := s3.drawn, toks := s3.toks } := by
      obtain ⟨_, _, _, _, _⟩ := s3
      cases (show _ = s1.os from o3)
      rfl
    rw [e]
    refine ⟨.ref p, _, J, rfl, q1 L2 p (fun r hr => sub r (pm.mem_iff.mp hr)) (fun r hr => ?_) ((pm.map _).nodup_iff.mpr M.dif) srt hn⟩
    exact (pm.map _).mem_iff.mpr (Hs.to r (by rw [List.take_length]; exact hr))
  rcases hq with hq | hq
  · obtain ⟨its, r, pl, hz⟩ := I1.list hq
    exact make_List ks (I1.ok.hd hc) pl.isList (by simpa using refs_vals r) (fun p hp => key_of I1 (hk p hp)) few (by omega) fin
  · obtain ⟨its, r, pl, hz⟩ := I1.tuple hq
    exact make_Tuple ks (I1.ok.hd hc) pl (by simpa using refs_vals r) (fun p hp => key_of I1 (hk p hp)) few (by omega) fin
end
end MS

/-! DMa: more operators on data: repeated texts and lists, == and < of tuples, sorted, sets, tuple(..), chains, not. -/
namespace DL
open PySem L2

/-! ### s * n, xs * n -/
def repStr (s : Str) (n : Nat) : Str := ⟨(List.replicate n s.cps).foldl (· ++ ·) #[]⟩
def rRepS : R2 := fun x y H Q => ∃ (s : Str) (n : Nat), x = .str s ∧ y = .int n ∧ 2 ≤ n ∧ n ≤ 1000 ∧ 1 ≤ s.length ∧ s.length ≤ 100 ∧ Q (.str (repStr s n)) H
theorem op_repS {X : Cx} : OpR X (binaryOp .Mult) rRepS := by
  intro pins s σ H x y v u Q I rx ry h
  obtain ⟨z, n, rfl, rfl, n1, n2, l1, l2, q⟩ := h
  obtain ⟨t, rfl⟩ := rx
  obtain ⟨t', rfl⟩ := ry
  have m1 : ¬ (n : Int) < 1 := by omega
  have m2 : ((n : Int) == 1 || z.length == 0) = false := by
    rw [Bool.or_eq_false_iff, beq_eq_false_iff_ne, beq_eq_false_iff_ne]; omega
  have mul : z.length * n ≤ 100 * 1000 := Nat.mul_le_mul l2 n2
  have mul2 : n * z.length ≤ 100 * 1000 := by rw [Nat.mul_comm]; exact mul
  have lim : (100 * 1000 : Nat) ≤ sizeLine := by rw [sizeLine_eq]; decide
  refine PySem.P.mul_str (by rw [Bool.or_eq_false_iff, decide_eq_false_iff_not, decide_eq_false_iff_not]; omega) (fun _ _ => ?_) (fun _ _ => ?_) ?_
  · have e : (100 : Int) ≤ (2 ^ 63 - 1) / n := Int.le_ediv_of_mul_le (by omega) (by omega)
    omega
  · unfold Builtin.Str.tooLong
    first
      | (rw [decide_eq_false_iff_not]; rw [Int.toNat_natCast]; omega)
      | (rw [Int.toNat_natCast]; simp; omega)
  · rw [if_neg m1, if_neg (by rw [m2]; decide)]
    have e : (⟨(List.replicate (n : Int).toNat z.cps).foldl (· ++ ·) #[]⟩ : Str) = repStr z n := by rw [Int.toNat_natCast]; rfl
    rw [e]
    have ln : (repStr z n).length = n * z.length := by
      have go : ∀ (m : Nat) (a : Array Nat), ((List.replicate m z.cps).foldl (· ++ ·) a).size = a.size + m * z.cps.size := by
        intro m
        induction m with
        | zero => intro a; simp
        | succ m ih => intro a; rw [List.replicate_succ, List.foldl_cons, ih, Array.size_append, Nat.succ_mul]; omega
      unfold repStr
      show ((List.replicate n z.cps).foldl (· ++ ·) #[]).size = n * z.cps.size
      rw [go]; simp
    exact ⟨by rw [ln]; omega, .str _, H, I.tok _, ⟨_, rfl⟩, q⟩
def gRepS : Dt → Dt → Option R := fun x y => match x, y with
  | .str s, .int n => if 2 ≤ n ∧ n ≤ 1000 ∧ 1 ≤ s.length ∧ s.length ≤ 100 then some (.val (.str (repStr s n.toNat))) else none
  | _, _ => none
def gRepL : Dt → Dt → Option R := fun x y => match x, y with
  | .lst a, .int n => if 0 ≤ n ∧ n ≤ 1000 ∧ a.length ≤ 100 then some (.new (.lst (List.replicate n.toNat a).flatten)) else none
  | _, _ => none
section
variable {K : PySem.W.Frag} {mg : Str → Option Value}
theorem os_repS : OpS K mg rRepS gRepS := fun L H x y dx dy rv Q tr rx ry h k => by
  unfold gRepS at h
  split at h
  · rename_i s n
    split at h
    · rename_i c
      cases h
      refine ⟨s, n.toNat, rx.str, by rw [ry.int, Int.toNat_of_nonneg (by omega)], by omega, by omega, c.2.2.1, c.2.2.2, k _ H (.refl H) (.str _)⟩
    · cases h
  · cases h
theorem RepA.rep {G : Hp} {vs : List V} {ds : List Dt} (r : RepA K mg G vs ds) : ∀ n : Nat, RepA K mg G (List.replicate n vs).flatten (List.replicate n ds).flatten
  | 0 => .nil
  | n + 1 => by
    rw [List.replicate_succ, List.replicate_succ, List.flatten_cons, List.flatten_cons]
    exact r.append (r.rep n)
theorem os_repL : OpS K mg rRep gRepL := fun L H x y dx dy rv Q tr rx ry h k => by
  unfold gRepL at h
  split at h
  · rename_i a n
    split at h
    · rename_i c
      cases h
      obtain ⟨p1, xs, rfl, h1, r1⟩ := rx.lst
      have mul : xs.length * n.toNat ≤ 100 * 1000 := Nat.mul_le_mul (by rw [r1.length]; exact c.2.2) (by omega)
      exact ⟨p1, n, xs, rfl, ry.int, h1, by omega, by omega, line_le (by unfold line; omega), fun p hp => k _ _ (.new hp) (new_lst tr hp (r1.rep _))⟩
    · cases h
  · cases h
end
def gTimes := gOr gMul (gOr gRepS gRepL)

/-! ### == of tuples of numbers and texts -/
mutual
def plT : Dt → Bool
  | .non => true
  | .int _ => true
  | .str _ => true
  | .tup xs => plA xs
  | .lst xs => plA xs
  | _ => false
def plA : List Dt → Bool
  | [] => true
  | d :: ds => plT d && plA ds
end
mutual
def eqT : Dt → Dt → Bool
  | .non, .non => true
  | .int a, .int b => decide (a = b)
  | .str a, .str b => decide (a = b)
  | .tup a, .tup b => eqTA a b
  | .lst a, .lst b => eqTA a b
  | _, _ => false
def eqTA : List Dt → List Dt → Bool
  | [], [] => true
  | a :: as, b :: bs => eqT a b && eqTA as bs
  | _, _ => false
end
mutual
theorem eqT_iff : ∀ {a b : Dt}, plT a = true → plT b = true → (eqT a b = true ↔ a = b)
  | .non, .non, _, _ => by unfold eqT; simp
  | .non, .int _, _, _ => by unfold eqT; simp
  | .non, .str _, _, _ => by unfold eqT; simp
  | .non, .tup _, _, _ => by unfold eqT; simp
  | .non, .lst _, _, _ => by unfold eqT; simp
  | .int _, .non, _, _ => by unfold eqT; simp
  | .int _, .int _, _, _ => by unfold eqT; simp
  | .int _, .str _, _, _ => by unfold eqT; simp
  | .int _, .tup _, _, _ => by unfold eqT; simp
  | .int _, .lst _, _, _ => by unfold eqT; simp
  | .str _, .non, _, _ => by unfold eqT; simp
  | .str _, .int _, _, _ => by unfold eqT; simp
  | .str _, .str _, _, _ => by unfold eqT; simp
  | .str _, .tup _, _, _ => by unfold eqT; simp
  | .str _, .lst _, _, _ => by unfold eqT; simp
  | .tup _, .non, _, _ => by unfold eqT; simp
  | .tup _, .int _, _, _ => by unfold eqT; simp
  | .tup _, .str _, _, _ => by unfold eqT; simp
  | .tup a, .tup b, h1, h2 => by
    unfold eqT
    unfold plT at h1 h2
    rw [eqTA_iff h1 h2]
    simp
  | .tup _, .lst _, _, _ => by unfold eqT; simp
  | .lst _, .non, _, _ => by unfold eqT; simp
  | .lst _, .int _, _, _ => by unfold eqT; simp
  | .lst _, .str _, _, _ => by unfold eqT; simp
  | .lst _, .tup _, _, _ => by unfold eqT; simp
  | .lst a, .lst b, h1, h2 => by
    unfold eqT
    unfold plT at h1 h2
    rw [eqTA_iff h1 h2]
    simp
  | .bl _, _, h, _ | .scr _, _, h, _ | .glob _, _, h, _ | .ins _ _, _, h, _ | .exc _ _, _, h, _ | .exc0 _, _, h, _ | .dic _, _, h, _ | .ty _, _, h, _ => by unfold plT at h; cases h
  | _, .bl _, _, h | _, .scr _, _, h | _, .glob _, _, h | _, .ins _ _, _, h | _, .exc _ _, _, h | _, .exc0 _, _, h | _, .dic _, _, h | _, .ty _, _, h => by unfold plT at h; cases h
theorem eqTA_iff : ∀ {a b : List Dt}, plA a = true → plA b = true → (eqTA a b = true ↔ a = b)
  | [], [], _, _ => by unfold eqTA; simp
  | [], _ :: _, _, _ => by unfold eqTA; simp
  | _ :: _, [], _, _ => by unfold eqTA; simp
  | a :: as, b :: bs, h1, h2 => by
    unfold plA at h1 h2
    rw [Bool.and_eq_true] at h1 h2
    unfold eqTA
    rw [Bool.and_eq_true, eqT_iff h1.1 h2.1, eqTA_iff h1.2 h2.2]
    simp
end
mutual
theorem eqv_T : ∀ {a b : Dt} {p q : PyData}, plT a = true → plT b = true → pyD a = some p → pyD b = some q → PyData.eqv p q = eqT a b
  | .non, .non, _, _, _, _, e1, e2 => by cases e1; cases e2; unfold PyData.eqv eqT; first | rfl | simp
  | .non, .int _, _, _, _, _, e1, e2 => by (cases e1); (cases e2); unfold PyData.eqv eqT; rfl
  | .non, .str _, _, _, _, _, e1, e2 => by (cases e1); (cases e2); unfold PyData.eqv eqT; rfl
  | .non, .tup _, _, _, _, _, e1, e2 => by (cases e1); (unfold pyD at e2; obtain ⟨qs, c2, rfl⟩ := Option.map_eq_some_iff.mp e2); unfold PyData.eqv eqT; rfl
  | .non, .lst _, _, _, _, _, e1, e2 => by (cases e1); (unfold pyD at e2; obtain ⟨qs, c2, rfl⟩ := Option.map_eq_some_iff.mp e2); unfold PyData.eqv eqT; rfl
  | .int _, .non, _, _, _, _, e1, e2 => by (cases e1); (cases e2); unfold PyData.eqv eqT; rfl
  | .int a, .int b, _, _, _, _, e1, e2 => by cases e1; cases e2; unfold PyData.eqv eqT; first | rfl | simp
  | .int _, .str _, _, _, _, _, e1, e2 => by (cases e1); (cases e2); unfold PyData.eqv eqT; rfl
  | .int _, .tup _, _, _, _, _, e1, e2 => by (cases e1); (unfold pyD at e2; obtain ⟨qs, c2, rfl⟩ := Option.map_eq_some_iff.mp e2); unfold PyData.eqv eqT; rfl
  | .int _, .lst _, _, _, _, _, e1, e2 => by (cases e1); (unfold pyD at e2; obtain ⟨qs, c2, rfl⟩ := Option.map_eq_some_iff.mp e2); unfold PyData.eqv eqT; rfl
  | .str _, .non, _, _, _, _, e1, e2 => by (cases e1); (cases e2); unfold PyData.eqv eqT; rfl
  | .str _, .int _, _, _, _, _, e1, e2 => by (cases e1); (cases e2); unfold PyData.eqv eqT; rfl
  | .str a, .str b, _, _, _, _, e1, e2 => by cases e1; cases e2; unfold PyData.eqv eqT; first | rfl | simp
  | .str _, .tup _, _, _, _, _, e1, e2 => by (cases e1); (unfold pyD at e2; obtain ⟨qs, c2, rfl⟩ := Option.map_eq_some_iff.mp e2); unfold PyData.eqv eqT; rfl
  | .str _, .lst _, _, _, _, _, e1, e2 => by (cases e1); (unfold pyD at e2; obtain ⟨qs, c2, rfl⟩ := Option.map_eq_some_iff.mp e2); unfold PyData.eqv eqT; rfl
  | .tup _, .non, _, _, _, _, e1, e2 => by (unfold pyD at e1; obtain ⟨ps, c1, rfl⟩ := Option.map_eq_some_iff.mp e1); (cases e2); unfold PyData.eqv eqT; rfl
  | .tup _, .int _, _, _, _, _, e1, e2 => by (unfold pyD at e1; obtain ⟨ps, c1, rfl⟩ := Option.map_eq_some_iff.mp e1); (cases e2); unfold PyData.eqv eqT; rfl
  | .tup _, .str _, _, _, _, _, e1, e2 => by (unfold pyD at e1; obtain ⟨ps, c1, rfl⟩ := Option.map_eq_some_iff.mp e1); (cases e2); unfold PyData.eqv eqT; rfl
  | .tup a, .tup b, _, _, h1, h2, e1, e2 => by
    unfold plT at h1 h2
    unfold pyD at e1; obtain ⟨ps, c1, rfl⟩ := Option.map_eq_some_iff.mp e1
    unfold pyD at e2; obtain ⟨qs, c2, rfl⟩ := Option.map_eq_some_iff.mp e2
    unfold PyData.eqv eqT
    exact eqv_TA h1 h2 c1 c2
  | .tup _, .lst _, _, _, _, _, e1, e2 => by (unfold pyD at e1; obtain ⟨ps, c1, rfl⟩ := Option.map_eq_some_iff.mp e1); (unfold pyD at e2; obtain ⟨qs, c2, rfl⟩ := Option.map_eq_some_iff.mp e2); unfold PyData.eqv eqT; rfl
  | .lst _, .non, _, _, _, _, e1, e2 => by (unfold pyD at e1; obtain ⟨ps, c1, rfl⟩ := Option.map_eq_some_iff.mp e1); (cases e2); unfold PyData.eqv eqT; rfl
  | .lst _, .int _, _, _, _, _, e1, e2 => by (unfold pyD at e1; obtain ⟨ps, c1, rfl⟩ := Option.map_eq_some_iff.mp e1); (cases e2); unfold PyData.eqv eqT; rfl
  | .lst _, .str _, _, _, _, _, e1, e2 => by (unfold pyD at e1; obtain ⟨ps, c1, rfl⟩ := Option.map_eq_some_iff.mp e1); (cases e2); unfold PyData.eqv eqT; rfl
  | .lst _, .tup _, _, _, _, _, e1, e2 => by (unfold pyD at e1; obtain ⟨ps, c1, rfl⟩ := Option.map_eq_some_iff.mp e1); (unfold pyD at e2; obtain ⟨qs, c2, rfl⟩ := Option.map_eq_some_iff.mp e2); unfold PyData.eqv eqT; rfl
  | .lst a, .lst b, _, _, h1, h2, e1, e2 => by
    unfold plT at h1 h2
    unfold pyD at e1; obtain ⟨ps, c1, rfl⟩ := Option.map_eq_some_iff.mp e1
    unfold pyD at e2; obtain ⟨qs, c2, rfl⟩ := Option.map_eq_some_iff.mp e2
    unfold PyData.eqv eqT
    exact eqv_TA h1 h2 c1 c2
  | .bl _, _, _, _, h, _, _, _ | .scr _, _, _, _, h, _, _, _ | .glob _, _, _, _, h, _, _, _ | .ins _ _, _, _, _, h, _, _, _ | .exc _ _, _, _, _, h, _, _, _ | .exc0 _, _, _, _, h, _, _, _ | .dic _, _, _, _, h, _, _, _ | .ty _, _, _, _, h, _, _, _ => by unfold plT at h; cases h
  | _, .bl _, _, _, _, h, _, _ | _, .scr _, _, _, _, h, _, _ | _, .glob _, _, _, _, h, _, _ | _, .ins _ _, _, _, _, h, _, _ | _, .exc _ _, _, _, _, h, _, _ | _, .exc0 _, _, _, _, h, _, _ | _, .dic _, _, _, _, h, _, _ | _, .ty _, _, _, _, h, _, _ => by unfold plT at h; cases h
theorem eqv_TA : ∀ {a b : List Dt} {p q : List PyData}, plA a = true → plA b = true → pyA a = some p → pyA b = some q → PyData.eqvAll p q = eqTA a b
  | [], [], _, _, _, _, e1, e2 => by cases e1; cases e2; rfl
  | [], _ :: _, _, _, _, _, e1, e2 => by
    cases e1
    unfold pyA at e2
    split at e2 <;> cases e2
    rfl
  | _ :: _, [], _, _, _, _, e1, e2 => by
    cases e2
    unfold pyA at e1
    split at e1 <;> cases e1
    rfl
  | a :: as, b :: bs, _, _, h1, h2, e1, e2 => by
    unfold plA at h1 h2
    rw [Bool.and_eq_true] at h1 h2
    unfold pyA at e1 e2
    split at e1
    · rename_i p ps c1 c2
      split at e2
      · rename_i q qs c3 c4
        cases e1; cases e2
        unfold PyData.eqvAll eqTA
        rw [eqv_T h1.1 h2.1 c1 c3, eqv_TA h1.2 h2.2 c2 c4]
      · cases e2
    · cases e1
end
def laid (d : Dt) : Bool := match pyD d with
  | some p => SeqAt.shaped p
  | none => false
def eqTT (a b : Dt) : Option Bool := if plT a = true ∧ plT b = true ∧ laid a = true ∧ laid b = true then some (eqT a b) else none
def gEqT : Dt → Dt → Option R := fun x y => (eqTT x y).map fun b => .val (.bl b)
def gNeT : Dt → Dt → Option R := fun x y => (eqTT x y).map fun b => .val (.bl !b)
section
variable {K : PySem.W.Frag} {mg : Str → Option Value}
theorem eqTT_ok {L : Addr → Prop} {H : Hp} {x y : V} {dx dy : Dt} {b : Bool} (rx : Rdb K mg (cut L H) H x dx) (ry : Rdb K mg (cut L H) H y dy) (h : eqTT dx dy = some b) :
    ∃ d e, Dp K H x d ∧ Dp K H y e ∧ SeqAt.shaped d = true ∧ SeqAt.shaped e = true ∧ PyData.eqv d e = b := by
  unfold eqTT at h
  split at h
  · rename_i c
    obtain ⟨c1, c2, c3, c4⟩ := c
    cases h
    unfold laid at c3 c4
    split at c3
    · rename_i p e1
      split at c4
      · rename_i q e2
        exact ⟨p, q, dp_of rx.rep e1, dp_of ry.rep e2, c3, c4, eqv_T c1 c2 e1 e2⟩
      · cases c4
    · cases c3
  · cases h
theorem os_eqT : OpS K mg (rEqD K) gEqT := fun L H x y dx dy rv Q tr rx ry h k => by
  obtain ⟨b, hb, rfl⟩ := Option.map_eq_some_iff.mp h
  obtain ⟨d, e, h1, h2, h3, h4, rfl⟩ := eqTT_ok rx ry hb
  exact ⟨d, e, h1, h2, h3, h4, k _ H (.refl H) (.bl _)⟩
theorem os_neT : OpS K mg (rNeD K) gNeT := fun L H x y dx dy rv Q tr rx ry h k => by
  obtain ⟨b, hb, rfl⟩ := Option.map_eq_some_iff.mp h
  obtain ⟨d, e, h1, h2, h3, h4, rfl⟩ := eqTT_ok rx ry hb
  exact ⟨d, e, h1, h2, h3, h4, k _ H (.refl H) (.bl _)⟩
end
end DL

/-! DMb: sorted(..), sorted(set(..)), tuple(..), < of tuples on data. -/
namespace DL
open PySem L2

/-! ### insertion -/
def insO {α : Type} (lt : α → α → Bool) (x : α) : List α → List α
  | [] => [x]
  | y :: l => if lt y x then y :: insO lt x l else x :: y :: l
def isort {α : Type} (lt : α → α → Bool) (l : List α) : List α := l.foldr (insO lt) []
section
variable {α : Type} {lt : α → α → Bool}
theorem insO_perm (x : α) : ∀ l : List α, (insO lt x l).Perm (x :: l)
  | [] => .refl _
  | y :: l => by
    unfold insO
    split
    · exact ((insO_perm x l).cons y).trans (.swap x y l)
    · exact .refl _
theorem isort_perm : ∀ l : List α, (isort lt l).Perm l
  | [] => .refl _
  | x :: l => (insO_perm x _).trans ((isort_perm l).cons x)
theorem insO_srt (O : SrtO.Swo lt) (x : α) : ∀ {l : List α}, SrtO.Srtd lt l → SrtO.Srtd lt (insO lt x l)
  | [], _ => List.pairwise_singleton _ _
  | y :: l, h => by
    unfold insO
    obtain ⟨h1, h2⟩ := List.pairwise_cons.mp h
    split
    · rename_i c
      refine List.pairwise_cons.mpr ⟨fun z hz => ?_, insO_srt O x h2⟩
      rcases List.mem_cons.mp ((insO_perm x l).mem_iff.mp hz) with e | hz
      · rw [e]; exact O.asym y x c
      · exact h1 z hz
    · rename_i c
      have c' : lt y x = false := by simpa using c
      refine List.pairwise_cons.mpr ⟨fun z hz => ?_, h⟩
      rcases List.mem_cons.mp hz with e | hz
      · rw [e]; exact c'
      · exact O.tr x y z c' (h1 z hz)
theorem isort_srt (O : SrtO.Swo lt) : ∀ l : List α, SrtO.Srtd lt (isort lt l)
  | [] => List.Pairwise.nil
  | x :: l => insO_srt O x (isort_srt O l)
theorem isort_uniq (O : SrtO.Swo lt) (anti : ∀ a b, lt a b = false → lt b a = false → a = b) {l m : List α} (h : SrtO.Srtd lt m) (p : m.Perm l) : m = isort lt l :=
  List.Perm.eq_of_pairwise (le := fun x y => lt y x = false) (fun a b _ _ h1 h2 => anti a b h2 h1) h (isort_srt O l) (p.trans (isort_perm l).symm)
end
/-- without doubles -/
def dedup {α : Type} [DecidableEq α] : List α → List α
  | [] => []
  | x :: l => if x ∈ dedup l then dedup l else x :: dedup l
theorem mem_dedup {α : Type} [DecidableEq α] {y : α} : ∀ {l : List α}, y ∈ dedup l ↔ y ∈ l
  | [] => Iff.rfl
  | x :: l => by
    unfold dedup
    split
    · rename_i c
      rw [mem_dedup, List.mem_cons]
      exact ⟨.inr, fun z => z.elim (fun e => by rw [e]; exact mem_dedup.mp c) id⟩
    · rw [List.mem_cons, List.mem_cons, mem_dedup]
theorem nodup_dedup {α : Type} [DecidableEq α] : ∀ l : List α, (dedup l).Nodup
  | [] => List.nodup_nil
  | x :: l => by
    unfold dedup
    split
    · exact nodup_dedup l
    · rename_i c; exact List.nodup_cons.mpr ⟨c, nodup_dedup l⟩

/-! ### texts -/
theorem ltS_swo : SrtO.Swo ltS := ⟨fun x y h => decide_eq_false (List.lt_asymm (of_decide_eq_true h)), fun x y z h1 h2 => decide_eq_false (List.not_lt.mpr (List.le_trans (List.not_lt.mp (of_decide_eq_false h1)) (List.not_lt.mp (of_decide_eq_false h2))))⟩
theorem ltS_anti (a b : Str) (h1 : ltS a b = false) (h2 : ltS b a = false) : a = b := by
  have q := List.le_antisymm (List.not_lt.mp (of_decide_eq_false h2)) (List.not_lt.mp (of_decide_eq_false h1))
  obtain ⟨⟨c⟩⟩ := a
  obtain ⟨⟨d⟩⟩ := b
  have q' : c = d := q
  rw [q']
theorem rising_srt : ∀ (l : List Str) (p : Str), PyProof.Rows.risingS p l = true → SrtO.Srtd ltS (p :: l)
  | [], p, _ => List.pairwise_singleton _ _
  | x :: l, p, h => by
    unfold PyProof.Rows.risingS at h
    rw [Bool.and_eq_true, Bool.not_eq_true'] at h
    have e : ltS x p = false := by rw [← h.1]; exact (PyProof.Rows.ltCps_eq _ _).symm
    have q := rising_srt l x h.2
    refine List.pairwise_cons.mpr ⟨fun z hz => ?_, q⟩
    rcases List.mem_cons.mp hz with c | hz
    · rw [c]; exact e
    · exact ltS_swo.tr p x z e ((List.pairwise_cons.mp q).1 z hz)
theorem sorted_srt {l : List Str} (h : PyProof.Rows.sortedS l = true) : SrtO.Srtd ltS l := by
  cases l with
  | nil => exact List.Pairwise.nil
  | cons x l => exact rising_srt l x h
def strA : List Dt → Option (List Str)
  | [] => some []
  | .str s :: ds => (strA ds).map (s :: ·)
  | _ :: _ => none
def intA : List Dt → Option (List Int)
  | [] => some []
  | .int s :: ds => (intA ds).map (s :: ·)
  | _ :: _ => none
theorem strA_eq : ∀ {ds : List Dt} {xs : List Str}, strA ds = some xs → ds = xs.map Dt.str
  | [], _, e => by cases e; rfl
  | d :: ds, _, e => by
    cases d with
    | str s =>
      obtain ⟨ys, h, rfl⟩ := Option.map_eq_some_iff.mp (show (strA ds).map (s :: ·) = _ from e)
      rw [strA_eq h]; rfl
    | _ => cases e
theorem intA_eq : ∀ {ds : List Dt} {xs : List Int}, intA ds = some xs → ds = xs.map Dt.int
  | [], _, e => by cases e; rfl
  | d :: ds, _, e => by
    cases d with
    | int s =>
      obtain ⟨ys, h, rfl⟩ := Option.map_eq_some_iff.mp (show (intA ds).map (s :: ·) = _ from e)
      rw [intA_eq h]; rfl
    | _ => cases e
def ltI (a b : Int) : Bool := decide (a < b)
theorem ltI_swo : SrtO.Swo ltI := ⟨fun x y h => by unfold ltI at *; simp at *; omega, fun x y z h1 h2 => by unfold ltI at *; simp at *; omega⟩
section
variable {K : PySem.W.Frag} {mg : Str → Option Value} {G H : Hp}
theorem repA_str : ∀ {vs : List V} {xs : List Str}, RepA K mg G vs (xs.map Dt.str) → vs = xs.map V.str
  | _, [], .nil => rfl
  | _, x :: xs, .cons r t => by cases r; rw [repA_str t]; rfl
theorem repA_int : ∀ {vs : List V} {xs : List Int}, RepA K mg G vs (xs.map Dt.int) → vs = xs.map V.int
  | _, [], .nil => rfl
  | _, x :: xs, .cons r t => by cases r; rw [repA_int t]; rfl
theorem str_repA : ∀ xs : List Str, RepA K mg G (xs.map V.str) (xs.map Dt.str)
  | [] => .nil
  | x :: xs => .cons (.str x) (str_repA xs)
theorem int_repA : ∀ xs : List Int, RepA K mg G (xs.map V.int) (xs.map Dt.int)
  | [] => .nil
  | x :: xs => .cons (.int x) (int_repA xs)
def gSortS : List Dt → Option R := fun l => match l with
  | [.lst ds] => match strA ds with
    | some xs => if xs.length < 64 then some (.new (.lst ((isort ltS xs).map Dt.str))) else none
    | none => none
  | _ => none
def gSortI : List Dt → Option R := fun l => match l with
  | [.lst ds] => match intA ds with
    | some xs => some (.new (.lst ((isort ltI xs).map Dt.int)))
    | none => none
  | _ => none
theorem RdA.one {xs : List V} {d : Dt} (h : RdA K mg G H xs [d]) : ∃ v, xs = [v] ∧ Rdb K mg G H v d := by
  cases h with
  | cons h t => cases t; exact ⟨_, rfl, h⟩
theorem cs_sortS : CallS K mg (rSortedS K) gSortS := fun L H xs ds rv Q tr rx e k => by
  unfold gSortS at e
  split at e
  · rename_i ds
    split at e
    · rename_i ys hy
      split at e
      · rename_i few
        cases e
        obtain ⟨v, rfl, r⟩ := rx.one
        obtain ⟨a, us, rfl, ha, ra⟩ := r.lst
        have e2 := strA_eq hy
        subst e2
        have e3 := repA_str ra
        subst e3
        refine ⟨a, ys, rfl, SqL.of ha, few, fun zs p pm srt hp => ?_⟩
        have e4 := isort_uniq ltS_swo ltS_anti (sorted_srt srt) pm
        subst e4
        exact k _ _ (.new hp) (new_lst tr hp (str_repA _))
      · cases e
    · cases e
  · cases e
theorem cs_sortI : CallS K mg (rSortedI K) gSortI := fun L H xs ds rv Q tr rx e k => by
  unfold gSortI at e
  split at e
  · rename_i ds
    split at e
    · rename_i ys hy
      cases e
      obtain ⟨v, rfl, r⟩ := rx.one
      obtain ⟨a, us, rfl, ha, ra⟩ := r.lst
      have e2 := intA_eq hy
      subst e2
      have e3 := repA_int ra
      subst e3
      refine ⟨a, ys, rfl, SqL.of ha, fun zs p pm srt hp => ?_⟩
      have s2 : SrtO.Srtd ltI zs := srt.imp fun {x y} (h : x ≤ y) => decide_eq_false (Int.not_lt.mpr h)
      have e4 := isort_uniq ltI_swo (fun a b h1 h2 => by unfold ltI at h1 h2; simp at h1 h2; omega) s2 pm
      subst e4
      exact k _ _ (.new hp) (new_lst tr hp (int_repA _))
    · cases e
  · cases e
/-! ### sorted(set(xs)) -/
def keyA : List Dt → Option (List Key)
  | [] => some []
  | .int i :: ds => (keyA ds).map (.inl i :: ·)
  | .str s :: ds => (keyA ds).map (.inr s :: ·)
  | _ :: _ => none
def dK : Key → Dt
  | .inl i => .int i
  | .inr s => .str s
def keysA : List Dt → Option (List (List Key))
  | [] => some []
  | .tup d :: ds => match keyA d, keysA ds with
    | some k, some ks => some (k :: ks)
    | _, _ => none
  | _ :: _ => none
def dT (k : List Key) : Dt := .tup (k.map dK)
theorem keyA_eq : ∀ {ds : List Dt} {k : List Key}, keyA ds = some k → ds = k.map dK
  | [], _, e => by cases e; rfl
  | d :: ds, _, e => by
    cases d with
    | int i =>
      obtain ⟨ys, h, rfl⟩ := Option.map_eq_some_iff.mp (show (keyA ds).map (Sum.inl i :: ·) = _ from e)
      rw [keyA_eq h]; rfl
    | str s =>
      obtain ⟨ys, h, rfl⟩ := Option.map_eq_some_iff.mp (show (keyA ds).map (Sum.inr s :: ·) = _ from e)
      rw [keyA_eq h]; rfl
    | _ => cases e
theorem keysA_eq : ∀ {ds : List Dt} {ks : List (List Key)}, keysA ds = some ks → ds = ks.map dT
  | [], _, e => by cases e; rfl
  | d :: ds, _, e => by
    cases d with
    | tup d =>
      unfold keysA at e
      cases c1 : keyA d with
      | none => simp only [c1] at e; cases e
      | some k =>
        cases c2 : keysA ds with
        | none => simp only [c1, c2] at e; cases e
        | some ks =>
          simp only [c1, c2] at e
          cases e
          rw [keysA_eq c2, keyA_eq c1]; rfl
    | _ => cases e
theorem repA_key : ∀ {vs : List V} {k : List Key}, RepA K mg G vs (k.map dK) → vs = k.map L2.kV
  | _, [], .nil => rfl
  | _, x :: xs, .cons r t => by
    rw [repA_key t]
    cases x with
    | inl i => cases r; rfl
    | inr s => cases r; rfl
theorem rep_dT {v : V} {k : List Key} (r : Rep K mg G v (dT k)) : ∃ a, v = .ref a ∧ SqT K G a (k.map L2.kV) := by
  cases r with
  | tup h rr => rw [repA_key rr] at h; exact ⟨_, rfl, h⟩
theorem repA_rows : ∀ {vs : List V} {ks : List (List Key)}, RepA K mg G vs (ks.map dT) → ∃ rows : List MS.Row, vs = rows.map (fun r => V.ref r.1) ∧ rows.map (·.2) = ks ∧ ∀ r ∈ rows, Rep K mg G (.ref r.1) (dT r.2)
  | _, [], .nil => ⟨[], rfl, rfl, fun r hr => absurd hr (by simp)⟩
  | v :: vs, k :: ks, .cons r t => by
    obtain ⟨rows, e1, e2, h⟩ := repA_rows t
    obtain ⟨a, rfl, _⟩ := rep_dT r
    refine ⟨(a, k) :: rows, by rw [e1]; rfl, by rw [List.map_cons, e2], fun q hq => ?_⟩
    rcases List.mem_cons.mp hq with z | z
    · rw [z]; exact r
    · exact h q z
theorem rows_repA : ∀ {rows : List MS.Row}, (∀ r ∈ rows, Rep K mg G (.ref r.1) (dT r.2)) → RepA K mg G (rows.map fun r => V.ref r.1) ((rows.map (·.2)).map dT)
  | [], _ => .nil
  | r :: rows, h => .cons (h r List.mem_cons_self) (rows_repA fun q hq => h q (List.mem_cons_of_mem _ hq))
def alike : List (List Key) → Bool
  | [] => true
  | k :: ks => !(MS.kinds k).isEmpty && ks.all fun m => MS.kinds m == MS.kinds k
def sortK (ks : List (List Key)) : List (List Key) := isort MS.klt (dedup ks)
def ssD (ds : List Dt) : Option (List Dt) := match keysA ds with
  | some ks => if ks.length < 64 ∧ alike ks = true then some ((sortK ks).map dT) else none
  | none => none
def gSS : Dt → Option R := fun d => match d with
  | .lst ds => (ssD ds).map fun l => .new (.lst l)
  | .tup ds => (ssD ds).map fun l => .new (.lst l)
  | _ => none
theorem us_ss : UnS K mg (MS.rSS K) gSS := fun L H x dx rv Q tr rx h k => by
  have go : ∀ (l : Addr) (vs : List V) (ds out : List Dt), x = .ref l → (SqL K H l vs ∨ SqT K H l vs) → RepA K mg (cut L H) vs ds → ssD ds = some out → rv = .new (.lst out) → MS.rSS K x H Q := by
    intro l vs ds out e hl ra ho hv
    subst hv
    unfold ssD at ho
    split at ho
    · rename_i ks hk
      split at ho
      · rename_i c
        cases ho
        obtain ⟨few, al⟩ := c
        have e2 := keysA_eq hk
        subst e2
        obtain ⟨rows, e3, e4, hr⟩ := repA_rows ra
        subst e3; subst e4
        have hS : ∃ S : List Bool, S ≠ [] ∧ ∀ p ∈ rows, MS.kinds p.2 = S := by
          cases rows with
          | nil => exact ⟨[true], by simp, fun p hp => absurd hp (by simp)⟩
          | cons r rows =>
            simp only [List.map_cons, alike, Bool.and_eq_true, List.all_eq_true, beq_iff_eq] at al
            refine ⟨MS.kinds r.2, fun z => by rw [z] at al; exact absurd al.1 (by simp), fun p hp => ?_⟩
            rcases List.mem_cons.mp hp with z | z
            · rw [z]
            · exact al.2 p.2 (List.mem_map.mpr ⟨p, z, rfl⟩)
        obtain ⟨S, s1, s2⟩ := hS
        refine ⟨l, rows, S, e, hl, fun p hp => ?_, by rw [List.length_map] at few; exact few, s1, s2, fun L2 p sub all nd srt hp => ?_⟩
        · obtain ⟨a, ea, ha⟩ := rep_dT (hr p hp)
          cases ea
          exact (cut_le L H).t ha
        · have e5 : L2.map (·.2) = sortK (rows.map (·.2)) := by
            refine isort_uniq (MS.klt_swo id) (fun a b h1 h2 => MS.klt_eq h1 h2) (List.pairwise_map.mpr srt) ((List.perm_ext_iff_of_nodup nd (nodup_dedup _)).mpr fun y => ?_)
            rw [mem_dedup]
            constructor
            · intro hy
              obtain ⟨r, h1, rfl⟩ := List.mem_map.mp hy
              exact List.mem_map.mpr ⟨r, sub r h1, rfl⟩
            · intro hy
              obtain ⟨r, h1, rfl⟩ := List.mem_map.mp hy
              exact all r h1
          refine k _ _ (.new hp) (new_lst tr hp ?_)
          rw [← e5]
          exact rows_repA fun r hr2 => hr r (sub r hr2)
      · cases ho
    · cases ho
  unfold gSS at h
  split at h
  · rename_i ds
    obtain ⟨out, h1, h2⟩ := Option.map_eq_some_iff.mp h
    obtain ⟨a, us, e, ha, ra⟩ := rx.lst
    exact go a us ds out e (.inl (SqL.of ha)) ra h1 h2.symm
  · rename_i ds
    obtain ⟨out, h1, h2⟩ := Option.map_eq_some_iff.mp h
    obtain ⟨a, us, e, ha, ra⟩ := rx.tup
    exact go a us ds out e (.inr ha) ra h1 h2.symm
  · cases h
/-! ### tuple(xs) -/
def gTuple : List Dt → Option R := fun l => match l with
  | [.lst ds] => some (.val (.tup ds))
  | [.tup ds] => some (.val (.tup ds))
  | _ => none
theorem cs_tuple : CallS K mg (fun xs H Q => ∃ p ys, xs = [.ref p] ∧ ((SqL K H p ys ∧ ∀ l, H l = none → Q (.ref l) (upd H l (.tup ys))) ∨ (SqT K H p ys ∧ Q (.ref p) H))) gTuple := fun L H xs ds rv Q tr rx e k => by
  unfold gTuple at e
  split at e
  · rename_i ds
    cases e
    obtain ⟨v, rfl, r⟩ := rx.one
    obtain ⟨a, us, rfl, ha, ra⟩ := r.lst
    exact ⟨a, us, rfl, .inl ⟨SqL.of ha, fun p hp => k _ _ (.new hp) (new_tup tr hp ra)⟩⟩
  · rename_i ds
    cases e
    obtain ⟨v, rfl, r⟩ := rx.one
    have r' := r.tupz
    obtain ⟨a, us, rfl, ha, ra⟩ := r.tup
    exact ⟨a, us, rfl, .inr ⟨ha, k _ H (.refl H) r'⟩⟩
  · cases e
end
end DL

/-! DMc: chains, not as a value, isinstance of plain data, < of tuples, in of texts, slots forgotten, names of the module. -/
namespace DL
open PySem L2

section
variable {K : PySem.W.Frag} {mg : Str → Option Value} {ex ex' : Addr → Prop} {env env' : Env} {ow ow' : Ow} {σ σ' : St} {H H' : Hp} {E : XK} {ma mb mc m : M R}
/-! ### a < b < c -/
def cmpM (g : Dt → Dt → Option R) (ra rb : R) : M Bool := fun env => match rs env ra, rs env rb with
  | some a, some b => match g a b with
    | some (.val (.bl k)) => some (.ok k env)
    | _ => none
  | _, _ => none
theorem WP.cmpM {g : Dt → Dt → Option R} {ra rb : R} {k : Bool → Env → Prop} {x : Xn → Env → Prop} (h : WP (cmpM g ra rb) env k x) : ∃ d1 d2 c, rs env ra = some d1 ∧ rs env rb = some d2 ∧ g d1 d2 = some (.val (.bl c)) ∧ k c env := by
  unfold WP DL.cmpM at h
  cases e1 : rs env ra with
  | none => simp only [e1] at h
  | some d1 =>
    cases e2 : rs env rb with
    | none => simp only [e1, e2] at h
    | some d2 =>
      cases e3 : g d1 d2 with
      | none => simp only [e1, e2, e3] at h
      | some r =>
        cases r with
        | val d =>
          cases d with
          | bl c => simp only [e1, e2, e3] at h; exact ⟨d1, d2, c, rfl, rfl, e3, h⟩
          | _ => simp only [e1, e2, e3] at h
        | _ => simp only [e1, e2, e3] at h
def mChain (g g' : Dt → Dt → Option R) (ma mb mc : M R) : M R := ma.bind fun ra => mb.bind fun rb => (cmpM g ra rb).bind fun k => if k then mc.bind fun rc => use2 g' rb rc else M.pure (.val (.bl false))
theorem t_chain {r r' : R2} {g g' : Dt → Dt → Option R} (hg : OpS K mg r g) (hg' : OpS K mg r' g') (σ : St) (H : Hp) (Q : VK) (h : tM K mg E (mChain g g' ma mb mc) σ H Q) : tChain r r' (tM K mg E ma) (tM K mg E mb) (tM K mg E mc) σ H Q := by
  obtain ⟨ex, env, ow, S, w⟩ := h
  refine ⟨ex, env, ow, S, (WP.bind.mp w).mono (fun ra env1 w1 v1 H1 ow1 P1 R1 => ?_) fun _ _ z => z⟩
  refine ⟨ex, env1, ow1, R1.sr, (WP.bind.mp w1).mono (fun rb env2 w2 v2 H2 ow2 P2 R2 => ?_) fun _ _ z => z.go P1⟩
  obtain ⟨d1, d2, c, e1, e2, e3, k⟩ := WP.cmpM (WP.bind.mp w2)
  have S2 := R2.sr
  have h1 := (R1.held S.tr).post R1.sr P2
  have h2 := R2.held R1.sr.tr
  refine hg (lim ex ow2) H2 v1 v2 d1 d2 _ _ (fun a z => S2.there z) (h1.rdb S2 e1) (h2.rdb S2 e2) e3 fun v H3 l q => ?_
  have qv : v = .bl c := by
    have q' : Rep K mg (cut (lim ex ow2) H3) v (.bl c) := q
    cases q'; rfl
  subst qv
  have S3 := S2.le l
  have P3 : Post env2 ow2 H2 env2 ow2 H3 := .le l
  refine ⟨c, rfl, ?_⟩
  cases c with
  | true =>
    rw [if_pos rfl]
    refine ⟨ex, env2, ow2, S3, (WP.bind.mp k).mono (fun rc env4 w4 v4 H4 ow4 P4 R4 => ?_) fun _ _ z => z.go ((P1.trans P2).trans P3)⟩
    obtain ⟨d3, d4, rv, f1, f2, f3, kk⟩ := w4.use2
    have S4 := R4.sr
    have hb := (h2.post S2 P3).post S3 P4
    have hc := R4.held S3.tr
    exact hg' (lim ex ow4) H4 v2 v4 d3 d4 rv Q (fun a z => S4.there z) (hb.rdb S4 f1) (hc.rdb S4 f2) f3 fun v5 H5 l5 q5 => kV.op S (((P1.trans P2).trans P3).trans P4) S4 kk l5 q5
  | false =>
    rw [if_neg (by decide)]
    exact k (.bl false) H3 ow2 ((P1.trans P2).trans P3) ⟨S3, .bl false⟩
/-! ### not as a value -/
def mNotV (m : M R) : M R := (mT m).bind fun c => M.pure (.val (.bl !c))
theorem t_notV (σ : St) (H : Hp) (Q : VK) (h : tM K mg E (mNotV m) σ H Q) : tNotV (tM K mg E m) σ H Q := by
  obtain ⟨ex, env, ow, S, w⟩ := h
  refine ⟨ex, env, ow, S, (WP.bind.mp (WP.bind.mp w)).mono (fun ra env1 w1 v1 H1 ow1 P1 R1 => ?_) fun _ _ z => z⟩
  obtain ⟨b, e, k⟩ := w1.useT
  exact ⟨b, ((R1.held S.tr).rdb R1.sr e).bl, k (.bl !b) H1 ow1 P1 ⟨R1.sr, .bl _⟩⟩
/-! ### frozen slots forgotten -/
def isFz : Option (Dt × Md) → Bool
  | some (_, .fz) => true
  | _ => false
def forgetE (env : Env) (i : Nat) : Env := if isFz (gs env i) = true ∧ i < env.length then env.set i none else env
def mForget {α : Type} (i : Nat) (m : M α) : M α := fun env => m (forgetE env i)
theorem SR.forget (S : SR K mg ex env ow σ H) (i : Nat) : SR K mg ex (forgetE env i) ow σ H := by
  unfold forgetE
  split
  · rename_i c
    obtain ⟨c1, c2⟩ := c
    refine ⟨by rw [List.length_set]; exact S.len, fun j => ?_, S.inj, S.dis, S.tr⟩
    by_cases e : j = i
    · subst e
      rw [gs_set_self c2]
      have q := S.slot j
      cases z : gs env j with
      | none => rw [z] at c1; cases c1
      | some y =>
        obtain ⟨d, md⟩ := y
        cases md with
        | fz => rw [z] at q; exact q.1
        | ow => rw [z] at c1; cases c1
        | io => rw [z] at c1; cases c1
    · rw [gs_set_ne (Ne.symm e)]
      exact S.slot j
  · exact S
theorem Post.forget {i : Nat} (P : Post (forgetE env i) ow H env' ow' H') : Post env ow H env' ow' H' := by
  refine ⟨P.keep, P.sub, fun j d h => ?_, P.there⟩
  refine P.pin j d ?_
  unfold forgetE
  split
  · rename_i c
    by_cases e : i = j
    · subst e; rw [h] at c; exact (Bool.false_ne_true (show false = true from c.1)).elim
    · rw [gs_set_ne e]; exact h
  · exact h
theorem t_forget {i : Nat} (σ : St) (H : Hp) (Q : VK) (h : tM K mg E (mForget i m) σ H Q) : tM K mg E m σ H Q := by
  obtain ⟨ex, env, ow, S, w⟩ := h
  exact ⟨ex, forgetE env i, ow, S.forget i, WP.mono (show WP m (forgetE env i) _ _ from w) (fun r e k v H1 ow1 P R => k v H1 ow1 P.forget R) fun z e k cls d H1 ow1 P S1 X1 => k cls d H1 ow1 P.forget S1 X1⟩

/-! ### isinstance of plain data -/
def tyD : Dt → Option String
  | .non => some "NoneType" | .bl _ => some "bool" | .int _ => some "int" | .str _ => some "str" | .tup _ => some "tuple" | .lst _ => some "list" | _ => none
/-- the answers that are needed, told -/
def isTab (t n : String) : Option Bool :=
  if n = "int" then (if t = "int" ∨ t = "bool" then some true else some false)
  else if n = "bool" ∨ n = "str" ∨ n = "tuple" ∨ n = "list" then some (decide (t = n)) else none
def tyNames : List String := ["NoneType", "bool", "int", "str", "tuple", "list"]
theorem isTab_ok : ∀ t ∈ tyNames, ∀ n ∈ tyNames, ∀ b, isTab t n = some b → kitB t n = some b := by
  have h : (tyNames.all fun t => tyNames.all fun n => match isTab t n with | some b => kitB t n == some b | none => true) = true := by kernel_rfl
  intro t ht n hn b hb
  have q := List.all_eq_true.mp (List.all_eq_true.mp h t ht) n hn
  rw [hb] at q
  exact beq_iff_eq.mp q
theorem tyD_mem {d : Dt} {t : String} (h : tyD d = some t) : t ∈ tyNames := by
  cases d <;> first | (cases h; done) | (cases h; simp [tyNames])
theorem isTab_mem {t n : String} {b : Bool} (h : isTab t n = some b) : n ∈ tyNames := by
  unfold isTab at h
  split at h
  · rename_i c; rw [c]; simp [tyNames]
  · split at h
    · rename_i c
      rcases c with c | c | c | c <;> (rw [c]; simp [tyNames])
    · cases h
def gIsP : List Dt → Option R := fun l => match l with
  | [d, .ty n] => match tyD d with
    | some t => (isTab t n).map fun b => .val (.bl b)
    | none => none
  | _ => none
theorem tyX_of {G H : Hp} {L : Addr → Prop} {v : V} {d : Dt} {t : String} (r : Rdb K mg (cut L H) H v d) (h : tyD d = some t) : TyX K H v (.type t) := by
  have q := r.rep
  cases d with
  | non => cases q; cases h; exact .base .non
  | bl b => cases q; cases h; exact .base (.bl b)
  | int i => cases q; cases h; exact .base (.int i)
  | str s => cases q; cases h; exact .base (.str s)
  | lst xs =>
    cases h
    cases q with
    | lst h _ => exact .base (.lst h)
  | tup xs =>
    cases h
    cases q with
    | tup h _ =>
      rcases h with (h | ⟨o, h⟩) | ⟨o, its, n, h, c, _⟩
      · exact .base (.tup h)
      · exact .fTuple h
      · exact .kTuple h c
  | _ => cases h
theorem cs_isP : CallS K mg (rIsi K) gIsP := fun L H xs ds rv Q tr rx e k => by
  unfold gIsP at e
  split at e
  · rename_i d n
    split at e
    · rename_i t ht
      obtain ⟨b, hb, rfl⟩ := Option.map_eq_some_iff.mp e
      cases rx with
      | cons r1 rr =>
        cases rr with
        | cons r2 rr =>
          cases rr
          have q2 := r2.rep
          cases q2
          exact ⟨_, _, _, _, b, rfl, .ty n, tyX_of (G := H) r1 ht, kit_ty (isTab_ok t (tyD_mem ht) n (isTab_mem hb) b hb), k _ H (.refl H) (.bl b)⟩
    · cases e
  · cases e

/-! ### one sign in a text -/
def gInS : Dt → Dt → Option R := fun x y => match x, y with
  | .str c, .str z => match c.cps.toList with
    | [k] => some (.val (.bl (decide (k ∈ z.cps.toList))))
    | _ => none
  | _, _ => none
end
end DL

/-! DMd: < of tuples, enumerate of tuples, calls of a def that a local name holds; the rules of DMa .. DMc for texts. -/
namespace DL
open PySem PySem.Spec PyProof.Rows L2

/-! ### t < u, tuples of numbers and texts of the same kinds -/
def rLtK (K : PySem.W.Frag) : R2 := fun x y H Q => ∃ (a b : Addr) (k m : List Key), x = .ref a ∧ y = .ref b ∧ SqT K H a (k.map L2.kV) ∧ SqT K H b (m.map L2.kV) ∧ MS.kinds k = MS.kinds m ∧ Q (.bl (MS.klt k m)) H
def eqK (k m : List Key) (j : Nat) : Bool := decide (k[j]? = m[j]?)
def ltK1 (k m : List Key) (j : Nat) : Bool := match k[j]?, m[j]? with
  | some a, some b => MS.k1 a b
  | _, _ => false
theorem kinds_len {k m : List Key} (h : MS.kinds k = MS.kinds m) : k.length = m.length := by
  have z := congrArg List.length h
  unfold MS.kinds at z
  rwa [List.length_map, List.length_map] at z
theorem kinds_at {k m : List Key} (h : MS.kinds k = MS.kinds m) {j : Nat} {a b : Key} (ha : k[j]? = some a) (hb : m[j]? = some b) : MS.kinds [a] = MS.kinds [b] := by
  have z : (MS.kinds k)[j]? = (MS.kinds m)[j]? := by rw [h]
  unfold MS.kinds at z ⊢
  rw [List.getElem?_map, List.getElem?_map, ha, hb] at z
  simpa using z
theorem lexAt_klt (k m : List Key) (h : MS.kinds k = MS.kinds m) : ∀ (n i : Nat), i + n = k.length → Ob.lexAt (eqK k m) (ltK1 k m) false i n = MS.klt (k.drop i) (m.drop i)
  | 0, i, e => by
    rw [Ob.lexAt_zero, List.drop_of_length_le (by omega), List.drop_of_length_le (by rw [← kinds_len h]; omega), MS.klt_irr]
  | n + 1, i, e => by
    have h1 : i < k.length := by omega
    have h2 : i < m.length := by rw [← kinds_len h]; exact h1
    rw [Ob.lexAt_succ, lexAt_klt k m h n (i + 1) (by omega), List.drop_eq_getElem_cons h1, List.drop_eq_getElem_cons h2]
    have g1 : k[i]? = some k[i] := List.getElem?_eq_getElem h1
    have g2 : m[i]? = some m[i] := List.getElem?_eq_getElem h2
    by_cases c : k[i] = m[i]
    · rw [if_pos (by unfold eqK; rw [g1, g2, c]; exact decide_eq_true rfl), c, MS.klt_same]
    · rw [if_neg (by unfold eqK; rw [g1, g2]; simpa using c), MS.klt_head c (kinds_at h g1 g2)]
      unfold ltK1
      rw [g1, g2]
theorem op_ltK {X : Cx} (hu : X.A.units + 64 < cLine) : OpR X (compareOp .Lt) (rLtK X.K) := by
  intro pins s σ H x y v u Q I rx ry h
  obtain ⟨a, b, k, m, rfl, rfl, ha, hb, hk, q⟩ := h
  cases rx; cases ry
  obtain ⟨its, r1, p1, z1⟩ := I.tuple ha
  obtain ⟨us, r2, p2, z2⟩ := I.tuple hb
  have l1 : its.length = k.length := by rw [← r1.length, List.length_map]
  have l2 : us.length = m.length := by rw [← r2.length, List.length_map]
  have kl := kinds_len hk
  have at1 : ∀ j (h1 : j < its.toArray.size), ∃ c, k[j]? = some c ∧ RelV (L2.kV c) its.toArray[j] := fun j h1 => by
    have h1' : j < k.length := by simpa [l1] using h1
    obtain ⟨w, e, rw'⟩ := r1.get (i := j) (x := L2.kV k[j]) (by rw [List.getElem?_map, List.getElem?_eq_getElem h1']; rfl)
    refine ⟨k[j], List.getElem?_eq_getElem h1', ?_⟩
    have e2 : its.toArray[j] = w := by
      have z := (List.getElem?_eq_some_iff.mp e).2
      simpa using z
    rw [e2]; exact rw'
  have at2 : ∀ j (h1 : j < us.toArray.size), ∃ c, m[j]? = some c ∧ RelV (L2.kV c) us.toArray[j] := fun j h1 => by
    have h1' : j < m.length := by simpa [l2] using h1
    obtain ⟨w, e, rw'⟩ := r2.get (i := j) (x := L2.kV m[j]) (by rw [List.getElem?_map, List.getElem?_eq_getElem h1']; rfl)
    refine ⟨m[j], List.getElem?_eq_getElem h1', ?_⟩
    have e2 : us.toArray[j] = w := by
      have z := (List.getElem?_eq_some_iff.mp e).2
      simpa using z
    rw [e2]; exact rw'
  have R := Ob.RcOp.tuples_lt (A := X.A) (s := s) (e := eqK k m) (r := ltK1 k m) p1 p2 (by omega) (fun j h1 h2 => ?_) (fun j h1 h2 he => ?_)
  · refine show wpAny (model X.prog X.w) X.A (richCompare .Lt (.ref a) (.ref b)) _ _ s from R X.prog X.w _ _ ⟨.bl (MS.klt k m), H, I, ?_, q⟩
    have sz : decide (its.toArray.size < us.toArray.size) = false := by
      rw [List.size_toArray, List.size_toArray]; exact decide_eq_false (by omega)
    have mn : min its.toArray.size us.toArray.size = k.length := by
      rw [List.size_toArray, List.size_toArray, l1, l2, ← kl, Nat.min_self]
    rw [sz, mn, lexAt_klt k m hk k.length 0 (by omega)]
    rfl
  · obtain ⟨c, e1, q1⟩ := at1 j h1
    obtain ⟨d, e2, q2⟩ := at2 j h2
    have hc := kinds_at hk e1 e2
    unfold eqK
    rw [e1, e2]
    cases c with
    | inl i =>
      cases d with
      | inl i' =>
        obtain ⟨t, z⟩ := q1; obtain ⟨t', z'⟩ := q2
        rw [z, z']
        have e : decide (some (Sum.inl i : Key) = some (Sum.inl i')) = (i == i') := by rw [Bool.eq_iff_iff]; simp
        rw [e]; exact SeqAt.EqAt.int_int i t i' t'
      | inr s' => cases hc
    | inr z0 =>
      cases d with
      | inl i' => cases hc
      | inr s' =>
        obtain ⟨t, z⟩ := q1; obtain ⟨t', z'⟩ := q2
        rw [z, z']
        have e : decide (some (Sum.inr z0 : Key) = some (Sum.inr s')) = (z0 == s') := by rw [Bool.eq_iff_iff]; simp
        rw [e]; exact SeqAt.EqAt.str_str z0 t s' t'
  · obtain ⟨c, e1, q1⟩ := at1 j h1
    obtain ⟨d, e2, q2⟩ := at2 j h2
    have hc := kinds_at hk e1 e2
    unfold ltK1
    rw [e1, e2]
    cases c with
    | inl i =>
      cases d with
      | inl i' =>
        obtain ⟨t, z⟩ := q1; obtain ⟨t', z'⟩ := q2
        rw [z, z']
        exact Ob.RcOp.lt_int i i' t t'
      | inr s' => cases hc
    | inr z0 =>
      cases d with
      | inl i' => cases hc
      | inr s' =>
        obtain ⟨t, z⟩ := q1; obtain ⟨t', z'⟩ := q2
        rw [z, z']
        exact fun _ _ _ _ h => PyProof.Rows.lt_str h
def gLtT : Dt → Dt → Option R := fun x y => match x, y with
  | .tup a, .tup b => match keyA a, keyA b with
    | some k, some m => if MS.kinds k = MS.kinds m then some (.val (.bl (MS.klt k m))) else none
    | _, _ => none
  | _, _ => none
section
variable {K : PySem.W.Frag} {mg : Str → Option Value}
theorem os_ltK : OpS K mg (rLtK K) gLtT := fun L H x y dx dy rv Q tr rx ry h k => by
  unfold gLtT at h
  split at h
  · rename_i a b
    cases h1 : keyA a with
    | none => simp only [h1] at h; cases h
    | some ka =>
      cases h2 : keyA b with
      | none => simp only [h1, h2] at h; cases h
      | some kb =>
        simp only [h1, h2] at h
        by_cases c : MS.kinds ka = MS.kinds kb
        · rw [if_pos c] at h
          cases h
          have e1 := keyA_eq h1
          have e2 := keyA_eq h2
          subst e1; subst e2
          obtain ⟨a', rfl, ha⟩ := rep_dT rx.rep
          obtain ⟨b', rfl, hb⟩ := rep_dT ry.rep
          exact ⟨a', b', ka, kb, rfl, rfl, ha, hb, c, k _ H (.refl H) (.bl _)⟩
        · rw [if_neg c] at h; cases h
  · cases h
theorem os_inS : OpS K mg (fun x y H Q => ∃ c z, x = V.str { cps := #[c] } ∧ y = V.str z ∧ Q (V.bl (decide (c ∈ z.cps.toList))) H) gInS := fun L H x y dx dy rv Q tr rx ry h k => by
  unfold gInS at h
  split at h
  · rename_i c z
    split at h
    · rename_i c0 hc
      cases h
      refine ⟨c0, z, ?_, ry.str, k _ H (.refl H) (.bl _)⟩
      rw [rx.str]
      obtain ⟨⟨l⟩⟩ := c
      have e : l = [c0] := hc
      rw [e]
    · cases h
  · cases h
end
end DL

/-! DMe: enumerate of a tuple. -/
namespace PySem
open AutoSeq1 (wpAny_loadPart')
theorem enumT_new (l : Addr) (items : Array Value) (n : Nat) (dct : Option Addr) (sl : Array (Option Value)) :
    Meets (Builtin.«enumerate.__new__» ⟨[.type "enumerate", .ref l], []⟩) (fun _ R s => s.heap.get? l = some { cls := .type "tuple", dict := dct, data := .seq items n, slots := sl } ∧
      R (.ok (.ret (.ref (s.heap.push { cls := .type "tuple_iterator", data := .fields #[.ref l, .int 0 0] }).objs.size)))
        { s with heap := (s.heap.push { cls := .type "tuple_iterator", data := .fields #[.ref l, .int 0 0] }).push { cls := .type "enumerate", data := .fields #[.none, .bool false, .ref s.heap.objs.size, rawInt 0, .none, .none] } }) :=
  .of_wp fun prog w A R s h => by
    obtain ⟨hp, g, d, tk, os⟩ := s; obtain ⟨hl, h⟩ := h
    have sub := sub_enumerate; have T : Heap.IsTuple (Shared.heap ⟨hp, g, d, tk, os⟩) l items := ⟨_, hl, rfl, n, rfl⟩
    wp_walk using wpAny_loadPart' hl
    refine wpAny_stack_any fun st => wpAny_pure ?_
    split
    · rename_i c _ _ _ _ _
      cases (c == Value.type "enumerate") <;> (wp_walk using wpAny_loadPart' hl, wpAny_pyIter_tuple T; exact ⟨_, rfl, h⟩)
    · wp_walk using wpAny_loadPart' hl, wpAny_pyIter_tuple T
      exact ⟨_, rfl, h⟩
theorem enumT_call {prog : Program} {w : World} {A : Around} {E : Value → Shared → Prop} {s : Shared} {l : Addr} {items : Array Value} {Q : Value → Shared → Prop} (T : s.heap.IsTuple l items)
    (h : ∀ h2, IsEnum h2 (s.heap.objs.size + 1) s.heap.objs.size 0 .none → h2.IsTupleIter s.heap.objs.size l 0 → (∀ b o, s.heap.get? b = some o → h2.get? b = some o) → Q (.ref (s.heap.objs.size + 1)) { s with heap := h2 }) :
    wpAny (model prog w) A (call (.type "enumerate") [.ref l]) Q E s := by
  obtain ⟨⟨c, dct, dt, sl⟩, g, hc, n, hd⟩ := T
  simp only at hc hd
  subst hc hd
  refine callType_new F.called_enumerate (by decide) (F.typeCall_enumerate_1 _) (F.newCall_enumerate_1 _) (fun obj => F.args_object_init_2 obj _) F.entry_enumerate_new (enumT_new l items n dct sl) ⟨g, ?_⟩
  have z : (s.heap.push { cls := .type "tuple_iterator", data := .fields #[.ref l, .int 0 0] }).objs.size = s.heap.objs.size + 1 := Heap.size_push ..
  rw [z]
  have new := Heap.get?_push_size (s.heap.push { cls := .type "tuple_iterator", data := .fields #[.ref l, .int 0 0] }) (o := { cls := .type "enumerate", data := .fields #[.none, .bool false, .ref s.heap.objs.size, rawInt 0, .none, .none] }) rfl
  rw [z] at new
  exact ⟨⟨_, new, rfl⟩, h _ new ⟨_, Heap.get?_push_of_some _ (Heap.get?_push_size _ rfl), rfl, rfl⟩ fun b o x => Heap.get?_push_of_some _ (Heap.get?_push_of_some _ x)⟩
end PySem
namespace DL
open PySem L2
/-- the n items of the tuple at a, each in a new pair -/
def IteT (K : PySem.W.Frag) (a : Addr) (n : Nat) : It :=
  ⟨fun i H => ∃ (xs : List V) (x : V), SqT K H a xs ∧ xs[i]? = some x ∧ xs.length = n, fun i H v H' => ∃ T x, v = .ref T ∧ H T = none ∧ H' = upd H T (.tup [.int (i : Nat), x]) ∧ ∀ xs, SqT K H a xs → xs[i]? = some x,
    fun i H => ∃ xs : List V, SqT K H a xs ∧ xs.length ≤ i ∧ xs.length = n⟩
theorem turn_enumT {P : Program} {w : World} {K : PySem.W.Frag} {elts : List Expr} {kk n : Nat} {tpos : Pos} (a e it : Addr) :
    Turn P w K (.Tuple elts kk tpos) (IteT K a n) [e, it] e (fun i h => ((∃ old, IsEnum h e it ((i : Nat) : Int) old) ∧ h.IsTupleIter it a i) ∧ (e ≠ it ∧ a ≠ it ∧ a ≠ e) ∧ i ≤ n) where
  mem := by simp
  obj := fun i h st b hb => by
    obtain ⟨⟨⟨old, he⟩, o, ho, hc, hd⟩, _⟩ := st
    rcases (show b = e ∨ b = it by simpa using hb) with z | z
    · rw [z]; exact ⟨_, he, fun v q => nomatch q⟩
    · rw [z]; exact ⟨o, ho, fun v q => by rw [hd] at q; cases q⟩
  keep := fun i h h' st k => let ⟨⟨⟨old, he⟩, hi⟩, r⟩ := st; ⟨⟨⟨old, k e (by simp) _ he⟩, hi.at fun o q => k it (by simp) o q⟩, r⟩
  item := by
    intro X hP hw hK hc i pins s σ H E I hf st hg
    subst hP hw hK
    obtain ⟨⟨⟨old, he⟩, hit⟩, ⟨n1, n2, n3⟩, hle⟩ := st
    obtain ⟨xs, x, hq, hx, hn⟩ := hg
    obtain ⟨its, rv, p, hz⟩ := I.tuple hq
    obtain ⟨u, hu, ru⟩ := rv.get hx
    have hi : i < xs.length := (List.getElem?_eq_some_iff.mp hx).1
    have l1 : e < s.heap.objs.size := Heap.lt_size he
    have l2 : it < s.heap.objs.size := by obtain ⟨_, q, _⟩ := hit; exact Heap.lt_size q
    refine wpAny_pyNext_enum_itemD (Draws.tuple (prog := X.prog) (w := X.w) (A := X.A.in1) (I.ok.hd hc) it a n2 its.toArray) he ⟨hit, p⟩ (by rw [List.size_toArray, ← rv.length]; exact hi) n1 (by simp [n1, Ne.symm n3]) fun u' h' tk hu' ho hst hT hsz hk => ?_
    obtain rfl : u = u' := by
      have z : its.toArray[i]? = some u := by simpa using hu
      rw [z] at hu'; exact Option.some.inj hu'
    refine ⟨_, rfl, wpAny_letOwnedTupleGo_enum (s := { s with heap := h', toks := tk + 1 }) ho fun h2 he2 sb => ?_⟩
    have hT2 : h2.get? s.heap.objs.size = some { cls := .type "tuple", data := .seq #[.int i tk, u] } := (sb.2 _ (Nat.ne_of_gt l1)).trans hT
    have new : ObjOk X.prog X.w (upd H s.heap.objs.size (.tup [.int (i : Nat), x])) h2 s.heap.objs.size (.tup [.int (i : Nat), x]) :=
      ⟨by show 2 ≤ sizeLine; rw [sizeLine_eq]; decide, [.int i tk, u], .cons ⟨_, rfl⟩ (.cons ru .nil), ⟨_, hT2, rfl, _, rfl⟩⟩
    have I1 : Inv X pins σ (upd H s.heap.objs.size (.tup [.int (i : Nat), x])) { s with heap := h2, toks := tk + 1 } :=
      I.turnedNew (ch := [e, it]) (fun b ob hb q => (sb.2 b fun z => hb (by simp [z])).trans (hk b ob (fun z => hb (by simp [z])) (fun z => hb (by simp [z])) q)) hf (Nat.le_refl _) new
    refine ⟨.ref s.heap.objs.size, _, I1, rfl, ⟨_, x, rfl, I.hok.fresh (Nat.le_refl _), rfl, fun ys hy => by rw [I.tuple_inj hy hq]; exact hx⟩, ⟨⟨⟨u, ?_⟩, hst.1.at fun o q => (sb.2 it (Ne.symm n1)).trans q⟩, ⟨n1, n2, n3⟩, by omega⟩, fun b hb => ?_⟩
    · rw [show ((i + 1 : Nat) : Int) = (i : Int) + 1 by omega]; exact he2
    · have hb' : b ≠ s.heap.objs.size := by
        rcases (show b = e ∨ b = it by simpa using hb) with z | z
        · rw [z]; exact Nat.ne_of_lt l1
        · rw [z]; exact Nat.ne_of_lt l2
      rw [upd_ne hb']
      exact (hf b hb).1
  done := by
    intro X hP hw hK hc i pins s σ H E I hf st hg
    subst hP hw hK
    obtain ⟨⟨⟨old, he⟩, hit⟩, ⟨n1, n2, n3⟩, hle⟩ := st
    obtain ⟨xs, hq, hx, hn⟩ := hg
    obtain ⟨its, rv, p, hz⟩ := I.tuple hq
    obtain ⟨f0, f1, f2, f3, f4, f5⟩ := hf it (by simp)
    have e : i = its.toArray.size := by rw [List.size_toArray, ← rv.length]; omega
    refine wpAny_pyNext_enum_endD (Draws.tuple (prog := X.prog) (w := X.w) (A := X.A.in1) (I.ok.hd hc) it a n2 its.toArray) he ⟨e ▸ hit, p⟩ fun h' eb => ⟨rfl, I.turned (t' := s.toks) (fun b o hb q => eb b o hb q) f0 f1 f3 f4 f5⟩
  self := fun A i s Q E st h => let ⟨⟨⟨_, he⟩, _⟩, _⟩ := st; wpAny_pyIter_enum he h
def iEnumT (K : PySem.W.Frag) (ta : TA) : TI := fun σ H R => ta σ H fun vs H1 => ∃ a xs, vs = [.ref a] ∧ SqT K H1 a xs ∧ R (IteT K a xs.length) H1
theorem pi_enumT {X : Cx} {e : Expr} {ta : TA} {p pos tpos : Pos} {elts : List Expr} {kk : Nat} (hg : Gl X "enumerate") (hm : X.mg "enumerate" = none) (ha : PA X [e] ta) (hs : starEach [e] X.env = [(false, eval e X.env)] := by rfl) :
    PI X (.Tuple elts kk tpos) (.Call (.Name "enumerate" p) [e] [] pos) (iEnumT X.K ta) := by
  refine ⟨fun pins s σ H R I h => PyProof.Rows.Call_ (ld_blt I hg hm PyProof.Rows.boot_enumerate (PyProof.Rows.callWith_type1 (thn (ha.run pos pins s σ H _ I h) fun us s1 ⟨vs, H1, I1, r1, q1⟩ => ?_) hs rfl))⟩
  obtain ⟨a, xs, rfl, hq, q⟩ := q1
  obtain ⟨u, rfl, rfl⟩ : ∃ u, us = [u] ∧ u = Value.ref a := by
    cases r1 with
    | cons r rr => cases rr; exact ⟨_, rfl, r⟩
  obtain ⟨its, rv, p', hz⟩ := I1.tuple hq
  have la : a < s1.heap.objs.size := by obtain ⟨o, g, _⟩ := p'; exact Heap.lt_size g
  refine enumT_call p' fun h' he hit hk => wpAny_pyIter_enum he ?_
  have I2 : Inv X pins σ H1 { s1 with heap := h' } := I1.kept (t' := s1.toks) hk
  refine ⟨s1.heap.objs.size + 1, [s1.heap.objs.size + 1, s1.heap.objs.size], _, _, H1, rfl, I2, turn_enumT a (s1.heap.objs.size + 1) s1.heap.objs.size, ⟨⟨⟨.none, he⟩, hit⟩, ⟨Nat.succ_ne_self _, Nat.ne_of_lt la, Nat.ne_of_lt (Nat.lt_succ_of_lt la)⟩, Nat.zero_le _⟩, fun b hb => ?_, q⟩
  have hle : s1.heap.objs.size ≤ b := by
    rcases (show b = s1.heap.objs.size + 1 ∨ b = s1.heap.objs.size by simpa using hb) with z | z
    · rw [z]; exact Nat.le_succ _
    · rw [z]; exact Nat.le_refl _
  exact I1.fpOk hle (I1.hok.fresh hle)

section
variable {K : PySem.W.Frag} {mg : Str → Option Value} {G : Hp} {ex : Addr → Prop} {env : Env} {ow : Ow} {σ : St} {E : XK}
theorem yields_enumT {a : Addr} {xs : List V} {ds : List Dt} (h : SqT K G a xs) (r : RepA K mg G xs ds) : Yields K mg G (IteT K a xs.length) (enumD 0 ds) where
  go := fun i H l hi => by
    rw [enumD_length, ← r.length] at hi
    exact ⟨xs, xs[i], l.t h, by simp, rfl⟩
  stop := fun i H l hi => by
    rw [enumD_length, ← r.length] at hi
    exact ⟨xs, l.t h, hi, rfl⟩
  yld := fun L i H v H' tr l hi ⟨T, x, e1, e2, e3, y⟩ => by
    subst e1; subst e3
    obtain ⟨d, h1, h2⟩ := r.get' (y xs (((l.trans (cut_le L _))).t h))
    obtain ⟨l2, e4⟩ := Le.fresh (L := L) (o := .tup [.int (i : Nat), x]) tr e2
    refine ⟨.new e2, _, enumD_get ds i 0 d h1, .tup (SqT.of e4) (.cons ?_ (.cons (h2.mono (l.trans l2)) .nil))⟩
    rw [Int.zero_add]; exact .int _
def enumT1 (l : List R) : M (List Dt) := match l with
  | [r] => (frz r).bind fun d => fun env => match d with
    | .tup ds => some (.ok (enumD 0 ds) env)
    | _ => none
  | _ => fun _ => none
def mEnumT (a : M R) : M (List Dt) := (mA [a]).bind enumT1
theorem t_enumT {a : M R} (σ : St) (H : Hp) (R : It → Hp → Prop) (h : tI K mg E (mEnumT a) σ H R) : iEnumT K (tMa K mg E (mA [a])) σ H R := by
  obtain ⟨ex, env, ow, S, w⟩ := h
  refine ⟨ex, env, ow, S, (WP.bind.mp w).mono (fun l env1 w1 vs H1 ow1 P1 S1 hh => ?_) fun _ _ z => z⟩
  unfold enumT1 at w1
  split at w1
  · rename_i r
    cases hh with
    | cons hr t =>
      cases t
      obtain ⟨d, env2, ow2, S2, P2, r2, w2⟩ := WP.frz S1 hr (WP.bind.mp w1)
      cases d with
      | tup ds =>
        cases r2 with
        | tup h1 h2 => exact ⟨_, _, rfl, (cut_le _ _).t h1, (show kI K mg ex env ow σ H R (enumD 0 ds) env2 from w2) H1 ow2 _ _ (P1.trans P2) S2 (.refl _) (yields_enumT h1 h2)⟩
      | _ => exact w2.elim
  · exact w1.elim
end
section
variable {X : Cx} {E : XK} {a : Expr} {es : List Expr} {kk : Nat} {p pos tpos : Pos} {ma : M R}
theorem di_enumT (hg : Gl X "enumerate") (hm : X.mg "enumerate" = none) (ha : DE X E a ma) (hs : starEach [a] X.env = [(false, eval a X.env)] := by rfl) : DI X E (.Tuple es kk tpos) (.Call (.Name "enumerate" p) [a] [] pos) (mEnumT ma) :=
  PI.weak (pi_enumT hg hm (da_cons ha da_nil (by rw [hs] <;> rfl)) hs) t_enumT
end
end DL

/-! DMf: rules for texts. -/
namespace DL
open PySem L2
def gEq2 := gOr gEq gEqT
def gNe2 := gOr gNe gNeT
def gLess2 := gOr gLess gLtT
def gIn2 := gOr gIn gInS
def gSort2 := gCOr gSortS gSortI
section
variable {X : Cx} {E : XK} {a b c e f o : Expr} {es : List Expr} {p p2 q pos : Pos} {x : Str} {k n i : Nat} {ma mb mc m : M R} {ml : List (M R)}
theorem d_times (ha : DE X E a ma) (hb : DE X E b mb) : DE X E (.BinOp a .Mult b pos) (mOp gTimes ma mb) := d_op (op_mul.or (op_repS.or op_rep)) (os_or os_mul (os_or os_repS os_repL)) ha hb
theorem dt_eq2 (bd : Bd X k E) (ha : DE X E a ma) (hb : DE X E b mb) (hm : behindInMarks .Eq b = false := by rfl) : DT X E (.Compare a [.Eq] [b] pos) (mTC gEq2 ma mb) := d_test (op_eq.or (op_eqD bd.room.units)) (os_or os_eq os_eqT) ha hb hm
theorem dt_ne2 (bd : Bd X k E) (ha : DE X E a ma) (hb : DE X E b mb) (hm : behindInMarks .NotEq b = false := by rfl) : DT X E (.Compare a [.NotEq] [b] pos) (mTC gNe2 ma mb) := d_test (op_ne.or (op_neD bd.room.units)) (os_or os_ne os_neT) ha hb hm
theorem dv_eq2 (bd : Bd X k E) (ha : DE X E a ma) (hb : DE X E b mb) (hm : behindInMarks .Eq b = false := by rfl) : DE X E (.Compare a [.Eq] [b] pos) (mOp gEq2 ma mb) := d_cmp (op_eq.or (op_eqD bd.room.units)) (os_or os_eq os_eqT) ha hb hm
theorem dv_ne2 (bd : Bd X k E) (ha : DE X E a ma) (hb : DE X E b mb) (hm : behindInMarks .NotEq b = false := by rfl) : DE X E (.Compare a [.NotEq] [b] pos) (mOp gNe2 ma mb) := d_cmp (op_ne.or (op_neD bd.room.units)) (os_or os_ne os_neT) ha hb hm
theorem dt_lt2 (bd : Bd X k E) (ha : DE X E a ma) (hb : DE X E b mb) (hm : behindInMarks .Lt b = false := by rfl) : DT X E (.Compare a [.Lt] [b] pos) (mTC gLess2 ma mb) := d_test ((op_lt.or op_lt_str).or (op_ltK bd.room.units)) (os_or (os_or os_lt os_ltS) os_ltK) ha hb hm
theorem dv_lt2 (bd : Bd X k E) (ha : DE X E a ma) (hb : DE X E b mb) (hm : behindInMarks .Lt b = false := by rfl) : DE X E (.Compare a [.Lt] [b] pos) (mOp gLess2 ma mb) := d_cmp ((op_lt.or op_lt_str).or (op_ltK bd.room.units)) (os_or (os_or os_lt os_ltS) os_ltK) ha hb hm
theorem dv_le (ha : DE X E a ma) (hb : DE X E b mb) (hm : behindInMarks .LtE b = false := by rfl) : DE X E (.Compare a [.LtE] [b] pos) (mOp gLe ma mb) := d_cmp op_le os_le ha hb hm
theorem dv_gt (ha : DE X E a ma) (hb : DE X E b mb) (hm : behindInMarks .Gt b = false := by rfl) : DE X E (.Compare a [.Gt] [b] pos) (mOp gGt ma mb) := d_cmp op_gt os_gt ha hb hm
theorem dv_isN (ha : DE X E a ma) (hb : DE X E b mb) (hm : behindInMarks .Is b = false := by rfl) : DE X E (.Compare a [.Is] [b] pos) (mOp gIsN ma mb) := d_cmp op_isN os_isN ha hb hm
theorem dt_in2 (ha : DE X E a ma) (hb : DE X E b mb) (hm : behindInMarks .In b = false := by rfl) : DT X E (.Compare a [.In] [b] pos) (mTC gIn2 ma mb) := d_test (op_in_seq.or op_in_sign) (os_or os_in os_inS) ha hb hm
theorem dv_in2 (ha : DE X E a ma) (hb : DE X E b mb) (hm : behindInMarks .In b = false := by rfl) : DE X E (.Compare a [.In] [b] pos) (mOp gIn2 ma mb) := d_cmp (op_in_seq.or op_in_sign) (os_or os_in os_inS) ha hb hm
theorem dt_leLe (ha : DE X E a ma) (hb : DE X E b mb) (hc : DE X E c mc) (hm : lastMarks [.LtE, .LtE] [b, c] = false := by with_unfolding_all rfl) : DT X E (.Compare a [.LtE, .LtE] [b, c] pos) (mT (mChain gLe gLe ma mb mc)) :=
  PT.weak (pt_chain op_le op_le ha hb hc hm) fun σ H Q h => by
    obtain ⟨ex, env, ow, S, w⟩ := t_T σ H Q h
    exact t_chain os_le os_le σ H _ ⟨ex, env, ow, S, w⟩
theorem dv_not (ha : DE X E a ma) : DE X E (.UnaryOp .Not a pos) (mNotV ma) := PE.weak (pe_not ha) t_notV
theorem d_forget (i : Nat) (ha : DE X E a ma) : DE X E a (mForget i ma) := PE.weak ha t_forget
theorem d_sortSet (bd : Bd X k E) (hg : Gl X "sorted") (hm : X.mg "sorted" = none) (hg2 : Gl X "set") (hm2 : X.mg "set" = none) (ha : DE X E a ma) (na : starEach [a] X.env = (false, eval a X.env) :: starEach [] X.env := by rfl) :
    DE X E (.Call (.Name "sorted" p) [.Call (.Name "set" p2) [a] [] q] [] pos) (mUn gSS ma) := PE.weak (MS.pe_sortSet bd.calm bd.room.units hg hm hg2 hm2 ha na) (t_un us_ss)
/-- a name of the module that stands for a number or a text -/
theorem d_gcon {u : Value} {v : V} {d : Dt} (hm : X.mg x = some u) (r : RelV v u) (rd : ∀ H, Rep X.K X.mg H v d) (hg : Gl X x) (hd : (x == ("__debug__" : Str)) = false := by decide) : DE X E (.Name x pos) (mC d) := dc (pe_glob hg hm r hd) rd

/-! ### a call of a def that a local name holds -/
def tabF : List (Str × Fs) → Str → Option Fs
  | [], _ => none
  | (y, f) :: l, x => if x = y then some f else tabF l x
def mFnL (i : Nat) (tab : List (Str × Fs)) (l : List (M R)) : M R := fun env => match gs env i with
  | some (.glob y, .fz) => match tabF tab y with
    | some fs => mFn fs l env
    | none => none
  | _ => none
theorem pe_callGL {f : Addr} {fd : FuncData} {ps : List Str} {sp : Sp} {t : TA} (F : FnG X.prog X.w X.K X.mg X.base k f fd ps sp) (bd : Bd X k E) (hv : PE X (.Name x p) (tVar i)) (hk : PySem.W.keepIn X.K (.ref f) = true) (hb : Binds X.K fd ps [])
    (ha : PA X (e :: es) t) (he : starEach (e :: es) X.env = (false, eval e X.env) :: starEach es X.env := by rfl) (hpl : (backTo pos (starEach es X.env)).any (·.1) = false := by rfl) :
    PE X (.Call (.Name x p) (e :: es) [] pos) (fun σ H Q => σ[i]? = some (some (.ref f)) ∧ t σ H fun vs H1 => sp (vs ++ []) H1 Q E) := by
  refine ⟨fun pins s σ H Q I ⟨hs, ht⟩ => wpAny_Call_Name_kw (thn (hv.run pins s σ H (fun v H1 => v = .ref f ∧ H1 = H) I ⟨.ref f, hs, rfl, rfl⟩) fun u s1 ⟨v, H1, I1, r1, q1⟩ => ?_)⟩
  obtain ⟨rfl, rfl⟩ := q1
  cases r1
  exact PySem.W.callWith_K (h₀ := X.base) I1.ok.mod.kin hk (thn (ha.run pos pins s1 σ _ _ I1 ht) fun us s2 ⟨vs, H2, I2, r, q⟩ => ⟨I2.kIn, runG F bd hb .nil I2 r q⟩) he hpl
theorem d_fnL {tab : List (Str × Fs)} (T : ∀ y fs, tabF tab y = some fs → Df X.prog X.w X.K X.mg X.base k n y fs) (bd : Bd X k E) (hv : PE X (.Name x p) (tVar i)) (ha : DA X E (e :: es) ml)
    (he : starEach (e :: es) X.env = (false, eval e X.env) :: starEach es X.env := by rfl) (hpl : (backTo pos (starEach es X.env)).any (·.1) = false := by rfl) : DE X E (.Call (.Name x p) (e :: es) [] pos) (mFnL i tab ml) := by
  refine ⟨fun pins s σ H Q I ⟨ex, env, ow, S, w⟩ => ?_⟩
  unfold WP mFnL at w
  cases z : gs env i with
  | none => simp only [z] at w
  | some y =>
    obtain ⟨d, md⟩ := y
    have q := S.slot i
    rw [z] at q
    cases d with
    | glob y =>
      cases md with
      | fz =>
        cases c : tabF tab y with
        | none => simp only [z, c] at w
        | some fs =>
          simp only [z, c] at w
          have D := T y fs c
          obtain ⟨f, fd, ps, hl, F, hm, hk, hb⟩ := D.ok
          obtain ⟨_, v, e1, r⟩ := q
          have ev : v = .ref f := by
            cases r with
            | glob hm2 => rw [hm] at hm2; cases hm2; rfl
          subst ev
          refine (pe_callGL F bd hv hk hb ha he hpl).run pins s σ H Q I ⟨gv_some e1, ?_⟩
          exact t_fn D.io σ H Q ⟨ex, env, ow, S, w⟩
      | ow => simp only [z] at w
      | io => simp only [z] at w
    | _ => cases md <;> simp only [z] at w
end
end DL

/-! DMg: instances of own classes: fields, properties, truth, isinstance, making. -/
namespace DL
open PySem L2

/-- what the top says of a class: plain instances with a dict -/
structure InsC (K : PySem.W.Frag) (C : Addr) : Prop where
  cls : Cls K C
  ca : PySem.W.findIn K (.ref C) "__class__" = some (some (.builtin "object.__class__"))
  cn : PySem.W.specialIn K (.builtin "object.__class__") "__get__" = some (some (.builtin "getset_descriptor.__get__"))
  ct : PySem.W.takesIn K (.builtin "object.__class__") = some true
  cm : PySem.W.mroIn K C (.type "object") = some true
  kit : ∀ t ∈ tyNames, PySem.W.kitOne K (.type t) (.ref C) = some false
  nb : PySem.W.findIn K (.ref C) "__bool__" = some none
  nl : PySem.W.findIn K (.ref C) "__len__" = some none
section
variable {K : PySem.W.Frag} {mg : Str → Option Value} {G H : Hp}
theorem RepF.lookup {f : Str} {d : Dt} : ∀ {vf : List (Str × V)} {fs : List (Str × Dt)}, RepF K mg G vf fs → fs.lookup f = some d → ∃ v, vf.lookup f = some v ∧ Rep K mg G v d
  | _, _, .nil, e => by cases e
  | (f', v) :: vf, (_, d') :: fs, .cons r t, e => by
    rw [List.lookup_cons] at e ⊢
    cases c : f == f' with
    | true => rw [c] at e; cases e; exact ⟨v, rfl, r⟩
    | false => rw [c] at e; exact RepF.lookup t e
theorem ins_of {L : Addr → Prop} {x : V} {c : Str} {fs : List (Str × Dt)} (h : Rdb K mg (cut L H) H x (.ins c fs)) : ∃ a C dx vf, x = .ref a ∧ mg c = some (.ref C) ∧ H a = some (.ins C dx vf) ∧ RepF K mg (cut L H) vf fs := by
  rcases h with h | ⟨a, ob, e, ha, xs, ds', e1, e2, r⟩
  · cases h with
    | ins h1 h2 r => exact ⟨_, _, _, _, rfl, h1, cut_le L H _ _ h2, r⟩
  · cases e2
/-! ### a field -/
def rFld (K : PySem.W.Frag) (f : Str) : V → Hp → VK → Prop := fun x H Q => ∃ a C dx fs v, x = .ref a ∧ H a = some (.ins C dx fs) ∧ Cls K C ∧ NoAttr K C f ∧ fs.lookup f = some v ∧ Q v H
def gFld (c f : Str) : Dt → Option R := fun d => match d with
  | .ins c' fs => if c' = c then (fs.lookup f).map .val else none
  | _ => none
theorem us_fld {c f : Str} (T : ∀ C, mg c = some (.ref C) → Cls K C ∧ NoAttr K C f) : UnS K mg (rFld K f) (gFld c f) := fun L H x dx rv Q tr rx h k => by
  unfold gFld at h
  split at h
  · rename_i c' fs
    split at h
    · rename_i e
      subst e
      obtain ⟨d, h1, rfl⟩ := Option.map_eq_some_iff.mp h
      obtain ⟨a, C, dx, vf, rfl, hm, ha, r⟩ := ins_of rx
      obtain ⟨v, h2, r2⟩ := r.lookup h1
      obtain ⟨t1, t2⟩ := T C hm
      exact ⟨a, C, dx, vf, v, rfl, ha, t1, t2, h2, k v H (.refl H) r2⟩
    · cases h
  · cases h
/-! ### truth -/
def useTI (c : Str) (r : R) : M Bool := fun env => match rs env r with
  | some (.ins c' _) => if c' = c then some (.ok true env) else none
  | _ => none
def mTruI (c : Str) (m : M R) : M Bool := m.bind (useTI c)
def rTruI (K : PySem.W.Frag) : V → Hp → (Bool → Hp → Prop) → Prop := fun x H Q => ∃ a C dx fs, x = .ref a ∧ H a = some (.ins C dx fs) ∧ PySem.W.findIn K (.ref C) "__bool__" = some none ∧ PySem.W.findIn K (.ref C) "__len__" = some none ∧ Q true H
theorem tru_ins {X : Cx} : TruR X (rTruI X.K) := by
  intro pins s σ H x v Q I rx h
  obtain ⟨a, C, dx, fs, rfl, e, h1, h2, q⟩ := h
  cases rx
  obtain ⟨mA, O, _⟩ := ins_get I.hok e
  obtain ⟨od, J, _⟩ := O.look
  obtain ⟨m, hF⟩ := I.fr
  exact PySem.W.truthy_K0 hF I.ok.mod.kin J h1 h2 ⟨H, I, q⟩
/-! ### isinstance -/
def gIsI (c : Str) : List Dt → Option R := fun l => match l with
  | [.ins c' _, .glob y] => if c' = c ∧ y = c then some (.val (.bl true)) else none
  | [d, .glob y] => if y = c then (tyD d).map fun _ => .val (.bl false) else none
  | _ => none
theorem cs_isI {c : Str} (T : ∀ C, mg c = some (.ref C) → InsC K C) : CallS K mg (rIsi K) (gIsI c) := fun L H xs ds rv Q tr rx e k => by
  unfold gIsI at e
  split at e
  · rename_i c' fs y
    split at e
    · rename_i hc
      obtain ⟨rfl, rfl⟩ := hc
      cases e
      cases rx with
      | cons r1 rr =>
        cases rr with
        | cons r2 rr =>
          cases rr
          have q2 := r2.rep
          cases q2 with
          | @glob C _ hm2 =>
            obtain ⟨a, C', dx, vf, rfl, hm, ha, _⟩ := ins_of r1
            rw [hm2] at hm
            cases hm
            have t := T C hm2
            refine ⟨.ref a, .ref C, .ref C, .ref C, true, rfl, .own C, .base (.ins ha t.cls t.ca t.cn t.ct t.cm), ?_, k _ H (.refl H) (.bl true)⟩
            unfold PySem.W.kitOne
            rw [if_pos (by simp)]
    · cases e
  · rename_i d y hno
    split at e
    · rename_i hc
      subst hc
      obtain ⟨t, ht, rfl⟩ := Option.map_eq_some_iff.mp e
      cases rx with
      | cons r1 rr =>
        cases rr with
        | cons r2 rr =>
          cases rr
          have q2 := r2.rep
          cases q2 with
          | @glob C _ hm2 => exact ⟨_, .ref C, _, .ref C, false, rfl, .own C, tyX_of (G := H) r1 ht, (T C hm2).kit t (tyD_mem ht), k _ H (.refl H) (.bl false)⟩
    · cases e
  · cases e
end
section
variable {X : Cx} {E : XK} {a b e o : Expr} {es : List Expr} {p pos : Pos} {x c f : Str} {k n i : Nat} {ma m : M R} {ml : List (M R)}
theorem d_fld (T : ∀ C, X.mg c = some (.ref C) → Cls X.K C ∧ NoAttr X.K C f) (he : DE X E e m) (hb : attributeBase e f X.env (eval e X.env) = eval e X.env) : DE X E (.Attribute e f pos) (mUn (gFld c f) m) := PE.weak (pe_fld he hb) (t_un (us_fld T))
theorem dt_truI (T : ∀ C, X.mg c = some (.ref C) → InsC X.K C) (he : DE X E e m) (hs : ∀ whole, isTrue e X.env whole = (do let v ← whole; standAt e.pos; holding [v] (truthy v)) := by intro _; rfl) : DT X E e (mTruI c m) :=
  PT.weak (pt_truthR he tru_ins hs) fun σ H Q ⟨ex, env, ow, S, w⟩ => by
    refine ⟨ex, env, ow, S, (WP.bind.mp w).mono (fun ra env1 w1 v1 H1 ow1 P1 R1 => ?_) fun _ _ z => z⟩
    unfold WP useTI at w1
    cases z : rs env1 ra with
    | none => simp only [z] at w1
    | some d =>
      cases d with
      | ins c' fs =>
        by_cases hc : c' = c
        · subst hc
          simp only [z, if_true] at w1
          obtain ⟨a, C, dx, vf, rfl, hm, ha, _⟩ := ins_of ((R1.held S.tr).rdb R1.sr z)
          exact ⟨a, C, dx, vf, rfl, ha, (T C hm).nb, (T C hm).nl, w1 H1 ow1 P1 R1.sr⟩
        · simp only [z, if_neg hc] at w1
      | _ => simp only [z] at w1
end

/-! ### properties -/
/-- return self.f[i] -/
def getIx (K : PySem.W.Frag) (C : Addr) (f : Str) (i : Nat) : Sp := fun vs H Q _ => ∃ a dx fs t xs v, vs = [.ref a] ∧ H a = some (.ins C dx fs) ∧ fs.lookup f = some (.ref t) ∧ SqT K H t xs ∧ xs[i]? = some v ∧ Q v H
theorem fn_getterI {CX : CXT} {P : Program} {w : World} {K : PySem.W.Frag} {mg : Str → Option Value} {base : Heap} {k : Nat} {fa C : Addr} {name qual f : Str} {i j0 : Nat} {params : Arguments} {body : List Stmt} {scope : Scope} {dV kV doc pm cdv ct oc : Value} {an od : Option Addr}
    {osl : Array (Option Value)} {N : List Str} {p1 p2 p3 p4 p5 : Pos} (lk : K.lookup fa = some ⟨oc, od, .func (PySem.W.fnOf name qual params body scope dV kV doc pm an cdv ct), osl⟩) (hcd : PySem.W.codeIn K cdv qual = true) (S : FnScope N ["self"] scope)
    (hN : N[0]? = some ("self" : Str)) (hb : body = [.Return (some (.Subscript (.Attribute (.Name "self" p1) f p2) (.Constant (.int i) j0 p4) p5)) p3]) (c : Cls K C) (n : NoAttr K C f) :
    FnOk P w K mg base CX (k + 1) fa (PySem.W.fnOf name qual params body scope dV kV doc pm an cdv ct) ["self"] (getIx K C f i) := by
  refine fn_of lk hcd S (fun vs H Q E h => ?_) (fun A outer s H vs Q E hr h => ?_)
  · obtain ⟨a, dx, fs, t, xs, v, e, _⟩ := h
    rw [e]; rfl
  · obtain ⟨a, dx, fs, t, xs, v, e, ea, l, hq, hx, q⟩ := h
    subst e
    subst hb
    refine ⟨_, pss_one (ps_ret (pe_ix ix_tup (pe_fld (pe_var (i := 0) hN ((S.par "self" (List.Mem.head _)).elim (fun z => .inl z) (fun z => .inr (.inl z)))) rfl) pe_int (fun _ _ => rfl))), ?_⟩
    refine ⟨.ref a, rfl, a, C, dx, fs, .ref t, rfl, ea, c, n, l, ?_⟩
    exact ⟨t, xs, (i : Int), v, rfl, rfl, hq, atI_nat hx, q⟩
/-- what the top says of a property of a class -/
structure PrpC (P : Program) (w : World) (K : PySem.W.Frag) (mg : Str → Option Value) (base : Heap) (c f : Str) (sp : Addr → Sp) : Prop where
  ex : ∀ C, mg c = some (.ref C) → Cls K C ∧ ∃ (pr g : Addr) (fd : FuncData) (ps : List Str), PropOf K C f pr g ∧ FnOk P w K mg base (fun _ _ _ _ _ _ => False) 1 g fd ps (sp C) ∧ Binds K fd ps []
def rPrp (mg : Str → Option Value) (c : Str) (sp : Addr → Sp) (E : XK) : V → Hp → VK → Prop := fun x H Q => ∃ C a dx fs, mg c = some (.ref C) ∧ x = .ref a ∧ H a = some (.ins C dx fs) ∧ sp C [.ref a] H Q E
section
variable {K : PySem.W.Frag} {mg : Str → Option Value}
def gPrp (c f : Str) (i : Option Nat) : Dt → Option R := fun d => match d with
  | .ins c' fs => if c' = c then match fs.lookup f, i with
    | some d, none => some (.val d)
    | some (.tup ds), some i => (ds[i]?).map .val
    | _, _ => none
    else none
  | _ => none
def spPrp (K : PySem.W.Frag) (f : Str) (i : Option Nat) (C : Addr) : Sp := match i with
  | none => getSp C f
  | some i => getIx K C f i
theorem us_prp {c f : Str} {i : Option Nat} {E : XK} : UnS K mg (rPrp mg c (spPrp K f i) E) (gPrp c f i) := fun L H x dx rv Q tr rx h k => by
  unfold gPrp at h
  split at h
  · rename_i c' fs
    split at h
    · rename_i e
      subst e
      obtain ⟨a, C, dx, vf, rfl, hm, ha, r⟩ := ins_of rx
      split at h
      · rename_i d h1
        cases h
        obtain ⟨v, h2, r2⟩ := r.lookup h1
        exact ⟨C, a, dx, vf, hm, rfl, ha, a, dx, vf, v, rfl, ha, h2, k v H (.refl H) r2⟩
      · rename_i ds i h1
        obtain ⟨d, h3, rfl⟩ := Option.map_eq_some_iff.mp h
        obtain ⟨v, h2, r2⟩ := r.lookup h1
        cases r2 with
        | tup hq ra =>
          obtain ⟨u, hu, ru⟩ := ra.get h3
          exact ⟨C, a, dx, vf, hm, rfl, ha, a, dx, vf, _, _, u, rfl, ha, h2, (cut_le L H).t hq, hu, k u H (.refl H) ru⟩
      · cases h
    · cases h
  · cases h
end
section
variable {X : Cx} {E : XK} {e : Expr} {pos : Pos} {c f : Str} {k : Nat} {m : M R} {i : Option Nat} {fl : Str}
theorem pe_prpC {ta : TE} {sp : Addr → Sp} (T : PrpC X.prog X.w X.K X.mg X.base c f sp) (bd : Bd X k E) (h2 : 2 ≤ k) (he : PE X e ta) (hab : attributeBase e f X.env (eval e X.env) = eval e X.env) : PE X (.Attribute e f pos) (tUn (rPrp X.mg c sp (fun _ _ _ => False)) ta) := by
  refine ⟨fun pins s σ H Q I h => ?_⟩
  refine attr_of hab (thn (he.run pins s σ H _ I h) fun u s1 ⟨x, H1, I1, rx, C, a, dx, fs, hm, ex, ea, q⟩ => ?_)
  subst ex
  obtain rfl : u = Value.ref a := rx
  obtain ⟨cl, pr, g, fd, ps, hp, F, hb⟩ := T.ex C hm
  exact getprop_ok I1 ea cl hp F (bd.room.mono h2) hb .nil (fun _ _ _ _ _ _ _ z => z.elim) q
theorem d_prp (T : PrpC X.prog X.w X.K X.mg X.base c f (spPrp X.K fl i)) (bd : Bd X k E) (h2 : 2 ≤ k) (he : DE X E e m) (hab : attributeBase e f X.env (eval e X.env) = eval e X.env) : DE X E (.Attribute e f pos) (mUn (gPrp c fl i) m) :=
  PE.weak (pe_prpC T bd h2 he hab) (t_un us_prp)
end
end DL

/-! DMh: making an instance whose __init__ looks at its parameters and keeps one thing. -/
namespace DL
open PySem L2

/-- a def with defaults, by its body, where no guard runs -/
theorem fn_bodyD {P : Program} {w : World} {K : PySem.W.Frag} {mg : Str → Option Value} {base : Heap} {x qual : Str} {params : Arguments} {body : List Stmt} {scope : Scope} {dvs : List V} {kws : List (Str × V)} {f : Addr} {fd : FuncData} {N ps : List Str} {k : Nat} {sp : Sp}
    (F : FunD K x qual params body scope dvs kws f fd) (S : FnScope N ps scope) (len : ∀ vs H Q E, sp vs H Q E → vs.length = ps.length)
    (hbody : ∀ (cdv : Value) (A : Around) (outer : List PySem.Env) (s : Shared) (H : Hp) (vs : List V) (Q : VK) (E : XK), Bd (cxOf (L2.CX P w) P w K mg base N qual scope f cdv A outer s H E) k E → sp vs H Q E →
      ∃ t, PSs (cxOf (L2.CX P w) P w K mg base N qual scope f cdv A outer s H E) body t ∧ t { nx := fun _ H' => Q .non H', rt := Q } (start N vs) H) : FnG P w K mg base (k + 1) f fd ps sp := by
  obtain ⟨oc, od, dV, kV, doc, pm, an, cdv, ct, osl, rfl, lk, hcd, _, _⟩ := F.ex
  refine ⟨len, fun A outer s H args us vs Q E hg hr e0 hb r hsp => ?_⟩
  have KX : K.In s.heap := e0.mod.kin.keeps fun b o e => (e0.bs b o e).1
  have lm : s.heap.NoLimit := e0.mod.nolimit.keeps fun b o e => (e0.bs b o e).1
  have kd : ∀ y ∈ ps.zip us, scope.names.lookup y.1 = some .local ∨ (scope.names.lookup y.1 = some .cell ∧ ((cellsFrom (s.heap.objs.size + 1) scope.names []).lookup y.1).isSome = true) := by
    rintro ⟨n, v⟩ hy
    rcases S.par n (List.of_mem_zip hy).1 with q | q
    · exact .inl q
    · exact .inr ⟨q, PySem.W.cellsFrom_some _ _ _ (.inl q)⟩
  refine codeAny_call_function hr.depth (KX _ _ lk) rfl S.co S.gen rfl (PySem.W.codeRec_of KX hcd) (hb _ _ _ _ (wpAny_newFunctionEnv_cells S.kind kd fun env he s1 y => ?_))
  subst he
  have I : Inv (cxOf (L2.CX P w) P w K mg base N qual scope f cdv A outer s H E) [] (start N vs) H s1 := inv_start S hr.hd e0 (len _ _ _ _ hsp) r y
  have tk : Takes (cxOf (L2.CX P w) P w K mg base N qual scope f cdv A outer s H E) (fun cls d _ H => E cls d H) := takes_of rfl rfl rfl rfl
  obtain ⟨t, ht, hq⟩ := hbody cdv A outer s H vs Q E ⟨rfl, hr.deeper _, hg, passes_call tk (fun _ _ _ _ h => h), passes_of rfl, tk⟩ hsp
  refine ⟨lm.keeps y.toInCall.keep, codeAny_func (wpAny_mono (ht.run [] s1 (start N vs) H _ I hq) (fun fl s' hs => ?_) fun e s' hs => hs)⟩
  cases fl with
  | ret u => obtain ⟨v, σ', H', J, rv, q⟩ := hs; exact ⟨v, H', J.os, J.bare, J.base, J.hok, rv, q⟩
  | next => obtain ⟨σ', H', J, q⟩ := hs; exact ⟨V.non, H', J.os, J.bare, J.base, J.hok, rfl, q⟩
  | brk => exact False.elim (let ⟨_, _, _, q⟩ := hs; q)
  | cont => exact False.elim (let ⟨_, _, _, q⟩ := hs; q)

def parE (ds : List Dt) : Env := none :: ds.map fun d => some (d, Md.fz)
/-- what such an __init__ promises: m runs on the parameters, its value is kept -/
def spNew (K : PySem.W.Frag) (mg : Str → Option Value) (C : Addr) (f : Str) (n : Nat) (m : M R) : Sp := fun vs H Q _ => ∃ x dx us ds ex d e, vs = .ref x :: us ∧ us.length = n ∧ H x = some (.ins C dx []) ∧ ex x ∧ SR K mg ex (parE ds) (fun _ => none) ((V.ref x :: us).map some) H ∧
  m (parE ds) = some (.ok (.val d) e) ∧ ∀ H' v, (∀ a o, a ≠ x → H a = some o → H' a = some o) → H' x = some (.ins C dx [(f, v)]) → Rep K mg (cut ex H') v d → Q .non H'
def mIni : List (M R) → M R → M R
  | [], mv => mv
  | m :: ms, mv => m.bind fun _ => mIni ms mv
def tIni (K : PySem.W.Frag) (mg : Str → Option Value) (E : XK) (f : Str) (mv : M R) : List (M R) → TS
  | [] => sFld K (tVar 0) (tM K mg E mv) f
  | m :: ms => fun D σ H => tM K mg E m σ H fun _ H1 => tIni K mg E f mv ms D σ H1
section
variable {X : Cx} {E : XK} {e o value : Expr} {st : Stmt} {sts : List Stmt} {p p2 pos : Pos} {f : Str} {m mv : M R} {ms : List (M R)}
theorem pi_end (ho : PE X o (tVar 0)) (hv : DE X E value mv) (hs : swapsWith value (some (.Attribute o f p2)) pos.line X.env = pure false := by rfl) : PSs X [.Assign [.Attribute o f p2] value pos] (tIni X.K X.mg E f mv []) := pss_one (ps_fld ho hv hs)
theorem pi_cons (he : DE X E e m) (hr : PSs X sts (tIni X.K X.mg E f mv ms)) (hs : swapsWith e none pos.line X.env = pure false := by rfl) : PSs X (.Expr e pos :: sts) (tIni X.K X.mg E f mv (m :: ms)) := PSs.weak (pss_cons (ps_expr he hs) hr) fun D σ H h => h
end
section
variable {K : PySem.W.Frag} {mg : Str → Option Value} {ex : Addr → Prop} {σ : St} {E : XK} {f : Str} {mv : M R} {x C dx : Addr} {D : Ends}
theorem ini_ok (cl : Cls K C) (na : NoAttr K C f) (hx : ex x) (hσ : gv σ 0 = some (.ref x)) : ∀ {ms : List (M R)} {env : Env} {H : Hp}, SR K mg ex env (fun _ => none) σ H → H x = some (.ins C dx []) →
    WP (mIni ms mv) env (fun r _ => ∀ v H1, (∀ a o, H a = some o → H1 a = some o) → (∃ d, r = .val d ∧ Rep K mg (cut ex H1) v d) → D.nx σ (upd H1 x (.ins C dx [(f, v)]))) (fun _ _ => False) →
    (∀ r e, mIni ms mv env = some (.ok r e) → ∃ d, r = .val d) → tIni K mg E f mv ms D σ H
  | [], env, H, S, h0, w, vl => by
    refine ⟨ex, env, _, S, ?_⟩
    unfold WP at w ⊢
    cases c : mv env with
    | none => rw [show mIni [] mv env = mv env from rfl, c] at w; exact w.elim
    | some r0 =>
      cases r0 with
      | er z e => rw [show mIni [] mv env = mv env from rfl, c] at w; exact w.elim
      | ok r e =>
        rw [show mIni [] mv env = mv env from rfl, c] at w
        obtain ⟨d, rfl⟩ := vl r e c
        intro v H1 ow1 P1 R1
        have o1 : ow1 = fun _ => none := funext fun i => by
          cases z : ow1 i with
          | none => rfl
          | some a => exact absurd (P1.sub i a z) (by simp)
        subst o1
        have keep : ∀ a o, H a = some o → H1 a = some o := fun a o e => P1.keep a o e fun ⟨i, z⟩ => by cases z
        obtain ⟨S1, r1⟩ := R1
        have e1 : cut (lim ex fun _ => none) H1 = cut ex H1 := by
          congr 1
          funext a
          exact propext ⟨fun z => z.elim id (fun ⟨i, z⟩ => nomatch z), .inl⟩
        rw [e1] at r1
        exact ⟨.ref x, gv_some hσ, x, C, dx, [], rfl, keep x _ h0, cl, na, by decide, w v H1 keep ⟨d, rfl, r1⟩⟩
  | m :: ms, env, H, S, h0, w, vl => by
    refine ⟨ex, env, _, S, ?_⟩
    have w' := WP.bind.mp (show WP (m.bind fun _ => mIni ms mv) env _ _ from w)
    unfold WP at w' ⊢
    cases c : m env with
    | none => rw [c] at w'; exact w'.elim
    | some r0 =>
      cases r0 with
      | er z e => rw [c] at w'; exact w'.elim
      | ok r e =>
        rw [c] at w'
        intro v H1 ow1 P1 R1
        have o1 : ow1 = fun _ => none := funext fun i => by
          cases z : ow1 i with
          | none => rfl
          | some a => exact absurd (P1.sub i a z) (by simp)
        subst o1
        have keep : ∀ a o, H a = some o → H1 a = some o := fun a o e => P1.keep a o e fun ⟨i, z⟩ => by cases z
        have S1 : SR K mg ex e (fun _ => none) σ H1 := by
          cases r with
          | val d => exact R1.1
          | loc i => exact R1.1
          | new d =>
            obtain ⟨p, ob, _, _, _, _, S1⟩ := R1
            refine ⟨S1.len, fun i => ?_, S1.inj, (fun i a z => nomatch z), fun a z => S1.tr a (.inl z)⟩
            exact (S1.slot i).mono (cut_sub H1 fun a z => z.elim (fun z => .inl (.inl z)) .inr) fun _ _ z => z
        refine ini_ok cl na hx hσ S1 (keep x _ h0) (WP.mono w' (fun r2 e2 k v2 H2 k2 q => k v2 H2 (fun a o z => k2 a o (keep a o z)) q) fun _ _ z => z) fun r2 e2 z => vl r2 e2 ?_
        show (m.bind fun _ => mIni ms mv) env = _
        unfold M.bind
        rw [c]
        exact z
end
/-- the def of such an __init__ -/
theorem fn_init {P : Program} {w : World} {K : PySem.W.Frag} {mg : Str → Option Value} {base : Heap} {x qual : Str} {params : Arguments} {body : List Stmt} {scope : Scope} {dvs : List V} {kws : List (Str × V)} {fI C : Addr} {fd : FuncData} {ps : List Str} {f : Str} {k n : Nat} {ms : List (M R)} {mv : M R}
    (F : FunD K x qual params body scope dvs kws fI fd) (S : FnScope ps ps scope) (hn : ps.length = n + 1) (cl : Cls K C) (na : NoAttr K C f)
    (hb : ∀ (cdv : Value) (A : Around) (outer : List PySem.Env) (s : Shared) (H : Hp) (E : XK), Bd (cxOf (L2.CX P w) P w K mg base ps qual scope fI cdv A outer s H E) k E → PSs (cxOf (L2.CX P w) P w K mg base ps qual scope fI cdv A outer s H E) body (tIni K mg E f mv ms)) :
    FnG P w K mg base (k + 1) fI fd ps (spNew K mg C f n (mIni ms mv)) := by
  refine fn_bodyD F S (fun vs H Q E ⟨x, dx, us, ds, ex, d, e, h1, h2, _⟩ => by rw [h1, List.length_cons, h2, hn]) fun cdv A outer s H vs Q E bd ⟨x, dx, us, ds, ex, d, e, h1, h2, h3, h4, h5, h6, h7⟩ => ⟨_, hb cdv A outer s H E bd, ?_⟩
  subst h1
  have hst : L2.start ps (V.ref x :: us) = (V.ref x :: us).map some := by
    unfold L2.start
    rw [List.length_cons, h2, hn, Nat.sub_self]
    simp
  rw [hst]
  refine ini_ok cl na h4 rfl h5 h3 ?_ fun r e2 z => ?_
  · unfold WP
    rw [h6]
    intro v H1 kp ⟨d', hd, rv⟩
    cases hd
    refine h7 _ v (fun a o ne z => by rw [upd_ne ne]; exact kp a o z) upd_same ?_
    rw [cut_upd h4]
    exact rv
  · rw [h6] at z
    cases z
    exact ⟨d, rfl⟩

/-! ### the making -/
def newV (m : M R) (ds : List Dt) : Option Dt := match m (parE ds) with
  | some (.ok (.val d) _) => some d
  | _ => none
def mNew (c f : Str) (n : Nat) (m : M R) (ro : List Dt → List Dt) (ml : List (M R)) : M R := (mA ml).bind fun rs => (frzA rs).bind fun ds => fun env => if (ro ds).length = n then match newV m (ro ds) with
  | some d => some (.ok (.val (.ins c [(f, d)])) env)
  | none => none
  else none
section
variable {X : Cx} {k n : Nat} {fI C : Addr} {fd : FuncData} {ps ks : List Str} {E : XK} {x c f : Str} {p pos : Pos} {e : Expr} {es : List Expr} {kws : List Keyword} {m : M R} {ml : List (M R)} {dvs : List V} {ds0 : List Value}
/-- what a call of the class comes to, once its __init__'s parameters are there -/
def tNew (K : PySem.W.Frag) (mg : Str → Option Value) (C : Addr) (f : Str) (n : Nat) (m : M R) (ta : TA) (to : List V → List V) : TE := fun σ H Q => ta σ H fun vs H1 => ∀ x dx, H1 x = none → H1 dx = none → dx ≠ x →
  spNew K mg C f n m (.ref x :: to vs) (upd (upd H1 dx (.own x)) x (.ins C dx [])) (fun v H2 => v = .non ∧ Q (.ref x) H2) (fun _ _ _ => False)
theorem run_newG {sp : Sp} {pins : List (Addr × Obj)} {σ : St} {H : Hp} {s : Shared} {Q : VK} {us ws : List Value} {all : List V} {alls : List Value} (M : Mk X.K C fI) (F : FnG X.prog X.w X.K X.mg X.base k fI fd ps sp) (bd : Bd X (k + 1) E) (I : Inv X pins σ H s) (ra : Vals all alls)
    (hb : ∀ (s' : Shared) (a : Addr), X.K.In s'.heap → BindsTo s' fd ⟨.ref a :: us, ks.zip ws⟩ (ps.zip (.ref a :: alls)))
    (h : ∀ x dx, H x = none → H dx = none → dx ≠ x → sp (.ref x :: all) (upd (upd H dx (.own x)) x (.ins C dx [])) (fun v H2 => v = .non ∧ Q (.ref x) H2) (fun _ _ _ => False)) :
    wpAny (model X.prog X.w) X.A (call (.ref C) us (ks.zip ws)) (EP X pins σ Q) X.xe s := by
  have hq := h (s.heap.objs.size + 1) s.heap.objs.size (I.hok.fresh (Nat.le_succ _)) (I.hok.fresh (Nat.le_refl _)) (Nat.ne_of_lt (Nat.lt_succ_self _))
  have I2 := Inv.made (C := C) I
  have r2 : Vals (V.ref (s.heap.objs.size + 1) :: all) (Value.ref (s.heap.objs.size + 1) :: alls) := .cons rfl ra
  have go := F.run _ X.stack _ _ ⟨Value.ref (s.heap.objs.size + 1) :: us, ks.zip ws⟩ (Value.ref (s.heap.objs.size + 1) :: alls) _ _ (fun _ _ _ => False) (by exact bd.gd) (bd.room.make C us (ks.zip ws)) (I2.env0.make C us (ks.zip ws)) (hb _ _ I2.kIn) r2 hq
  refine wpAny_call (make_map (f := fI) I.kIn M.makes M.init (beq_iff_eq.mp M.fn) (codeAny_mono go fun r s' z => ?_))
  match r, z with
  | .error e, z =>
    exfalso
    obtain ⟨_, _, _, _, _, _, _, _, _, _, _, _, z⟩ := z
    exact z
  | .ok (.ret u), z =>
    obtain ⟨v, H', I3, rv, ev, q3⟩ := I2.after z
    subst ev
    exact ⟨rv, ⟨V.ref (s.heap.objs.size + 1), H', I3, rfl, q3⟩⟩
  | .ok .next, z => exact False.elim z
  | .ok .brk, z => exact False.elim z
  | .ok .cont, z => exact False.elim z
end
end DL

/-! DMi: the rules for it. -/
namespace DL
open PySem L2
section
variable {K : PySem.W.Frag} {mg : Str → Option Value} {E : XK}
theorem parE_len (ds : List Dt) : (parE ds).length = ds.length + 1 := by unfold parE; rw [List.length_cons, List.length_map]
theorem par_slots {G H : Hp} : ∀ {vs : List V} {ds : List Dt}, RepA K mg G vs ds → ∀ i, SlotOk K mg G H (gs (ds.map fun d => some (d, Md.fz)) i) none (gv (vs.map some) i)
  | _, _, .nil, i => by
    have e : gs (([] : List Dt).map fun d => some (d, Md.fz)) i = none := by unfold gs; simp
    rw [e]; rfl
  | _, _, .cons r t, 0 => ⟨rfl, _, rfl, r⟩
  | _, _, .cons r t, i + 1 => by
    have q := par_slots (H := H) t i
    unfold gs gv at q ⊢
    rw [List.map_cons, List.map_cons, List.getElem?_cons_succ, List.getElem?_cons_succ]
    exact q
theorem t_new {C : Addr} {c f : Str} {n : Nat} {m : M R} {ro : List Dt → List Dt} {to : List V → List V} {ml : List (M R)} (hm : mg c = some (.ref C)) (hto : ∀ G vs ds, RepA K mg G vs ds → RepA K mg G (to vs) (ro ds)) (σ : St) (H : Hp) (Q : VK)
    (h : tM K mg E (mNew c f n m ro ml) σ H Q) : tNew K mg C f n m (tMa K mg E (mA ml)) to σ H Q := by
  obtain ⟨ex, env, ow, S, w⟩ := h
  refine ⟨ex, env, ow, S, (WP.bind.mp w).mono (fun l env1 w1 vs H1 ow1 P1 S1 hh x dx h1 h2 ne => ?_) fun _ _ z => z⟩
  obtain ⟨ds, env2, ow2, S2, P2, r2, w2⟩ := WP.frzA S1 hh (WP.bind.mp w1)
  have w3 : WP (fun env => if (ro ds).length = n then match newV m (ro ds) with
    | some d => some (Rs.ok (R.val (.ins c [(f, d)])) env)
    | none => none
    else none) env2 (kV K mg ex env ow σ H Q) (kX K mg ex env ow σ H E) := w2
  unfold WP at w3
  dsimp only at w3
  by_cases hn : (ro ds).length = n
  · rw [if_pos hn] at w3
    cases hv : newV m (ro ds) with
    | none => rw [hv] at w3; exact w3.elim
    | some d =>
      rw [hv] at w3
      have k : kV K mg ex env ow σ H Q (.val (.ins c [(f, d)])) env2 := w3
      have r3 := hto _ _ _ r2
      have l1 : Le H1 (upd (upd H1 dx (.own x)) x (.ins C dx [])) := (Le.new h2).trans (Le.new (by rw [upd_ne (Ne.symm ne)]; exact h1))
      have nx : ¬ lim ex ow2 x := S2.nlim h1
      have e0 : lim (fun a => lim ex ow2 a ∨ a = x) (fun _ => none) = fun a => lim ex ow2 a ∨ a = x := funext fun a => propext ⟨fun z => z.elim id (fun ⟨i, z⟩ => nomatch z), .inl⟩
      have r4 : RepA K mg (cut (fun a => lim ex ow2 a ∨ a = x) (upd (upd H1 dx (.own x)) x (.ins C dx []))) (to vs) (ro ds) := r3.mono (cut_keep (fun a z n => z.elim id fun z => absurd (by rw [z]; exact h1) n) fun a o z _ => l1 a o z)
      have hm2 : ∃ e, m (parE (ro ds)) = some (.ok (.val d) e) := by
        unfold newV at hv
        split at hv
        · rename_i d' e he
          cases hv
          exact ⟨e, he⟩
        · cases hv
      obtain ⟨e, he⟩ := hm2
      refine ⟨x, dx, to vs, ro ds, fun a => lim ex ow2 a ∨ a = x, d, e, rfl, r3.length.trans hn, upd_same, .inr rfl, ⟨?_, fun i => ?_, (fun _ _ _ z => nomatch z), (fun _ _ z => nomatch z), fun a z => ?_⟩, he, fun H3 v kp h3 rv => ⟨rfl, ?_⟩⟩
      · rw [parE_len, List.length_map, List.length_cons, r3.length]
      · rw [e0]
        cases i with
        | zero => rfl
        | succ i => exact par_slots r4 i
      · rcases z with z | z
        · cases q : H1 a with
          | none => exact absurd q (S2.there z)
          | some o => rw [l1 a o q]; exact fun z => nomatch z
        · rw [z, upd_same]; exact fun z => nomatch z
      · have l3 : Le H1 H3 := fun a o z => kp a o (fun e => by rw [e, h1] at z; cases z) (l1 a o z)
        refine k (.ref x) H3 ow2 (P1.trans (P2.trans (.le l3))) ⟨S2.le l3, .ins (dx := dx) (vf := [(f, v)]) hm ?_ (.cons (rv.mono (cut_sub H3 fun a z => .inl z)) .nil)⟩
        rw [cut_out nx]
        exact h3
  · rw [if_neg hn] at w3; exact w3.elim
end
/-- what the top says of such a class -/
structure NewC (P : Program) (w : World) (K : PySem.W.Frag) (mg : Str → Option Value) (base : Heap) (k : Nat) (c f : Str) (n : Nat) (m : M R) (fd : FuncData) (ps : List Str) : Prop where
  ex : ∃ C fI, mg c = some (.ref C) ∧ Mk K C fI ∧ FnG P w K mg base k fI fd ps (spNew K mg C f n m)
section
variable {X : Cx} {k n : Nat} {fd : FuncData} {ps ks : List Str} {E : XK} {x f : Str} {p pos : Pos} {e : Expr} {es : List Expr} {kws : List Keyword} {m : M R} {ml : List (M R)} {dvs : List V} {dds : List Dt} {ds0 : List Value}
/-- C(e, ..), the defaults behind -/
theorem d_newP (T : NewC X.prog X.w X.K X.mg X.base k x f n m fd ps) (bd : Bd X (k + 1) E) (hg : Gl X x) (hb : Binds X.K fd ps ds0) (hd : Vals dvs ds0) (hr : ∀ G, RepA X.K X.mg G dvs dds) (ha : DA X E (e :: es) ml)
    (hdb : (x == ("__debug__" : Str)) = false := by decide) (he : starEach (e :: es) X.env = (false, eval e X.env) :: starEach es X.env := by rfl) (hpl : (backTo pos (starEach es X.env)).any (·.1) = false := by rfl) :
    DE X E (.Call (.Name x p) (e :: es) [] pos) (mNew x f n m (fun ds => ds ++ dds) ml) := by
  obtain ⟨C, fI, hm, M, F⟩ := T.ex
  refine PE.weak (t := tNew X.K X.mg C f n m (tMa X.K X.mg E (mA ml)) (fun vs => vs ++ dvs)) ⟨fun pins s σ H Q I h => ?_⟩ (t_new hm fun G vs ds r => r.append (hr G))
  refine wpAny_Call_Name_kw (ld_glob I hg hm ?_ hdb)
  refine PySem.W.callWith_K (h₀ := X.base) I.ok.mod.kin M.kp (thn (ha.run pos pins s σ H _ I h) fun us s1 ⟨vs, H1, I1, r, q⟩ => ⟨I1.kIn, ?_⟩) he hpl
  refine run_newG (ks := []) (ws := []) M F bd I1 (r.append hd) (fun s' a KI => ?_) q
  refine hb s' (.ref a :: us) KI ?_
  have z := F.len _ _ _ _ (q (s1.heap.objs.size + 1) s1.heap.objs.size (I1.hok.fresh (Nat.le_succ _)) (I1.hok.fresh (Nat.le_refl _)) (Nat.ne_of_lt (Nat.lt_succ_self _)))
  rw [← z, List.cons_append, List.length_cons, List.length_cons, (r.append hd).length]
/-- C(k = v, ..) -/
theorem d_newK {g : List Value → List Value → List Value} {gV : List V → List V → List V} {ro : List Dt → List Dt} {to : List V → List V} {tv : List Value → List Value} (T : NewC X.prog X.w X.K X.mg X.base k x f n m fd ps) (bd : Bd X (k + 1) E) (hg : Gl X x) (hb : KBn X.K fd ps 1 ks g gV)
    (hgV : ∀ a zs, gV [a] zs = a :: to zs) (hg0 : ∀ a ws, g [a] ws = a :: tv ws) (hto : ∀ G vs ds, RepA X.K X.mg G vs ds → RepA X.K X.mg G (to vs) (ro ds)) (hlen : ∀ zs : List V, (to zs).length = n → zs.length = ks.length) (ha : PK X kws (tMa X.K X.mg E (mA ml)))
    (hall : (backToKw pos (keywordEach kws X.env)).all (·.1.isSome) = true := by rfl) (hks : (backToKw pos (keywordEach kws X.env)).filterMap (·.1) = ks := by rfl)
    (hdb : (x == ("__debug__" : Str)) = false := by decide) (hpl : ((backTo pos (starEach [] X.env)).any (·.1) || (backToKw pos (keywordEach kws X.env)).any (·.1.isNone)) = false := by rfl) :
    DE X E (.Call (.Name x p) [] kws pos) (mNew x f n m ro ml) := by
  obtain ⟨C, fI, hm, M, F⟩ := T.ex
  refine PE.weak (t := tNew X.K X.mg C f n m (tMa X.K X.mg E (mA ml)) to) ⟨fun pins s σ H Q I h => ?_⟩ (t_new hm hto)
  refine wpAny_Call_Name_kw (ld_glob I hg hm ?_ hdb)
  refine PySem.W.callWith_KW0 (h₀ := X.base) I.ok.mod.kin M.kp hall ?_ hpl
  refine thn (ha.run pos pins s σ H _ I h) fun ws s1 ⟨zs, H1, I1, rz, q⟩ => ⟨I1.kIn, ?_⟩
  rw [hks]
  have sp0 := q (s1.heap.objs.size + 1) s1.heap.objs.size (I1.hok.fresh (Nat.le_succ _)) (I1.hok.fresh (Nat.le_refl _)) (Nat.ne_of_lt (Nat.lt_succ_self _))
  obtain ⟨_, _, us', _, _, _, _, e1, e2, _⟩ := sp0
  cases e1
  have lz := hlen zs e2
  have lw : ws.length = ks.length := rz.length.symm.trans lz
  have rel : ∀ a, Vals (V.ref a :: to zs) (g [Value.ref a] ws) := fun a => by
    rw [← hgV]; exact hb.rel (.cons rfl .nil) rz
  have ra : Vals (to zs) (tv ws) := by
    have z := hb.rel (vs := [V.ref 0]) (us := [Value.ref 0]) (.cons rfl .nil) rz
    rw [hgV, hg0] at z
    cases z with
    | cons _ t => exact t
  refine run_newG (us := []) M F bd I1 ra (fun s' a KI => ?_) q
  have z := hb.to s' [Value.ref a] ws KI rfl lw
  rw [hg0] at z
  exact z
/-- keywords -/
theorem dk_nil : PK X [] (tMa X.K X.mg E (mA [])) := ⟨fun pos pins s σ H Q I ⟨ex, env, ow, S, w⟩ => pk_nil.run pos pins s σ H Q I (w [] H ow .refl S .nil)⟩
theorem dk_cons {nm : Option Str} {kp : Pos} (ha : DE X E e m) (hr : PK X kws (tMa X.K X.mg E (mA ml))) : PK X (⟨nm, e, kp⟩ :: kws) (tMa X.K X.mg E (mA (m :: ml))) := ⟨fun pos pins s σ H Q I ⟨ex, env, ow, S, w⟩ => (pk_cons ha hr).run pos pins s σ H Q I (by
  refine ⟨ex, env, ow, S, (WP.bind.mp w).mono (fun ra env1 w1 v1 H1 ow1 P1 R1 => ?_) fun _ _ z => z⟩
  refine ⟨ex, env1, ow1, R1.sr, (WP.bind.mp w1).mono (fun l env2 w2 vs H2 ow2 P2 S2 hh => ?_) fun _ _ z => z.go P1⟩
  exact w2 (v1 :: vs) H2 ow2 (P1.trans P2) S2 (.cons ((R1.held S.tr).post R1.sr P2) hh))⟩
end
end DL

/-! DMj: == and != where an own class has its __eq__. -/
namespace DL
open PySem PySem.Spec PyProof.Rows L2

section
variable {P : Program} {w : World} {A : Around} {E : Value → Shared → Prop} {s : Shared} {K : PySem.W.Frag} {x C f : Addr} {ox : Obj} {od : Option Obj} {b : Value} {Q : Bool → Shared → Prop}
def BoolV (Q : Bool → Shared → Prop) (v : Value) (s' : Shared) : Prop := ∃ r, v = .bool r ∧ Q r s'
/-- the class's own == is asked -/
theorem ask_eq (X : K.In s.heap) (I : PySem.W.InstAt s.heap x ox C od) (hs : PySem.W.findIn K (.ref C) "__eq__" = some (some (.ref f))) (hf : PySem.W.isFn K (.ref f) = true) (h : wpAny (model P w) A (call (.ref f) [.ref x, b]) (BoolV Q) E s) :
    wpAny (model P w) A (tryCompare (.ref x) "__eq__" b) (fun r s' => ∃ c, r = some (.bool c) ∧ Q c s') E s := by
  unfold tryCompare
  refine wpAny_bind (PySem.W.ifBound_K X I hs hf (wpAny_mono h (fun v s' hv => ?_) fun _ _ e => e))
  obtain ⟨r, rfl, q⟩ := hv
  exact wpAny_pure ⟨r, rfl, q⟩
theorem bound_ne {args : List Value} {Q : Option Value → Shared → Prop} (X : K.In s.heap) (I : PySem.W.InstAt s.heap x ox C od) (hs : PySem.W.findIn K (.ref C) "__ne__" = some (some (.builtin "object.__ne__")))
    (h : wpAny (model P w) A (call (.builtin "object.__ne__") (.ref x :: args)) (fun v => Q (some v)) E s) : wpAny (model P w) A (callSpecialIfBound? (.ref x) "__ne__" args) Q E s := by
  simp only [callSpecialIfBound?, bindSpecialIfBound?]
  have last : wpAny (model P w) A (call (.builtin "object.__ne__") ([.ref x] ++ args) >>= fun v => pure (some v)) Q E s := wpAny_bind (wpAny_mono h (fun v s' z => wpAny_pure z) fun _ _ z => z)
  refine wpAny_holding (wpAny_bind (wpAny_bind (wpAny_bind (I.type.here ((PySem.W.looks_findIn X hs).here (wpAny_bind (wpAny_askSetting (wpAny_ite ?_))))))))
  split
  · exact wpAny_bind (wpAny_of_eq (F.cmp_object.ne.bind _) (wpAny_pure (by exact last)))
  · exact wpAny_tryCatch (wpAny_bind (wpAny_of_eq (F.cmp_object.ne.bind _) (wpAny_pure (by exact last))))
/-- != by object's, which asks the class's own == -/
theorem ask_ne (hu : A.in1.units < cLine) (X : K.In s.heap) (I : PySem.W.InstAt s.heap x ox C od) (hm : PySem.W.mroIn K C (.type "object") = some true) (hn : PySem.W.findIn K (.ref C) "__ne__" = some (some (.builtin "object.__ne__")))
    (hs : PySem.W.findIn K (.ref C) "__eq__" = some (some (.ref f))) (hf : PySem.W.isFn K (.ref f) = true) (h : wpAny (model P w) A.in1 (call (.ref f) [.ref x, b]) (BoolV Q) E s) :
    wpAny (model P w) A (tryCompare (.ref x) "__ne__" b) (fun r s' => ∃ c, r = some (.bool (!c)) ∧ Q c s') E s := by
  unfold tryCompare
  refine wpAny_bind (bound_ne X I hn ?_)
  refine wpAny_call (codeAny_call_builtin F.cmp_object.ne.plain F.cmpEntry_ne (PySem.W.check_slot F.cmpKind_ne F.cmpSplit_ne (I.type.andThen (PySem.W.looks_mroIn X hm)) (F.cmpArgs_ne _ _) ?_))
  unfold Builtin.«object.__ne__»
  refine wpAny_bind (m := slotArgs "__ne__" 1 _) (wpAny_pure ?_)
  refine show wpAny _ _ (cRoomFor "comparison" [.ref x, b] >>= _) _ _ s from wpAny_bind (wpAny_cRoomFor hu ?_)
  refine wpAny_bind (PySem.W.ifBound_K X I hs hf (wpAny_mono h (fun v s' hv => ?_) fun _ _ e => e))
  obtain ⟨r, rfl, q⟩ := hv
  refine show wpAny _ _ (truthy (.bool r) >>= _) _ _ s' from wpAny_bind (wpAny_truthy_bool ?_)
  exact wpAny_pure (show wpAny _ _ (pure (some (Value.bool !r))) _ _ s' from wpAny_pure ⟨r, rfl, q⟩)
/-- a tuple's and None's comparison with an instance says nothing -/
theorem tup_declines {t : Addr} {items : Array Value} {name : Str} {id : String} {B : Builtin} (X : K.In s.heap) (I : PySem.W.InstAt s.heap x ox C od) (ht : s.heap.IsTuple t items) (hsub : PySem.W.subIn K (.ref C) (.type "tuple") = some false)
    (slot : Slot "tuple" name id) (entry : entryFor table id = some B) (args : argsOk id ⟨[.ref t, .ref x], []⟩)
    (hB : ∀ (A' : Around) (R : Fin → Shared → Prop) (E' : Value → Shared → Prop), wpAny (model P w) A' (isInstance (.ref x) (.type "tuple")) (fun r s' => r = false ∧ s' = s) E' s → R (.done (.ret .notImplemented)) s → wpAny (model P w) A' (B ⟨[.ref t, .ref x], []⟩) R E' s) :
    wpAny (model P w) A (tryCompare (.ref t) name (.ref x)) (fun r s' => r = none ∧ s' = s) E s := by
  have hT : s.TypeIs (.ref t) "tuple" := by obtain ⟨o, g, c, _⟩ := ht; exact ⟨o, g, c⟩
  refine wpAny_tryCompare_declines hT slot (wpAny_call_entry slot hT entry (hB _ _ _ ?_ ⟨_, rfl, rfl, rfl, rfl⟩) args)
  unfold isInstance
  exact wpAny_bind (I.type.here ((PySem.W.looks_subIn X hsub).here ⟨rfl, rfl⟩))
/-- == and != of an instance and another value -/
theorem cmp_ins {op : CmpOp} {g : Bool → Bool} {tb : Value} (hop : op = .Eq ∨ op = .NotEq) (hu : A.units < cLine) (X : K.In s.heap) (I : PySem.W.InstAt s.heap x ox C od) (hb : PySem.W.Looks (model P w) s.heap (typeOf b) tb) (hn : tb = .ref C ∨ PySem.W.subIn K tb (.ref C) = some false)
    (one : wpAny (model P w) A (tryCompare (.ref x) (cmpInfo op).2.1 b) (fun r s' => ∃ c, r = some (.bool (g c)) ∧ Q c s') E s) : wpAny (model P w) A (richCompare op (.ref x) b) (fun v s' => ∃ c, v = .bool (g c) ∧ Q c s') E s := by
  have one' : wpAny (model P w) A (tryCompare (.ref x) (cmpInfo op).2.1 b) (fun r s' => ∃ v, r = some v ∧ ∃ c, v = .bool (g c) ∧ Q c s') E s := wpAny_mono one (fun r s' ⟨c, e, q⟩ => ⟨_, e, c, rfl, q⟩) fun _ _ z => z
  unfold richCompare
  simp only [oneThing_ref]
  refine wpAny_holding (wpAny_bind (wpAny_cRoomFor hu (wpAny_bind (I.type.here (wpAny_bind (hb.here ?_))))))
  split
  · rename_i q
    have e : PySem.W.subIn K tb (.ref C) = some false := by
      rcases hn with e | e
      · rw [e] at q; simp at q
      · exact e
    refine wpAny_bind ((PySem.W.looks_subIn X e).here ?_)
    simp only [Bool.false_eq_true, if_false]
    refine wpAny_bind (wpAny_mono one' (fun r s' z => ?_) fun _ _ e => e)
    obtain ⟨v, rfl, hq⟩ := z
    exact wpAny_pure hq
  · refine wpAny_bind (wpAny_pure ?_)
    simp only [Bool.false_eq_true, if_false]
    refine wpAny_bind (wpAny_mono one' (fun r s' z => ?_) fun _ _ e => e)
    obtain ⟨v, rfl, hq⟩ := z
    exact wpAny_pure hq
/-- the same, the instance on the right -/
theorem cmp_insR {op : CmpOp} {g : Bool → Bool} {T : String} (hop : op = .Eq ∨ op = .NotEq) (hu : A.units < cLine) (X : K.In s.heap) (I : PySem.W.InstAt s.heap x ox C od) (hT : s.TypeIs b T) (one0 : oneThing? op b (.ref x) = none) (hn : PySem.W.subIn K (.ref C) (.type T) = some false)
    (no : wpAny (model P w) A (tryCompare b (cmpInfo op).2.1 (.ref x)) (fun r s' => r = none ∧ s' = s) E s) (one : wpAny (model P w) A (tryCompare (.ref x) (cmpInfo op).2.2 b) (fun r s' => ∃ c, r = some (.bool (g c)) ∧ Q c s') E s) :
    wpAny (model P w) A (richCompare op b (.ref x)) (fun v s' => ∃ c, v = .bool (g c) ∧ Q c s') E s := by
  unfold richCompare
  rw [one0]
  dsimp only
  refine wpAny_holding (wpAny_bind (wpAny_cRoomFor hu ?_))
  (try dsimp only)
  refine wpAny_bind (wpAny_typeOf hT (wpAny_bind (I.type.here ?_)))
  (try dsimp only)
  refine wpAny_ite_split (fun _ => ?_) fun q => ?_
  · refine wpAny_bind ((PySem.W.looks_subIn X hn).here ?_)
    simp only [Bool.false_eq_true, if_false, Bool.not_false, if_true]
    refine wpAny_bind (wpAny_mono no (fun r s' z => ?_) fun _ _ e => e)
    obtain ⟨rfl, rfl⟩ := z
    dsimp only
    refine wpAny_bind (wpAny_mono one (fun r s' z => ?_) fun _ _ e => e)
    obtain ⟨c, rfl, q⟩ := z
    exact wpAny_pure ⟨c, rfl, q⟩
  · exact absurd (by simp) q
end
end DL

/-! DMk: the rules for == and != of instances. -/
namespace DL
open PySem L2
/-- what the top says of a class with an __eq__ -/
structure EqC (P : Program) (w : World) (K : PySem.W.Frag) (mg : Str → Option Value) (base : Heap) (k : Nat) (c : Str) (fs : Fs) (C fe : Addr) (fd : FuncData) (ps : List Str) : Prop where
  mgc : mg c = some (.ref C)
  eq_ : PySem.W.findIn K (.ref C) "__eq__" = some (some (.ref fe))
  fn_ : PySem.W.isFn K (.ref fe) = true
  ne_ : PySem.W.findIn K (.ref C) "__ne__" = some (some (.builtin "object.__ne__"))
  obj : PySem.W.mroIn K C (.type "object") = some true
  s1 : PySem.W.subIn K (.type "tuple") (.ref C) = some false
  s2 : PySem.W.subIn K (.type "NoneType") (.ref C) = some false
  s3 : PySem.W.subIn K (.ref C) (.type "tuple") = some false
  s4 : PySem.W.subIn K (.ref C) (.type "NoneType") = some false
  ok : FnG P w K mg base k fe fd ps (spOf K mg 2 fs)
  bi : Binds K fd ps []
def rCmpI (K : PySem.W.Frag) (mg : Str → Option Value) (C : Addr) (fs : Fs) (g : Bool → Bool) : R2 := fun x y H Q => ∃ (a dx : Addr) (vf : List (Str × V)) (q : V), H a = some (.ins C dx vf) ∧
  ((x = .ref a ∧ y = q ∧ ∃ b dy vf', q = .ref b ∧ H b = some (.ins C dy vf')) ∨ (((x = .ref a ∧ y = q) ∨ (x = q ∧ y = .ref a)) ∧ (q = .non ∨ ∃ t xs, q = .ref t ∧ SqT K H t xs))) ∧ spOf K mg 2 fs [.ref a, q] H (fun v H' => ∃ b, v = .bl b ∧ Q (.bl (g b)) H') (fun _ _ _ => False)
section
variable {X : Cx} {k : Nat} {c : Str} {fs : Fs} {C fe : Addr} {fd : FuncData} {ps : List Str} {E : XK} {pins : List (Addr × Obj)} {σ : L2.St} {H : Hp} {s : Shared} {Q : VK}
theorem call_eq2 {A : Around} {g : Bool → Bool} (T : EqC X.prog X.w X.K X.mg X.base k c fs C fe fd ps) (hg : A.guards = some []) (hr : Room k A) (he : Env0 X.prog X.w X.K X.mg X.base A X.stack s H) (I : L2.Inv X pins σ H s) {p q : V} {u v : Value} (rp : RelV p u) (rq : RelV q v)
    (h : spOf X.K X.mg 2 fs [p, q] H (fun v H' => ∃ b, v = .bl b ∧ Q (.bl (g b)) H') (fun _ _ _ => False)) :
    wpAny (model X.prog X.w) A (call (.ref fe) [u, v]) (BoolV fun b s' => ∃ H', L2.Inv X pins σ H' s' ∧ Q (.bl (g b)) H') X.xe s := by
  have rr : Vals [p, q] [u, v] := .cons rp (.cons rq .nil)
  have hl : ([u, v] ++ []).length = ps.length := by rw [← T.ok.len _ _ _ _ h]; rfl
  have go := T.ok.run A X.stack s H ⟨[u, v], []⟩ [u, v] [p, q] _ _ hg hr he (by simpa using T.bi s [u, v] I.kIn hl) rr h
  refine wpAny_call (codeAny_mono go fun r s' z => ?_)
  match r, z with
  | .error e, z =>
    exfalso
    obtain ⟨_, _, _, _, _, _, _, _, _, _, _, _, z⟩ := z
    exact z
  | .ok (.ret w), z =>
    obtain ⟨v', H', I', rv, b, ev, q'⟩ := I.after z
    subst ev
    cases rv
    exact ⟨b, rfl, H', I', q'⟩
  | .ok .next, z => exact False.elim z
  | .ok .brk, z => exact False.elim z
  | .ok .cont, z => exact False.elim z
theorem op_cmpI {op : CmpOp} {g : Bool → Bool} (hop : (op = .Eq ∧ g = id) ∨ (op = .NotEq ∧ g = not)) (T : EqC X.prog X.w X.K X.mg X.base k c fs C fe fd ps) (bd : Bd X (k + 1) E) : OpR X (compareOp op) (rCmpI X.K X.mg C fs g) := by
  intro pins s σ H x y v u Q I rx ry h
  obtain ⟨a, dx, vf, q, ha, hc, sp⟩ := h
  obtain ⟨mA, O, _⟩ := ins_get I.hok ha
  obtain ⟨od, J, _⟩ := O.look
  have KX := I.kIn
  have hu : X.A.units < cLine := bd.room.units0
  have fin : ∀ r s', (∃ b, r = Value.bool (g b) ∧ ∃ H', L2.Inv X pins σ H' s' ∧ Q (.bl (g b)) H') → EP X pins σ Q r s' := fun r s' ⟨b, e, H', I', z⟩ => ⟨.bl (g b), H', I', e, z⟩
  -- what the instance answers
  have ans : ∀ {w : Value}, RelV q w → wpAny (model X.prog X.w) X.A (tryCompare (.ref a) (cmpInfo op).2.1 w) (fun r s' => ∃ b, r = some (.bool (g b)) ∧ ∃ H', L2.Inv X pins σ H' s' ∧ Q (.bl (g b)) H') X.xe s := fun {w} rq => by
    rcases hop with ⟨rfl, rfl⟩ | ⟨rfl, rfl⟩
    · exact ask_eq KX J T.eq_ T.fn_ (call_eq2 (g := id) (p := .ref a) (A := X.A) T bd.gd (bd.room.mono (Nat.le_succ _)) I.env0 I rfl rq sp)
    · exact ask_ne (show X.A.in1.units < cLine by have := bd.room.units; show X.A.units + 1 < cLine; omega) KX J T.obj T.ne_ T.eq_ T.fn_ (call_eq2 (g := not) (p := .ref a) (A := X.A.in1) T (by exact bd.gd) bd.room.in1 I.env0.in1 I rfl rq sp)
  have hop' : op = .Eq ∨ op = .NotEq := hop.imp And.left And.left
  have rc : ∀ v u, (compareOp op v u : Sem Value) = richCompare op v u := fun v u => by rcases hop' with rfl | rfl <;> rfl
  rw [rc]
  rcases hc with ⟨rfl, rfl, b, dy, vf', rfl, hb⟩ | ⟨hs, hq⟩
  · cases rx
    cases ry
    obtain ⟨mB, O', _⟩ := ins_get I.hok hb
    obtain ⟨od', J', _⟩ := O'.look
    exact wpAny_mono (cmp_ins hop' hu KX J J'.type (.inl rfl) (ans (w := .ref b) rfl)) fin fun _ _ z => z
  · rcases hq with rfl | ⟨t, xs, rfl, ht⟩
    · rcases hs with ⟨rfl, rfl⟩ | ⟨rfl, rfl⟩
      · cases rx; cases ry
        exact wpAny_mono (cmp_ins hop' hu KX J (PySem.W.Looks.of_pure rfl) (.inr T.s2) (ans (w := .none) rfl)) fin fun _ _ z => z
      · cases rx; cases ry
        refine wpAny_mono (cmp_insR (T := "NoneType") (b := .none) hop' hu KX J rfl (by rcases hop' with rfl | rfl <;> rfl) T.s4 ?_ ?_) fin fun _ _ z => z
        · rcases hop' with rfl | rfl
          · exact wpAny_tryCompare_declines (show s.TypeIs .none "NoneType" from rfl) F.slot_NoneType_eq (call_gives F.slot_NoneType_eq rfl F.entry_NoneType_eq (F.args_NoneType_eq_2 _ _) (SeqAt.NoneType___eq___none_ref_0 a) ⟨rfl, rfl, rfl⟩)
          · exact wpAny_tryCompare_declines (show s.TypeIs .none "NoneType" from rfl) F.slot_NoneType_ne (call_gives F.slot_NoneType_ne rfl F.entry_NoneType_ne (F.args_NoneType_ne_2 _ _) (SeqAt.NoneType___ne___none_ref_0 a) ⟨rfl, rfl, rfl⟩)
        · have z := ans (w := .none) rfl
          rcases hop' with rfl | rfl <;> exact z
    · obtain ⟨its, r1, p1, z1⟩ := I.tuple ht
      have hT : s.TypeIs (.ref t) "tuple" := by obtain ⟨o, g, c, _⟩ := p1; exact ⟨o, g, c⟩
      have lk : PySem.W.Looks (model X.prog X.w) s.heap (typeOf (.ref t)) (.type "tuple") := by
        obtain ⟨o, g, c, _⟩ := p1
        exact c ▸ (PySem.W.Looks.ld g).andThen .now
      rcases hs with ⟨rfl, rfl⟩ | ⟨rfl, rfl⟩
      · cases rx; cases ry
        exact wpAny_mono (cmp_ins hop' hu KX J lk (.inr T.s1) (ans (w := .ref t) rfl)) fin fun _ _ z => z
      · cases rx; cases ry
        refine wpAny_mono (cmp_insR (T := "tuple") (b := .ref t) hop' hu KX J hT (oneThing_ref _ _ _) T.s3 ?_ ?_) fin fun _ _ z => z
        · rcases hop' with rfl | rfl
          · refine tup_declines KX J p1 T.s3 F.slot_tuple_eq F.entry_tuple_eq (F.args_tuple_eq_2 _ _) fun A' R E' h1 h2 => ?_
            refine show wpAny _ _ (isInstance (.ref a) (.type "tuple") >>= _) _ _ s from wpAny_bind (wpAny_mono h1 (fun r s' z => ?_) fun _ _ z => z)
            obtain ⟨rfl, rfl⟩ := z
            simp only [Bool.not_false, if_true]
            exact wpAny_pure h2
          · refine tup_declines KX J p1 T.s3 F.slot_tuple_ne F.entry_tuple_ne (F.args_tuple_ne_2 _ _) fun A' R E' h1 h2 => ?_
            refine show wpAny _ _ (isInstance (.ref a) (.type "tuple") >>= _) _ _ s from wpAny_bind (wpAny_mono h1 (fun r s' z => ?_) fun _ _ z => z)
            obtain ⟨rfl, rfl⟩ := z
            simp only [Bool.not_false, if_true]
            exact wpAny_pure h2
        · have z := ans (w := .ref t) rfl
          rcases hop' with rfl | rfl <;> exact z
end
/-! ### on data -/
def runI (fs : Fs) (l : List Dt) : Option Bool := match fs.run l with
  | some (.ret (.val (.bl b)) _) => some b
  | _ => none
def cmpI (fs : Fs) (c : Str) (x y : Dt) : Option Bool := match x, y with
  | .ins c1 f1, .ins c2 f2 => if c1 = c ∧ c2 = c then runI fs [.ins c1 f1, .ins c2 f2] else none
  | .ins c1 f1, .tup d => if c1 = c then runI fs [.ins c1 f1, .tup d] else none
  | .ins c1 f1, .non => if c1 = c then runI fs [.ins c1 f1, .non] else none
  | .tup d, .ins c1 f1 => if c1 = c then runI fs [.ins c1 f1, .tup d] else none
  | .non, .ins c1 f1 => if c1 = c then runI fs [.ins c1 f1, .non] else none
  | _, _ => none
def gEqI (fs : Fs) (c : Str) : Dt → Dt → Option R := fun x y => (cmpI fs c x y).map fun b => .val (.bl b)
def gNeI (fs : Fs) (c : Str) : Dt → Dt → Option R := fun x y => (cmpI fs c x y).map fun b => .val (.bl !b)
section
variable {K : PySem.W.Frag} {mg : Str → Option Value}
theorem sp_two {fs : Fs} (hio : fs.io = [.fz, .fz]) {L : Addr → Prop} {H : Hp} {p q : V} {dp dq : Dt} {b : Bool} {Q : VK} (tr : ∀ a, L a → H a ≠ none) (rp : Rep K mg (cut L H) p dp) (rq : Rep K mg (cut L H) q dq) (hr : runI fs [dp, dq] = some b)
    (k : ∀ H', Le H H' → Q (.bl b) H') : spOf K mg 2 fs [p, q] H Q (fun _ _ _ => False) := by
  have e0 : lim L (fun _ => none) = L := funext fun a => propext ⟨fun z => z.elim id (fun ⟨i, z⟩ => nomatch z), .inl⟩
  have sl := par_slots (H := H) (show RepA K mg (cut L H) [p, q] [dp, dq] from .cons rp (.cons rq .nil))
  refine ⟨rfl, L, fun _ => none, [dp, dq], rfl, ⟨by rw [hio]; rfl, fun i => ?_, (fun _ _ _ z => nomatch z), (fun _ _ z => nomatch z), tr⟩, ?_⟩
  · rw [e0, hio]
    exact sl i
  · unfold runI at hr
    cases e : fs.run [dp, dq] with
    | none => rw [e] at hr; cases hr
    | some fr =>
      rw [e] at hr
      cases fr with
      | exc x o => cases hr
      | ret r o =>
        cases r with
        | val d =>
          cases d with
          | bl b' =>
            cases hr
            refine ⟨rfl, fun v H' kp R0 => ?_⟩
            obtain ⟨_, rv⟩ := R0
            cases rv
            exact k H' fun a o z => kp.1 a o z fun ⟨i, z⟩ => nomatch z
          | _ => cases hr
        | _ => cases hr
theorem os_cmpI {fs : Fs} {c : Str} {C : Addr} {g : Bool → Bool} (hio : fs.io = [.fz, .fz]) (hm : mg c = some (.ref C)) : OpS K mg (rCmpI K mg C fs g) (fun x y => (cmpI fs c x y).map fun b => .val (.bl (g b))) := fun L H x y dx dy rv Q tr rx ry h k => by
  obtain ⟨b, hb, rfl⟩ := Option.map_eq_some_iff.mp h
  have insR : ∀ {v : V} {c1 : Str} {f1 : List (Str × Dt)}, c1 = c → Rdb K mg (cut L H) H v (.ins c1 f1) → Rep K mg (cut L H) v (.ins c1 f1) ∧ ∃ a dx vf, v = .ref a ∧ H a = some (.ins C dx vf) := fun {v c1 f1} e r => by
    subst e
    obtain ⟨a, C', dx, vf, rfl, hm', ha, _⟩ := ins_of r
    rw [hm] at hm'; cases hm'
    refine ⟨?_, a, dx, vf, rfl, ha⟩
    rcases r with r | ⟨_, _, _, _, _, _, _, e2, _⟩
    · exact r
    · cases e2
  have kk : ∀ H', Le H H' → Q (.bl (g b)) H' := fun H' l => k _ H' l (.bl _)
  unfold cmpI at hb
  split at hb
  · rename_i c1 f1 c2 f2
    split at hb
    · rename_i e
      obtain ⟨r1, a, dx, vf, rfl, ha⟩ := insR e.1 rx
      obtain ⟨r2, a', dx', vf', rfl, ha'⟩ := insR e.2 ry
      exact ⟨a, dx, vf, _, ha, .inl ⟨rfl, rfl, a', dx', vf', rfl, ha'⟩, sp_two hio tr r1 r2 hb fun H' l => ⟨b, rfl, kk H' l⟩⟩
    · cases hb
  · rename_i c1 f1 d
    split at hb
    · rename_i e
      obtain ⟨r1, a, dx, vf, rfl, ha⟩ := insR e rx
      have r2 := ry.tupz
      obtain ⟨t, xs, rfl, ht, _⟩ := ry.tup
      exact ⟨a, dx, vf, _, ha, .inr ⟨.inl ⟨rfl, rfl⟩, .inr ⟨t, xs, rfl, ht⟩⟩, sp_two hio tr r1 r2 hb fun H' l => ⟨b, rfl, kk H' l⟩⟩
    · cases hb
  · rename_i c1 f1
    split at hb
    · rename_i e
      obtain ⟨r1, a, dx, vf, rfl, ha⟩ := insR e rx
      have ey := ry.non
      subst ey
      exact ⟨a, dx, vf, _, ha, .inr ⟨.inl ⟨rfl, rfl⟩, .inl rfl⟩, sp_two hio tr r1 .non hb fun H' l => ⟨b, rfl, kk H' l⟩⟩
    · cases hb
  · rename_i d c1 f1
    split at hb
    · rename_i e
      obtain ⟨r1, a, dx, vf, rfl, ha⟩ := insR e ry
      have r2 := rx.tupz
      obtain ⟨t, xs, rfl, ht, _⟩ := rx.tup
      exact ⟨a, dx, vf, _, ha, .inr ⟨.inr ⟨rfl, rfl⟩, .inr ⟨t, xs, rfl, ht⟩⟩, sp_two hio tr r1 r2 hb fun H' l => ⟨b, rfl, kk H' l⟩⟩
    · cases hb
  · rename_i c1 f1
    split at hb
    · rename_i e
      obtain ⟨r1, a, dx, vf, rfl, ha⟩ := insR e ry
      have ex := rx.non
      subst ex
      exact ⟨a, dx, vf, _, ha, .inr ⟨.inr ⟨rfl, rfl⟩, .inl rfl⟩, sp_two hio tr r1 .non hb fun H' l => ⟨b, rfl, kk H' l⟩⟩
    · cases hb
  · cases hb
end
section
variable {X : Cx} {E : XK} {a b : Expr} {pos : Pos} {c : Str} {k : Nat} {fs : Fs} {C fe : Addr} {fd : FuncData} {ps : List Str} {ma mb : M R}
theorem dv_eqI (T : EqC X.prog X.w X.K X.mg X.base k c fs C fe fd ps) (hio : fs.io = [.fz, .fz]) (bd : Bd X (k + 1) E) (ha : DE X E a ma) (hb : DE X E b mb) (hm : behindInMarks .Eq b = false := by rfl) : DE X E (.Compare a [.Eq] [b] pos) (mOp (gEqI fs c) ma mb) :=
  d_cmp (op_cmpI (.inl ⟨rfl, rfl⟩) T bd) (os_cmpI hio T.mgc) ha hb hm
theorem dv_neI (T : EqC X.prog X.w X.K X.mg X.base k c fs C fe fd ps) (hio : fs.io = [.fz, .fz]) (bd : Bd X (k + 1) E) (ha : DE X E a ma) (hb : DE X E b mb) (hm : behindInMarks .NotEq b = false := by rfl) : DE X E (.Compare a [.NotEq] [b] pos) (mOp (gNeI fs c) ma mb) :=
  d_cmp (op_cmpI (.inr ⟨rfl, rfl⟩) T bd) (os_cmpI hio T.mgc) ha hb hm
end
end DL

/-! DMl: a, b = x, y and a, b, c = x, y, z with new lists among the values. -/
namespace DL
open PySem L2
section
variable {K : PySem.W.Frag} {mg : Str → Option Value} {ex exN : Addr → Prop} {env env' : Env} {ow ow' : Ow} {σ σ' : St} {H0 H H' : Hp} {E : XK}
/-- a value that waits to be stored -/
def HOk (K : PySem.W.Frag) (mg : Str → Option Value) (ex exN : Addr → Prop) (ow : Ow) (H0 H : Hp) : R → V → Prop
  | .val d, v => Rep K mg (cut (lim exN ow) H) v d
  | .new d, v => ∃ p ob, v = .ref p ∧ H0 p = none ∧ H p = some ob ∧ OwnR K mg (cut (lim exN ow) H) ob d ∧ exN p ∧ ¬ ex p
  | .loc _, _ => True
/-- whose objects wait -/
def waits : R × V → Addr → Prop := fun q a => (∃ d, q.1 = .new d) ∧ q.2 = .ref a
structure HS (K : PySem.W.Frag) (mg : Str → Option Value) (ex : Addr → Prop) (env : Env) (ow : Ow) (σ : St) (H0 H : Hp) (exN : Addr → Prop) (acc : List (R × V)) : Prop where
  sr : SR K mg exN env ow σ H
  sub : ∀ a, ex a → exN a
  ok : ∀ q ∈ acc, HOk K mg ex exN ow H0 H q.1 q.2
  only : ∀ a, exN a → ex a ∨ ∃ q ∈ acc, waits q a
  dif : acc.Pairwise fun q r => ∀ a, waits q a → waits r a → False
theorem HOk.go {r : R} {v : V} {exM : Addr → Prop} (h : HOk K mg ex exN ow H0 H r v) (l : Le (cut (lim exN ow) H) (cut (lim exM ow') H')) (k : ∀ a o, exN a → H a = some o → H' a = some o) (m : ∀ a, exN a → exM a) : HOk K mg ex exM ow' H0 H' r v := by
  cases r with
  | val d => exact Rep.mono l h
  | new d =>
    obtain ⟨p, ob, e, h0, h1, o, h2, h3⟩ := h
    exact ⟨p, ob, e, h0, k p ob h2 h1, o.mono l, m p h2, h3⟩
  | loc i => exact True.intro
/-- one more value -/
theorem HS.step {acc : List (R × V)} {r : R} {v : V} (hs : HS K mg ex env ow σ H0 H exN acc) (le0 : ∀ a, H0 a ≠ none → H a ≠ none) (P : Post env ow H env' ow' H') (q : ROk K mg exN env' ow' σ H H' r v) : ∃ exM, HS K mg ex env' ow' σ H0 H' exM (acc ++ [(r, v)]) := by
  have keep : ∀ a o, exN a → H a = some o → H' a = some o := fun a o z e => P.keep a o e fun ⟨i, y⟩ => hs.sr.dis i a y z
  have old : ∀ {exM : Addr → Prop}, Le (cut (lim exN ow) H) (cut (lim exM ow') H') → (∀ a, exN a → exM a) → ∀ x ∈ acc, HOk K mg ex exM ow' H0 H' x.1 x.2 := fun l m x hx => (hs.ok x hx).go l keep m
  have plain : (∀ d, r ≠ .new d) → SR K mg exN env' ow' σ H' → HOk K mg ex exN ow' H0 H' r v → ∃ exM, HS K mg ex env' ow' σ H0 H' exM (acc ++ [(r, v)]) := fun nn S hk => by
    refine ⟨exN, S, hs.sub, fun x hx => ?_, fun a z => ?_, ?_⟩
    · rcases List.mem_append.mp hx with hx | hx
      · exact old (P.cut hs.sr) (fun _ z => z) x hx
      · rw [List.mem_singleton.mp hx]; exact hk
    · exact (hs.only a z).imp id fun ⟨x, hx, w⟩ => ⟨x, List.mem_append_left _ hx, w⟩
    · refine List.pairwise_append.mpr ⟨hs.dif, List.pairwise_singleton _ _, fun x _ y hy a _ w => ?_⟩
      rw [List.mem_singleton.mp hy] at w
      obtain ⟨⟨d, e⟩, _⟩ := w
      exact nn d e
  cases r with
  | val d => exact plain (fun d z => by cases z) q.1 q.2
  | loc i => exact plain (fun d z => by cases z) q.1 True.intro
  | new d =>
    obtain ⟨p, ob, e, hp, hp', o, S⟩ := q
    subst e
    have np : ¬ exN p := fun z => hs.sr.tr p z hp
    have l : Le (cut (lim exN ow) H) (cut (lim (fun a => exN a ∨ a = p) ow') H') := cut_keep (fun a z n => by
      rcases z with (z | z) | ⟨i, z⟩
      · exact .inl z
      · exact absurd (by rw [z]; exact hp) n
      · exact .inr ⟨i, P.sub i a z⟩) fun a o z n => P.keep a o z fun y => n (.inr y)
    refine ⟨fun a => exN a ∨ a = p, S, fun a z => .inl (hs.sub a z), fun x hx => ?_, fun a z => ?_, ?_⟩
    · rcases List.mem_append.mp hx with hx | hx
      · exact old l (fun _ z => .inl z) x hx
      · rw [List.mem_singleton.mp hx]
        refine ⟨p, ob, rfl, ?_, hp', o, .inr rfl, fun z => np (hs.sub p z)⟩
        cases z : H0 p with
        | none => rfl
        | some u => exact absurd hp (le0 p (by rw [z]; exact fun y => nomatch y))
    · rcases z with z | z
      · exact (hs.only a z).imp id fun ⟨x, hx, w⟩ => ⟨x, List.mem_append_left _ hx, w⟩
      · exact .inr ⟨(.new d, .ref p), List.mem_append_right _ List.mem_cons_self, ⟨d, rfl⟩, by rw [z]⟩
    · refine List.pairwise_append.mpr ⟨hs.dif, List.pairwise_singleton _ _, fun x hx y hy a w1 w2 => ?_⟩
      rw [List.mem_singleton.mp hy] at w2
      obtain ⟨_, e2⟩ := w2
      have e3 : p = a := by injection e2
      have k := hs.ok x hx
      obtain ⟨⟨d1, f1⟩, f2⟩ := w1
      rw [f1, f2] at k
      obtain ⟨p', ob', g1, _, _, _, g2, _⟩ := k
      have e4 : a = p' := by injection g1
      exact np (by rw [e3, e4]; exact g2)
/-- what is stored -/
def asV : R → Option (Dt × Md)
  | .val d => some (d, .fz)
  | .new d => some (d, .ow)
  | .loc _ => none
def putA : List Nat → List R → Env → Option Env
  | [], [], env => some env
  | i :: is, r :: rs, env => match asV r with
    | some s => if i < env.length ∧ isIo (gs env i) = false then putA is rs (env.set i (some s)) else none
    | none => none
  | _, _, _ => none
def putσ : List Nat → List V → St → St
  | i :: is, v :: vs, σ => putσ is vs (σ.set i (some v))
  | _, _, σ => σ
def mParS (is : List Nat) (rs : List R) : M Fl := fun env => (putA is rs env).map fun e => .ok .nx e
def mPar (is : List Nat) (ms : List (M R)) : M Fl := (mA ms).bind (mParS is)
theorem HS.store {env0 : Env} {ow0 : Ow} : ∀ {is : List Nat} {rs : List R} {vs : List V} {env e : Env} {ow : Ow} {σ : St} {exN : Addr → Prop}, rs.length = vs.length → HS K mg ex env ow σ H0 H exN (rs.zip vs) → PostS env0 ow0 H0 env ow H → putA is rs env = some e →
    ∃ ow', PostS env0 ow0 H0 e ow' H ∧ SR K mg ex e ow' (putσ is vs σ) H
  | [], [], [], env, e, ow, σ, exN, _, hs, P, h => by
    cases h
    have e2 : exN = ex := funext fun a => propext ⟨fun z => (hs.only a z).elim id (fun ⟨q, hq, _⟩ => nomatch hq), hs.sub a⟩
    rw [← e2]
    exact ⟨ow, P, hs.sr⟩
  | i :: is, r :: rs, v :: vs, env, e, ow, σ, exN, hl, hs, P, h => by
    unfold putA at h
    have kv := hs.ok (r, v) List.mem_cons_self
    have rest := fun x hx => hs.ok x (List.mem_cons_of_mem _ hx)
    cases r with
    | loc j => cases h
    | val d =>
      simp only [asV] at h
      by_cases c : i < env.length ∧ isIo (gs env i) = false
      · rw [if_pos c] at h
        have l : Le (cut (lim exN ow) H) (cut (lim exN (del ow i)) H) := cut_sub H fun a z => lim_del z
        refine HS.store (is := is) (rs := rs) (vs := vs) (Nat.succ.inj hl) ⟨hs.sr.setFz (s := some (d, .fz)) (v := some v) c.1 ⟨rfl, v, rfl, Rep.mono l kv⟩, hs.sub, fun x hx => (rest x hx).go l (fun _ _ _ z => z) fun _ z => z, fun a z => (hs.only a z).imp id fun ⟨x, hx, w⟩ => ?_, (List.pairwise_cons.mp hs.dif).2⟩ (P.trans (.setFz c.2)) h
        rcases List.mem_cons.mp hx with y | hx
        · rw [y] at w; obtain ⟨⟨d', y⟩, _⟩ := w; cases y
        · exact ⟨x, hx, w⟩
      · rw [if_neg c] at h; cases h
    | new d =>
      simp only [asV] at h
      by_cases c : i < env.length ∧ isIo (gs env i) = false
      · rw [if_pos c] at h
        obtain ⟨p, ob, rfl, h0, h1, o, h2, h3⟩ := kv
        have e1 : (fun a => (exN a ∧ a ≠ p) ∨ a = p) = exN := funext fun a => propext ⟨fun z => z.elim And.left fun z => z ▸ h2, fun z => (Classical.em (a = p)).elim .inr fun n => .inl ⟨z, n⟩⟩
        have l : Le (cut (lim exN ow) H) (cut (lim (fun a => exN a ∧ a ≠ p) (putO ow i p)) H) := cut_sub H fun a z => by
          rcases z with z | ⟨j, z⟩
          · exact .inl z.1
          · unfold putO at z
            by_cases y : j = i
            · rw [if_pos y] at z; cases z; exact .inl h2
            · rw [if_neg y] at z; exact .inr ⟨j, z⟩
        have first := (List.pairwise_cons.mp hs.dif).1
        refine HS.store (is := is) (rs := rs) (vs := vs) (exN := fun a => exN a ∧ a ≠ p) (env := env.set i (some (d, .ow))) (ow := putO ow i p) (σ := σ.set i (some (.ref p))) (Nat.succ.inj hl) ⟨SR.setOw (ex := fun a => exN a ∧ a ≠ p) (by rw [e1]; exact hs.sr) c.1 h1 (by rw [e1]; exact o) fun z => z.2 rfl, fun a z => ⟨hs.sub a z, fun y => h3 (y ▸ z)⟩, fun x hx => ?_, fun a z => ?_, (List.pairwise_cons.mp hs.dif).2⟩
          (by
            refine ⟨P.keep, fun a z => ?_, fun j d0 z => ?_, P.there⟩
            · obtain ⟨j, z⟩ := z
              unfold putO at z
              by_cases y : j = i
              · rw [if_pos y] at z; cases z; exact .inr h0
              · rw [if_neg y] at z; exact P.sub a ⟨j, z⟩
            · obtain ⟨⟨d', h'⟩, e⟩ := P.pin j d0 z
              have ne : i ≠ j := fun y => by subst y; exact isIo_some h' c.2
              refine ⟨⟨d', by rw [gs_set_ne ne]; exact h'⟩, ?_⟩
              unfold putO
              rw [if_neg (Ne.symm ne)]
              exact e) h
        · have kx := rest x hx
          have w := first x hx
          obtain ⟨rx, vx⟩ := x
          cases rx with
          | val d' => exact Rep.mono l kx
          | loc j => exact True.intro
          | new d' =>
            obtain ⟨p', ob', rfl, g0, g1, g2, g3, g4⟩ := kx
            exact ⟨p', ob', rfl, g0, g1, g2.mono l, ⟨g3, fun y => w p ⟨⟨d, rfl⟩, rfl⟩ ⟨⟨d', rfl⟩, by rw [y]⟩⟩, g4⟩
        · rcases hs.only a z.1 with y | ⟨x, hx, w⟩
          · exact .inl y
          · rcases List.mem_cons.mp hx with y | hx
            · rw [y] at w
              obtain ⟨_, y2⟩ := w
              injection y2 with y2
              exact absurd y2.symm z.2
            · exact .inr ⟨x, hx, w⟩
      · rw [if_neg c] at h; cases h
  | [], _ :: _, _, _, _, _, _, _, _, _, _, h => by cases h
  | _ :: _, [], _, _, _, _, _, _, _, _, _, h => by cases h
  | _ :: _, _ :: _, [], _, _, _, _, _, hl, _, _, _ => by cases hl
  | [], [], _ :: _, _, _, _, _, _, hl, _, _, _ => by cases hl
/-- the values, one behind another -/
def tParA (K : PySem.W.Frag) (mg : Str → Option Value) (E : XK) : List (M R) → TA
  | [] => tNil
  | m :: ms => tCons (tM K mg E m) (tParA K mg E ms)
theorem par_eval {env0 : Env} {ow0 : Ow} {Qf : List V → Hp → Prop} : ∀ {ms : List (M R)} {acc : List (R × V)} {env : Env} {ow : Ow} {H : Hp} {exN : Addr → Prop}, HS K mg ex env ow σ H0 H exN acc → Post env0 ow0 H0 env ow H →
    WP (mA ms) env (fun rs env' => ∀ vs H' ow' exM, Post env0 ow0 H0 env' ow' H' → rs.length = vs.length → HS K mg ex env' ow' σ H0 H' exM (acc ++ rs.zip vs) → Qf vs H') (kX K mg ex env0 ow0 σ H0 E) → tParA K mg E ms σ H Qf
  | [], acc, env, ow, H, exN, hs, P, w => w [] H ow exN P rfl (by rw [List.zip_nil_left, List.append_nil]; exact hs)
  | m :: ms, acc, env, ow, H, exN, hs, P, w => by
    refine ⟨exN, env, ow, hs.sr, (WP.bind.mp (show WP (m.bind fun r => (mA ms).bind fun l => M.pure (r :: l)) env _ _ from w)).mono (fun r env1 w1 v H1 ow1 P1 q => ?_) fun z e k => ?_⟩
    · obtain ⟨exM, hs1⟩ := hs.step P.there P1 q
      refine par_eval hs1 (P.trans P1) ((WP.bind.mp w1).mono (fun rs env2 k vs H2 ow2 exM2 P2 hl hs2 => ?_) fun _ _ z => z)
      refine k (v :: vs) H2 ow2 exM2 P2 (congrArg Nat.succ hl) ?_
      rw [List.append_assoc] at hs2
      exact hs2
    · intro cls d H1 ow1 P1 S1 X1
      refine k cls d H1 ow1 (P.trans P1) ?_ ?_
      · refine ⟨S1.len, fun i => ?_, S1.inj, fun i a z y => S1.dis i a z (hs.sub a y), fun a z => S1.tr a (hs.sub a z)⟩
        exact (S1.slot i).mono (cut_sub H1 fun a z => z.elim (fun z => .inl (hs.sub a z)) .inr) fun _ _ z => z
      · obtain ⟨x1, da, vf, x2, x3, x4⟩ := X1
        exact ⟨x1, da, vf, x2, x3, x4.mono (cut_sub H1 fun a z => z.elim (fun z => .inl (hs.sub a z)) .inr)⟩
theorem HS.zero (S : SR K mg ex env ow σ H) : HS K mg ex env ow σ H H ex [] := ⟨S, fun _ z => z, (fun q hq => nomatch hq), fun a z => .inl z, List.Pairwise.nil⟩
theorem t_parL {is : List Nat} {ms : List (M R)} (D : Ends) (σ : St) (H : Hp) (h : tS K mg E (mPar is ms) D σ H) : tParA K mg E ms σ H fun vs H1 => vs.length = ms.length ∧ ∀ H2, Le H1 H2 → D.nx (putσ is vs σ) H2 := by
  obtain ⟨ex, env, ow, S, w⟩ := h
  have len : ∀ {ms : List (M R)} {env : Env} {rs : List R} {e : Env}, mA ms env = some (.ok rs e) → rs.length = ms.length := by
    intro ms
    induction ms with
    | nil => intro env rs e z; cases z; rfl
    | cons m ms ih =>
      intro env rs e z
      unfold mA M.bind at z
      split at z
      · rename_i r e1 _
        dsimp only at z
        split at z
        · rename_i l e2 h2
          cases z
          exact congrArg Nat.succ (ih h2)
        · cases z
        · cases z
      · cases z
      · cases z
  refine par_eval (HS.zero S) .refl ?_
  have w' := WP.bind.mp w
  unfold WP at w' ⊢
  cases c : mA ms env with
  | none => rw [c] at w'; exact w'.elim
  | some r0 =>
    rw [c] at w'
    cases r0 with
    | er z e => exact kY.x w'
    | ok rs e =>
      intro vs H1 ow1 exM P1 hl hs
      refine ⟨hl.symm.trans (len c), fun H2 l2 => ?_⟩
      have w2 : WP (mParS is rs) e (kF K mg ex env ow H D) (kY K mg ex env ow H E) := w'
      unfold WP mParS at w2
      cases c2 : putA is rs e with
      | none => rw [c2] at w2; exact w2.elim
      | some e2 =>
        rw [c2] at w2
        rw [List.nil_append] at hs
        obtain ⟨ow2, P2, S2⟩ := HS.store hl hs (P1.s (show SR K mg ex e ow1 σ H1 by
          refine ⟨hs.sr.len, fun i => ?_, hs.sr.inj, fun i a z y => hs.sr.dis i a z (hs.sub a y), fun a z => hs.sr.tr a (hs.sub a z)⟩
          exact (hs.sr.slot i).mono (cut_sub H1 fun a z => z.elim (fun z => .inl (hs.sub a z)) .inr) fun _ _ z => z)) c2
        exact (show kF K mg ex env ow H D .nx e2 from w2) _ H2 ow2 (P2.trans ((Post.le l2).s (S2.le l2))) (S2.le l2)
theorem t_par {is : List Nat} {ms : List (M R)} (D : Ends) (σ : St) (H : Hp) (h : tS K mg E (mPar is ms) D σ H) : tParA K mg E ms σ H fun vs H1 => vs.length = ms.length ∧ D.nx (putσ is vs σ) H1 := by
  have q := t_parL D σ H h
  have mono : ∀ (ms : List (M R)) {σ : St} {H : Hp} {Q Q' : List V → Hp → Prop}, (∀ vs H1, Q vs H1 → Q' vs H1) → tParA K mg E ms σ H Q → tParA K mg E ms σ H Q' := by
    intro ms
    induction ms with
    | nil => exact fun f h => f _ _ h
    | cons m ms ih =>
      intro σ H Q Q' f ⟨ex, env, ow, S, w⟩
      refine ⟨ex, env, ow, S, w.mono (fun r e k v H1 ow1 P R => ?_) fun _ _ z => z⟩
      exact ih (fun vs H2 z => f _ _ z) (k v H1 ow1 P R)
  exact mono ms (fun vs H1 ⟨h1, h2⟩ => ⟨h1, h2 H1 (.refl H1)⟩) q
end
section
variable {X : Cx} {E : XK} {i j l : Nat} {x y z : Str} {a b c : Expr} {px py pz pt pos : Pos} {kt k2 : Nat} {pt2 : Pos} {ma mb mc : M R}
theorem ds_par2 {kt k2} (hc : X.calm = true) (hN : X.N.Nodup) (hi : X.N[i]? = some x) (hj : X.N[j]? = some y) (hij : i ≠ j) (hx : X.env.scope.names.lookup x = some .local) (hy : X.env.scope.names.lookup y = some .local) (ha : DE X E a ma) (hb : DE X E b mb)
    (hw : swappedStores [.Tuple [.Name x px, .Name y py] kt pt] (.Tuple [a, b] k2 pt2) X.env = pure (some [x, y]))
    (hs : swapsWithSole [.Tuple [.Name x px, .Name y py] kt pt] (.Tuple [a, b] k2 pt2) pos.line X.env = pure false := by rfl)
    (s1 : starEach [a, b] X.env = (false, eval a X.env) :: starEach [b] X.env := by rfl) (s2 : starEach [b] X.env = (false, eval b X.env) :: starEach [] X.env := by rfl) :
    DS X E (.Assign [.Tuple [.Name x px, .Name y py] kt pt] (.Tuple [a, b] k2 pt2) pos) (mPar [i, j] [ma, mb]) := PS.weak (ps_par hc hN hi hj hij hx hy (pa_cons ha (pa_cons hb pa_nil s2) s1) hw hs) fun D σ H h => by
  refine (show tPar i j (tParA X.K X.mg E [ma, mb]) D σ H from ?_)
  have q := t_par D σ H h
  have e : (fun (vs : List V) H1 => vs.length = [ma, mb].length ∧ D.nx (putσ [i, j] vs σ) H1) = fun vs H1 => ∃ v w, vs = [v, w] ∧ D.nx ((σ.set i (some v)).set j (some w)) H1 := by
    funext vs H1
    refine propext ⟨fun ⟨h1, h2⟩ => ?_, fun ⟨v, w, h1, h2⟩ => by subst h1; exact ⟨rfl, h2⟩⟩
    match vs, h1, h2 with
    | [v, w], _, h2 => exact ⟨v, w, rfl, h2⟩
  rw [e] at q
  exact q
theorem ds_par3 {kt k2} (hc : X.calm = true) (hN : X.N.Nodup) (hi : X.N[i]? = some x) (hj : X.N[j]? = some y) (hl : X.N[l]? = some z) (hij : i ≠ j) (hil : i ≠ l) (hjl : j ≠ l) (hx : X.env.scope.names.lookup x = some .local) (hy : X.env.scope.names.lookup y = some .local) (hz : X.env.scope.names.lookup z = some .local)
    (ha : DE X E a ma) (hb : DE X E b mb) (hcc : DE X E c mc)
    (hw : swappedStores [.Tuple [.Name x px, .Name y py, .Name z pz] kt pt] (.Tuple [a, b, c] k2 pt2) X.env = pure (some [x, y, z]))
    (hs : swapsWithSole [.Tuple [.Name x px, .Name y py, .Name z pz] kt pt] (.Tuple [a, b, c] k2 pt2) pos.line X.env = pure false := by rfl)
    (s0 : starEach [a, b, c] X.env = (false, eval a X.env) :: starEach [b, c] X.env := by rfl) (s1 : starEach [b, c] X.env = (false, eval b X.env) :: starEach [c] X.env := by rfl) (s2 : starEach [c] X.env = (false, eval c X.env) :: starEach [] X.env := by rfl) :
    DS X E (.Assign [.Tuple [.Name x px, .Name y py, .Name z pz] kt pt] (.Tuple [a, b, c] k2 pt2) pos) (mPar [i, j, l] [ma, mb, mc]) := PS.weak (ps_par3 hc hN hi hj hl hij hil hjl hx hy hz (pa_cons ha (pa_cons hb (pa_cons hcc pa_nil s2) s1) s0) hw hs) fun D σ H h => by
  refine (show tPar3 i j l (tParA X.K X.mg E [ma, mb, mc]) D σ H from ?_)
  have q := t_par D σ H h
  have e : (fun (vs : List V) H1 => vs.length = [ma, mb, mc].length ∧ D.nx (putσ [i, j, l] vs σ) H1) = fun vs H1 => ∃ u v w, vs = [u, v, w] ∧ D.nx (((σ.set i (some u)).set j (some v)).set l (some w)) H1 := by
    funext vs H1
    refine propext ⟨fun ⟨h1, h2⟩ => ?_, fun ⟨u, v, w, h1, h2⟩ => by subst h1; exact ⟨rfl, h2⟩⟩
    match vs, h1, h2 with
    | [u, v, w], _, h2 => exact ⟨u, v, w, rfl, h2⟩
  rw [e] at q
  exact q
/-- the same by a tuple that is made and opened (names that comprehensions use) -/
theorem ds_parT3 {kt k2} (hc : X.calm = true) (hN : X.N.Nodup) (hi : X.N[i]? = some x) (hj : X.N[j]? = some y) (hl : X.N[l]? = some z) (hx : Loc X.env.scope x) (hy : Loc X.env.scope y) (hz : Loc X.env.scope z)
    (ha : DE X E a ma) (hb : DE X E b mb) (hcc : DE X E c mc)
    (fx : X.fn x = true ∨ X.env.scope.names.lookup x = some .local := by first | exact .inl rfl | exact .inr rfl | assumption) (fy : X.fn y = true ∨ X.env.scope.names.lookup y = some .local := by first | exact .inl rfl | exact .inr rfl | assumption) (fz : X.fn z = true ∨ X.env.scope.names.lookup z = some .local := by first | exact .inl rfl | exact .inr rfl | assumption)
    (hw : swappedStores [.Tuple [.Name x px, .Name y py, .Name z pz] kt pt] (.Tuple [a, b, c] k2 pt2) X.env = pure none := by rfl)
    (hs : swapsWithSole [.Tuple [.Name x px, .Name y py, .Name z pz] kt pt] (.Tuple [a, b, c] k2 pt2) pos.line X.env = pure false := by rfl)
    (s0 : starEach [a, b, c] X.env = (false, eval a X.env) :: starEach [b, c] X.env := by rfl) (s1 : starEach [b, c] X.env = (false, eval b X.env) :: starEach [c] X.env := by rfl) (s2 : starEach [c] X.env = (false, eval c X.env) :: starEach [] X.env := by rfl)
    (h1 : (assignEach [(.Tuple [.Name x px, .Name y py, .Name z pz] kt pt)] X.env).map (·.2) = [assign (.Tuple [.Name x px, .Name y py, .Name z pz] kt pt) X.env] := by rfl) (hn : (assignEach [.Name x px, .Name y py, .Name z pz] X.env).length = 3 := by rfl) (hst : (assignEach [.Name x px, .Name y py, .Name z pz] X.env).findIdx? (·.1) = none := by rfl)
    (a0 : (assignEach [.Name x px, .Name y py, .Name z pz] X.env).map (·.2) = assign (.Name x px) X.env :: (assignEach [.Name y py, .Name z pz] X.env).map (·.2) := by rfl) (a1 : (assignEach [.Name y py, .Name z pz] X.env).map (·.2) = assign (.Name y py) X.env :: (assignEach [.Name z pz] X.env).map (·.2) := by rfl) (a2 : (assignEach [.Name z pz] X.env).map (·.2) = assign (.Name z pz) X.env :: (assignEach [] X.env).map (·.2) := by rfl) :
    DS X E (.Assign [.Tuple [.Name x px, .Name y py, .Name z pz] kt pt] (.Tuple [a, b, c] k2 pt2) pos) (mPar [i, j, l] [ma, mb, mc]) := PS.weak (ps_asg (pe_tup (pa_cons ha (pa_cons hb (pa_cons hcc pa_nil s2) s1) s0))
      (pg_tup hc (pgs_cons (pg_name hN hi hx fx) (pgs_cons (pg_name hN hj hy fy) (pgs_cons (pg_name hN hl hz fz) pgs_nil a2) a1) a0) hn hst) hs hw h1) fun D σ H h => by
  have q := t_parL D σ H h
  refine (show tParA X.K X.mg E [ma, mb, mc] σ H (fun xs H1 => xs.length ≤ sizeLine ∧ ∀ p, H1 p = none → _) from ?_)
  have e : (fun (vs : List V) H1 => vs.length = [ma, mb, mc].length ∧ ∀ H2, Le H1 H2 → D.nx (putσ [i, j, l] vs σ) H2) = fun vs H1 => ∃ u v w, vs = [u, v, w] ∧ ∀ H2, Le H1 H2 → D.nx (((σ.set i (some u)).set j (some v)).set l (some w)) H2 := by
    funext vs H1
    refine propext ⟨fun ⟨h1, h2⟩ => ?_, fun ⟨u, v, w, h1, h2⟩ => by subst h1; exact ⟨rfl, h2⟩⟩
    match vs, h1, h2 with
    | [u, v, w], _, h2 => exact ⟨u, v, w, rfl, h2⟩
  rw [e] at q
  have mono : ∀ (ms : List (M R)) {σ : St} {H : Hp} {Q Q' : List V → Hp → Prop}, (∀ vs H1, Q vs H1 → Q' vs H1) → tParA X.K X.mg E ms σ H Q → tParA X.K X.mg E ms σ H Q' := by
    intro ms
    induction ms with
    | nil => exact fun f h => f _ _ h
    | cons m ms ih =>
      intro σ H Q Q' f ⟨ex, env, ow, S, w⟩
      exact ⟨ex, env, ow, S, w.mono (fun r e k v H1 ow1 P R => ih (fun vs H2 z => f _ _ z) (k v H1 ow1 P R)) fun _ _ z => z⟩
  refine mono _ (fun vs H1 ⟨u, v, w, e1, k⟩ => ?_) q
  subst e1
  refine ⟨by rw [sizeLine_eq]; show 3 ≤ _; decide, fun p hp => ⟨p, [u, v, w], rfl, SqT.of upd_same, rfl, u, [v, w], rfl, v, [w], rfl, w, [], rfl, rfl, k _ (Le.new hp)⟩⟩
end
end DL

/-! DMm: name = [.. for .. in .. if ..], the name a local. -/
namespace DL
open PySem L2
section
variable {X : Cx} {E : XK} {elt tg iter c : Expr} {scope : Scope} {own : List (Str × Nat)} {pos spos py : Pos} {src : M (List Dt)} {t : Tg} {mt : M Bool} {me : M R} {i : Nat} {y : Str}
theorem ds_setLcIf (hc : X.calm = true) (hN : X.N.Nodup) (hy : X.N[i]? = some y) (hyl : X.env.scope.names.lookup y = some .local) (hsw : swapsWith (.ListComp elt [⟨tg, iter, [c], 0⟩] scope pos) (some (.Name y py)) spos.line X.env = pure true) (hi : DI X E tg iter src) (ok : BlkOk X.N X.env.scope scope own)
    (hg : ∀ (s : Shared) (H : Hp) (C : Addr) (cl : List (Str × Addr)) (fp : List Addr), DGc (X.blk s H scope (compEnvC scope cl C X.env) fp) (own.map (·.2)) tg t)
    (ht : ∀ (s : Shared) (H : Hp) (C : Addr) (cl : List (Str × Addr)) (fp : List Addr), DT (X.blk s H scope (compEnvC scope cl C X.env) fp) ff c mt)
    (he : ∀ (s : Shared) (H : Hp) (C : Addr) (cl : List (Str × Addr)) (fp : List Addr), DE (X.blk s H scope (compEnvC scope cl C X.env) fp) ff elt me) (hs : ∀ x, foldedSetIterable iter X.env x = pure x := by intro _; rfl) :
    DS X E (.Assign [.Name y py] (.ListComp elt [⟨tg, iter, [c], 0⟩] scope pos) spos) (mSet i (mLC (own.map (·.2)) src t mt me)) :=
  PS.weak (ps_setLc (own := own) (te := tM X.K X.mg ff me) (g := tGc X.K X.mg (own.map fun z : Str × Nat => z.2) t) (tt := tMb X.K X.mg ff mt) hc hN hy hyl hsw hi ok hg (fun s H C cl fp => pts_one (ht s H C cl fp)) he hs) fun D σ H ⟨ex, env, ow, S, w⟩ =>
    (t_lc (K := X.K) (mg := X.mg) (E := E) (vs := own.map (fun z : Str × Nat => z.2)) (src := src) (tg := t) (tt := mt) (te := me) σ H (fun x H1 => gName i x σ H1 D.nx) ⟨ex, env, ow, S, (WP.bind.mp w).mono (fun r env1 w1 v H1 ow1 P1 R1 => WP.setR S.tr P1 R1 w1) fun _ _ z => kY.x z⟩)
end
end DL

/-! DNa: zip of two tuples, of two lists. -/
namespace DL
open PySem L2
def zipD : List Dt → List Dt → List Dt
  | a :: as, b :: bs => .tup [a, b] :: zipD as bs
  | _, _ => []
theorem zipD_length : ∀ as bs : List Dt, (zipD as bs).length = min as.length bs.length
  | [], _ => by simp [zipD]
  | _ :: _, [] => by simp [zipD]
  | a :: as, b :: bs => by
    show (zipD as bs).length + 1 = _
    rw [zipD_length as bs, List.length_cons, List.length_cons]
    omega
theorem zipD_get : ∀ (as bs : List Dt) (i : Nat) (a b : Dt), as[i]? = some a → bs[i]? = some b → (zipD as bs)[i]? = some (.tup [a, b])
  | [], _, _, _, _, h, _ => by simp at h
  | _ :: _, [], _, _, _, _, h => by simp at h
  | x :: as, y :: bs, 0, a, b, h, h' => by
    simp at h h'
    subst h h'
    rfl
  | x :: as, y :: bs, i + 1, a, b, h, h' => zipD_get as bs i a b (by simpa using h) (by simpa using h')
section
variable {K : PySem.W.Frag} {mg : Str → Option Value} {G : Hp} {ex : Addr → Prop} {env : Env} {ow : Ow} {σ : St} {E : XK}
theorem zip_rep {xs ys : List V} {ds es : List Dt} {i : Nat} {x y : V} {T : Addr} {L : Addr → Prop} {H : Hp} (r : RepA K mg G xs ds) (r' : RepA K mg G ys es) (hx : xs[i]? = some x) (hy : ys[i]? = some y) (tr : ∀ a, L a → H a ≠ none) (hT : H T = none) (l : Le G (cut L H)) :
    Le H (upd H T (.tup [x, y])) ∧ ∃ d, (zipD ds es)[i]? = some d ∧ Rep K mg (cut L (upd H T (.tup [x, y]))) (.ref T) d := by
  obtain ⟨d, h1, h2⟩ := r.get' hx
  obtain ⟨e, h3, h4⟩ := r'.get' hy
  obtain ⟨l2, e4⟩ := Le.fresh (L := L) (o := .tup [x, y]) tr hT
  exact ⟨.new hT, _, zipD_get ds es i d e h1 h3, .tup (SqT.of e4) (.cons (h2.mono (l.trans l2)) (.cons (h4.mono (l.trans l2)) .nil))⟩
theorem yields_zipT {a b : Addr} {xs ys : List V} {ds es : List Dt} (h : SqT K G a xs) (h' : SqT K G b ys) (r : RepA K mg G xs ds) (r' : RepA K mg G ys es) : Yields K mg G (RZ.ItzT K a b) (zipD ds es) where
  go := fun i H l hi => by
    rw [zipD_length, ← r.length, ← r'.length] at hi
    exact ⟨xs, ys, xs[i]'(by omega), ys[i]'(by omega), l.t h, l.t h', by simp, by simp⟩
  stop := fun i H l hi => by
    rw [zipD_length, ← r.length, ← r'.length] at hi
    exact ⟨xs, ys, l.t h, l.t h', by omega⟩
  yld := fun L i H v H' tr l hi ⟨T, x, y, e1, e2, e3, hx, hy⟩ => by
    subst e1; subst e3
    exact zip_rep r r' (hx xs ((l.trans (cut_le L _)).t h)) (hy ys ((l.trans (cut_le L _)).t h')) tr e2 l
def zip2 (l : List R) : M (List Dt) := match l with
  | [p, q] => (frz p).bind fun d => (frz q).bind fun e => fun env => match d, e with
    | .tup ds, .tup es => some (.ok (zipD ds es) env)
    | _, _ => none
  | _ => fun _ => none
def mZip (a b : M R) : M (List Dt) := (mA [a, b]).bind zip2
theorem t_zip {a b : M R} (σ : St) (H : Hp) (R : It → Hp → Prop) (h : tI K mg E (mZip a b) σ H R) : RZ.iZipA K (tMa K mg E (mA [a, b])) σ H R := by
  obtain ⟨ex, env, ow, S, w⟩ := h
  refine ⟨ex, env, ow, S, (WP.bind.mp w).mono (fun l env1 w1 vs H1 ow1 P1 S1 hh => ?_) fun _ _ z => z⟩
  unfold zip2 at w1
  split at w1
  · rename_i p q
    cases hh with
    | cons hp t =>
      cases t with
      | cons hq t =>
        cases t
        obtain ⟨d, env2, ow2, S2, P2, r2, w2⟩ := WP.frz S1 hp (WP.bind.mp w1)
        obtain ⟨e, env3, ow3, S3, P3, r3, w3⟩ := WP.frz S2 (Held.post S1 P2 hq) (WP.bind.mp w2)
        cases d with
        | tup ds =>
          cases e with
          | tup es =>
            cases r3 with
            | tup g1 g2 =>
              have r2' := Rep.mono (P3.cut S2) r2
              clear r2
              cases r2' with
              | tup h1 h2 => exact ⟨_, _, _, _, rfl, .inr ⟨(cut_le _ _).t h1, (cut_le _ _).t g1, (show kI K mg ex env ow σ H R (zipD ds es) env3 from w3) H1 ow3 _ _ ((P1.trans P2).trans P3) S3 (.refl _) (yields_zipT h1 g1 h2 g2)⟩⟩
          | _ => exact w3.elim
        | _ => cases e <;> exact w3.elim
  · exact w1.elim
end
section
variable {X : Cx} {E : XK} {a b : Expr} {es : List Expr} {kk : Nat} {p pos tpos : Pos} {ma mb : M R}
theorem di_zip (hg : Gl X "zip") (hm : X.mg "zip" = none) (ha : DE X E a ma) (hb : DE X E b mb) (hs : starEach [a, b] X.env = (false, eval a X.env) :: starEach [b] X.env := by rfl) (hs2 : starEach [b] X.env = (false, eval b X.env) :: starEach [] X.env := by rfl) (hpl : (backTo pos (starEach [b] X.env)).any (·.1) = false := by rfl) :
    DI X E (.Tuple es kk tpos) (.Call (.Name "zip" p) [a, b] [] pos) (mZip ma mb) :=
  PI.weak (RZ.pi_zipA hg hm (da_cons ha (da_cons hb da_nil hs2) hs) hs hpl) t_zip
end
end DL

/-! DNb: a tuple backwards. -/
namespace MS
open PySem PySem.Spec PyProof.Rows L2
theorem rev_adjust (n : Nat) : Builtin.Slice.sliceAdjust none none (-1) (n : Int) = ((n : Int) - 1, -1) := rfl
theorem rev_places (n : Nat) : Builtin.Slice.slicePlaces ((n : Int) - 1) (-1) (-1) = n := by
  unfold Builtin.Slice.slicePlaces
  have h1 : ¬ ((-1 : Int) > 0) := by decide
  simp only [h1, if_false]
  by_cases c : (n : Int) - 1 > -1
  · rw [if_pos c]
    have : ((n : Int) - 1 - -1 - 1) / (- -1) = (n : Int) - 1 := by
      rw [show (- -1 : Int) = 1 by decide, Int.ediv_one]
      omega
    rw [this]
    omega
  · rw [if_neg c]
    omega
theorem rev_pick (xs : Array Value) : ((List.range xs.size).filterMap fun (m : Nat) => xs[(((xs.size : Nat) : Int) - 1 + (m : Int) * (-1)).toNat]?) = xs.toList.reverse := by
  have e : ((List.range xs.size).map fun (m : Nat) => (((xs.size : Nat) : Int) - 1 + (m : Int) * (-1)).toNat) = (List.range xs.size).map fun k => xs.size - 1 - k := by
    refine List.map_congr_left fun m hm => ?_
    have := List.mem_range.1 hm
    omega
  have e2 : ((List.range xs.size).filterMap fun (m : Nat) => xs[(((xs.size : Nat) : Int) - 1 + (m : Int) * (-1)).toNat]?) = ((List.range xs.size).map fun (m : Nat) => (((xs.size : Nat) : Int) - 1 + (m : Int) * (-1)).toNat).filterMap (xs[·]?) := by
    rw [List.filterMap_map]
    rfl
  rw [e2, e, PySem.W.krv_range, List.filterMap_reverse, PySem.W.krv_all]
section
variable {prog : Program} {w : World} {A : Around} {E : Value → Shared → Prop} {s : Shared}
theorem rev_applied {sl : Addr} {t : Tok} {n : Nat} {Q : Int × Int × Nat → Shared → Prop} (hs : s.heap.IsSliceOf sl .none .none (.int (-1) t)) (h : Q ((n : Int) - 1, -1, n) s) : wpAny (model prog w) A (Builtin.Slice.sliceApplied (.ref sl) (pure (n : Int))) Q E s := by
  obtain ⟨o, g1, g2, g3⟩ := id hs
  unfold Builtin.Slice.sliceApplied Builtin.Slice.sliceFields
  have h3 : wpAny (model prog w) A (Builtin.Slice.slicePartIndex (.int (-1) t)) (fun (r : Option Int) s => wpAny (model prog w) A (do
      let step := r.getD 1
      if step == 0 then rule "slice.step-zero"; raiseError "ValueError" "slice step cannot be zero"
      let start ← Builtin.Slice.slicePartIndex .none
      let stop ← Builtin.Slice.slicePartIndex .none
      let (lo, hi) := Builtin.Slice.sliceAdjust start stop step (← (pure (n : Int)))
      return (lo, step, Builtin.Slice.slicePlaces lo hi step)) Q E s) E s := by
    refine HT.slicePart_ (.int (-1) t) ?_
    show wpAny _ _ (if ((-1 : Int) == 0) = true then _ else _) _ _ s
    rw [if_neg (by decide)]
    refine wpAny_bind (HT.slicePart_ .none (wpAny_bind (HT.slicePart_ .none (wpAny_bind (wpAny_pure ?_)))))
    show wpAny _ _ (match Builtin.Slice.sliceAdjust none none (-1) (n : Int) with | (lo, hi) => pure (lo, (-1 : Int), Builtin.Slice.slicePlaces lo hi (-1))) _ _ s
    rw [rev_adjust n]
    show wpAny _ _ (pure ((n : Int) - 1, (-1 : Int), Builtin.Slice.slicePlaces ((n : Int) - 1) (-1) (-1))) _ _ s
    rw [rev_places]
    exact wpAny_pure h
  exact wpAny_bind (wpAny_bind (wpAny_field g1 g3 (x := .none) rfl (wpAny_bind (wpAny_field g1 g3 (x := .none) rfl (wpAny_bind (wpAny_field g1 g3 (x := .int (-1) t) rfl (wpAny_pure (wpAny_bind h3))))))))
theorem getItem_tupleRev {a sl : Addr} {t : Tok} {items : Array Value} {Q : Value → Shared → Prop} (ht : IsTup s.heap a items) (hs : s.heap.IsSliceOf sl .none .none (.int (-1) t)) (hz : items.size ≤ sizeLine)
    (h : Q (.ref s.heap.objs.size) { s with heap := s.heap.push { cls := .type "tuple", data := .seq items.toList.reverse.toArray } }) : wpAny (model prog w) A (getItem (.ref a) (.ref sl)) Q E s := by
  have ok : sizeOk (.seq items.toList.reverse.toArray) := by
    show items.toList.reverse.toArray.size ≤ sizeLine
    rw [List.size_toArray, List.length_reverse, Array.length_toList]
    exact hz
  obtain ⟨o, g1, g2, g3⟩ := id hs
  have T : s.TypeIs (.ref sl) "slice" := ⟨o, g1, g2⟩
  unfold getItem
  try with_reducible refine wpAny_holding ?_
  first | refine wpAny_bind (wpAny_pure ?_) | skip
  refine wpAny_bind (wpAny_sequenceKey ht.typeIs (by decide) (wpAny_bind (wpAny_callSpecial?_slot (name := Str.ofString "__getitem__") ht.typeIs PyProof.Rows.slot_tuple_getitem (wpAny_call_entry PyProof.Rows.slot_tuple_getitem ht.typeIs entry_tuple_getitem ?_ (args_tuple_getitem _ _)))))
  show wpAny _ _ (Builtin.Tuple.tupleItemsOf (.ref a) >>= _) _ _ s
  refine wpAny_bind (tupleItemsOf_ ht (wpAny_bind (wpAny_typeOf T ?_)))
  rw [if_pos (by decide)]
  refine wpAny_bind (rev_applied (n := items.size) hs ?_)
  have no : ¬ ((((items.size : Nat) : Int) - 1 == 0 && (-1 : Int) == 1 && items.size == items.size) = true) := by simp
  show wpAny _ _ (if (((items.size : Nat) : Int) - 1 == 0 && (-1 : Int) == 1 && items.size == items.size) = true then _ else _) _ _ s
  rw [if_neg no, rev_pick]
  first
    | exact wpAny_bind (m := Builtin.Tuple.tupleExact _) (wpAny_newObj_type (wpAny_pure ⟨_, rfl, wpAny_pure h⟩) ok)
    | exact wpAny_bind (m := Builtin.Tuple.tupleExact _) (wpAny_newObj_type (wpAny_bind (wpAny_pure (wpAny_pure ⟨_, rfl, wpAny_pure h⟩))) ok)
    | exact wpAny_bind (wpAny_bind (m := Builtin.Tuple.tupleExact _) (wpAny_newObj_type (wpAny_pure (wpAny_pure ⟨_, rfl, wpAny_pure h⟩)) ok))
    | exact wpAny_bind (wpAny_bind (m := Builtin.Tuple.tupleExact _) (wpAny_newObj_type (wpAny_pure ⟨_, rfl, wpAny_pure h⟩) ok))
end
def rRevT (K : PySem.W.Frag) : V → Hp → VK → Prop := fun x H Q => ∃ a xs, x = .ref a ∧ SqT K H a xs ∧ ∀ p, H p = none → Q (.ref p) (upd H p (.tup xs.reverse))
theorem pe_revT {X : Cx} {e : Expr} {te : TE} {k : Nat} {p1 p2 p3 pos : Pos} (he : PE X e te) : PE X (.Subscript e (.Slice none none (some (.UnaryOp .USub (.Constant (.int 1) k p1) p2)) p3) pos) (tUn (rRevT X.K) te) := by
  refine ⟨fun pins s σ H Q I h => Subscript_ (thn (he.run pins s σ H _ I h) fun v s1 ⟨x, H1, I1, r1, q1⟩ => ?_)⟩
  obtain ⟨a, xs, rfl, hx, q⟩ := q1
  cases r1
  have st : PO X (some (.UnaryOp .USub (.Constant (.int 1) k p1) p2)) (tPart (tUn (rU fun i => .int (-i)) (tC (.int 1)))) := po_some (pe_un un_neg pe_int)
  refine wpAny_Slice (thn (po_none.run pins s1 σ H1 (fun o H2 => o = none ∧ H2 = H1) I1 ⟨rfl, rfl⟩) fun vl s2 ⟨l, H2, I2, pl, z1, z2⟩ => ?_)
  subst z1 z2
  refine thn (po_none.run pins s2 σ H2 (fun o H3 => o = none ∧ H3 = H2) I2 ⟨rfl, rfl⟩) fun vu s3 ⟨u, H3, I3, pu, z3, z4⟩ => ?_
  subst z3 z4
  refine thn (st.run pins s3 σ H3 (fun o H4 => o = some (-1) ∧ H4 = H3) I3 ⟨1, rfl, -1, rfl, rfl, rfl⟩) fun vs s4 ⟨o, H4, I4, ps, z5, z6⟩ => ?_
  subst z5 z6
  cases pl
  cases pu
  cases ps with
  | int i t =>
    have I5 : Inv X pins σ H4 { s4 with heap := s4.heap.push { cls := .type "slice", data := .fields #[.none, .none, .int (-1) t] } } := I4.kept (t' := s4.toks) fun b ob q => Heap.get?_push_of_some _ q
    obtain ⟨its, r, ht, hz⟩ := I5.tuple hx
    have hl := r.length
    show wpAny (model X.prog X.w) X.A (subscriptTail e (.Slice none none (some (.UnaryOp .USub (.Constant (.int 1) k p1) p2)) p3) (.ref a) (.ref s4.heap.objs.size)) (EP X pins σ Q) X.xe { s4 with heap := s4.heap.push { cls := .type "slice", data := .fields #[.none, .none, .int (-1) t] } }
    refine tail_any (ops := [.ref a, .ref s4.heap.objs.size]) ht.typeIs PyProof.Rows.slot_tuple_getitem.lookup (getItem_tupleRev ht (Heap.IsSliceOf.new _ .none .none (.int (-1) t)) (by rw [List.size_toArray]; omega) ?_) (by with_unfolding_all rfl)
    exact ⟨.ref _, _, I5.laid (t' := s4.toks) (o := .tup xs.reverse) (fun b ob q => Heap.get?_push_of_some _ q) (Nat.le_refl _) ⟨by rw [List.length_reverse]; exact hz, _, r.reverse, ⟨_, Heap.get?_push_size _ rfl, rfl, _, rfl⟩⟩, rfl, q _ (I5.hok.fresh (Nat.le_refl _))⟩
end MS

/-! DNc: list(xs), str(int), isinstance of dicts too, == of all plain data, a chain as a value. -/
namespace DL
open PySem L2
theorem RepA.back {K : PySem.W.Frag} {mg : Str → Option Value} {G : Hp} : ∀ {vs : List V} {ds : List Dt}, RepA K mg G vs ds → RepA K mg G vs.reverse ds.reverse
  | _, _, .nil => .nil
  | _, _, .cons r t => by
    rw [List.reverse_cons, List.reverse_cons]
    exact (RepA.back t).append (.cons r .nil)
section
variable {K : PySem.W.Frag} {mg : Str → Option Value}
def gRevT : Dt → Option R := fun d => match d with
  | .tup ds => some (.val (.tup ds.reverse))
  | _ => none
theorem us_revT : UnS K mg (MS.rRevT K) gRevT := fun L H x dx rv Q tr rx h k => by
  unfold gRevT at h
  split at h
  · rename_i ds
    cases h
    obtain ⟨a, us, rfl, ha, ra⟩ := rx.tup
    exact ⟨a, us, rfl, ha, fun p hp => k _ _ (.new hp) (new_tup tr hp ra.back)⟩
  · cases h
def gList : List Dt → Option R := fun l => match l with
  | [.lst ds] => some (.new (.lst ds))
  | [.tup ds] => some (.new (.lst ds))
  | _ => none
theorem cs_list : CallS K mg (fun xs H Q => ∃ p ys, xs = [.ref p] ∧ (SqL K H p ys ∨ SqT K H p ys) ∧ ∀ l, H l = none → Q (.ref l) (upd H l (.lst ys))) gList := fun L H xs ds rv Q tr rx e k => by
  unfold gList at e
  split at e
  · rename_i ds
    cases e
    obtain ⟨v, rfl, r⟩ := rx.one
    obtain ⟨a, us, rfl, ha, ra⟩ := r.lst
    exact ⟨a, us, rfl, .inl (SqL.of ha), fun p hp => k _ _ (.new hp) (new_lst tr hp ra)⟩
  · rename_i ds
    cases e
    obtain ⟨v, rfl, r⟩ := rx.one
    obtain ⟨a, us, rfl, ha, ra⟩ := r.tup
    exact ⟨a, us, rfl, .inr ha, fun p hp => k _ _ (.new hp) (new_lst tr hp ra)⟩
  · cases e
def gStr : List Dt → Option R := fun l => match l with
  | [.int i] => if i.natAbs.log2 < 1920 then some (.val (.str (toString i))) else none
  | _ => none
theorem cs_str : CallS K mg (fun xs H Q => ∃ i, xs = [.int i] ∧ i.natAbs.log2 < 1920 ∧ Q (.str (toString i)) H) gStr := fun L H xs ds rv Q tr rx e k => by
  unfold gStr at e
  split at e
  · rename_i i
    split at e
    · rename_i c
      cases e
      obtain ⟨v, rfl, r⟩ := rx.one
      have ri := r.int
      subst ri
      exact ⟨i, rfl, c, k _ H (.refl H) (.str _)⟩
    · cases e
  · cases e
/-! ### isinstance of dicts -/
def gIsD : List Dt → Option R := fun l => match l with
  | [.dic _, .ty n] => if n = "int" ∨ n = "bool" ∨ n = "str" ∨ n = "tuple" ∨ n = "list" then some (.val (.bl false)) else none
  | _ => none
theorem cs_isD : CallS K mg (rIsi K) gIsD := fun L H xs ds rv Q tr rx e k => by
  unfold gIsD at e
  split at e
  · rename_i d n
    split at e
    · rename_i c
      cases e
      cases rx with
      | cons r1 rr =>
        cases rr with
        | cons r2 rr =>
          cases rr
          have q2 := r2.rep
          cases q2
          have q1 := r1.rep
          cases q1 with
          | dic h _ =>
            refine ⟨_, _, _, _, false, rfl, .ty n, .base (.dK h), kit_ty ?_, k _ H (.refl H) (.bl false)⟩
            rcases c with c | c | c | c | c <;> (rw [c]; decide +kernel)
    · cases e
  · cases e
def gIsQ := gCOr gIsP gIsD
/-! ### == of all plain data -/
def eqVV (a b : Dt) : Option Bool := match pyD a, pyD b with
  | some p, some q => if SeqAt.shaped p = true ∧ SeqAt.shaped q = true then some (PyData.eqv p q) else none
  | _, _ => none
theorem eqVV_ok {L : Addr → Prop} {H : Hp} {x y : V} {dx dy : Dt} {b : Bool} (rx : Rdb K mg (cut L H) H x dx) (ry : Rdb K mg (cut L H) H y dy) (h : eqVV dx dy = some b) :
    ∃ d e, Dp K H x d ∧ Dp K H y e ∧ SeqAt.shaped d = true ∧ SeqAt.shaped e = true ∧ PyData.eqv d e = b := by
  unfold eqVV at h
  split at h
  · rename_i p q e1 e2
    split at h
    · rename_i c
      cases h
      exact ⟨p, q, dp_of rx.rep e1, dp_of ry.rep e2, c.1, c.2, rfl⟩
    · cases h
  · cases h
def gEqV : Dt → Dt → Option R := fun x y => (eqVV x y).map fun b => .val (.bl b)
def gNeV : Dt → Dt → Option R := fun x y => (eqVV x y).map fun b => .val (.bl !b)
theorem os_eqV : OpS K mg (rEqD K) gEqV := fun L H x y dx dy rv Q tr rx ry h k => by
  obtain ⟨b, hb, rfl⟩ := Option.map_eq_some_iff.mp h
  obtain ⟨d, e, h1, h2, h3, h4, rfl⟩ := eqVV_ok rx ry hb
  exact ⟨d, e, h1, h2, h3, h4, k _ H (.refl H) (.bl _)⟩
theorem os_neV : OpS K mg (rNeD K) gNeV := fun L H x y dx dy rv Q tr rx ry h k => by
  obtain ⟨b, hb, rfl⟩ := Option.map_eq_some_iff.mp h
  obtain ⟨d, e, h1, h2, h3, h4, rfl⟩ := eqVV_ok rx ry hb
  exact ⟨d, e, h1, h2, h3, h4, k _ H (.refl H) (.bl _)⟩
end
section
variable {X : Cx} {E : XK} {a b c e : Expr} {es : List Expr} {k kk : Nat} {p p1 p2 p3 pos : Pos} {ma mb mc : M R}
theorem d_revT (ha : DE X E a ma) : DE X E (.Subscript a (.Slice none none (some (.UnaryOp .USub (.Constant (.int 1) kk p1) p2)) p3) pos) (mUn gRevT ma) := PE.weak (MS.pe_revT ha) (t_un us_revT)
theorem d_leLe (ha : DE X E a ma) (hb : DE X E b mb) (hc : DE X E c mc) (hm : lastMarks [.LtE, .LtE] [b, c] = false := by with_unfolding_all rfl) : DE X E (.Compare a [.LtE, .LtE] [b, c] pos) (mChain gLe gLe ma mb mc) := PE.weak (pe_chain op_le op_le ha hb hc hm) (t_chain os_le os_le)
end
end DL

/-! DNd: a def called by keywords alone, told from the last one to the first. -/
namespace DL
open PySem L2
theorem paired_app {α β : Type} {P : α → β → Prop} : ∀ {as : List α} {bs : List β} {cs : List α} {ds : List β}, Paired P as bs → Paired P cs ds → Paired P (as ++ cs) (bs ++ ds)
  | _, _, _, _, .nil, h => h
  | _, _, _, _, .cons a t, h => .cons a (paired_app t h)
theorem paired_rev {α β : Type} {P : α → β → Prop} : ∀ {as : List α} {bs : List β}, Paired P as bs → Paired P as.reverse bs.reverse
  | _, _, .nil => .nil
  | _, _, .cons a t => by
    rw [List.reverse_cons, List.reverse_cons]
    exact paired_app (paired_rev t) (.cons a .nil)
def mFnR (fs : Fs) (l : List (M R)) : M R := (mA l).bind fun rs => (argsD fs.io rs.reverse).bind fun ds => callF fs rs.reverse ds
def tCallR (sp : Sp) (E : XK) (t : TA) : TE := fun σ H Q => t σ H fun vs H1 => sp vs.reverse H1 Q E
section
variable {K : PySem.W.Frag} {mg : Str → Option Value} {E : XK}
theorem t_fnR {fs : Fs} {l : List (M R)} {n : Nat} (hn : fs.io.length = n) (σ : St) (H : Hp) (Q : VK) (h : tM K mg E (mFnR fs l) σ H Q) : tCallR (spOf K mg n fs) E (tMa K mg E (mA l)) σ H Q := by
  obtain ⟨ex, env, ow, S, w⟩ := h
  refine ⟨ex, env, ow, S, (WP.bind.mp w).mono (fun rs0 env1 w1 vs0 H1 ow1 P1 S1 hh0 => ?_) fun _ _ z => z⟩
  have hh := paired_rev hh0
  show spOf K mg n fs vs0.reverse H1 Q E
  revert w1 hh
  generalize rs0.reverse = rs
  generalize vs0.reverse = vs
  intro w1 hh
  obtain ⟨ds, env2, ow2, S2, P2, _, A2, B2, w2⟩ := WP.argsD S1 hh (WP.bind.mp w1)
  obtain ⟨l1, l2, l3⟩ := A2.len
  unfold WP callF at w2
  by_cases hc : (lent fs.io rs).Nodup ∧ (lent fs.io rs).all (fun i => isOwn (gs env2 i)) = true
  · rw [if_pos hc] at w2
    obtain ⟨nd, own⟩ := hc
    have own' : ∀ i ∈ lent fs.io rs, isOwn (gs env2 i) = true := List.all_eq_true.mp own
    have lims : ∀ a, lim (fun a => lim ex ow2 a ∧ ∀ j, owC ow2 fs.io rs j ≠ some a) (owC ow2 fs.io rs) a ↔ lim ex ow2 a := fun a => by
      constructor
      · rintro (z | ⟨j, z⟩)
        · exact z.1
        · obtain ⟨i, _, e⟩ := owC_lent z
          exact .inr ⟨i, e⟩
      · intro z
        by_cases q : ∃ j, owC ow2 fs.io rs j = some a
        · exact .inr q
        · exact .inl ⟨z, fun j e => q ⟨j, e⟩⟩
    have eqL : lim (fun a => lim ex ow2 a ∧ ∀ j, owC ow2 fs.io rs j ≠ some a) (owC ow2 fs.io rs) = lim ex ow2 := funext fun a => propext (lims a)
    have hlen : (argE fs.io ds).length = (vs.map some).length := by rw [argE_length l3, List.length_map, l2]
    have SC : SR K mg (fun a => lim ex ow2 a ∧ ∀ j, owC ow2 fs.io rs j ≠ some a) (argE fs.io ds) (owC ow2 fs.io rs) (vs.map some) H1 := by
      refine ⟨hlen, fun j => ?_, fun i j a h1 h2 => owC_inj S2.inj nd h1 h2, fun i a h z => z.2 i h, fun a z => S2.there z.1⟩
      rw [eqL]
      exact callee_slots (fun i a e => .inr ⟨i, e⟩) (fun i => S2.slot i) A2 B2 own j
    refine ⟨by rw [l2, hn], _, _, ds, by rw [l3, hn], SC, ?_⟩
    cases e : fs.run ds with
    | none => simp only [e] at w2
    | some fr =>
      simp only [e] at w2
      cases fr with
      | exc x outs =>
        by_cases ho : outs.length = fs.io.length
        · simp only [ho, if_pos] at w2
          intro cls d H3 k3 S3 X3
          have R := S2.called (ex2 := fun a => lim ex ow2 a ∧ ∀ j, owC ow2 fs.io rs j ≠ some a) A2 ho nd own' k3 (fun a z => .inl z.1) (fun a z => ⟨.inl z, fun j e => by
            obtain ⟨i, _, e2⟩ := owC_lent e
            exact S2.dis i a e2 z⟩) (fun i a e z => ⟨.inr ⟨i, e⟩, z⟩) ex (fun a => ⟨.inl, fun z => z.elim (fun z => z) fun z => absurd z.2 (S2.there z.1.1)⟩) S3
          obtain ⟨R1, R2, R3⟩ := R
          refine w2 cls d H3 ow2 ((P1.trans P2).trans R2) R1 ?_
          rw [eqL] at X3
          exact X3
        · simp only [ho, if_neg, not_false_eq_true] at w2
      | ret r outs =>
        cases r with
        | loc i => simp only at w2
        | val d0 =>
          by_cases ho : outs.length = fs.io.length
          · simp only [ho, if_pos] at w2
            refine ⟨rfl, fun v H3 k3 R0 => ?_⟩
            obtain ⟨S3, r3⟩ := R0
            obtain ⟨R1, R2, R3⟩ := S2.called (ex2 := fun a => lim ex ow2 a ∧ ∀ j, owC ow2 fs.io rs j ≠ some a) A2 ho nd own' k3 (fun a z => .inl z.1) (fun a z => ⟨.inl z, fun j e => by
              obtain ⟨i, _, e2⟩ := owC_lent e
              exact S2.dis i a e2 z⟩) (fun i a e z => ⟨.inr ⟨i, e⟩, z⟩) ex (fun a => ⟨.inl, fun z => z.elim (fun z => z) fun z => absurd z.2 (S2.there z.1.1)⟩) S3
            refine w2 v H3 ow2 ((P1.trans P2).trans R2) ⟨R1, ?_⟩
            rw [eqL] at r3
            exact r3
          · simp only [ho, if_neg, not_false_eq_true] at w2
        | new d0 =>
          by_cases ho : outs.length = fs.io.length
          · simp only [ho, if_pos] at w2
            refine ⟨rfl, fun v H3 k3 R0 => ?_⟩
            obtain ⟨p, ob, f1, f2, f3, r3, S3⟩ := R0
            obtain ⟨R1, R2, R3⟩ := S2.called (ex2 := fun a => (lim ex ow2 a ∧ ∀ j, owC ow2 fs.io rs j ≠ some a) ∨ a = p) A2 ho nd own' k3 (fun a z => z.elim (fun z => .inl z.1) fun z => .inr (by rw [z]; exact f2)) (fun a z => .inl ⟨.inl z, fun j e => by
              obtain ⟨i, _, e2⟩ := owC_lent e
              exact S2.dis i a e2 z⟩) (fun i a e z => .inl ⟨.inr ⟨i, e⟩, z⟩) (fun a => ex a ∨ a = p) (fun a => by
                constructor
                · rintro (z | z)
                  · exact .inl z
                  · exact .inr ⟨.inr z, by rw [z]; exact f2⟩
                · rintro (z | ⟨z | z, n⟩)
                  · exact .inl z
                  · exact absurd n (S2.there z.1)
                  · exact .inr z) S3
            have hp : H p = none := by
              cases z : H p with
              | none => rfl
              | some o => exact absurd f2 (P1.there p (by rw [z]; exact fun q => nomatch q))
            refine w2 v H3 ow2 ((P1.trans P2).trans R2) ⟨p, ob, f1, hp, f3, r3.mono (cut_sub H3 fun a z => ?_), R1⟩
            exact R3 a z
          · simp only [ho, if_neg, not_false_eq_true] at w2
  · rw [if_neg hc] at w2; exact w2.elim
end
section
variable {X : Cx} {k n : Nat} {f : Addr} {fd : FuncData} {ps ks : List Str} {sp : Sp} {E : XK} {x : Str} {p pos : Pos} {kws : List Keyword} {t : TA} {fs : Fs} {ml : List (M R)}
/-- how such a call binds -/
def KBR (K : PySem.W.Frag) (fd : FuncData) (ps ks : List Str) : Prop := ∀ (s : Shared) (ws : List Value), K.In s.heap → ws.length = ks.length → BindsTo s fd ⟨[], ks.zip ws⟩ (ps.zip ws.reverse)
theorem vals_back : ∀ {vs : List V} {us : List Value}, Vals vs us → Vals vs.reverse us.reverse
  | _, _, .nil => .nil
  | _, _, .cons r t => by
    rw [List.reverse_cons, List.reverse_cons]
    exact (vals_back t).append (.cons r .nil)
theorem pe_callGR (F : FnG X.prog X.w X.K X.mg X.base k f fd ps sp) (bd : Bd X k E) (hg : Gl X x) (hm : X.mg x = some (.ref f)) (hk : PySem.W.keepIn X.K (.ref f) = true) (hb : KBR X.K fd ps ks) (hl : ps.length = ks.length) (ha : PK X kws t)
    (hall : (backToKw pos (keywordEach kws X.env)).all (·.1.isSome) = true := by rfl) (hks : (backToKw pos (keywordEach kws X.env)).filterMap (·.1) = ks := by rfl)
    (hdb : (x == ("__debug__" : Str)) = false := by decide) (hpl : ((backTo pos (starEach [] X.env)).any (·.1) || (backToKw pos (keywordEach kws X.env)).any (·.1.isNone)) = false := by rfl) :
    PE X (.Call (.Name x p) [] kws pos) (tCallR sp E t) := by
  refine ⟨fun pins s σ H Q I h => wpAny_Call_Name_kw (ld_glob I hg hm (PySem.W.callWith_KW0 (h₀ := X.base) I.ok.mod.kin hk hall (thn (ha.run pos pins s σ H _ I h) fun ws s1 ⟨zs, H1, I1, rz, q⟩ => ⟨I1.kIn, ?_⟩) hpl) hdb)⟩
  rw [hks]
  have rr := vals_back rz
  have lz : zs.reverse.length = ps.length := F.len _ _ _ _ q
  have lw : ws.length = ks.length := by
    rw [List.length_reverse] at lz
    exact rz.length.symm.trans (lz.trans hl)
  refine wpAny_call (codeAny_mono (F.run X.A X.stack s1 H1 ⟨[], ks.zip ws⟩ ws.reverse zs.reverse Q E bd.gd bd.room I1.env0 (hb s1 ws I1.kIn lw) rr q) fun rv s' hq => ?_)
  match rv, hq with
  | .error e, hq => exact bd.ps pins σ H1 s1 e s' I1 hq
  | .ok (.ret u), hq => exact I1.after hq
  | .ok .next, hq => exact False.elim hq
  | .ok .brk, hq => exact False.elim hq
  | .ok .cont, hq => exact False.elim hq
/-- all that such a caller must know of a def -/
structure DfR (P : Program) (w : World) (K : PySem.W.Frag) (mg : Str → Option Value) (base : Heap) (k : Nat) (x : Str) (ks : List Str) (fs : Fs) : Prop where
  ok : ∃ (f : Addr) (fd : FuncData) (ps : List Str), ps.length = ks.length ∧ FnG P w K mg base k f fd ps (spOf K mg ks.length fs) ∧ mg x = some (.ref f) ∧ PySem.W.keepIn K (.ref f) = true ∧ KBR K fd ps ks
  io : fs.io.length = ks.length
theorem d_fnR (D : DfR X.prog X.w X.K X.mg X.base k x ks fs) (bd : Bd X k E) (hg : Gl X x) (ha : PK X kws (tMa X.K X.mg E (mA ml))) (hall : (backToKw pos (keywordEach kws X.env)).all (·.1.isSome) = true := by rfl) (hks : (backToKw pos (keywordEach kws X.env)).filterMap (·.1) = ks := by rfl)
    (hdb : (x == ("__debug__" : Str)) = false := by decide) (hpl : ((backTo pos (starEach [] X.env)).any (·.1) || (backToKw pos (keywordEach kws X.env)).any (·.1.isNone)) = false := by rfl) :
    DE X E (.Call (.Name x p) [] kws pos) (mFnR fs ml) := by
  obtain ⟨f, fd, ps, hl, F, hm, hk, hb⟩ := D.ok
  exact PE.weak (pe_callGR F bd hg hm hk hb hl ha hall hks hdb hpl) (t_fnR D.io)
end
end DL

/-! DNe: the sum of a tuple. -/
namespace DL
open PySem PySem.Spec PyProof.Rows L2
def rSumT (K : PySem.W.Frag) : List V → Hp → VK → Prop := fun vs H Q => ∃ (a : Addr) (ns : List Int), vs = [V.ref a] ∧ SqT K H a (ns.map V.int) ∧ Q (.int ns.sum) H
theorem cr_sumT {X : Cx} (hc : X.calm = true) : CallR X (.builtin "sum") (rSumT X.K) := by
  intro pins s σ H vs us Q I r h
  obtain ⟨a, ns, rfl, hs, q⟩ := h
  obtain ⟨its, rv, ht, _⟩ := I.tuple hs
  have hi := rv.ints
  obtain ⟨xs, e⟩ := hi.allInts.items
  have hn : numsOf (intItems xs).toList = ns := by rw [← e]; exact hi.numsOf
  rw [nums_intItems] at hn
  rw [Vals.ref1 r]
  rw [e] at ht
  refine PySem.W.ktm_sumG (I.ok.hd hc) ht fun h' tk t' hk => ?_
  have z : preSum (numAt xs) xs.size = ns.sum := by
    rw [preSum_eq, List.take_of_length_le (by simp), hn]
  rw [z]
  exact ⟨.int _, H, I.kept hk, ⟨_, rfl⟩, q⟩
section
variable {K : PySem.W.Frag} {mg : Str → Option Value}
def gSumT : List Dt → Option R := fun l => match l with
  | [.tup ds] => (intsD ds).map fun ns => .val (.int ns.sum)
  | _ => none
def gSum2 := gCOr gSum gSumT
theorem cs_sumT : CallS K mg (rSumT K) gSumT := fun L H xs ds rv Q tr rx e k => by
  unfold gSumT at e
  split at e
  · rename_i ds
    obtain ⟨ns, hn, rfl⟩ := Option.map_eq_some_iff.mp e
    obtain ⟨v, rfl, r⟩ := rx.one
    obtain ⟨a, us, rfl, ha, ra⟩ := r.tup
    obtain ⟨e4, _⟩ := intsD_ok ra hn
    subst e4
    exact ⟨a, ns, rfl, ha, k _ H (.refl H) (.int _)⟩
  · cases e
end
section
variable {X : Cx} {E : XK} {a b : Expr} {k : Nat} {pos : Pos} {ma mb : M R}
theorem dt_neV (bd : Bd X k E) (ha : DE X E a ma) (hb : DE X E b mb) (hm : behindInMarks .NotEq b = false := by rfl) : DT X E (.Compare a [.NotEq] [b] pos) (mTC gNeV ma mb) := d_test (op_neD bd.room.units) os_neV ha hb hm
end
end DL

/-! DNf: enumerate of a list. -/
namespace DL
open PySem L2
section
variable {K : PySem.W.Frag} {mg : Str → Option Value} {G : Hp} {E : XK}
theorem yields_enumL {a : Addr} {xs : List V} {ds : List Dt} (h : SqL K G a xs) (r : RepA K mg G xs ds) : Yields K mg G (Ite K a) (enumD 0 ds) where
  go := fun i H l hi => by
    rw [enumD_length, ← r.length] at hi
    exact ⟨xs, xs[i], l.l h, by simp⟩
  stop := fun i H l hi => by
    rw [enumD_length, ← r.length] at hi
    exact ⟨xs, l.l h, hi⟩
  yld := fun L i H v H' tr l hi ⟨T, x, e1, e2, e3, y⟩ => by
    subst e1; subst e3
    obtain ⟨d, h1, h2⟩ := r.get' (y xs ((l.trans (cut_le L _)).l h))
    obtain ⟨l2, e4⟩ := Le.fresh (L := L) (o := .tup [.int (i : Nat), x]) tr e2
    refine ⟨.new e2, _, enumD_get ds i 0 d h1, .tup (SqT.of e4) (.cons ?_ (.cons (h2.mono (l.trans l2)) .nil))⟩
    rw [Int.zero_add]; exact .int _
def enumL1 (l : List R) : M (List Dt) := match l with
  | [r] => (frz r).bind fun d => fun env => match d with
    | .lst ds => some (.ok (enumD 0 ds) env)
    | _ => none
  | _ => fun _ => none
def mEnumL (a : M R) : M (List Dt) := (mA [a]).bind enumL1
theorem t_enumL {a : M R} (σ : St) (H : Hp) (R : It → Hp → Prop) (h : tI K mg E (mEnumL a) σ H R) : iEnum K (tMa K mg E (mA [a])) σ H R := by
  obtain ⟨ex, env, ow, S, w⟩ := h
  refine ⟨ex, env, ow, S, (WP.bind.mp w).mono (fun l env1 w1 vs H1 ow1 P1 S1 hh => ?_) fun _ _ z => z⟩
  unfold enumL1 at w1
  split at w1
  · rename_i r
    cases hh with
    | cons hr t =>
      cases t
      obtain ⟨d, env2, ow2, S2, P2, r2, w2⟩ := WP.frz S1 hr (WP.bind.mp w1)
      cases d with
      | lst ds =>
        cases r2 with
        | lst h1 h2 => exact ⟨_, _, rfl, (cut_le _ _).l (SqL.of h1), (show kI K mg ex env ow σ H R (enumD 0 ds) env2 from w2) H1 ow2 _ _ (P1.trans P2) S2 (.refl _) (yields_enumL (SqL.of h1) h2)⟩
      | _ => exact w2.elim
  · exact w1.elim
end
section
variable {X : Cx} {E : XK} {a : Expr} {es : List Expr} {kk : Nat} {p pos tpos : Pos} {ma : M R}
theorem di_enumL (hg : Gl X "enumerate") (hm : X.mg "enumerate" = none) (ha : DE X E a ma) (hs : starEach [a] X.env = [(false, eval a X.env)] := by rfl) : DI X E (.Tuple es kk tpos) (.Call (.Name "enumerate" p) [a] [] pos) (mEnumL ma) :=
  PI.weak (pi_enum hg hm (da_cons ha da_nil (by rw [hs] <;> rfl)) hs) t_enumL
end
end DL

/-! DWa: what a run by data comes to, told backwards: rules by which simp walks through a term of the layer. -/
namespace DL
open PySem L2
variable {α β : Type}

/-- a mark by which simp lets what follows rest -/
structure Tk {β : Type} (k : β → Env → Prop) : Type where
structure Tq {β : Type} (k : β → Prop) : Type where
/-- the run ends with no exception, and what it comes to is told by k -/
def OK (m : M α) (env : Env) (k : α → Env → Prop) (t : Tk k := ⟨⟩) : Prop := ∃ a e, m env = some (.ok a e) ∧ k a e
def okE (o : Option (Rs α)) (k : α → Env → Prop) (t : Tk k := ⟨⟩) : Prop := ∃ a e, o = some (.ok a e) ∧ k a e
def okO (o : Option R) (env : Env) (k : R → Env → Prop) (t : Tk k := ⟨⟩) : Prop := ∃ r, o = some r ∧ k r env
def okV (o : Option α) (k : α → Prop) (t : Tq k := ⟨⟩) : Prop := ∃ a, o = some a ∧ k a
def okF (f : Fl) (b : M Fl) (e : Env) (k : Fl → Env → Prop) (t : Tk k := ⟨⟩) : Prop := match f with
  | .nx => OK b e k
  | f => k f e
def okIf (c : Bool) (a b : M α) (e : Env) (k : α → Env → Prop) (t : Tk k := ⟨⟩) : Prop := (c = true → OK a e k) ∧ (c = false → OK b e k)

theorem OK.mono {m : M α} {env : Env} {k k' : α → Env → Prop} (h : OK m env k) (w : ∀ a e, k a e → k' a e) : OK m env k' := by
  obtain ⟨a, e, h1, h2⟩ := h
  exact ⟨a, e, h1, w a e h2⟩
theorem OK.of {m : M α} {env e : Env} {a : α} {k : α → Env → Prop} (h : m env = some (.ok a e)) (q : k a e) : OK m env k := ⟨a, e, h, q⟩
theorem ok_eq {m : M α} {env : Env} {k : α → Env → Prop} : OK m env k ↔ okE (m env) k := Iff.rfl
@[simp] theorem okE_ok {a : α} {e : Env} {k : α → Env → Prop} : okE (some (.ok a e)) k ↔ k a e := ⟨fun ⟨_, _, h, q⟩ => by cases h; exact q, fun q => ⟨_, _, rfl, q⟩⟩
@[simp] theorem okE_if {c : Prop} [Decidable c] {o : Option (Rs α)} {k : α → Env → Prop} : okE (if c then o else none) k ↔ c ∧ okE o k := by
  by_cases h : c
  · rw [if_pos h]; exact ⟨fun q => ⟨h, q⟩, fun q => q.2⟩
  · rw [if_neg h]; exact ⟨fun ⟨_, _, q, _⟩ => (nomatch q), fun q => absurd q.1 h⟩
@[simp] theorem okO_some {r : R} {e : Env} {k : R → Env → Prop} : okO (some r) e k ↔ k r e := ⟨fun ⟨_, h, q⟩ => by cases h; exact q, fun q => ⟨_, rfl, q⟩⟩
@[simp] theorem okO_if {c : Prop} [Decidable c] {o : Option R} {e : Env} {k : R → Env → Prop} : okO (if c then o else none) e k ↔ c ∧ okO o e k := by
  by_cases h : c
  · rw [if_pos h]; exact ⟨fun q => ⟨h, q⟩, fun q => q.2⟩
  · rw [if_neg h]; exact ⟨fun ⟨_, q, _⟩ => (nomatch q), fun q => absurd q.1 h⟩
@[simp] theorem okO_map {β : Type} {o : Option β} {f : β → R} {e : Env} {k : R → Env → Prop} : okO (o.map f) e k ↔ okV o fun a => k (f a) e := by
  cases o with
  | none => exact ⟨fun ⟨_, q, _⟩ => (nomatch q), fun ⟨_, q, _⟩ => (nomatch q)⟩
  | some a => exact ⟨fun ⟨_, h, q⟩ => by cases h; exact ⟨a, rfl, q⟩, fun ⟨_, h, q⟩ => by cases h; exact ⟨_, rfl, q⟩⟩
@[simp] theorem okV_some {a : α} {k : α → Prop} : okV (some a) k ↔ k a := ⟨fun ⟨_, h, q⟩ => by cases h; exact q, fun q => ⟨_, rfl, q⟩⟩
@[simp] theorem okV_if {c : Prop} [Decidable c] {o : Option α} {k : α → Prop} : okV (if c then o else none) k ↔ c ∧ okV o k := by
  by_cases h : c
  · rw [if_pos h]; exact ⟨fun q => ⟨h, q⟩, fun q => q.2⟩
  · rw [if_neg h]; exact ⟨fun ⟨_, q, _⟩ => (nomatch q), fun q => absurd q.1 h⟩
@[simp] theorem okF_nx {b : M Fl} {e : Env} {k : Fl → Env → Prop} : okF .nx b e k ↔ OK b e k := Iff.rfl
@[simp] theorem okF_rt {b : M Fl} {e : Env} {k : Fl → Env → Prop} {d : Dt} {o : Bool} : okF (.rt d o) b e k ↔ k (.rt d o) e := Iff.rfl
@[simp] theorem okIf_t {a b : M α} {e : Env} {k : α → Env → Prop} : okIf true a b e k ↔ OK a e k := ⟨fun h => h.1 rfl, fun h => ⟨fun _ => h, fun z => nomatch z⟩⟩
@[simp] theorem okIf_f {a b : M α} {e : Env} {k : α → Env → Prop} : okIf false a b e k ↔ OK b e k := ⟨fun h => h.2 rfl, fun h => ⟨(fun z => nomatch z), fun _ => h⟩⟩
theorem okIf_dec {c : Prop} [Decidable c] {a b : M α} {e : Env} {k : α → Env → Prop} (ht : c → OK a e k) (hf : ¬ c → OK b e k) : okIf (decide c) a b e k := ⟨fun h => ht (of_decide_eq_true h), fun h => hf (of_decide_eq_false h)⟩
theorem okIf_by {c : Bool} {a b : M α} {e : Env} {k : α → Env → Prop} (ht : c = true → OK a e k) (hf : c = false → OK b e k) : okIf c a b e k := ⟨ht, hf⟩

@[simp] theorem ok_bind {m : M α} {f : α → M β} {env : Env} {k : β → Env → Prop} : OK (m.bind f) env k ↔ OK m env fun a e => OK (f a) e k := by
  constructor
  · rintro ⟨b, e, h, q⟩
    unfold M.bind at h
    cases z : m env with
    | none => rw [z] at h; cases h
    | some r =>
      cases r with
      | ok a e1 => rw [z] at h; exact ⟨a, e1, z, b, e, h, q⟩
      | er x e1 => rw [z] at h; cases h
  · rintro ⟨a, e1, h1, b, e, h, q⟩
    refine ⟨b, e, ?_, q⟩
    unfold M.bind
    rw [h1]
    exact h
@[simp] theorem ok_pure {a : α} {env : Env} {k : α → Env → Prop} : OK (M.pure a) env k ↔ k a env := okE_ok
section
variable {env : Env} {k : Fl → Env → Prop} {kr : R → Env → Prop} {kb : Bool → Env → Prop} {kl : List R → Env → Prop} {kd : List Dt → Env → Prop} {a b : M Fl} {m ma mb mc : M R} {t t' : M Bool} {i n : Nat} {g g' : Dt → Dt → Option R} {ml : List (M R)} {r ra rb : R} {rl : List R} {d : Dt} {ds : List Dt}
@[simp] theorem ok_seq : OK (mSeq a b) env k ↔ OK a env fun f e => okF f b e k := by
  unfold mSeq
  rw [ok_bind]
  constructor
  · intro h
    refine h.mono fun f e q => ?_
    cases f <;> first | exact q | exact ok_pure.1 q
  · intro h
    refine h.mono fun f e q => ?_
    cases f <;> first | exact q | exact ok_pure.2 q
@[simp] theorem ok_set : OK (mSet i m) env k ↔ OK m env fun r e => OK (setR i r) e k := ok_bind
@[simp] theorem ok_setNew : OK (setR i (.new d)) env k ↔ (i < env.length ∧ isIo (gs env i) = false) ∧ k .nx (env.set i (some (d, .ow))) := by
  show okE (if _ then _ else none) k ↔ _
  rw [okE_if, okE_ok]
@[simp] theorem ok_setVal : OK (setR i (.val d)) env k ↔ (i < env.length ∧ isIo (gs env i) = false) ∧ k .nx (env.set i (some (d, .fz))) := by
  show okE (if _ then _ else none) k ↔ _
  rw [okE_if, okE_ok]
@[simp] theorem ok_putS {s : Option (Dt × Md)} : OK (putS i s) env k ↔ (i < env.length ∧ isIo (gs env i) = false) ∧ k .nx (env.set i s) := by
  show okE (if _ then _ else none) k ↔ _
  rw [okE_if, okE_ok]
@[simp] theorem ok_drop : OK (mDrop m) env k ↔ OK m env fun _ e => k .nx e := by
  unfold mDrop
  rw [ok_bind]
  exact ⟨fun h => h.mono fun _ _ q => ok_pure.1 q, fun h => h.mono fun _ _ q => ok_pure.2 q⟩
@[simp] theorem ok_ret : OK (mRet m) env k ↔ OK m env fun r e => OK (retR r) e k := ok_bind
theorem ok_retR : OK (retR r) env k ↔ okE (retR r env) k := Iff.rfl
@[simp] theorem ok_ifS : OK (mIfS t a b) env k ↔ OK t env fun c e => okIf c a b e k := by
  unfold mIfS
  rw [ok_bind]
  constructor
  · intro h
    refine h.mono fun c e q => ?_
    cases c
    · exact okIf_f.2 q
    · exact okIf_t.2 q
  · intro h
    refine h.mono fun c e q => ?_
    cases c
    · exact okIf_f.1 q
    · exact okIf_t.1 q
@[simp] theorem ok_if : OK (mIf t ma mb) env kr ↔ OK t env fun c e => okIf c ma mb e kr := by
  unfold mIf
  rw [ok_bind]
  constructor
  · intro h
    refine h.mono fun c e q => ?_
    cases c
    · exact okIf_f.2 q
    · exact okIf_t.2 q
  · intro h
    refine h.mono fun c e q => ?_
    cases c
    · exact okIf_f.1 q
    · exact okIf_t.1 q
@[simp] theorem ok_and : OK (mAnd t t') env kb ↔ OK t env fun c e => okIf c t' (M.pure false) e kb := by
  unfold mAnd
  rw [ok_bind]
  constructor
  · intro h
    refine h.mono fun c e q => ?_
    cases c
    · exact okIf_f.2 q
    · exact okIf_t.2 q
  · intro h
    refine h.mono fun c e q => ?_
    cases c
    · exact okIf_f.1 q
    · exact okIf_t.1 q
@[simp] theorem ok_or : OK (mOr t t') env kb ↔ OK t env fun c e => okIf c (M.pure true) t' e kb := by
  unfold mOr
  rw [ok_bind]
  constructor
  · intro h
    refine h.mono fun c e q => ?_
    cases c
    · exact okIf_f.2 q
    · exact okIf_t.2 q
  · intro h
    refine h.mono fun c e q => ?_
    cases c
    · exact okIf_f.1 q
    · exact okIf_t.1 q
@[simp] theorem ok_not : OK (mNot t) env kb ↔ OK t env fun c e => kb (!c) e := by
  unfold mNot
  rw [ok_bind]
  exact ⟨fun h => h.mono fun _ _ q => ok_pure.1 q, fun h => h.mono fun _ _ q => ok_pure.2 q⟩
@[simp] theorem ok_T : OK (mT m) env kb ↔ OK m env fun r e => OK (useT r) e kb := ok_bind
theorem ok_useT : OK (useT r) env kb ↔ okE (useT r env) kb := Iff.rfl
@[simp] theorem ok_C : OK (mC d) env kr ↔ kr (.val d) env := okE_ok
theorem ok_N : OK (mN i) env kr ↔ okE (mN i env) kr := Iff.rfl
@[simp] theorem ok_op : OK (mOp g ma mb) env kr ↔ OK ma env fun ra e => OK mb e fun rb e => OK (use2 g ra rb) e kr := by
  unfold mOp
  rw [ok_bind]
  exact ⟨fun h => h.mono fun _ _ q => ok_bind.1 q, fun h => h.mono fun _ _ q => ok_bind.2 q⟩
@[simp] theorem ok_use2 : OK (use2 g ra rb) env kr ↔ okV (rs env ra) fun a => okV (rs env rb) fun b => okO (g a b) env kr := by
  show okE _ kr ↔ _
  unfold use2
  cases h1 : rs env ra with
  | none => exact ⟨fun ⟨_, _, q, _⟩ => (nomatch q), fun ⟨_, q, _⟩ => (nomatch q)⟩
  | some a =>
    cases h2 : rs env rb with
    | none => exact ⟨fun ⟨_, _, q, _⟩ => (nomatch q), fun ⟨_, _, _, q, _⟩ => (nomatch q)⟩
    | some b =>
      rw [okV_some, okV_some]
      cases h3 : g a b with
      | none => exact ⟨fun ⟨_, _, q, _⟩ => (by simp only [h3] at q; cases q), fun ⟨_, q, _⟩ => (nomatch q)⟩
      | some rv => rw [okO_some]; simp only [h3]; exact okE_ok
@[simp] theorem ok_un {g : Dt → Option R} : OK (mUn g ma) env kr ↔ OK ma env fun ra e => OK (use1 g ra) e kr := ok_bind
@[simp] theorem ok_use1 {g : Dt → Option R} : OK (use1 g ra) env kr ↔ okV (rs env ra) fun a => okO (g a) env kr := by
  show okE _ kr ↔ _
  unfold use1
  cases h1 : rs env ra with
  | none => exact ⟨fun ⟨_, _, q, _⟩ => (nomatch q), fun ⟨_, q, _⟩ => (nomatch q)⟩
  | some a =>
    rw [okV_some]
    cases h3 : g a with
    | none => exact ⟨fun ⟨_, _, q, _⟩ => (by simp only [h3] at q; cases q), fun ⟨_, q, _⟩ => (nomatch q)⟩
    | some rv => rw [okO_some]; simp only [h3]; exact okE_ok
@[simp] theorem ok_call {g : List Dt → Option R} : OK (mCall g ml) env kr ↔ OK (mA ml) env fun rs e => OK (useA g rs) e kr := ok_bind
@[simp] theorem ok_useA {g : List Dt → Option R} : OK (useA g rl) env kr ↔ okV (rsA env rl) fun a => okO (g a) env kr := by
  show okE _ kr ↔ _
  unfold useA
  cases h1 : rsA env rl with
  | none => exact ⟨fun ⟨_, _, q, _⟩ => (nomatch q), fun ⟨_, q, _⟩ => (nomatch q)⟩
  | some a =>
    rw [okV_some]
    cases h3 : g a with
    | none => exact ⟨fun ⟨_, _, q, _⟩ => (by simp only [h3] at q; cases q), fun ⟨_, q, _⟩ => (nomatch q)⟩
    | some rv => rw [okO_some]; simp only [h3]; exact okE_ok
@[simp] theorem ok_Anil : OK (mA []) env kl ↔ kl [] env := okE_ok
@[simp] theorem ok_Acons : OK (mA (m :: ml)) env kl ↔ OK m env fun r e => OK (mA ml) e fun l e => kl (r :: l) e := by
  show OK (m.bind _) env kl ↔ _
  rw [ok_bind]
  constructor
  · intro h
    exact h.mono fun r e q => (ok_bind.1 q).mono fun _ _ z => ok_pure.1 z
  · intro h
    exact h.mono fun r e q => ok_bind.2 (q.mono fun _ _ z => ok_pure.2 z)
@[simp] theorem ok_TC : OK (mTC g ma mb) env kb ↔ OK ma env fun ra e => OK mb e fun rb e => OK (use2 g ra rb) e fun r e => OK (useT r) e kb := by
  unfold mTC
  rw [ok_T, ok_op]
@[simp] theorem ok_tup : OK (mTup ml) env kr ↔ OK (mA ml) env fun rs e => OK (frzA rs) e fun ds e => OK (dispT ds) e kr := by
  unfold mTup
  rw [ok_bind]
  exact ⟨fun h => h.mono fun _ _ q => ok_bind.1 q, fun h => h.mono fun _ _ q => ok_bind.2 q⟩
@[simp] theorem ok_lst : OK (mLst ml) env kr ↔ OK (mA ml) env fun rs e => OK (frzA rs) e fun ds e => OK (dispL ds) e kr := by
  unfold mLst
  rw [ok_bind]
  exact ⟨fun h => h.mono fun _ _ q => ok_bind.1 q, fun h => h.mono fun _ _ q => ok_bind.2 q⟩
@[simp] theorem ok_dispT : OK (dispT ds) env kr ↔ ds.length ≤ line ∧ kr (.val (.tup ds)) env := by
  show okE (if _ then _ else none) kr ↔ _
  rw [okE_if, okE_ok]
@[simp] theorem ok_dispL : OK (dispL ds) env kr ↔ ds.length ≤ line ∧ kr (.new (.lst ds)) env := by
  show okE (if _ then _ else none) kr ↔ _
  rw [okE_if, okE_ok]
theorem ok_frz {kd : Dt → Env → Prop} : OK (frz r) env kd ↔ okE (frz r env) kd := Iff.rfl
@[simp] theorem ok_frzVal {kd : Dt → Env → Prop} : OK (frz (.val d)) env kd ↔ kd d env := okE_ok
@[simp] theorem ok_frzNew {kd : Dt → Env → Prop} : OK (frz (.new d)) env kd ↔ kd d env := okE_ok
theorem ok_frzLoc {kd : Dt → Env → Prop} : OK (frz (.loc i)) env kd ↔ okE (frz (.loc i) env) kd := Iff.rfl
@[simp] theorem ok_frzAnil : OK (frzA []) env kd ↔ kd [] env := okE_ok
@[simp] theorem ok_frzAcons : OK (frzA (r :: rl)) env kd ↔ OK (frz r) env fun d e => OK (frzA rl) e fun ds e => kd (d :: ds) e := by
  show OK ((frz r).bind _) env kd ↔ _
  rw [ok_bind]
  constructor
  · intro h
    exact h.mono fun r e q => (ok_bind.1 q).mono fun _ _ z => ok_pure.1 z
  · intro h
    exact h.mono fun r e q => ok_bind.2 (q.mono fun _ _ z => ok_pure.2 z)
@[simp] theorem ok_sl {lo hi : Option (M R)} : OK (mSl m lo hi) env kr ↔ OK m env fun r e => OK (partM lo) e fun l e => OK (partM hi) e fun u e => OK (use1 (gSl l u) r) e kr := by
  unfold mSl
  rw [ok_bind]
  exact ⟨fun h => h.mono fun _ _ q => (ok_bind.1 q).mono fun _ _ z => ok_bind.1 z, fun h => h.mono fun _ _ q => ok_bind.2 (q.mono fun _ _ z => ok_bind.2 z)⟩
@[simp] theorem ok_partN {ko : Option Int → Env → Prop} : OK (partM none) env ko ↔ ko none env := okE_ok
@[simp] theorem ok_partS {ko : Option Int → Env → Prop} : OK (partM (some m)) env ko ↔ OK m env fun r e => OK (useI r) e ko := ok_bind
theorem ok_useI {ko : Option Int → Env → Prop} : OK (useI r) env ko ↔ okE (useI r env) ko := Iff.rfl
@[simp] theorem ok_andV : OK (mAndV ma mb) env kr ↔ OK ma env fun r e => OK (useT r) e fun c e => okIf c mb (M.pure (.val (.bl false))) e kr := by
  unfold mAndV
  rw [ok_bind, ok_T]
  constructor
  · intro h
    refine h.mono fun r e q => q.mono fun c e q => ?_
    cases c
    · exact okIf_f.2 q
    · exact okIf_t.2 q
  · intro h
    refine h.mono fun r e q => q.mono fun c e q => ?_
    cases c
    · exact okIf_f.1 q
    · exact okIf_t.1 q
@[simp] theorem ok_orV : OK (mOrV ma mb) env kr ↔ OK ma env fun r e => OK (useT r) e fun c e => okIf c (M.pure (.val (.bl true))) mb e kr := by
  unfold mOrV
  rw [ok_bind, ok_T]
  constructor
  · intro h
    refine h.mono fun r e q => q.mono fun c e q => ?_
    cases c
    · exact okIf_f.2 q
    · exact okIf_t.2 q
  · intro h
    refine h.mono fun r e q => q.mono fun c e q => ?_
    cases c
    · exact okIf_f.1 q
    · exact okIf_t.1 q
@[simp] theorem ok_notV : OK (mNotV m) env kr ↔ OK m env fun r e => OK (useT r) e fun c e => kr (.val (.bl !c)) e := by
  unfold mNotV
  rw [ok_bind, ok_T]
  exact ⟨fun h => h.mono fun _ _ q => q.mono fun _ _ z => ok_pure.1 z, fun h => h.mono fun _ _ q => q.mono fun _ _ z => ok_pure.2 z⟩
@[simp] theorem ok_chain : OK (mChain g g' ma mb mc) env kr ↔ OK ma env fun ra e => OK mb e fun rb e => OK (cmpM g ra rb) e fun c e => okIf c (mc.bind fun rc => use2 g' rb rc) (M.pure (.val (.bl false))) e kr := by
  unfold mChain
  rw [ok_bind]
  constructor
  · intro h
    refine h.mono fun r e q => (ok_bind.1 q).mono fun r e q => (ok_bind.1 q).mono fun c e q => ?_
    cases c
    · exact okIf_f.2 q
    · exact okIf_t.2 q
  · intro h
    refine h.mono fun r e q => ok_bind.2 (q.mono fun r e q => ok_bind.2 (q.mono fun c e q => ?_))
    cases c
    · exact okIf_f.1 q
    · exact okIf_t.1 q
theorem ok_cmpM : OK (cmpM g ra rb) env kb ↔ okE (cmpM g ra rb env) kb := Iff.rfl
@[simp] theorem ok_asg {tg : Tg} : OK (mAsg m tg) env k ↔ OK m env fun r e => OK (frz r) e fun d e => OK (tg d) e fun _ e => k .nx e := by
  unfold mAsg
  rw [ok_bind]
  constructor
  · intro h
    exact h.mono fun r e q => (ok_bind.1 q).mono fun _ _ q => (ok_bind.1 q).mono fun _ _ z => ok_pure.1 z
  · intro h
    exact h.mono fun r e q => ok_bind.2 (q.mono fun _ _ q => ok_bind.2 (q.mono fun _ _ z => ok_pure.2 z))
@[simp] theorem ok_gN : OK (gN i d) env k ↔ (i < env.length ∧ isIo (gs env i) = false) ∧ k .nx (env.set i (some (d, .fz))) := ok_putS
@[simp] theorem ok_gT {u : List Dt → M Fl} : OK (gT n u (.tup ds)) env k ↔ ds.length = n ∧ OK (u ds) env k := by
  unfold gT
  by_cases h : ds.length = n
  · simp [h]
  · simp only [if_neg h]
    exact ⟨fun ⟨_, _, q, _⟩ => (nomatch q), fun q => absurd q.1 h⟩
@[simp] theorem ok_gCons {tg : Tg} {u : List Dt → M Fl} : OK (gCons' tg u (d :: ds)) env k ↔ OK (tg d) env fun _ e => OK (u ds) e k := ok_bind
@[simp] theorem ok_gNil : OK (gNil' []) env k ↔ k .nx env := okE_ok
@[simp] theorem ok_gIx : OK (gIx i m d) env k ↔ OK (mLs i) env fun _ e => OK m e fun r e => OK (setIx i d r) e k := by
  unfold gIx
  rw [ok_bind]
  exact ⟨fun h => h.mono fun _ _ q => ok_bind.1 q, fun h => h.mono fun _ _ q => ok_bind.2 q⟩
theorem ok_mLs : OK (mLs i) env kr ↔ okE (mLs i env) kr := Iff.rfl
theorem ok_setIx : OK (setIx i d r) env k ↔ okE (setIx i d r env) k := Iff.rfl
@[simp] theorem ok_mt {g : List Dt → List Dt → Option (List Dt × Dt)} : OK (mMt i g ml) env kr ↔ OK (mLs i) env fun _ e => OK (mA ml) e fun rl e => OK (frzA rl) e fun es e => OK (mutS i g es) e kr := by
  unfold mMt
  rw [ok_bind]
  exact ⟨fun h => h.mono fun _ _ q => (ok_bind.1 q).mono fun _ _ z => ok_bind.1 z, fun h => h.mono fun _ _ q => ok_bind.2 (q.mono fun _ _ z => ok_bind.2 z)⟩
theorem ok_mutS {g : List Dt → List Dt → Option (List Dt × Dt)} {es : List Dt} : OK (mutS i g es) env kr ↔ okE (mutS i g es env) kr := Iff.rfl
@[simp] theorem ok_fn {fs : Fs} : OK (mFn fs ml) env kr ↔ OK (mA ml) env fun rl e => OK (argsD fs.io rl) e fun ds e => OK (callF fs rl ds) e kr := by
  unfold mFn
  rw [ok_bind]
  exact ⟨fun h => h.mono fun _ _ q => ok_bind.1 q, fun h => h.mono fun _ _ q => ok_bind.2 q⟩
def ioD (env : Env) (i : Nat) : Option Dt := match gs env i with
  | some (d, .ow) => some d
  | some (d, .io) => some d
  | _ => none
@[simp] theorem ok_argN : OK (argsD [] []) env kd ↔ kd [] env := okE_ok
@[simp] theorem ok_argF {ms : List Md} : OK (argsD (.fz :: ms) (r :: rl)) env kd ↔ OK (frz r) env fun d e => OK (argsD ms rl) e fun ds e => kd (d :: ds) e := by
  have e : argsD (.fz :: ms) (r :: rl) = (frz r).bind fun d => (argsD ms rl).bind fun ds => M.pure (d :: ds) := by
    cases r <;> rfl
  rw [e, ok_bind]
  constructor
  · intro h
    exact h.mono fun r e q => (ok_bind.1 q).mono fun _ _ z => ok_pure.1 z
  · intro h
    exact h.mono fun r e q => ok_bind.2 (q.mono fun _ _ z => ok_pure.2 z)
@[simp] theorem ok_argI {ms : List Md} : OK (argsD (.io :: ms) (.loc i :: rl)) env kd ↔ okV (ioD env i) fun d => OK (argsD ms rl) env fun ds e => kd (d :: ds) e := by
  show okE _ kd ↔ _
  unfold ioD
  have key : ∀ d, okE (((argsD ms rl).bind fun ds => M.pure (d :: ds)) env) kd ↔ OK (argsD ms rl) env fun ds e => kd (d :: ds) e := fun d => by
    show OK ((argsD ms rl).bind fun ds => M.pure (d :: ds)) env kd ↔ _
    rw [ok_bind]
    exact ⟨fun h => h.mono fun _ _ z => ok_pure.1 z, fun h => h.mono fun _ _ z => ok_pure.2 z⟩
  cases h : gs env i with
  | none => simp only [argsD, h]; exact ⟨fun ⟨_, _, q, _⟩ => (nomatch q), fun ⟨_, q, _⟩ => (nomatch q)⟩
  | some y =>
    obtain ⟨d, m⟩ := y
    cases m with
    | fz => simp only [argsD, h]; exact ⟨fun ⟨_, _, q, _⟩ => (nomatch q), fun ⟨_, q, _⟩ => (nomatch q)⟩
    | ow => simp only [argsD, h]; rw [okV_some]; exact key d
    | io => simp only [argsD, h]; rw [okV_some]; exact key d
/-- a call -/
theorem ok_callF {fs : Fs} {d : Dt} {outs : List Dt} {own : Bool} (h : fs.run ds = some (.ret (if own then .new d else .val d) outs)) (ho : outs.length = fs.io.length) (hn : (lent fs.io rl).Nodup ∧ (lent fs.io rl).all (fun i => isOwn (gs env i)) = true) (q : kr (if own then .new d else .val d) (putB fs.io rl outs env)) : OK (callF fs rl ds) env kr := by
  refine ⟨_, _, ?_, q⟩
  unfold callF
  rw [if_pos hn, h]
  cases own
  · exact if_pos ho
  · exact if_pos ho
@[simp] theorem ok_for {src : M (List Dt)} {tg : Tg} : OK (mFor src tg a) env k ↔ OK src env fun ds e => OK (forL tg a ds) e k := ok_bind
@[simp] theorem ok_items : OK (mItems m) env kd ↔ OK m env fun r e => OK (frz r) e fun d e => OK (itemsD d) e kd := by
  unfold mItems
  rw [ok_bind]
  exact ⟨fun h => h.mono fun _ _ q => ok_bind.1 q, fun h => h.mono fun _ _ q => ok_bind.2 q⟩
theorem ok_itemsD : OK (itemsD d) env kd ↔ okE (itemsD d env) kd := Iff.rfl
@[simp] theorem ok_rng1 : OK (mRng1 m) env kd ↔ OK (mA [m]) env fun rl e => OK (rng1 rl) e kd := ok_bind
theorem ok_rng1' : OK (rng1 rl) env kd ↔ okE (rng1 rl env) kd := Iff.rfl
@[simp] theorem ok_enumT : OK (mEnumT m) env kd ↔ OK m env fun r e => OK (frz r) e fun d e => okE (match d with | .tup ds => some (.ok (enumD 0 ds) e) | _ => none) kd := by
  unfold mEnumT
  rw [ok_bind, ok_Acons]
  exact ⟨fun h => h.mono fun r e q => (ok_bind.1 (ok_Anil.1 q)).mono fun _ _ z => z, fun h => h.mono fun r e q => ok_Anil.2 (ok_bind.2 (q.mono fun _ _ z => z))⟩
@[simp] theorem ok_forget {m : M α} {k : α → Env → Prop} : OK (mForget i m) env k ↔ OK m (forgetE env i) k := Iff.rfl
@[simp] theorem ok_par {is : List Nat} : OK (mPar is ml) env k ↔ OK (mA ml) env fun rl e => okV (putA is rl e) fun e => k .nx e := by
  unfold mPar
  rw [ok_bind]
  have key : ∀ rl e, OK (mParS is rl) e k ↔ okV (putA is rl e) fun e => k .nx e := fun rl e => by
    show okE ((putA is rl e).map _) k ↔ _
    cases putA is rl e with
    | none => exact ⟨fun ⟨_, _, q, _⟩ => (nomatch q), fun ⟨_, q, _⟩ => (nomatch q)⟩
    | some z => rw [okV_some]; exact okE_ok
  exact ⟨fun h => h.mono fun _ _ q => (key _ _).1 q, fun h => h.mono fun _ _ q => (key _ _).2 q⟩
@[simp] theorem ok_new {c f : Str} {mi : M R} {ro : List Dt → List Dt} : OK (mNew c f n mi ro ml) env kr ↔ OK (mA ml) env fun rl e => OK (frzA rl) e fun ds e => (ro ds).length = n ∧ okV (newV mi (ro ds)) fun d => kr (.val (.ins c [(f, d)])) e := by
  unfold mNew
  rw [ok_bind]
  have key : ∀ ds e, (∃ a e', (if (ro ds).length = n then match newV mi (ro ds) with
  | some d => some (Rs.ok (.val (.ins c [(f, d)])) e)
  | none => none
  else none) = some (.ok a e') ∧ kr a e') ↔ ((ro ds).length = n ∧ okV (newV mi (ro ds)) fun d => kr (.val (.ins c [(f, d)])) e) := fun ds e => by
    by_cases h : (ro ds).length = n
    · simp only [if_pos h]
      cases newV mi (ro ds) with
      | none => exact ⟨fun ⟨_, _, q, _⟩ => (nomatch q), fun ⟨_, _, q, _⟩ => (nomatch q)⟩
      | some d => rw [okV_some]; exact ⟨fun q => ⟨h, okE_ok.1 q⟩, fun q => okE_ok.2 q.2⟩
    · simp only [if_neg h]
      exact ⟨fun ⟨_, _, q, _⟩ => (nomatch q), fun q => absurd q.1 h⟩
  exact ⟨fun h => h.mono fun _ _ q => (ok_bind.1 q).mono fun ds e z => (key ds e).1 z, fun h => h.mono fun _ _ q => ok_bind.2 (q.mono fun ds e z => (key ds e).2 z)⟩
@[simp] theorem ok_truI {c : Str} : OK (mTruI c m) env kb ↔ OK m env fun r e => OK (useTI c r) e kb := ok_bind
theorem ok_useTI {c : Str} : OK (useTI c r) env kb ↔ okE (useTI c r env) kb := Iff.rfl
@[simp] theorem ok_fnT {fs : Fs} : OK (mFnT fs m) env kr ↔ OK m env fun r e => OK (runT fs r) e kr := ok_bind
/-- loops by what holds of what is left -/
theorem ok_forL {tg : Tg} {body : M Fl} (I : List Dt → Env → Prop) (step : ∀ d ds e, I (d :: ds) e → OK (tg d) e fun _ e => OK body e fun f e => (f = .nx ∨ f = .ct) ∧ I ds e) : ∀ (ds : List Dt) (env : Env), I ds env → (∀ e, I [] e → k .nx e) → OK (forL tg body ds) env k
  | [], env, h, fin => ⟨_, _, rfl, fin env h⟩
  | d :: ds, env, h, fin => by
    show OK ((tg d).bind _) env k
    rw [ok_bind]
    refine (step d ds env h).mono fun _ e q => ?_
    rw [ok_bind]
    refine q.mono fun f e q => ?_
    obtain ⟨hf, q⟩ := q
    rcases hf with rfl | rfl
    · exact ok_forL I step ds e q fin
    · exact ok_forL I step ds e q fin
/-- a comprehension whose elements and tests leave all as it was -/
theorem lcL_map {v : Nat} {tt : M Bool} {te : M R} (p : Dt → Bool) (f : Dt → Dt) : ∀ (ds acc : List Dt) (env : Env), gs env v = none → v < env.length →
    (∀ d ∈ ds, tt (env.set v (some (d, .fz))) = some (.ok (p d) (env.set v (some (d, .fz))))) → (∀ d ∈ ds, p d = true → te (env.set v (some (d, .fz))) = some (.ok (.val (f d)) (env.set v (some (d, .fz))))) → acc.length + ds.length ≤ line →
    lcL [v] (gN v) (noEr tt) (noEr te) ds acc env = some (.ok (.new (.lst (acc ++ (ds.filter p).map f))) env)
  | [], acc, env, h0, hv, ht, he, hl => by simp [lcL, M.pure]
  | d :: ds, acc, env, h0, hv, ht, he, hl => by
    have w : wipeE (env.set v (some (d, .fz))) [v] = env := by
      show (env.set v _).set v none = env
      rw [List.set_set]
      apply List.ext_getElem?
      intro j
      by_cases e : j = v
      · subst e
        rw [List.getElem?_set_self hv]
        unfold gs at h0
        rw [List.getElem?_eq_getElem hv] at h0 ⊢
        exact congrArg some h0.symm
      · rw [List.getElem?_set_ne (Ne.symm e)]
    have io : isIo (gs env v) = false := by rw [h0]; rfl
    have h1 : noEr tt (env.set v (some (d, .fz))) = some (.ok (p d) (env.set v (some (d, .fz)))) := by
      unfold noEr
      rw [ht d List.mem_cons_self]
    simp only [List.length_cons] at hl
    cases c : p d with
    | false =>
      have ih := lcL_map p f ds acc env h0 hv (fun x hx => ht x (List.mem_cons_of_mem _ hx)) (fun x hx => he x (List.mem_cons_of_mem _ hx)) (by omega)
      rw [c] at h1
      simp only [lcL, M.bind, gN, putS, if_pos (⟨hv, io⟩ : v < env.length ∧ isIo (gs env v) = false), h1, w, ih, List.filter_cons, c, Bool.false_eq_true, if_false]
    | true =>
      have ih := lcL_map p f ds (acc ++ [f d]) env h0 hv (fun x hx => ht x (List.mem_cons_of_mem _ hx)) (fun x hx => he x (List.mem_cons_of_mem _ hx)) (by simp; omega)
      rw [c] at h1
      have h2 : noEr te (env.set v (some (d, .fz))) = some (.ok (.val (f d)) (env.set v (some (d, .fz)))) := by
        unfold noEr
        rw [he d List.mem_cons_self c]
      have hlt : acc.length < line := by omega
      simp only [lcL, M.bind, gN, putS, if_pos (⟨hv, io⟩ : v < env.length ∧ isIo (gs env v) = false), h1, h2, frz, if_true, if_pos hlt, w, ih, List.filter_cons, c, List.map_cons, List.append_assoc, List.singleton_append]
@[simp] theorem ok_LC {v : Nat} {src : M (List Dt)} {tt : M Bool} {te : M R} : OK (mLC [v] src (gN v) tt te) env kr ↔ OK src env fun ds e => OK (lcG [v] (lcL [v] (gN v) (noEr tt) (noEr te) ds [])) e kr := ok_bind
theorem ok_lcMap {v : Nat} {tt : M Bool} {te : M R} {ds : List Dt} (p : Dt → Bool) (f : Dt → Dt) (h0 : gs env v = none) (hv : v < env.length)
    (ht : ∀ d ∈ ds, tt (env.set v (some (d, .fz))) = some (.ok (p d) (env.set v (some (d, .fz))))) (he : ∀ d ∈ ds, p d = true → te (env.set v (some (d, .fz))) = some (.ok (.val (f d)) (env.set v (some (d, .fz))))) (hl : ds.length ≤ line)
    (q : kr (.new (.lst ((ds.filter p).map f))) env) : OK (lcG [v] (lcL [v] (gN v) (noEr tt) (noEr te) ds [])) env kr := by
  refine ⟨_, _, ?_, q⟩
  unfold lcG
  have c : ([v].all fun i => decide (i < env.length) && (gs env i).isNone) = true := by simp [h0, hv]
  rw [if_pos c]
  unfold onEr
  rw [lcL_map p f ds [] env h0 hv ht he (by simpa using hl)]
  simp
/-- a def's run -/
theorem run_ok {io : List Md} {n : Nat} {m : M Fl} {ds : List Dt} {P : R → List Dt → Prop} (h : OK m (startE io n ds) fun f e => io.length ≤ e.length ∧ ∃ r outs, finF io f e = some (.ret r outs) ∧ P r outs) : ∃ r outs, P r outs ∧ runB io n m ds = some (.ret r outs) := by
  obtain ⟨f, e, h1, h2, r, outs, h3, h4⟩ := h
  refine ⟨r, outs, h4, ?_⟩
  unfold runB
  rw [h1]
  simp only [if_pos h2, h3]
end
end DL

/-! DWb: the same for what stands in slots, and for operations on data. -/
namespace DL
open PySem L2

@[simp] theorem gs_z {s : Option (Dt × Md)} {env : Env} : gs (s :: env) 0 = s := rfl
@[simp] theorem gs_s {s : Option (Dt × Md)} {env : Env} {n : Nat} : gs (s :: env) (n + 1) = gs env n := rfl
@[simp] theorem io_n : isIo none = false := rfl
@[simp] theorem io_f {d : Dt} : isIo (some (d, .fz)) = false := rfl
@[simp] theorem io_o {d : Dt} : isIo (some (d, .ow)) = false := rfl
@[simp] theorem io_i {d : Dt} : isIo (some (d, .io)) = true := rfl
@[simp] theorem own_o {d : Dt} : isOwn (some (d, .ow)) = true := rfl
@[simp] theorem own_i {d : Dt} : isOwn (some (d, .io)) = true := rfl
@[simp] theorem rs_val {d : Dt} {env : Env} : rs env (.val d) = some d := rfl
@[simp] theorem rs_new {d : Dt} {env : Env} : rs env (.new d) = some d := rfl
@[simp] theorem rs_loc {i : Nat} {env : Env} : rs env (.loc i) = (gs env i).map (·.1) := rfl
@[simp] theorem rsA_nil {env : Env} : rsA env [] = some [] := rfl
theorem rsA_cons {env : Env} {r : R} {l : List R} {d : Dt} {ds : List Dt} (h : rs env r = some d) (h2 : rsA env l = some ds) : rsA env (r :: l) = some (d :: ds) := by
  show (match rs env r, rsA env l with | some d, some ds => some (d :: ds) | _, _ => none) = _
  rw [h, h2]
@[simp] theorem okV_rsA {env : Env} {r : R} {l : List R} {k : List Dt → Prop} : okV (rsA env (r :: l)) k ↔ okV (rs env r) fun d => okV (rsA env l) fun ds => k (d :: ds) := by
  show okV (match rs env r, rsA env l with | some d, some ds => some (d :: ds) | _, _ => none) k ↔ _
  cases h1 : rs env r with
  | none => exact ⟨fun ⟨_, q, _⟩ => (nomatch q), fun ⟨_, q, _⟩ => (nomatch q)⟩
  | some d =>
    rw [okV_some]
    cases h2 : rsA env l with
    | none => exact ⟨fun ⟨_, q, _⟩ => (nomatch q), fun ⟨_, q, _⟩ => (nomatch q)⟩
    | some ds => rw [okV_some]; exact (okV_some (k := fun ds => k (d :: ds))).symm

structure Tl (k : List Dt → Md → Prop) : Type where
def nL (s : Option (Dt × Md)) (i : Nat) (env : Env) (k : R → Env → Prop) (t : Tk k := ⟨⟩) : Prop := match s with
  | some (d, .fz) => k (.val d) env
  | some _ => k (.loc i) env
  | none => False
@[simp] theorem nL_f {d : Dt} {i : Nat} {env : Env} {k : R → Env → Prop} : nL (some (d, .fz)) i env k ↔ k (.val d) env := Iff.rfl
@[simp] theorem nL_o {d : Dt} {i : Nat} {env : Env} {k : R → Env → Prop} : nL (some (d, .ow)) i env k ↔ k (.loc i) env := Iff.rfl
@[simp] theorem nL_i {d : Dt} {i : Nat} {env : Env} {k : R → Env → Prop} : nL (some (d, .io)) i env k ↔ k (.loc i) env := Iff.rfl
@[simp] theorem ok_N' {i : Nat} {env : Env} {k : R → Env → Prop} : OK (mN i) env k ↔ nL (gs env i) i env k := by
  show okE (mN i env) k ↔ _
  unfold mN
  cases h : gs env i with
  | none => exact ⟨fun ⟨_, _, q, _⟩ => (by simp only at q; cases q), fun q => q.elim⟩
  | some y =>
    obtain ⟨d, m⟩ := y
    cases m <;> exact okE_ok
@[simp] theorem ok_Ls {i : Nat} {env : Env} {k : R → Env → Prop} {ds : List Dt} (h : gs env i = some (.lst ds, .ow) ∨ gs env i = some (.lst ds, .io)) : OK (mLs i) env k ↔ k (.loc i) env := by
  show okE (mLs i env) k ↔ _
  unfold mLs
  rcases h with h | h <;> rw [h] <;> exact okE_ok
def lL (s : Option (Dt × Md)) (k : List Dt → Md → Prop) (t : Tl k := ⟨⟩) : Prop := match s with
  | some (.lst ds, .ow) => k ds .ow
  | some (.lst ds, .io) => k ds .io
  | _ => False
@[simp] theorem lL_o {ds : List Dt} {k : List Dt → Md → Prop} : lL (some (.lst ds, .ow)) k ↔ k ds .ow := Iff.rfl
@[simp] theorem lL_i {ds : List Dt} {k : List Dt → Md → Prop} : lL (some (.lst ds, .io)) k ↔ k ds .io := Iff.rfl
theorem lL_of {s : Option (Dt × Md)} {k : List Dt → Md → Prop} (h : lL s k) : ∃ ds m, s = some (.lst ds, m) ∧ (m = .ow ∨ m = .io) ∧ k ds m := by
  unfold lL at h
  split at h
  · exact ⟨_, _, rfl, .inl rfl, h⟩
  · exact ⟨_, _, rfl, .inr rfl, h⟩
  · exact h.elim
@[simp] theorem ok_Ls' {i : Nat} {env : Env} {k : R → Env → Prop} : OK (mLs i) env k ↔ lL (gs env i) fun _ _ => k (.loc i) env := by
  constructor
  · rintro ⟨a, e, h, q⟩
    unfold mLs at h
    have key : ∀ s : Option (Dt × Md), gs env i = s → lL s fun _ _ => k (.loc i) env := fun s hs => by
      rw [hs] at h
      cases s with
      | none => cases h
      | some y =>
        obtain ⟨d, m⟩ := y
        cases d with
        | lst ds =>
          cases m with
          | fz => cases h
          | ow => cases h; exact q
          | io => cases h; exact q
        | _ => cases m <;> cases h
    exact key _ rfl
  · intro h
    obtain ⟨ds, m, e, hm, q⟩ := lL_of h
    rcases hm with rfl | rfl
    · exact (ok_Ls (.inl e)).2 q
    · exact (ok_Ls (.inr e)).2 q
@[simp] theorem ok_setIxV {i : Nat} {env : Env} {k : Fl → Env → Prop} {d : Dt} {j : Int} : OK (setIx i d (.val (.int j))) env k ↔ lL (gs env i) fun ds m => okV (ixN ds.length j) fun p => k .nx (env.set i (some (.lst (ds.set p d), m))) := by
  constructor
  · rintro ⟨a, e, h, q⟩
    unfold setIx at h
    simp only [rs_val] at h
    have key : ∀ s : Option (Dt × Md), gs env i = s → lL s fun ds m => okV (ixN ds.length j) fun p => k .nx (env.set i (some (.lst (ds.set p d), m))) := fun s hs => by
      rw [hs] at h
      cases s with
      | none => cases h
      | some y =>
        obtain ⟨x, m⟩ := y
        cases x with
        | lst ds =>
          have go : ∀ o : Option Nat, ixN ds.length j = o → (m = .ow ∨ m = .io) → okV (ixN ds.length j) fun p => k .nx (env.set i (some (.lst (ds.set p d), m))) := fun o ho hm => by
            cases o with
            | none => rcases hm with rfl | rfl <;> (simp only [ho] at h; cases h)
            | some p => rcases hm with rfl | rfl <;> (simp only [ho] at h; cases h; rw [ho]; exact okV_some.2 q)
          cases m with
          | fz => cases h
          | ow => exact go _ rfl (.inl rfl)
          | io => exact go _ rfl (.inr rfl)
        | _ => cases m <;> cases h
    exact key _ rfl
  · intro h
    obtain ⟨ds, m, e, hm, p, h1, q⟩ := lL_of h
    refine ⟨_, _, ?_, q⟩
    unfold setIx
    rcases hm with rfl | rfl <;> simp only [rs_val, e, h1]
@[simp] theorem ok_mutS' {i : Nat} {env : Env} {k : R → Env → Prop} {g : List Dt → List Dt → Option (List Dt × Dt)} {es : List Dt} : OK (mutS i g es) env k ↔ lL (gs env i) fun ds m => okV (g ds es) fun p => k (.val p.2) (env.set i (some (.lst p.1, m))) := by
  constructor
  · rintro ⟨a, e, h, q⟩
    unfold mutS at h
    have key : ∀ s : Option (Dt × Md), gs env i = s → lL s fun ds m => okV (g ds es) fun p => k (.val p.2) (env.set i (some (.lst p.1, m))) := fun s hs => by
      rw [hs] at h
      cases s with
      | none => cases h
      | some y =>
        obtain ⟨x, m⟩ := y
        cases x with
        | lst ds =>
          have go : ∀ o : Option (List Dt × Dt), g ds es = o → (m = .ow ∨ m = .io) → okV (g ds es) fun p => k (.val p.2) (env.set i (some (.lst p.1, m))) := fun o ho hm => by
            cases o with
            | none => rcases hm with rfl | rfl <;> (simp only [ho] at h; cases h)
            | some p =>
              obtain ⟨ys, z⟩ := p
              rcases hm with rfl | rfl <;> (simp only [ho] at h; cases h; rw [ho]; exact okV_some.2 q)
          cases m with
          | fz => cases h
          | ow => exact go _ rfl (.inl rfl)
          | io => exact go _ rfl (.inr rfl)
        | _ => cases m <;> cases h
    exact key _ rfl
  · intro h
    obtain ⟨ds, m, e, hm, p, h1, q⟩ := lL_of h
    obtain ⟨ys, d⟩ := p
    refine ⟨_, _, ?_, q⟩
    unfold mutS
    rcases hm with rfl | rfl <;> simp only [e, h1]
def fL (s : Option (Dt × Md)) (i : Nat) (env : Env) (k : Dt → Env → Prop) (t : Tk k := ⟨⟩) : Prop := match s with
  | some (d, .fz) => k d env
  | some (d, .ow) => k d (env.set i (some (d, .fz)))
  | _ => False
@[simp] theorem fL_f {d : Dt} {i : Nat} {env : Env} {k : Dt → Env → Prop} : fL (some (d, .fz)) i env k ↔ k d env := Iff.rfl
@[simp] theorem fL_o {d : Dt} {i : Nat} {env : Env} {k : Dt → Env → Prop} : fL (some (d, .ow)) i env k ↔ k d (env.set i (some (d, .fz))) := Iff.rfl
@[simp] theorem ok_frzL {i : Nat} {env : Env} {k : Dt → Env → Prop} : OK (frz (.loc i)) env k ↔ fL (gs env i) i env k := by
  show okE (frz (.loc i) env) k ↔ _
  unfold frz fL
  cases h : gs env i with
  | none => exact ⟨fun ⟨_, _, q, _⟩ => (by simp only [h] at q; cases q), fun q => q.elim⟩
  | some y =>
    obtain ⟨d, m⟩ := y
    cases m with
    | fz => simp only [h]; exact okE_ok
    | ow => simp only [h]; exact okE_ok
    | io => exact ⟨fun ⟨_, _, q, _⟩ => (by simp only [h] at q; cases q), fun q => q.elim⟩
@[simp] theorem ok_setL {i j : Nat} {env : Env} {k : Fl → Env → Prop} : OK (setR i (.loc j)) env k ↔ fL (gs env j) j env fun d e => (i < e.length ∧ isIo (gs e i) = false) ∧ k .nx (e.set i (some (d, .fz))) := by
  show OK ((frz (.loc j)).bind _) env k ↔ _
  rw [ok_bind, ok_frzL]
  have w : ∀ (k1 k2 : Dt → Env → Prop), (∀ d e, k1 d e ↔ k2 d e) → (fL (gs env j) j env k1 ↔ fL (gs env j) j env k2) := fun k1 k2 h => by
    have : k1 = k2 := funext fun d => funext fun e => propext (h d e)
    rw [this]
  exact w _ _ fun d e => ok_putS
def rL (s : Option (Dt × Md)) (i : Nat) (env : Env) (k : Fl → Env → Prop) (t : Tk k := ⟨⟩) : Prop := match s with
  | some (d, .fz) => k (.rt d false) env
  | some (d, .ow) => k (.rt d true) (env.set i none)
  | _ => False
@[simp] theorem rL_f {d : Dt} {i : Nat} {env : Env} {k : Fl → Env → Prop} : rL (some (d, .fz)) i env k ↔ k (.rt d false) env := Iff.rfl
@[simp] theorem rL_o {d : Dt} {i : Nat} {env : Env} {k : Fl → Env → Prop} : rL (some (d, .ow)) i env k ↔ k (.rt d true) (env.set i none) := Iff.rfl
@[simp] theorem ok_retV {d : Dt} {env : Env} {k : Fl → Env → Prop} : OK (retR (.val d)) env k ↔ k (.rt d false) env := okE_ok
@[simp] theorem ok_retW {d : Dt} {env : Env} {k : Fl → Env → Prop} : OK (retR (.new d)) env k ↔ k (.rt d true) env := okE_ok
@[simp] theorem ok_retL {i : Nat} {env : Env} {k : Fl → Env → Prop} : OK (retR (.loc i)) env k ↔ rL (gs env i) i env k := by
  show okE (retR (.loc i) env) k ↔ _
  unfold retR rL
  cases h : gs env i with
  | none => exact ⟨fun ⟨_, _, q, _⟩ => (by simp only [h] at q; cases q), fun q => q.elim⟩
  | some y =>
    obtain ⟨d, m⟩ := y
    cases m with
    | fz => simp only [h]; exact okE_ok
    | ow => simp only [h]; exact okE_ok
    | io => exact ⟨fun ⟨_, _, q, _⟩ => (by simp only [h] at q; cases q), fun q => q.elim⟩
@[simp] theorem ok_useTv {b : Bool} {env : Env} {k : Bool → Env → Prop} : OK (useT (.val (.bl b))) env k ↔ k b env := okE_ok
@[simp] theorem ok_useIv {i : Int} {env : Env} {k : Option Int → Env → Prop} : OK (useI (.val (.int i))) env k ↔ k (some i) env := okE_ok
@[simp] theorem ok_itL {ds : List Dt} {env : Env} {k : List Dt → Env → Prop} : OK (itemsD (.lst ds)) env k ↔ k ds env := okE_ok
@[simp] theorem ok_itT {ds : List Dt} {env : Env} {k : List Dt → Env → Prop} : OK (itemsD (.tup ds)) env k ↔ k ds env := okE_ok
@[simp] theorem ok_itS {ds : List Dt} {env : Env} {k : List Dt → Env → Prop} : OK (itemsD (.scr ds)) env k ↔ k ds env := okE_ok
@[simp] theorem ok_itStr {s : Str} {env : Env} {k : List Dt → Env → Prop} : OK (itemsD (.str s)) env k ↔ k (signs s.cps.toList) env := okE_ok
@[simp] theorem ok_rng {n : Int} {env : Env} {k : List Dt → Env → Prop} : OK (rng1 [.val (.int n)]) env k ↔ bndR 0 n ∧ k (rangeD 0 n.toNat) env := by
  show okE (if _ then _ else none) k ↔ _
  rw [okE_if, okE_ok]
@[simp] theorem ok_enumE {ds : List Dt} {env : Env} {k : List Dt → Env → Prop} : okE (match (Dt.tup ds) with | .tup ds => some (Rs.ok (enumD 0 ds) env) | _ => none) k ↔ k (enumD 0 ds) env := okE_ok
@[simp] theorem ok_useTIv {c : Str} {fs : List (Str × Dt)} {env : Env} {k : Bool → Env → Prop} : OK (useTI c (.val (.ins c fs))) env k ↔ k true env := by
  show okE (if c = c then _ else none) k ↔ _
  rw [okE_if, okE_ok]
  exact ⟨fun h => h.2, fun h => ⟨rfl, h⟩⟩
@[simp] theorem ioD_i {env : Env} {i : Nat} {d : Dt} (h : gs env i = some (d, .io)) : ioD env i = some d := by unfold ioD; rw [h]
@[simp] theorem ioD_z {env : Env} {d : Dt} : ioD (some (d, .io) :: env) 0 = some d := rfl

/-! ### operations -/
variable {a b : Int} {s t : Str} {x y : List Dt}
theorem gI_if {c : Int → Int → Bool} {f : Int → Int → Dt} {p : Prop} [Decidable p] (h : c a b = decide p) : gI c f (.int a) (.int b) = if p then some (.val (f a b)) else none := by
  show (if c a b = true then _ else none) = _
  rw [h]
  by_cases q : p
  · rw [if_pos q, if_pos (decide_eq_true q)]
  · rw [if_neg q, if_neg (by rw [decide_eq_false q]; exact Bool.false_ne_true)]
@[simp] theorem v_plusI : gPlus (.int a) (.int b) = some (.val (.int (a + b))) := rfl
@[simp] theorem v_plusS : gPlus (.str s) (.str t) = if s.length + t.length ≤ line then some (.val (.str (s ++ t))) else none := by
  show (match (if s.length + t.length ≤ line then some (R.val (.str (s ++ t))) else none) with | some r => some r | none => none) = _
  by_cases h : s.length + t.length ≤ line
  · rw [if_pos h]
  · rw [if_neg h]
@[simp] theorem v_plusL : gPlus (.lst x) (.lst y) = if x.length + y.length ≤ line then some (.new (.lst (x ++ y))) else none := by
  show (match (if x.length + y.length ≤ line then some (R.new (.lst (x ++ y))) else none) with | some r => some r | none => none) = _
  by_cases h : x.length + y.length ≤ line
  · rw [if_pos h]
  · rw [if_neg h]
@[simp] theorem v_plusT : gPlus (.tup x) (.tup y) = if x.length + y.length ≤ line then some (.val (.tup (x ++ y))) else none := rfl
@[simp] theorem v_sub : gSub (.int a) (.int b) = some (.val (.int (a - b))) := rfl
@[simp] theorem v_mul : gMul (.int a) (.int b) = if (-18446744073709551616 < a ∧ a < 18446744073709551616) ∨ (-18446744073709551616 < b ∧ b < 18446744073709551616) then some (.val (.int (a * b))) else none := by
  refine gI_if ?_
  unfold small
  rw [Bool.decide_or]
  rfl
@[simp] theorem v_div : gDiv (.int a) (.int b) = if 0 < b ∧ b < 1073741824 then some (.val (.int (a / b))) else none := gI_if rfl
@[simp] theorem v_mod : gMod (.int a) (.int b) = if 0 < b then some (.val (.int (a % b))) else none := gI_if rfl
@[simp] theorem v_lt : gLess2 (.int a) (.int b) = some (.val (.bl (decide (a < b)))) := rfl
@[simp] theorem v_ltS : gLess2 (.str s) (.str t) = some (.val (.bl (ltS s t))) := rfl
@[simp] theorem v_ltT : gLess2 (.tup x) (.tup y) = gLtT (.tup x) (.tup y) := rfl
@[simp] theorem v_le : gLe (.int a) (.int b) = some (.val (.bl (decide (a ≤ b)))) := rfl
@[simp] theorem v_gt : gGt (.int a) (.int b) = some (.val (.bl (decide (b < a)))) := rfl
@[simp] theorem v_ge : gGe (.int a) (.int b) = some (.val (.bl (decide (b ≤ a)))) := rfl
@[simp] theorem v_neg : gNeg (.int a) = some (.val (.int (-a))) := rfl
@[simp] theorem v_eqI : gEq2 (.int a) (.int b) = some (.val (.bl (decide (a = b)))) := rfl
@[simp] theorem v_neI : gNe2 (.int a) (.int b) = some (.val (.bl (!decide (a = b)))) := rfl
@[simp] theorem v_eqS : gEq2 (.str s) (.str t) = some (.val (.bl (decide (s = t)))) := rfl
@[simp] theorem v_neS : gNe2 (.str s) (.str t) = some (.val (.bl (!decide (s = t)))) := rfl
@[simp] theorem v_eqT : gEq2 (.tup x) (.tup y) = (eqTT (.tup x) (.tup y)).map fun b => .val (.bl b) := rfl
@[simp] theorem v_neT : gNe2 (.tup x) (.tup y) = (eqTT (.tup x) (.tup y)).map fun b => .val (.bl !b) := rfl
@[simp] theorem v_eqL : gEq2 (.lst x) (.lst y) = (eqTT (.lst x) (.lst y)).map fun b => .val (.bl b) := rfl
@[simp] theorem v_neL : gNe2 (.lst x) (.lst y) = (eqTT (.lst x) (.lst y)).map fun b => .val (.bl !b) := rfl
@[simp] theorem v_isN {d : Dt} : gIsN d .non = some (.val (.bl (isNonD d))) := rfl
@[simp] theorem v_notN {d : Dt} : gNotN d .non = some (.val (.bl !(isNonD d))) := rfl
@[simp] theorem v_isNi : isNonD (.int a) = false := rfl
@[simp] theorem v_isNn : isNonD .non = true := rfl
@[simp] theorem v_ixL : gIdx (.lst x) (.int a) = (atD x a).map .val := rfl
@[simp] theorem v_ixT : gIdx (.tup x) (.int a) = (atD x a).map .val := rfl
@[simp] theorem v_ixC : gIdx (.scr x) (.int a) = (atD x a).map .val := rfl
@[simp] theorem v_ixS : gIdx (.str s) (.int a) = if s.length ≤ line then (atI s.cps.toList a).map fun c => .val (.str ⟨#[c]⟩) else none := rfl
@[simp] theorem v_lenL : gLen [.lst x] = some (.val (.int x.length)) := rfl
@[simp] theorem v_lenT : gLen [.tup x] = some (.val (.int x.length)) := rfl
@[simp] theorem v_lenC : gLen [.scr x] = some (.val (.int x.length)) := rfl
@[simp] theorem v_lenS : gLen [.str s] = if s.length ≤ line then some (.val (.int s.length)) else none := by
  simp only [gLen, lenD]
  split <;> rfl
@[simp] theorem v_int : gInt [.int a] = some (.val (.int a)) := rfl
@[simp] theorem v_abs : gAbs [.int a] = some (.val (.int (if a < 0 then -a else a))) := rfl
@[simp] theorem v_max : gMax2 [.int a, .int b] = some (.val (.int (if b > a then b else a))) := rfl
@[simp] theorem v_min : gMin2 [.int a, .int b] = some (.val (.int (if b < a then b else a))) := rfl
@[simp] theorem v_divmod : gDivmod [.int a, .int b] = if 0 < b ∧ b < 1073741824 then some (.val (.tup [.int (a / b), .int (a % b)])) else none := rfl
@[simp] theorem v_sum : gSum [.lst x] = (intsD x).map fun ns => .val (.int ns.sum) := rfl
@[simp] theorem v_slL {lo hi : Option Int} : gSl lo hi (.lst x) = some (.new (.lst (cutD x lo hi))) := rfl
@[simp] theorem v_slC {lo hi : Option Int} : gSl lo hi (.scr x) = some (.new (.lst (cutD x lo hi))) := rfl
@[simp] theorem v_slT {lo hi : Option Int} : gSl lo hi (.tup x) = some (.val (.tup (cutD x lo hi))) := rfl
@[simp] theorem v_slS {lo hi : Option Int} : gSl lo hi (.str s) = if s.length ≤ line then some (.val (.str (cutS s lo hi))) else none := rfl
@[simp] theorem v_tupL : gTuple [.lst x] = some (.val (.tup x)) := rfl
@[simp] theorem v_tupT : gTuple [.tup x] = some (.val (.tup x)) := rfl
@[simp] theorem v_app {d : Dt} : gApp x [d] = if x.length < 100000 then some (x ++ [d], .non) else none := rfl
theorem ixN_natA {n i : Nat} (h : i < n) : ixN n (i : Int) = some i := by
  unfold ixN
  rw [if_pos (by omega), if_pos (by omega)]
  rfl
@[simp] theorem at0 {d : Dt} : atD (d :: x) 0 = some d := by unfold atD ixN; simp
@[simp] theorem at1 {d e : Dt} : atD (d :: e :: x) 1 = some e := by
  have : ixN (d :: e :: x).length 1 = some 1 := by
    unfold ixN
    rw [if_pos (by decide), if_pos (by simp only [List.length_cons]; omega)]
    rfl
  unfold atD
  rw [this]
  rfl
@[simp] theorem at2 {d e f : Dt} : atD (d :: e :: f :: x) 2 = some f := by
  have : ixN (d :: e :: f :: x).length 2 = some 2 := by
    unfold ixN
    rw [if_pos (by decide), if_pos (by simp only [List.length_cons]; omega)]
    rfl
  unfold atD
  rw [this]
  rfl
@[simp] theorem at3 {d e f g : Dt} : atD (d :: e :: f :: g :: x) 3 = some g := by
  have : ixN (d :: e :: f :: g :: x).length 3 = some 3 := by
    unfold ixN
    rw [if_pos (by decide), if_pos (by simp only [List.length_cons]; omega)]
    rfl
  unfold atD
  rw [this]
  rfl
@[simp] theorem ixN_0 {n : Nat} : ixN (n + 1) 0 = some 0 := ixN_natA (i := 0) (by omega)
@[simp] theorem ixN_1 {n : Nat} : ixN (n + 2) 1 = some 1 := ixN_natA (i := 1) (by omega)
@[simp] theorem ixN_2 {n : Nat} : ixN (n + 3) 2 = some 2 := ixN_natA (i := 2) (by omega)
theorem ixN_nat {n i : Nat} (h : i < n) : ixN n (i : Int) = some i := by
  unfold ixN
  rw [if_pos (by omega), if_pos (by omega)]
  rfl
theorem atD_nat {x : List Dt} {i : Nat} {d : Dt} (h : x[i]? = some d) : atD x (i : Int) = some d := by
  unfold atD
  rw [ixN_nat (List.getElem?_eq_some_iff.mp h).1]
  exact h
theorem atD_last {x : List Dt} {d : Dt} : atD (x ++ [d]) (-1) = some d := by
  unfold atD ixN
  rw [if_neg (by decide), if_pos (by simp only [List.length_append, List.length_cons, List.length_nil]; omega)]
  have e : ((-1 : Int) + ((x ++ [d]).length : Nat)).toNat = x.length := by
    simp only [List.length_append, List.length_cons, List.length_nil]
    omega
  show (x ++ [d])[((-1 : Int) + ((x ++ [d]).length : Nat)).toNat]? = _
  rw [e, List.getElem?_append_right (Nat.le_refl _), Nat.sub_self]
  rfl

structure Tb (k : Bool → Prop) : Type where
def okB (o : Option R) (k : Bool → Prop) (t : Tb k := ⟨⟩) : Prop := ∃ c, o = some (.val (.bl c)) ∧ k c
@[simp] theorem okB_v {c : Bool} {k : Bool → Prop} : okB (some (.val (.bl c))) k ↔ k c := ⟨fun ⟨_, h, q⟩ => by cases h; exact q, fun q => ⟨c, rfl, q⟩⟩
@[simp] theorem ok_cmpV {g : Dt → Dt → Option R} {ra rb : R} {env : Env} {kb : Bool → Env → Prop} : OK (cmpM g ra rb) env kb ↔ okV (rs env ra) fun a => okV (rs env rb) fun b => okB (g a b) fun c => kb c env := by
  constructor
  · rintro ⟨a, e, h, q⟩
    unfold cmpM at h
    split at h
    · next h1 h2 =>
      rw [h1, okV_some, h2, okV_some]
      split at h
      · next h3 => cases h; rw [h3]; exact okB_v.2 q
      · cases h
    · cases h
  · rintro ⟨a, h1, b, h2, c, h3, q⟩
    refine ⟨c, env, ?_, q⟩
    unfold cmpM
    simp only [h1, h2, h3]
@[simp] theorem v_ssL {x : List Dt} : gSS (.lst x) = (ssD x).map fun l => .new (.lst l) := rfl
@[simp] theorem v_ssT {x : List Dt} : gSS (.tup x) = (ssD x).map fun l => .new (.lst l) := rfl
theorem v_pop {x : List Dt} {d : Dt} : gPop (x ++ [d]) [] = some (x, d) := by
  unfold gPop
  have : (x ++ [d])[(x ++ [d]).length - 1]? = some d := by
    rw [List.length_append, List.length_cons, List.length_nil]
    show (x ++ [d])[x.length]? = _
    rw [List.getElem?_append_right (Nat.le_refl _), Nat.sub_self]
    rfl
  simp only [this, List.dropLast_concat]
theorem v_zeros {m : Nat} {d : Dt} (h : m ≤ 1000) : gTimes (.lst [d]) (.int (m : Int)) = some (.new (.lst (List.replicate m d))) := by
  have h1 : gRepL (.lst [d]) (.int (m : Int)) = some (.new (.lst (List.replicate m [d]).flatten)) := by
    show (if _ then _ else none) = _
    rw [if_pos ⟨by omega, by omega, by simp⟩]
    rfl
  have h2 : (List.replicate m [d]).flatten = List.replicate m d := by
    clear h h1
    induction m with
    | zero => rfl
    | succ m ih => rw [List.replicate_succ, List.flatten_cons, ih]; rfl
  unfold gTimes gOr
  have e0 : gMul (.lst [d]) (.int (m : Int)) = none := rfl
  have e1 : gRepS (.lst [d]) (.int (m : Int)) = none := rfl
  rw [e0]
  simp only [e1, h1, h2]

/-! ### the end of a def -/
def fin (io : List Md) (P : R → List Dt → Prop) (f : Fl) (e : Env) : Prop := io.length ≤ e.length ∧ ∃ r outs, finF io f e = some (.ret r outs) ∧ P r outs
@[simp] theorem fin_nx {io : List Md} {P : R → List Dt → Prop} {e : Env} : fin io P .nx e ↔ io.length ≤ e.length ∧ P (.val .non) (outsOf io e) := by
  unfold fin
  exact and_congr_right fun _ => ⟨fun ⟨_, _, h, q⟩ => by cases h; exact q, fun q => ⟨_, _, rfl, q⟩⟩
@[simp] theorem fin_rv {io : List Md} {P : R → List Dt → Prop} {e : Env} {d : Dt} : fin io P (.rt d false) e ↔ io.length ≤ e.length ∧ P (.val d) (outsOf io e) := by
  unfold fin
  exact and_congr_right fun _ => ⟨fun ⟨_, _, h, q⟩ => by cases h; exact q, fun q => ⟨_, _, rfl, q⟩⟩
@[simp] theorem fin_rn {io : List Md} {P : R → List Dt → Prop} {e : Env} {d : Dt} : fin io P (.rt d true) e ↔ io.length ≤ e.length ∧ P (.new d) (outsOf io e) := by
  unfold fin
  exact and_congr_right fun _ => ⟨fun ⟨_, _, h, q⟩ => by cases h; exact q, fun q => ⟨_, _, rfl, q⟩⟩
@[simp] theorem out_n {e : Env} : outsOf [] e = [] := by cases e <;> rfl
@[simp] theorem out_i {d : Dt} {m : Md} {ms : List Md} {r : Env} : outsOf (.io :: ms) (some (d, m) :: r) = d :: outsOf ms r := rfl
@[simp] theorem out_f {s : Option (Dt × Md)} {ms : List Md} {r : Env} : outsOf (.fz :: ms) (s :: r) = .non :: outsOf ms r := by
  cases s with
  | none => rfl
  | some y => rfl
theorem run_fin {io : List Md} {n : Nat} {m : M Fl} {ds : List Dt} {P : R → List Dt → Prop} (h : OK m (startE io n ds) (fin io P)) : ∃ r outs, P r outs ∧ runB io n m ds = some (.ret r outs) := run_ok h
end DL

/-! DWc: loops that may return, comprehensions over pairs, the words of DN. -/
namespace DL
open PySem L2
section
variable {env : Env} {k : Fl → Env → Prop} {kr : R → Env → Prop} {kb : Bool → Env → Prop} {kd : List Dt → Env → Prop} {m ma mb : M R} {body : M Fl} {ml : List (M R)} {rl : List R} {a b : Int} {x y : List Dt} {d : Dt}
/-- a loop that may return -/
theorem ok_forR {tg : Tg} (I : List Dt → Env → Prop) (Rp : Fl → Env → Prop) (step : ∀ d ds e, I (d :: ds) e → OK (tg d) e fun _ e => OK body e fun f e => ((f = .nx ∨ f = .ct) ∧ I ds e) ∨ ((∃ x o, f = .rt x o) ∧ Rp f e)) :
    ∀ (ds : List Dt) (env : Env), I ds env → (∀ e, I [] e → k .nx e) → (∀ f e, Rp f e → k f e) → OK (forL tg body ds) env k
  | [], env, h, fin, _ => ⟨_, _, rfl, fin env h⟩
  | d :: ds, env, h, fin, ret => by
    show OK ((tg d).bind _) env k
    rw [ok_bind]
    refine (step d ds env h).mono fun _ e q => ?_
    rw [ok_bind]
    refine q.mono fun f e q => ?_
    rcases q with ⟨hf, q⟩ | ⟨⟨x, o, rfl⟩, q⟩
    · rcases hf with rfl | rfl
      · exact ok_forR I Rp step ds e q fin ret
      · exact ok_forR I Rp step ds e q fin ret
    · exact ⟨_, _, rfl, ret _ e q⟩
def tg2 (v w : Nat) : Tg := gT 2 (gCons' (gN v) (gCons' (gN w) gNil'))
def pairD (q : Dt × Dt) : Dt := .tup [q.1, q.2]
def set2 (env : Env) (v w : Nat) (q : Dt × Dt) : Env := (env.set v (some (q.1, .fz))).set w (some (q.2, .fz))
theorem lcL_map2 {v w : Nat} {tt : M Bool} {te : M R} (hvw : v ≠ w) (p : Dt × Dt → Bool) (f : Dt × Dt → Dt) : ∀ (ps : List (Dt × Dt)) (acc : List Dt) (env : Env), gs env v = none → gs env w = none → v < env.length → w < env.length →
    (∀ q ∈ ps, tt (set2 env v w q) = some (.ok (p q) (set2 env v w q))) → (∀ q ∈ ps, p q = true → te (set2 env v w q) = some (.ok (.val (f q)) (set2 env v w q))) → acc.length + ps.length ≤ line →
    lcL [v, w] (tg2 v w) (noEr tt) (noEr te) (ps.map pairD) acc env = some (.ok (.new (.lst (acc ++ (ps.filter p).map f))) env)
  | [], acc, env, h0, h0', hv, hw, ht, he, hl => by simp [lcL, M.pure]
  | q :: ps, acc, env, h0, h0', hv, hw, ht, he, hl => by
    have back : ∀ (E : Env) (i : Nat), i < E.length → gs E i = none → E.set i none = E := fun E i hi h => by
      apply List.ext_getElem?
      intro j
      by_cases e : j = i
      · subst e
        rw [List.getElem?_set_self hi]
        unfold gs at h
        rw [List.getElem?_eq_getElem hi] at h ⊢
        exact congrArg some h.symm
      · rw [List.getElem?_set_ne (Ne.symm e)]
    have wp : wipeE (set2 env v w q) [v, w] = env := by
      show ((((env.set v _).set w _).set w none).set v none) = env
      rw [List.set_set, List.set_comm _ _ hvw, List.set_set, back env w hw h0']
      exact back env v hv h0
    have tgq : tg2 v w (pairD q) env = some (.ok .nx (set2 env v w q)) := by
      have i1 : isIo (gs env v) = false := by rw [h0]; rfl
      have i2 : isIo (gs (env.set v (some (q.1, .fz))) w) = false := by rw [gs_set_ne hvw, h0']; rfl
      have l2 : w < (env.set v (some (q.1, .fz))).length := by rw [List.length_set]; exact hw
      show ((gN v q.1).bind fun _ => (gN w q.2).bind fun _ => gNil' []) env = _
      unfold gN putS M.bind
      simp only [if_pos (⟨hv, i1⟩ : v < env.length ∧ isIo (gs env v) = false), if_pos (⟨l2, i2⟩ : w < (env.set v (some (q.1, .fz))).length ∧ isIo (gs (env.set v (some (q.1, .fz))) w) = false)]
      rfl
    have h1 : noEr tt (set2 env v w q) = some (.ok (p q) (set2 env v w q)) := by
      unfold noEr
      rw [ht q List.mem_cons_self]
    simp only [List.length_cons] at hl
    cases c : p q with
    | false =>
      have ih := lcL_map2 (tt := tt) (te := te) hvw p f ps acc env h0 h0' hv hw (fun x hx => ht x (List.mem_cons_of_mem _ hx)) (fun x hx => he x (List.mem_cons_of_mem _ hx)) (by omega)
      rw [c] at h1
      simp only [List.map_cons, lcL, M.bind, tgq, h1, wp, ih, List.filter_cons, c, Bool.false_eq_true, if_false]
    | true =>
      have ih := lcL_map2 (tt := tt) (te := te) hvw p f ps (acc ++ [f q]) env h0 h0' hv hw (fun x hx => ht x (List.mem_cons_of_mem _ hx)) (fun x hx => he x (List.mem_cons_of_mem _ hx)) (by simp; omega)
      rw [c] at h1
      have h2 : noEr te (set2 env v w q) = some (.ok (.val (f q)) (set2 env v w q)) := by
        unfold noEr
        rw [he q List.mem_cons_self c]
      have hlt : acc.length < line := by omega
      simp only [List.map_cons, lcL, M.bind, tgq, h1, h2, frz, if_true, if_pos hlt, wp, ih, List.filter_cons, c, List.append_assoc, List.singleton_append]
@[simp] theorem ok_LC2 {v w : Nat} {src : M (List Dt)} {tt : M Bool} {te : M R} : OK (mLC [v, w] src (gT 2 (gCons' (gN v) (gCons' (gN w) gNil'))) tt te) env kr ↔ OK src env fun ds e => OK (lcG [v, w] (lcL [v, w] (tg2 v w) (noEr tt) (noEr te) ds [])) e kr := ok_bind
theorem ok_lcMap2 {v w : Nat} {tt : M Bool} {te : M R} {ps : List (Dt × Dt)} (hvw : v ≠ w) (p : Dt × Dt → Bool) (f : Dt × Dt → Dt) (h0 : gs env v = none) (h0' : gs env w = none) (hv : v < env.length) (hw : w < env.length)
    (ht : ∀ q ∈ ps, tt (set2 env v w q) = some (.ok (p q) (set2 env v w q))) (he : ∀ q ∈ ps, p q = true → te (set2 env v w q) = some (.ok (.val (f q)) (set2 env v w q))) (hl : ps.length ≤ line)
    (q : kr (.new (.lst ((ps.filter p).map f))) env) : OK (lcG [v, w] (lcL [v, w] (tg2 v w) (noEr tt) (noEr te) (ps.map pairD) [])) env kr := by
  refine ⟨_, _, ?_, q⟩
  unfold lcG
  have c : ([v, w].all fun i => decide (i < env.length) && (gs env i).isNone) = true := by simp [h0, h0', hv, hw]
  rw [if_pos c]
  unfold onEr
  rw [lcL_map2 hvw p f ps [] env h0 h0' hv hw ht he (by simpa using hl)]
  simp
theorem zip_map {α β : Type} (f : α → Dt) (g : β → Dt) : ∀ (as : List α) (bs : List β), zipD (as.map f) (bs.map g) = ((as.zip bs).map fun q => (f q.1, g q.2)).map pairD
  | [], _ => by simp [zipD]
  | _ :: _, [] => by simp [zipD]
  | a :: as, b :: bs => by
    rw [List.map_cons, List.map_cons, List.zip_cons_cons, List.map_cons, List.map_cons]
    show _ :: zipD (as.map f) (bs.map g) = _
    rw [zip_map f g as bs]
    rfl
@[simp] theorem ok_zip : OK (mZip ma mb) env kd ↔ OK ma env fun r e => OK mb e fun r' e => OK (frz r) e fun d e => OK (frz r') e fun d' e => okE (match d, d' with | .tup ds, .tup es => some (.ok (zipD ds es) e) | _, _ => none) kd := by
  unfold mZip
  rw [ok_bind, ok_Acons]
  constructor
  · intro h
    refine h.mono fun r e q => (ok_Acons.1 q).mono fun r' e q => ?_
    exact (ok_bind.1 (ok_Anil.1 q)).mono fun d e q => (ok_bind.1 q).mono fun d' e z => z
  · intro h
    refine h.mono fun r e q => ok_Acons.2 (q.mono fun r' e q => ok_Anil.2 ?_)
    exact ok_bind.2 (q.mono fun d e q => ok_bind.2 (q.mono fun d' e z => z))
@[simp] theorem ok_zipE {ds es : List Dt} : okE (match (Dt.tup ds), (Dt.tup es) with | .tup ds, .tup es => some (Rs.ok (zipD ds es) env) | _, _ => none) kd ↔ kd (zipD ds es) env := okE_ok
@[simp] theorem ok_enumL : OK (mEnumL m) env kd ↔ OK m env fun r e => OK (frz r) e fun d e => okE (match d with | .lst ds => some (.ok (enumD 0 ds) e) | _ => none) kd := by
  unfold mEnumL
  rw [ok_bind, ok_Acons]
  exact ⟨fun h => h.mono fun r e q => (ok_bind.1 (ok_Anil.1 q)).mono fun _ _ z => z, fun h => h.mono fun r e q => ok_Anil.2 (ok_bind.2 (q.mono fun _ _ z => z))⟩
@[simp] theorem ok_enumLE {ds : List Dt} : okE (match (Dt.lst ds) with | .lst ds => some (Rs.ok (enumD 0 ds) env) | _ => none) kd ↔ kd (enumD 0 ds) env := okE_ok
theorem ok_fnR {fs : Fs} : OK (mFnR fs ml) env kr ↔ OK (mA ml) env fun rl e => OK (argsD fs.io rl.reverse) e fun ds e => OK (callF fs rl.reverse ds) e kr := by
  unfold mFnR
  rw [ok_bind]
  exact ⟨fun h => h.mono fun _ _ q => ok_bind.1 q, fun h => h.mono fun _ _ q => ok_bind.2 q⟩
end
@[simp] theorem v_revT {x : List Dt} : gRevT (.tup x) = some (.val (.tup x.reverse)) := rfl
@[simp] theorem v_listT {x : List Dt} : gList [.tup x] = some (.new (.lst x)) := rfl
@[simp] theorem v_listL {x : List Dt} : gList [.lst x] = some (.new (.lst x)) := rfl
@[simp] theorem v_sum2L {x : List Dt} : gSum2 [.lst x] = (intsD x).map fun ns => .val (.int ns.sum) := by
  show (match gSum [.lst x] with | some r => some r | none => gSumT [.lst x]) = _
  cases h : intsD x with
  | none =>
    have e : gSum [.lst x] = none := by show (intsD x).map _ = _; rw [h]; rfl
    rw [e]; rfl
  | some ns =>
    have e : gSum [.lst x] = some (.val (.int ns.sum)) := by show (intsD x).map _ = _; rw [h]; rfl
    rw [e]; rfl
@[simp] theorem v_sum2T {x : List Dt} : gSum2 [.tup x] = (intsD x).map fun ns => .val (.int ns.sum) := rfl
end DL

/-! K64: the law's defs by data (printed by gen/gen64.py). -/
namespace K64
open PySem L2 DL DX
def top (i : Nat) : Stmt := PySem.Challenge.pw_ovenhall_k64_whole_fillings_or_anything.main.body.getD i (.Pass ⟨0, 0, 0, 0⟩)
def mth (j : Nat) : Stmt := match top 27 with
  | .ClassDef _ _ _ b _ _ _ _ _ _ _ => b.getD j (.Pass ⟨0, 0, 0, 0⟩)
  | _ => .Pass ⟨0, 0, 0, 0⟩
def blts : List Str := [("super" : Str), ("repr" : Str), ("isinstance" : Str), ("len" : Str), ("abs" : Str), ("divmod" : Str), ("int" : Str), ("max" : Str), ("min" : Str), ("all" : Str), ("range" : Str), ("sum" : Str), ("sorted" : Str), ("set" : Str), ("tuple" : Str), ("enumerate" : Str), ("bool" : Str), ("str" : Str), ("list" : Str), ("zip" : Str)]
structure Txt (P : Program) (w : World) (K : PySem.W.Frag) (mg : Str → Option Value) (base : Heap) : Prop where
  nb : ∀ x, x ∈ blts → mg x = none
  ci : ∀ x n, (x, n) ∈ ([("MOST_IN_NAME", 8), ("MOST_LOTS", 10), ("MOST_USES", 24), ("MOST_COUNTS", 16), ("MOST_TICK", 99), ("MOST_UNITS", 999)] : List (Str × Int)) → ∃ t, mg x = some (.int n t)
  cs : ∃ t, mg "SMALL_LETTERS" = some (.str "abcdefghijklmnopqrstuvwxyz" t)
  gl : ∃ C, mg "Record" = some (.ref C)
  ins : ∀ C, mg "Record" = some (.ref C) → InsC K C
  fld : ∀ C, mg "Record" = some (.ref C) → Cls K C ∧ NoAttr K C "told"
  p_lots : PrpC P w K mg base "Record" "lots" (spPrp K "told" (some 0))
  p_uses : PrpC P w K mg base "Record" "uses" (spPrp K "told" (some 1))
  p_counts : PrpC P w K mg base "Record" "counts" (spPrp K "told" (some 2))
  p_parts : PrpC P w K mg base "Record" "parts" (spPrp K "told" none)
/-- a def as the top has written it -/
def FnI (K : PySem.W.Frag) (mg : Str → Option Value) (x : Str) (ps : List Str) (st : Stmt) : Prop := ∃ f fd, Fun K x x st f fd ∧ mg x = some (.ref f) ∧ PySem.W.keepIn K (.ref f) = true ∧ Binds K fd ps []
section
variable {X : Cx} {E : XK} {e : Expr} {es : List Expr} {kws : List Keyword} {p pos kp : Pos} {x : Str} {m : M R} {ml : List (M R)} {k n : Nat} {fs : Fs}
theorem d_globX (h : ∃ C, X.mg x = some (.ref C)) (hg : Gl X x) (hd : (x == ("__debug__" : Str)) = false := by decide) : DE X E (.Name x pos) (mC (.glob x)) := by
  obtain ⟨C, hm⟩ := h
  exact d_glob hg hm hd
theorem d_fnv (D : Df X.prog X.w X.K X.mg X.base k n x fs) (hg : Gl X x) (hd : (x == ("__debug__" : Str)) = false := by decide) : DE X E (.Name x pos) (mC (.glob x)) := by
  obtain ⟨f, _, _, _, _, hm, _⟩ := D.ok
  exact d_glob hg hm hd
theorem d_conI {i : Int} (h : ∃ t, X.mg x = some (.int i t)) (hg : Gl X x) (hd : (x == ("__debug__" : Str)) = false := by decide) : DE X E (.Name x pos) (mC (.int i)) := by
  obtain ⟨t, hm⟩ := h
  exact d_gcon hm (v := .int i) ⟨t, rfl⟩ (fun _ => .int i) hg hd
theorem d_conS {z : Str} (h : ∃ t, X.mg x = some (.str z t)) (hg : Gl X x) (hd : (x == ("__debug__" : Str)) = false := by decide) : DE X E (.Name x pos) (mC (.str z)) := by
  obtain ⟨t, hm⟩ := h
  exact d_gcon hm (v := .str z) ⟨t, rfl⟩ (fun _ => .str z) hg hd
end
section
variable {P : Program} {w : World} {K : PySem.W.Frag} {mg : Str → Option Value} {base : Heap}

/-- is_whole: slots value -/
def mis_whole : M Fl := (mRet (mAndV (mCall gIsP [(mN 0), (mC (.ty "int"))]) (mNotV (mCall gIsP [(mN 0), (mC (.ty "bool"))]))))
def fis_whole : Fs := ⟨[.fz], runB [.fz] 0 mis_whole⟩
theorem scis_whole : FnScope ["value"] ["value"] (defScope (top 9)) := ⟨rfl, rfl, rfl, by decide +kernel, rfl, by decide +kernel, by decide +kernel⟩
theorem gfis_whole (T : Txt P w K mg base) {f : Addr} {fd : FuncData} (F : Fun K "is_whole" "is_whole" (top 9) f fd)  : FnG P w K mg base 1 f fd ["value"] (spOf K mg 1 fis_whole) := by
  have sc := scis_whole
  exact fn_data (m := mis_whole) F sc rfl 0 rfl (fun _ _ _ h => h) (fun cdv A outer s H E bd =>
    (db_one (ds_ret (dv_and (d_cb call_isi cs_isP rfl (T.nb "isinstance" (by decide +kernel)) (by first | rfl | decide +kernel) (da_cons (dn (pv 0)) (da_cons (d_ty rfl (T.nb "int" (by decide +kernel)) (by first | rfl | decide +kernel)) da_nil))) (dv_one (dv_not (d_cb call_isi cs_isP rfl (T.nb "isinstance" (by decide +kernel)) (by first | rfl | decide +kernel) (da_cons (dn (pv 0)) (da_cons (d_ty rfl (T.nb "bool" (by decide +kernel)) (by first | rfl | decide +kernel)) da_nil)))))))))
theorem dfis_whole (T : Txt P w K mg base) (F : FnI K mg "is_whole" ["value"] (top 9))  : Df P w K mg base 1 1 "is_whole" fis_whole := by
  obtain ⟨f, fd, F, hm, hk, hb⟩ := F
  exact ⟨⟨f, fd, ["value"], rfl, gfis_whole T F , hm, hk, hb⟩, rfl⟩

/-- is_number: slots value, low, high -/
def mis_number : M Fl := (mSeq (mIfS (mOr (mNot (mT (mFn fis_whole [(mN 0)]))) (mAnd (mTC gNotN (mN 1) (mC .non)) (mTC gLess2 (mN 0) (mN 1)))) (mRet (mC (.bl false))) (M.pure .nx))
  (mRet (mOrV (mOp gIsN (mN 2) (mC .non)) (mOp gLe (mN 0) (mN 2)))))
def fis_number : Fs := ⟨[.fz, .fz, .fz], runB [.fz, .fz, .fz] 0 mis_number⟩
theorem scis_number : FnScope ["value", "low", "high"] ["value", "low", "high"] (defScope (top 10)) := ⟨rfl, rfl, rfl, by decide +kernel, rfl, by decide +kernel, by decide +kernel⟩
theorem gfis_number (T : Txt P w K mg base) {f : Addr} {fd : FuncData} (F : Fun K "is_number" "is_number" (top 10) f fd) (Dis_whole : Df P w K mg base 1 1 "is_whole" fis_whole) : FnG P w K mg base 2 f fd ["value", "low", "high"] (spOf K mg 3 fis_number) := by
  have sc := scis_number
  exact fn_data (m := mis_number) F sc rfl 0 rfl (fun _ _ _ h => h) (fun cdv A outer s H E bd =>
    (db_cons (ds_if (dt_w (dw_or (dt_not (d_val (d_fn Dis_whole (bd.mono (by decide : 1 ≤ 1)) rfl (da_cons (dn (pv 0)) da_nil)))) (dw_or1 (dt_w (dw_and (dt_notN (dn (pv 1)) dc_non) (dw_and1 (dt_lt2 bd (dn (pv 0)) (dn (pv 1))))))))) (db_one (ds_ret dc_bl)) db_nil)
    (db_one (ds_ret (dv_or (dv_isN (dn (pv 2)) dc_non) (dv_one (dv_le (dn (pv 0)) (dn (pv 2)))))))))
theorem dfis_number (T : Txt P w K mg base) (F : FnI K mg "is_number" ["value", "low", "high"] (top 10)) (Dis_whole : Df P w K mg base 1 1 "is_whole" fis_whole) : Df P w K mg base 2 3 "is_number" fis_number := by
  obtain ⟨f, fd, F, hm, hk, hb⟩ := F
  exact ⟨⟨f, fd, ["value", "low", "high"], rfl, gfis_number T F Dis_whole, hm, hk, hb⟩, rfl⟩

/-- is_tuple_of: slots value, many -/
def mis_tuple_of : M Fl := (mRet (mAndV (mCall gIsQ [(mN 0), (mC (.ty "tuple"))]) (mOp gEq2 (mCall gLen [(mN 0)]) (mN 1))))
def fis_tuple_of : Fs := ⟨[.fz, .fz], runB [.fz, .fz] 0 mis_tuple_of⟩
theorem scis_tuple_of : FnScope ["value", "many"] ["value", "many"] (defScope (top 11)) := ⟨rfl, rfl, rfl, by decide +kernel, rfl, by decide +kernel, by decide +kernel⟩
theorem gfis_tuple_of (T : Txt P w K mg base) {f : Addr} {fd : FuncData} (F : Fun K "is_tuple_of" "is_tuple_of" (top 11) f fd)  : FnG P w K mg base 1 f fd ["value", "many"] (spOf K mg 2 fis_tuple_of) := by
  have sc := scis_tuple_of
  exact fn_data (m := mis_tuple_of) F sc rfl 0 rfl (fun _ _ _ h => h) (fun cdv A outer s H E bd =>
    (db_one (ds_ret (dv_and (d_cb (call_isi.or call_isi) (cs_or cs_isP cs_isD) rfl (T.nb "isinstance" (by decide +kernel)) (by first | rfl | decide +kernel) (da_cons (dn (pv 0)) (da_cons (d_ty rfl (T.nb "tuple" (by decide +kernel)) (by first | rfl | decide +kernel)) da_nil))) (dv_one (dv_eq2 bd (d_cb call_len cs_len rfl (T.nb "len" (by decide +kernel)) (by first | rfl | decide +kernel) (da_cons (dn (pv 0)) da_nil)) (dn (pv 1))))))))
theorem dfis_tuple_of (T : Txt P w K mg base) (F : FnI K mg "is_tuple_of" ["value", "many"] (top 11))  : Df P w K mg base 1 2 "is_tuple_of" fis_tuple_of := by
  obtain ⟨f, fd, F, hm, hk, hb⟩ := F
  exact ⟨⟨f, fd, ["value", "many"], rfl, gfis_tuple_of T F , hm, hk, hb⟩, rfl⟩

/-- is_letters: slots value, least, most, letter -/
def mis_letters : M Fl := (mSeq (mIfS (mOr (mNot (mT (mCall gIsP [(mN 0), (mC (.ty "str"))]))) (mNot (mT (mChain gLe gLe (mN 1) (mCall gLen [(mN 0)]) (mN 2))))) (mRet (mC (.bl false))) (M.pure .nx))
  (mRet (mCall gAll [(mLC [3] (mItems (mN 0)) (gN 3) (M.pure true) (mOp gIn2 (mN 3) (mC (.str "abcdefghijklmnopqrstuvwxyz"))))])))
def fis_letters : Fs := ⟨[.fz, .fz, .fz], runB [.fz, .fz, .fz] 1 mis_letters⟩
theorem scis_letters : FnScope ["value", "least", "most", "letter"] ["value", "least", "most"] (defScope (top 13)) := ⟨rfl, rfl, rfl, by decide +kernel, rfl, by decide +kernel, by decide +kernel⟩
theorem gfis_letters (T : Txt P w K mg base) {f : Addr} {fd : FuncData} (F : Fun K "is_letters" "is_letters" (top 13) f fd)  : FnG P w K mg base 1 f fd ["value", "least", "most"] (spOf K mg 3 fis_letters) := by
  have sc := scis_letters
  exact fn_data (m := mis_letters) F sc rfl 1 rfl (fun _ _ _ h => h) (fun cdv A outer s H E bd =>
    (db_cons (ds_if (dt_w (dw_or (dt_not (d_val (d_cb call_isi cs_isP rfl (T.nb "isinstance" (by decide +kernel)) (by first | rfl | decide +kernel) (da_cons (dn (pv 0)) (da_cons (d_ty rfl (T.nb "str" (by decide +kernel)) (by first | rfl | decide +kernel)) da_nil))))) (dw_or1 (dt_not (dt_leLe (dn (pv 1)) (d_cb call_len cs_len rfl (T.nb "len" (by decide +kernel)) (by first | rfl | decide +kernel) (da_cons (dn (pv 0)) da_nil)) (dn (pv 2))))))) (db_one (ds_ret dc_bl)) db_nil)
    (db_one (ds_ret (d_cb (cr_all bd.calm) cs_all rfl (T.nb "all" (by decide +kernel)) (by first | rfl | decide +kernel) (da_cons (d_lc (own := [("letter", 3)]) bd.calm sc.nd (di_seq (dn (pv 0))) (blkOk_by (by first | rfl | kernel_rfl)) (fun s2 H2 C2 cl2 fp2 => (dgc_name sc.nd rfl (Or.inl rfl))) (fun s2 H2 C2 cl2 fp2 => (dv_in2 (dn (pv 3)) (d_conS T.cs rfl)))) da_nil))))))
theorem dfis_letters (T : Txt P w K mg base) (F : FnI K mg "is_letters" ["value", "least", "most"] (top 13))  : Df P w K mg base 1 3 "is_letters" fis_letters := by
  obtain ⟨f, fd, F, hm, hk, hb⟩ := F
  exact ⟨⟨f, fd, ["value", "least", "most"], rfl, gfis_letters T F , hm, hk, hb⟩, rfl⟩

/-- is_name: slots value -/
def mis_name : M Fl := (mRet (mFn fis_letters [(mN 0), (mC (.int 1)), (mC (.int 8))]))
def fis_name : Fs := ⟨[.fz], runB [.fz] 0 mis_name⟩
theorem scis_name : FnScope ["value"] ["value"] (defScope (top 14)) := ⟨rfl, rfl, rfl, by decide +kernel, rfl, by decide +kernel, by decide +kernel⟩
theorem gfis_name (T : Txt P w K mg base) {f : Addr} {fd : FuncData} (F : Fun K "is_name" "is_name" (top 14) f fd) (Dis_letters : Df P w K mg base 1 3 "is_letters" fis_letters) : FnG P w K mg base 2 f fd ["value"] (spOf K mg 1 fis_name) := by
  have sc := scis_name
  exact fn_data (m := mis_name) F sc rfl 0 rfl (fun _ _ _ h => h) (fun cdv A outer s H E bd =>
    (db_one (ds_ret (d_fn Dis_letters (bd.mono (by decide : 1 ≤ 1)) rfl (da_cons (dn (pv 0)) (da_cons dc_int (da_cons (d_conI (T.ci "MOST_IN_NAME" 8 (by decide +kernel)) rfl) da_nil)))))))
theorem dfis_name (T : Txt P w K mg base) (F : FnI K mg "is_name" ["value"] (top 14)) (Dis_letters : Df P w K mg base 1 3 "is_letters" fis_letters) : Df P w K mg base 2 1 "is_name" fis_name := by
  obtain ⟨f, fd, F, hm, hk, hb⟩ := F
  exact ⟨⟨f, fd, ["value"], rfl, gfis_name T F Dis_letters, hm, hk, hb⟩, rfl⟩

/-- is_lot: slots value, before -/
def mis_lot : M Fl := (mSeq (mIfS (mOr (mNot (mT (mFn fis_tuple_of [(mN 0), (mC (.int 4))]))) (mOr (mNot (mT (mFn fis_name [(mOp gIdx (mN 0) (mC (.int 0)))]))) (mNot (mT (mFn fis_number [(mOp gIdx (mN 0) (mC (.int 1))), (mC (.int 1)), (mC (.int 999))]))))) (mRet (mC (.bl false))) (M.pure .nx))
  (mSeq (mIfS (mOr (mNot (mT (mFn fis_number [(mOp gIdx (mN 0) (mC (.int 2))), (mC (.int 0)), (mC (.int 99))]))) (mNot (mT (mFn fis_number [(mOp gIdx (mN 0) (mC (.int 3))), (mOp gIdx (mN 0) (mC (.int 2))), (mC (.int 99))])))) (mRet (mC (.bl false))) (M.pure .nx))
  (mRet (mOrV (mOp gEq2 (mN 1) (mTup [])) (mOp gLess2 (mOp gIdx (mOp gIdx (mN 1) (mUn gNeg (mC (.int 1)))) (mC (.int 0))) (mOp gIdx (mN 0) (mC (.int 0))))))))
def fis_lot : Fs := ⟨[.fz, .fz], runB [.fz, .fz] 0 mis_lot⟩
theorem scis_lot : FnScope ["value", "before"] ["value", "before"] (defScope (top 21)) := ⟨rfl, rfl, rfl, by decide +kernel, rfl, by decide +kernel, by decide +kernel⟩
theorem gfis_lot (T : Txt P w K mg base) {f : Addr} {fd : FuncData} (F : Fun K "is_lot" "is_lot" (top 21) f fd) (Dis_tuple_of : Df P w K mg base 1 2 "is_tuple_of" fis_tuple_of) (Dis_name : Df P w K mg base 2 1 "is_name" fis_name) (Dis_number : Df P w K mg base 2 3 "is_number" fis_number) : FnG P w K mg base 3 f fd ["value", "before"] (spOf K mg 2 fis_lot) := by
  have sc := scis_lot
  exact fn_data (m := mis_lot) F sc rfl 0 rfl (fun _ _ _ h => h) (fun cdv A outer s H E bd =>
    (db_cons (ds_if (dt_w (dw_or (dt_not (d_val (d_fn Dis_tuple_of (bd.mono (by decide : 1 ≤ 2)) rfl (da_cons (dn (pv 0)) (da_cons dc_int da_nil))))) (dw_or (dt_not (d_val (d_fn Dis_name (bd.mono (by decide : 2 ≤ 2)) rfl (da_cons (d_ix (dn (pv 0)) dc_int (fun _ _ => rfl)) da_nil)))) (dw_or1 (dt_not (d_val (d_fn Dis_number (bd.mono (by decide : 2 ≤ 2)) rfl (da_cons (d_ix (dn (pv 0)) dc_int (fun _ _ => rfl)) (da_cons dc_int (da_cons (d_conI (T.ci "MOST_UNITS" 999 (by decide +kernel)) rfl) da_nil)))))))))) (db_one (ds_ret dc_bl)) db_nil)
    (db_cons (ds_if (dt_w (dw_or (dt_not (d_val (d_fn Dis_number (bd.mono (by decide : 2 ≤ 2)) rfl (da_cons (d_ix (dn (pv 0)) dc_int (fun _ _ => rfl)) (da_cons dc_int (da_cons (d_conI (T.ci "MOST_TICK" 99 (by decide +kernel)) rfl) da_nil)))))) (dw_or1 (dt_not (d_val (d_fn Dis_number (bd.mono (by decide : 2 ≤ 2)) rfl (da_cons (d_ix (dn (pv 0)) dc_int (fun _ _ => rfl)) (da_cons (d_ix (dn (pv 0)) dc_int (fun _ _ => rfl)) (da_cons (d_conI (T.ci "MOST_TICK" 99 (by decide +kernel)) rfl) da_nil))))))))) (db_one (ds_ret dc_bl)) db_nil)
    (db_one (ds_ret (dv_or (dv_eq2 bd (dn (pv 1)) (d_tup da_nil)) (dv_one (dv_lt2 bd (d_ix (d_ix (dn (pv 1)) (d_neg dc_int) (fun _ _ => rfl)) dc_int (fun _ _ => rfl)) (d_ix (dn (pv 0)) dc_int (fun _ _ => rfl))))))))))
theorem dfis_lot (T : Txt P w K mg base) (F : FnI K mg "is_lot" ["value", "before"] (top 21)) (Dis_tuple_of : Df P w K mg base 1 2 "is_tuple_of" fis_tuple_of) (Dis_name : Df P w K mg base 2 1 "is_name" fis_name) (Dis_number : Df P w K mg base 2 3 "is_number" fis_number) : Df P w K mg base 3 2 "is_lot" fis_lot := by
  obtain ⟨f, fd, F, hm, hk, hb⟩ := F
  exact ⟨⟨f, fd, ["value", "before"], rfl, gfis_lot T F Dis_tuple_of Dis_name Dis_number, hm, hk, hb⟩, rfl⟩

/-- is_use: slots value, before, use -/
def mis_use : M Fl := (mSeq (mIfS (mOr (mNot (mT (mFn fis_tuple_of [(mN 0), (mC (.int 3))]))) (mOr (mNot (mT (mFn fis_name [(mOp gIdx (mN 0) (mC (.int 0)))]))) (mNot (mT (mFn fis_number [(mOp gIdx (mN 0) (mC (.int 1))), (mC (.int 0)), (mC (.int 99))]))))) (mRet (mC (.bl false))) (M.pure .nx))
  (mSeq (mIfS (mOr (mNot (mT (mFn fis_number [(mOp gIdx (mN 0) (mC (.int 2))), (mC (.int 1)), (mC (.int 999))]))) (mTC gIn2 (mOp gIdx (mN 0) (mC (.int 0))) (mLC [2] (mItems (mN 1)) (gN 2) (M.pure true) (mOp gIdx (mN 2) (mC (.int 0)))))) (mRet (mC (.bl false))) (M.pure .nx))
  (mRet (mOrV (mOp gEq2 (mN 1) (mTup [])) (mOp gLe (mOp gIdx (mOp gIdx (mN 1) (mUn gNeg (mC (.int 1)))) (mC (.int 1))) (mOp gIdx (mN 0) (mC (.int 1))))))))
def fis_use : Fs := ⟨[.fz, .fz], runB [.fz, .fz] 1 mis_use⟩
theorem scis_use : FnScope ["value", "before", "use"] ["value", "before"] (defScope (top 22)) := ⟨rfl, rfl, rfl, by decide +kernel, rfl, by decide +kernel, by decide +kernel⟩
theorem gfis_use (T : Txt P w K mg base) {f : Addr} {fd : FuncData} (F : Fun K "is_use" "is_use" (top 22) f fd) (Dis_tuple_of : Df P w K mg base 1 2 "is_tuple_of" fis_tuple_of) (Dis_name : Df P w K mg base 2 1 "is_name" fis_name) (Dis_number : Df P w K mg base 2 3 "is_number" fis_number) : FnG P w K mg base 3 f fd ["value", "before"] (spOf K mg 2 fis_use) := by
  have sc := scis_use
  exact fn_data (m := mis_use) F sc rfl 1 rfl (fun _ _ _ h => h) (fun cdv A outer s H E bd =>
    (db_cons (ds_if (dt_w (dw_or (dt_not (d_val (d_fn Dis_tuple_of (bd.mono (by decide : 1 ≤ 2)) rfl (da_cons (dn (pv 0)) (da_cons dc_int da_nil))))) (dw_or (dt_not (d_val (d_fn Dis_name (bd.mono (by decide : 2 ≤ 2)) rfl (da_cons (d_ix (dn (pv 0)) dc_int (fun _ _ => rfl)) da_nil)))) (dw_or1 (dt_not (d_val (d_fn Dis_number (bd.mono (by decide : 2 ≤ 2)) rfl (da_cons (d_ix (dn (pv 0)) dc_int (fun _ _ => rfl)) (da_cons dc_int (da_cons (d_conI (T.ci "MOST_TICK" 99 (by decide +kernel)) rfl) da_nil)))))))))) (db_one (ds_ret dc_bl)) db_nil)
    (db_cons (ds_if (dt_w (dw_or (dt_not (d_val (d_fn Dis_number (bd.mono (by decide : 2 ≤ 2)) rfl (da_cons (d_ix (dn (pv 0)) dc_int (fun _ _ => rfl)) (da_cons dc_int (da_cons (d_conI (T.ci "MOST_UNITS" 999 (by decide +kernel)) rfl) da_nil)))))) (dw_or1 (dt_in2 (d_ix (dn (pv 0)) dc_int (fun _ _ => rfl)) (d_lc (own := [("use", 2)]) bd.calm sc.nd (di_seq (dn (pv 1))) (blkOk_by (by first | rfl | kernel_rfl)) (fun s2 H2 C2 cl2 fp2 => (dgc_name sc.nd rfl (Or.inl rfl))) (fun s2 H2 C2 cl2 fp2 => (d_ix (dn (pv 2)) dc_int (fun _ _ => rfl)))))))) (db_one (ds_ret dc_bl)) db_nil)
    (db_one (ds_ret (dv_or (dv_eq2 bd (dn (pv 1)) (d_tup da_nil)) (dv_one (dv_le (d_ix (d_ix (dn (pv 1)) (d_neg dc_int) (fun _ _ => rfl)) dc_int (fun _ _ => rfl)) (d_ix (dn (pv 0)) dc_int (fun _ _ => rfl))))))))))
theorem dfis_use (T : Txt P w K mg base) (F : FnI K mg "is_use" ["value", "before"] (top 22)) (Dis_tuple_of : Df P w K mg base 1 2 "is_tuple_of" fis_tuple_of) (Dis_name : Df P w K mg base 2 1 "is_name" fis_name) (Dis_number : Df P w K mg base 2 3 "is_number" fis_number) : Df P w K mg base 3 2 "is_use" fis_use := by
  obtain ⟨f, fd, F, hm, hk, hb⟩ := F
  exact ⟨⟨f, fd, ["value", "before"], rfl, gfis_use T F Dis_tuple_of Dis_name Dis_number, hm, hk, hb⟩, rfl⟩

/-- is_count: slots value, before -/
def mis_count : M Fl := (mSeq (mIfS (mOr (mNot (mT (mFn fis_tuple_of [(mN 0), (mC (.int 3))]))) (mOr (mNot (mT (mFn fis_number [(mOp gIdx (mN 0) (mC (.int 0))), (mC (.int 0)), (mC (.int 99))]))) (mNot (mT (mFn fis_name [(mOp gIdx (mN 0) (mC (.int 1)))]))))) (mRet (mC (.bl false))) (M.pure .nx))
  (mRet (mAndV (mFn fis_number [(mOp gIdx (mN 0) (mC (.int 2))), (mC (.int 0)), (mC (.int 999))]) (mOrV (mOp gEq2 (mN 1) (mTup [])) (mOp gLess2 (mOp gIdx (mN 1) (mUn gNeg (mC (.int 1)))) (mN 0))))))
def fis_count : Fs := ⟨[.fz, .fz], runB [.fz, .fz] 0 mis_count⟩
theorem scis_count : FnScope ["value", "before"] ["value", "before"] (defScope (top 23)) := ⟨rfl, rfl, rfl, by decide +kernel, rfl, by decide +kernel, by decide +kernel⟩
theorem gfis_count (T : Txt P w K mg base) {f : Addr} {fd : FuncData} (F : Fun K "is_count" "is_count" (top 23) f fd) (Dis_number : Df P w K mg base 2 3 "is_number" fis_number) (Dis_tuple_of : Df P w K mg base 1 2 "is_tuple_of" fis_tuple_of) (Dis_name : Df P w K mg base 2 1 "is_name" fis_name) : FnG P w K mg base 3 f fd ["value", "before"] (spOf K mg 2 fis_count) := by
  have sc := scis_count
  exact fn_data (m := mis_count) F sc rfl 0 rfl (fun _ _ _ h => h) (fun cdv A outer s H E bd =>
    (db_cons (ds_if (dt_w (dw_or (dt_not (d_val (d_fn Dis_tuple_of (bd.mono (by decide : 1 ≤ 2)) rfl (da_cons (dn (pv 0)) (da_cons dc_int da_nil))))) (dw_or (dt_not (d_val (d_fn Dis_number (bd.mono (by decide : 2 ≤ 2)) rfl (da_cons (d_ix (dn (pv 0)) dc_int (fun _ _ => rfl)) (da_cons dc_int (da_cons (d_conI (T.ci "MOST_TICK" 99 (by decide +kernel)) rfl) da_nil)))))) (dw_or1 (dt_not (d_val (d_fn Dis_name (bd.mono (by decide : 2 ≤ 2)) rfl (da_cons (d_ix (dn (pv 0)) dc_int (fun _ _ => rfl)) da_nil)))))))) (db_one (ds_ret dc_bl)) db_nil)
    (db_one (ds_ret (dv_and (d_fn Dis_number (bd.mono (by decide : 2 ≤ 2)) rfl (da_cons (d_ix (dn (pv 0)) dc_int (fun _ _ => rfl)) (da_cons dc_int (da_cons (d_conI (T.ci "MOST_UNITS" 999 (by decide +kernel)) rfl) da_nil)))) (dv_one (dv_or (dv_eq2 bd (dn (pv 1)) (d_tup da_nil)) (dv_one (dv_lt2 bd (d_ix (dn (pv 1)) (d_neg dc_int) (fun _ _ => rfl)) (dn (pv 0)))))))))))
theorem dfis_count (T : Txt P w K mg base) (F : FnI K mg "is_count" ["value", "before"] (top 23)) (Dis_number : Df P w K mg base 2 3 "is_number" fis_number) (Dis_tuple_of : Df P w K mg base 1 2 "is_tuple_of" fis_tuple_of) (Dis_name : Df P w K mg base 2 1 "is_name" fis_name) : Df P w K mg base 3 2 "is_count" fis_count := by
  obtain ⟨f, fd, F, hm, hk, hb⟩ := F
  exact ⟨⟨f, fd, ["value", "before"], rfl, gfis_count T F Dis_number Dis_tuple_of Dis_name, hm, hk, hb⟩, rfl⟩

def tab_wrong_at : List (Str × Fs) := [("is_lot", fis_lot), ("is_use", fis_use), ("is_count", fis_count)]

/-- wrong_at: slots values, most, is_right, at, value -/
def mwrong_at : M Fl := (mSeq (mIfS (mNot (mT (mCall gIsP [(mN 0), (mC (.ty "tuple"))]))) (mRet (mLst [(mC .non)])) (M.pure .nx))
  (mSeq (mFor (mEnumT (mN 0)) (gT 2 (gCons' (gN 3) (gCons' (gN 4) gNil'))) (mIfS (mOr (mTC gEq2 (mN 3) (mN 1)) (mNot (mT (mFnL 2 tab_wrong_at [(mN 4), (mSl (mN 0) none (some (mN 3)))])))) (mRet (mLst [(mN 3)])) (M.pure .nx)))
  (mRet (mLst []))))
def fwrong_at : Fs := ⟨[.fz, .fz, .fz], runB [.fz, .fz, .fz] 2 mwrong_at⟩
theorem scwrong_at : FnScope ["values", "most", "is_right", "at", "value"] ["values", "most", "is_right"] (defScope (top 12)) := ⟨rfl, rfl, rfl, by decide +kernel, rfl, by decide +kernel, by decide +kernel⟩
theorem gfwrong_at (T : Txt P w K mg base) {f : Addr} {fd : FuncData} (F : Fun K "wrong_at" "wrong_at" (top 12) f fd)  (DT : ∀ y fs, tabF tab_wrong_at y = some fs → Df P w K mg base 3 2 y fs) : FnG P w K mg base 4 f fd ["values", "most", "is_right"] (spOf K mg 3 fwrong_at) := by
  have sc := scwrong_at
  exact fn_data (m := mwrong_at) F sc rfl 2 rfl (fun _ _ _ h => h) (fun cdv A outer s H E bd =>
    (db_cons (ds_if (dt_not (d_val (d_cb call_isi cs_isP rfl (T.nb "isinstance" (by decide +kernel)) (by first | rfl | decide +kernel) (da_cons (dn (pv 0)) (da_cons (d_ty rfl (T.nb "tuple" (by decide +kernel)) (by first | rfl | decide +kernel)) da_nil))))) (db_one (ds_ret (d_lst (da_cons dc_non da_nil)))) db_nil)
    (db_cons (ds_for bd.own bd.calm (di_enumT rfl (T.nb "enumerate" (by decide +kernel)) (dn (pv 0))) (dg_tup bd.calm (dgs_cons (dg_name sc.nd rfl (Or.inl rfl)) (dgs_cons (dg_name sc.nd rfl (Or.inl rfl)) dgs_nil))) (db_one (ds_if (dt_w (dw_or (dt_eq2 bd (dn (pv 3)) (dn (pv 1))) (dw_or1 (dt_not (d_val (d_fnL DT (bd.mono (by decide : 3 ≤ 3)) (pv 2) (da_cons (dn (pv 4)) (da_cons (d_sl (dn (pv 0)) dp_none (dp_some (dn (pv 3)))) da_nil)))))))) (db_one (ds_ret (d_lst (da_cons (dn (pv 3)) da_nil)))) db_nil)))
    (db_one (ds_ret (d_lst da_nil))))))
theorem dfwrong_at (T : Txt P w K mg base) (F : FnI K mg "wrong_at" ["values", "most", "is_right"] (top 12))  (DT : ∀ y fs, tabF tab_wrong_at y = some fs → Df P w K mg base 3 2 y fs) : Df P w K mg base 4 3 "wrong_at" fwrong_at := by
  obtain ⟨f, fd, F, hm, hk, hb⟩ := F
  exact ⟨⟨f, fd, ["values", "most", "is_right"], rfl, gfwrong_at T F  DT, hm, hk, hb⟩, rfl⟩

/-- check_lots: slots value, index -/
def mcheck_lots : M Fl := (mFor (mItems (mFn fwrong_at [(mN 0), (mC (.int 10)), (mC (.glob "is_lot"))])) (gN 1) (fun _ => none))
def fcheck_lots : Fs := ⟨[.fz], runB [.fz] 1 mcheck_lots⟩
theorem sccheck_lots : FnScope ["value", "index"] ["value"] (defScope (top 24)) := ⟨rfl, rfl, rfl, by decide +kernel, rfl, by decide +kernel, by decide +kernel⟩
theorem gfcheck_lots (T : Txt P w K mg base) {f : Addr} {fd : FuncData} (F : Fun K "check_lots" "check_lots" (top 24) f fd) (Dwrong_at : Df P w K mg base 4 3 "wrong_at" fwrong_at) (Dis_lot : Df P w K mg base 3 2 "is_lot" fis_lot) : FnG P w K mg base 5 f fd ["value"] (spOf K mg 1 fcheck_lots) := by
  have sc := sccheck_lots
  exact fn_data (m := mcheck_lots) F sc rfl 1 rfl (fun _ _ _ h => h) (fun cdv A outer s H E bd =>
    (db_one (ds_for bd.own bd.calm (di_seq (d_fn Dwrong_at (bd.mono (by decide : 4 ≤ 4)) rfl (da_cons (dn (pv 0)) (da_cons (d_conI (T.ci "MOST_LOTS" 10 (by decide +kernel)) rfl) (da_cons (d_fnv Dis_lot rfl) da_nil))))) (dg_name sc.nd rfl (Or.inl rfl)) (db_one ds_never))))
theorem dfcheck_lots (T : Txt P w K mg base) (F : FnI K mg "check_lots" ["value"] (top 24)) (Dwrong_at : Df P w K mg base 4 3 "wrong_at" fwrong_at) (Dis_lot : Df P w K mg base 3 2 "is_lot" fis_lot) : Df P w K mg base 5 1 "check_lots" fcheck_lots := by
  obtain ⟨f, fd, F, hm, hk, hb⟩ := F
  exact ⟨⟨f, fd, ["value"], rfl, gfcheck_lots T F Dwrong_at Dis_lot, hm, hk, hb⟩, rfl⟩

/-- check_uses: slots value, index -/
def mcheck_uses : M Fl := (mFor (mItems (mFn fwrong_at [(mN 0), (mC (.int 24)), (mC (.glob "is_use"))])) (gN 1) (fun _ => none))
def fcheck_uses : Fs := ⟨[.fz], runB [.fz] 1 mcheck_uses⟩
theorem sccheck_uses : FnScope ["value", "index"] ["value"] (defScope (top 25)) := ⟨rfl, rfl, rfl, by decide +kernel, rfl, by decide +kernel, by decide +kernel⟩
theorem gfcheck_uses (T : Txt P w K mg base) {f : Addr} {fd : FuncData} (F : Fun K "check_uses" "check_uses" (top 25) f fd) (Dwrong_at : Df P w K mg base 4 3 "wrong_at" fwrong_at) (Dis_use : Df P w K mg base 3 2 "is_use" fis_use) : FnG P w K mg base 5 f fd ["value"] (spOf K mg 1 fcheck_uses) := by
  have sc := sccheck_uses
  exact fn_data (m := mcheck_uses) F sc rfl 1 rfl (fun _ _ _ h => h) (fun cdv A outer s H E bd =>
    (db_one (ds_for bd.own bd.calm (di_seq (d_fn Dwrong_at (bd.mono (by decide : 4 ≤ 4)) rfl (da_cons (dn (pv 0)) (da_cons (d_conI (T.ci "MOST_USES" 24 (by decide +kernel)) rfl) (da_cons (d_fnv Dis_use rfl) da_nil))))) (dg_name sc.nd rfl (Or.inl rfl)) (db_one ds_never))))
theorem dfcheck_uses (T : Txt P w K mg base) (F : FnI K mg "check_uses" ["value"] (top 25)) (Dwrong_at : Df P w K mg base 4 3 "wrong_at" fwrong_at) (Dis_use : Df P w K mg base 3 2 "is_use" fis_use) : Df P w K mg base 5 1 "check_uses" fcheck_uses := by
  obtain ⟨f, fd, F, hm, hk, hb⟩ := F
  exact ⟨⟨f, fd, ["value"], rfl, gfcheck_uses T F Dwrong_at Dis_use, hm, hk, hb⟩, rfl⟩

/-- check_counts: slots lots, value, wrong, lot, names, at, count, strange, index -/
def mcheck_counts : M Fl := (mSeq (mSet 2 (mFn fwrong_at [(mN 1), (mC (.int 16)), (mC (.glob "is_count"))]))
  (mSeq (mSet 4 (mLC [3] (mItems (mN 0)) (gN 3) (M.pure true) (mOp gIdx (mN 3) (mC (.int 0)))))
  (mSeq (mIfS (mTC gNe2 (mN 2) (mLst [(mC .non)])) (mSeq (mSet 7 (mLC [5, 6] (mEnumT (mIf (mTC gNe2 (mN 2) (mLst [])) (mSl (mN 1) none (some (mOp gIdx (mN 2) (mC (.int 0))))) (mN 1))) (gT 2 (gCons' (gN 5) (gCons' (gN 6) gNil'))) (mTC gNotIn (mOp gIdx (mN 6) (mC (.int 1))) (mN 4)) (mN 5)))
  (mSet 2 (mOp gPlus (mSl (mN 7) none (some (mC (.int 1)))) (mN 2)))) (M.pure .nx))
  (mFor (mItems (mN 2)) (gN 8) (fun _ => none)))))
def fcheck_counts : Fs := ⟨[.fz, .fz], runB [.fz, .fz] 7 mcheck_counts⟩
theorem sccheck_counts : FnScope ["lots", "value", "wrong", "lot", "names", "at", "count", "strange", "index"] ["lots", "value"] (defScope (top 26)) := ⟨rfl, rfl, rfl, by decide +kernel, rfl, by decide +kernel, by decide +kernel⟩
theorem gfcheck_counts (T : Txt P w K mg base) {f : Addr} {fd : FuncData} (F : Fun K "check_counts" "check_counts" (top 26) f fd) (Dwrong_at : Df P w K mg base 4 3 "wrong_at" fwrong_at) (Dis_count : Df P w K mg base 3 2 "is_count" fis_count) : FnG P w K mg base 5 f fd ["lots", "value"] (spOf K mg 2 fcheck_counts) := by
  have sc := sccheck_counts
  exact fn_data (m := mcheck_counts) F sc rfl 7 rfl (fun _ _ _ h => h) (fun cdv A outer s H E bd =>
    (db_cons (ds_set (i := 2) sc.nd rfl (Or.inl rfl) (d_fn Dwrong_at (bd.mono (by decide : 4 ≤ 4)) rfl (da_cons (dn (pv 1)) (da_cons (d_conI (T.ci "MOST_COUNTS" 16 (by decide +kernel)) rfl) (da_cons (d_fnv Dis_count rfl) da_nil)))))
    (db_cons (ds_set (i := 4) sc.nd rfl (Or.inr rfl) (d_lc (own := [("lot", 3)]) bd.calm sc.nd (di_seq (dn (pv 0))) (blkOk_by (by first | rfl | kernel_rfl)) (fun s2 H2 C2 cl2 fp2 => (dgc_name sc.nd rfl (Or.inl rfl))) (fun s2 H2 C2 cl2 fp2 => (d_ix (dn (pv 3)) dc_int (fun _ _ => rfl)))))
    (db_cons (ds_if (dt_ne2 bd (dn (pv 2)) (d_lst (da_cons dc_non da_nil))) (db_cons (ds_setLcIf (own := [("at", 5), ("count", 6)]) (i := 7) bd.calm sc.nd rfl rfl (sw_true rfl rfl rfl (by decide +kernel)) (di_enumT rfl (T.nb "enumerate" (by decide +kernel)) (d_ifExp (dt_ne2 bd (dn (pv 2)) (d_lst da_nil)) (d_sl (dn (pv 1)) dp_none (dp_some (d_ix (dn (pv 2)) dc_int (fun _ _ => rfl)))) (dn (pv 1)))) (blkOk_by (by first | rfl | kernel_rfl)) (fun s2 H2 C2 cl2 fp2 => (dgc_tup bd.calm (dgcs_cons (dgc_name sc.nd rfl (Or.inl rfl)) (dgcs_cons (dgc_name sc.nd rfl (Or.inl rfl)) dgcs_nil)))) (fun s2 H2 C2 cl2 fp2 => (dt_notIn (d_ix (dn (pv 6)) dc_int (fun _ _ => rfl)) (dn (pv 4)))) (fun s2 H2 C2 cl2 fp2 => (dn (pv 5))))
    (db_one (ds_set (i := 2) sc.nd rfl (Or.inl rfl) (d_plus (d_sl (dn (pv 7)) dp_none (dp_some dc_int)) (dn (pv 2)))))) db_nil)
    (db_one (ds_for bd.own bd.calm (di_seq (dn (pv 2))) (dg_name sc.nd rfl (Or.inl rfl)) (db_one ds_never)))))))
theorem dfcheck_counts (T : Txt P w K mg base) (F : FnI K mg "check_counts" ["lots", "value"] (top 26)) (Dwrong_at : Df P w K mg base 4 3 "wrong_at" fwrong_at) (Dis_count : Df P w K mg base 3 2 "is_count" fis_count) : Df P w K mg base 5 2 "check_counts" fcheck_counts := by
  obtain ⟨f, fd, F, hm, hk, hb⟩ := F
  exact ⟨⟨f, fd, ["lots", "value"], rfl, gfcheck_counts T F Dwrong_at Dis_count, hm, hk, hb⟩, rfl⟩

/-- Record.__init__ -/
def ms__init__ : List (M R) := [(mFn fcheck_lots [(mN 1)]), (mFn fcheck_uses [(mN 2)]), (mFn fcheck_counts [(mN 1), (mN 3)])]
def mv__init__ : M R := (mTup [(mN 1), (mN 2), (mN 3)])
def m__init__ : M R := mIni ms__init__ mv__init__
abbrev KR : Nat := 6
theorem sc__init__ : FnScope ["self", "lots", "uses", "counts"] ["self", "lots", "uses", "counts"] (defScope (mth 0)) := ⟨rfl, rfl, rfl, by decide +kernel, rfl, by decide +kernel, by decide +kernel⟩
theorem gf__init__ (T : Txt P w K mg base) {C fI : Addr} {fd : FuncData} {dvs : List V} {kws : List (Str × V)} (hC : mg "Record" = some (.ref C)) (F : FunD K "__init__" "Record.__init__" (defArgs (mth 0)) (defBody (mth 0)) (defScope (mth 0)) dvs kws fI fd) (Dcheck_lots : Df P w K mg base 5 1 "check_lots" fcheck_lots) (Dcheck_uses : Df P w K mg base 5 1 "check_uses" fcheck_uses) (Dcheck_counts : Df P w K mg base 5 2 "check_counts" fcheck_counts) : FnG P w K mg base KR fI fd ["self", "lots", "uses", "counts"] (spNew K mg C "told" 3 m__init__) := by
  have sc := sc__init__
  exact fn_init (n := 3) F sc rfl (T.fld C hC).1 (T.fld C hC).2 (fun cdv A outer s H E bd =>
    (pi_cons (d_fn Dcheck_lots (bd.mono (by decide : 5 ≤ 5)) rfl (da_cons (dn (pv 1)) da_nil))
    (pi_cons (d_fn Dcheck_uses (bd.mono (by decide : 5 ≤ 5)) rfl (da_cons (dn (pv 2)) da_nil))
    (pi_cons (d_fn Dcheck_counts (bd.mono (by decide : 5 ≤ 5)) rfl (da_cons (dn (pv 1)) (da_cons (dn (pv 3)) da_nil)))
    (pi_end (pv 0) (d_tup (da_cons (dn (pv 1)) (da_cons (dn (pv 2)) (da_cons (dn (pv 3)) da_nil)))))))))

/-- the class as a caller knows it -/
structure RecOk (P : Program) (w : World) (K : PySem.W.Frag) (mg : Str → Option Value) (base : Heap) : Prop where
  ex : ∃ (fd : FuncData) (ps : List Str), NewC P w K mg base KR "Record" "told" 3 m__init__ fd ps ∧ Binds K fd ps []
end
section
variable {X : Cx} {E : XK} {e a b : Expr} {es : List Expr} {kws : List Keyword} {p pos kp : Pos} {m ma mb : M R} {ml : List (M R)} {k n : Nat}
theorem d_rec3 (D : RecOk X.prog X.w X.K X.mg X.base) (bd : Bd X (KR + 1) E) (hg : Gl X "Record") (ha : DA X E (e :: es) ml) (he : starEach (e :: es) X.env = (false, eval e X.env) :: starEach es X.env := by rfl) (hpl : (backTo pos (starEach es X.env)).any (·.1) = false := by rfl) :
    DE X E (.Call (.Name "Record" p) (e :: es) [] pos) (mNew "Record" "told" 3 m__init__ (fun ds => ds ++ []) ml) := by
  obtain ⟨fd, ps, N, b3⟩ := D.ex
  exact d_newP N bd hg b3 .nil (fun _ => .nil) ha (by decide) he hpl
end
section
variable {P : Program} {w : World} {K : PySem.W.Frag} {mg : Str → Option Value} {base : Heap}

/-- check_record: slots value -/
def mcheck_record : M Fl := (mIfS (mNot (mT (mCall (gIsI "Record") [(mN 0), (mC (.glob "Record"))]))) (fun _ => none) (M.pure .nx))
def fcheck_record : Fs := ⟨[.fz], runB [.fz] 0 mcheck_record⟩
theorem sccheck_record : FnScope ["value"] ["value"] (defScope (top 28)) := ⟨rfl, rfl, rfl, by decide +kernel, rfl, by decide +kernel, by decide +kernel⟩
theorem gfcheck_record (T : Txt P w K mg base) {f : Addr} {fd : FuncData} (F : Fun K "check_record" "check_record" (top 28) f fd)  : FnG P w K mg base 1 f fd ["value"] (spOf K mg 1 fcheck_record) := by
  have sc := sccheck_record
  exact fn_data (m := mcheck_record) F sc rfl 0 rfl (fun _ _ _ h => h) (fun cdv A outer s H E bd =>
    (db_one (ds_if (dt_not (d_val (d_cb call_isi (cs_isI T.ins) rfl (T.nb "isinstance" (by decide +kernel)) (by first | rfl | decide +kernel) (da_cons (dn (pv 0)) (da_cons (d_globX T.gl rfl) da_nil))))) (db_one ds_never) db_nil)))
theorem dfcheck_record (T : Txt P w K mg base) (F : FnI K mg "check_record" ["value"] (top 28))  : Df P w K mg base 1 1 "check_record" fcheck_record := by
  obtain ⟨f, fd, F, hm, hk, hb⟩ := F
  exact ⟨⟨f, fd, ["value"], rfl, gfcheck_record T F , hm, hk, hb⟩, rfl⟩

/-- are_units: slots record, use, row, units, lot -/
def mare_units : M Fl := (mSeq (mIfS (mOr (mNot (mT (mFn fis_tuple_of [(mN 2), (mCall gLen [(mUn (gPrp "Record" "told" (some 0)) (mN 0))])]))) (mNot (mT (mCall gAll [(mLC [3] (mItems (mN 2)) (gN 3) (M.pure true) (mFn fis_number [(mN 3), (mC (.int 0)), (mC .non)]))])))) (mRet (mC (.bl false))) (M.pure .nx))
  (mSeq (mIfS (mTC gNe2 (mCall gSum2 [(mN 2)]) (mOp gIdx (mN 1) (mC (.int 2)))) (mRet (mC (.bl false))) (M.pure .nx))
  (mRet (mCall gAll [(mLC [3, 4] (mZip (mN 2) (mUn (gPrp "Record" "told" (some 0)) (mN 0))) (gT 2 (gCons' (gN 3) (gCons' (gN 4) gNil'))) (M.pure true) (mOrV (mOp gEq2 (mN 3) (mC (.int 0))) (mChain gLe gLe (mOp gIdx (mN 4) (mC (.int 2))) (mOp gIdx (mN 1) (mC (.int 1))) (mOp gIdx (mN 4) (mC (.int 3))))))]))))
def fare_units : Fs := ⟨[.fz, .fz, .fz], runB [.fz, .fz, .fz] 2 mare_units⟩
theorem scare_units : FnScope ["record", "use", "row", "units", "lot"] ["record", "use", "row"] (defScope (top 30)) := ⟨rfl, rfl, rfl, by decide +kernel, rfl, by decide +kernel, by decide +kernel⟩
theorem gfare_units (T : Txt P w K mg base) {f : Addr} {fd : FuncData} (F : Fun K "are_units" "are_units" (top 30) f fd) (Dis_tuple_of : Df P w K mg base 1 2 "is_tuple_of" fis_tuple_of) (Dis_number : Df P w K mg base 2 3 "is_number" fis_number) : FnG P w K mg base 3 f fd ["record", "use", "row"] (spOf K mg 3 fare_units) := by
  have sc := scare_units
  exact fn_data (m := mare_units) F sc rfl 2 rfl (fun _ _ _ h => h) (fun cdv A outer s H E bd =>
    (db_cons (ds_if (dt_w (dw_or (dt_not (d_val (d_fn Dis_tuple_of (bd.mono (by decide : 1 ≤ 2)) rfl (da_cons (dn (pv 2)) (da_cons (d_cb call_len cs_len rfl (T.nb "len" (by decide +kernel)) (by first | rfl | decide +kernel) (da_cons (d_prp T.p_lots bd (by decide) (dn (pv 0)) rfl) da_nil)) da_nil))))) (dw_or1 (dt_not (d_val (d_cb (cr_all bd.calm) cs_all rfl (T.nb "all" (by decide +kernel)) (by first | rfl | decide +kernel) (da_cons (d_lc (own := [("units", 3)]) bd.calm sc.nd (di_seq (dn (pv 2))) (blkOk_by (by first | rfl | kernel_rfl)) (fun s2 H2 C2 cl2 fp2 => (dgc_name sc.nd rfl (Or.inl rfl))) (fun s2 H2 C2 cl2 fp2 => (d_fn Dis_number ((bd.blk s2 H2 C2 cl2 fp2).mono (by decide : 2 ≤ 2)) rfl (da_cons (dn (pv 3)) (da_cons dc_int (da_cons dc_non da_nil)))))) da_nil))))))) (db_one (ds_ret dc_bl)) db_nil)
    (db_cons (ds_if (dt_ne2 bd (d_cb ((cr_sum bd.calm).or (cr_sumT bd.calm)) (cs_or cs_sum cs_sumT) rfl (T.nb "sum" (by decide +kernel)) (by first | rfl | decide +kernel) (da_cons (dn (pv 2)) da_nil)) (d_ix (dn (pv 1)) dc_int (fun _ _ => rfl))) (db_one (ds_ret dc_bl)) db_nil)
    (db_one (ds_ret (d_cb (cr_all bd.calm) cs_all rfl (T.nb "all" (by decide +kernel)) (by first | rfl | decide +kernel) (da_cons (d_lc (own := [("units", 3), ("lot", 4)]) bd.calm sc.nd (di_zip rfl (T.nb "zip" (by decide +kernel)) (dn (pv 2)) (d_prp T.p_lots bd (by decide) (dn (pv 0)) rfl)) (blkOk_by (by first | rfl | kernel_rfl)) (fun s2 H2 C2 cl2 fp2 => (dgc_tup bd.calm (dgcs_cons (dgc_name sc.nd rfl (Or.inl rfl)) (dgcs_cons (dgc_name sc.nd rfl (Or.inl rfl)) dgcs_nil)))) (fun s2 H2 C2 cl2 fp2 => (dv_or (dv_eq2 (bd.blk s2 H2 C2 cl2 fp2) (dn (pv 3)) dc_int) (dv_one (d_leLe (d_ix (dn (pv 4)) dc_int (fun _ _ => rfl)) (d_ix (dn (pv 1)) dc_int (fun _ _ => rfl)) (d_ix (dn (pv 4)) dc_int (fun _ _ => rfl))))))) da_nil)))))))
theorem dfare_units (T : Txt P w K mg base) (F : FnI K mg "are_units" ["record", "use", "row"] (top 30)) (Dis_tuple_of : Df P w K mg base 1 2 "is_tuple_of" fis_tuple_of) (Dis_number : Df P w K mg base 2 3 "is_number" fis_number) : Df P w K mg base 3 3 "are_units" fare_units := by
  obtain ⟨f, fd, F, hm, hk, hb⟩ := F
  exact ⟨⟨f, fd, ["record", "use", "row"], rfl, gfare_units T F Dis_tuple_of Dis_number, hm, hk, hb⟩, rfl⟩

/-- used_up_to: slots record, value, at, tick, row, use -/
def mused_up_to : M Fl := (mRet (mCall gSum [(mLC [4, 5] (mZip (mN 1) (mUn (gPrp "Record" "told" (some 1)) (mN 0))) (gT 2 (gCons' (gN 4) (gCons' (gN 5) gNil'))) (mTC gLe (mOp gIdx (mN 5) (mC (.int 1))) (mN 3)) (mOp gIdx (mN 4) (mN 2)))]))
def fused_up_to : Fs := ⟨[.fz, .fz, .fz, .fz], runB [.fz, .fz, .fz, .fz] 2 mused_up_to⟩
theorem scused_up_to : FnScope ["record", "value", "at", "tick", "row", "use"] ["record", "value", "at", "tick"] (defScope (top 31)) := ⟨rfl, rfl, rfl, by decide +kernel, rfl, by decide +kernel, by decide +kernel⟩
theorem gfused_up_to (T : Txt P w K mg base) {f : Addr} {fd : FuncData} (F : Fun K "used_up_to" "used_up_to" (top 31) f fd)  : FnG P w K mg base 3 f fd ["record", "value", "at", "tick"] (spOf K mg 4 fused_up_to) := by
  have sc := scused_up_to
  exact fn_data (m := mused_up_to) F sc rfl 2 rfl (fun _ _ _ h => h) (fun cdv A outer s H E bd =>
    (db_one (ds_ret (d_cb (cr_sum bd.calm) cs_sum rfl (T.nb "sum" (by decide +kernel)) (by first | rfl | decide +kernel) (da_cons (d_lcIf (own := [("row", 4), ("use", 5)]) bd.calm sc.nd (di_zip rfl (T.nb "zip" (by decide +kernel)) (dn (pv 1)) (d_prp T.p_uses bd (by decide) (dn (pv 0)) rfl)) (blkOk_by (by first | rfl | kernel_rfl)) (fun s2 H2 C2 cl2 fp2 => (dgc_tup bd.calm (dgcs_cons (dgc_name sc.nd rfl (Or.inl rfl)) (dgcs_cons (dgc_name sc.nd rfl (Or.inl rfl)) dgcs_nil)))) (fun s2 H2 C2 cl2 fp2 => (dt_le (d_ix (dn (pv 5)) dc_int (fun _ _ => rfl)) (dn (pv 3)))) (fun s2 H2 C2 cl2 fp2 => (d_ix (dn (pv 4)) (dn (pv 2)) (fun _ _ => rfl)))) da_nil)))))
theorem dfused_up_to (T : Txt P w K mg base) (F : FnI K mg "used_up_to" ["record", "value", "at", "tick"] (top 31))  : Df P w K mg base 3 4 "used_up_to" fused_up_to := by
  obtain ⟨f, fd, F, hm, hk, hb⟩ := F
  exact ⟨⟨f, fd, ["record", "value", "at", "tick"], rfl, gfused_up_to T F , hm, hk, hb⟩, rfl⟩

/-- is_filled_by: slots record, value, use, row, at, lot, tick, name, left -/
def mis_filled_by : M Fl := (mSeq (mIfS (mNot (mT (mFn fis_tuple_of [(mN 1), (mCall gLen [(mUn (gPrp "Record" "told" (some 1)) (mN 0))])]))) (mRet (mC (.bl false))) (M.pure .nx))
  (mSeq (mIfS (mNot (mT (mCall gAll [(mLC [2, 3] (mZip (mUn (gPrp "Record" "told" (some 1)) (mN 0)) (mN 1)) (gT 2 (gCons' (gN 2) (gCons' (gN 3) gNil'))) (M.pure true) (mFn fare_units [(mN 0), (mN 2), (mN 3)]))]))) (mRet (mC (.bl false))) (M.pure .nx))
  (mSeq (mFor (mEnumT (mUn (gPrp "Record" "told" (some 0)) (mN 0))) (gT 2 (gCons' (gN 4) (gCons' (gN 5) gNil'))) (mSeq (mIfS (mTC gGt (mCall gSum [(mLC [3] (mItems (mN 1)) (gN 3) (M.pure true) (mOp gIdx (mN 3) (mN 4)))]) (mOp gIdx (mN 5) (mC (.int 1)))) (mRet (mC (.bl false))) (M.pure .nx))
  (mFor (mItems (mUn (gPrp "Record" "told" (some 2)) (mN 0))) (gT 3 (gCons' (gN 6) (gCons' (gN 7) (gCons' (gN 8) gNil')))) (mIfS (mAnd (mTC gEq2 (mN 7) (mOp gIdx (mN 5) (mC (.int 0)))) (mTC gNe2 (mOp gSub (mOp gIdx (mN 5) (mC (.int 1))) (mFn fused_up_to [(mN 0), (mN 1), (mN 4), (mN 6)])) (mN 8))) (mRet (mC (.bl false))) (M.pure .nx)))))
  (mRet (mC (.bl true))))))
def fis_filled_by : Fs := ⟨[.fz, .fz], runB [.fz, .fz] 7 mis_filled_by⟩
theorem scis_filled_by : FnScope ["record", "value", "use", "row", "at", "lot", "tick", "name", "left"] ["record", "value"] (defScope (top 32)) := ⟨rfl, rfl, rfl, by decide +kernel, rfl, by decide +kernel, by decide +kernel⟩
theorem gfis_filled_by (T : Txt P w K mg base) {f : Addr} {fd : FuncData} (F : Fun K "is_filled_by" "is_filled_by" (top 32) f fd) (Dis_tuple_of : Df P w K mg base 1 2 "is_tuple_of" fis_tuple_of) (Dare_units : Df P w K mg base 3 3 "are_units" fare_units) (Dused_up_to : Df P w K mg base 3 4 "used_up_to" fused_up_to) : FnG P w K mg base 4 f fd ["record", "value"] (spOf K mg 2 fis_filled_by) := by
  have sc := scis_filled_by
  exact fn_data (m := mis_filled_by) F sc rfl 7 rfl (fun _ _ _ h => h) (fun cdv A outer s H E bd =>
    (db_cons (ds_if (dt_not (d_val (d_fn Dis_tuple_of (bd.mono (by decide : 1 ≤ 3)) rfl (da_cons (dn (pv 1)) (da_cons (d_cb call_len cs_len rfl (T.nb "len" (by decide +kernel)) (by first | rfl | decide +kernel) (da_cons (d_prp T.p_uses bd (by decide) (dn (pv 0)) rfl) da_nil)) da_nil))))) (db_one (ds_ret dc_bl)) db_nil)
    (db_cons (ds_if (dt_not (d_val (d_cb (cr_all bd.calm) cs_all rfl (T.nb "all" (by decide +kernel)) (by first | rfl | decide +kernel) (da_cons (d_lc (own := [("use", 2), ("row", 3)]) bd.calm sc.nd (di_zip rfl (T.nb "zip" (by decide +kernel)) (d_prp T.p_uses bd (by decide) (dn (pv 0)) rfl) (dn (pv 1))) (blkOk_by (by first | rfl | kernel_rfl)) (fun s2 H2 C2 cl2 fp2 => (dgc_tup bd.calm (dgcs_cons (dgc_name sc.nd rfl (Or.inl rfl)) (dgcs_cons (dgc_name sc.nd rfl (Or.inl rfl)) dgcs_nil)))) (fun s2 H2 C2 cl2 fp2 => (d_fn Dare_units ((bd.blk s2 H2 C2 cl2 fp2).mono (by decide : 3 ≤ 3)) rfl (da_cons (dn (pv 0)) (da_cons (dn (pv 2)) (da_cons (dn (pv 3)) da_nil)))))) da_nil)))) (db_one (ds_ret dc_bl)) db_nil)
    (db_cons (ds_for bd.own bd.calm (di_enumT rfl (T.nb "enumerate" (by decide +kernel)) (d_prp T.p_lots bd (by decide) (dn (pv 0)) rfl)) (dg_tup bd.calm (dgs_cons (dg_name sc.nd rfl (Or.inr rfl)) (dgs_cons (dg_name sc.nd rfl (Or.inl rfl)) dgs_nil))) (db_cons (ds_if (dt_gt (d_cb (cr_sum bd.calm) cs_sum rfl (T.nb "sum" (by decide +kernel)) (by first | rfl | decide +kernel) (da_cons (d_lc (own := [("row", 3)]) bd.calm sc.nd (di_seq (dn (pv 1))) (blkOk_by (by first | rfl | kernel_rfl)) (fun s2 H2 C2 cl2 fp2 => (dgc_name sc.nd rfl (Or.inl rfl))) (fun s2 H2 C2 cl2 fp2 => (d_ix (dn (pv 3)) (dn (pv 4)) (fun _ _ => rfl)))) da_nil)) (d_ix (dn (pv 5)) dc_int (fun _ _ => rfl))) (db_one (ds_ret dc_bl)) db_nil)
    (db_one (ds_for bd.own bd.calm (di_seq (d_prp T.p_counts bd (by decide) (dn (pv 0)) rfl)) (dg_tup bd.calm (dgs_cons (dg_name sc.nd rfl (Or.inl rfl)) (dgs_cons (dg_name sc.nd rfl (Or.inl rfl)) (dgs_cons (dg_name sc.nd rfl (Or.inl rfl)) dgs_nil)))) (db_one (ds_if (dt_w (dw_and (dt_eq2 bd (dn (pv 7)) (d_ix (dn (pv 5)) dc_int (fun _ _ => rfl))) (dw_and1 (dt_ne2 bd (d_sub (d_ix (dn (pv 5)) dc_int (fun _ _ => rfl)) (d_fn Dused_up_to (bd.mono (by decide : 3 ≤ 3)) rfl (da_cons (dn (pv 0)) (da_cons (dn (pv 1)) (da_cons (dn (pv 4)) (da_cons (dn (pv 6)) da_nil)))))) (dn (pv 8)))))) (db_one (ds_ret dc_bl)) db_nil))))))
    (db_one (ds_ret dc_bl))))))
theorem dfis_filled_by (T : Txt P w K mg base) (F : FnI K mg "is_filled_by" ["record", "value"] (top 32)) (Dis_tuple_of : Df P w K mg base 1 2 "is_tuple_of" fis_tuple_of) (Dare_units : Df P w K mg base 3 3 "are_units" fare_units) (Dused_up_to : Df P w K mg base 3 4 "used_up_to" fused_up_to) : Df P w K mg base 4 2 "is_filled_by" fis_filled_by := by
  obtain ⟨f, fd, F, hm, hk, hb⟩ := F
  exact ⟨⟨f, fd, ["record", "value"], rfl, gfis_filled_by T F Dis_tuple_of Dare_units Dused_up_to, hm, hk, hb⟩, rfl⟩

/-- is_filling: slots record, value -/
def mis_filling : M Fl := (mSeq (mDrop (mFn fcheck_record [(mN 0)]))
  (mRet (mFn fis_filled_by [(mN 0), (mN 1)])))
def fis_filling : Fs := ⟨[.fz, .fz], runB [.fz, .fz] 0 mis_filling⟩
theorem scis_filling : FnScope ["record", "value"] ["record", "value"] (defScope (top 33)) := ⟨rfl, rfl, rfl, by decide +kernel, rfl, by decide +kernel, by decide +kernel⟩
theorem gfis_filling (T : Txt P w K mg base) {f : Addr} {fd : FuncData} (F : Fun K "is_filling" "is_filling" (top 33) f fd) (Dcheck_record : Df P w K mg base 1 1 "check_record" fcheck_record) (Dis_filled_by : Df P w K mg base 4 2 "is_filled_by" fis_filled_by) : FnG P w K mg base 5 f fd ["record", "value"] (spOf K mg 2 fis_filling) := by
  have sc := scis_filling
  exact fn_data (m := mis_filling) F sc rfl 0 rfl (fun _ _ _ h => h) (fun cdv A outer s H E bd =>
    (db_cons (ds_expr (d_fn Dcheck_record (bd.mono (by decide : 1 ≤ 4)) rfl (da_cons (dn (pv 0)) da_nil)))
    (db_one (ds_ret (d_fn Dis_filled_by (bd.mono (by decide : 4 ≤ 4)) rfl (da_cons (dn (pv 0)) (da_cons (dn (pv 1)) da_nil)))))))
theorem dfis_filling (T : Txt P w K mg base) (F : FnI K mg "is_filling" ["record", "value"] (top 33)) (Dcheck_record : Df P w K mg base 1 1 "check_record" fcheck_record) (Dis_filled_by : Df P w K mg base 4 2 "is_filled_by" fis_filled_by) : Df P w K mg base 5 2 "is_filling" fis_filling := by
  obtain ⟨f, fd, F, hm, hk, hb⟩ := F
  exact ⟨⟨f, fd, ["record", "value"], rfl, gfis_filling T F Dcheck_record Dis_filled_by, hm, hk, hb⟩, rfl⟩

/-- _law_urn: slots script, lap, mixed, cell, own -/
def m_law_urn : M Fl := (mSeq (mSet 2 (mOp gPlus (mC (.int 641019)) (mOp gMul (mC (.int 8111)) (mN 1))))
  (mSeq (mFor (mItems (mSl (mN 0) none (some (mC (.int 9))))) (gN 3) (mSet 2 (mOp gMod (mCall gInt [(mOp gPlus (mOp gPlus (mOp gMul (mN 2) (mC (.int 50021))) (mOp gMul (mOp gMod (mCall gInt [(mN 3)]) (mC (.int 2147483477))) (mC (.int 13)))) (mC (.int 41)))]) (mC (.int 2147483629)))))
  (mSeq (mSet 4 (mIf (mTC gLess2 (mN 1) (mCall gLen [(mN 0)])) (mCall gInt [(mOp gIdx (mN 0) (mN 1))]) (mC (.int 0))))
  (mSeq (mSet 2 (mOp gMod (mCall gInt [(mOp gPlus (mOp gPlus (mOp gMul (mN 2) (mC (.int 59))) (mOp gMul (mOp gMod (mCall gInt [(mN 4)]) (mC (.int 2147483477))) (mC (.int 30029)))) (mC (.int 5)))]) (mC (.int 2147483629))))
  (mRet (mLst [(mIf (mOr (mTC gLess2 (mN 4) (mC (.int 0))) (mTC gGe (mN 4) (mOp gPow (mC (.int 10)) (mC (.int 15))))) (mCall gAbs [(mN 4)]) (mC (.int 0))), (mN 2), (mC (.int 0))]))))))
def f_law_urn : Fs := ⟨[.fz, .fz], runB [.fz, .fz] 3 m_law_urn⟩
theorem sc_law_urn : FnScope ["script", "lap", "mixed", "cell", "own"] ["script", "lap"] (defScope (top 35)) := ⟨rfl, rfl, rfl, by decide +kernel, rfl, by decide +kernel, by decide +kernel⟩
theorem gf_law_urn (T : Txt P w K mg base) {f : Addr} {fd : FuncData} (F : Fun K "_law_urn" "_law_urn" (top 35) f fd)  : FnG P w K mg base 1 f fd ["script", "lap"] (spOf K mg 2 f_law_urn) := by
  have sc := sc_law_urn
  exact fn_data (m := m_law_urn) F sc rfl 3 rfl (fun _ _ _ h => h) (fun cdv A outer s H E bd =>
    (db_cons (ds_set (i := 2) sc.nd rfl (Or.inl rfl) (d_plus dc_int (d_mul dc_int (dn (pv 1)))))
    (db_cons (ds_for bd.own bd.calm (di_seq (d_sl (dn (pv 0)) dp_none (dp_some dc_int))) (dg_name sc.nd rfl (Or.inl rfl)) (db_one (ds_set (i := 2) sc.nd rfl (Or.inl rfl) (d_mod (d_cty call_int1 cs_int rfl (T.nb "int" (by decide +kernel)) (by first | rfl | decide +kernel) (da_cons (d_plus (d_plus (d_mul (dn (pv 2)) dc_int) (d_mul (d_mod (d_cty call_int1 cs_int rfl (T.nb "int" (by decide +kernel)) (by first | rfl | decide +kernel) (da_cons (dn (pv 3)) da_nil)) dc_int) dc_int)) dc_int) da_nil)) dc_int))))
    (db_cons (ds_set (i := 4) sc.nd rfl (Or.inl rfl) (d_ifExp (dt_lt2 bd (dn (pv 1)) (d_cb call_len cs_len rfl (T.nb "len" (by decide +kernel)) (by first | rfl | decide +kernel) (da_cons (dn (pv 0)) da_nil))) (d_cty call_int1 cs_int rfl (T.nb "int" (by decide +kernel)) (by first | rfl | decide +kernel) (da_cons (d_ix (dn (pv 0)) (dn (pv 1)) (fun _ _ => rfl)) da_nil)) dc_int))
    (db_cons (ds_set (i := 2) sc.nd rfl (Or.inl rfl) (d_mod (d_cty call_int1 cs_int rfl (T.nb "int" (by decide +kernel)) (by first | rfl | decide +kernel) (da_cons (d_plus (d_plus (d_mul (dn (pv 2)) dc_int) (d_mul (d_mod (d_cty call_int1 cs_int rfl (T.nb "int" (by decide +kernel)) (by first | rfl | decide +kernel) (da_cons (dn (pv 4)) da_nil)) dc_int) dc_int)) dc_int) da_nil)) dc_int))
    (db_one (ds_ret (d_lst (da_cons (d_ifExp (dt_w (dw_or (dt_lt2 bd (dn (pv 4)) dc_int) (dw_or1 (dt_ge (dn (pv 4)) (d_pow dc_int dc_int))))) (d_cb call_abs cs_abs rfl (T.nb "abs" (by decide +kernel)) (by first | rfl | decide +kernel) (da_cons (dn (pv 4)) da_nil)) dc_int) (da_cons (dn (pv 2)) (da_cons dc_int da_nil)))))))))))
theorem df_law_urn (T : Txt P w K mg base) (F : FnI K mg "_law_urn" ["script", "lap"] (top 35))  : Df P w K mg base 1 2 "_law_urn" f_law_urn := by
  obtain ⟨f, fd, F, hm, hk, hb⟩ := F
  exact ⟨⟨f, fd, ["script", "lap"], rfl, gf_law_urn T F , hm, hk, hb⟩, rfl⟩

/-- _law_take: slots urn, many, figure, stir -/
def m_law_take : M Fl := (mSeq (mIfS (mTC gGt (mOp gIdx (mN 0) (mC (.int 0))) (mC (.int 0))) (mSeq (mAsg (mCall gDivmod [(mOp gIdx (mN 0) (mC (.int 0))), (mN 1)]) (gT 2 (gCons' (gIx 0 (mC (.int 0))) (gCons' (gN 2) gNil'))))
  (mRet (mN 2))) (M.pure .nx))
  (mSeq (mAsg (mOp gPlus (mOp gIdx (mN 0) (mC (.int 2))) (mC (.int 1))) (gIx 0 (mC (.int 2))))
  (mSeq (mSet 3 (mOp gMod (mCall gInt [(mOp gPlus (mOp gMul (mOp gIdx (mN 0) (mC (.int 1))) (mC (.int 40009))) (mOp gMul (mC (.int 15013)) (mOp gIdx (mN 0) (mC (.int 2)))))]) (mC (.int 2147483629))))
  (mSeq (mAsg (mOp gMod (mCall gInt [(mOp gPlus (mOp gMul (mN 3) (mOp gPlus (mOp gMod (mCall gInt [(mN 3)]) (mC (.int 5003))) (mC (.int 30011)))) (mOp gMul (mC (.int 3)) (mOp gIdx (mN 0) (mC (.int 2)))))]) (mC (.int 2147483629))) (gIx 0 (mC (.int 1))))
  (mRet (mOp gMod (mCall gInt [(mOp gDiv (mOp gIdx (mN 0) (mC (.int 1))) (mC (.int 907)))]) (mN 1)))))))
def f_law_take : Fs := ⟨[.io, .fz], runB [.io, .fz] 2 m_law_take⟩
theorem sc_law_take : FnScope ["urn", "many", "figure", "stir"] ["urn", "many"] (defScope (top 36)) := ⟨rfl, rfl, rfl, by decide +kernel, rfl, by decide +kernel, by decide +kernel⟩
theorem gf_law_take (T : Txt P w K mg base) {f : Addr} {fd : FuncData} (F : Fun K "_law_take" "_law_take" (top 36) f fd)  : FnG P w K mg base 1 f fd ["urn", "many"] (spOf K mg 2 f_law_take) := by
  have sc := sc_law_take
  exact fn_data (m := m_law_take) F sc rfl 2 rfl (fun _ _ _ h => h) (fun cdv A outer s H E bd =>
    (db_cons (ds_if (dt_gt (d_ix (dn (pv 0)) dc_int (fun _ _ => rfl)) dc_int) (db_cons (ds_asg (d_cb call_divmod cs_divmod rfl (T.nb "divmod" (by decide +kernel)) (by first | rfl | decide +kernel) (da_cons (d_ix (dn (pv 0)) dc_int (fun _ _ => rfl)) (da_cons (dn (pv 1)) da_nil))) (dg_tup bd.calm (dgs_cons (dg_ix (pv 0) dc_int) (dgs_cons (dg_name sc.nd rfl (Or.inl rfl)) dgs_nil))))
    (db_one (ds_ret (dn (pv 2))))) db_nil)
    (db_cons (ds_asg (d_plus (d_ix (dn (pv 0)) dc_int (fun _ _ => rfl)) dc_int) (dg_ix (pv 0) dc_int))
    (db_cons (ds_set (i := 3) sc.nd rfl (Or.inl rfl) (d_mod (d_cty call_int1 cs_int rfl (T.nb "int" (by decide +kernel)) (by first | rfl | decide +kernel) (da_cons (d_plus (d_mul (d_ix (dn (pv 0)) dc_int (fun _ _ => rfl)) dc_int) (d_mul dc_int (d_ix (dn (pv 0)) dc_int (fun _ _ => rfl)))) da_nil)) dc_int))
    (db_cons (ds_asg (d_mod (d_cty call_int1 cs_int rfl (T.nb "int" (by decide +kernel)) (by first | rfl | decide +kernel) (da_cons (d_plus (d_mul (dn (pv 3)) (d_plus (d_mod (d_cty call_int1 cs_int rfl (T.nb "int" (by decide +kernel)) (by first | rfl | decide +kernel) (da_cons (dn (pv 3)) da_nil)) dc_int) dc_int)) (d_mul dc_int (d_ix (dn (pv 0)) dc_int (fun _ _ => rfl)))) da_nil)) dc_int) (dg_ix (pv 0) dc_int))
    (db_one (ds_ret (d_mod (d_cty call_int1 cs_int rfl (T.nb "int" (by decide +kernel)) (by first | rfl | decide +kernel) (da_cons (d_div (d_ix (dn (pv 0)) dc_int (fun _ _ => rfl)) dc_int) da_nil)) (dn (pv 1))))))))))
theorem df_law_take (T : Txt P w K mg base) (F : FnI K mg "_law_take" ["urn", "many"] (top 36))  : Df P w K mg base 1 2 "_law_take" f_law_take := by
  obtain ⟨f, fd, F, hm, hk, hb⟩ := F
  exact ⟨⟨f, fd, ["urn", "many"], rfl, gf_law_take T F , hm, hk, hb⟩, rfl⟩

/-- _law_of: slots urn, some -/
def m_law_of : M Fl := (mRet (mOp gIdx (mN 1) (mFn f_law_take [(mN 0), (mCall gLen [(mN 1)])])))
def f_law_of : Fs := ⟨[.io, .fz], runB [.io, .fz] 0 m_law_of⟩
theorem sc_law_of : FnScope ["urn", "some"] ["urn", "some"] (defScope (top 37)) := ⟨rfl, rfl, rfl, by decide +kernel, rfl, by decide +kernel, by decide +kernel⟩
theorem gf_law_of (T : Txt P w K mg base) {f : Addr} {fd : FuncData} (F : Fun K "_law_of" "_law_of" (top 37) f fd) (D_law_take : Df P w K mg base 1 2 "_law_take" f_law_take) : FnG P w K mg base 2 f fd ["urn", "some"] (spOf K mg 2 f_law_of) := by
  have sc := sc_law_of
  exact fn_data (m := m_law_of) F sc rfl 0 rfl (fun _ _ _ h => h) (fun cdv A outer s H E bd =>
    (db_one (ds_ret (d_ix (dn (pv 1)) (d_fn D_law_take (bd.mono (by decide : 1 ≤ 1)) rfl (da_cons (dn (pv 0)) (da_cons (d_cb call_len cs_len rfl (T.nb "len" (by decide +kernel)) (by first | rfl | decide +kernel) (da_cons (dn (pv 1)) da_nil)) da_nil))) (fun _ _ => rfl)))))
theorem df_law_of (T : Txt P w K mg base) (F : FnI K mg "_law_of" ["urn", "some"] (top 37)) (D_law_take : Df P w K mg base 1 2 "_law_take" f_law_take) : Df P w K mg base 2 2 "_law_of" f_law_of := by
  obtain ⟨f, fd, F, hm, hk, hb⟩ := F
  exact ⟨⟨f, fd, ["urn", "some"], rfl, gf_law_of T F D_law_take, hm, hk, hb⟩, rfl⟩

/-- _law_names: slots urn, many, found, letters, turn, size, name, lap, at -/
def m_law_names : M Fl := (mSeq (mPar [2, 3] [(mLst []), (mC (.str "abcdefghijklmnopqrstuvwxyz"))])
  (mSeq (mFor (mRng1 (mN 1)) (gN 4) (mSeq (mPar [5, 6] [(mFn f_law_of [(mN 0), (mLst [(mC (.int 0)), (mC (.int 0)), (mC (.int 1)), (mC (.int 3)), (mC (.int 7))])]), (mC (.str ""))])
  (mSeq (mFor (mRng1 (mN 5)) (gN 7) (mSet 6 (mOp gPlus (mN 6) (mFn f_law_of [(mN 0), (mN 3)]))))
  (mSeq (mSet 8 (mFn f_law_take [(mN 0), (mOp gPlus (mN 5) (mC (.int 1)))]))
  (mSeq (mSet 6 (mOp gPlus (mOp gPlus (mSl (mN 6) none (some (mN 8))) (mOp gIdx (mN 3) (mN 4))) (mSl (mN 6) (some (mN 8)) none)))
  (mDrop (mMt 2 gApp [(mIf (mTC gNotIn (mN 6) (mN 2)) (mN 6) (mOp gTimes (mOp gIdx (mN 3) (mN 4)) (mC (.int 8))))])))))))
  (mRet (mN 2))))
def f_law_names : Fs := ⟨[.io, .fz], runB [.io, .fz] 7 m_law_names⟩
theorem sc_law_names : FnScope ["urn", "many", "found", "letters", "turn", "size", "name", "lap", "at"] ["urn", "many"] (defScope (top 38)) := ⟨rfl, rfl, rfl, by decide +kernel, rfl, by decide +kernel, by decide +kernel⟩
theorem gf_law_names (T : Txt P w K mg base) {f : Addr} {fd : FuncData} (F : Fun K "_law_names" "_law_names" (top 38) f fd) (D_law_take : Df P w K mg base 1 2 "_law_take" f_law_take) (D_law_of : Df P w K mg base 2 2 "_law_of" f_law_of) : FnG P w K mg base 3 f fd ["urn", "many"] (spOf K mg 2 f_law_names) := by
  have sc := sc_law_names
  exact fn_data (m := m_law_names) F sc rfl 7 rfl (fun _ _ _ h => h) (fun cdv A outer s H E bd =>
    (db_cons (ds_par2 bd.calm sc.nd rfl rfl (by decide) rfl rfl (d_lst da_nil) dc_str (by first | rfl | kernel_rfl))
    (db_cons (ds_for bd.own bd.calm (di_rng1 rfl (T.nb "range" (by decide +kernel)) (dn (pv 1))) (dg_name sc.nd rfl (Or.inl rfl)) (db_cons (ds_par2 bd.calm sc.nd rfl rfl (by decide) rfl rfl (d_fn D_law_of (bd.mono (by decide : 2 ≤ 2)) rfl (da_cons (dn (pv 0)) (da_cons (d_lst (da_cons dc_int (da_cons dc_int (da_cons dc_int (da_cons dc_int (da_cons dc_int da_nil)))))) da_nil))) dc_str (by first | rfl | kernel_rfl))
    (db_cons (ds_for bd.own bd.calm (di_rng1 rfl (T.nb "range" (by decide +kernel)) (dn (pv 5))) (dg_name sc.nd rfl (Or.inl rfl)) (db_one (ds_set (i := 6) sc.nd rfl (Or.inl rfl) (d_plus (dn (pv 6)) (d_fn D_law_of (bd.mono (by decide : 2 ≤ 2)) rfl (da_cons (dn (pv 0)) (da_cons (dn (pv 3)) da_nil)))))))
    (db_cons (ds_set (i := 8) sc.nd rfl (Or.inl rfl) (d_fn D_law_take (bd.mono (by decide : 1 ≤ 2)) rfl (da_cons (dn (pv 0)) (da_cons (d_plus (dn (pv 5)) dc_int) da_nil))))
    (db_cons (ds_set (i := 6) sc.nd rfl (Or.inl rfl) (d_plus (d_plus (d_sl (dn (pv 6)) dp_none (dp_some (dn (pv 8)))) (d_ix (dn (pv 3)) (dn (pv 4)) (fun _ _ => rfl))) (d_sl (dn (pv 6)) (dp_some (dn (pv 8))) dp_none)))
    (db_one (ds_expr (d_append (pv 2) (d_ifExp (dt_notIn (dn (pv 6)) (dn (pv 2))) (dn (pv 6)) (d_times (d_ix (dn (pv 3)) (dn (pv 4)) (fun _ _ => rfl)) dc_int))))))))))
    (db_one (ds_ret (dn (pv 2)))))))
theorem df_law_names (T : Txt P w K mg base) (F : FnI K mg "_law_names" ["urn", "many"] (top 38)) (D_law_take : Df P w K mg base 1 2 "_law_take" f_law_take) (D_law_of : Df P w K mg base 2 2 "_law_of" f_law_of) : Df P w K mg base 3 2 "_law_names" f_law_names := by
  obtain ⟨f, fd, F, hm, hk, hb⟩ := F
  exact ⟨⟨f, fd, ["urn", "many"], rfl, gf_law_names T F D_law_take D_law_of, hm, hk, hb⟩, rfl⟩

/-- _law_record_of: slots urn, names, sizes, top, last, many, ticks, lots, name, first, lot, left, uses, amounts, turn, units, end, marks, tick, row, at, some, told, k, gone -/
def m_law_record_of : M Fl := (mSeq (mPar [5, 6, 7] [(mCall gLen [(mN 1)]), (mLst []), (mLst [])])
  (mSeq (mFor (mItems (mN 1)) (gN 8) (mSeq (mSet 9 (mFn f_law_take [(mN 0), (mOp gPlus (mN 4) (mC (.int 1)))]))
  (mDrop (mMt 7 gApp [(mTup [(mN 8), (mOp gPlus (mC (.int 1)) (mFn f_law_take [(mN 0), (mN 3)])), (mN 9), (mOp gPlus (mN 9) (mFn f_law_take [(mN 0), (mOp gPlus (mOp gSub (mN 4) (mN 9)) (mC (.int 1)))]))])]))))
  (mSeq (mPar [11, 12, 13] [(mLC [10] (mItems (mN 7)) (gN 10) (M.pure true) (mOp gIdx (mN 10) (mC (.int 1)))), (mLst []), (mLst [])])
  (mSeq (mFor (mRng1 (mOp gSub (mOp gIdx (mN 2) (mC (.int 1))) (mFn f_law_of [(mN 0), (mLst [(mC (.int 0)), (mC (.int 0)), (mOp gDiv (mOp gIdx (mN 2) (mC (.int 1))) (mC (.int 2))), (mFn f_law_take [(mN 0), (mOp gPlus (mOp gIdx (mN 2) (mC (.int 1))) (mC (.int 1)))])])]))) (gN 14) (mSeq (mAsg (mIf (mTC gNe2 (mN 7) (mLst [])) (mFn f_law_of [(mN 0), (mN 7)]) (mTup [(mC (.str "")), (mC (.int 0)), (mC (.int 0)), (mN 4)])) (gT 4 (gCons' (gN 8) (gCons' (gN 15) (gCons' (gN 9) (gCons' (gN 16) gNil'))))))
  (mDrop (mMt 6 gApp [(mOp gPlus (mN 9) (mFn f_law_take [(mN 0), (mOp gPlus (mOp gSub (mN 16) (mN 9)) (mC (.int 1)))]))]))))
  (mSeq (mPar [1, 17] [(mFn f_law_names [(mN 0), (mCall gLen [(mN 6)])]), (mLst [])])
  (mSeq (mFor (mItems (mCall gSort2 [(mN 6)])) (gN 18) (mSeq (mSet 19 (mOp gTimes (mLst [(mC (.int 0))]) (mN 5)))
  (mSeq (mFor (mRng1 (mN 5)) (gN 20) (mIfS (mAnd (mT (mChain gLe gLe (mOp gIdx (mOp gIdx (mN 7) (mN 20)) (mC (.int 2))) (mN 18) (mOp gIdx (mOp gIdx (mN 7) (mN 20)) (mC (.int 3))))) (mAnd (mTC gGt (mOp gIdx (mN 11) (mN 20)) (mC (.int 0))) (mTC gGt (mFn f_law_take [(mN 0), (mC (.int 3))]) (mC (.int 0))))) (mSeq (mSet 21 (mLst [(mC (.int 1)), (mC (.int 1)), (mOp gDiv (mOp gIdx (mN 11) (mN 20)) (mC (.int 3))), (mFn f_law_take [(mN 0), (mOp gPlus (mOp gIdx (mN 11) (mN 20)) (mC (.int 1)))]), (mFn f_law_take [(mN 0), (mOp gPlus (mOp gDiv (mOp gIdx (mN 11) (mN 20)) (mC (.int 2))) (mC (.int 1)))])]))
  (mSeq (mAsg (mFn f_law_of [(mN 0), (mN 21)]) (gIx 19 (mN 20)))
  (mAsg (mCall gMin2 [(mOp gIdx (mN 19) (mN 20)), (mOp gSub (mC (.int 999)) (mCall gSum [(mSl (mN 19) none (some (mN 20)))]))]) (gIx 19 (mN 20))))) (M.pure .nx)))
  (mIfS (mTC gGt (mCall gSum [(mN 19)]) (mC (.int 0))) (mSeq (mSet 11 (mForget 20 (mLC [20] (mRng1 (mN 5)) (gN 20) (M.pure true) (mOp gSub (mOp gIdx (mN 11) (mN 20)) (mOp gIdx (mN 19) (mN 20))))))
  (mSeq (mDrop (mMt 12 gApp [(mTup [(mMt 1 gPop []), (mN 18), (mCall gSum [(mN 19)])])]))
  (mDrop (mMt 13 gApp [(mCall gTuple [(mN 19)])])))) (M.pure .nx)))))
  (mSeq (mSet 22 (mOp gSub (mOp gIdx (mN 2) (mC (.int 2))) (mFn f_law_of [(mN 0), (mLst [(mC (.int 0)), (mOp gDiv (mOp gIdx (mN 2) (mC (.int 2))) (mC (.int 2))), (mOp gIdx (mN 2) (mC (.int 2))), (mFn f_law_take [(mN 0), (mOp gPlus (mOp gIdx (mN 2) (mC (.int 2))) (mC (.int 1)))])])])))
  (mSeq (mFor (mRng1 (mIf (mTC gGt (mN 5) (mC (.int 0))) (mN 22) (mC (.int 0)))) (gN 14) (mSeq (mAsg (mTup [(mFn f_law_take [(mN 0), (mN 5)]), (mFn f_law_take [(mN 0), (mOp gPlus (mN 4) (mC (.int 1)))])]) (gT 2 (gCons' (gN 20) (gCons' (gN 18) gNil'))))
  (mSeq (mSet 24 (mCall gSum [(mLC [23] (mRng1 (mCall gLen [(mN 12)])) (gN 23) (mTC gLe (mOp gIdx (mOp gIdx (mN 12) (mN 23)) (mC (.int 1))) (mN 18)) (mOp gIdx (mOp gIdx (mN 13) (mN 23)) (mN 20)))]))
  (mDrop (mMt 17 gApp [(mTup [(mN 18), (mOp gIdx (mOp gIdx (mN 7) (mN 20)) (mC (.int 0))), (mOp gSub (mOp gIdx (mOp gIdx (mN 7) (mN 20)) (mC (.int 1))) (mN 24))])])))))
  (mRet (mTup [(mTup [(mCall gTuple [(mN 7)]), (mCall gTuple [(mN 12)]), (mCall gTuple [(mUn gSS (mN 17))])]), (mCall gTuple [(mN 13)])]))))))))))
def f_law_record_of : Fs := ⟨[.io, .fz, .fz, .fz, .fz], runB [.io, .fz, .fz, .fz, .fz] 20 m_law_record_of⟩
theorem sc_law_record_of : FnScope ["urn", "names", "sizes", "top", "last", "many", "ticks", "lots", "name", "first", "lot", "left", "uses", "amounts", "turn", "units", "end", "marks", "tick", "row", "at", "some", "told", "k", "gone"] ["urn", "names", "sizes", "top", "last"] (defScope (top 40)) := ⟨rfl, rfl, rfl, by decide +kernel, rfl, by decide +kernel, by decide +kernel⟩
theorem gf_law_record_of (T : Txt P w K mg base) {f : Addr} {fd : FuncData} (F : Fun K "_law_record_of" "_law_record_of" (top 40) f fd) (D_law_take : Df P w K mg base 1 2 "_law_take" f_law_take) (D_law_names : Df P w K mg base 3 2 "_law_names" f_law_names) (D_law_of : Df P w K mg base 2 2 "_law_of" f_law_of) : FnG P w K mg base 4 f fd ["urn", "names", "sizes", "top", "last"] (spOf K mg 5 f_law_record_of) := by
  have sc := sc_law_record_of
  exact fn_data (m := m_law_record_of) F sc rfl 20 rfl (fun _ _ _ h => h) (fun cdv A outer s H E bd =>
    (db_cons (ds_par3 bd.calm sc.nd rfl rfl rfl (by decide) (by decide) (by decide) rfl rfl rfl (d_cb call_len cs_len rfl (T.nb "len" (by decide +kernel)) (by first | rfl | decide +kernel) (da_cons (dn (pv 1)) da_nil)) (d_lst da_nil) (d_lst da_nil) (by first | rfl | kernel_rfl))
    (db_cons (ds_for bd.own bd.calm (di_seq (dn (pv 1))) (dg_name sc.nd rfl (Or.inl rfl)) (db_cons (ds_set (i := 9) sc.nd rfl (Or.inl rfl) (d_fn D_law_take (bd.mono (by decide : 1 ≤ 3)) rfl (da_cons (dn (pv 0)) (da_cons (d_plus (dn (pv 4)) dc_int) da_nil))))
    (db_one (ds_expr (d_append (pv 7) (d_tup (da_cons (dn (pv 8)) (da_cons (d_plus dc_int (d_fn D_law_take (bd.mono (by decide : 1 ≤ 3)) rfl (da_cons (dn (pv 0)) (da_cons (dn (pv 3)) da_nil)))) (da_cons (dn (pv 9)) (da_cons (d_plus (dn (pv 9)) (d_fn D_law_take (bd.mono (by decide : 1 ≤ 3)) rfl (da_cons (dn (pv 0)) (da_cons (d_plus (d_sub (dn (pv 4)) (dn (pv 9))) dc_int) da_nil)))) da_nil))))))))))
    (db_cons (ds_parT3 bd.calm sc.nd rfl rfl rfl (Or.inr rfl) (Or.inr rfl) (Or.inr rfl) (d_lc (own := [("lot", 10)]) bd.calm sc.nd (di_seq (dn (pv 7))) (blkOk_by (by first | rfl | kernel_rfl)) (fun s2 H2 C2 cl2 fp2 => (dgc_name sc.nd rfl (Or.inl rfl))) (fun s2 H2 C2 cl2 fp2 => (d_ix (dn (pv 10)) dc_int (fun _ _ => rfl)))) (d_lst da_nil) (d_lst da_nil))
    (db_cons (ds_for bd.own bd.calm (di_rng1 rfl (T.nb "range" (by decide +kernel)) (d_sub (d_ix (dn (pv 2)) dc_int (fun _ _ => rfl)) (d_fn D_law_of (bd.mono (by decide : 2 ≤ 3)) rfl (da_cons (dn (pv 0)) (da_cons (d_lst (da_cons dc_int (da_cons dc_int (da_cons (d_div (d_ix (dn (pv 2)) dc_int (fun _ _ => rfl)) dc_int) (da_cons (d_fn D_law_take (bd.mono (by decide : 1 ≤ 3)) rfl (da_cons (dn (pv 0)) (da_cons (d_plus (d_ix (dn (pv 2)) dc_int (fun _ _ => rfl)) dc_int) da_nil))) da_nil))))) da_nil))))) (dg_name sc.nd rfl (Or.inl rfl)) (db_cons (ds_asg (d_ifExp (dt_ne2 bd (dn (pv 7)) (d_lst da_nil)) (d_fn D_law_of (bd.mono (by decide : 2 ≤ 3)) rfl (da_cons (dn (pv 0)) (da_cons (dn (pv 7)) da_nil))) (d_tup (da_cons dc_str (da_cons dc_int (da_cons dc_int (da_cons (dn (pv 4)) da_nil)))))) (dg_tup bd.calm (dgs_cons (dg_name sc.nd rfl (Or.inl rfl)) (dgs_cons (dg_name sc.nd rfl (Or.inl rfl)) (dgs_cons (dg_name sc.nd rfl (Or.inl rfl)) (dgs_cons (dg_name sc.nd rfl (Or.inl rfl)) dgs_nil))))))
    (db_one (ds_expr (d_append (pv 6) (d_plus (dn (pv 9)) (d_fn D_law_take (bd.mono (by decide : 1 ≤ 3)) rfl (da_cons (dn (pv 0)) (da_cons (d_plus (d_sub (dn (pv 16)) (dn (pv 9))) dc_int) da_nil)))))))))
    (db_cons (ds_par2 bd.calm sc.nd rfl rfl (by decide) rfl rfl (d_fn D_law_names (bd.mono (by decide : 3 ≤ 3)) rfl (da_cons (dn (pv 0)) (da_cons (d_cb call_len cs_len rfl (T.nb "len" (by decide +kernel)) (by first | rfl | decide +kernel) (da_cons (dn (pv 6)) da_nil)) da_nil))) (d_lst da_nil) (by first | rfl | kernel_rfl))
    (db_cons (ds_for bd.own bd.calm (di_seq (d_cb (cr_sortedS.or cr_sortedI) (cs_or cs_sortS cs_sortI) rfl (T.nb "sorted" (by decide +kernel)) (by first | rfl | decide +kernel) (da_cons (dn (pv 6)) da_nil))) (dg_name sc.nd rfl (Or.inr rfl)) (db_cons (ds_set (i := 19) sc.nd rfl (Or.inr rfl) (d_times (d_lst (da_cons dc_int da_nil)) (dn (pv 5))))
    (db_cons (ds_for bd.own bd.calm (di_rng1 rfl (T.nb "range" (by decide +kernel)) (dn (pv 5))) (dg_name sc.nd rfl (Or.inr rfl)) (db_one (ds_if (dt_w (dw_and (dt_leLe (d_ix (d_ix (dn (pv 7)) (dn (pv 20)) (fun _ _ => rfl)) dc_int (fun _ _ => rfl)) (dn (pv 18)) (d_ix (d_ix (dn (pv 7)) (dn (pv 20)) (fun _ _ => rfl)) dc_int (fun _ _ => rfl))) (dw_and (dt_gt (d_ix (dn (pv 11)) (dn (pv 20)) (fun _ _ => rfl)) dc_int) (dw_and1 (dt_gt (d_fn D_law_take (bd.mono (by decide : 1 ≤ 3)) rfl (da_cons (dn (pv 0)) (da_cons dc_int da_nil))) dc_int))))) (db_cons (ds_set (i := 21) sc.nd rfl (Or.inl rfl) (d_lst (da_cons dc_int (da_cons dc_int (da_cons (d_div (d_ix (dn (pv 11)) (dn (pv 20)) (fun _ _ => rfl)) dc_int) (da_cons (d_fn D_law_take (bd.mono (by decide : 1 ≤ 3)) rfl (da_cons (dn (pv 0)) (da_cons (d_plus (d_ix (dn (pv 11)) (dn (pv 20)) (fun _ _ => rfl)) dc_int) da_nil))) (da_cons (d_fn D_law_take (bd.mono (by decide : 1 ≤ 3)) rfl (da_cons (dn (pv 0)) (da_cons (d_plus (d_div (d_ix (dn (pv 11)) (dn (pv 20)) (fun _ _ => rfl)) dc_int) dc_int) da_nil))) da_nil)))))))
    (db_cons (ds_asg (d_fn D_law_of (bd.mono (by decide : 2 ≤ 3)) rfl (da_cons (dn (pv 0)) (da_cons (dn (pv 21)) da_nil))) (dg_ix (pv 19) (dn (pv 20))))
    (db_one (ds_asg (d_cb (call_min2 bd.calm) cs_min2 rfl (T.nb "min" (by decide +kernel)) (by first | rfl | decide +kernel) (da_cons (d_ix (dn (pv 19)) (dn (pv 20)) (fun _ _ => rfl)) (da_cons (d_sub dc_int (d_cb (cr_sum bd.calm) cs_sum rfl (T.nb "sum" (by decide +kernel)) (by first | rfl | decide +kernel) (da_cons (d_sl (dn (pv 19)) dp_none (dp_some (dn (pv 20)))) da_nil))) da_nil))) (dg_ix (pv 19) (dn (pv 20))))))) db_nil)))
    (db_one (ds_if (dt_gt (d_cb (cr_sum bd.calm) cs_sum rfl (T.nb "sum" (by decide +kernel)) (by first | rfl | decide +kernel) (da_cons (dn (pv 19)) da_nil)) dc_int) (db_cons (ds_set (i := 11) sc.nd rfl (Or.inr rfl) (d_forget 20 (d_lc (own := [("at", 20)]) bd.calm sc.nd (di_rng1 rfl (T.nb "range" (by decide +kernel)) (dn (pv 5))) (blkOk_by (by first | rfl | kernel_rfl)) (fun s2 H2 C2 cl2 fp2 => (dgc_name sc.nd rfl (Or.inl rfl))) (fun s2 H2 C2 cl2 fp2 => (d_sub (d_ix (dn (pv 11)) (dn (pv 20)) (fun _ _ => rfl)) (d_ix (dn (pv 19)) (dn (pv 20)) (fun _ _ => rfl)))))))
    (db_cons (ds_expr (d_append (pv 12) (d_tup (da_cons (d_pop (pv 1)) (da_cons (dn (pv 18)) (da_cons (d_cb (cr_sum bd.calm) cs_sum rfl (T.nb "sum" (by decide +kernel)) (by first | rfl | decide +kernel) (da_cons (dn (pv 19)) da_nil)) da_nil))))))
    (db_one (ds_expr (d_append (pv 13) (d_cty call_tuple_of cs_tuple rfl (T.nb "tuple" (by decide +kernel)) (by first | rfl | decide +kernel) (da_cons (dn (pv 19)) da_nil))))))) db_nil)))))
    (db_cons (ds_set (i := 22) sc.nd rfl (Or.inl rfl) (d_sub (d_ix (dn (pv 2)) dc_int (fun _ _ => rfl)) (d_fn D_law_of (bd.mono (by decide : 2 ≤ 3)) rfl (da_cons (dn (pv 0)) (da_cons (d_lst (da_cons dc_int (da_cons (d_div (d_ix (dn (pv 2)) dc_int (fun _ _ => rfl)) dc_int) (da_cons (d_ix (dn (pv 2)) dc_int (fun _ _ => rfl)) (da_cons (d_fn D_law_take (bd.mono (by decide : 1 ≤ 3)) rfl (da_cons (dn (pv 0)) (da_cons (d_plus (d_ix (dn (pv 2)) dc_int (fun _ _ => rfl)) dc_int) da_nil))) da_nil))))) da_nil)))))
    (db_cons (ds_for bd.own bd.calm (di_rng1 rfl (T.nb "range" (by decide +kernel)) (d_ifExp (dt_gt (dn (pv 5)) dc_int) (dn (pv 22)) dc_int)) (dg_name sc.nd rfl (Or.inl rfl)) (db_cons (ds_asg (d_tup (da_cons (d_fn D_law_take (bd.mono (by decide : 1 ≤ 3)) rfl (da_cons (dn (pv 0)) (da_cons (dn (pv 5)) da_nil))) (da_cons (d_fn D_law_take (bd.mono (by decide : 1 ≤ 3)) rfl (da_cons (dn (pv 0)) (da_cons (d_plus (dn (pv 4)) dc_int) da_nil))) da_nil))) (dg_tup bd.calm (dgs_cons (dg_name sc.nd rfl (Or.inr rfl)) (dgs_cons (dg_name sc.nd rfl (Or.inr rfl)) dgs_nil))))
    (db_cons (ds_set (i := 24) sc.nd rfl (Or.inl rfl) (d_cb (cr_sum bd.calm) cs_sum rfl (T.nb "sum" (by decide +kernel)) (by first | rfl | decide +kernel) (da_cons (d_lcIf (own := [("k", 23)]) bd.calm sc.nd (di_rng1 rfl (T.nb "range" (by decide +kernel)) (d_cb call_len cs_len rfl (T.nb "len" (by decide +kernel)) (by first | rfl | decide +kernel) (da_cons (dn (pv 12)) da_nil))) (blkOk_by (by first | rfl | kernel_rfl)) (fun s2 H2 C2 cl2 fp2 => (dgc_name sc.nd rfl (Or.inl rfl))) (fun s2 H2 C2 cl2 fp2 => (dt_le (d_ix (d_ix (dn (pv 12)) (dn (pv 23)) (fun _ _ => rfl)) dc_int (fun _ _ => rfl)) (dn (pv 18)))) (fun s2 H2 C2 cl2 fp2 => (d_ix (d_ix (dn (pv 13)) (dn (pv 23)) (fun _ _ => rfl)) (dn (pv 20)) (fun _ _ => rfl)))) da_nil)))
    (db_one (ds_expr (d_append (pv 17) (d_tup (da_cons (dn (pv 18)) (da_cons (d_ix (d_ix (dn (pv 7)) (dn (pv 20)) (fun _ _ => rfl)) dc_int (fun _ _ => rfl)) (da_cons (d_sub (d_ix (d_ix (dn (pv 7)) (dn (pv 20)) (fun _ _ => rfl)) dc_int (fun _ _ => rfl)) (dn (pv 24))) da_nil))))))))))
    (db_one (ds_ret (d_tup (da_cons (d_tup (da_cons (d_cty call_tuple_of cs_tuple rfl (T.nb "tuple" (by decide +kernel)) (by first | rfl | decide +kernel) (da_cons (dn (pv 7)) da_nil)) (da_cons (d_cty call_tuple_of cs_tuple rfl (T.nb "tuple" (by decide +kernel)) (by first | rfl | decide +kernel) (da_cons (dn (pv 12)) da_nil)) (da_cons (d_cty call_tuple_of cs_tuple rfl (T.nb "tuple" (by decide +kernel)) (by first | rfl | decide +kernel) (da_cons (d_sortSet bd rfl (T.nb "sorted" (by decide +kernel)) rfl (T.nb "set" (by decide +kernel)) (dn (pv 17))) da_nil)) da_nil)))) (da_cons (d_cty call_tuple_of cs_tuple rfl (T.nb "tuple" (by decide +kernel)) (by first | rfl | decide +kernel) (da_cons (dn (pv 13)) da_nil)) da_nil))))))))))))))
theorem df_law_record_of (T : Txt P w K mg base) (F : FnI K mg "_law_record_of" ["urn", "names", "sizes", "top", "last"] (top 40)) (D_law_take : Df P w K mg base 1 2 "_law_take" f_law_take) (D_law_names : Df P w K mg base 3 2 "_law_names" f_law_names) (D_law_of : Df P w K mg base 2 2 "_law_of" f_law_of) : Df P w K mg base 4 5 "_law_record_of" f_law_record_of := by
  obtain ⟨f, fd, F, hm, hk, hb⟩ := F
  exact ⟨⟨f, fd, ["urn", "names", "sizes", "top", "last"], rfl, gf_law_record_of T F D_law_take D_law_names D_law_of, hm, hk, hb⟩, rfl⟩

/-- _law_record: slots urn, sizes, top, last, many -/
def m_law_record : M Fl := (mSeq (mSet 4 (mOp gSub (mOp gIdx (mN 1) (mC (.int 0))) (mFn f_law_of [(mN 0), (mLst [(mC (.int 0)), (mC (.int 0)), (mOp gDiv (mOp gIdx (mN 1) (mC (.int 0))) (mC (.int 2))), (mFn f_law_take [(mN 0), (mOp gPlus (mOp gIdx (mN 1) (mC (.int 0))) (mC (.int 1)))])])])))
  (mRet (mFn f_law_record_of [(mN 0), (mCall gSort2 [(mFn f_law_names [(mN 0), (mN 4)])]), (mN 1), (mN 2), (mN 3)])))
def f_law_record : Fs := ⟨[.io, .fz, .fz, .fz], runB [.io, .fz, .fz, .fz] 1 m_law_record⟩
theorem sc_law_record : FnScope ["urn", "sizes", "top", "last", "many"] ["urn", "sizes", "top", "last"] (defScope (top 39)) := ⟨rfl, rfl, rfl, by decide +kernel, rfl, by decide +kernel, by decide +kernel⟩
theorem gf_law_record (T : Txt P w K mg base) {f : Addr} {fd : FuncData} (F : Fun K "_law_record" "_law_record" (top 39) f fd) (D_law_record_of : Df P w K mg base 4 5 "_law_record_of" f_law_record_of) (D_law_of : Df P w K mg base 2 2 "_law_of" f_law_of) (D_law_names : Df P w K mg base 3 2 "_law_names" f_law_names) (D_law_take : Df P w K mg base 1 2 "_law_take" f_law_take) : FnG P w K mg base 5 f fd ["urn", "sizes", "top", "last"] (spOf K mg 4 f_law_record) := by
  have sc := sc_law_record
  exact fn_data (m := m_law_record) F sc rfl 1 rfl (fun _ _ _ h => h) (fun cdv A outer s H E bd =>
    (db_cons (ds_set (i := 4) sc.nd rfl (Or.inl rfl) (d_sub (d_ix (dn (pv 1)) dc_int (fun _ _ => rfl)) (d_fn D_law_of (bd.mono (by decide : 2 ≤ 4)) rfl (da_cons (dn (pv 0)) (da_cons (d_lst (da_cons dc_int (da_cons dc_int (da_cons (d_div (d_ix (dn (pv 1)) dc_int (fun _ _ => rfl)) dc_int) (da_cons (d_fn D_law_take (bd.mono (by decide : 1 ≤ 4)) rfl (da_cons (dn (pv 0)) (da_cons (d_plus (d_ix (dn (pv 1)) dc_int (fun _ _ => rfl)) dc_int) da_nil))) da_nil))))) da_nil)))))
    (db_one (ds_ret (d_fn D_law_record_of (bd.mono (by decide : 4 ≤ 4)) rfl (da_cons (dn (pv 0)) (da_cons (d_cb (cr_sortedS.or cr_sortedI) (cs_or cs_sortS cs_sortI) rfl (T.nb "sorted" (by decide +kernel)) (by first | rfl | decide +kernel) (da_cons (d_fn D_law_names (bd.mono (by decide : 3 ≤ 4)) rfl (da_cons (dn (pv 0)) (da_cons (dn (pv 4)) da_nil))) da_nil)) (da_cons (dn (pv 1)) (da_cons (dn (pv 2)) (da_cons (dn (pv 3)) da_nil))))))))))
theorem df_law_record (T : Txt P w K mg base) (F : FnI K mg "_law_record" ["urn", "sizes", "top", "last"] (top 39)) (D_law_record_of : Df P w K mg base 4 5 "_law_record_of" f_law_record_of) (D_law_of : Df P w K mg base 2 2 "_law_of" f_law_of) (D_law_names : Df P w K mg base 3 2 "_law_names" f_law_names) (D_law_take : Df P w K mg base 1 2 "_law_take" f_law_take) : Df P w K mg base 5 4 "_law_record" f_law_record := by
  obtain ⟨f, fd, F, hm, hk, hb⟩ := F
  exact ⟨⟨f, fd, ["urn", "sizes", "top", "last"], rfl, gf_law_record T F D_law_record_of D_law_of D_law_names D_law_take, hm, hk, hb⟩, rfl⟩

/-- _law_is_filling: slots parts, value, lots, uses, counts, row, name, tick, units, each, k, odd, at, lot, left -/
def m_law_is_filling : M Fl := (mSeq (mAsg (mN 0) (gT 3 (gCons' (gN 2) (gCons' (gN 3) (gCons' (gN 4) gNil')))))
  (mSeq (mIfS (mOr (mNot (mT (mCall gIsQ [(mN 1), (mC (.ty "tuple"))]))) (mTC gNe2 (mCall gLen [(mN 1)]) (mCall gLen [(mN 3)]))) (mRet (mC (.bl false))) (M.pure .nx))
  (mSeq (mFor (mZip (mN 1) (mN 3)) (gT 2 (gCons' (gN 5) (gCons' (gT 3 (gCons' (gN 6) (gCons' (gN 7) (gCons' (gN 8) gNil')))) gNil'))) (mSeq (mIfS (mOr (mNot (mT (mCall gIsQ [(mN 5), (mC (.ty "tuple"))]))) (mTC gNe2 (mCall gLen [(mN 5)]) (mCall gLen [(mN 2)]))) (mRet (mC (.bl false))) (M.pure .nx))
  (mSeq (mIfS (mTC gNeV (mLC [9] (mItems (mN 5)) (gN 9) (mOr (mNot (mT (mCall gIsQ [(mN 9), (mC (.ty "int"))]))) (mOr (mT (mCall gIsQ [(mN 9), (mC (.ty "bool"))])) (mTC gLess2 (mN 9) (mC (.int 0))))) (mN 9)) (mLst [])) (mRet (mC (.bl false))) (M.pure .nx))
  (mSeq (mSet 11 (mLC [10] (mRng1 (mCall gLen [(mN 2)])) (gN 10) (mAnd (mTC gGt (mOp gIdx (mN 5) (mN 10)) (mC (.int 0))) (mNot (mT (mChain gLe gLe (mOp gIdx (mOp gIdx (mN 2) (mN 10)) (mC (.int 2))) (mN 7) (mOp gIdx (mOp gIdx (mN 2) (mN 10)) (mC (.int 3))))))) (mN 10)))
  (mIfS (mOr (mTC gNe2 (mCall gSum2 [(mN 5)]) (mN 8)) (mTC gNe2 (mN 11) (mLst []))) (mRet (mC (.bl false))) (M.pure .nx))))))
  (mSeq (mFor (mEnumT (mN 2)) (gT 2 (gCons' (gN 12) (gCons' (gN 13) gNil'))) (mSeq (mIfS (mTC gGt (mCall gSum [(mForget 5 (mLC [5] (mItems (mN 1)) (gN 5) (M.pure true) (mOp gIdx (mN 5) (mN 12))))]) (mOp gIdx (mN 13) (mC (.int 1)))) (mRet (mC (.bl false))) (M.pure .nx))
  (mFor (mItems (mN 4)) (gT 3 (gCons' (gN 7) (gCons' (gN 6) (gCons' (gN 14) gNil')))) (mIfS (mAnd (mTC gEq2 (mN 6) (mOp gIdx (mN 13) (mC (.int 0)))) (mTC gNe2 (mOp gSub (mOp gIdx (mN 13) (mC (.int 1))) (mCall gSum [(mLC [10] (mRng1 (mCall gLen [(mN 3)])) (gN 10) (mTC gLe (mOp gIdx (mOp gIdx (mN 3) (mN 10)) (mC (.int 1))) (mN 7)) (mOp gIdx (mOp gIdx (mN 1) (mN 10)) (mN 12)))])) (mN 14))) (mRet (mC (.bl false))) (M.pure .nx)))))
  (mRet (mC (.bl true)))))))
def f_law_is_filling : Fs := ⟨[.fz, .fz], runB [.fz, .fz] 13 m_law_is_filling⟩
theorem sc_law_is_filling : FnScope ["parts", "value", "lots", "uses", "counts", "row", "name", "tick", "units", "each", "k", "odd", "at", "lot", "left"] ["parts", "value"] (defScope (top 41)) := ⟨rfl, rfl, rfl, by decide +kernel, rfl, by decide +kernel, by decide +kernel⟩
theorem gf_law_is_filling (T : Txt P w K mg base) {f : Addr} {fd : FuncData} (F : Fun K "_law_is_filling" "_law_is_filling" (top 41) f fd)  : FnG P w K mg base 2 f fd ["parts", "value"] (spOf K mg 2 f_law_is_filling) := by
  have sc := sc_law_is_filling
  exact fn_data (m := m_law_is_filling) F sc rfl 13 rfl (fun _ _ _ h => h) (fun cdv A outer s H E bd =>
    (db_cons (ds_asg (dn (pv 0)) (dg_tup bd.calm (dgs_cons (dg_name sc.nd rfl (Or.inr rfl)) (dgs_cons (dg_name sc.nd rfl (Or.inr rfl)) (dgs_cons (dg_name sc.nd rfl (Or.inl rfl)) dgs_nil)))))
    (db_cons (ds_if (dt_w (dw_or (dt_not (d_val (d_cb (call_isi.or call_isi) (cs_or cs_isP cs_isD) rfl (T.nb "isinstance" (by decide +kernel)) (by first | rfl | decide +kernel) (da_cons (dn (pv 1)) (da_cons (d_ty rfl (T.nb "tuple" (by decide +kernel)) (by first | rfl | decide +kernel)) da_nil))))) (dw_or1 (dt_ne2 bd (d_cb call_len cs_len rfl (T.nb "len" (by decide +kernel)) (by first | rfl | decide +kernel) (da_cons (dn (pv 1)) da_nil)) (d_cb call_len cs_len rfl (T.nb "len" (by decide +kernel)) (by first | rfl | decide +kernel) (da_cons (dn (pv 3)) da_nil)))))) (db_one (ds_ret dc_bl)) db_nil)
    (db_cons (ds_for bd.own bd.calm (di_zip rfl (T.nb "zip" (by decide +kernel)) (dn (pv 1)) (dn (pv 3))) (dg_tup bd.calm (dgs_cons (dg_name sc.nd rfl (Or.inr rfl)) (dgs_cons (dg_tup bd.calm (dgs_cons (dg_name sc.nd rfl (Or.inl rfl)) (dgs_cons (dg_name sc.nd rfl (Or.inr rfl)) (dgs_cons (dg_name sc.nd rfl (Or.inl rfl)) dgs_nil)))) dgs_nil))) (db_cons (ds_if (dt_w (dw_or (dt_not (d_val (d_cb (call_isi.or call_isi) (cs_or cs_isP cs_isD) rfl (T.nb "isinstance" (by decide +kernel)) (by first | rfl | decide +kernel) (da_cons (dn (pv 5)) (da_cons (d_ty rfl (T.nb "tuple" (by decide +kernel)) (by first | rfl | decide +kernel)) da_nil))))) (dw_or1 (dt_ne2 bd (d_cb call_len cs_len rfl (T.nb "len" (by decide +kernel)) (by first | rfl | decide +kernel) (da_cons (dn (pv 5)) da_nil)) (d_cb call_len cs_len rfl (T.nb "len" (by decide +kernel)) (by first | rfl | decide +kernel) (da_cons (dn (pv 2)) da_nil)))))) (db_one (ds_ret dc_bl)) db_nil)
    (db_cons (ds_if (dt_neV bd (d_lcIf (own := [("each", 9)]) bd.calm sc.nd (di_seq (dn (pv 5))) (blkOk_by (by first | rfl | kernel_rfl)) (fun s2 H2 C2 cl2 fp2 => (dgc_name sc.nd rfl (Or.inl rfl))) (fun s2 H2 C2 cl2 fp2 => (dt_w (dw_or (dt_not (d_val (d_cb (call_isi.or call_isi) (cs_or cs_isP cs_isD) rfl (T.nb "isinstance" (by decide +kernel)) (by first | rfl | decide +kernel) (da_cons (dn (pv 9)) (da_cons (d_ty rfl (T.nb "int" (by decide +kernel)) (by first | rfl | decide +kernel)) da_nil))))) (dw_or (d_val (d_cb (call_isi.or call_isi) (cs_or cs_isP cs_isD) rfl (T.nb "isinstance" (by decide +kernel)) (by first | rfl | decide +kernel) (da_cons (dn (pv 9)) (da_cons (d_ty rfl (T.nb "bool" (by decide +kernel)) (by first | rfl | decide +kernel)) da_nil)))) (dw_or1 (dt_lt2 (bd.blk s2 H2 C2 cl2 fp2) (dn (pv 9)) dc_int)))))) (fun s2 H2 C2 cl2 fp2 => (dn (pv 9)))) (d_lst da_nil)) (db_one (ds_ret dc_bl)) db_nil)
    (db_cons (ds_setLcIf (own := [("k", 10)]) (i := 11) bd.calm sc.nd rfl rfl (sw_true rfl rfl rfl (by decide +kernel)) (di_rng1 rfl (T.nb "range" (by decide +kernel)) (d_cb call_len cs_len rfl (T.nb "len" (by decide +kernel)) (by first | rfl | decide +kernel) (da_cons (dn (pv 2)) da_nil))) (blkOk_by (by first | rfl | kernel_rfl)) (fun s2 H2 C2 cl2 fp2 => (dgc_name sc.nd rfl (Or.inl rfl))) (fun s2 H2 C2 cl2 fp2 => (dt_w (dw_and (dt_gt (d_ix (dn (pv 5)) (dn (pv 10)) (fun _ _ => rfl)) dc_int) (dw_and1 (dt_not (dt_leLe (d_ix (d_ix (dn (pv 2)) (dn (pv 10)) (fun _ _ => rfl)) dc_int (fun _ _ => rfl)) (dn (pv 7)) (d_ix (d_ix (dn (pv 2)) (dn (pv 10)) (fun _ _ => rfl)) dc_int (fun _ _ => rfl)))))))) (fun s2 H2 C2 cl2 fp2 => (dn (pv 10))))
    (db_one (ds_if (dt_w (dw_or (dt_ne2 bd (d_cb ((cr_sum bd.calm).or (cr_sumT bd.calm)) (cs_or cs_sum cs_sumT) rfl (T.nb "sum" (by decide +kernel)) (by first | rfl | decide +kernel) (da_cons (dn (pv 5)) da_nil)) (dn (pv 8))) (dw_or1 (dt_ne2 bd (dn (pv 11)) (d_lst da_nil))))) (db_one (ds_ret dc_bl)) db_nil))))))
    (db_cons (ds_for bd.own bd.calm (di_enumT rfl (T.nb "enumerate" (by decide +kernel)) (dn (pv 2))) (dg_tup bd.calm (dgs_cons (dg_name sc.nd rfl (Or.inr rfl)) (dgs_cons (dg_name sc.nd rfl (Or.inl rfl)) dgs_nil))) (db_cons (ds_if (dt_gt (d_cb (cr_sum bd.calm) cs_sum rfl (T.nb "sum" (by decide +kernel)) (by first | rfl | decide +kernel) (da_cons (d_forget 5 (d_lc (own := [("row", 5)]) bd.calm sc.nd (di_seq (dn (pv 1))) (blkOk_by (by first | rfl | kernel_rfl)) (fun s2 H2 C2 cl2 fp2 => (dgc_name sc.nd rfl (Or.inl rfl))) (fun s2 H2 C2 cl2 fp2 => (d_ix (dn (pv 5)) (dn (pv 12)) (fun _ _ => rfl))))) da_nil)) (d_ix (dn (pv 13)) dc_int (fun _ _ => rfl))) (db_one (ds_ret dc_bl)) db_nil)
    (db_one (ds_for bd.own bd.calm (di_seq (dn (pv 4))) (dg_tup bd.calm (dgs_cons (dg_name sc.nd rfl (Or.inr rfl)) (dgs_cons (dg_name sc.nd rfl (Or.inl rfl)) (dgs_cons (dg_name sc.nd rfl (Or.inl rfl)) dgs_nil)))) (db_one (ds_if (dt_w (dw_and (dt_eq2 bd (dn (pv 6)) (d_ix (dn (pv 13)) dc_int (fun _ _ => rfl))) (dw_and1 (dt_ne2 bd (d_sub (d_ix (dn (pv 13)) dc_int (fun _ _ => rfl)) (d_cb (cr_sum bd.calm) cs_sum rfl (T.nb "sum" (by decide +kernel)) (by first | rfl | decide +kernel) (da_cons (d_lcIf (own := [("k", 10)]) bd.calm sc.nd (di_rng1 rfl (T.nb "range" (by decide +kernel)) (d_cb call_len cs_len rfl (T.nb "len" (by decide +kernel)) (by first | rfl | decide +kernel) (da_cons (dn (pv 3)) da_nil))) (blkOk_by (by first | rfl | kernel_rfl)) (fun s2 H2 C2 cl2 fp2 => (dgc_name sc.nd rfl (Or.inl rfl))) (fun s2 H2 C2 cl2 fp2 => (dt_le (d_ix (d_ix (dn (pv 3)) (dn (pv 10)) (fun _ _ => rfl)) dc_int (fun _ _ => rfl)) (dn (pv 7)))) (fun s2 H2 C2 cl2 fp2 => (d_ix (d_ix (dn (pv 1)) (dn (pv 10)) (fun _ _ => rfl)) (dn (pv 12)) (fun _ _ => rfl)))) da_nil))) (dn (pv 14)))))) (db_one (ds_ret dc_bl)) db_nil))))))
    (db_one (ds_ret dc_bl)))))))
theorem df_law_is_filling (T : Txt P w K mg base) (F : FnI K mg "_law_is_filling" ["parts", "value"] (top 41))  : Df P w K mg base 2 2 "_law_is_filling" f_law_is_filling := by
  obtain ⟨f, fd, F, hm, hk, hb⟩ := F
  exact ⟨⟨f, fd, ["parts", "value"], rfl, gf_law_is_filling T F , hm, hk, hb⟩, rfl⟩

/-- _law_moved: slots urn, rows, many, j, at, to, row, by, way, found, k, other -/
def m_law_moved : M Fl := (mSeq (mPar [3, 4, 5] [(mFn f_law_take [(mN 0), (mCall gLen [(mN 1)])]), (mFn f_law_take [(mN 0), (mN 2)]), (mFn f_law_take [(mN 0), (mN 2)])])
  (mSeq (mPar [6, 7, 8] [(mCall gList [(mOp gIdx (mN 1) (mN 3))]), (mFn f_law_of [(mN 0), (mLst [(mC (.int 1)), (mC (.int 1)), (mC (.int 2)), (mC (.int 7))])]), (mFn f_law_take [(mN 0), (mC (.int 5))])])
  (mSeq (mAsg (mOp gPlus (mOp gIdx (mN 6) (mN 4)) (mN 7)) (gIx 6 (mN 4)))
  (mSeq (mIfS (mTC gLess2 (mN 8) (mC (.int 3))) (mAsg (mOp gSub (mOp gIdx (mN 6) (mN 5)) (mN 7)) (gIx 6 (mN 5))) (M.pure .nx))
  (mSeq (mSet 9 (mOp gPlus (mOp gPlus (mSl (mN 1) none (some (mN 3))) (mTup [(mCall gTuple [(mN 6)])])) (mSl (mN 1) (some (mOp gPlus (mN 3) (mC (.int 1)))) none)))
  (mSeq (mIfS (mAnd (mTC gEq2 (mN 8) (mC (.int 3))) (mTC gGt (mCall gLen [(mN 1)]) (mC (.int 1)))) (mSeq (mSet 10 (mFn f_law_take [(mN 0), (mCall gLen [(mN 1)])]))
  (mSeq (mSet 11 (mCall gList [(mOp gIdx (mN 9) (mN 10))]))
  (mSeq (mAsg (mOp gSub (mOp gIdx (mN 11) (mN 4)) (mN 7)) (gIx 11 (mN 4)))
  (mSet 9 (mOp gPlus (mOp gPlus (mSl (mN 9) none (some (mN 10))) (mTup [(mCall gTuple [(mN 11)])])) (mSl (mN 9) (some (mOp gPlus (mN 10) (mC (.int 1)))) none)))))) (M.pure .nx))
  (mRet (mN 9))))))))
def f_law_moved : Fs := ⟨[.io, .fz, .fz], runB [.io, .fz, .fz] 9 m_law_moved⟩
theorem sc_law_moved : FnScope ["urn", "rows", "many", "j", "at", "to", "row", "by", "way", "found", "k", "other"] ["urn", "rows", "many"] (defScope (top 42)) := ⟨rfl, rfl, rfl, by decide +kernel, rfl, by decide +kernel, by decide +kernel⟩
theorem gf_law_moved (T : Txt P w K mg base) {f : Addr} {fd : FuncData} (F : Fun K "_law_moved" "_law_moved" (top 42) f fd) (D_law_take : Df P w K mg base 1 2 "_law_take" f_law_take) (D_law_of : Df P w K mg base 2 2 "_law_of" f_law_of) : FnG P w K mg base 3 f fd ["urn", "rows", "many"] (spOf K mg 3 f_law_moved) := by
  have sc := sc_law_moved
  exact fn_data (m := m_law_moved) F sc rfl 9 rfl (fun _ _ _ h => h) (fun cdv A outer s H E bd =>
    (db_cons (ds_par3 bd.calm sc.nd rfl rfl rfl (by decide) (by decide) (by decide) rfl rfl rfl (d_fn D_law_take (bd.mono (by decide : 1 ≤ 2)) rfl (da_cons (dn (pv 0)) (da_cons (d_cb call_len cs_len rfl (T.nb "len" (by decide +kernel)) (by first | rfl | decide +kernel) (da_cons (dn (pv 1)) da_nil)) da_nil))) (d_fn D_law_take (bd.mono (by decide : 1 ≤ 2)) rfl (da_cons (dn (pv 0)) (da_cons (dn (pv 2)) da_nil))) (d_fn D_law_take (bd.mono (by decide : 1 ≤ 2)) rfl (da_cons (dn (pv 0)) (da_cons (dn (pv 2)) da_nil))) (by first | rfl | kernel_rfl))
    (db_cons (ds_par3 bd.calm sc.nd rfl rfl rfl (by decide) (by decide) (by decide) rfl rfl rfl (d_cty call_list_of cs_list rfl (T.nb "list" (by decide +kernel)) (by first | rfl | decide +kernel) (da_cons (d_ix (dn (pv 1)) (dn (pv 3)) (fun _ _ => rfl)) da_nil)) (d_fn D_law_of (bd.mono (by decide : 2 ≤ 2)) rfl (da_cons (dn (pv 0)) (da_cons (d_lst (da_cons dc_int (da_cons dc_int (da_cons dc_int (da_cons dc_int da_nil))))) da_nil))) (d_fn D_law_take (bd.mono (by decide : 1 ≤ 2)) rfl (da_cons (dn (pv 0)) (da_cons dc_int da_nil))) (by first | rfl | kernel_rfl))
    (db_cons (ds_asg (d_plus (d_ix (dn (pv 6)) (dn (pv 4)) (fun _ _ => rfl)) (dn (pv 7))) (dg_ix (pv 6) (dn (pv 4))))
    (db_cons (ds_if (dt_lt2 bd (dn (pv 8)) dc_int) (db_one (ds_asg (d_sub (d_ix (dn (pv 6)) (dn (pv 5)) (fun _ _ => rfl)) (dn (pv 7))) (dg_ix (pv 6) (dn (pv 5))))) db_nil)
    (db_cons (ds_set (i := 9) sc.nd rfl (Or.inl rfl) (d_plus (d_plus (d_sl (dn (pv 1)) dp_none (dp_some (dn (pv 3)))) (d_tup (da_cons (d_cty call_tuple_of cs_tuple rfl (T.nb "tuple" (by decide +kernel)) (by first | rfl | decide +kernel) (da_cons (dn (pv 6)) da_nil)) da_nil))) (d_sl (dn (pv 1)) (dp_some (d_plus (dn (pv 3)) dc_int)) dp_none)))
    (db_cons (ds_if (dt_w (dw_and (dt_eq2 bd (dn (pv 8)) dc_int) (dw_and1 (dt_gt (d_cb call_len cs_len rfl (T.nb "len" (by decide +kernel)) (by first | rfl | decide +kernel) (da_cons (dn (pv 1)) da_nil)) dc_int)))) (db_cons (ds_set (i := 10) sc.nd rfl (Or.inl rfl) (d_fn D_law_take (bd.mono (by decide : 1 ≤ 2)) rfl (da_cons (dn (pv 0)) (da_cons (d_cb call_len cs_len rfl (T.nb "len" (by decide +kernel)) (by first | rfl | decide +kernel) (da_cons (dn (pv 1)) da_nil)) da_nil))))
    (db_cons (ds_set (i := 11) sc.nd rfl (Or.inl rfl) (d_cty call_list_of cs_list rfl (T.nb "list" (by decide +kernel)) (by first | rfl | decide +kernel) (da_cons (d_ix (dn (pv 9)) (dn (pv 10)) (fun _ _ => rfl)) da_nil)))
    (db_cons (ds_asg (d_sub (d_ix (dn (pv 11)) (dn (pv 4)) (fun _ _ => rfl)) (dn (pv 7))) (dg_ix (pv 11) (dn (pv 4))))
    (db_one (ds_set (i := 9) sc.nd rfl (Or.inl rfl) (d_plus (d_plus (d_sl (dn (pv 9)) dp_none (dp_some (dn (pv 10)))) (d_tup (da_cons (d_cty call_tuple_of cs_tuple rfl (T.nb "tuple" (by decide +kernel)) (by first | rfl | decide +kernel) (da_cons (dn (pv 11)) da_nil)) da_nil))) (d_sl (dn (pv 9)) (dp_some (d_plus (dn (pv 10)) dc_int)) dp_none))))))) db_nil)
    (db_one (ds_ret (dn (pv 9)))))))))))
theorem df_law_moved (T : Txt P w K mg base) (F : FnI K mg "_law_moved" ["urn", "rows", "many"] (top 42)) (D_law_take : Df P w K mg base 1 2 "_law_take" f_law_take) (D_law_of : Df P w K mg base 2 2 "_law_of" f_law_of) : Df P w K mg base 3 3 "_law_moved" f_law_moved := by
  obtain ⟨f, fd, F, hm, hk, hb⟩ := F
  exact ⟨⟨f, fd, ["urn", "rows", "many"], rfl, gf_law_moved T F D_law_take D_law_of, hm, hk, hb⟩, rfl⟩

/-- _law_odd: slots urn, rows, j, row, way, at, thing, other, some -/
def m_law_odd : M Fl := (mSeq (mSet 2 (mFn f_law_take [(mN 0), (mCall gLen [(mN 1)])]))
  (mSeq (mPar [3, 4] [(mOp gIdx (mN 1) (mN 2)), (mFn f_law_take [(mN 0), (mC (.int 9))])])
  (mSeq (mSet 5 (mFn f_law_take [(mN 0), (mCall gLen [(mN 3)])]))
  (mSeq (mSet 6 (mFn f_law_of [(mN 0), (mLst [(mC .non), (mC (.bl true)), (mC (.bl false)), (mCall gStr [(mOp gIdx (mN 3) (mN 5))]), (mTup [(mOp gIdx (mN 3) (mN 5))]), (mLst []), (mOp gPow (mC (.int 10)) (mC (.int 30))), (mUn gNeg (mC (.int 1))), (mOp gGt (mOp gIdx (mN 3) (mN 5)) (mC (.int 0)))])]))
  (mSeq (mSet 7 (mOp gPlus (mOp gPlus (mSl (mN 3) none (some (mN 5))) (mTup [(mN 6)])) (mSl (mN 3) (some (mOp gPlus (mN 5) (mC (.int 1)))) none)))
  (mSeq (mSet 8 (mLst [(mCall gList [(mN 3)]), (mOp gPlus (mN 3) (mTup [(mC (.int 0))])), (mSl (mN 3) none (some (mUn gNeg (mC (.int 1))))), (mN 7), (mN 7), (mC .non), (mTup [])]))
  (mSeq (mIfS (mTC gLess2 (mN 4) (mC (.int 7))) (mRet (mOp gPlus (mOp gPlus (mSl (mN 1) none (some (mN 2))) (mTup [(mOp gIdx (mN 8) (mN 4))])) (mSl (mN 1) (some (mOp gPlus (mN 2) (mC (.int 1)))) none))) (M.pure .nx))
  (mRet (mIf (mTC gEq2 (mN 4) (mC (.int 7))) (mOp gPlus (mN 1) (mTup [(mN 3)])) (mCall gList [(mN 1)]))))))))))
def f_law_odd : Fs := ⟨[.io, .fz], runB [.io, .fz] 7 m_law_odd⟩
theorem sc_law_odd : FnScope ["urn", "rows", "j", "row", "way", "at", "thing", "other", "some"] ["urn", "rows"] (defScope (top 43)) := ⟨rfl, rfl, rfl, by decide +kernel, rfl, by decide +kernel, by decide +kernel⟩
theorem gf_law_odd (T : Txt P w K mg base) {f : Addr} {fd : FuncData} (F : Fun K "_law_odd" "_law_odd" (top 43) f fd) (D_law_take : Df P w K mg base 1 2 "_law_take" f_law_take) (D_law_of : Df P w K mg base 2 2 "_law_of" f_law_of) : FnG P w K mg base 3 f fd ["urn", "rows"] (spOf K mg 2 f_law_odd) := by
  have sc := sc_law_odd
  exact fn_data (m := m_law_odd) F sc rfl 7 rfl (fun _ _ _ h => h) (fun cdv A outer s H E bd =>
    (db_cons (ds_set (i := 2) sc.nd rfl (Or.inl rfl) (d_fn D_law_take (bd.mono (by decide : 1 ≤ 2)) rfl (da_cons (dn (pv 0)) (da_cons (d_cb call_len cs_len rfl (T.nb "len" (by decide +kernel)) (by first | rfl | decide +kernel) (da_cons (dn (pv 1)) da_nil)) da_nil))))
    (db_cons (ds_par2 bd.calm sc.nd rfl rfl (by decide) rfl rfl (d_ix (dn (pv 1)) (dn (pv 2)) (fun _ _ => rfl)) (d_fn D_law_take (bd.mono (by decide : 1 ≤ 2)) rfl (da_cons (dn (pv 0)) (da_cons dc_int da_nil))) (by first | rfl | kernel_rfl))
    (db_cons (ds_set (i := 5) sc.nd rfl (Or.inl rfl) (d_fn D_law_take (bd.mono (by decide : 1 ≤ 2)) rfl (da_cons (dn (pv 0)) (da_cons (d_cb call_len cs_len rfl (T.nb "len" (by decide +kernel)) (by first | rfl | decide +kernel) (da_cons (dn (pv 3)) da_nil)) da_nil))))
    (db_cons (ds_set (i := 6) sc.nd rfl (Or.inl rfl) (d_fn D_law_of (bd.mono (by decide : 2 ≤ 2)) rfl (da_cons (dn (pv 0)) (da_cons (d_lst (da_cons dc_non (da_cons dc_bl (da_cons dc_bl (da_cons (d_cty call_str_int cs_str rfl (T.nb "str" (by decide +kernel)) (by first | rfl | decide +kernel) (da_cons (d_ix (dn (pv 3)) (dn (pv 5)) (fun _ _ => rfl)) da_nil)) (da_cons (d_tup (da_cons (d_ix (dn (pv 3)) (dn (pv 5)) (fun _ _ => rfl)) da_nil)) (da_cons (d_lst da_nil) (da_cons (d_pow dc_int dc_int) (da_cons (d_neg dc_int) (da_cons (dv_gt (d_ix (dn (pv 3)) (dn (pv 5)) (fun _ _ => rfl)) dc_int) da_nil)))))))))) da_nil))))
    (db_cons (ds_set (i := 7) sc.nd rfl (Or.inl rfl) (d_plus (d_plus (d_sl (dn (pv 3)) dp_none (dp_some (dn (pv 5)))) (d_tup (da_cons (dn (pv 6)) da_nil))) (d_sl (dn (pv 3)) (dp_some (d_plus (dn (pv 5)) dc_int)) dp_none)))
    (db_cons (ds_set (i := 8) sc.nd rfl (Or.inl rfl) (d_lst (da_cons (d_cty call_list_of cs_list rfl (T.nb "list" (by decide +kernel)) (by first | rfl | decide +kernel) (da_cons (dn (pv 3)) da_nil)) (da_cons (d_plus (dn (pv 3)) (d_tup (da_cons dc_int da_nil))) (da_cons (d_sl (dn (pv 3)) dp_none (dp_some (d_neg dc_int))) (da_cons (dn (pv 7)) (da_cons (dn (pv 7)) (da_cons dc_non (da_cons (d_tup da_nil) da_nil)))))))))
    (db_cons (ds_if (dt_lt2 bd (dn (pv 4)) dc_int) (db_one (ds_ret (d_plus (d_plus (d_sl (dn (pv 1)) dp_none (dp_some (dn (pv 2)))) (d_tup (da_cons (d_ix (dn (pv 8)) (dn (pv 4)) (fun _ _ => rfl)) da_nil))) (d_sl (dn (pv 1)) (dp_some (d_plus (dn (pv 2)) dc_int)) dp_none)))) db_nil)
    (db_one (ds_ret (d_ifExp (dt_eq2 bd (dn (pv 4)) dc_int) (d_plus (dn (pv 1)) (d_tup (da_cons (dn (pv 3)) da_nil))) (d_cty call_list_of cs_list rfl (T.nb "list" (by decide +kernel)) (by first | rfl | decide +kernel) (da_cons (dn (pv 1)) da_nil)))))))))))))
theorem df_law_odd (T : Txt P w K mg base) (F : FnI K mg "_law_odd" ["urn", "rows"] (top 43)) (D_law_take : Df P w K mg base 1 2 "_law_take" f_law_take) (D_law_of : Df P w K mg base 2 2 "_law_of" f_law_of) : Df P w K mg base 3 2 "_law_odd" f_law_odd := by
  obtain ⟨f, fd, F, hm, hk, hb⟩ := F
  exact ⟨⟨f, fd, ["urn", "rows"], rfl, gf_law_odd T F D_law_take D_law_of, hm, hk, hb⟩, rfl⟩

/-- _law_right: slots urn, strange, turn, sizes, parts, made, record, some, lap, value, told -/
def m_law_right : M Fl := (mSeq (mSet 1 (mLst [(mC .non), (mC (.bl true)), (mC (.bl false)), (mC (.int 0)), (mC (.int 1)), (mC (.str "")), (mC (.str "uses")), (mTup []), (mLst []), (M.pure (.val (.dic []))), (mTup [(mTup [])]), (mTup [(mC (.int 0))]), (mTup [(mTup [(mC (.int 0))])]), (mTup [(mTup [(mC (.bl true))])]), (mOp gPow (mC (.int 10)) (mC (.int 40)))]))
  (mSeq (mFor (mRng1 (mC (.int 4))) (gN 2) (mSeq (mSet 3 (mFn f_law_of [(mN 0), (mLst [(mTup [(mC (.int 3)), (mC (.int 4)), (mC (.int 2))]), (mTup [(mC (.int 10)), (mC (.int 24)), (mC (.int 16))]), (mTup [(mC (.int 5)), (mC (.int 9)), (mC (.int 5))])])]))
  (mSeq (mAsg (mFn f_law_record [(mN 0), (mN 3), (mFn f_law_of [(mN 0), (mLst [(mC (.int 3)), (mC (.int 9)), (mC (.int 999))])]), (mFn f_law_of [(mN 0), (mLst [(mC (.int 2)), (mC (.int 9)), (mC (.int 99))])])]) (gT 2 (gCons' (gN 4) (gCons' (gN 5) gNil'))))
  (mSeq (mPar [6, 7] [(mNew "Record" "told" 3 m__init__ (fun ds => ds ++ []) [(mOp gIdx (mN 4) (mC (.int 0))), (mOp gIdx (mN 4) (mC (.int 1))), (mOp gIdx (mN 4) (mC (.int 2)))]), (mLst [(mN 5), (mFn f_law_of [(mN 0), (mN 1)]), (mSl (mN 5) none (some (mUn gNeg (mC (.int 1))))), (mUn gRevT (mN 5))])])
  (mSeq (mFor (mRng1 (mIf (mTC gNe2 (mN 5) (mTup [])) (mC (.int 8)) (mC (.int 0)))) (gN 8) (mSeq (mDrop (mMt 7 gApp [(mFn f_law_moved [(mN 0), (mN 5), (mCall gLen [(mOp gIdx (mN 4) (mC (.int 0)))])])]))
  (mDrop (mMt 7 gApp [(mFn f_law_odd [(mN 0), (mN 5)])]))))
  (mSeq (mFor (mEnumL (mN 7)) (gT 2 (gCons' (gN 8) (gCons' (gN 9) gNil'))) (mSeq (mSet 10 (mIf (mTC gEq2 (mOp gMod (mCall gInt [(mN 8)]) (mC (.int 2))) (mC (.int 0))) (mFn fis_filling [(mN 6), (mN 9)]) (mFnR fis_filling [(mN 9), (mN 6)])))
  (mIfS (mTC gNe2 (mCall gRepr [(mN 10)]) (mCall gRepr [(mFn f_law_is_filling [(mN 4), (mN 9)])])) (mRet (mC (.bl false))) (M.pure .nx))))
  (mIfS (mTC gNe2 (mCall gRepr [(mUn (gPrp "Record" "told" none) (mN 6))]) (mCall gRepr [(mN 4)])) (mRet (mC (.bl false))) (M.pure .nx))))))))
  (mRet (mC (.bl true)))))
def f_law_right : Fs := ⟨[.io], runB [.io] 10 m_law_right⟩
theorem sc_law_right : FnScope ["urn", "strange", "turn", "sizes", "parts", "made", "record", "some", "lap", "value", "told"] ["urn"] (defScope (top 44)) := ⟨rfl, rfl, rfl, by decide +kernel, rfl, by decide +kernel, by decide +kernel⟩
theorem gf_law_right (T : Txt P w K mg base) {f : Addr} {fd : FuncData} (F : Fun K "_law_right" "_law_right" (top 44) f fd) (D_law_of : Df P w K mg base 2 2 "_law_of" f_law_of) (D_law_record : Df P w K mg base 5 4 "_law_record" f_law_record) (D_law_moved : Df P w K mg base 3 3 "_law_moved" f_law_moved) (D_law_odd : Df P w K mg base 3 2 "_law_odd" f_law_odd) (Dis_filling : Df P w K mg base 5 2 "is_filling" fis_filling) (D_law_is_filling : Df P w K mg base 2 2 "_law_is_filling" f_law_is_filling) (DR : RecOk P w K mg base) (DKis_filling : DfR P w K mg base 5 "is_filling" ["value", "record"] fis_filling) : FnG P w K mg base 8 f fd ["urn"] (spOf K mg 1 f_law_right) := by
  have sc := sc_law_right
  exact fn_data (m := m_law_right) F sc rfl 10 rfl (fun _ _ _ h => h) (fun cdv A outer s H E bd =>
    (db_cons (ds_set (i := 1) sc.nd rfl (Or.inl rfl) (d_lst (da_cons dc_non (da_cons dc_bl (da_cons dc_bl (da_cons dc_int (da_cons dc_int (da_cons dc_str (da_cons dc_str (da_cons (d_tup da_nil) (da_cons (d_lst da_nil) (da_cons d_dic0 (da_cons (d_tup (da_cons (d_tup da_nil) da_nil)) (da_cons (d_tup (da_cons dc_int da_nil)) (da_cons (d_tup (da_cons (d_tup (da_cons dc_int da_nil)) da_nil)) (da_cons (d_tup (da_cons (d_tup (da_cons dc_bl da_nil)) da_nil)) (da_cons (d_pow dc_int dc_int) da_nil)))))))))))))))))
    (db_cons (ds_for bd.own bd.calm (di_rng1 rfl (T.nb "range" (by decide +kernel)) dc_int) (dg_name sc.nd rfl (Or.inl rfl)) (db_cons (ds_set (i := 3) sc.nd rfl (Or.inl rfl) (d_fn D_law_of (bd.mono (by decide : 2 ≤ 7)) rfl (da_cons (dn (pv 0)) (da_cons (d_lst (da_cons (d_tup (da_cons dc_int (da_cons dc_int (da_cons dc_int da_nil)))) (da_cons (d_tup (da_cons dc_int (da_cons dc_int (da_cons dc_int da_nil)))) (da_cons (d_tup (da_cons dc_int (da_cons dc_int (da_cons dc_int da_nil)))) da_nil)))) da_nil))))
    (db_cons (ds_asg (d_fn D_law_record (bd.mono (by decide : 5 ≤ 7)) rfl (da_cons (dn (pv 0)) (da_cons (dn (pv 3)) (da_cons (d_fn D_law_of (bd.mono (by decide : 2 ≤ 7)) rfl (da_cons (dn (pv 0)) (da_cons (d_lst (da_cons dc_int (da_cons dc_int (da_cons dc_int da_nil)))) da_nil))) (da_cons (d_fn D_law_of (bd.mono (by decide : 2 ≤ 7)) rfl (da_cons (dn (pv 0)) (da_cons (d_lst (da_cons dc_int (da_cons dc_int (da_cons dc_int da_nil)))) da_nil))) da_nil))))) (dg_tup bd.calm (dgs_cons (dg_name sc.nd rfl (Or.inl rfl)) (dgs_cons (dg_name sc.nd rfl (Or.inl rfl)) dgs_nil))))
    (db_cons (ds_par2 bd.calm sc.nd rfl rfl (by decide) rfl rfl (d_rec3 DR (bd.mono (by decide : KR + 1 ≤ 7)) rfl (da_cons (d_ix (dn (pv 4)) dc_int (fun _ _ => rfl)) (da_cons (d_ix (dn (pv 4)) dc_int (fun _ _ => rfl)) (da_cons (d_ix (dn (pv 4)) dc_int (fun _ _ => rfl)) da_nil)))) (d_lst (da_cons (dn (pv 5)) (da_cons (d_fn D_law_of (bd.mono (by decide : 2 ≤ 7)) rfl (da_cons (dn (pv 0)) (da_cons (dn (pv 1)) da_nil))) (da_cons (d_sl (dn (pv 5)) dp_none (dp_some (d_neg dc_int))) (da_cons (d_revT (dn (pv 5))) da_nil))))) (by first | rfl | kernel_rfl))
    (db_cons (ds_for bd.own bd.calm (di_rng1 rfl (T.nb "range" (by decide +kernel)) (d_ifExp (dt_ne2 bd (dn (pv 5)) (d_tup da_nil)) dc_int dc_int)) (dg_name sc.nd rfl (Or.inl rfl)) (db_cons (ds_expr (d_append (pv 7) (d_fn D_law_moved (bd.mono (by decide : 3 ≤ 7)) rfl (da_cons (dn (pv 0)) (da_cons (dn (pv 5)) (da_cons (d_cb call_len cs_len rfl (T.nb "len" (by decide +kernel)) (by first | rfl | decide +kernel) (da_cons (d_ix (dn (pv 4)) dc_int (fun _ _ => rfl)) da_nil)) da_nil))))))
    (db_one (ds_expr (d_append (pv 7) (d_fn D_law_odd (bd.mono (by decide : 3 ≤ 7)) rfl (da_cons (dn (pv 0)) (da_cons (dn (pv 5)) da_nil))))))))
    (db_cons (ds_for bd.own bd.calm (di_enumL rfl (T.nb "enumerate" (by decide +kernel)) (dn (pv 7))) (dg_tup bd.calm (dgs_cons (dg_name sc.nd rfl (Or.inl rfl)) (dgs_cons (dg_name sc.nd rfl (Or.inl rfl)) dgs_nil))) (db_cons (ds_set (i := 10) sc.nd rfl (Or.inl rfl) (d_ifExp (dt_eq2 bd (d_mod (d_cty call_int1 cs_int rfl (T.nb "int" (by decide +kernel)) (by first | rfl | decide +kernel) (da_cons (dn (pv 8)) da_nil)) dc_int) dc_int) (d_fn Dis_filling (bd.mono (by decide : 5 ≤ 7)) rfl (da_cons (dn (pv 6)) (da_cons (dn (pv 9)) da_nil))) (d_fnR DKis_filling (bd.mono (by decide : 5 ≤ 7)) rfl (dk_cons (dn (pv 9)) (dk_cons (dn (pv 6)) dk_nil)))))
    (db_one (ds_if (dt_ne2 bd (d_repr bd rfl (T.nb "repr" (by decide +kernel)) (dn (pv 10))) (d_repr bd rfl (T.nb "repr" (by decide +kernel)) (d_fn D_law_is_filling (bd.mono (by decide : 2 ≤ 7)) rfl (da_cons (dn (pv 4)) (da_cons (dn (pv 9)) da_nil))))) (db_one (ds_ret dc_bl)) db_nil))))
    (db_one (ds_if (dt_ne2 bd (d_repr bd rfl (T.nb "repr" (by decide +kernel)) (d_prp T.p_parts bd (by decide) (dn (pv 6)) rfl)) (d_repr bd rfl (T.nb "repr" (by decide +kernel)) (dn (pv 4)))) (db_one (ds_ret dc_bl)) db_nil))))))))
    (db_one (ds_ret dc_bl)))))
theorem df_law_right (T : Txt P w K mg base) (F : FnI K mg "_law_right" ["urn"] (top 44)) (D_law_of : Df P w K mg base 2 2 "_law_of" f_law_of) (D_law_record : Df P w K mg base 5 4 "_law_record" f_law_record) (D_law_moved : Df P w K mg base 3 3 "_law_moved" f_law_moved) (D_law_odd : Df P w K mg base 3 2 "_law_odd" f_law_odd) (Dis_filling : Df P w K mg base 5 2 "is_filling" fis_filling) (D_law_is_filling : Df P w K mg base 2 2 "_law_is_filling" f_law_is_filling) (DR : RecOk P w K mg base) (DKis_filling : DfR P w K mg base 5 "is_filling" ["value", "record"] fis_filling) : Df P w K mg base 8 1 "_law_right" f_law_right := by
  obtain ⟨f, fd, F, hm, hk, hb⟩ := F
  exact ⟨⟨f, fd, ["urn"], rfl, gf_law_right T F D_law_of D_law_record D_law_moved D_law_odd Dis_filling D_law_is_filling DR DKis_filling, hm, hk, hb⟩, rfl⟩

/-- law: slots script, lap -/
def mlaw : M Fl := (mRet (mCall gAll [(mLC [1] (mRng1 (mCall gMax2 [(mC (.int 1)), (mCall gMin2 [(mCall gLen [(mN 0)]), (mC (.int 3))])])) (gN 1) (M.pure true) (mFnT f_law_right (mFn f_law_urn [(mN 0), (mN 1)])))]))
def flaw : Fs := ⟨[.fz], runB [.fz] 1 mlaw⟩
theorem sclaw : FnScope ["script", "lap"] ["script"] (defScope (top 45)) := ⟨rfl, rfl, rfl, by decide +kernel, rfl, by decide +kernel, by decide +kernel⟩
theorem gflaw (T : Txt P w K mg base) {f : Addr} {fd : FuncData} (F : Fun K "law" "law" (top 45) f fd) (D_law_right : Df P w K mg base 8 1 "_law_right" f_law_right) (D_law_urn : Df P w K mg base 1 2 "_law_urn" f_law_urn) : FnG P w K mg base 9 f fd ["script"] (spOf K mg 1 flaw) := by
  have sc := sclaw
  exact fn_data (m := mlaw) F sc rfl 1 rfl (fun _ _ _ h => h) (fun cdv A outer s H E bd =>
    (db_one (ds_ret (d_cb (cr_all bd.calm) cs_all rfl (T.nb "all" (by decide +kernel)) (by first | rfl | decide +kernel) (da_cons (d_lc (own := [("lap", 1)]) bd.calm sc.nd (di_rng1 rfl (T.nb "range" (by decide +kernel)) (d_cb (call_max2 bd.calm) cs_max2 rfl (T.nb "max" (by decide +kernel)) (by first | rfl | decide +kernel) (da_cons dc_int (da_cons (d_cb (call_min2 bd.calm) cs_min2 rfl (T.nb "min" (by decide +kernel)) (by first | rfl | decide +kernel) (da_cons (d_cb call_len cs_len rfl (T.nb "len" (by decide +kernel)) (by first | rfl | decide +kernel) (da_cons (dn (pv 0)) da_nil)) (da_cons dc_int da_nil))) da_nil)))) (blkOk_by (by first | rfl | kernel_rfl)) (fun s2 H2 C2 cl2 fp2 => (dgc_name sc.nd rfl (Or.inl rfl))) (fun s2 H2 C2 cl2 fp2 => (d_fnT D_law_right rfl ((bd.blk s2 H2 C2 cl2 fp2).mono (by decide : 8 ≤ 8)) rfl (d_fn D_law_urn ((bd.blk s2 H2 C2 cl2 fp2).mono (by decide : 1 ≤ 8)) rfl (da_cons (dn (pv 0)) (da_cons (dn (pv 1)) da_nil)))))) da_nil)))))
theorem dflaw (T : Txt P w K mg base) (F : FnI K mg "law" ["script"] (top 45)) (D_law_right : Df P w K mg base 8 1 "_law_right" f_law_right) (D_law_urn : Df P w K mg base 1 2 "_law_urn" f_law_urn) : Df P w K mg base 9 1 "law" flaw := by
  obtain ⟨f, fd, F, hm, hk, hb⟩ := F
  exact ⟨⟨f, fd, ["script"], rfl, gflaw T F D_law_right D_law_urn, hm, hk, hb⟩, rfl⟩

end
end K64

/-! K64L: the plain law: the urn. -/
namespace K64
open PySem L2 DL DX

/-- an urn: its stock of figures is never below 0 -/
structure Urn where
  a : Int
  b : Int
  c : Int
  ok : 0 ≤ a
def U (u : Urn) : Dt := .lst [.int u.a, .int u.b, .int u.c]
/-- an urn lies in slot 0 -/
abbrev eU (u : Urn) (rest : DL.Env) : DL.Env := some (U u, .io) :: rest

theorem lent_fz : ∀ (n : Nat) (rl : List R), lent (List.replicate n .fz) rl = []
  | 0, [] => rfl
  | 0, _ :: _ => rfl
  | n + 1, [] => rfl
  | n + 1, r :: rl => lent_fz n rl
theorem putB_fz : ∀ (n : Nat) (rl : List R) (env : DL.Env), putB (List.replicate n .fz) rl (List.replicate n .non) env = env
  | 0, [], _ => rfl
  | 0, _ :: _, _ => rfl
  | n + 1, [], _ => rfl
  | n + 1, r :: rl, env => putB_fz n rl env
theorem ok_urn {fs : Fs} {u u' : Urn} {ds : List Dt} {rl : List R} {rest : DL.Env} {q : R} {kr : R → DL.Env → Prop} (n : Nat) (hio : fs.io = .io :: List.replicate n .fz) (h : fs.run (U u :: ds) = some (.ret q (U u' :: List.replicate n .non))) (nl : isLoc q = false) (k : kr q (eU u' rest)) :
    OK (callF fs (.loc 0 :: rl) (U u :: ds)) (eU u rest) kr := by
  have hl : lent fs.io (.loc 0 :: rl) = [0] := by
    rw [hio]
    show 0 :: lent (List.replicate n .fz) rl = _
    rw [lent_fz]
  have hp : putB fs.io (.loc 0 :: rl) (U u' :: List.replicate n .non) (eU u rest) = eU u' rest := by
    rw [hio]
    show putB (List.replicate n .fz) rl (List.replicate n .non) (setD (eU u rest) 0 (U u')) = _
    rw [putB_fz]
    rfl
  have hlen : (U u' :: List.replicate n .non).length = fs.io.length := by
    rw [hio]
    simp
  refine ⟨q, eU u' rest, ?_, k⟩
  unfold callF
  rw [hl, if_pos ⟨by simp, by simp⟩, h]
  cases q with
  | val d => simp only [if_pos hlen, hp]
  | new d => simp only [if_pos hlen, hp]
  | loc i => cases nl

@[simp] theorem io_take : f_law_take.io = [.io, .fz] := rfl
@[simp] theorem io_of : f_law_of.io = [.io, .fz] := rfl
@[simp] theorem io_names : f_law_names.io = [.io, .fz] := rfl
@[simp] theorem io_record_of : f_law_record_of.io = [.io, .fz, .fz, .fz, .fz] := rfl
@[simp] theorem io_record : f_law_record.io = [.io, .fz, .fz, .fz] := rfl
@[simp] theorem ioD_U {u : Urn} {rest : DL.Env} : ioD (some (U u, .io) :: rest) 0 = some (U u) := rfl

theorem take_ok (u : Urn) {n : Int} (hn : 0 < n) (hn2 : n < 1073741824) : ∃ r u', (0 ≤ r ∧ r < n) ∧ f_law_take.run [U u, .int n] = some (.ret (.val (.int r)) [U u', .non]) := by
  obtain ⟨a, b, c, ha⟩ := u
  have e : ∃ r outs, (∃ i u', (0 ≤ i ∧ i < n) ∧ r = .val (.int i) ∧ outs = [U u', .non]) ∧ runB [.io, .fz] 2 m_law_take [U ⟨a, b, c, ha⟩, .int n] = some (.ret r outs) := by
    refine run_fin ?_
    show OK m_law_take [some (.lst [.int a, .int b, .int c], .io), some (.int n, .fz), none, none] _
    unfold m_law_take
    simp
    refine okIf_dec (fun h => ?_) (fun h => ?_)
    · simp
      exact ⟨⟨hn, hn2⟩, _, ⟨Int.emod_nonneg a (by omega), Int.emod_lt_of_pos a hn⟩, rfl, ⟨a / n, b, c, Int.ediv_nonneg ha (by omega)⟩, rfl⟩
    · simp
      have h1 := Int.emod_nonneg (b * 40009 + 15013 * (c + 1)) (show (2147483629 : Int) ≠ 0 by decide)
      have h2 := Int.emod_lt_of_pos (b * 40009 + 15013 * (c + 1)) (show (0 : Int) < 2147483629 by decide)
      exact ⟨Or.inl ⟨by omega, by omega⟩, hn, _, ⟨Int.emod_nonneg _ (by omega), Int.emod_lt_of_pos _ hn⟩, rfl, ⟨a, _, c + 1, ha⟩, rfl⟩
  obtain ⟨r, outs, ⟨i, u', hi, rfl, rfl⟩, h⟩ := e
  exact ⟨i, u', hi, h⟩
theorem ok_take {u : Urn} {n : Int} {r : R} {rest : DL.Env} {kr : R → DL.Env → Prop} (hn : 0 < n) (hn2 : n < 1073741824) (k : ∀ i u', 0 ≤ i → i < n → kr (.val (.int i)) (eU u' rest)) : OK (callF f_law_take [.loc 0, r] [U u, .int n]) (eU u rest) kr := by
  obtain ⟨i, u', ⟨h0, h1⟩, h⟩ := take_ok u hn hn2
  exact ok_urn 1 rfl h rfl (k i u' h0 h1)

theorem atD_in {x : List Dt} {i : Int} (h0 : 0 ≤ i) (h : i < x.length) : ∃ d, d ∈ x ∧ atD x i = some d := by
  obtain ⟨n, rfl⟩ := Int.eq_ofNat_of_zero_le h0
  have hn : n < x.length := by omega
  exact ⟨x[n], List.getElem_mem hn, atD_nat (List.getElem?_eq_getElem hn)⟩
theorem of_ok (u : Urn) {x : List Dt} (t : Bool) (h0 : 0 < x.length) (hl : x.length ≤ line) : ∃ d u', d ∈ x ∧ f_law_of.run [U u, if t then .tup x else .lst x] = some (.ret (.val d) [U u', .non]) := by
  have e : ∃ r outs, (∃ d u', d ∈ x ∧ r = .val d ∧ outs = [U u', .non]) ∧ runB [.io, .fz] 0 m_law_of [U u, if t then .tup x else .lst x] = some (.ret r outs) := by
    refine run_fin ?_
    show OK m_law_of [some (U u, .io), some (if t then .tup x else .lst x, .fz)] _
    unfold m_law_of
    unfold line at hl
    cases t <;> simp <;> refine ok_take ?_ ?_ (fun i u' g0 g1 => ?_)
    · omega
    · omega
    · obtain ⟨d, hd, e⟩ := atD_in g0 g1
      simp [e]
      exact ⟨d, hd, rfl, u', rfl⟩
    · omega
    · omega
    · obtain ⟨d, hd, e⟩ := atD_in g0 g1
      simp [e]
      exact ⟨d, hd, rfl, u', rfl⟩
  obtain ⟨r, outs, ⟨i, u', hi, rfl, rfl⟩, h⟩ := e
  exact ⟨i, u', hi, h⟩
theorem ok_ofL {u : Urn} {x : List Dt} {r : R} {rest : DL.Env} {kr : R → DL.Env → Prop} (h0 : 0 < x.length) (hl : x.length ≤ line) (k : ∀ d u', d ∈ x → kr (.val d) (eU u' rest)) : OK (callF f_law_of [.loc 0, r] [U u, .lst x]) (eU u rest) kr := by
  obtain ⟨i, u', hi, h⟩ := of_ok u false h0 hl
  exact ok_urn 1 rfl h rfl (k i u' hi)
theorem ok_ofT {u : Urn} {x : List Dt} {r : R} {rest : DL.Env} {kr : R → DL.Env → Prop} (h0 : 0 < x.length) (hl : x.length ≤ line) (k : ∀ d u', d ∈ x → kr (.val d) (eU u' rest)) : OK (callF f_law_of [.loc 0, r] [U u, .tup x]) (eU u rest) kr := by
  obtain ⟨i, u', hi, h⟩ := of_ok u true h0 hl
  exact ok_urn 1 rfl h rfl (k i u' hi)
def letters : Str := "abcdefghijklmnopqrstuvwxyz"
theorem atI_let {i : Int} (h0 : 0 ≤ i) (h : i < 26) : atI letters.cps.toList i = some (i.toNat + 97) := by
  obtain ⟨n, rfl⟩ := Int.eq_ofNat_of_zero_le h0
  have hn : n < 26 := by omega
  have hn' : n < 26 := hn
  have key : ∀ m : Nat, m < 26 → atI letters.cps.toList (m : Int) = some (m + 97) := by decide +kernel
  exact key n hn
theorem ofS_ok (u : Urn) : ∃ c u', (97 ≤ c ∧ c < 123) ∧ f_law_of.run [U u, .str letters] = some (.ret (.val (.str ⟨#[c]⟩)) [U u', .non]) := by
  have hlen : letters.length = 26 := by decide +kernel
  have e : ∃ r outs, (∃ c u', (97 ≤ c ∧ c < 123) ∧ r = .val (.str ⟨#[c]⟩) ∧ outs = [U u', .non]) ∧ runB [.io, .fz] 0 m_law_of [U u, .str letters] = some (.ret r outs) := by
    refine run_fin ?_
    show OK m_law_of [some (U u, .io), some (.str letters, .fz)] _
    unfold m_law_of
    simp [hlen, line]
    refine ok_take ?_ ?_ (fun i u' g0 g1 => ?_)
    · omega
    · omega
    · simp [hlen, line, atI_let g0 g1]
      exact ⟨_, ⟨by omega, by omega⟩, rfl, u', rfl⟩
  obtain ⟨r, outs, ⟨i, u', hi, rfl, rfl⟩, h⟩ := e
  exact ⟨i, u', hi, h⟩
theorem ok_ofS {u : Urn} {r : R} {rest : DL.Env} {kr : R → DL.Env → Prop} (k : ∀ c u', 97 ≤ c → c < 123 → kr (.val (.str ⟨#[c]⟩)) (eU u' rest)) : OK (callF f_law_of [.loc 0, r] [U u, .str letters]) (eU u rest) kr := by
  obtain ⟨i, u', hi, h⟩ := ofS_ok u
  exact ok_urn 1 rfl h rfl (k i u' hi.1 hi.2)
end K64

/-! K64M: the plain law: the urn of a script, names. -/
namespace K64
open PySem L2 DL DX

/-- small letters alone -/
def Lets (s : Str) : Prop := ∀ c ∈ s.cps.toList, 97 ≤ c ∧ c < 123
/-- a name -/
structure Nm (s : Str) : Prop where
  pos : 1 ≤ s.length
  most : s.length ≤ 8
  lets : Lets s
theorem Lets.app {s t : Str} (h : Lets s) (h2 : Lets t) : Lets (s ++ t) := fun c hc => by
  rcases List.mem_append.1 (by rw [show (s ++ t).cps = s.cps ++ t.cps from rfl, Array.toList_append] at hc; exact hc) with h' | h'
  · exact h c h'
  · exact h2 c h'
theorem Lets.one {c : Nat} (h : 97 ≤ c) (h2 : c < 123) : Lets ⟨#[c]⟩ := fun d hd => by
  have : d = c := by simpa using hd
  subst this
  exact ⟨h, h2⟩
theorem Lets.cut {s : Str} (h : Lets s) (lo hi : Option Int) : Lets (cutS s lo hi) := fun c hc => by
  unfold cutS at hc
  simp only [List.toList_toArray] at hc
  exact h c (List.mem_of_mem_drop (List.mem_of_mem_take hc))
theorem len_one (c : Nat) : (⟨#[c]⟩ : Str).length = 1 := rfl
theorem cut_lens {s : Str} {at' : Int} (h0 : 0 ≤ at') (h1 : at' ≤ s.length) : (cutS s none (some at')).length + (cutS s (some at') none).length = s.length := by
  obtain ⟨n, rfl⟩ := Int.eq_ofNat_of_zero_le h0
  have hn : n ≤ s.length := by omega
  have e1 : HT.sIx s.length s.length (some (n : Int)) = n := by rw [HT.sIx_nat]; omega
  have e2 : HT.sIx s.length 0 (some (n : Int)) = n := by rw [HT.sIx_nat]; omega
  have l : s.cps.toList.length = s.length := rfl
  unfold cutS
  rw [e1, e2, HT.sIx_none, HT.sIx_none]
  show (List.toArray _).size + (List.toArray _).size = _
  simp only [List.size_toArray, List.length_take, List.length_drop, l]
  omega
theorem gNotIn_str {s : Str} {ns : List Str} : gNotIn (.str s) (.lst (ns.map .str)) = some (.val (.bl (!decide (s ∈ ns)))) := by
  have h1 : (ns.map Dt.str).all flatD = true := by
    rw [List.all_map]
    exact List.all_eq_true.2 fun _ _ => rfl
  have h2 : (ns.map Dt.str).any (fun d => eqD d (.str s)) = decide (s ∈ ns) := by
    rw [List.any_map]
    induction ns with
    | nil => rfl
    | cons n ns ih =>
      have ih' := ih (by rw [List.all_map]; exact List.all_eq_true.2 fun _ _ => rfl)
      simp only [List.any_cons, Function.comp] at ih' ⊢
      rw [ih']
      show (n == s || decide (s ∈ ns)) = decide (s ∈ n :: ns)
      by_cases e : n = s
      · subst e; simp
      · have e' : ¬ s = n := fun z => e z.symm
        simp [e, e']
  show (inD (.str s) (.lst (ns.map .str))).map _ = _
  unfold inD seqD
  simp only [h1, h2]
  rfl
theorem rep_one (c : Nat) : gTimes (.str ⟨#[c]⟩) (.int 8) = some (.val (.str ⟨#[c, c, c, c, c, c, c, c]⟩)) := rfl
theorem let_at {i : Int} (h0 : 0 ≤ i) (h : i < 26) : gIdx (.str letters) (.int i) = some (.val (.str ⟨#[i.toNat + 97]⟩)) := by
  have hlen : letters.length = 26 := by decide +kernel
  simp [hlen, line, atI_let h0 h]

/-- the names found up to a turn -/
structure Found (t : Nat) (ns : List Str) : Prop where
  len : ns.length = t
  nd : ns.Nodup
  nm : ∀ s ∈ ns, Nm s
  has : ∀ s ∈ ns, ∃ j, j < t ∧ j + 97 ∈ s.cps.toList
theorem Found.next {t : Nat} {ns : List Str} (F : Found t ns) {s : Str} (ht : t < 26) (h : Nm s) (hh : t + 97 ∈ s.cps.toList) : Found (t + 1) (ns ++ [if s ∈ ns then ⟨#[t + 97, t + 97, t + 97, t + 97, t + 97, t + 97, t + 97, t + 97]⟩ else s]) := by
  have e8 : (⟨#[t + 97, t + 97, t + 97, t + 97, t + 97, t + 97, t + 97, t + 97]⟩ : Str) ∉ ns := fun hm => by
    obtain ⟨j, hj, hc⟩ := F.has _ hm
    have : j + 97 = t + 97 := by simpa using hc
    omega
  have n8 : Nm (⟨#[t + 97, t + 97, t + 97, t + 97, t + 97, t + 97, t + 97, t + 97]⟩ : Str) := by
    refine ⟨by show 1 ≤ 8; omega, by show 8 ≤ 8; omega, fun c hc => ?_⟩
    have : c = t + 97 := by simpa using hc
    omega
  have nx : (if s ∈ ns then (⟨#[t + 97, t + 97, t + 97, t + 97, t + 97, t + 97, t + 97, t + 97]⟩ : Str) else s) ∉ ns := by
    by_cases c : s ∈ ns
    · rw [if_pos c]; exact e8
    · rw [if_neg c]; exact c
  have nN : Nm (if s ∈ ns then (⟨#[t + 97, t + 97, t + 97, t + 97, t + 97, t + 97, t + 97, t + 97]⟩ : Str) else s) := by
    by_cases c : s ∈ ns
    · rw [if_pos c]; exact n8
    · rw [if_neg c]; exact h
  have nH : t + 97 ∈ (if s ∈ ns then (⟨#[t + 97, t + 97, t + 97, t + 97, t + 97, t + 97, t + 97, t + 97]⟩ : Str) else s).cps.toList := by
    by_cases c : s ∈ ns
    · rw [if_pos c]; simp
    · rw [if_neg c]; exact hh
  refine ⟨by simp [F.len], ?_, fun x hx => ?_, fun x hx => ?_⟩
  · rw [List.nodup_append]
    refine ⟨F.nd, by simp, fun a ha b hb => ?_⟩
    simp only [List.mem_singleton] at hb
    subst hb
    exact fun e => nx (e ▸ ha)
  · rcases List.mem_append.1 hx with hx | hx
    · exact F.nm x hx
    · simp only [List.mem_singleton] at hx
      subst hx
      exact nN
  · rcases List.mem_append.1 hx with hx | hx
    · obtain ⟨j, hj, hc⟩ := F.has x hx
      exact ⟨j, by omega, hc⟩
    · simp only [List.mem_singleton] at hx
      subst hx
      exact ⟨t, by omega, nH⟩
theorem rangeD_cons {a : Int} {n : Nat} (h : 0 < n) : rangeD a n = .int a :: rangeD (a + 1) (n - 1) := by
  obtain ⟨m, rfl⟩ : ∃ m, n = m + 1 := ⟨n - 1, by omega⟩
  rfl
theorem rangeD_len : ∀ (n : Nat) (a : Int), (rangeD a n).length = n
  | 0, _ => rfl
  | n + 1, a => by
    show (rangeD (a + 1) n).length + 1 = _
    rw [rangeD_len n]

def INames (n : Nat) (ds : List Dt) (e : DL.Env) : Prop := ∃ (t : Nat) (u : Urn) (ns : List Str) (s4 s5 s6 s7 s8 : Option (Dt × Md)), t ≤ n ∧ ds = rangeD (t : Int) (n - t) ∧ Found t ns ∧ (isIo s4 = false ∧ isIo s5 = false ∧ isIo s6 = false ∧ isIo s7 = false ∧ isIo s8 = false) ∧
  e = [some (U u, .io), some (.int n, .fz), some (.lst (ns.map .str), .ow), some (.str letters, .fz), s4, s5, s6, s7, s8]
theorem names_ok (u : Urn) {n : Nat} (hn : n ≤ 26) : ∃ ns u', Found n ns ∧ f_law_names.run [U u, .int n] = some (.ret (.new (.lst (ns.map .str))) [U u', .non]) := by
  have e : ∃ r outs, (∃ ns u', Found n ns ∧ r = .new (.lst (ns.map .str)) ∧ outs = [U u', .non]) ∧ runB [.io, .fz] 7 m_law_names [U u, .int n] = some (.ret r outs) := by
    refine run_fin ?_
    show OK m_law_names [some (U u, .io), some (.int n, .fz), none, none, none, none, none, none, none] _
    unfold m_law_names
    simp [line, putA, asV, bndR]
    refine ⟨by omega, ?_⟩
    refine ok_forL (INames n) ?_ _ _ ?_ ?_
    · rintro d ds e ⟨t, u, ns, s4, s5, s6, s7, s8, ht, hd, F, ⟨i4, i5, i6, i7, i8⟩, rfl⟩
      have ht' : t < n := by
        by_cases c : t < n
        · exact c
        · have z : n - t = 0 := by omega
          rw [z] at hd
          cases hd
      rw [rangeD_cons (by omega)] at hd
      injection hd with hd1 hd2
      subst hd1
      simp [i4, i5, i6, i7, i8, line]
      refine ok_ofL (by simp) (by simp [line]) (fun d u1 hd => ?_)
      obtain ⟨size, rfl, hs⟩ : ∃ size : Nat, d = .int size ∧ size ≤ 7 := by
        simp only [List.mem_cons, List.not_mem_nil, or_false] at hd
        rcases hd with rfl | rfl | rfl | rfl | rfl
        · exact ⟨0, rfl, by omega⟩
        · exact ⟨0, rfl, by omega⟩
        · exact ⟨1, rfl, by omega⟩
        · exact ⟨3, rfl, by omega⟩
        · exact ⟨7, rfl, by omega⟩
      simp [i4, i5, i6, i7, i8, putA, asV, bndR]
      refine ⟨by omega, ?_⟩
      refine ok_forL (fun ds e => ∃ (u : Urn) (s : Str) (s7 : Option (Dt × Md)), isIo s7 = false ∧ Lets s ∧ s.length + ds.length = size ∧
        e = [some (U u, .io), some (.int n, .fz), some (.lst (ns.map .str), .ow), some (.str letters, .fz), some (.int t, .fz), some (.int size, .fz), some (.str s, .fz), s7, s8]) ?_ _ _ ?_ ?_
      · rintro d ds e ⟨u, s, s7, i7, hl, hlen, rfl⟩
        simp [i7]
        refine ok_ofS (fun c u' c1 c2 => ?_)
        simp only [List.length_cons] at hlen
        have hl1 : (⟨#[c]⟩ : Str).length = 1 := rfl
        simp [hl1, line]
        refine ⟨by omega, u', _, _, rfl, hl.app (.one c1 c2), ?_, rfl, rfl, rfl⟩
        rw [strLen_append, hl1]
        omega
      · exact ⟨u1, "", s7, i7, (fun c hc => by cases hc), by
          rw [rangeD_len]
          exact Nat.zero_add _, rfl⟩
      · rintro e ⟨u2, s, s7, i7, hl, hlen, rfl⟩
        simp [i7, i8]
        simp only [List.length_nil, Nat.add_zero] at hlen
        refine ok_take (by omega) (by omega) (fun at' u3 a0 a1 => ?_)
        have hc := cut_lens (s := s) a0 (by omega)
        have hlet : letters.length = 26 := by decide +kernel
        have l1 : (⟨#[t + 97]⟩ : Str).length = 1 := rfl
        have h26 : t < 26 := by omega
        have eat : atI letters.cps.toList (t : Int) = some (t + 97) := atI_let (i := (t : Int)) (by omega) (by omega)
        have hl1 : Lets (cutS s none (some at') ++ ⟨#[t + 97]⟩ ++ cutS s (some at') none) := ((hl.cut _ _).app (.one (by omega) (by omega))).app (hl.cut _ _)
        have hlen1 : (cutS s none (some at') ++ ⟨#[t + 97]⟩ ++ cutS s (some at') none : Str).length = size + 1 := by
          rw [strLen_append, strLen_append, l1]
          omega
        have hmem : t + 97 ∈ (cutS s none (some at') ++ ⟨#[t + 97]⟩ ++ cutS s (some at') none : Str).cps.toList := by
          rw [Str.cps_append, Str.cps_append, Array.toList_append, Array.toList_append, List.mem_append, List.mem_append]
          exact .inl (.inr (by simp))
        have c1 : (cutS s none (some at')).length ≤ 7 := by omega
        have c2 : (cutS s (some at') none).length ≤ 7 := by omega
        have b1 : s.length ≤ line := by unfold line; omega
        have b2 : letters.length ≤ line := by unfold line; omega
        have b3 : (cutS s none (some at')).length + (⟨#[t + 97]⟩ : Str).length ≤ line := by unfold line; omega
        have b4 : (cutS s none (some at') ++ ⟨#[t + 97]⟩ : Str).length + (cutS s (some at') none).length ≤ line := by rw [strLen_append]; unfold line; omega
        generalize hz : cutS s none (some at') ++ (⟨#[t + 97]⟩ : Str) ++ cutS s (some at') none = z at hl1 hlen1 hmem
        have Nz : Nm z := ⟨by omega, by omega, hl1⟩
        have F2 := F.next h26 Nz hmem
        have hns := F.len
        simp [i7, i8, b1, b2, b3, b4, eat, hz, gNotIn_str]
        refine okIf_by (fun q => ?_) (fun q => ?_)
        · simp at q
          rw [if_neg q] at F2
          simp
          refine ⟨by omega, t + 1, u3, ns ++ [z], _, _, _, _, _, by omega, ?_, F2, ⟨rfl, rfl, rfl, i7, rfl⟩, by rw [List.map_append]; rfl⟩
          rw [hd2, show n - (t + 1) = n - t - 1 by omega]
          simp
        · simp at q
          rw [if_pos q] at F2
          simp [b2, eat, rep_one]
          refine ⟨by omega, t + 1, u3, ns ++ [_], _, _, _, _, _, by omega, ?_, F2, ⟨rfl, rfl, rfl, i7, rfl⟩, by rw [List.map_append]; rfl⟩
          rw [hd2, show n - (t + 1) = n - t - 1 by omega]
          simp
    · exact ⟨0, u, [], none, none, none, none, none, by omega, by simp, ⟨rfl, by simp, by simp, by simp⟩, by simp, by simp [letters]⟩
    · rintro e ⟨t, u, ns, s4, s5, s6, s7, s8, ht, hd, F, hi, rfl⟩
      have : t = n := by
        by_cases c : t < n
        · rw [rangeD_cons (by omega)] at hd
          cases hd
        · omega
      subst this
      simp
      exact ⟨ns, F, rfl, u, rfl⟩
  obtain ⟨r, outs, ⟨i, u', hi, rfl, rfl⟩, h⟩ := e
  exact ⟨i, u', hi, h⟩
theorem ok_names {u : Urn} {n : Nat} {r : R} {rest : DL.Env} {kr : R → DL.Env → Prop} (hn : n ≤ 26) (k : ∀ ns u', Found n ns → kr (.new (.lst (ns.map .str))) (eU u' rest)) : OK (callF f_law_names [.loc 0, r] [U u, .int n]) (eU u rest) kr := by
  obtain ⟨ns, u', F, h⟩ := names_ok u hn
  exact ok_urn 1 rfl h rfl (k ns u' F)
end K64

/-! K64Q: the plain law: lots, uses, counts as data; sorted ones. -/
namespace K64
open PySem L2 DL DX

structure Lot where
  n : Str
  u : Int
  f : Int
  e : Int
structure Use where
  n : Str
  t : Int
  u : Int
structure Cnt where
  t : Int
  n : Str
  c : Int
def lotD (l : Lot) : Dt := .tup [.str l.n, .int l.u, .int l.f, .int l.e]
def useD (l : Use) : Dt := .tup [.str l.n, .int l.t, .int l.u]
def cntD (l : Cnt) : Dt := .tup [.int l.t, .str l.n, .int l.c]
def cntK (l : Cnt) : List Key := [.inl l.t, .inr l.n, .inl l.c]
structure LotOk (l : Lot) : Prop where
  n : Nm l.n
  u : 1 ≤ l.u ∧ l.u ≤ 999
  f : 0 ≤ l.f ∧ l.f ≤ 99
  e : l.f ≤ l.e ∧ l.e ≤ 99
structure UseOk (l : Use) : Prop where
  n : Nm l.n
  t : 0 ≤ l.t ∧ l.t ≤ 99
  u : 1 ≤ l.u ∧ l.u ≤ 999
structure CntOk (l : Cnt) : Prop where
  t : 0 ≤ l.t ∧ l.t ≤ 99
  n : Nm l.n
  c : 0 ≤ l.c ∧ l.c ≤ 999
structure Lots (ls : List Lot) : Prop where
  ok : ∀ l ∈ ls, LotOk l
  asc : ls.Pairwise fun a b => ltS a.n b.n = true
  len : ls.length ≤ 10
structure Uses (us : List Use) : Prop where
  ok : ∀ l ∈ us, UseOk l
  asc : us.Pairwise fun a b => a.n ≠ b.n ∧ a.t ≤ b.t
  len : us.length ≤ 24
structure Cnts (ls : List Lot) (cs : List Cnt) : Prop where
  ok : ∀ l ∈ cs, CntOk l
  asc : cs.Pairwise fun a b => MS.klt (cntK a) (cntK b) = true
  len : cs.length ≤ 16
  nm : ∀ c ∈ cs, c.n ∈ ls.map (·.n)
def partsD (ls : List Lot) (us : List Use) (cs : List Cnt) : Dt := .tup [.tup (ls.map lotD), .tup (us.map useD), .tup (cs.map cntD)]

theorem srt_pair {α : Type} {lt : α → α → Bool} (anti : ∀ a b, lt a b = false → lt b a = false → a = b) : ∀ {l : List α}, SrtO.Srtd lt l → l.Nodup → l.Pairwise fun a b => lt a b = true
  | [], _, _ => .nil
  | x :: l, h, nd => by
    have h' := h
    unfold SrtO.Srtd at h'
    rw [List.pairwise_cons] at h'
    rw [List.nodup_cons] at nd
    refine .cons (fun y hy => ?_) (srt_pair anti (by unfold SrtO.Srtd; exact h'.2) nd.2)
    cases c : lt x y with
    | true => rfl
    | false =>
      have := anti x y c (h'.1 y hy)
      subst this
      exact absurd hy nd.1
theorem sort_str {ns : List Str} (nd : ns.Nodup) : (isort ltS ns).Pairwise fun a b => ltS a b = true :=
  srt_pair ltS_anti (isort_srt ltS_swo ns) ((isort_perm ns).nodup_iff.2 nd)
theorem sort_int (ts : List Int) : (isort ltI ts).Pairwise fun a b => a ≤ b := by
  have h := isort_srt ltI_swo ts
  unfold SrtO.Srtd at h
  exact h.imp fun {a b} q => by
    unfold ltI at q
    simp at q
    omega
theorem gSort_int (ts : List Int) : gSort2 [.lst (ts.map .int)] = some (.new (.lst ((isort ltI ts).map .int))) := by
  have e : ∀ l : List Int, intA (l.map .int) = some l := fun l => by
    induction l with
    | nil => rfl
    | cons a l ih =>
      show (intA (l.map .int)).map _ = _
      rw [ih]
      rfl
  cases ts with
  | nil => rfl
  | cons a l =>
    have h1 : gSortS [.lst ((a :: l).map .int)] = none := rfl
    have h2 : gSortI [.lst ((a :: l).map .int)] = some (.new (.lst ((isort ltI (a :: l)).map .int))) := by
      show (match intA ((a :: l).map .int) with | some xs => some (R.new (.lst ((isort ltI xs).map Dt.int))) | none => none) = _
      rw [e]
    unfold gSort2 gCOr
    rw [h1]
    exact h2
theorem gSort_str {ns : List Str} (h : ns.length < 64) : gSort2 [.lst (ns.map .str)] = some (.new (.lst ((isort ltS ns).map .str))) := by
  have e : ∀ l : List Str, strA (l.map .str) = some l := fun l => by
    induction l with
    | nil => rfl
    | cons a l ih =>
      show (strA (l.map .str)).map _ = _
      rw [ih]
      rfl
  have h2 : gSortS [.lst (ns.map .str)] = some (.new (.lst ((isort ltS ns).map .str))) := by
    show (match strA (ns.map .str) with | some xs => if xs.length < 64 then some (R.new (.lst ((isort ltS xs).map Dt.str))) else none | none => none) = _
    rw [e]
    exact if_pos h
  unfold gSort2 gCOr
  rw [h2]
theorem cntK_inj {a b : Cnt} (h : cntK a = cntK b) : a = b := by
  obtain ⟨t, n, c⟩ := a
  obtain ⟨t', n', c'⟩ := b
  unfold cntK at h
  simp only [List.cons.injEq, Sum.inl.injEq, Sum.inr.injEq, and_true] at h
  obtain ⟨rfl, rfl, rfl⟩ := h
  rfl
theorem from_keys : ∀ {ks : List (List Key)} {cs : List Cnt}, (∀ k ∈ ks, k ∈ cs.map cntK) → ∃ ds : List Cnt, (∀ d ∈ ds, d ∈ cs) ∧ ks = ds.map cntK
  | [], _, _ => ⟨[], by simp, rfl⟩
  | k :: ks, cs, h => by
    obtain ⟨d, hd, e⟩ := List.mem_map.1 (h k List.mem_cons_self)
    obtain ⟨ds, h1, h2⟩ := from_keys (ks := ks) (cs := cs) fun k hk => h k (List.mem_cons_of_mem _ hk)
    refine ⟨d :: ds, fun x hx => ?_, by rw [List.map_cons, e, h2]⟩
    rcases List.mem_cons.1 hx with rfl | hx
    · exact hd
    · exact h1 x hx
theorem dedup_len {α : Type} [DecidableEq α] : ∀ l : List α, (dedup l).length ≤ l.length
  | [] => Nat.le_refl _
  | x :: l => by
    have ih := dedup_len l
    unfold dedup
    split
    · simp only [List.length_cons]; omega
    · simp only [List.length_cons]; omega
/-- sorted(set(counts)) -/
theorem sorted_counts (cs : List Cnt) (h : cs.length < 64) : ∃ ds : List Cnt, ssD (cs.map cntD) = some (ds.map cntD) ∧ (∀ d ∈ ds, d ∈ cs) ∧ ds.length ≤ cs.length ∧ ds.Pairwise fun a b => MS.klt (cntK a) (cntK b) = true := by
  have hk : keysA (cs.map cntD) = some (cs.map cntK) := by
    induction cs with
    | nil => rfl
    | cons c cs ih =>
      have ih' := ih (by simp only [List.length_cons] at h; omega)
      show (match keyA [.int c.t, .str c.n, .int c.c], keysA (cs.map cntD) with | some k, some ks => some (k :: ks) | _, _ => none) = _
      rw [ih']
      rfl
  have ha : alike (cs.map cntK) = true := by
    cases cs with
    | nil => rfl
    | cons c cs =>
      show (!(MS.kinds (cntK c)).isEmpty && (cs.map cntK).all fun m => MS.kinds m == MS.kinds (cntK c)) = true
      rw [Bool.and_eq_true]
      refine ⟨rfl, ?_⟩
      rw [List.all_map]
      exact List.all_eq_true.2 fun _ _ => rfl
  have mem : ∀ k ∈ sortK (cs.map cntK), k ∈ cs.map cntK := fun k hk => mem_dedup.1 ((isort_perm _).mem_iff.1 hk)
  obtain ⟨ds, h1, h2⟩ := from_keys mem
  refine ⟨ds, ?_, h1, ?_, ?_⟩
  · unfold ssD
    rw [hk]
    simp only
    rw [if_pos ⟨by rw [List.length_map]; exact h, ha⟩, h2, List.map_map]
    rfl
  · have q := dedup_len (cs.map cntK)
    have q2 : (sortK (cs.map cntK)).length = (dedup (cs.map cntK)).length := (isort_perm _).length_eq
    rw [h2, List.length_map] at q2
    rw [List.length_map] at q
    omega
  · have p := srt_pair (lt := MS.klt) (fun a b q1 q2 => MS.klt_eq q1 q2) (isort_srt (MS.klt_swo id) (dedup (cs.map cntK))) ((isort_perm _).nodup_iff.2 (nodup_dedup _))
    have p' : (sortK (cs.map cntK)).Pairwise fun a b => MS.klt a b = true := p
    rw [h2, List.pairwise_map] at p'
    exact p'
end K64

/-! K64T: the plain law: what may be shown and compared. -/
namespace K64
open PySem L2 DL DX

structure Fit (d : Dt) (k n : Nat) : Prop where
  ex : ∃ p, pyD d = some p ∧ p.showable = true ∧ p.depth ≤ k ∧ p.shown.length ≤ n ∧ p.canLay0 = true
  pl : plT d = true
structure FitA (ds : List Dt) (k N : Nat) : Prop where
  ex : ∃ ps, pyA ds = some ps ∧ PyData.showableAll ps = true ∧ PyData.depthAll ps ≤ k ∧ piled (PyData.shownAll ps) ≤ N ∧ PyData.canLayAll0 ps = true
  pl : plA ds = true
theorem Fit.mono {d : Dt} {k k' n n' : Nat} (h : Fit d k n) (hk : k ≤ k') (hn : n ≤ n') : Fit d k' n' := by
  obtain ⟨p, e, s, dp, l, c⟩ := h.ex
  exact ⟨⟨p, e, s, Nat.le_trans dp hk, Nat.le_trans l hn, c⟩, h.pl⟩
theorem Fit.int {i : Int} (h0 : 0 ≤ i) (h : i ≤ 999) : Fit (.int i) 0 3 := by
  have hl : (Str.ofString (toString i)).length ≤ 3 := PyProof.Rows.toString_length_le h0 (by omega) (by omega)
  refine ⟨⟨.int i, rfl, ?_, Nat.le_refl _, ?_, rfl⟩, rfl⟩
  · have hn : i.natAbs < 1024 := by omega
    have : i.natAbs.log2 < 1920 := by
      by_cases z : i.natAbs = 0
      · rw [z]; decide
      · exact Nat.lt_of_lt_of_le ((Nat.log2_lt z (k := 10)).2 (by omega)) (by omega)
    simp only [PyData.showable]
    exact decide_eq_true this
  · exact hl
theorem Fit.str {s : Str} (h : Nm s) : Fit (.str s) 0 82 := by
  refine ⟨⟨.str s, rfl, rfl, Nat.le_refl _, ?_, ?_⟩, rfl⟩
  · have q := StrLaws.reprText_len s fun c hc => by have := h.lets c hc; omega
    have := h.most
    show (reprText s).length ≤ 82
    omega
  · show PyData.strOk s = true
    unfold PyData.strOk
    rw [Array.all_eq_true']
    intro c hc
    have := h.lets c (by simpa using hc)
    exact decide_eq_true (by omega)
theorem FitA.nil {k : Nat} : FitA [] k 0 := ⟨⟨[], rfl, rfl, Nat.zero_le _, Nat.le_refl _, rfl⟩, rfl⟩
theorem FitA.cons {d : Dt} {ds : List Dt} {k n N : Nat} (h : Fit d k n) (h2 : FitA ds k N) : FitA (d :: ds) k (n + 2 + N) := by
  obtain ⟨p, e, s, dp, l, c⟩ := h.ex
  obtain ⟨⟨ps, e2, s2, dp2, l2, c2⟩, pl2⟩ := h2
  refine ⟨⟨p :: ps, ?_, ?_, ?_, ?_, ?_⟩, ?_⟩
  · show (match pyD d, pyA ds with | some p, some ps => some (p :: ps) | _, _ => none) = _
    rw [e, e2]
  · show (p.showable && PyData.showableAll ps) = true
    rw [s, s2]; rfl
  · show max p.depth (PyData.depthAll ps) ≤ k
    exact Nat.max_le.2 ⟨dp, dp2⟩
  · show piled (p.shown :: PyData.shownAll ps) ≤ _
    rw [piled_cons]
    omega
  · show (p.canLay0 && PyData.canLayAll0 ps) = true
    rw [c, c2]; rfl
  · show (plT d && plA ds) = true
    rw [h.pl, pl2]; rfl
theorem FitA.mono {ds : List Dt} {k N N' : Nat} (h : FitA ds k N) (hN : N ≤ N') : FitA ds k N' := by
  obtain ⟨⟨ps, e2, s2, dp2, l2, c2⟩, pl2⟩ := h
  exact ⟨⟨ps, e2, s2, dp2, Nat.le_trans l2 hN, c2⟩, pl2⟩
theorem FitA.of : ∀ {ds : List Dt} {k n : Nat}, (∀ d ∈ ds, Fit d k n) → FitA ds k (ds.length * (n + 2))
  | [], k, n, _ => FitA.nil.mono (Nat.zero_le _)
  | d :: ds, k, n, h => by
    refine (FitA.cons (h d List.mem_cons_self) (FitA.of fun x hx => h x (List.mem_cons_of_mem _ hx))).mono ?_
    rw [List.length_cons, Nat.succ_mul]
    omega
theorem tupleText_le (ts : List Str) : (tupleText ts).length ≤ piled ts + 3 := by
  unfold tupleText
  rw [strLen_append, strLen_append]
  have e1 : (("(" : String) : Str).length = 1 := rfl
  have e3 : (((if ts.length == 1 then ",)" else ")" : String) : Str)).length ≤ 2 := by split <;> decide
  have e2 : (Str.join ", " ts).length ≤ piled ts := by
    cases ts with
    | nil => exact Nat.zero_le _
    | cons t r =>
      have := join_length_add (t :: r) (by simp)
      omega
  omega
theorem listText_le (ts : List Str) : (listText ts).length ≤ piled ts + 3 := by
  cases ts with
  | nil => decide
  | cons t r =>
    have h := textFrom_length_pos r 1 (("[" : Str) ++ (if (0 : Nat) > 0 then ", " else "" : String) ++ t) (Nat.succ_pos 0)
    have e : ((("[" : Str) ++ (if (0 : Nat) > 0 then ", " else "" : String) ++ t)).length = 1 + t.length := by
      rw [strLen_append, strLen_append]; rfl
    have hX : (listText (t :: r)).length = (textFrom 0 "[" (t :: r)).length + 1 := by
      show (textFrom 0 "[" (t :: r) ++ "]").length = _
      rw [strLen_append]; rfl
    have hY : (textFrom 0 "[" (t :: r)).length = (textFrom 1 (("[" : Str) ++ (if (0 : Nat) > 0 then ", " else "" : String) ++ t) r).length := rfl
    rw [piled_cons]
    omega
theorem FitA.tup {ds : List Dt} {k N : Nat} (h : FitA ds k N) : Fit (.tup ds) (k + 1) (N + 3) := by
  obtain ⟨⟨ps, e, s, dp, l, c⟩, pl⟩ := h
  refine ⟨⟨.tuple ps, ?_, s, by show PyData.depthAll ps + 1 ≤ k + 1; omega, ?_, c⟩, pl⟩
  · show (pyA ds).map _ = _
    rw [e]; rfl
  · show (tupleText (PyData.shownAll ps)).length ≤ _
    have h1 := tupleText_le (PyData.shownAll ps)
    omega
theorem FitA.lst {ds : List Dt} {k N : Nat} (h : FitA ds k N) : Fit (.lst ds) (k + 1) (N + 3) := by
  obtain ⟨⟨ps, e, s, dp, l, c⟩, pl⟩ := h
  refine ⟨⟨.list ps, ?_, s, by show PyData.depthAll ps + 1 ≤ k + 1; omega, ?_, c⟩, pl⟩
  · show (pyA ds).map _ = _
    rw [e]; rfl
  · show (listText (PyData.shownAll ps)).length ≤ _
    have h1 := listText_le (PyData.shownAll ps)
    omega
theorem Fit.laid {d : Dt} {k n : Nat} (h : Fit d k n) (hk : k ≤ 64) : laid d = true := by
  obtain ⟨p, e, s, dp, l, c⟩ := h.ex
  unfold DL.laid
  rw [e]
  show (p.canLay0 && decide (p.depth ≤ 64)) = true
  rw [c, decide_eq_true (Nat.le_trans dp hk)]
  rfl
theorem Fit.repr {d : Dt} {k n : Nat} (h : Fit d k n) (hk : k ≤ 60) (hn : n ≤ line) : ∃ s, gRepr [d] = some (.val (.str s)) := by
  obtain ⟨p, e, s, dp, l, c⟩ := h.ex
  have hr : pyR d = some p := by
    cases d <;> first | exact e | (cases e)
  refine ⟨p.shown, ?_⟩
  have hf : fitR p = true := by
    unfold fitR
    rw [s, decide_eq_true (Nat.le_trans dp hk), decide_eq_true (Nat.le_trans l hn)]
    rfl
  show (match pyR d with | some p => if fitR p then some (R.val (.str p.shown)) else none | none => none) = _
  rw [hr]
  exact if_pos hf
theorem eqTT_fit {d e : Dt} {k n k' n' : Nat} (h : Fit d k n) (h' : Fit e k' n') (hk : k ≤ 64) (hk' : k' ≤ 64) : eqTT d e = some (eqT d e) :=
  if_pos ⟨h.pl, h'.pl, h.laid hk, h'.laid hk'⟩
theorem fit_nil : Fit (.tup []) 1 3 := FitA.nil.tup (k := 0)
theorem fit_nilL : Fit (.lst []) 1 3 := FitA.nil.lst (k := 0)
theorem fit_lot {l : Lot} (h : LotOk l) : Fit (lotD l) 1 102 := by
  have := h.u; have := h.f; have := h.e
  exact (FitA.cons (Fit.str h.n) (FitA.cons (Fit.int (by omega) (by omega)) (FitA.cons (Fit.int (by omega) (by omega)) (FitA.cons (Fit.int (by omega) (by omega)) FitA.nil)))).tup.mono (by omega) (by omega)
theorem fit_use {l : Use} (h : UseOk l) : Fit (useD l) 1 102 := by
  have := h.u; have := h.t
  exact (FitA.cons (Fit.str h.n) (FitA.cons (Fit.int (by omega) (by omega)) (FitA.cons (Fit.int (by omega) (by omega)) FitA.nil))).tup.mono (by omega) (by omega)
theorem fit_cnt {l : Cnt} (h : CntOk l) : Fit (cntD l) 1 102 := by
  have := h.t; have := h.c
  exact (FitA.cons (Fit.int (by omega) (by omega)) (FitA.cons (Fit.str h.n) (FitA.cons (Fit.int (by omega) (by omega)) FitA.nil))).tup.mono (by omega) (by omega)
theorem fitA_map {α : Type} {f : α → Dt} {P : α → Prop} (hf : ∀ {a}, P a → Fit (f a) 1 102) {l : List α} (h : ∀ a ∈ l, P a) (hl : l.length ≤ 24) : FitA (l.map f) 1 2500 := by
  refine (FitA.of (k := 1) (n := 102) ?_).mono ?_
  · intro d hd
    obtain ⟨a, ha, rfl⟩ := List.mem_map.1 hd
    exact hf (h a ha)
  · rw [List.length_map]
    omega
theorem fit_lots {ls : List Lot} (h : ∀ l ∈ ls, LotOk l) (hl : ls.length ≤ 24) : Fit (.tup (ls.map lotD)) 2 2503 := (fitA_map fit_lot h hl).tup
theorem fit_lotsL {ls : List Lot} (h : ∀ l ∈ ls, LotOk l) (hl : ls.length ≤ 24) : Fit (.lst (ls.map lotD)) 2 2503 := (fitA_map fit_lot h hl).lst
theorem fit_uses {us : List Use} (h : Uses us) : Fit (.tup (us.map useD)) 2 2503 := (fitA_map fit_use h.ok h.len).tup
theorem fit_cnts {ls : List Lot} {cs : List Cnt} (h : Cnts ls cs) : Fit (.tup (cs.map cntD)) 2 2503 := (fitA_map fit_cnt h.ok (by have := h.len; omega)).tup
theorem fit_3 {a b c : Dt} (ha : Fit a 2 2503) (hb : Fit b 2 2503) (hc : Fit c 2 2503) : Fit (.tup [a, b, c]) 3 8000 :=
  (FitA.cons ha (FitA.cons hb (FitA.cons hc FitA.nil))).tup.mono (by omega) (by omega)
end K64

/-! K64R: the plain law: a record's parts. -/
namespace K64
open PySem L2 DL DX

def bLot : M Fl := (mSeq (mSet 9 (mFn f_law_take [(mN 0), (mOp gPlus (mN 4) (mC (.int 1)))]))   (mDrop (mMt 7 gApp [(mTup [(mN 8), (mOp gPlus (mC (.int 1)) (mFn f_law_take [(mN 0), (mN 3)])), (mN 9), (mOp gPlus (mN 9) (mFn f_law_take [(mN 0), (mOp gPlus (mOp gSub (mN 4) (mN 9)) (mC (.int 1)))]))])])))
def bTick : M Fl := (mSeq (mAsg (mIf (mTC gNe2 (mN 7) (mLst [])) (mFn f_law_of [(mN 0), (mN 7)]) (mTup [(mC (.str "")), (mC (.int 0)), (mC (.int 0)), (mN 4)])) (gT 4 (gCons' (gN 8) (gCons' (gN 15) (gCons' (gN 9) (gCons' (gN 16) gNil'))))))   (mDrop (mMt 6 gApp [(mOp gPlus (mN 9) (mFn f_law_take [(mN 0), (mOp gPlus (mOp gSub (mN 16) (mN 9)) (mC (.int 1)))]))])))
def bRow : M Fl := (mIfS (mAnd (mT (mChain gLe gLe (mOp gIdx (mOp gIdx (mN 7) (mN 20)) (mC (.int 2))) (mN 18) (mOp gIdx (mOp gIdx (mN 7) (mN 20)) (mC (.int 3))))) (mAnd (mTC gGt (mOp gIdx (mN 11) (mN 20)) (mC (.int 0))) (mTC gGt (mFn f_law_take [(mN 0), (mC (.int 3))]) (mC (.int 0))))) (mSeq (mSet 21 (mLst [(mC (.int 1)), (mC (.int 1)), (mOp gDiv (mOp gIdx (mN 11) (mN 20)) (mC (.int 3))), (mFn f_law_take [(mN 0), (mOp gPlus (mOp gIdx (mN 11) (mN 20)) (mC (.int 1)))]), (mFn f_law_take [(mN 0), (mOp gPlus (mOp gDiv (mOp gIdx (mN 11) (mN 20)) (mC (.int 2))) (mC (.int 1)))])]))   (mSeq (mAsg (mFn f_law_of [(mN 0), (mN 21)]) (gIx 19 (mN 20)))   (mAsg (mCall gMin2 [(mOp gIdx (mN 19) (mN 20)), (mOp gSub (mC (.int 999)) (mCall gSum [(mSl (mN 19) none (some (mN 20)))]))]) (gIx 19 (mN 20))))) (M.pure .nx))
def bUse : M Fl := (mSeq (mSet 19 (mOp gTimes (mLst [(mC (.int 0))]) (mN 5)))   (mSeq (mFor (mRng1 (mN 5)) (gN 20) (mIfS (mAnd (mT (mChain gLe gLe (mOp gIdx (mOp gIdx (mN 7) (mN 20)) (mC (.int 2))) (mN 18) (mOp gIdx (mOp gIdx (mN 7) (mN 20)) (mC (.int 3))))) (mAnd (mTC gGt (mOp gIdx (mN 11) (mN 20)) (mC (.int 0))) (mTC gGt (mFn f_law_take [(mN 0), (mC (.int 3))]) (mC (.int 0))))) (mSeq (mSet 21 (mLst [(mC (.int 1)), (mC (.int 1)), (mOp gDiv (mOp gIdx (mN 11) (mN 20)) (mC (.int 3))), (mFn f_law_take [(mN 0), (mOp gPlus (mOp gIdx (mN 11) (mN 20)) (mC (.int 1)))]), (mFn f_law_take [(mN 0), (mOp gPlus (mOp gDiv (mOp gIdx (mN 11) (mN 20)) (mC (.int 2))) (mC (.int 1)))])]))   (mSeq (mAsg (mFn f_law_of [(mN 0), (mN 21)]) (gIx 19 (mN 20)))   (mAsg (mCall gMin2 [(mOp gIdx (mN 19) (mN 20)), (mOp gSub (mC (.int 999)) (mCall gSum [(mSl (mN 19) none (some (mN 20)))]))]) (gIx 19 (mN 20))))) (M.pure .nx)))   (mIfS (mTC gGt (mCall gSum [(mN 19)]) (mC (.int 0))) (mSeq (mSet 11 (mForget 20 (mLC [20] (mRng1 (mN 5)) (gN 20) (M.pure true) (mOp gSub (mOp gIdx (mN 11) (mN 20)) (mOp gIdx (mN 19) (mN 20))))))   (mSeq (mDrop (mMt 12 gApp [(mTup [(mMt 1 gPop []), (mN 18), (mCall gSum [(mN 19)])])]))   (mDrop (mMt 13 gApp [(mCall gTuple [(mN 19)])])))) (M.pure .nx))))
def bMark : M Fl := (mSeq (mAsg (mTup [(mFn f_law_take [(mN 0), (mN 5)]), (mFn f_law_take [(mN 0), (mOp gPlus (mN 4) (mC (.int 1)))])]) (gT 2 (gCons' (gN 20) (gCons' (gN 18) gNil'))))   (mSeq (mSet 24 (mCall gSum [(mLC [23] (mRng1 (mCall gLen [(mN 12)])) (gN 23) (mTC gLe (mOp gIdx (mOp gIdx (mN 12) (mN 23)) (mC (.int 1))) (mN 18)) (mOp gIdx (mOp gIdx (mN 13) (mN 23)) (mN 20)))]))   (mDrop (mMt 17 gApp [(mTup [(mN 18), (mOp gIdx (mOp gIdx (mN 7) (mN 20)) (mC (.int 0))), (mOp gSub (mOp gIdx (mOp gIdx (mN 7) (mN 20)) (mC (.int 1))) (mN 24))])]))))

/-! ### lots -/
def ILot (nsD sz many : Dt) (top last : Int) (ns : List Str) (ds : List Dt) (e : DL.Env) : Prop := ∃ (u : Urn) (ls : List Lot) (ms : List Str) (s8 s9 : Option (Dt × Md)), isIo s8 = false ∧ isIo s9 = false ∧ ds = ms.map .str ∧ ls.map (·.n) ++ ms = ns ∧ (∀ l ∈ ls, LotOk l ∧ l.e ≤ last) ∧
  e = [some (U u, .io), some (nsD, .fz), some (sz, .fz), some (.int top, .fz), some (.int last, .fz), some (many, .fz), some (.lst [], .ow), some (.lst (ls.map lotD), .ow), s8, s9, none, none, none, none, none, none, none, none, none, none, none, none, none, none, none]
theorem lots_loop {nsD sz many : Dt} {top last : Int} (ht : 1 ≤ top ∧ top ≤ 999) (hl : 0 ≤ last ∧ last ≤ 99) {ns : List Str} (hns : ∀ s ∈ ns, Nm s) (hlen : ns.length ≤ 10) {u : Urn} {k : Fl → DL.Env → Prop}
    (q : ∀ (u : Urn) (ls : List Lot) (s8 s9 : Option (Dt × Md)), isIo s8 = false → isIo s9 = false → ls.map (·.n) = ns → (∀ l ∈ ls, LotOk l ∧ l.e ≤ last) → k .nx [some (U u, .io), some (nsD, .fz), some (sz, .fz), some (.int top, .fz), some (.int last, .fz), some (many, .fz), some (.lst [], .ow), some (.lst (ls.map lotD), .ow), s8, s9, none, none, none, none, none, none, none, none, none, none, none, none, none, none, none]) :
    OK (forL (gN 8) bLot (ns.map .str)) [some (U u, .io), some (nsD, .fz), some (sz, .fz), some (.int top, .fz), some (.int last, .fz), some (many, .fz), some (.lst [], .ow), some (.lst [], .ow), none, none, none, none, none, none, none, none, none, none, none, none, none, none, none, none, none] k := by
  refine ok_forL (ILot nsD sz many top last ns) ?_ _ _ ⟨u, [], ns, none, none, rfl, rfl, rfl, rfl, by simp, rfl⟩ ?_
  · rintro d ds e ⟨u, ls, ms, s8, s9, i8, i9, hd, hm, hL, rfl⟩
    obtain ⟨m, ms, rfl⟩ : ∃ m ms', ms = m :: ms' := by
      cases ms with
      | nil => cases hd
      | cons m ms => exact ⟨m, ms, rfl⟩
    injection hd with hd1 hd2
    subst hd1
    have hmem : m ∈ ns := by rw [← hm]; simp
    have hll : ls.length ≤ 10 := by
      have := congrArg List.length hm
      simp only [List.length_append, List.length_map, List.length_cons] at this
      omega
    unfold bLot
    simp [i8, i9]
    refine ok_take (by omega) (by omega) (fun f u1 f0 f1 => ?_)
    simp [i8, i9]
    refine ok_take (by omega) (by omega) (fun un u2 n0 n1 => ?_)
    simp
    refine ok_take (by omega) (by omega) (fun ee u3 e0 e1 => ?_)
    simp [line]
    refine ⟨by omega, u3, ls ++ [⟨m, 1 + un, f, f + ee⟩], ms, some (.str m, .fz), some (.int f, .fz), rfl, rfl, hd2, ?_, ?_, ?_⟩
    · rw [List.map_append, List.append_assoc]
      exact hm
    · intro l hl'
      rcases List.mem_append.1 hl' with h | h
      · exact hL l h
      · simp only [List.mem_singleton] at h
        subst h
        exact ⟨⟨hns m hmem, by constructor <;> simp only <;> omega, by constructor <;> simp only <;> omega, by constructor <;> simp only <;> omega⟩, by simp only; omega⟩
    · rw [List.map_append]
      rfl
  · rintro e ⟨u, ls, ms, s8, s9, i8, i9, hd, hm, hL, rfl⟩
    cases ms with
    | cons m ms => cases hd
    | nil => exact q u ls s8 s9 i8 i9 (by rw [List.append_nil] at hm; exact hm) hL

/-! ### ticks -/
def ITick (nsD sz many le ua aa : Dt) (top last : Int) (ls : List Lot) (c : Nat) (ds : List Dt) (e : DL.Env) : Prop := ∃ (u : Urn) (ts : List Int) (s8 s9 s14 s15 s16 : Option (Dt × Md)), (isIo s8 = false ∧ isIo s9 = false ∧ isIo s14 = false ∧ isIo s15 = false ∧ isIo s16 = false) ∧ ts.length + ds.length = c ∧ (∀ t ∈ ts, 0 ≤ t ∧ t ≤ 99) ∧
  e = [some (U u, .io), some (nsD, .fz), some (sz, .fz), some (.int top, .fz), some (.int last, .fz), some (many, .fz), some (.lst (ts.map .int), .ow), some (.lst (ls.map lotD), .fz), s8, s9, none, some (le, .ow), some (ua, .ow), some (aa, .ow), s14, s15, s16, none, none, none, none, none, none, none, none]
theorem atD_map {α : Type} {f : α → Dt} {l : List α} {i : Nat} (h : i < l.length) : atD (l.map f) (i : Int) = some (f l[i]) := atD_nat (by rw [List.getElem?_map, List.getElem?_eq_getElem h]; rfl)
theorem ticks_loop {nsD sz many le ua aa : Dt} {top last : Int} (hl : 0 ≤ last ∧ last ≤ 99) {ls : List Lot} (hL : ∀ l ∈ ls, LotOk l ∧ l.e ≤ last) (hlen : ls.length ≤ 10) {u : Urn} {s8 s9 : Option (Dt × Md)} (i8 : isIo s8 = false) (i9 : isIo s9 = false) {ds : List Dt} (hds : ds.length ≤ 24) {k : Fl → DL.Env → Prop}
    (q : ∀ (u : Urn) (ts : List Int) (s8 s9 s14 s15 s16 : Option (Dt × Md)), (isIo s8 = false ∧ isIo s9 = false ∧ isIo s14 = false ∧ isIo s15 = false ∧ isIo s16 = false) → ts.length = ds.length → (∀ t ∈ ts, 0 ≤ t ∧ t ≤ 99) →
      k .nx [some (U u, .io), some (nsD, .fz), some (sz, .fz), some (.int top, .fz), some (.int last, .fz), some (many, .fz), some (.lst (ts.map .int), .ow), some (.lst (ls.map lotD), .fz), s8, s9, none, some (le, .ow), some (ua, .ow), some (aa, .ow), s14, s15, s16, none, none, none, none, none, none, none, none]) :
    OK (forL (gN 14) bTick ds) [some (U u, .io), some (nsD, .fz), some (sz, .fz), some (.int top, .fz), some (.int last, .fz), some (many, .fz), some (.lst [], .ow), some (.lst (ls.map lotD), .fz), s8, s9, none, some (le, .ow), some (ua, .ow), some (aa, .ow), none, none, none, none, none, none, none, none, none, none, none] k := by
  refine ok_forL (ITick nsD sz many le ua aa top last ls ds.length) ?_ _ _ ⟨u, [], s8, s9, none, none, none, ⟨i8, i9, rfl, rfl, rfl⟩, by simp, by simp, rfl⟩ ?_
  · rintro d ds' e ⟨u, ts, s8, s9, s14, s15, s16, ⟨i8, i9, i14, i15, i16⟩, hlen', hts, rfl⟩
    simp only [List.length_cons] at hlen'
    have hfit := eqTT_fit (fit_lotsL (fun l h => (hL l h).1) (by omega)) fit_nilL (by omega) (by omega)
    have fin : ∀ (u : Urn) (f e : Int) (s8 s15 : Option (Dt × Md)), isIo s8 = false → isIo s15 = false → 0 ≤ f → f ≤ e → e ≤ 99 → OK (mDrop (mMt 6 gApp [(mOp gPlus (mN 9) (mFn f_law_take [(mN 0), (mOp gPlus (mOp gSub (mN 16) (mN 9)) (mC (.int 1)))]))]))
        [some (U u, .io), some (nsD, .fz), some (sz, .fz), some (.int top, .fz), some (.int last, .fz), some (many, .fz), some (.lst (ts.map .int), .ow), some (.lst (ls.map lotD), .fz), s8, some (.int f, .fz), none, some (le, .ow), some (ua, .ow), some (aa, .ow), some (d, .fz), s15, some (.int e, .fz), none, none, none, none, none, none, none, none]
        (fun f e => (f = .nx ∨ f = .ct) ∧ ITick nsD sz many le ua aa top last ls ds.length ds' e) := fun u f e s8 s15 i8 i15 h0 h1 h2 => by
      simp
      refine ok_take (by omega) (by omega) (fun t u1 t0 t1 => ?_)
      simp
      refine ⟨by omega, u1, ts ++ [f + t], _, _, _, _, _, ⟨i8, rfl, rfl, i15, rfl⟩, by simp; omega, ?_, by rw [List.map_append]; rfl⟩
      intro x hx
      rcases List.mem_append.1 hx with h | h
      · exact hts x h
      · simp only [List.mem_singleton] at h
        subst h
        exact ⟨by omega, by omega⟩
    unfold bTick
    simp [i8, i9, i14, i15, i16, line, hfit]
    cases ls with
    | nil =>
      simp [eqT, eqTA, i8, i9, i14, i15, i16, line]
      have f1 := fin u 0 last (some (.str "", .fz)) (some (.int 0, .fz)) rfl rfl (Int.le_refl 0) hl.1 hl.2
      simp at f1
      exact f1
    | cons l0 ls0 =>
      simp [eqT, eqTA, i8, i9, i14, i15, i16, line]
      refine ok_ofL (by simp) (by unfold line; simp only [List.length_cons, List.length_map] at hlen ⊢; omega) (fun d u1 hd => ?_)
      obtain ⟨l, hl1, rfl⟩ := List.mem_map.1 (show d ∈ (l0 :: ls0).map lotD from hd)
      have hok := (hL l hl1).1
      have := hok.f; have := hok.e
      simp [lotD, i8, i9, i14, i15, i16]
      have f1 := fin u1 l.f l.e (some (.str l.n, .fz)) (some (.int l.u, .fz)) rfl rfl (by omega) (by omega) (by omega)
      simp [lotD] at f1
      exact f1
  · rintro e ⟨u, ts, s8, s9, s14, s15, s16, hi, hlen', hts, rfl⟩
    exact q u ts s8 s9 s14 s15 s16 hi (by simpa using hlen') hts
end K64

/-! K64S: the plain law: what a use takes of each lot. -/
namespace K64
open PySem L2 DL DX

theorem at_mid {pre : List Int} {d : Dt} {zs : List Dt} : atD (pre.map Dt.int ++ d :: zs) (pre.length : Int) = some d := by
  refine atD_nat ?_
  rw [List.getElem?_append_right (by rw [List.length_map]; exact Nat.le_refl _), List.length_map, Nat.sub_self]
  rfl
theorem set_mid {pre : List Int} {d d' : Dt} {zs : List Dt} : (pre.map Dt.int ++ d :: zs).set pre.length d' = pre.map Dt.int ++ d' :: zs := by
  rw [List.set_append_right _ _ (by rw [List.length_map]; exact Nat.le_refl _), List.length_map, Nat.sub_self]
  rfl
theorem cut_mid {pre : List Int} {d : Dt} {zs : List Dt} : cutD (pre.map Dt.int ++ d :: zs) none (some (pre.length : Int)) = pre.map Dt.int := by
  unfold cutD
  rw [HT.sIx_none, List.drop_zero, Nat.sub_zero, HT.sIx_nat]
  have : min pre.length (pre.map Dt.int ++ d :: zs).length = pre.length := by
    rw [List.length_append, List.length_map]
    omega
  rw [this, List.take_append_of_le_length (by rw [List.length_map]; exact Nat.le_refl _), List.take_of_length_le (by rw [List.length_map]; exact Nat.le_refl _)]
theorem ix_mid {n k : Nat} : ixN (n + (k + 1)) (n : Int) = some n := ixN_nat (by omega)
theorem intsD_map : ∀ l : List Int, intsD (l.map .int) = some l
  | [] => rfl
  | a :: l => by
    show (intsD (l.map .int)).map _ = _
    rw [intsD_map l]
    rfl
/-- the number at a place -/
def nth (l : List Int) (i : Nat) : Int := l[i]?.getD 0
theorem nth_get {l : List Int} {i : Nat} (h : i < l.length) : nth l i = l[i] := by
  unfold nth
  rw [List.getElem?_eq_getElem h]
  rfl
theorem nth_lt {a b : List Int} {i : Nat} (h : i < a.length) : nth (a ++ b) i = nth a i := by
  unfold nth
  rw [List.getElem?_append_left h]
theorem nth_end {a : List Int} {v : Int} : nth (a ++ [v]) a.length = v := by
  unfold nth
  rw [List.getElem?_append_right (Nat.le_refl _), Nat.sub_self]
  rfl
/-- what a row may be -/
def RowOk (left row : List Int) : Prop := ∀ i, i < row.length → 0 ≤ nth row i ∧ nth row i ≤ nth left i
theorem RowOk.app {left row : List Int} {v : Int} (h : RowOk left row) (h0 : 0 ≤ v) (h1 : v ≤ nth left row.length) : RowOk left (row ++ [v]) := by
  intro i hi
  rw [List.length_append, List.length_cons, List.length_nil] at hi
  by_cases c : i < row.length
  · rw [nth_lt c]
    exact h i c
  · have : i = row.length := by omega
    subst this
    rw [nth_end]
    exact ⟨h0, h1⟩
structure Envs where
  names : Dt
  sz : Dt
  top : Dt
  last : Dt
  ticks : Dt
  ua : Dt
  aa : Dt
  ma : Dt
  s8 : Option (Dt × Md)
  s9 : Option (Dt × Md)
  s14 : Option (Dt × Md)
  s15 : Option (Dt × Md)
  s16 : Option (Dt × Md)
def IRow (V : Envs) (ls : List Lot) (left : List Int) (tick : Int) (ds : List Dt) (e : DL.Env) : Prop := ∃ (u : Urn) (pre : List Int) (s20 s21 : Option (Dt × Md)), isIo s20 = false ∧ isIo s21 = false ∧ (s20 = none ∨ ∃ d, s20 = some (d, .fz)) ∧ pre.length ≤ ls.length ∧ ds = rangeD pre.length (ls.length - pre.length) ∧ RowOk left pre ∧ pre.sum ≤ 999 ∧
  e = [some (U u, .io), some (V.names, .ow), some (V.sz, .fz), some (V.top, .fz), some (V.last, .fz), some (.int ls.length, .fz), some (V.ticks, .ow), some (.lst (ls.map lotD), .fz), V.s8, V.s9, none, some (.lst (left.map .int), .ow), some (V.ua, .ow), some (V.aa, .ow), V.s14, V.s15, V.s16, some (V.ma, .ow), some (.int tick, .fz), some (.lst (pre.map .int ++ List.replicate (ls.length - pre.length) (.int 0)), .ow), s20, s21, none, none, none]
theorem row_loop {V : Envs} {ls : List Lot} {left : List Int} {tick : Int} (hlen : ls.length ≤ 10) (hleft : left.length = ls.length) (h0 : ∀ i, i < ls.length → 0 ≤ nth left i ∧ nth left i ≤ 999) {u : Urn} {s20 s21 : Option (Dt × Md)} (i20 : isIo s20 = false) (i21 : isIo s21 = false) (hs : s20 = none ∨ ∃ d, s20 = some (d, .fz)) {k : Fl → DL.Env → Prop}
    (q : ∀ (u : Urn) (row : List Int) (s20 s21 : Option (Dt × Md)), isIo s20 = false → isIo s21 = false → (s20 = none ∨ ∃ d, s20 = some (d, .fz)) → row.length = ls.length → RowOk left row → row.sum ≤ 999 →
      k .nx [some (U u, .io), some (V.names, .ow), some (V.sz, .fz), some (V.top, .fz), some (V.last, .fz), some (.int ls.length, .fz), some (V.ticks, .ow), some (.lst (ls.map lotD), .fz), V.s8, V.s9, none, some (.lst (left.map .int), .ow), some (V.ua, .ow), some (V.aa, .ow), V.s14, V.s15, V.s16, some (V.ma, .ow), some (.int tick, .fz), some (.lst (row.map .int), .ow), s20, s21, none, none, none]) :
    OK (forL (gN 20) bRow (rangeD 0 ls.length)) [some (U u, .io), some (V.names, .ow), some (V.sz, .fz), some (V.top, .fz), some (V.last, .fz), some (.int ls.length, .fz), some (V.ticks, .ow), some (.lst (ls.map lotD), .fz), V.s8, V.s9, none, some (.lst (left.map .int), .ow), some (V.ua, .ow), some (V.aa, .ow), V.s14, V.s15, V.s16, some (V.ma, .ow), some (.int tick, .fz), some (.lst (List.replicate ls.length (.int 0)), .ow), s20, s21, none, none, none] k := by
  refine ok_forL (IRow V ls left tick) ?_ _ _ ⟨u, [], s20, s21, i20, i21, hs, Nat.zero_le _, rfl, fun i hi => (by cases hi), (by decide), rfl⟩ ?_
  · rintro d ds e ⟨u, pre, s20, s21, i20, i21, hs, hle, hd, hr, hsum, rfl⟩
    have hlt : pre.length < ls.length := by
      by_cases c : pre.length < ls.length
      · exact c
      · rw [show ls.length - pre.length = 0 by omega] at hd
        cases hd
    rw [rangeD_cons (by omega)] at hd
    injection hd with hd1 hd2
    subst hd1
    obtain ⟨p0, p9⟩ := h0 _ hlt
    have eleft : atD (left.map .int) (pre.length : Int) = some (.int (nth left pre.length)) := by
      rw [atD_map (by omega), nth_get (by omega)]
    have elot := atD_map (f := lotD) hlt
    have ez : List.replicate (ls.length - pre.length) (Dt.int 0) = .int 0 :: List.replicate (ls.length - pre.length - 1) (.int 0) := by
      rw [← List.replicate_succ]
      congr 1
      omega
    rw [ez]
    have done : ∀ (u : Urn) (w : Int) (s21 : Option (Dt × Md)), isIo s21 = false → 0 ≤ w → w ≤ nth left pre.length → pre.sum + w ≤ 999 → IRow V ls left tick ds [some (U u, .io), some (V.names, .ow), some (V.sz, .fz), some (V.top, .fz), some (V.last, .fz), some (.int ls.length, .fz), some (V.ticks, .ow), some (.lst (ls.map lotD), .fz), V.s8, V.s9, none, some (.lst (left.map .int), .ow), some (V.ua, .ow), some (V.aa, .ow), V.s14, V.s15, V.s16, some (V.ma, .ow), some (.int tick, .fz), some (.lst (pre.map .int ++ .int w :: List.replicate (ls.length - pre.length - 1) (.int 0)), .ow), some (.int pre.length, .fz), s21, none, none, none] := fun u w s21 i21 w0 w1 w2 => by
      refine ⟨u, pre ++ [w], some (.int pre.length, .fz), s21, rfl, i21, .inr ⟨_, rfl⟩, by simp; omega, ?_, hr.app w0 w1, by rw [List.sum_append]; simpa using w2, ?_⟩
      · rw [hd2, List.length_append, List.length_cons, List.length_nil, show ls.length - (pre.length + (0 + 1)) = ls.length - pre.length - 1 by omega]
        simp
      · rw [List.length_append, List.length_cons, List.length_nil, show ls.length - (pre.length + (0 + 1)) = ls.length - pre.length - 1 by omega, List.map_append, List.append_assoc]
        rfl
    generalize hz : List.replicate (ls.length - pre.length - 1) (Dt.int 0) = zs at done ⊢
    have skip := fun (u : Urn) => done u 0 s21 i21 (Int.le_refl 0) p0 (by omega)
    unfold bRow
    simp [i20, i21, elot, lotD]
    refine okIf_dec (fun c1 => ?_) (fun c1 => ?_)
    · simp [i20, i21, elot, lotD]
      refine okIf_dec (fun c2 => ?_) (fun c2 => ?_)
      · simp [eleft]
        refine okIf_dec (fun c3 => ?_) (fun c3 => ?_)
        · simp [eleft]
          refine ok_take (by omega) (by omega) (fun x u1 x0 x1 => ?_)
          simp
          refine okIf_dec (fun c4 => ?_) (fun c4 => ?_)
          · simp [eleft, line, i21]
            refine ok_take (by omega) (by omega) (fun y u2 y0 y1 => ?_)
            simp [eleft, line, i21]
            refine ok_take (by omega) (by omega) (fun z u3 z0 z1 => ?_)
            simp [eleft, line, i21]
            refine ok_ofL (by simp) (by simp [line]) (fun d u4 hd => ?_)
            obtain ⟨v, rfl, v0, v1⟩ : ∃ v, d = .int v ∧ 0 ≤ v ∧ v ≤ nth left pre.length := by
              simp only [List.mem_cons, List.not_mem_nil, or_false] at hd
              rcases hd with rfl | rfl | rfl | rfl | rfl
              · exact ⟨1, rfl, by omega, by omega⟩
              · exact ⟨1, rfl, by omega, by omega⟩
              · exact ⟨_, rfl, by omega, by omega⟩
              · exact ⟨y, rfl, by omega, by omega⟩
              · exact ⟨z, rfl, by omega, by omega⟩
            simp [eleft, line, i21, ix_mid, set_mid, at_mid, cut_mid, intsD_map]
            refine done u4 _ _ rfl ?_ ?_ ?_
            · split <;> omega
            · split <;> omega
            · split <;> omega
          · simp
            exact skip u1
        · simp
          exact skip u
      · simp
        exact skip u
    · simp
      exact skip u
  · rintro e ⟨u, pre, s20, s21, i20, i21, hs, hle, hd, hr, hsum, rfl⟩
    have heq : pre.length = ls.length := by
      by_cases c : pre.length < ls.length
      · rw [rangeD_cons (by omega)] at hd
        cases hd
      · omega
    have := q u pre s20 s21 i20 i21 hs heq hr hsum
    rw [heq, Nat.sub_self, List.replicate_zero, List.append_nil]
    exact this
end K64

/-! K64U: the plain law: uses. -/
namespace K64
open PySem L2 DL DX

/-- what was taken of the lots by the uses up to now, and what is left -/
structure Books (ls : List Lot) (us : List Use) (ams : List (List Int)) (left : List Int) : Prop where
  len : ams.length = us.length
  llen : left.length = ls.length
  rows : ∀ r ∈ ams, r.length = ls.length ∧ ∀ i, i < ls.length → 0 ≤ nth r i
  ne : ams ≠ [] → 0 < ls.length
  pos : ∀ i, i < ls.length → 0 ≤ nth left i
  sum : ∀ i (h : i < ls.length), (ams.map fun r => nth r i).sum + nth left i = ls[i].u
theorem sum_pos {α : Type} {f : α → Int} : ∀ {l : List α}, (∀ x ∈ l, 0 ≤ f x) → 0 ≤ (l.map f).sum
  | [], _ => Int.le_refl 0
  | a :: l, h => by
    have h1 := h a List.mem_cons_self
    have h2 := sum_pos fun x hx => h x (List.mem_cons_of_mem a hx)
    rw [List.map_cons, List.sum_cons]
    omega
def newLeft (left row : List Int) (m : Nat) : List Int := (List.range m).map fun i => nth left i - nth row i
theorem nth_new {left row : List Int} {m i : Nat} (h : i < m) : nth (newLeft left row m) i = nth left i - nth row i := by
  show ((List.map _ (List.range m))[i]?).getD 0 = _
  rw [List.getElem?_map, List.getElem?_range h]
  rfl
theorem Books.next {ls : List Lot} {us : List Use} {ams : List (List Int)} {left row : List Int} (B : Books ls us ams left) {x : Use} (hr : row.length = ls.length) (ok : RowOk left row) (hp : 0 < ls.length) : Books ls (us ++ [x]) (ams ++ [row]) (newLeft left row ls.length) where
  len := by simp [B.len]
  llen := by unfold newLeft; simp
  rows := fun r h => by
    rcases List.mem_append.1 h with h | h
    · exact B.rows r h
    · simp only [List.mem_singleton] at h
      subst h
      exact ⟨hr, fun i hi => (ok i (by omega)).1⟩
  ne := fun _ => hp
  pos := fun i hi => by
    rw [nth_new hi]
    have := (ok i (by omega)).2
    omega
  sum := fun i hi => by
    rw [nth_new hi, ← B.sum i hi, List.map_append, List.sum_append]
    simp
    omega
theorem ok_run {α : Type} {m : M α} {env e' : DL.Env} {a' : α} (h : OK m env fun a e => a = a' ∧ e = e') : m env = some (.ok a' e') := by
  obtain ⟨a, e, h, rfl, rfl⟩ := h
  exact h
theorem rangeD_map : ∀ (m a : Nat), rangeD (a : Int) m = (List.range m).map fun i => .int ((a + i : Nat) : Int)
  | 0, a => rfl
  | m + 1, a => by
    show Dt.int a :: rangeD ((a : Int) + 1) m = _
    rw [show ((a : Int) + 1) = ((a + 1 : Nat) : Int) by omega, rangeD_map m (a + 1), List.range_succ_eq_map, List.map_cons, List.map_map]
    congr 1
    apply List.map_congr_left
    intro i _
    simp only [Function.comp]
    congr 2
    omega
theorem rangeD_0 (m : Nat) : rangeD 0 m = (List.range m).map fun i => .int (i : Int) := by
  have := rangeD_map m 0
  simpa using this
def leftF (left row : List Int) (d : Dt) : Dt := match d with
  | .int i => .int (nth left i.toNat - nth row i.toNat)
  | d => d
theorem left_list (left row : List Int) (m : Nat) : ((rangeD 0 m).filter fun _ => true).map (leftF left row) = (newLeft left row m).map .int := by
  rw [List.filter_eq_self.2 (fun _ _ => rfl), rangeD_0, List.map_map]
  unfold newLeft
  rw [List.map_map]
  rfl
theorem atD_int {l : List Int} {i : Nat} (h : i < l.length) : atD (l.map .int) (i : Int) = some (.int (nth l i)) := by
  rw [atD_map h, nth_get h]

structure Envu where
  sz : Dt
  top : Dt
  last : Dt
  ticks : Dt
  s8 : Option (Dt × Md)
  s9 : Option (Dt × Md)
  s14 : Option (Dt × Md)
  s15 : Option (Dt × Md)
  s16 : Option (Dt × Md)
/-- the uses up to now, the names and the ticks that are left -/
structure Done (us : List Use) (nm : List Str) (ms : List Int) : Prop where
  ok : ∀ x ∈ us, UseOk x
  nms : ∀ s ∈ nm, Nm s
  nd : (us.map (·.n) ++ nm).Nodup
  asc : (us.map (·.t) ++ ms).Pairwise fun a b => a ≤ b
  tk : ∀ t ∈ ms, 0 ≤ t ∧ t ≤ 99
  enough : ms.length ≤ nm.length
  few : us.length + ms.length ≤ 24
theorem Done.skip {us : List Use} {nm : List Str} {t : Int} {ms : List Int} (D : Done us nm (t :: ms)) : Done us nm ms where
  ok := D.ok
  nms := D.nms
  nd := D.nd
  asc := D.asc.sublist (List.Sublist.append (List.Sublist.refl _) (List.sublist_cons_self _ _))
  tk := fun x hx => D.tk x (List.mem_cons_of_mem _ hx)
  enough := by have := D.enough; simp only [List.length_cons] at this; omega
  few := by have := D.few; simp only [List.length_cons] at this; omega
theorem Done.next {us : List Use} {nm : List Str} {n : Str} {t u : Int} {ms : List Int} (D : Done us (nm ++ [n]) (t :: ms)) (hu : 1 ≤ u ∧ u ≤ 999) : Done (us ++ [⟨n, t, u⟩]) nm ms where
  ok := fun x hx => by
    rcases List.mem_append.1 hx with h | h
    · exact D.ok x h
    · simp only [List.mem_singleton] at h
      subst h
      exact ⟨D.nms n (by simp), D.tk t List.mem_cons_self, hu⟩
  nms := fun s hs => D.nms s (List.mem_append_left _ hs)
  nd := by
    have p : ((us ++ [(⟨n, t, u⟩ : Use)]).map (·.n) ++ nm).Perm (us.map (·.n) ++ (nm ++ [n])) := by
      rw [List.map_append, List.append_assoc]
      exact (List.Perm.refl _).append (List.perm_append_comm)
    exact p.nodup_iff.2 D.nd
  asc := by
    rw [List.map_append, List.append_assoc]
    exact D.asc
  tk := fun x hx => D.tk x (List.mem_cons_of_mem _ hx)
  enough := by have := D.enough; simp only [List.length_cons, List.length_append, List.length_nil] at this; omega
  few := by have := D.few; simp only [List.length_cons, List.length_append, List.length_nil] at this ⊢; omega
def amD (r : List Int) : Dt := .tup (r.map .int)
def IUse (V : Envu) (ls : List Lot) (ds : List Dt) (e : DL.Env) : Prop := ∃ (u : Urn) (us : List Use) (ams : List (List Int)) (left : List Int) (nm : List Str) (ms : List Int) (s18 s19 s20 s21 : Option (Dt × Md)), (isIo s18 = false ∧ isIo s19 = false ∧ isIo s20 = false ∧ isIo s21 = false) ∧ (s20 = none ∨ ∃ d, s20 = some (d, .fz)) ∧ ds = ms.map .int ∧ Done us nm ms ∧ Books ls us ams left ∧
  e = [some (U u, .io), some (.lst (nm.map .str), .ow), some (V.sz, .fz), some (V.top, .fz), some (V.last, .fz), some (.int ls.length, .fz), some (V.ticks, .ow), some (.lst (ls.map lotD), .fz), V.s8, V.s9, none, some (.lst (left.map .int), .ow), some (.lst (us.map useD), .ow), some (.lst (ams.map amD), .ow), V.s14, V.s15, V.s16, some (.lst [], .ow), s18, s19, s20, s21, none, none, none]
theorem nm_last {nm : List Str} (h : 1 ≤ nm.length) : ∃ a n, nm = a ++ [n] := by
  rcases List.eq_nil_or_concat nm with rfl | ⟨a, n, rfl⟩
  · simp at h
  · exact ⟨a, n, by rw [List.concat_eq_append]⟩
theorem uses_loop {V : Envu} {ls : List Lot} (hL : ∀ l ∈ ls, LotOk l) (hlen : ls.length ≤ 10) {u : Urn} {nm : List Str} {ms : List Int} {left : List Int} (D : Done [] nm ms) (B : Books ls [] [] left) {k : Fl → DL.Env → Prop}
    (q : ∀ (u : Urn) (us : List Use) (ams : List (List Int)) (left : List Int) (nm : List Str) (s18 s19 s20 s21 : Option (Dt × Md)), (isIo s18 = false ∧ isIo s19 = false ∧ isIo s20 = false ∧ isIo s21 = false) → Done us nm [] → Books ls us ams left →
      k .nx [some (U u, .io), some (.lst (nm.map .str), .ow), some (V.sz, .fz), some (V.top, .fz), some (V.last, .fz), some (.int ls.length, .fz), some (V.ticks, .ow), some (.lst (ls.map lotD), .fz), V.s8, V.s9, none, some (.lst (left.map .int), .ow), some (.lst (us.map useD), .ow), some (.lst (ams.map amD), .ow), V.s14, V.s15, V.s16, some (.lst [], .ow), s18, s19, s20, s21, none, none, none]) :
    OK (forL (gN 18) bUse (ms.map .int)) [some (U u, .io), some (.lst (nm.map .str), .ow), some (V.sz, .fz), some (V.top, .fz), some (V.last, .fz), some (.int ls.length, .fz), some (V.ticks, .ow), some (.lst (ls.map lotD), .fz), V.s8, V.s9, none, some (.lst (left.map .int), .ow), some (.lst [], .ow), some (.lst [], .ow), V.s14, V.s15, V.s16, some (.lst [], .ow), none, none, none, none, none, none, none] k := by
  refine ok_forL (IUse V ls) ?_ _ _ ⟨u, [], [], left, nm, ms, none, none, none, none, ⟨rfl, rfl, rfl, rfl⟩, .inl rfl, rfl, D, B, rfl⟩ ?_
  · rintro d ds e ⟨u, us, ams, left, nm, ms, s18, s19, s20, s21, ⟨i18, i19, i20, i21⟩, hs, hd, D, B, rfl⟩
    obtain ⟨t, ms, rfl⟩ : ∃ t ms', ms = t :: ms' := by
      cases ms with
      | nil => cases hd
      | cons t ms => exact ⟨t, ms, rfl⟩
    injection hd with hd1 hd2
    subst hd1
    have hnm := D.enough
    have hfew := D.few
    simp only [List.length_cons] at hnm hfew
    obtain ⟨nm', n, rfl⟩ := nm_last (nm := nm) (by omega)
    have hb : ∀ i, i < ls.length → 0 ≤ nth left i ∧ nth left i ≤ 999 := fun i hi => by
      refine ⟨B.pos i hi, ?_⟩
      have h1 := B.sum i hi
      have h2 := (hL _ (List.getElem_mem hi)).u
      have h3 : 0 ≤ (ams.map fun r => nth r i).sum := by
        exact sum_pos fun r hr => (B.rows r hr).2 i hi
      omega
    unfold bUse
    simp [i18, i19, line, v_zeros (show ls.length ≤ 1000 by omega), bndR]
    refine ⟨by omega, ?_⟩
    refine row_loop (V := ⟨.lst (nm'.map .str ++ [.str n]), V.sz, V.top, V.last, V.ticks, .lst (us.map useD), .lst (ams.map amD), .lst [], V.s8, V.s9, V.s14, V.s15, V.s16⟩) hlen B.llen hb i20 i21 hs (fun u1 row s20 s21 i20 i21 hs hr ok hsum => ?_)
    simp [intsD_map]
    refine okIf_dec (fun c1 => ?_) (fun c1 => ?_)
    · have hf : ∀ (a b c d f g h i j k l m n o p : Option (Dt × Md)) (U a1 a2 a3 a4 : Option (Dt × Md)), forgetE [U, a1, a2, a3, a4, a, b, c, d, f, g, h, i, j, k, l, m, n, o, p, s20, s21, none, none, none] 20 = [U, a1, a2, a3, a4, a, b, c, d, f, g, h, i, j, k, l, m, n, o, p, none, s21, none, none, none] := by
        intros
        rcases hs with rfl | ⟨d, rfl⟩ <;> rfl
      simp [hf, bndR]
      refine ⟨by omega, ?_⟩
      refine ok_lcMap (fun _ => true) (leftF left row) rfl (by simp) (fun _ _ => rfl) ?_ (by rw [rangeD_len]; unfold line; omega) ?_
      · intro d hd _
        rw [rangeD_0] at hd
        obtain ⟨i, hi, rfl⟩ := List.mem_map.1 hd
        have hi' : i < ls.length := List.mem_range.1 hi
        have e1 := atD_int (l := left) (i := i) (by rw [B.llen]; exact hi')
        have e2 := atD_int (l := row) (i := i) (by rw [hr]; exact hi')
        refine ok_run ?_
        simp [e1, e2, leftF]
      · rw [left_list]
        have hp : 0 < ls.length := by
          rcases Nat.eq_zero_or_pos ls.length with z | z
          · have e : row = [] := List.eq_nil_of_length_eq_zero (by omega)
            subst e
            simp at c1
          · exact z
        have hu : us.length < 100000 := by omega
        have ha : ams.length < 100000 := by rw [B.len]; omega
        simp [v_pop, line, intsD_map, hu, ha]
        refine ⟨u1, us ++ [⟨n, t, row.sum⟩], ams ++ [row], newLeft left row ls.length, nm', ms, some (.int t, .fz), some (.lst (row.map .int), .ow), none, s21, ⟨rfl, rfl, rfl, i21⟩, .inl rfl, hd2, D.next ⟨by omega, hsum⟩, B.next hr ok hp, ?_⟩
        rw [List.map_append, List.map_append]
        rfl
    · simp
      refine ⟨u1, us, ams, left, nm' ++ [n], ms, _, _, s20, s21, ⟨?_, ?_, i20, i21⟩, hs, hd2, D.skip, B, by simp; exact ⟨rfl, rfl⟩⟩
      · rfl
      · rfl
  · rintro e ⟨u, us, ams, left, nm, ms, s18, s19, s20, s21, hi, hs, hd, D, B, rfl⟩
    cases ms with
    | cons t ms => cases hd
    | nil => exact q u us ams left nm s18 s19 s20 s21 hi D B
end K64

/-! K64V: the plain law: counts. -/
namespace K64
open PySem L2 DL DX

def useAt (us : List Use) (k : Nat) : Int := (us[k]?.map (·.t)).getD 0
def rowAt (ams : List (List Int)) (k : Nat) : List Int := ams[k]?.getD []
def pF (us : List Use) (tick : Int) (d : Dt) : Bool := match d with
  | .int k => decide (useAt us k.toNat ≤ tick)
  | _ => false
def gF (ams : List (List Int)) (at' : Nat) (d : Dt) : Dt := match d with
  | .int k => .int (nth (rowAt ams k.toNat) at')
  | d => d
def goneL (us : List Use) (ams : List (List Int)) (tick : Int) (at' n : Nat) : List Int := ((List.range n).filter fun k => decide (useAt us k ≤ tick)).map fun k => nth (rowAt ams k) at'
theorem gone_list (us : List Use) (ams : List (List Int)) (tick : Int) (at' n : Nat) : ((rangeD 0 n).filter (pF us tick)).map (gF ams at') = (goneL us ams tick at' n).map .int := by
  rw [rangeD_0, List.filter_map, List.map_map]
  unfold goneL
  rw [List.map_map]
  rfl
theorem filt_sum {g : Nat → Int} {p : Nat → Bool} : ∀ {l : List Nat}, (∀ k ∈ l, 0 ≤ g k) → 0 ≤ ((l.filter p).map g).sum ∧ ((l.filter p).map g).sum ≤ (l.map g).sum
  | [], _ => ⟨Int.le_refl 0, Int.le_refl 0⟩
  | a :: l, h => by
    have h1 := h a List.mem_cons_self
    have h2 := filt_sum (p := p) fun x hx => h x (List.mem_cons_of_mem a hx)
    cases c : p a with
    | true =>
      rw [List.filter_cons_of_pos c, List.map_cons, List.map_cons, List.sum_cons, List.sum_cons]
      omega
    | false =>
      rw [List.filter_cons_of_neg (by rw [c]; exact Bool.false_ne_true), List.map_cons, List.sum_cons]
      omega
theorem rows_all (ams : List (List Int)) : (List.range ams.length).map (rowAt ams) = ams := by
  apply List.ext_getElem
  · simp
  · intro i h1 h2
    simp [rowAt, List.getElem?_eq_getElem h2]
theorem gone_ok {ls : List Lot} {us : List Use} {ams : List (List Int)} {left : List Int} (B : Books ls us ams left) (tick : Int) {i : Nat} (h : i < ls.length) : 0 ≤ (goneL us ams tick i us.length).sum ∧ (goneL us ams tick i us.length).sum ≤ ls[i].u := by
  have e : (List.range us.length).map (fun k => nth (rowAt ams k) i) = ams.map fun r => nth r i := by
    rw [← B.len]
    conv => rhs; rw [← rows_all ams, List.map_map]
    rfl
  have h0 : ∀ k ∈ List.range us.length, 0 ≤ nth (rowAt ams k) i := fun k hk => by
    have hk' : k < ams.length := by rw [B.len]; exact List.mem_range.1 hk
    have : rowAt ams k = ams[k] := by unfold rowAt; rw [List.getElem?_eq_getElem hk']; rfl
    rw [this]
    exact (B.rows _ (List.getElem_mem hk')).2 i h
  obtain ⟨h1, h2⟩ := filt_sum (p := fun k => decide (useAt us k ≤ tick)) h0
  rw [e] at h2
  have h3 := B.sum i h
  have h4 := B.pos i h
  unfold goneL
  omega
structure Envm where
  names : Dt
  sz : Dt
  top : Dt
  ticks : Dt
  left : Dt
  s8 : Option (Dt × Md)
  s9 : Option (Dt × Md)
  s15 : Option (Dt × Md)
  s16 : Option (Dt × Md)
  s19 : Option (Dt × Md)
  s21 : Option (Dt × Md)
  told : Dt
def IMark (V : Envm) (last : Int) (ls : List Lot) (us : List Use) (ams : List (List Int)) (c : Nat) (ds : List Dt) (e : DL.Env) : Prop := ∃ (u : Urn) (cs : List Cnt) (s14 s18 s20 s24 : Option (Dt × Md)), (isIo s14 = false ∧ isIo s18 = false ∧ isIo s20 = false ∧ isIo s24 = false) ∧ cs.length + ds.length = c ∧ (∀ x ∈ cs, CntOk x ∧ x.n ∈ ls.map (·.n)) ∧
  e = [some (U u, .io), some (V.names, .ow), some (V.sz, .fz), some (V.top, .fz), some (.int last, .fz), some (.int ls.length, .fz), some (V.ticks, .ow), some (.lst (ls.map lotD), .fz), V.s8, V.s9, none, some (V.left, .ow), some (.lst (us.map useD), .ow), some (.lst (ams.map amD), .ow), s14, V.s15, V.s16, some (.lst (cs.map cntD), .ow), s18, V.s19, s20, V.s21, some (V.told, .fz), none, s24]
theorem marks_loop {V : Envm} {last : Int} (hl : 0 ≤ last ∧ last ≤ 99) {ls : List Lot} (hL : ∀ l ∈ ls, LotOk l) (hlen : ls.length ≤ 10) {us : List Use} {ams : List (List Int)} {left : List Int} (hus : us.length ≤ 24) (B : Books ls us ams left) {u : Urn} {s14 s18 s20 : Option (Dt × Md)} (i14 : isIo s14 = false) (i18 : isIo s18 = false) (i20 : isIo s20 = false)
    {ds : List Dt} (hds : ds.length ≤ 16) (hmany : ds ≠ [] → 0 < ls.length) {k : Fl → DL.Env → Prop}
    (q : ∀ (u : Urn) (cs : List Cnt) (s14 s18 s20 s24 : Option (Dt × Md)), cs.length ≤ 16 → (∀ x ∈ cs, CntOk x ∧ x.n ∈ ls.map (·.n)) → k .nx [some (U u, .io), some (V.names, .ow), some (V.sz, .fz), some (V.top, .fz), some (.int last, .fz), some (.int ls.length, .fz), some (V.ticks, .ow), some (.lst (ls.map lotD), .fz), V.s8, V.s9, none, some (V.left, .ow), some (.lst (us.map useD), .ow), some (.lst (ams.map amD), .ow), s14, V.s15, V.s16, some (.lst (cs.map cntD), .ow), s18, V.s19, s20, V.s21, some (V.told, .fz), none, s24]) :
    OK (forL (gN 14) bMark ds) [some (U u, .io), some (V.names, .ow), some (V.sz, .fz), some (V.top, .fz), some (.int last, .fz), some (.int ls.length, .fz), some (V.ticks, .ow), some (.lst (ls.map lotD), .fz), V.s8, V.s9, none, some (V.left, .ow), some (.lst (us.map useD), .ow), some (.lst (ams.map amD), .ow), s14, V.s15, V.s16, some (.lst [], .ow), s18, V.s19, s20, V.s21, some (V.told, .fz), none, none] k := by
  have hpos : ds ≠ [] → 0 < ls.length := hmany
  refine ok_forL (IMark V last ls us ams ds.length) ?_ _ _ ⟨u, [], s14, s18, s20, none, ⟨i14, i18, i20, rfl⟩, by simp, by simp, rfl⟩ ?_
  · rintro d ds' e ⟨u, cs, s14, s18, s20, s24, ⟨i14, i18, i20, i24⟩, hc, hcs, rfl⟩
    simp only [List.length_cons] at hc
    have h0 : 0 < ls.length := hpos (fun z => by rw [z] at hc; simp at hc)
    unfold bMark
    simp [i14, i18, i20, i24]
    refine ok_take (by omega) (by omega) (fun at' u1 a0 a1 => ?_)
    obtain ⟨i, rfl⟩ := Int.eq_ofNat_of_zero_le a0
    have hi : i < ls.length := by omega
    simp
    refine ok_take (by omega) (by omega) (fun tick u2 t0 t1 => ?_)
    simp [i18, i20, i24, line, bndR]
    refine ⟨by omega, ?_⟩
    refine ok_lcMap (pF us tick) (gF ams i) rfl (by simp) ?_ ?_ (by rw [rangeD_len]; unfold line; omega) ?_
    · intro d hd
      rw [rangeD_0] at hd
      obtain ⟨j, hj, rfl⟩ := List.mem_map.1 hd
      have hj' : j < us.length := List.mem_range.1 hj
      have e1 := atD_map (f := useD) hj'
      have e2 : useAt us j = us[j].t := by unfold useAt; rw [List.getElem?_eq_getElem hj']; rfl
      refine ok_run ?_
      simp [e1, useD, pF, e2]
    · intro d hd _
      rw [rangeD_0] at hd
      obtain ⟨j, hj, rfl⟩ := List.mem_map.1 hd
      have hj' : j < us.length := List.mem_range.1 hj
      have hj2 : j < ams.length := by rw [B.len]; exact hj'
      have e1 := atD_map (f := amD) hj2
      have e2 : rowAt ams j = ams[j] := by unfold rowAt; rw [List.getElem?_eq_getElem hj2]; rfl
      have e3 := atD_int (l := ams[j]) (i := i) (by rw [(B.rows _ (List.getElem_mem hj2)).1]; exact hi)
      refine ok_run ?_
      simp [e1, amD, gF, e2, e3]
    · rw [gone_list]
      have elot := atD_map (f := lotD) hi
      have hok := hL _ (List.getElem_mem hi)
      obtain ⟨g0, g1⟩ := gone_ok B tick hi
      have hu := hok.u
      simp [intsD_map, i24, elot, lotD, line]
      refine ⟨by omega, u2, cs ++ [⟨tick, ls[i].n, ls[i].u - (goneL us ams tick i us.length).sum⟩], some (d, .fz), some (.int tick, .fz), some (.int i, .fz), some (.int (goneL us ams tick i us.length).sum, .fz), ⟨rfl, rfl, rfl, rfl⟩, by simp; omega, ?_, by rw [List.map_append]; rfl⟩
      intro x hx
      rcases List.mem_append.1 hx with h | h
      · exact hcs x h
      · simp only [List.mem_singleton] at h
        subst h
        exact ⟨⟨⟨by simp only; omega, by simp only; omega⟩, hok.n, ⟨by simp only; omega, by simp only; omega⟩⟩, List.mem_map.2 ⟨_, List.getElem_mem hi, rfl⟩⟩
  · rintro e ⟨u, cs, s14, s18, s20, s24, hi, hc, hcs, rfl⟩
    exact q u cs s14 s18 s20 s24 (by simp at hc; omega) hcs
end K64

/-! K64W: the plain law: a record's parts, whole. -/
namespace K64
open PySem L2 DL DX

theorem lots_of {ls : List Lot} {ns : List Str} (h : ls.map (·.n) = ns) (hs : ns.Pairwise fun a b => ltS a b = true) (hl : ns.length ≤ 10) (ok : ∀ l ∈ ls, LotOk l) : Lots ls where
  ok := ok
  asc := by
    rw [← h, List.pairwise_map] at hs
    exact hs
  len := by rw [← h, List.length_map] at hl; exact hl
theorem uses_of {us : List Use} {nm : List Str} (D : Done us nm []) : Uses us where
  ok := D.ok
  asc := by
    have h1 := D.nd
    have h2 := D.asc
    rw [List.append_nil] at h2
    have h3 := (List.nodup_append.1 h1).1
    have h4 : us.Pairwise fun a b => a.n ≠ b.n := List.pairwise_map.1 h3
    have h5 : us.Pairwise fun a b => a.t ≤ b.t := List.pairwise_map.1 h2
    exact List.Pairwise.and h4 h5
  len := by have := D.few; simp at this; omega
/-- the rows that were made -/
structure Made (ls : List Lot) (us : List Use) (ams : List (List Int)) : Prop where
  len : ams.length = us.length
  row : ∀ r ∈ ams, r.length = ls.length
  num : ∀ r ∈ ams, ∀ x ∈ r, 0 ≤ x ∧ x ≤ 999
  ne : ams ≠ [] → 0 < ls.length
theorem mem_sum {l : List Int} (h : ∀ x ∈ l, 0 ≤ x) : ∀ x ∈ l, x ≤ l.sum := by
  induction l with
  | nil => intro x hx; cases hx
  | cons a l ih =>
    have h0 := h a List.mem_cons_self
    have h1 : 0 ≤ l.sum := by
      have := sum_pos (f := fun x : Int => x) (l := l) fun x hx => h x (List.mem_cons_of_mem _ hx)
      simpa using this
    intro x hx
    rw [List.sum_cons]
    rcases List.mem_cons.1 hx with rfl | hx
    · omega
    · have := ih (fun y hy => h y (List.mem_cons_of_mem _ hy)) x hx
      omega
theorem made_of {ls : List Lot} {us : List Use} {ams : List (List Int)} {left : List Int} (hL : ∀ l ∈ ls, LotOk l) (B : Books ls us ams left) : Made ls us ams where
  len := B.len
  row := fun r hr => (B.rows r hr).1
  num := fun r hr x hx => by
    obtain ⟨i, hi, e⟩ := List.mem_iff_getElem.1 hx
    obtain ⟨hl, h0⟩ := B.rows r hr
    have hi' : i < ls.length := by omega
    have e1 : nth r i = x := by rw [nth_get hi, e]
    have h1 := h0 i hi'
    have h2 := B.sum i hi'
    have h3 := B.pos i hi'
    have h4 := (hL _ (List.getElem_mem hi')).u
    have h5 : nth r i ≤ (ams.map fun r => nth r i).sum := mem_sum (fun y hy => by
      obtain ⟨r', hr', rfl⟩ := List.mem_map.1 hy
      exact (B.rows r' hr').2 i hi') _ (List.mem_map.2 ⟨r, hr, rfl⟩)
    omega
  ne := B.ne
def PRec (n : Nat) (r : R) (outs : List Dt) : Prop := ∃ (ls : List Lot) (us : List Use) (cs : List Cnt) (ams : List (List Int)) (u' : Urn), (Lots ls ∧ Uses us ∧ Cnts ls cs ∧ Made ls us ams) ∧ r = .val (.tup [partsD ls us cs, .tup (ams.map amD)]) ∧ outs = U u' :: List.replicate n .non
theorem record_of_ok (u : Urn) {ns : List Str} (hs : ns.Pairwise fun a b => ltS a b = true) (hN : ∀ s ∈ ns, Nm s) (hlen : ns.length ≤ 10) {s0 : Int} {s1 s2 : Nat} (h1 : s1 ≤ 24) (h2 : s2 ≤ 16) {top last : Int} (ht : 1 ≤ top ∧ top ≤ 999) (hl : 0 ≤ last ∧ last ≤ 99) :
    ∃ ls us cs ams u', (Lots ls ∧ Uses us ∧ Cnts ls cs ∧ Made ls us ams) ∧ f_law_record_of.run [U u, .lst (ns.map .str), .tup [.int s0, .int s1, .int s2], .int top, .int last] = some (.ret (.val (.tup [partsD ls us cs, .tup (ams.map amD)])) [U u', .non, .non, .non, .non]) := by
  have e : ∃ r outs, PRec 4 r outs ∧ runB [.io, .fz, .fz, .fz, .fz] 20 m_law_record_of [U u, .lst (ns.map .str), .tup [.int s0, .int s1, .int s2], .int top, .int last] = some (.ret r outs) := by
    refine run_fin ?_
    show OK m_law_record_of [some (U u, .io), some (.lst (ns.map .str), .fz), some (.tup [.int s0, .int s1, .int s2], .fz), some (.int top, .fz), some (.int last, .fz), none, none, none, none, none, none, none, none, none, none, none, none, none, none, none, none, none, none, none, none] _
    unfold m_law_record_of
    simp [line, putA, asV, bndR]
    refine lots_loop ht hl hN hlen (fun u ls s8 s9 i8 i9 hn hL => ?_)
    have hll : ls.length ≤ 10 := by rw [← hn, List.length_map] at hlen; exact hlen
    have hnl : ns.length = ls.length := by rw [← hn, List.length_map]
    have hL' : ∀ l ∈ ls, LotOk l := fun l h => (hL l h).1
    simp [i8, i9]
    refine ok_lcMap (fun _ => true) (fun d => match d with | .tup [_, .int i, _, _] => .int i | d => d) rfl (by simp) (fun _ _ => rfl) ?_ (by rw [List.length_map]; unfold line; omega) ?_
    · intro d hd _
      obtain ⟨l, hl1, rfl⟩ := List.mem_map.1 hd
      refine ok_run ?_
      simp [lotD]
    rw [List.filter_eq_self.2 (fun _ _ => rfl), List.map_map]
    have eleft : ls.map ((fun d => match d with | .tup [_, .int i, _, _] => .int i | d => d) ∘ lotD) = (ls.map (·.u)).map Dt.int := by
      rw [List.map_map]
      rfl
    rw [eleft, hnl]
    generalize hl0 : ls.map (·.u) = left0
    have hleft : left0.length = ls.length := by rw [← hl0, List.length_map]
    simp [line, putA, asV, bndR]
    refine ok_take (by omega) (by omega) (fun x u1 x0 x1 => ?_)
    simp [line]
    refine ok_ofL (by simp) (by simp [line]) (fun d u2 hd => ?_)
    obtain ⟨y, rfl, y0, y1⟩ : ∃ y, d = .int y ∧ 0 ≤ y ∧ y ≤ s1 := by
      simp only [List.mem_cons, List.not_mem_nil, or_false] at hd
      rcases hd with rfl | rfl | rfl | rfl
      · exact ⟨0, rfl, by omega, by omega⟩
      · exact ⟨0, rfl, by omega, by omega⟩
      · exact ⟨_, rfl, by omega, by omega⟩
      · exact ⟨x, rfl, by omega, by omega⟩
    simp [bndR]
    refine ⟨by omega, ?_⟩
    refine ticks_loop (many := .int ls.length) hl hL hll i8 i9 (by rw [rangeD_len]; omega) (fun u3 ts s8 s9 s14 s15 s16 ⟨i8, i9, i14, i15, i16⟩ hts htk => ?_)
    rw [rangeD_len] at hts
    have hts' : ts.length ≤ 24 := by omega
    simp [line, putA, asV, bndR]
    refine ok_names (by omega) (fun nm u4 F => ?_)
    simp [line, putA, asV, bndR, gSort_int]
    have hsl : (isort ltI ts).length = ts.length := (isort_perm ts).length_eq
    have D : Done [] nm (isort ltI ts) := ⟨by simp, F.nm, by simpa using F.nd, by simpa using sort_int ts, fun t h => htk t ((isort_perm ts).mem_iff.1 h), by rw [hsl, F.len]; exact Nat.le_refl _, by rw [hsl]; simpa using hts'⟩
    have B : Books ls [] [] left0 := ⟨rfl, hleft, by simp, by simp, fun i hi => by
      have h1 := (hL' _ (List.getElem_mem hi)).u
      have h2 : nth left0 i = ls[i].u := by rw [nth_get (by omega)]; subst hl0; simp
      omega, fun i hi => by
      have h2 : nth left0 i = ls[i].u := by rw [nth_get (by omega)]; subst hl0; simp
      simp [h2]⟩
    refine uses_loop (V := ⟨.tup [.int s0, .int s1, .int s2], .int top, .int last, .lst (ts.map .int), s8, s9, s14, s15, s16⟩) hL' hll D B (fun u5 us ams left nm s18 s19 s20 s21 ⟨i18, i19, i20, i21⟩ D B => ?_)
    have Us := uses_of D
    simp [line]
    refine ok_take (by omega) (by omega) (fun x u6 x0 x1 => ?_)
    simp [line]
    refine ok_ofL (by simp) (by simp [line]) (fun d u7 hd => ?_)
    obtain ⟨z, rfl, z0, z1⟩ : ∃ z, d = .int z ∧ 0 ≤ z ∧ z ≤ s2 := by
      simp only [List.mem_cons, List.not_mem_nil, or_false] at hd
      rcases hd with rfl | rfl | rfl | rfl
      · exact ⟨0, rfl, by omega, by omega⟩
      · exact ⟨_, rfl, by omega, by omega⟩
      · exact ⟨_, rfl, by omega, by omega⟩
      · exact ⟨x, rfl, by omega, by omega⟩
    simp
    refine okIf_by (fun c1 => ?_) (fun c1 => ?_)
    · have c1' : 0 < ls.length := by simpa using c1
      simp [bndR]
      refine ⟨by omega, ?_⟩
      refine marks_loop (V := ⟨.lst (nm.map .str), .tup [.int s0, .int s1, .int s2], .int top, .lst (ts.map .int), .lst (left.map .int), s8, s9, s15, s16, s19, s21, .int (s2 - z)⟩) hl hL' hll Us.len B i14 i18 i20 (by rw [rangeD_len]; omega) (fun _ => c1') (fun u8 cs s14 s18 s20 s24 hcl hcs => ?_)
      obtain ⟨ds, hd1, hd2, hd3, hd4⟩ := sorted_counts cs (by omega)
      simp [hd1, line]
      refine ⟨ls, us, ds, ams, u8, ⟨lots_of hn hs hlen hL', Us, ⟨fun x hx => (hcs x (hd2 x hx)).1, hd4, by omega, fun x hx => (hcs x (hd2 x hx)).2⟩, made_of hL' B⟩, rfl, rfl⟩
    · simp [bndR]
      refine marks_loop (V := ⟨.lst (nm.map .str), .tup [.int s0, .int s1, .int s2], .int top, .lst (ts.map .int), .lst (left.map .int), s8, s9, s15, s16, s19, s21, .int (s2 - z)⟩) hl hL' hll Us.len B i14 i18 i20 (by simp) (fun z => absurd rfl z) (fun u8 cs s14 s18 s20 s24 hcl hcs => ?_)
      obtain ⟨ds, hd1, hd2, hd3, hd4⟩ := sorted_counts cs (by omega)
      simp [hd1, line]
      refine ⟨ls, us, ds, ams, u8, ⟨lots_of hn hs hlen hL', Us, ⟨fun x hx => (hcs x (hd2 x hx)).1, hd4, by omega, fun x hx => (hcs x (hd2 x hx)).2⟩, made_of hL' B⟩, rfl, rfl⟩
  obtain ⟨r, outs, ⟨ls, us, cs, am, u', hi, rfl, rfl⟩, h⟩ := e
  exact ⟨ls, us, cs, am, u', hi, h⟩
end K64

/-! K64X: the plain law: a drawn record, the checks. -/
namespace K64
open PySem L2 DL DX

theorem ok_record_of {u : Urn} {ns : List Str} (hs : ns.Pairwise fun a b => ltS a b = true) (hN : ∀ s ∈ ns, Nm s) (hlen : ns.length ≤ 10) {s0 : Int} {s1 s2 : Nat} (h1 : s1 ≤ 24) (h2 : s2 ≤ 16) {top last : Int} (ht : 1 ≤ top ∧ top ≤ 999) (hl : 0 ≤ last ∧ last ≤ 99)
    {rl : List R} (hr : rl.length = 4) {rest : DL.Env} {kr : R → DL.Env → Prop} (k : ∀ ls us cs ams u', Lots ls → Uses us → Cnts ls cs → Made ls us ams → kr (.val (.tup [partsD ls us cs, .tup (ams.map amD)])) (eU u' rest)) : OK (callF f_law_record_of (.loc 0 :: rl) [U u, .lst (ns.map .str), .tup [.int s0, .int s1, .int s2], .int top, .int last]) (eU u rest) kr := by
  obtain ⟨ls, us, cs, ams, u', ⟨a, b, c, d⟩, h⟩ := record_of_ok u hs hN hlen h1 h2 ht hl
  exact ok_urn 4 rfl h rfl (k ls us cs ams u' a b c d)
theorem record_ok (u : Urn) {s0 s1 s2 : Nat} (h0 : s0 ≤ 10) (h1 : s1 ≤ 24) (h2 : s2 ≤ 16) {top last : Int} (ht : 1 ≤ top ∧ top ≤ 999) (hl : 0 ≤ last ∧ last ≤ 99) :
    ∃ ls us cs ams u', (Lots ls ∧ Uses us ∧ Cnts ls cs ∧ Made ls us ams) ∧ f_law_record.run [U u, .tup [.int s0, .int s1, .int s2], .int top, .int last] = some (.ret (.val (.tup [partsD ls us cs, .tup (ams.map amD)])) [U u', .non, .non, .non]) := by
  have e : ∃ r outs, PRec 3 r outs ∧ runB [.io, .fz, .fz, .fz] 1 m_law_record [U u, .tup [.int s0, .int s1, .int s2], .int top, .int last] = some (.ret r outs) := by
    refine run_fin ?_
    show OK m_law_record [some (U u, .io), some (.tup [.int s0, .int s1, .int s2], .fz), some (.int top, .fz), some (.int last, .fz), none] _
    unfold m_law_record
    simp [line]
    refine ok_take (by omega) (by omega) (fun x u1 x0 x1 => ?_)
    simp [line]
    refine ok_ofL (by simp) (by simp [line]) (fun d u2 hd => ?_)
    obtain ⟨y, rfl, y1⟩ : ∃ y : Nat, d = .int y ∧ y ≤ s0 := by
      simp only [List.mem_cons, List.not_mem_nil, or_false] at hd
      rcases hd with rfl | rfl | rfl | rfl
      · exact ⟨0, rfl, by omega⟩
      · exact ⟨0, rfl, by omega⟩
      · exact ⟨s0 / 2, by simp, by omega⟩
      · exact ⟨x.toNat, by rw [Int.toNat_of_nonneg x0], by omega⟩
    simp
    rw [show ((s0 : Int) - y) = ((s0 - y : Nat) : Int) by omega]
    refine ok_names (by omega) (fun ns u3 F => ?_)
    have hsl : (isort ltS ns).length = ns.length := (isort_perm ns).length_eq
    have hF := F.len
    simp [gSort_str (show ns.length < 64 by omega)]
    refine ok_record_of (sort_str F.nd) (fun s h => F.nm s ((isort_perm ns).mem_iff.1 h)) (by omega) h1 h2 ht hl rfl (fun ls us cs ams u4 L Us C Md => ?_)
    simp
    exact ⟨ls, us, cs, ams, u4, ⟨L, Us, C, Md⟩, rfl, rfl⟩
  obtain ⟨r, outs, ⟨ls, us, cs, am, u', hi, rfl, rfl⟩, h⟩ := e
  exact ⟨ls, us, cs, am, u', hi, h⟩
end K64

/-! K64Y: the plain law: what is right. -/
namespace K64
open PySem L2 DL DX

theorem ok_plain {fs : Fs} {ds : List Dt} {rl : List R} {env : DL.Env} {q : R} {kr : R → DL.Env → Prop} (n : Nat) (hio : fs.io = List.replicate n .fz) (h : fs.run ds = some (.ret q (List.replicate n .non))) (nl : isLoc q = false) (k : kr q env) : OK (callF fs rl ds) env kr := by
  have hl : lent fs.io rl = [] := by rw [hio, lent_fz]
  have hp : putB fs.io rl (List.replicate n .non) env = env := by rw [hio, putB_fz]
  have hlen : (List.replicate n Dt.non).length = fs.io.length := by rw [hio, List.length_replicate, List.length_replicate]
  refine ⟨q, env, ?_, k⟩
  unfold callF
  rw [hl, if_pos ⟨by simp, by simp⟩, h]
  cases q with
  | val d => simp only [if_pos hlen, hp]
  | new d => simp only [if_pos hlen, hp]
  | loc i => cases nl
@[simp] theorem io_whole : fis_whole.io = [.fz] := rfl
@[simp] theorem io_number : fis_number.io = [.fz, .fz, .fz] := rfl
@[simp] theorem io_tuple_of : fis_tuple_of.io = [.fz, .fz] := rfl
@[simp] theorem io_letters : fis_letters.io = [.fz, .fz, .fz] := rfl
@[simp] theorem io_name : fis_name.io = [.fz] := rfl
@[simp] theorem io_lot : fis_lot.io = [.fz, .fz] := rfl
@[simp] theorem io_use : fis_use.io = [.fz, .fz] := rfl
@[simp] theorem io_count : fis_count.io = [.fz, .fz] := rfl
@[simp] theorem io_wrong : fwrong_at.io = [.fz, .fz, .fz] := rfl
@[simp] theorem io_clots : fcheck_lots.io = [.fz] := rfl
@[simp] theorem io_cuses : fcheck_uses.io = [.fz] := rfl
@[simp] theorem io_ccounts : fcheck_counts.io = [.fz, .fz] := rfl
def PIs (n : Nat) (q : R) (r : R) (outs : List Dt) : Prop := r = q ∧ outs = List.replicate n .non
theorem run_is {n k : Nat} {m : M Fl} {ds : List Dt} {q : R} (h : OK m (startE (List.replicate n .fz) k ds) (fin (List.replicate n .fz) (PIs n q))) : runB (List.replicate n .fz) k m ds = some (.ret q (List.replicate n .non)) := by
  obtain ⟨r, outs, ⟨rfl, rfl⟩, h⟩ := run_fin h
  exact h
abbrev yes : R := .val (.bl true)

theorem whole_ok (v : Int) : fis_whole.run [.int v] = some (.ret yes [.non]) := by kernel_rfl
theorem tuple_of_4 (a b c d : Dt) : fis_tuple_of.run [.tup [a, b, c, d], .int 4] = some (.ret yes [.non, .non]) := by kernel_rfl
theorem tuple_of_3 (a b c : Dt) : fis_tuple_of.run [.tup [a, b, c], .int 3] = some (.ret yes [.non, .non]) := by kernel_rfl
theorem number_ok {v lo hi : Int} (h : lo ≤ v ∧ v ≤ hi) : fis_number.run [.int v, .int lo, .int hi] = some (.ret yes [.non, .non, .non]) := by
  refine run_is (n := 3) ?_
  show OK mis_number [some (.int v, .fz), some (.int lo, .fz), some (.int hi, .fz)] _
  unfold mis_number
  simp
  refine ok_plain 1 rfl (whole_ok v) rfl ?_
  have h1 : ¬ v < lo := by omega
  simp [h1, h.2, PIs]
theorem ok_number {v lo hi : Int} {rl : List R} {env : DL.Env} {kr : R → DL.Env → Prop} (h : lo ≤ v ∧ v ≤ hi) (k : kr yes env) : OK (callF fis_number rl [.int v, .int lo, .int hi]) env kr := ok_plain 3 rfl (number_ok h) rfl k
theorem signs_mem : ∀ {l : List Nat} {d : Dt}, d ∈ signs l → ∃ c, c ∈ l ∧ d = .str ⟨#[c]⟩
  | [], d, h => by cases h
  | c :: l, d, h => by
    rcases List.mem_cons.1 (show d ∈ Dt.str ⟨#[c]⟩ :: signs l from h) with rfl | h
    · exact ⟨c, List.mem_cons_self, rfl⟩
    · obtain ⟨c', h1, h2⟩ := signs_mem h
      exact ⟨c', List.mem_cons_of_mem _ h1, h2⟩
theorem signs_len : ∀ l : List Nat, (signs l).length = l.length
  | [] => rfl
  | c :: l => by show (signs l).length + 1 = _; rw [signs_len l]; rfl
theorem in_letters {c : Nat} (h : 97 ≤ c ∧ c < 123) : gIn2 (.str ⟨#[c]⟩) (.str letters) = some (.val (.bl true)) := by
  have key : ∀ c, c < 123 → 97 ≤ c → decide (c ∈ letters.cps.toList) = true := by decide +kernel
  show some (R.val (.bl (decide (c ∈ letters.cps.toList)))) = _
  rw [key c h.2 h.1]
theorem all_yes : ∀ l : List Dt, gAll [.lst (l.map fun _ => Dt.bl true)] = some yes := fun l => by
  have h : blsD (l.map fun _ => Dt.bl true) = some (l.map fun _ => true) := by
    induction l with
    | nil => rfl
    | cons a l ih => rw [List.map_cons, List.map_cons]; unfold blsD; rw [ih]; rfl
  unfold gAll gBls
  simp only [lstD, h, Option.map_some]
  congr 3
  simp
theorem isp_str (s : Str) : gIsP [.str s, .ty "str"] = some yes := by kernel_rfl
theorem letters_ok {s : Str} (h : Nm s) : fis_letters.run [.str s, .int 1, .int 8] = some (.ret yes [.non, .non, .non]) := by
  have h1 := h.pos
  have h2 := h.most
  refine run_is (n := 3) ?_
  show OK mis_letters [some (.str s, .fz), some (.int 1, .fz), some (.int 8, .fz), none] _
  unfold mis_letters
  have a1 : (1 : Int) ≤ (s.length : Int) := by omega
  have a2 : (s.length : Int) ≤ 8 := by omega
  have a3 : s.length ≤ line := by unfold line; omega
  simp [isp_str, a1, a2, a3]
  refine ok_lcMap (fun _ => true) (fun _ => .bl true) rfl (by simp) (fun _ _ => rfl) ?_ (by rw [signs_len]; exact a3) ?_
  · intro d hd _
    obtain ⟨c, hc, rfl⟩ := signs_mem hd
    refine ok_run ?_
    have := in_letters (h.lets c hc)
    simp [show (Str.ofString "abcdefghijklmnopqrstuvwxyz" : Str) = letters from rfl, this]
  · simp [all_yes, PIs]
theorem name_ok {s : Str} (h : Nm s) : fis_name.run [.str s] = some (.ret yes [.non]) := by
  refine run_is (n := 1) ?_
  show OK mis_name [some (.str s, .fz)] _
  unfold mis_name
  simp
  refine ok_plain 3 rfl (letters_ok h) rfl ?_
  simp [PIs]
theorem ok_name {s : Str} {rl : List R} {env : DL.Env} {kr : R → DL.Env → Prop} (h : Nm s) (k : kr yes env) : OK (callF fis_name rl [.str s]) env kr := ok_plain 1 rfl (name_ok h) rfl k
end K64

/-! K64Z: the plain law: lots, uses and counts are taken. -/
namespace K64
open PySem L2 DL DX

theorem eqT_end {x : List Dt} {d : Dt} : eqT (.tup (x ++ [d])) (.tup []) = false := by
  cases x <;> rfl
theorem eqT_nn : eqT (.tup []) (.tup []) = true := rfl
theorem last_or {α : Type} (l : List α) : l = [] ∨ ∃ a b, l = a ++ [b] := by
  rcases List.eq_nil_or_concat l with h | ⟨a, b, h⟩
  · exact .inl h
  · exact .inr ⟨a, b, by rw [h, List.concat_eq_append]⟩
theorem lotEq (l : Lot) : lotD l = .tup [.str l.n, .int l.u, .int l.f, .int l.e] := rfl
theorem useEq (l : Use) : useD l = .tup [.str l.n, .int l.t, .int l.u] := rfl
theorem lot_ok {l : Lot} (h : LotOk l) {bs : List Lot} (hb : ∀ b ∈ bs, LotOk b) (hl : bs.length ≤ 24) (asc : ∀ b ∈ bs, ltS b.n l.n = true) : fis_lot.run [lotD l, .tup (bs.map lotD)] = some (.ret yes [.non, .non]) := by
  have h1 := h.u; have h2 := h.f; have h3 := h.e
  have hf := eqTT_fit (fit_lots hb hl) fit_nil (by omega) (by omega)
  refine run_is (n := 2) ?_
  show OK mis_lot [some (lotD l, .fz), some (.tup (bs.map lotD), .fz)] _
  unfold mis_lot
  rw [lotEq l]
  simp
  refine ok_plain 2 rfl (tuple_of_4 _ _ _ _) rfl ?_
  simp
  refine ok_name h.n ?_
  simp
  refine ok_number (by omega) ?_
  simp
  refine ok_number (by omega) ?_
  simp
  refine ok_number (by omega) ?_
  simp
  rcases last_or bs with rfl | ⟨a, b, rfl⟩
  · simp at hf
    simp [line, hf, eqT_nn, PIs]
  · have hab := asc b (by simp)
    simp at hf
    simp [line, hf, eqT_end, atD_last]
    simp [lotEq b, hab, PIs]
theorem use_ok {l : Use} (h : UseOk l) {bs : List Use} (hb : Uses (bs ++ [l])) : fis_use.run [useD l, .tup (bs.map useD)] = some (.ret yes [.non, .non]) := by
  have h1 := h.u; have h2 := h.t
  have asc := hb.asc
  rw [List.pairwise_append] at asc
  have hbs : Uses bs := ⟨fun x hx => hb.ok x (List.mem_append_left _ hx), asc.1, by have := hb.len; simp at this; omega⟩
  have hbl := hbs.len
  have hal : ∀ b ∈ bs, b.n ≠ l.n ∧ b.t ≤ l.t := fun b hx => asc.2.2 b hx l (by simp)
  have hf := eqTT_fit (fit_uses hbs) fit_nil (by omega) (by omega)
  refine run_is (n := 2) ?_
  show OK mis_use [some (useD l, .fz), some (.tup (bs.map useD), .fz), none] _
  unfold mis_use
  rw [useEq l]
  simp
  refine ok_plain 2 rfl (tuple_of_3 _ _ _) rfl ?_
  simp
  refine ok_name h.n ?_
  simp
  refine ok_number (by omega) ?_
  simp
  refine ok_number (by omega) ?_
  simp
  refine ok_lcMap (fun _ => true) (fun d => match d with | .tup [.str s, _, _] => .str s | d => d) rfl (by simp) (fun _ _ => rfl) ?_ (by rw [List.length_map]; unfold line; omega) ?_
  · intro d hd _
    obtain ⟨l, hl1, rfl⟩ := List.mem_map.1 hd
    refine ok_run ?_
    simp [useEq]
  rw [List.filter_eq_self.2 (fun _ _ => rfl), List.map_map]
  have enm : bs.map ((fun d => match d with | .tup [.str s, _, _] => .str s | d => d) ∘ useD) = (bs.map (·.n)).map Dt.str := by
    rw [List.map_map]
    rfl
  rw [enm]
  have hin : gIn2 (.str l.n) (.lst ((bs.map (·.n)).map .str)) = some (.val (.bl false)) := by
    have hz : gIn (.str l.n) (.lst ((bs.map (·.n)).map .str)) = some (.val (.bl false)) := by
      have q := gNotIn_str (s := l.n) (ns := bs.map (·.n))
      have hnot : l.n ∉ bs.map (·.n) := fun hm => by
        obtain ⟨b, hb1, hb2⟩ := List.mem_map.1 hm
        exact (hal b hb1).1 hb2
      rw [decide_eq_false hnot] at q
      unfold gNotIn at q
      unfold gIn
      cases c : inD (.str l.n) (.lst ((bs.map (·.n)).map .str)) with
      | none => rw [c] at q; cases q
      | some v =>
        rw [c] at q
        cases v with
        | true => cases q
        | false => rfl
    unfold gIn2 gOr
    rw [hz]
  generalize (bs.map (·.n)).map Dt.str = nn at hin
  simp [hin]
  rcases last_or bs with rfl | ⟨a, b, rfl⟩
  · simp at hf
    simp [line, hf, eqT_nn, PIs]
  · have hab := (hal b (by simp)).2
    simp at hf
    simp [line, hf, eqT_end, atD_last]
    simp [useEq b, hab, PIs]
theorem keyD (c : Cnt) : cntD c = .tup [.int c.t, .str c.n, .int c.c] := rfl
theorem lt_cnt {a b : Cnt} (h : MS.klt (cntK a) (cntK b) = true) : gLtT (cntD a) (cntD b) = some yes := by
  show (if MS.kinds (cntK a) = MS.kinds (cntK b) then some (R.val (.bl (MS.klt (cntK a) (cntK b)))) else none) = _
  rw [if_pos (show MS.kinds (cntK a) = MS.kinds (cntK b) from rfl), h]
theorem count_ok {ls : List Lot} {l : Cnt} (h : CntOk l) {bs : List Cnt} (hb : Cnts ls (bs ++ [l])) : fis_count.run [cntD l, .tup (bs.map cntD)] = some (.ret yes [.non, .non]) := by
  have h1 := h.t; have h2 := h.c
  have asc := hb.asc
  rw [List.pairwise_append] at asc
  have hbs : Cnts ls bs := ⟨fun x hx => hb.ok x (List.mem_append_left _ hx), asc.1, by have := hb.len; simp at this; omega, fun x hx => hb.nm x (List.mem_append_left _ hx)⟩
  have hal : ∀ b ∈ bs, MS.klt (cntK b) (cntK l) = true := fun b hx => asc.2.2 b hx l (by simp)
  have hf := eqTT_fit (fit_cnts hbs) fit_nil (by omega) (by omega)
  refine run_is (n := 2) ?_
  show OK mis_count [some (cntD l, .fz), some (.tup (bs.map cntD), .fz)] _
  unfold mis_count
  have hlt : ∀ b ∈ bs, gLtT (cntD b) (.tup [.int l.t, .str l.n, .int l.c]) = some yes := fun b hx => lt_cnt (hal b hx)
  rw [keyD l]
  simp
  refine ok_plain 2 rfl (tuple_of_3 _ _ _) rfl ?_
  simp
  refine ok_number (by omega) ?_
  simp
  refine ok_name h.n ?_
  simp
  refine ok_number (by omega) ?_
  simp
  rcases last_or bs with rfl | ⟨a, b, rfl⟩
  · simp at hf
    simp [line, hf, eqT_nn, PIs]
  · have hab := hlt b (by simp)
    simp at hf
    have hab' : gLess2 (cntD b) (.tup [.int l.t, .str l.n, .int l.c]) = some yes := hab
    simp [line, hf, eqT_end, atD_last, hab', PIs]
end K64

/-! K64A: the plain law: the checks, a record is made. -/
namespace K64
open PySem L2 DL DX

@[simp] theorem ok_fnL {i : Nat} {tab : List (Str × Fs)} {l : List (M R)} {env : DL.Env} {kr : R → DL.Env → Prop} {y : Str} {fs : Fs} (h : gs env i = some (.glob y, .fz)) (h2 : tabF tab y = some fs) : OK (mFnL i tab l) env kr ↔ OK (mFn fs l) env kr := by
  have e : mFnL i tab l env = mFn fs l env := by
    unfold mFnL
    rw [h]
    simp only [h2]
  unfold OK
  rw [e]
theorem isp_tup (ds : List Dt) : gIsP [.tup ds, .ty "tuple"] = some yes := by kernel_rfl
theorem enumD_cons {k : Int} {d : Dt} {ds : List Dt} : enumD k (d :: ds) = .tup [.int k, d] :: enumD (k + 1) ds := rfl
def IWr {α : Type} (D : α → Dt) (most : Nat) (y : Str) (xs : List α) (ds : List Dt) (e : DL.Env) : Prop := ∃ (i : Nat) (s3 s4 : Option (Dt × Md)), isIo s3 = false ∧ isIo s4 = false ∧ i ≤ xs.length ∧ ds = enumD i ((xs.drop i).map D) ∧
  e = [some (.tup (xs.map D), .fz), some (.int most, .fz), some (.glob y, .fz), s3, s4]
theorem cut_take {α : Type} {D : α → Dt} {xs : List α} {i : Nat} (h : i ≤ xs.length) : cutD (xs.map D) none (some (i : Int)) = (xs.take i).map D := by
  unfold cutD
  rw [HT.sIx_none, List.drop_zero, Nat.sub_zero, HT.sIx_nat, List.length_map, Nat.min_eq_left h, List.map_take]
theorem wrong_ok {α : Type} {D : α → Dt} {most : Nat} {y : Str} {fs : Fs} (hy : tabF tab_wrong_at y = some fs) (hio : fs.io = [.fz, .fz]) {xs : List α} (hl : xs.length ≤ most) (hr : ∀ i (h : i < xs.length), fs.run [D xs[i], .tup ((xs.take i).map D)] = some (.ret yes [.non, .non])) :
    fwrong_at.run [.tup (xs.map D), .int most, .glob y] = some (.ret (.new (.lst [])) [.non, .non, .non]) := by
  refine run_is (n := 3) ?_
  show OK mwrong_at [some (.tup (xs.map D), .fz), some (.int most, .fz), some (.glob y, .fz), none, none] _
  unfold mwrong_at
  simp [isp_tup]
  refine ok_forL (IWr D most y xs) ?_ _ _ ⟨0, none, none, rfl, rfl, Nat.zero_le _, by simp, rfl⟩ ?_
  · rintro d ds e ⟨i, s3, s4, i3, i4, hi, hd, rfl⟩
    have hlt : i < xs.length := by
      by_cases c : i < xs.length
      · exact c
      · rw [List.drop_eq_nil_of_le (by omega)] at hd
        cases hd
    rw [List.drop_eq_getElem_cons hlt, List.map_cons, enumD_cons] at hd
    injection hd with hd1 hd2
    subst hd1
    have hne : ¬ ((i : Int) = (most : Int)) := by omega
    have hc := cut_take (D := D) (xs := xs) (i := i) (by omega)
    simp [i3, i4, hne]
    rw [ok_fnL (by rfl) hy]
    simp [hio, hc]
    refine ok_plain 2 hio (by have := hr i hlt; rw [List.map_take] at this; exact this) rfl ?_
    simp
    exact ⟨i + 1, some (.int i, .fz), some (D xs[i], .fz), rfl, rfl, by omega, by rw [hd2]; rfl, rfl⟩
  · rintro e ⟨i, s3, s4, i3, i4, hi, hd, rfl⟩
    simp [line, PIs]
theorem ok_wrong {α : Type} {D : α → Dt} {most : Nat} {y : Str} {fs : Fs} (hy : tabF tab_wrong_at y = some fs) (hio : fs.io = [.fz, .fz]) {xs : List α} (hl : xs.length ≤ most) (hr : ∀ i (h : i < xs.length), fs.run [D xs[i], .tup ((xs.take i).map D)] = some (.ret yes [.non, .non]))
    {rl : List R} {env : DL.Env} {kr : R → DL.Env → Prop} (k : kr (.new (.lst [])) env) : OK (callF fwrong_at rl [.tup (xs.map D), .int most, .glob y]) env kr := ok_plain 3 rfl (wrong_ok hy hio hl hr) rfl k
theorem ok_for0 {tg : Tg} {b : M Fl} {env : DL.Env} {k : Fl → DL.Env → Prop} : OK (forL tg b []) env k ↔ k .nx env := okE_ok
theorem tab_lot : tabF tab_wrong_at "is_lot" = some fis_lot := rfl
theorem tab_use : tabF tab_wrong_at "is_use" = some fis_use := by
  show (if ("is_use" : Str) = "is_lot" then _ else if ("is_use" : Str) = "is_use" then _ else _) = _
  rw [if_neg (by decide +kernel), if_pos rfl]
theorem tab_count : tabF tab_wrong_at "is_count" = some fis_count := by
  show (if ("is_count" : Str) = "is_lot" then _ else if ("is_count" : Str) = "is_use" then _ else if ("is_count" : Str) = "is_count" then _ else _) = _
  rw [if_neg (by decide +kernel), if_neg (by decide +kernel), if_pos rfl]
theorem take_end {α : Type} {xs : List α} {i : Nat} (h : i < xs.length) : xs.take (i + 1) = xs.take i ++ [xs[i]] := by
  rw [List.take_add_one, List.getElem?_eq_getElem h]
  rfl
theorem Lots.before {ls : List Lot} (h : Lots ls) {i : Nat} (hi : i < ls.length) : ∀ b ∈ ls.take i, ltS b.n ls[i].n = true := by
  have p := h.asc.sublist (List.take_sublist (i + 1) ls)
  rw [take_end hi, List.pairwise_append] at p
  exact fun b hb => p.2.2 b hb _ (by simp)
theorem Uses.upto {us : List Use} (h : Uses us) {i : Nat} (hi : i < us.length) : Uses (us.take i ++ [us[i]]) := by
  rw [← take_end hi]
  exact ⟨fun x hx => h.ok x (List.mem_of_mem_take hx), h.asc.sublist (List.take_sublist _ _), by rw [List.length_take]; have := h.len; omega⟩
theorem Cnts.upto {ls : List Lot} {us : List Cnt} (h : Cnts ls us) {i : Nat} (hi : i < us.length) : Cnts ls (us.take i ++ [us[i]]) := by
  rw [← take_end hi]
  exact ⟨fun x hx => h.ok x (List.mem_of_mem_take hx), h.asc.sublist (List.take_sublist _ _), by rw [List.length_take]; have := h.len; omega, fun x hx => h.nm x (List.mem_of_mem_take hx)⟩
theorem check_lots_ok {ls : List Lot} (h : Lots ls) : fcheck_lots.run [.tup (ls.map lotD)] = some (.ret (.val .non) [.non]) := by
  have hlen := h.len
  refine run_is (n := 1) ?_
  show OK mcheck_lots [some (.tup (ls.map lotD), .fz), none] _
  unfold mcheck_lots
  simp
  refine ok_wrong (most := 10) tab_lot rfl h.len (fun i hi => lot_ok (h.ok _ (List.getElem_mem hi)) (fun b hb => h.ok b (List.mem_of_mem_take hb)) (by rw [List.length_take]; omega) (h.before hi)) ?_
  simp [ok_for0, PIs]
theorem check_uses_ok {us : List Use} (h : Uses us) : fcheck_uses.run [.tup (us.map useD)] = some (.ret (.val .non) [.non]) := by
  refine run_is (n := 1) ?_
  show OK mcheck_uses [some (.tup (us.map useD), .fz), none] _
  unfold mcheck_uses
  simp
  refine ok_wrong (most := 24) tab_use rfl h.len (fun i hi => use_ok (h.ok _ (List.getElem_mem hi)) (h.upto hi)) ?_
  simp [ok_for0, PIs]
end K64

/-! K64B: the plain law: counts are checked, a record is made and compared. -/
namespace K64
open PySem L2 DL DX

theorem ne_non : eqTT (.lst []) (.lst [.non]) = some false := by kernel_rfl
theorem ne_nil : eqTT (.lst []) (.lst []) = some true := by kernel_rfl
def tgS : Tg := gT 2 (gCons' (gN 5) (gCons' (gN 6) gNil'))
def ttS : M Bool := mTC gNotIn (mOp gIdx (mN 6) (mC (.int 1))) (mN 4)
abbrev envS (a b c : Dt) (nn : List Str) (s3 : Option (Dt × Md)) : DL.Env := [some (a, .fz), some (b, .fz), some (c, .ow), s3, some (.lst (nn.map .str), .ow), none, none, none, none]
theorem strange_loop {a b c : Dt} {nn : List Str} {s3 : Option (Dt × Md)} {te : M R} : ∀ {cs : List Cnt} (k : Int), (∀ x ∈ cs, x.n ∈ nn) → lcL [5, 6] tgS (noEr ttS) te (enumD k (cs.map cntD)) [] (envS a b c nn s3) = some (.ok (.new (.lst [])) (envS a b c nn s3))
  | [], k, h => rfl
  | x :: cs, k, h => by
    have ih := strange_loop (a := a) (b := b) (c := c) (s3 := s3) (te := te) (cs := cs) (k + 1) fun y hy => h y (List.mem_cons_of_mem _ hy)
    have hx := h x List.mem_cons_self
    have h1 : tgS (.tup [.int k, cntD x]) (envS a b c nn s3) = some (.ok .nx [some (a, .fz), some (b, .fz), some (c, .ow), s3, some (.lst (nn.map .str), .ow), some (.int k, .fz), some (cntD x, .fz), none, none]) := rfl
    have h2 : ttS [some (a, .fz), some (b, .fz), some (c, .ow), s3, some (.lst (nn.map .str), .ow), some (.int k, .fz), some (cntD x, .fz), none, none] = some (.ok false [some (a, .fz), some (b, .fz), some (c, .ow), s3, some (.lst (nn.map .str), .ow), some (.int k, .fz), some (cntD x, .fz), none, none]) := by
      refine ok_run ?_
      unfold ttS
      simp [keyD x, gNotIn_str, hx]
    rw [List.map_cons, enumD_cons]
    simp only [lcL, M.bind, h1]
    have h3 : noEr ttS [some (a, .fz), some (b, .fz), some (c, .ow), s3, some (.lst (nn.map .str), .ow), some (.int k, .fz), some (cntD x, .fz), none, none] = some (.ok false [some (a, .fz), some (b, .fz), some (c, .ow), s3, some (.lst (nn.map .str), .ow), some (.int k, .fz), some (cntD x, .fz), none, none]) := by
      unfold noEr
      rw [h2]
    simp only [h3, Bool.false_eq_true, if_false]
    exact ih
theorem ok_strange {a b c : Dt} {nn : List Str} {s3 : Option (Dt × Md)} {te : M R} {cs : List Cnt} {k : Int} {kr : R → DL.Env → Prop} (h : ∀ x ∈ cs, x.n ∈ nn) (q : kr (.new (.lst [])) (envS a b c nn s3)) :
    OK (lcG [5, 6] (lcL [5, 6] tgS (noEr ttS) te (enumD k (cs.map cntD)) [])) (envS a b c nn s3) kr := by
  refine ⟨_, _, ?_, q⟩
  unfold lcG
  rw [if_pos (by rfl)]
  unfold onEr
  rw [strange_loop k h]
theorem check_counts_ok {ls : List Lot} {cs : List Cnt} (hL : Lots ls) (h : Cnts ls cs) : fcheck_counts.run [.tup (ls.map lotD), .tup (cs.map cntD)] = some (.ret (.val .non) [.non, .non]) := by
  have hlen := hL.len
  refine run_is (n := 2) ?_
  show OK mcheck_counts [some (.tup (ls.map lotD), .fz), some (.tup (cs.map cntD), .fz), none, none, none, none, none, none, none] _
  unfold mcheck_counts
  simp
  refine ok_wrong (most := 16) tab_count rfl h.len (fun i hi => count_ok (h.ok _ (List.getElem_mem hi)) (h.upto hi)) ?_
  simp
  refine ok_lcMap (fun _ => true) (fun d => match d with | .tup [.str s, _, _, _] => .str s | d => d) rfl (by simp) (fun _ _ => rfl) ?_ (by rw [List.length_map]; unfold line; omega) ?_
  · intro d hd _
    obtain ⟨l, hl1, rfl⟩ := List.mem_map.1 hd
    refine ok_run ?_
    simp [lotEq]
  rw [List.filter_eq_self.2 (fun _ _ => rfl), List.map_map]
  have enm : ls.map ((fun d => match d with | .tup [.str s, _, _, _] => .str s | d => d) ∘ lotD) = (ls.map (·.n)).map Dt.str := by
    rw [List.map_map]
    rfl
  rw [enm]
  have hnm := h.nm
  generalize ls.map (·.n) = nn at hnm
  simp [line, ne_non, ne_nil]
  refine ok_strange hnm ?_
  simp [cutD, line, ok_for0, PIs]

/-! ### a record -/
@[simp] theorem ok_ini1 {m mv : M R} {ms : List (M R)} {env : DL.Env} {kr : R → DL.Env → Prop} : OK (mIni (m :: ms) mv) env kr ↔ OK m env fun _ e => OK (mIni ms mv) e kr := ok_bind
@[simp] theorem ok_ini0 {mv : M R} {env : DL.Env} {kr : R → DL.Env → Prop} : OK (mIni [] mv) env kr ↔ OK mv env kr := Iff.rfl
theorem new_ok {ls : List Lot} {us : List Use} {cs : List Cnt} (hL : Lots ls) (hU : Uses us) (hC : Cnts ls cs) : newV m__init__ [.tup (ls.map lotD), .tup (us.map useD), .tup (cs.map cntD)] = some (partsD ls us cs) := by
  have h : OK m__init__ [none, some (.tup (ls.map lotD), .fz), some (.tup (us.map useD), .fz), some (.tup (cs.map cntD), .fz)] fun r e => r = .val (partsD ls us cs) := by
    unfold m__init__ ms__init__ mv__init__
    simp
    refine ok_plain 1 rfl (check_lots_ok hL) rfl ?_
    simp
    refine ok_plain 1 rfl (check_uses_ok hU) rfl ?_
    simp
    refine ok_plain 2 rfl (check_counts_ok hL hC) rfl ?_
    simp [line, partsD]
  obtain ⟨r, e, h, rfl⟩ := h
  unfold newV
  rw [show parE [.tup (ls.map lotD), .tup (us.map useD), .tup (cs.map cntD)] = [none, some (.tup (ls.map lotD), .fz), some (.tup (us.map useD), .fz), some (.tup (cs.map cntD), .fz)] from rfl, h]
abbrev recD (p : Dt) : Dt := .ins "Record" [("told", p)]
theorem isi_rec (p : Dt) : gIsI "Record" [recD p, .glob "Record"] = some yes := by kernel_rfl
theorem prp_told (p : Dt) : gPrp "Record" "told" none (recD p) = some (.val p) := by
  kernel_rfl
theorem prp_ix {x : List Dt} {i : Nat} {d : Dt} (h : x[i]? = some d) : gPrp "Record" "told" (some i) (recD (.tup x)) = some (.val d) := by
  have e : gPrp "Record" "told" (some i) (recD (.tup x)) = (x[i]?).map R.val := by kernel_rfl
  rw [e, h]
  rfl
end K64

/-! K64N: the plain law: what the program says of a value, whatever it is. -/
namespace K64
open PySem L2 DL DX

/-- a plain thing, that may stand in a row -/
structure El (d : Dt) : Prop where
  ty : (tyD d).isSome = true
  py : ∃ p, pyD d = some p ∧ p.canLay0 = true ∧ p.depth ≤ 10
/-- a row, or what stands for one -/
structure RowV (d : Dt) : Prop where
  ty : (tyD d).isSome = true
  el : ∀ xs, d = .tup xs → ∀ e ∈ xs, El e
/-- a value -/
structure Val (d : Dt) : Prop where
  ty : (tyD d).isSome = true ∨ ∃ kvs, d = .dic kvs
  row : ∀ xs, d = .tup xs → ∀ e ∈ xs, RowV e
def isNum : Dt → Bool
  | .int _ => true
  | _ => false
def nonneg : Dt → Bool
  | .int i => decide (0 ≤ i)
  | _ => false
def isTupN (d : Dt) (n : Nat) : Bool := match d with
  | .tup xs => decide (xs.length = n)
  | _ => false
abbrev bl (b : Bool) : R := .val (.bl b)
@[simp] theorem io_record_ : fcheck_record.io = [.fz] := rfl
@[simp] theorem io_units : fare_units.io = [.fz, .fz, .fz] := rfl
@[simp] theorem io_upto : fused_up_to.io = [.fz, .fz, .fz, .fz] := rfl
@[simp] theorem io_filled : fis_filled_by.io = [.fz, .fz] := rfl
@[simp] theorem io_filling : fis_filling.io = [.fz, .fz] := rfl
@[simp] theorem io_lfilling : f_law_is_filling.io = [.fz, .fz] := rfl
@[simp] theorem io_moved : f_law_moved.io = [.io, .fz, .fz] := rfl
@[simp] theorem io_odd : f_law_odd.io = [.io, .fz] := rfl
theorem whole_el {e : Dt} (h : (tyD e).isSome = true) : fis_whole.run [e] = some (.ret (bl (isNum e)) [.non]) := by
  cases e with
  | non => kernel_rfl
  | bl b => cases b <;> kernel_rfl
  | int i => kernel_rfl
  | str s => kernel_rfl
  | tup xs => kernel_rfl
  | lst xs => kernel_rfl
  | _ => cases h
theorem number_el {e : Dt} (h : (tyD e).isSome = true) : fis_number.run [e, .int 0, .non] = some (.ret (bl (nonneg e)) [.non, .non, .non]) := by
  refine run_is (n := 3) ?_
  show OK mis_number [some (e, .fz), some (.int 0, .fz), some (.non, .fz)] _
  unfold mis_number
  simp
  refine ok_plain 1 rfl (whole_el h) rfl ?_
  cases e with
  | int i =>
    simp [isNum]
    refine okIf_by (fun c => ?_) (fun c => ?_)
    · simp at c
      have : ¬ 0 ≤ i := by omega
      simp [PIs, nonneg, this]
    · simp at c
      simp [PIs, nonneg, c]
  | _ => simp [isNum, nonneg, PIs]
theorem tuple_el {d : Dt} {n : Nat} (h : (tyD d).isSome = true ∨ ∃ kvs, d = .dic kvs) : fis_tuple_of.run [d, .int n] = some (.ret (bl (isTupN d n)) [.non, .non]) := by
  have other : ∀ d : Dt, gIsQ [d, .ty "tuple"] = some (bl false) → fis_tuple_of.run [d, .int n] = some (.ret (bl false) [.non, .non]) := fun d h => by
    refine run_is (n := 2) ?_
    show OK mis_tuple_of [some (d, .fz), some (.int n, .fz)] _
    unfold mis_tuple_of
    simp [h, PIs]
  cases d with
  | tup xs =>
    have e : runB [.fz, .fz] 0 mis_tuple_of [.tup xs, .int n] = some (.ret (bl (isTupN (.tup xs) n)) [.non, .non]) := by
      refine run_is (n := 2) ?_
      show OK mis_tuple_of [some (.tup xs, .fz), some (.int n, .fz)] _
      unfold mis_tuple_of
      have h1 : gIsQ [.tup xs, .ty "tuple"] = some (bl true) := by kernel_rfl
      simp [h1, PIs, isTupN]
      omega
    exact e
  | non => exact other _ (by kernel_rfl)
  | bl b => exact other _ (by kernel_rfl)
  | int i => exact other _ (by kernel_rfl)
  | str s => exact other _ (by kernel_rfl)
  | lst xs => exact other _ (by kernel_rfl)
  | dic kvs => exact other _ (by kernel_rfl)
  | _ => rcases h with h | ⟨_, h⟩ <;> cases h
/-- the numbers of a row that is one -/
theorem nums_of : ∀ {xs : List Dt}, xs.all nonneg = true → ∃ ns : List Int, xs = ns.map .int ∧ ∀ n ∈ ns, 0 ≤ n
  | [], _ => ⟨[], rfl, by simp⟩
  | x :: xs, h => by
    rw [List.all_cons, Bool.and_eq_true] at h
    obtain ⟨ns, e, hn⟩ := nums_of h.2
    cases x with
    | int i =>
      have hi : 0 ≤ i := of_decide_eq_true h.1
      refine ⟨i :: ns, by rw [List.map_cons, e], fun n hm => ?_⟩
      rcases List.mem_cons.1 hm with rfl | hm
      · exact hi
      · exact hn n hm
    | _ => cases h.1
theorem nums_all {ns : List Int} (h : ∀ n ∈ ns, 0 ≤ n) : (ns.map Dt.int).all nonneg = true := by
  rw [List.all_map]
  exact List.all_eq_true.2 fun n hn => decide_eq_true (h n hn)
/-- may the use have so much of each lot -/
def inTicks (ls : List Lot) (t : Int) (ns : List Int) : Bool := (ns.zip ls).all fun q => decide (q.1 = 0) || (decide (q.2.f ≤ t) && decide (t ≤ q.2.e))
def rowFit (ls : List Lot) (u : Use) (r : Dt) : Bool := match r with
  | .tup xs => decide (xs.length = ls.length) && (xs.all nonneg && match intsD xs with
    | some ns => decide (ns.sum = u.u) && inTicks ls u.t ns
    | none => false)
  | _ => false
theorem rowFit_ints {ls : List Lot} {u : Use} {ns : List Int} (h : ∀ n ∈ ns, 0 ≤ n) (hl : ns.length = ls.length) : rowFit ls u (.tup (ns.map .int)) = (decide (ns.sum = u.u) && inTicks ls u.t ns) := by
  show (decide ((ns.map Dt.int).length = ls.length) && ((ns.map Dt.int).all nonneg && match intsD (ns.map Dt.int) with | some ns => decide (ns.sum = u.u) && inTicks ls u.t ns | none => false)) = _
  rw [intsD_map, nums_all h, List.length_map, decide_eq_true hl, Bool.true_and, Bool.true_and]
theorem all_bls (f : Dt → Bool) (l : List Dt) : gAll [.lst (l.map fun d => Dt.bl (f d))] = some (bl (l.all f)) := by
  have h : blsD (l.map fun d => Dt.bl (f d)) = some (l.map f) := by
    induction l with
    | nil => rfl
    | cons a l ih => rw [List.map_cons, List.map_cons]; unfold blsD; rw [ih]; rfl
  unfold gAll gBls
  simp only [lstD, h, Option.map_some]
  congr 3
  rw [List.all_map]
  rfl
theorem all_blsP {α : Type} (f : α → Bool) (l : List α) : gAll [.lst (l.map fun d => Dt.bl (f d))] = some (bl (l.all f)) := by
  have h : blsD (l.map fun d => Dt.bl (f d)) = some (l.map f) := by
    induction l with
    | nil => rfl
    | cons a l ih => rw [List.map_cons, List.map_cons]; unfold blsD; rw [ih]; rfl
  unfold gAll gBls
  simp only [lstD, h, Option.map_some]
  congr 3
  rw [List.all_map]
  rfl
def fU (t : Int) (q : Dt × Dt) : Dt := match q with
  | (.int n, .tup [_, _, .int f, .int e]) => .bl (decide (n = 0) || (decide (f ≤ t) && decide (t ≤ e)))
  | _ => .non
abbrev recR (ls : List Lot) (us : List Use) (cs : List Cnt) : Dt := recD (partsD ls us cs)
theorem p_lots {ls : List Lot} {us : List Use} {cs : List Cnt} : gPrp "Record" "told" (some 0) (recR ls us cs) = some (.val (.tup (ls.map lotD))) := prp_ix rfl
theorem p_uses {ls : List Lot} {us : List Use} {cs : List Cnt} : gPrp "Record" "told" (some 1) (recR ls us cs) = some (.val (.tup (us.map useD))) := prp_ix rfl
theorem p_cnts {ls : List Lot} {us : List Use} {cs : List Cnt} : gPrp "Record" "told" (some 2) (recR ls us cs) = some (.val (.tup (cs.map cntD))) := prp_ix rfl
theorem units_ok {ls : List Lot} {us : List Use} {cs : List Cnt} (hlen : ls.length ≤ 10) {u : Use} {r : Dt} (h : RowV r) : fare_units.run [recR ls us cs, useD u, r] = some (.ret (bl (rowFit ls u r)) [.non, .non, .non]) := by
  refine run_is (n := 3) ?_
  show OK mare_units [some (recR ls us cs, .fz), some (useD u, .fz), some (r, .fz), none, none] _
  unfold mare_units
  simp [p_lots]
  refine ok_plain 2 rfl (tuple_el (.inl h.ty)) rfl ?_
  cases r with
  | tup xs =>
    by_cases c : xs.length = ls.length
    · simp [isTupN, c]
      refine ok_lcMap (fun _ => true) (fun d => .bl (nonneg d)) rfl (by simp) (fun _ _ => rfl) ?_ (by unfold line; omega) ?_
      · intro d hd _
        refine ok_run ?_
        simp
        refine ok_plain 3 rfl (number_el (h.el _ rfl d hd).ty) rfl ?_
        exact ⟨rfl, rfl⟩
      rw [List.filter_eq_self.2 (fun _ _ => rfl)]
      simp [all_bls]
      cases n : xs.all nonneg with
      | false =>
        simp [PIs]
        show (decide (xs.length = ls.length) && (xs.all nonneg && _)) = false
        rw [n, Bool.false_and, Bool.and_false]
      | true =>
        obtain ⟨ns, rfl, hn⟩ := nums_of n
        rw [List.length_map] at c
        rw [rowFit_ints hn c]
        simp [intsD_map, useEq]
        refine okIf_by (fun c2 => ?_) (fun c2 => ?_)
        · simp at c2
          simp [PIs, c2]
        · simp at c2
          simp [p_lots]
          rw [zip_map]
          refine ok_lcMap2 (by decide) (fun _ => true) (fU u.t) rfl rfl (by simp) (by simp) (fun _ _ => rfl) ?_ (by rw [List.length_map, List.length_zip]; unfold line; omega) ?_
          · intro q hq _
            obtain ⟨⟨n, l⟩, _, rfl⟩ := List.mem_map.1 hq
            refine ok_run ?_
            by_cases z : n = 0
            · simp [set2, lotEq, z, fU]
            · by_cases z1 : l.f ≤ u.t
              · simp [set2, lotEq, z, z1, fU]
              · simp [set2, lotEq, z, z1, fU]
          · rw [List.filter_eq_self.2 (fun _ _ => rfl), List.map_map]
            have e : (ns.zip ls).map (fU u.t ∘ fun q : Int × Lot => (Dt.int q.1, lotD q.2)) = (ns.zip ls).map fun q => Dt.bl (decide (q.1 = 0) || (decide (q.2.f ≤ u.t) && decide (u.t ≤ q.2.e))) := rfl
            rw [e]
            simp [all_blsP, PIs, c2, inTicks]
    · simp [isTupN, c, PIs, rowFit]
  | _ => simp [isTupN, rowFit, PIs]
end K64

/-! K64O: the plain law: the columns, whole. -/
namespace K64
open PySem L2 DL DX

def bCnt : M Fl := (mIfS (mAnd (mTC gEq2 (mN 7) (mOp gIdx (mN 5) (mC (.int 0)))) (mTC gNe2 (mOp gSub (mOp gIdx (mN 5) (mC (.int 1))) (mFn fused_up_to [(mN 0), (mN 1), (mN 4), (mN 6)])) (mN 8))) (mRet (mC (.bl false))) (M.pure .nx))
def bCol : M Fl := (mSeq (mIfS (mTC gGt (mCall gSum [(mLC [3] (mItems (mN 1)) (gN 3) (M.pure true) (mOp gIdx (mN 3) (mN 4)))]) (mOp gIdx (mN 5) (mC (.int 1)))) (mRet (mC (.bl false))) (M.pure .nx)) (mFor (mItems (mUn (gPrp "Record" "told" (some 2)) (mN 0))) (gT 3 (gCons' (gN 6) (gCons' (gN 7) (gCons' (gN 8) gNil')))) bCnt))

def upTo (us : List Use) (nss : List (List Int)) (tick : Int) (i : Nat) : Int := (((nss.zip us).filter fun q => decide (q.2.t ≤ tick)).map fun q => nth q.1 i).sum
def pU (tick : Int) (q : Dt × Dt) : Bool := match q.2 with
  | .tup [_, .int t, _] => decide (t ≤ tick)
  | _ => false
def eAt (i : Nat) (q : Dt × Dt) : Dt := match q.1 with
  | .tup xs => (atD xs (i : Int)).getD .non
  | _ => .non
theorem upto_list {us : List Use} {nss : List (List Int)} {tick : Int} {i : Nat} (h : ∀ r ∈ nss, i < r.length) : ((((nss.zip us).map fun q => (amD q.1, useD q.2)).filter (pU tick)).map (eAt i)) = (((nss.zip us).filter fun q => decide (q.2.t ≤ tick)).map fun q => nth q.1 i).map .int := by
  rw [List.filter_map, List.map_map, List.map_map]
  apply List.map_congr_left
  intro q hq
  have hq' := (List.mem_filter.1 hq).1
  have hr := h q.1 (List.of_mem_zip hq').1
  show (atD (q.1.map .int) (i : Int)).getD .non = _
  rw [atD_int hr]
  rfl
theorem upto_ok {ls : List Lot} {us : List Use} {cs : List Cnt} (hus : us.length ≤ 24) {nss : List (List Int)} {tick : Int} {i : Nat} (h : ∀ r ∈ nss, i < r.length) : fused_up_to.run [recR ls us cs, .tup (nss.map amD), .int i, .int tick] = some (.ret (.val (.int (upTo us nss tick i))) [.non, .non, .non, .non]) := by
  refine run_is (n := 4) ?_
  show OK mused_up_to [some (recR ls us cs, .fz), some (.tup (nss.map amD), .fz), some (.int i, .fz), some (.int tick, .fz), none, none] _
  unfold mused_up_to
  simp [p_uses]
  rw [zip_map]
  refine ok_lcMap2 (by decide) (pU tick) (eAt i) rfl rfl (by simp) (by simp) ?_ ?_ (by rw [List.length_map, List.length_zip]; unfold line; omega) ?_
  · intro q hq
    obtain ⟨⟨r, u⟩, _, rfl⟩ := List.mem_map.1 hq
    refine ok_run ?_
    simp [set2, useEq, pU]
  · intro q hq _
    obtain ⟨⟨r, u⟩, hru, rfl⟩ := List.mem_map.1 hq
    have hr := h r (List.of_mem_zip hru).1
    refine ok_run ?_
    simp [set2, amD, eAt, atD_int hr]
  · rw [upto_list h]
    generalize hG : (((nss.zip us).filter fun q => decide (q.2.t ≤ tick)).map fun q => nth q.1 i) = G
    simp [intsD_map, PIs, upTo, hG]
def cntB (us : List Use) (nss : List (List Int)) (l : Lot) (i : Nat) (c : Cnt) : Bool := !decide (c.n = l.n) || decide (l.u - upTo us nss c.t i = c.c)
def colB (us : List Use) (cs : List Cnt) (nss : List (List Int)) (l : Lot) (i : Nat) : Bool := decide ((nss.map fun r => nth r i).sum ≤ l.u) && cs.all (cntB us nss l i)
def colsB (us : List Use) (cs : List Cnt) (nss : List (List Int)) : Nat → List Lot → Bool
  | _, [] => true
  | i, l :: ls => colB us cs nss l i && colsB us cs nss (i + 1) ls
theorem col_list {nss : List (List Int)} {i : Nat} (h : ∀ r ∈ nss, i < r.length) : ((nss.map amD).filter fun _ => true).map (fun d => eAt i (d, .non)) = (nss.map fun r => nth r i).map .int := by
  rw [List.filter_eq_self.2 (fun _ _ => rfl), List.map_map, List.map_map]
  apply List.map_congr_left
  intro r hr
  show (atD (r.map .int) (i : Int)).getD .non = _
  rw [atD_int (h r hr)]
  rfl
section
variable {ls : List Lot} {us : List Use} {cs : List Cnt} {nss : List (List Int)} {k : Fl → DL.Env → Prop}
abbrev eC (ls : List Lot) (us : List Use) (cs : List Cnt) (nss : List (List Int)) (s4 s5 s6 s7 s8 : Option (Dt × Md)) : DL.Env := [some (recR ls us cs, .fz), some (.tup (nss.map amD), .fz), none, none, s4, s5, s6, s7, s8]
def ICnt (ls : List Lot) (us : List Use) (cs : List Cnt) (nss : List (List Int)) (l : Lot) (i : Nat) (B : Bool) (ds : List Dt) (e : DL.Env) : Prop := ∃ (cs' : List Cnt) (s6 s7 s8 : Option (Dt × Md)), (isIo s6 = false ∧ isIo s7 = false ∧ isIo s8 = false) ∧ ds = cs'.map cntD ∧ B = cs'.all (cntB us nss l i) ∧ e = eC ls us cs nss (some (.int i, .fz)) (some (lotD l, .fz)) s6 s7 s8
def Rno (B : Bool) (a b : Option (Dt × Md)) (f : Fl) (e : DL.Env) : Prop := f = .rt (.bl false) false ∧ B = false ∧ ∃ r, e = a :: b :: r
theorem cnts_loop (hus : us.length ≤ 24) {l : Lot} {i : Nat} (h : ∀ r ∈ nss, i < r.length) {s6 s7 s8 : Option (Dt × Md)} (i6 : isIo s6 = false) (i7 : isIo s7 = false) (i8 : isIo s8 = false)
    (q : ∀ s6 s7 s8, isIo s6 = false → isIo s7 = false → isIo s8 = false → cs.all (cntB us nss l i) = true → k .nx (eC ls us cs nss (some (.int i, .fz)) (some (lotD l, .fz)) s6 s7 s8))
    (no : ∀ r, cs.all (cntB us nss l i) = false → k (.rt (.bl false) false) (some (recR ls us cs, .fz) :: some (.tup (nss.map amD), .fz) :: r)) :
    OK (forL (gT 3 (gCons' (gN 6) (gCons' (gN 7) (gCons' (gN 8) gNil')))) bCnt (cs.map cntD)) (eC ls us cs nss (some (.int i, .fz)) (some (lotD l, .fz)) s6 s7 s8) k := by
  refine ok_forR (ICnt ls us cs nss l i (cs.all (cntB us nss l i))) (Rno (cs.all (cntB us nss l i)) (some (recR ls us cs, .fz)) (some (.tup (nss.map amD), .fz))) ?_ _ _ ⟨cs, s6, s7, s8, ⟨i6, i7, i8⟩, rfl, rfl, rfl⟩ ?_ ?_
  · rintro d ds e ⟨cs', s6, s7, s8, ⟨i6, i7, i8⟩, hd, hB, rfl⟩
    obtain ⟨c, cs', rfl⟩ : ∃ c cs'', cs' = c :: cs'' := by
      cases cs' with
      | nil => cases hd
      | cons c cs' => exact ⟨c, cs', rfl⟩
    injection hd with hd1 hd2
    subst hd1
    rw [List.all_cons] at hB
    unfold bCnt
    simp [keyD c, i6, i7, i8, lotEq l]
    have nxt : ∀ (x : List Dt), cntB us nss l i c = true → ICnt ls us cs nss l i (cs.all (cntB us nss l i)) ds (eC ls us cs nss (some (.int i, .fz)) (some (lotD l, .fz)) (some (.int c.t, .fz)) (some (.str c.n, .fz)) (some (.int c.c, .fz))) := fun _ hc => by
      rw [hc, Bool.true_and] at hB
      exact ⟨cs', _, _, _, ⟨rfl, rfl, rfl⟩, hd2, hB, rfl⟩
    by_cases z : c.n = l.n
    · simp [z]
      refine ok_plain 4 rfl (upto_ok hus h) rfl ?_
      by_cases z2 : l.u - upTo us nss c.t i = c.c
      · simp [z2]
        have n2 := nxt [] (by unfold cntB; rw [decide_eq_true z2, Bool.or_true])
        simp [lotEq l, z] at n2
        exact n2
      · simp [z2]
        refine ⟨rfl, ?_, _, rfl⟩
        rw [hB]
        unfold cntB
        rw [decide_eq_true z, decide_eq_false z2]
        rfl
    · simp [z]
      have n2 := nxt [] (by unfold cntB; rw [decide_eq_false z]; rfl)
      simp [lotEq l] at n2
      exact n2
  · rintro e ⟨cs', s6, s7, s8, ⟨i6, i7, i8⟩, hd, hB, rfl⟩
    cases cs' with
    | nil => exact q s6 s7 s8 i6 i7 i8 hB
    | cons c cs' => cases hd
  · rintro f e ⟨rfl, hB, r, rfl⟩
    exact no r hB
def ICol (ls : List Lot) (us : List Use) (cs : List Cnt) (nss : List (List Int)) (B : Bool) (ds : List Dt) (e : DL.Env) : Prop := ∃ (i : Nat) (ls' : List Lot) (s4 s5 s6 s7 s8 : Option (Dt × Md)), (isIo s4 = false ∧ isIo s5 = false ∧ isIo s6 = false ∧ isIo s7 = false ∧ isIo s8 = false) ∧ i + ls'.length = ls.length ∧ ds = enumD i (ls'.map lotD) ∧ B = colsB us cs nss i ls' ∧ e = eC ls us cs nss s4 s5 s6 s7 s8
theorem cols_loop (hus : us.length ≤ 24) (hcs : cs.length ≤ 16) (hnl : nss.length ≤ 24) (h : ∀ r ∈ nss, r.length = ls.length)
    (q : ∀ s4 s5 s6 s7 s8, colsB us cs nss 0 ls = true → k .nx (eC ls us cs nss s4 s5 s6 s7 s8))
    (no : ∀ r, colsB us cs nss 0 ls = false → k (.rt (.bl false) false) (some (recR ls us cs, .fz) :: some (.tup (nss.map amD), .fz) :: r)) :
    OK (forL (gT 2 (gCons' (gN 4) (gCons' (gN 5) gNil'))) bCol (enumD 0 (ls.map lotD))) (eC ls us cs nss none none none none none) k := by
  refine ok_forR (ICol ls us cs nss (colsB us cs nss 0 ls)) (Rno (colsB us cs nss 0 ls) (some (recR ls us cs, .fz)) (some (.tup (nss.map amD), .fz))) ?_ _ _ ⟨0, ls, none, none, none, none, none, ⟨rfl, rfl, rfl, rfl, rfl⟩, Nat.zero_add _, rfl, rfl, rfl⟩ ?_ ?_
  · rintro d ds e ⟨i, ls', s4, s5, s6, s7, s8, ⟨i4, i5, i6, i7, i8⟩, hl, hd, hB, rfl⟩
    obtain ⟨l, ls', rfl⟩ : ∃ l ls'', ls' = l :: ls'' := by
      cases ls' with
      | nil => cases hd
      | cons l ls' => exact ⟨l, ls', rfl⟩
    rw [List.map_cons, enumD_cons] at hd
    injection hd with hd1 hd2
    subst hd1
    simp only [List.length_cons] at hl
    have hi : ∀ r ∈ nss, i < r.length := fun r hr => by rw [h r hr]; omega
    have hB' : colsB us cs nss 0 ls = (colB us cs nss l i && colsB us cs nss (i + 1) ls') := hB
    unfold bCol
    simp [i4, i5]
    refine ok_lcMap (fun _ => true) (fun d => eAt i (d, .non)) rfl (by simp) (fun _ _ => rfl) ?_ (by rw [List.length_map]; unfold line; omega) ?_
    · intro d hd _
      obtain ⟨r, hr, rfl⟩ := List.mem_map.1 hd
      refine ok_run ?_
      simp [amD, eAt, atD_int (hi r hr)]
    rw [col_list hi]
    generalize hG : nss.map (fun r => nth r i) = G
    simp [intsD_map]
    by_cases z : G.sum ≤ l.u
    · have z' : ¬ l.u < G.sum := by omega
      simp [lotEq l, z', p_cnts]
      have cl : colB us cs nss l i = cs.all (cntB us nss l i) := by
        unfold colB
        rw [hG, decide_eq_true z, Bool.true_and]
      rw [cl] at hB'
      refine cnts_loop hus hi i6 i7 i8 (fun s6 s7 s8 i6 i7 i8 c => ?_) (fun r c => ?_)
      · rw [c, Bool.true_and] at hB'
        exact .inl ⟨.inl rfl, i + 1, ls', some (.int i, .fz), some (lotD l, .fz), s6, s7, s8, ⟨rfl, rfl, i6, i7, i8⟩, by omega, hd2, hB', rfl⟩
      · rw [c, Bool.false_and] at hB'
        exact .inr ⟨⟨_, _, rfl⟩, rfl, hB', r, rfl⟩
    · have z' : l.u < G.sum := by omega
      simp [lotEq l, z']
      refine ⟨rfl, ?_, _, rfl⟩
      rw [hB']
      unfold colB
      rw [hG, decide_eq_false z]
      rfl
  · rintro e ⟨i, ls', s4, s5, s6, s7, s8, _, hl, hd, hB, rfl⟩
    cases ls' with
    | nil => exact q s4 s5 s6 s7 s8 hB
    | cons l ls' => cases hd
  · rintro f e ⟨rfl, hB, r, rfl⟩
    exact no r hB
end
/-- what a value is, told in plain words -/
def rowN (d : Dt) : List Int := match d with
  | .tup xs => (intsD xs).getD []
  | _ => []
def fillB (ls : List Lot) (us : List Use) (cs : List Cnt) (v : Dt) : Bool := match v with
  | .tup rows => decide (rows.length = us.length) && ((us.zip rows).all (fun q => rowFit ls q.1 q.2) && colsB us cs (rows.map rowN) 0 ls)
  | _ => false
theorem rows_of {ls : List Lot} : ∀ {us : List Use} {rows : List Dt}, rows.length = us.length → (us.zip rows).all (fun q => rowFit ls q.1 q.2) = true → ∃ nss : List (List Int), rows = nss.map amD ∧ (∀ r ∈ nss, r.length = ls.length) ∧ rows.map rowN = nss
  | [], [], _, _ => ⟨[], rfl, by simp, rfl⟩
  | [], _ :: _, h, _ => by simp at h
  | _ :: _, [], h, _ => by simp at h
  | u :: us, r :: rows, h, ha => by
    rw [List.zip_cons_cons, List.all_cons, Bool.and_eq_true] at ha
    obtain ⟨nss, e, hl, e2⟩ := rows_of (us := us) (rows := rows) (by simpa using h) ha.2
    cases r with
    | tup xs =>
      have h1 : (decide (xs.length = ls.length) && (xs.all nonneg && match intsD xs with | some ns => decide (ns.sum = u.u) && inTicks ls u.t ns | none => false)) = true := ha.1
      rw [Bool.and_eq_true, Bool.and_eq_true] at h1
      obtain ⟨ns, rfl, _⟩ := nums_of h1.2.1
      have hx : (ns.map Dt.int).length = ls.length := of_decide_eq_true h1.1
      have er : rowN (.tup (ns.map .int)) = ns := by
        show (intsD (ns.map .int)).getD [] = ns
        rw [intsD_map]
        rfl
      refine ⟨ns :: nss, by rw [List.map_cons, e]; rfl, fun r hr => ?_, by rw [List.map_cons, er, e2]⟩
      rcases List.mem_cons.1 hr with rfl | hr
      · rw [List.length_map] at hx; exact hx
      · exact hl r hr
    | _ => cases ha.1
theorem filled_ok {ls : List Lot} {us : List Use} {cs : List Cnt} (hL : Lots ls) (hU : Uses us) (hC : Cnts ls cs) {v : Dt} (hv : Val v) : fis_filled_by.run [recR ls us cs, v] = some (.ret (bl (fillB ls us cs v)) [.non, .non]) := by
  have h1 := hL.len
  have h2 := hU.len
  have h3 := hC.len
  have e : runB [.fz, .fz] 7 mis_filled_by [recR ls us cs, v] = some (.ret (bl (fillB ls us cs v)) [.non, .non]) := by
    refine run_is (n := 2) ?_
    show OK (mSeq (mIfS (mNot (mT (mFn fis_tuple_of [(mN 1), (mCall gLen [(mUn (gPrp "Record" "told" (some 1)) (mN 0))])]))) (mRet (mC (.bl false))) (M.pure .nx)) (mSeq (mIfS (mNot (mT (mCall gAll [(mLC [2, 3] (mZip (mUn (gPrp "Record" "told" (some 1)) (mN 0)) (mN 1)) (gT 2 (gCons' (gN 2) (gCons' (gN 3) gNil'))) (M.pure true) (mFn fare_units [(mN 0), (mN 2), (mN 3)]))]))) (mRet (mC (.bl false))) (M.pure .nx)) (mSeq (mFor (mEnumT (mUn (gPrp "Record" "told" (some 0)) (mN 0))) (gT 2 (gCons' (gN 4) (gCons' (gN 5) gNil'))) bCol) (mRet (mC (.bl true)))))) [some (recR ls us cs, .fz), some (v, .fz), none, none, none, none, none, none, none] _
    simp [p_uses]
    refine ok_plain 2 rfl (tuple_el hv.ty) rfl ?_
    cases v with
    | tup rows =>
      have rv := hv.row rows rfl
      by_cases c : rows.length = us.length
      · simp [isTupN, c, p_uses]
        have ez : zipD (us.map useD) rows = ((us.zip rows).map fun q => (useD q.1, q.2)).map pairD := by
          have := zip_map useD id us rows
          simpa using this
        rw [ez]
        refine ok_lcMap2 (by decide) (fun _ => true) (fun q => .bl (match q.1 with | .tup [.str n, .int t, .int u] => rowFit ls ⟨n, t, u⟩ q.2 | _ => false)) rfl rfl (by simp) (by simp) (fun _ _ => rfl) ?_ (by rw [List.length_map, List.length_zip]; unfold line; omega) ?_
        · intro q hq _
          obtain ⟨⟨u, r⟩, hur, rfl⟩ := List.mem_map.1 hq
          refine ok_run ?_
          simp [set2]
          refine ok_plain 3 rfl (units_ok h1 (rv r (List.of_mem_zip hur).2)) rfl ?_
          exact ⟨rfl, rfl⟩
        rw [List.filter_eq_self.2 (fun _ _ => rfl), List.map_map]
        have e1 : (us.zip rows).map ((fun q : Dt × Dt => Dt.bl (match q.1 with | .tup [.str n, .int t, .int u] => rowFit ls ⟨n, t, u⟩ q.2 | _ => false)) ∘ fun q : Use × Dt => (useD q.1, q.2)) = (us.zip rows).map fun q => Dt.bl (rowFit ls q.1 q.2) := rfl
        rw [e1]
        simp [all_blsP]
        cases ha : (us.zip rows).all (fun q => rowFit ls q.1 q.2) with
        | false =>
          simp [PIs]
          show (decide (rows.length = us.length) && (_ && _)) = false
          rw [ha, Bool.false_and, Bool.and_false]
        | true =>
          obtain ⟨nss, rfl, hl, en⟩ := rows_of c ha
          have ef : fillB ls us cs (.tup (nss.map amD)) = colsB us cs nss 0 ls := by
            show (decide ((nss.map amD).length = us.length) && (_ && _)) = _
            rw [ha, decide_eq_true c, en, Bool.true_and, Bool.true_and]
          rw [ef]
          rw [List.length_map] at c
          simp [p_lots]
          refine cols_loop h2 h3 (by omega) hl (fun s4 s5 s6 s7 s8 t => ?_) (fun r t => ?_)
          · simp [t, PIs]
          · simp [t, PIs]
      · simp [isTupN, c, PIs, fillB]
    | _ => simp [isTupN, PIs, fillB]
  exact e
theorem filling_ok {ls : List Lot} {us : List Use} {cs : List Cnt} (hL : Lots ls) (hU : Uses us) (hC : Cnts ls cs) {v : Dt} (hv : Val v) : fis_filling.run [recR ls us cs, v] = some (.ret (bl (fillB ls us cs v)) [.non, .non]) := by
  have e0 : runB [.fz] 0 mcheck_record [recR ls us cs] = some (.ret (.val .non) [.non]) := by
    refine run_is (n := 1) ?_
    show OK mcheck_record [some (recR ls us cs, .fz)] _
    unfold mcheck_record
    simp [isi_rec, PIs]
  have e : runB [.fz, .fz] 0 mis_filling [recR ls us cs, v] = some (.ret (bl (fillB ls us cs v)) [.non, .non]) := by
    refine run_is (n := 2) ?_
    show OK mis_filling [some (recR ls us cs, .fz), some (v, .fz)] _
    unfold mis_filling
    simp
    refine ok_plain 1 rfl e0 rfl ?_
    simp
    refine ok_plain 2 rfl (filled_ok hL hU hC hv) rfl ?_
    simp [PIs]
  exact e
end K64

/-! K64P: the plain law: what the law itself says of a value. -/
namespace K64
open PySem L2 DL DX

def cCnt : M Fl := (mIfS (mAnd (mTC gEq2 (mN 6) (mOp gIdx (mN 13) (mC (.int 0)))) (mTC gNe2 (mOp gSub (mOp gIdx (mN 13) (mC (.int 1))) (mCall gSum [(mLC [10] (mRng1 (mCall gLen [(mN 3)])) (gN 10) (mTC gLe (mOp gIdx (mOp gIdx (mN 3) (mN 10)) (mC (.int 1))) (mN 7)) (mOp gIdx (mOp gIdx (mN 1) (mN 10)) (mN 12)))])) (mN 14))) (mRet (mC (.bl false))) (M.pure .nx))
def cCol : M Fl := (mSeq (mIfS (mTC gGt (mCall gSum [(mForget 5 (mLC [5] (mItems (mN 1)) (gN 5) (M.pure true) (mOp gIdx (mN 5) (mN 12))))]) (mOp gIdx (mN 13) (mC (.int 1)))) (mRet (mC (.bl false))) (M.pure .nx)) (mFor (mItems (mN 4)) (gT 3 (gCons' (gN 7) (gCons' (gN 6) (gCons' (gN 14) gNil')))) cCnt))
def cRow : M Fl := (mSeq (mIfS (mOr (mNot (mT (mCall gIsQ [(mN 5), (mC (.ty "tuple"))]))) (mTC gNe2 (mCall gLen [(mN 5)]) (mCall gLen [(mN 2)]))) (mRet (mC (.bl false))) (M.pure .nx))   (mSeq (mIfS (mTC gNeV (mLC [9] (mItems (mN 5)) (gN 9) (mOr (mNot (mT (mCall gIsQ [(mN 9), (mC (.ty "int"))]))) (mOr (mT (mCall gIsQ [(mN 9), (mC (.ty "bool"))])) (mTC gLess2 (mN 9) (mC (.int 0))))) (mN 9)) (mLst [])) (mRet (mC (.bl false))) (M.pure .nx))   (mSeq (mSet 11 (mLC [10] (mRng1 (mCall gLen [(mN 2)])) (gN 10) (mAnd (mTC gGt (mOp gIdx (mN 5) (mN 10)) (mC (.int 0))) (mNot (mT (mChain gLe gLe (mOp gIdx (mOp gIdx (mN 2) (mN 10)) (mC (.int 2))) (mN 7) (mOp gIdx (mOp gIdx (mN 2) (mN 10)) (mC (.int 3))))))) (mN 10)))   (mIfS (mOr (mTC gNe2 (mCall gSum2 [(mN 5)]) (mN 8)) (mTC gNe2 (mN 11) (mLst []))) (mRet (mC (.bl false))) (M.pure .nx)))))

theorem isq_tup {d : Dt} (h : (tyD d).isSome = true ∨ ∃ kvs, d = .dic kvs) : gIsQ [d, .ty "tuple"] = some (bl (match d with | .tup _ => true | _ => false)) := by
  cases d with
  | tup xs => kernel_rfl
  | non => kernel_rfl
  | bl b => kernel_rfl
  | int i => kernel_rfl
  | str s => kernel_rfl
  | lst xs => kernel_rfl
  | dic kvs => kernel_rfl
  | _ => rcases h with h | ⟨_, h⟩ <;> cases h
def isI : Dt → Bool
  | .int _ => true
  | .bl _ => true
  | _ => false
def isB : Dt → Bool
  | .bl _ => true
  | _ => false
theorem isq_int {d : Dt} (h : (tyD d).isSome = true) : gIsQ [d, .ty "int"] = some (bl (isI d)) := by
  cases d with
  | tup xs => kernel_rfl
  | non => kernel_rfl
  | bl b => kernel_rfl
  | int i => kernel_rfl
  | str s => kernel_rfl
  | lst xs => kernel_rfl
  | _ => cases h
theorem isq_bool {d : Dt} (h : (tyD d).isSome = true) : gIsQ [d, .ty "bool"] = some (bl (isB d)) := by
  cases d with
  | tup xs => kernel_rfl
  | non => kernel_rfl
  | bl b => kernel_rfl
  | int i => kernel_rfl
  | str s => kernel_rfl
  | lst xs => kernel_rfl
  | _ => cases h
/-- a list of plain things beside the empty one -/
theorem els_py : ∀ {xs : List Dt}, (∀ e ∈ xs, El e) → ∃ ps, pyA xs = some ps ∧ PyData.canLayAll0 ps = true ∧ PyData.depthAll ps ≤ 10 ∧ ps.isEmpty = xs.isEmpty
  | [], _ => ⟨[], rfl, rfl, Nat.zero_le _, rfl⟩
  | x :: xs, h => by
    obtain ⟨p, e1, c1, d1⟩ := (h x List.mem_cons_self).py
    obtain ⟨ps, e2, c2, d2, _⟩ := els_py fun y hy => h y (List.mem_cons_of_mem x hy)
    refine ⟨p :: ps, ?_, ?_, ?_, rfl⟩
    · show (match pyD x, pyA xs with | some p, some ps => some (p :: ps) | _, _ => none) = _
      rw [e1, e2]
    · show (p.canLay0 && PyData.canLayAll0 ps) = true
      rw [c1, c2]; rfl
    · show max p.depth (PyData.depthAll ps) ≤ 10
      exact Nat.max_le.2 ⟨d1, d2⟩
theorem eqv_nil {xs : List Dt} (h : ∀ e ∈ xs, El e) : eqVV (.lst xs) (.lst []) = some xs.isEmpty := by
  obtain ⟨ps, e, c, d, em⟩ := els_py h
  have e1 : pyD (.lst xs) = some (.list ps) := by
    show (pyA xs).map _ = _
    rw [e]; rfl
  have s1 : SeqAt.shaped (.list ps) = true := by
    show (PyData.canLayAll0 ps && decide (PyData.depthAll ps + 1 ≤ 64)) = true
    rw [c, decide_eq_true (by omega)]; rfl
  have s2 : SeqAt.shaped (.list []) = true := by decide
  have v : PyData.eqv (.list ps) (.list []) = ps.isEmpty := by
    cases ps <;> rfl
  unfold eqVV
  rw [e1, show pyD (.lst []) = some (.list []) from rfl]
  simp only
  rw [if_pos ⟨s1, s2⟩, v, em]
theorem filter_none {α : Type} (p : α → Bool) (l : List α) : (l.filter fun x => !p x).isEmpty = l.all p := by
  induction l with
  | nil => rfl
  | cons a l ih =>
    cases c : p a with
    | true => rw [List.filter_cons_of_neg (by rw [c]; simp), List.all_cons, c, ih]; rfl
    | false => rw [List.filter_cons_of_pos (by rw [c]; rfl), List.all_cons, c]; rfl
def badK (ls : List Lot) (t : Int) (ns : List Int) (k : Nat) : Bool := decide (0 < nth ns k) && !(decide ((ls[k]?.map (·.f)).getD 0 ≤ t) && decide (t ≤ (ls[k]?.map (·.e)).getD 0))
theorem ticks_idx {t : Int} : ∀ {ns : List Int} {ls : List Lot}, ns.length = ls.length → (∀ n ∈ ns, 0 ≤ n) → (List.range ls.length).all (fun k => !badK ls t ns k) = inTicks ls t ns
  | [], [], _, _ => rfl
  | [], _ :: _, h, _ => by simp at h
  | _ :: _, [], h, _ => by simp at h
  | n :: ns, l :: ls, h, hn => by
    have ih := ticks_idx (t := t) (ns := ns) (ls := ls) (by simpa using h) fun m hm => hn m (List.mem_cons_of_mem _ hm)
    have h0 := hn n List.mem_cons_self
    rw [List.length_cons, List.range_succ_eq_map, List.all_cons, List.all_map]
    have e : (List.range ls.length).all ((fun k => !badK (l :: ls) t (n :: ns) k) ∘ Nat.succ) = (List.range ls.length).all fun k => !badK ls t ns k := rfl
    rw [e, ih]
    unfold inTicks
    rw [List.zip_cons_cons, List.all_cons]
    congr 1
    show (!(decide (0 < n) && !(decide (l.f ≤ t) && decide (t ≤ l.e)))) = (decide (n = 0) || (decide (l.f ≤ t) && decide (t ≤ l.e)))
    by_cases z : n = 0
    · subst z; simp
    · have z1 : 0 < n := by omega
      simp [z, z1]
theorem small_ints {l : List Nat} (h : ∀ k ∈ l, k ≤ 999) : Fit (.lst (l.map fun k : Nat => Dt.int (k : Int))) 1 (l.length * 5 + 3) := by
  refine (FitA.of (k := 0) (n := 3) ?_).lst.mono (Nat.le_refl _) ?_
  · intro d hd
    obtain ⟨k, hk, rfl⟩ := List.mem_map.1 hd
    have := h k hk
    exact Fit.int (by omega) (by omega)
  · rw [List.length_map]
    exact Nat.le_refl _
theorem gone_eq {us : List Use} {nss : List (List Int)} {tick : Int} {i : Nat} (h : nss.length = us.length) : (goneL us nss tick i us.length).sum = upTo us nss tick i := by
  have hz : (List.range us.length).map (fun k => (rowAt nss k, us[k]?.getD ⟨"", 0, 0⟩)) = nss.zip us := by
    apply List.ext_getElem
    · simp [h]
    · intro k h1 h2
      have hk : k < us.length := by simpa using h1
      have hk2 : k < nss.length := by omega
      simp [rowAt, List.getElem?_eq_getElem hk, List.getElem?_eq_getElem hk2]
  unfold goneL upTo
  rw [← hz, List.filter_map, List.map_map]
  have e : (List.range us.length).filter (fun k => decide (useAt us k ≤ tick)) = (List.range us.length).filter ((fun q : List Int × Use => decide (q.2.t ≤ tick)) ∘ fun k => (rowAt nss k, us[k]?.getD ⟨"", 0, 0⟩)) := by
    apply List.filter_congr
    intro k hk
    have hk' : k < us.length := List.mem_range.1 hk
    simp [useAt, List.getElem?_eq_getElem hk']
  rw [e]
  rfl
section
variable {ls : List Lot} {us : List Use} {cs : List Cnt} {nss : List (List Int)} {k : Fl → DL.Env → Prop}
abbrev eL (ls : List Lot) (us : List Use) (cs : List Cnt) (v : Dt) (s5 s6 s7 s8 s11 s12 s13 s14 : Option (Dt × Md)) : DL.Env := [some (partsD ls us cs, .fz), some (v, .fz), some (.tup (ls.map lotD), .fz), some (.tup (us.map useD), .fz), some (.tup (cs.map cntD), .fz), s5, s6, s7, s8, none, none, s11, s12, s13, s14]
def JCnt (ls : List Lot) (us : List Use) (cs : List Cnt) (nss : List (List Int)) (s5 s8 s11 : Option (Dt × Md)) (l : Lot) (i : Nat) (B : Bool) (ds : List Dt) (e : DL.Env) : Prop := ∃ (cs' : List Cnt) (s6 s7 s14 : Option (Dt × Md)), (isIo s6 = false ∧ isIo s7 = false ∧ isIo s14 = false) ∧ ds = cs'.map cntD ∧ B = cs'.all (cntB us nss l i) ∧ e = eL ls us cs (.tup (nss.map amD)) s5 s6 s7 s8 s11 (some (.int i, .fz)) (some (lotD l, .fz)) s14
theorem jcnts_loop (hus : us.length ≤ 24) (hn : nss.length = us.length) {l : Lot} {i : Nat} (h : ∀ r ∈ nss, i < r.length) {s5 s6 s7 s8 s11 s14 : Option (Dt × Md)} (i6 : isIo s6 = false) (i7 : isIo s7 = false) (i14 : isIo s14 = false)
    (q : ∀ s6 s7 s14, isIo s6 = false → isIo s7 = false → isIo s14 = false → cs.all (cntB us nss l i) = true → k .nx (eL ls us cs (.tup (nss.map amD)) s5 s6 s7 s8 s11 (some (.int i, .fz)) (some (lotD l, .fz)) s14))
    (no : ∀ r, cs.all (cntB us nss l i) = false → k (.rt (.bl false) false) (some (partsD ls us cs, .fz) :: some (.tup (nss.map amD), .fz) :: r)) :
    OK (forL (gT 3 (gCons' (gN 7) (gCons' (gN 6) (gCons' (gN 14) gNil')))) cCnt (cs.map cntD)) (eL ls us cs (.tup (nss.map amD)) s5 s6 s7 s8 s11 (some (.int i, .fz)) (some (lotD l, .fz)) s14) k := by
  refine ok_forR (JCnt ls us cs nss s5 s8 s11 l i (cs.all (cntB us nss l i))) (Rno (cs.all (cntB us nss l i)) (some (partsD ls us cs, .fz)) (some (.tup (nss.map amD), .fz))) ?_ _ _ ⟨cs, s6, s7, s14, ⟨i6, i7, i14⟩, rfl, rfl, rfl⟩ ?_ ?_
  · rintro d ds e ⟨cs', s6, s7, s14, ⟨i6, i7, i14⟩, hd, hB, rfl⟩
    obtain ⟨c, cs', rfl⟩ : ∃ c cs'', cs' = c :: cs'' := by
      cases cs' with
      | nil => cases hd
      | cons c cs' => exact ⟨c, cs', rfl⟩
    injection hd with hd1 hd2
    subst hd1
    rw [List.all_cons] at hB
    unfold cCnt
    simp [keyD c, i6, i7, i14, lotEq l]
    have nxt : cntB us nss l i c = true → JCnt ls us cs nss s5 s8 s11 l i (cs.all (cntB us nss l i)) ds (eL ls us cs (.tup (nss.map amD)) s5 (some (.str c.n, .fz)) (some (.int c.t, .fz)) s8 s11 (some (.int i, .fz)) (some (lotD l, .fz)) (some (.int c.c, .fz))) := fun hc => by
      rw [hc, Bool.true_and] at hB
      exact ⟨cs', _, _, _, ⟨rfl, rfl, rfl⟩, hd2, hB, rfl⟩
    by_cases z : c.n = l.n
    · simp [z, bndR]
      refine ⟨by omega, ?_⟩
      refine ok_lcMap (pF us c.t) (gF nss i) rfl (by simp) ?_ ?_ (by rw [rangeD_len]; unfold line; omega) ?_
      · intro d hd
        rw [rangeD_0] at hd
        obtain ⟨j, hj, rfl⟩ := List.mem_map.1 hd
        have hj' : j < us.length := List.mem_range.1 hj
        have e1 := atD_map (f := useD) hj'
        have e2 : useAt us j = us[j].t := by unfold useAt; rw [List.getElem?_eq_getElem hj']; rfl
        refine ok_run ?_
        simp [e1, useD, pF, e2]
      · intro d hd _
        rw [rangeD_0] at hd
        obtain ⟨j, hj, rfl⟩ := List.mem_map.1 hd
        have hj' : j < us.length := List.mem_range.1 hj
        have hj2 : j < nss.length := by omega
        have e1 := atD_map (f := amD) hj2
        have e2 : rowAt nss j = nss[j] := by unfold rowAt; rw [List.getElem?_eq_getElem hj2]; rfl
        have e3 := atD_int (l := nss[j]) (i := i) (h _ (List.getElem_mem hj2))
        refine ok_run ?_
        simp [e1, amD, gF, e2, e3]
      · rw [gone_list]
        simp [intsD_map, gone_eq hn]
        by_cases z2 : l.u - upTo us nss c.t i = c.c
        · simp [z2]
          have n2 := nxt (by unfold cntB; rw [decide_eq_true z2, Bool.or_true])
          simp [lotEq l, z] at n2
          exact n2
        · simp [z2]
          refine ⟨rfl, ?_, _, rfl⟩
          rw [hB]
          unfold cntB
          rw [decide_eq_true z, decide_eq_false z2]
          rfl
    · simp [z]
      have n2 := nxt (by unfold cntB; rw [decide_eq_false z]; rfl)
      simp [lotEq l] at n2
      exact n2
  · rintro e ⟨cs', s6, s7, s14, ⟨i6, i7, i14⟩, hd, hB, rfl⟩
    cases cs' with
    | nil => exact q s6 s7 s14 i6 i7 i14 hB
    | cons c cs' => cases hd
  · rintro f e ⟨rfl, hB, r, rfl⟩
    exact no r hB
def Fz (s : Option (Dt × Md)) : Prop := s = none ∨ ∃ d, s = some (d, .fz)
theorem Fz.io {s : Option (Dt × Md)} (h : Fz s) : isIo s = false := by
  rcases h with rfl | ⟨d, rfl⟩ <;> rfl
def JCol (ls : List Lot) (us : List Use) (cs : List Cnt) (nss : List (List Int)) (B : Bool) (ds : List Dt) (e : DL.Env) : Prop := ∃ (i : Nat) (ls' : List Lot) (s5 s6 s7 s8 s11 s12 s13 s14 : Option (Dt × Md)), (Fz s5 ∧ isIo s6 = false ∧ isIo s7 = false ∧ isIo s12 = false ∧ isIo s13 = false ∧ isIo s14 = false) ∧ i + ls'.length = ls.length ∧ ds = enumD i (ls'.map lotD) ∧ B = colsB us cs nss i ls' ∧ e = eL ls us cs (.tup (nss.map amD)) s5 s6 s7 s8 s11 s12 s13 s14
theorem jcols_loop (hus : us.length ≤ 24) (hn : nss.length = us.length) (h : ∀ r ∈ nss, r.length = ls.length) {s5 s6 s7 s8 s11 : Option (Dt × Md)} (i5 : Fz s5) (i6 : isIo s6 = false) (i7 : isIo s7 = false)
    (q : ∀ s5 s6 s7 s8 s11 s12 s13 s14, colsB us cs nss 0 ls = true → k .nx (eL ls us cs (.tup (nss.map amD)) s5 s6 s7 s8 s11 s12 s13 s14))
    (no : ∀ r, colsB us cs nss 0 ls = false → k (.rt (.bl false) false) (some (partsD ls us cs, .fz) :: some (.tup (nss.map amD), .fz) :: r)) :
    OK (forL (gT 2 (gCons' (gN 12) (gCons' (gN 13) gNil'))) cCol (enumD 0 (ls.map lotD))) (eL ls us cs (.tup (nss.map amD)) s5 s6 s7 s8 s11 none none none) k := by
  refine ok_forR (JCol ls us cs nss (colsB us cs nss 0 ls)) (Rno (colsB us cs nss 0 ls) (some (partsD ls us cs, .fz)) (some (.tup (nss.map amD), .fz))) ?_ _ _ ⟨0, ls, s5, s6, s7, s8, s11, none, none, none, ⟨i5, i6, i7, rfl, rfl, rfl⟩, Nat.zero_add _, rfl, rfl, rfl⟩ ?_ ?_
  · rintro d ds e ⟨i, ls', s5, s6, s7, s8, s11, s12, s13, s14, ⟨i5, i6, i7, i12, i13, i14⟩, hl, hd, hB, rfl⟩
    obtain ⟨l, ls', rfl⟩ : ∃ l ls'', ls' = l :: ls'' := by
      cases ls' with
      | nil => cases hd
      | cons l ls' => exact ⟨l, ls', rfl⟩
    rw [List.map_cons, enumD_cons] at hd
    injection hd with hd1 hd2
    subst hd1
    simp only [List.length_cons] at hl
    have hi : ∀ r ∈ nss, i < r.length := fun r hr => by rw [h r hr]; omega
    have hB' : colsB us cs nss 0 ls = (colB us cs nss l i && colsB us cs nss (i + 1) ls') := hB
    have hf : ∀ (a0 a1 a2 a3 a4 a6 a7 a8 a9 a10 a11 a12 a13 a14 : Option (Dt × Md)), forgetE [a0, a1, a2, a3, a4, s5, a6, a7, a8, a9, a10, a11, a12, a13, a14] 5 = [a0, a1, a2, a3, a4, none, a6, a7, a8, a9, a10, a11, a12, a13, a14] := by
      intros
      rcases i5 with rfl | ⟨d, rfl⟩ <;> rfl
    unfold cCol
    simp [i12, i13, hf]
    refine ok_lcMap (fun _ => true) (fun d => eAt i (d, .non)) rfl (by simp) (fun _ _ => rfl) ?_ (by rw [List.length_map]; unfold line; omega) ?_
    · intro d hd _
      obtain ⟨r, hr, rfl⟩ := List.mem_map.1 hd
      refine ok_run ?_
      simp [amD, eAt, atD_int (hi r hr)]
    rw [col_list hi]
    generalize hG : nss.map (fun r => nth r i) = G
    simp [intsD_map]
    by_cases z : G.sum ≤ l.u
    · have z' : ¬ l.u < G.sum := by omega
      simp [lotEq l, z']
      have cl : colB us cs nss l i = cs.all (cntB us nss l i) := by
        unfold colB
        rw [hG, decide_eq_true z, Bool.true_and]
      rw [cl] at hB'
      refine jcnts_loop hus hn hi i6 i7 i14 (fun s6 s7 s14 i6 i7 i14 c => ?_) (fun r c => ?_)
      · rw [c, Bool.true_and] at hB'
        exact .inl ⟨.inl rfl, i + 1, ls', none, s6, s7, s8, s11, some (.int i, .fz), some (lotD l, .fz), s14, ⟨.inl rfl, i6, i7, rfl, rfl, i14⟩, by omega, hd2, hB', rfl⟩
      · rw [c, Bool.false_and] at hB'
        exact .inr ⟨⟨_, _, rfl⟩, rfl, hB', r, rfl⟩
    · have z' : l.u < G.sum := by omega
      simp [lotEq l, z']
      refine ⟨rfl, ?_, _, rfl⟩
      rw [hB']
      unfold colB
      rw [hG, decide_eq_false z]
      rfl
  · rintro e ⟨i, ls', s5, s6, s7, s8, s11, s12, s13, s14, _, hl, hd, hB, rfl⟩
    cases ls' with
    | nil => exact q s5 s6 s7 s8 s11 s12 s13 s14 hB
    | cons l ls' => cases hd
  · rintro f e ⟨rfl, hB, r, rfl⟩
    exact no r hB
end
end K64

/-! K64C: the plain law: what the law itself says of a value, whole. -/
namespace K64
open PySem L2 DL DX

theorem eqT_lnil {l : List Dt} : eqT (.lst l) (.lst []) = l.isEmpty := by
  cases l <;> rfl
def badD (ls : List Lot) (t : Int) (ns : List Int) (d : Dt) : Bool := match d with
  | .int i => badK ls t ns i.toNat
  | _ => false
theorem odd_list {ls : List Lot} {t : Int} {ns : List Int} : ((rangeD 0 ls.length).filter (badD ls t ns)).map (fun d => d) = ((List.range ls.length).filter (badK ls t ns)).map fun k : Nat => Dt.int (k : Int) := by
  rw [List.map_id', rangeD_0, List.filter_map]
  congr 1
theorem odd_none {ls : List Lot} {t : Int} {ns : List Int} (hl : ns.length = ls.length) (hn : ∀ n ∈ ns, 0 ≤ n) : (((List.range ls.length).filter (badK ls t ns)).map fun k : Nat => Dt.int (k : Int)).isEmpty = inTicks ls t ns := by
  rw [← ticks_idx hl hn, ← filter_none]
  simp
section
variable {ls : List Lot} {us : List Use} {cs : List Cnt} {v : Dt} {k : Fl → DL.Env → Prop}
def JRow (ls : List Lot) (us : List Use) (cs : List Cnt) (v : Dt) (B : Bool) (ds : List Dt) (e : DL.Env) : Prop := ∃ (rs : List Dt) (us' : List Use) (s5 s6 s7 s8 s11 : Option (Dt × Md)), (Fz s5 ∧ isIo s6 = false ∧ isIo s7 = false ∧ isIo s8 = false ∧ isIo s11 = false) ∧ rs.length = us'.length ∧ (∀ r ∈ rs, RowV r) ∧ ds = zipD rs (us'.map useD) ∧ B = (us'.zip rs).all (fun q => rowFit ls q.1 q.2) ∧ e = eL ls us cs v s5 s6 s7 s8 s11 none none none
theorem row_turn (hlen : ls.length ≤ 10) {r : Dt} (hr : RowV r) {u : Use} {s11 : Option (Dt × Md)} (i11 : isIo s11 = false)
    (q : ∀ s11, isIo s11 = false → rowFit ls u r = true → k .nx (eL ls us cs v (some (r, .fz)) (some (.str u.n, .fz)) (some (.int u.t, .fz)) (some (.int u.u, .fz)) s11 none none none))
    (no : ∀ l, rowFit ls u r = false → k (.rt (.bl false) false) (some (partsD ls us cs, .fz) :: some (v, .fz) :: l)) :
    OK cRow (eL ls us cs v (some (r, .fz)) (some (.str u.n, .fz)) (some (.int u.t, .fz)) (some (.int u.u, .fz)) s11 none none none) k := by
  have other : ∀ r : Dt, gIsQ [r, .ty "tuple"] = some (bl false) → rowFit ls u r = false → (∀ l, rowFit ls u r = false → k (.rt (.bl false) false) (some (partsD ls us cs, .fz) :: some (v, .fz) :: l)) → OK cRow (eL ls us cs v (some (r, .fz)) (some (.str u.n, .fz)) (some (.int u.t, .fz)) (some (.int u.u, .fz)) s11 none none none) k := fun r h f no => by
    unfold cRow
    simp [h]
    exact no _ f
  have it := isq_tup (.inl hr.ty)
  cases r with
  | tup xs =>
    have it' : gIsQ [.tup xs, .ty "tuple"] = some (bl true) := it
    unfold cRow
    by_cases c : xs.length = ls.length
    · have cl : (xs.length : Int) = (ls.length : Int) := by omega
      simp [it', cl]
      refine ok_lcMap (fun d => !nonneg d) (fun d => d) rfl (by simp) ?_ ?_ (by unfold line; omega) ?_
      · intro d hd
        have he := (hr.el xs rfl d hd).ty
        have q1 := isq_int he
        have q2 := isq_bool he
        refine ok_run ?_
        cases d with
        | int i =>
          simp [q1, q2, isI, isB, nonneg]
          by_cases z : i < 0
          · have : ¬ 0 ≤ i := by omega
            simp [z, this]
          · have : 0 ≤ i := by omega
            simp [z, this]
        | bl b => simp [q1, q2, isI, isB, nonneg]
        | _ => simp [q1, q2, isI, isB, nonneg]
      · intro d hd _
        refine ok_run ?_
        simp
      rw [List.map_id']
      have ev : eqVV (.lst (xs.filter fun d => !nonneg d)) (.lst []) = some (xs.all nonneg) := by
        rw [eqv_nil (fun e he => hr.el xs rfl e (List.mem_filter.1 he).1), filter_none]
      have gv : gNeV (.lst (xs.filter fun d => !nonneg d)) (.lst []) = some (bl (!xs.all nonneg)) := by
        unfold gNeV
        rw [ev]
        rfl
      simp [gv]
      cases n : xs.all nonneg with
      | false =>
        simp
        refine no _ ?_
        show (decide (xs.length = ls.length) && (xs.all nonneg && _)) = false
        rw [n, Bool.false_and, Bool.and_false]
      | true =>
        obtain ⟨ns, rfl, hn⟩ := nums_of n
        rw [List.length_map] at c
        rw [rowFit_ints hn c] at q no
        simp [i11, bndR]
        refine ⟨by omega, ?_⟩
        refine ok_lcMap (badD ls u.t ns) (fun d => d) rfl (by simp) ?_ ?_ (by rw [rangeD_len]; unfold line; omega) ?_
        · intro d hd
          rw [rangeD_0] at hd
          obtain ⟨j, hj, rfl⟩ := List.mem_map.1 hd
          have hj' : j < ls.length := List.mem_range.1 hj
          have e1 := atD_map (f := lotD) hj'
          have e2 := atD_int (l := ns) (i := j) (by omega)
          have e3 : ls[j]? = some ls[j] := List.getElem?_eq_getElem hj'
          refine ok_run ?_
          by_cases z : 0 < nth ns j
          · simp [e1, e2, lotEq, badD, badK, z, e3]
            by_cases z1 : ls[j].f ≤ u.t
            · simp [z1, z, e1, e3, lotEq]
            · simp [z1, z, e1, e3, lotEq]
          · simp [e1, e2, lotEq, badD, badK, z, e3]
        · intro d hd _
          refine ok_run ?_
          simp
        rw [odd_list]
        have sm := small_ints (l := (List.range ls.length).filter (badK ls u.t ns)) (fun k hk => by
          have := List.mem_range.1 (List.mem_filter.1 hk).1
          omega)
        have eo := eqTT_fit sm fit_nilL (by omega) (by omega)
        rw [eqT_lnil, odd_none c hn] at eo
        by_cases z : ns.sum = u.u
        · cases t : inTicks ls u.t ns with
          | true =>
            rw [t] at eo
            simp [intsD_map, z, eo, i11]
            simp [z, t] at q
            refine q _ ?_
            rfl
          | false =>
            rw [t] at eo
            simp [intsD_map, z, eo, i11]
            exact no _ (by rw [t, Bool.and_false])
        · simp [intsD_map, z, i11]
          exact no _ (by rw [decide_eq_false z, Bool.false_and])
    · have cl : ¬ (xs.length : Int) = (ls.length : Int) := by omega
      simp [it', cl]
      refine no _ ?_
      show (decide (xs.length = ls.length) && (xs.all nonneg && _)) = false
      rw [decide_eq_false c, Bool.false_and]
  | _ => exact other _ it rfl no
theorem jrows_loop (hlen : ls.length ≤ 10) {rows : List Dt} (hrow : ∀ r ∈ rows, RowV r) (hn : rows.length = us.length)
    (q : ∀ s5 s6 s7 s8 s11, Fz s5 → isIo s6 = false → isIo s7 = false → (us.zip rows).all (fun q => rowFit ls q.1 q.2) = true → k .nx (eL ls us cs v s5 s6 s7 s8 s11 none none none))
    (no : ∀ l, (us.zip rows).all (fun q => rowFit ls q.1 q.2) = false → k (.rt (.bl false) false) (some (partsD ls us cs, .fz) :: some (v, .fz) :: l)) :
    OK (forL (gT 2 (gCons' (gN 5) (gCons' (gT 3 (gCons' (gN 6) (gCons' (gN 7) (gCons' (gN 8) gNil')))) gNil'))) cRow (zipD rows (us.map useD))) (eL ls us cs v none none none none none none none none) k := by
  refine ok_forR (JRow ls us cs v ((us.zip rows).all (fun q => rowFit ls q.1 q.2))) (Rno ((us.zip rows).all (fun q => rowFit ls q.1 q.2)) (some (partsD ls us cs, .fz)) (some (v, .fz))) ?_ _ _ ⟨rows, us, none, none, none, none, none, ⟨.inl rfl, rfl, rfl, rfl, rfl⟩, hn, hrow, rfl, rfl, rfl⟩ ?_ ?_
  · rintro d ds e ⟨rs, us', s5, s6, s7, s8, s11, ⟨i5, i6, i7, i8, i11⟩, hl, hr, hd, hB, rfl⟩
    obtain ⟨r, rs, rfl⟩ : ∃ r rs', rs = r :: rs' := by
      cases rs with
      | nil => cases hd
      | cons r rs => exact ⟨r, rs, rfl⟩
    obtain ⟨u, us', rfl⟩ : ∃ u us'', us' = u :: us'' := by
      cases us' with
      | nil => cases hd
      | cons u us' => exact ⟨u, us', rfl⟩
    rw [List.map_cons] at hd
    injection hd with hd1 hd2
    subst hd1
    simp only [List.length_cons] at hl
    rw [List.zip_cons_cons, List.all_cons] at hB
    have i5' := i5.io
    simp [i5', i6, i7, i8, useEq u]
    refine row_turn hlen (hr r List.mem_cons_self) i11 (fun s11 i11 t => ?_) (fun l t => ?_)
    · have t' : rowFit ls u r = true := t
      rw [t', Bool.true_and] at hB
      exact .inl ⟨.inl rfl, rs, us', some (r, .fz), some (.str u.n, .fz), some (.int u.t, .fz), some (.int u.u, .fz), s11, ⟨.inr ⟨r, rfl⟩, rfl, rfl, rfl, i11⟩, by omega, fun x hx => hr x (List.mem_cons_of_mem _ hx), hd2, hB, rfl⟩
    · have t' : rowFit ls u r = false := t
      rw [t', Bool.false_and] at hB
      exact .inr ⟨⟨_, _, rfl⟩, rfl, hB, l, rfl⟩
  · rintro e ⟨rs, us', s5, s6, s7, s8, s11, ⟨i5, i6, i7, i8, i11⟩, hl, hr, hd, hB, rfl⟩
    have z : us'.zip rs = [] := by
      cases rs with
      | nil => rw [List.zip_nil_right]
      | cons r rs =>
        cases us' with
        | nil => rfl
        | cons u us' => cases hd
    rw [z] at hB
    exact q s5 s6 s7 s8 s11 i5 i6 i7 hB
  · rintro f e ⟨rfl, hB, r, rfl⟩
    exact no r hB
end
theorem lfilling_ok {ls : List Lot} {us : List Use} {cs : List Cnt} (hL : Lots ls) (hU : Uses us) {v : Dt} (hv : Val v) : f_law_is_filling.run [partsD ls us cs, v] = some (.ret (bl (fillB ls us cs v)) [.non, .non]) := by
  have h1 := hL.len
  have h2 := hU.len
  have e : runB [.fz, .fz] 13 m_law_is_filling [partsD ls us cs, v] = some (.ret (bl (fillB ls us cs v)) [.non, .non]) := by
    refine run_is (n := 2) ?_
    show OK (mSeq (mAsg (mN 0) (gT 3 (gCons' (gN 2) (gCons' (gN 3) (gCons' (gN 4) gNil'))))) (mSeq (mIfS (mOr (mNot (mT (mCall gIsQ [(mN 1), (mC (.ty "tuple"))]))) (mTC gNe2 (mCall gLen [(mN 1)]) (mCall gLen [(mN 3)]))) (mRet (mC (.bl false))) (M.pure .nx)) (mSeq (mFor (mZip (mN 1) (mN 3)) (gT 2 (gCons' (gN 5) (gCons' (gT 3 (gCons' (gN 6) (gCons' (gN 7) (gCons' (gN 8) gNil')))) gNil'))) cRow) (mSeq (mFor (mEnumT (mN 2)) (gT 2 (gCons' (gN 12) (gCons' (gN 13) gNil'))) cCol) (mRet (mC (.bl true))))))) [some (partsD ls us cs, .fz), some (v, .fz), none, none, none, none, none, none, none, none, none, none, none, none, none] _
    have it := isq_tup hv.ty
    cases v with
    | tup rows =>
      have it' : gIsQ [.tup rows, .ty "tuple"] = some (bl true) := it
      by_cases c : rows.length = us.length
      · have cl : (rows.length : Int) = (us.length : Int) := by omega
        simp [it', cl, partsD]
        refine jrows_loop h1 (hv.row rows rfl) c (fun s5 s6 s7 s8 s11 i5 i6 i7 t => ?_) (fun l t => ?_)
        · obtain ⟨nss, rfl, hl, en⟩ := rows_of c t
          have ef : fillB ls us cs (.tup (nss.map amD)) = colsB us cs nss 0 ls := by
            show (decide ((nss.map amD).length = us.length) && (_ && _)) = _
            rw [t, decide_eq_true c, en, Bool.true_and, Bool.true_and]
          rw [ef]
          rw [List.length_map] at c
          simp
          refine jcols_loop h2 c hl i5 i6 i7 (fun s5 s6 s7 s8 s11 s12 s13 s14 t => ?_) (fun r t => ?_)
          · simp [t, PIs]
          · simp [t, PIs]
        · have ef : fillB ls us cs (.tup rows) = false := by
            show (decide (rows.length = us.length) && (_ && _)) = _
            rw [t, Bool.false_and, Bool.and_false]
          simp [ef, PIs]
      · have cl : ¬ (rows.length : Int) = (us.length : Int) := by omega
        simp [it', cl, partsD, fillB, c, PIs]
    | _ => simp [show gIsQ [_, .ty "tuple"] = some (bl false) from it, partsD, fillB, PIs]
  exact e
end K64

/-! K64E: the plain law: rows with something otherwise. -/
namespace K64
open PySem L2 DL DX

/-! ### values -/
theorem El.int (i : Int) : El (.int i) := ⟨rfl, .int i, rfl, rfl, Nat.zero_le _⟩
theorem El.non : El .non := ⟨rfl, .none, rfl, rfl, Nat.zero_le _⟩
theorem El.bl (b : Bool) : El (.bl b) := ⟨rfl, .bool b, rfl, rfl, Nat.zero_le _⟩
theorem El.nil : El (.lst []) := ⟨rfl, .list [], rfl, rfl, by decide⟩
theorem El.nilT : El (.tup []) := ⟨rfl, .tuple [], rfl, rfl, by decide⟩
theorem El.one (i : Int) : El (.tup [.int i]) := ⟨rfl, .tuple [.int i], rfl, rfl, by show max 0 0 + 1 ≤ 10; decide⟩
theorem strOk_num : ∀ m : Nat, m < 1000 → PyData.strOk (Str.ofString (toString (m : Int))) = true := by decide +kernel
theorem El.str {i : Int} (h0 : 0 ≤ i) (h : i ≤ 999) : El (.str (Str.ofString (toString i))) := by
  obtain ⟨m, rfl⟩ := Int.eq_ofNat_of_zero_le h0
  exact ⟨rfl, .str _, rfl, strOk_num m (by omega), Nat.zero_le _⟩
theorem RowV.tup {xs : List Dt} (h : ∀ e ∈ xs, El e) : RowV (.tup xs) := ⟨rfl, fun ys hy e he => by cases hy; exact h e he⟩
theorem RowV.ints (ns : List Int) : RowV (amD ns) := RowV.tup fun e he => by
  obtain ⟨i, _, rfl⟩ := List.mem_map.1 he
  exact El.int i
theorem RowV.other {d : Dt} (h : (tyD d).isSome = true) (n : ∀ xs, d ≠ .tup xs) : RowV d := ⟨h, fun xs e => absurd e (n xs)⟩
theorem Val.tup {xs : List Dt} (h : ∀ e ∈ xs, RowV e) : Val (.tup xs) := ⟨.inl rfl, fun ys hy e he => by cases hy; exact h e he⟩
theorem Val.rows (nss : List (List Int)) : Val (.tup (nss.map amD)) := Val.tup fun e he => by
  obtain ⟨i, _, rfl⟩ := List.mem_map.1 he
  exact RowV.ints i
theorem Val.other {d : Dt} (h : (tyD d).isSome = true ∨ ∃ kvs, d = .dic kvs) (n : ∀ xs, d ≠ .tup xs) : Val d := ⟨h, fun xs e => absurd e (n xs)⟩
theorem cutD_mem {xs : List Dt} {lo hi : Option Int} {d : Dt} (h : d ∈ cutD xs lo hi) : d ∈ xs := List.mem_of_mem_drop (List.mem_of_mem_take h)

/-! ### cuts -/
theorem at_midF {α : Type} {f : α → Dt} {A : List α} {d : Dt} {zs : List Dt} : atD (A.map f ++ d :: zs) (A.length : Int) = some d := by
  refine atD_nat ?_
  rw [List.getElem?_append_right (by rw [List.length_map]; exact Nat.le_refl _), List.length_map, Nat.sub_self]
  rfl
theorem cut_lo {α : Type} {f : α → Dt} {A : List α} {d : Dt} {zs : List Dt} : cutD (A.map f ++ d :: zs) none (some (A.length : Int)) = A.map f := by
  unfold cutD
  rw [HT.sIx_none, List.drop_zero, Nat.sub_zero, HT.sIx_nat]
  have : min A.length (A.map f ++ d :: zs).length = A.length := by
    rw [List.length_append, List.length_map]
    omega
  rw [this, List.take_append_of_le_length (by rw [List.length_map]; exact Nat.le_refl _), List.take_of_length_le (by rw [List.length_map]; exact Nat.le_refl _)]
theorem cut_hi {α : Type} {f : α → Dt} {A : List α} {d : Dt} {zs : List Dt} : cutD (A.map f ++ d :: zs) (some ((A.length : Int) + 1)) none = zs := by
  unfold cutD
  have hl : (A.map f ++ d :: zs).length = A.length + zs.length + 1 := by
    rw [List.length_append, List.length_map, List.length_cons]
    omega
  have h1 : HT.sIx (A.map f ++ d :: zs).length 0 (some ((A.length : Int) + 1)) = A.length + 1 := by
    rw [show ((A.length : Int) + 1) = ((A.length + 1 : Nat) : Int) by omega, HT.sIx_nat]
    omega
  rw [h1, HT.sIx_none, hl, List.take_of_length_le]
  · rw [show A.map f ++ d :: zs = (A.map f ++ [d]) ++ zs by simp, List.drop_append_of_le_length (by simp), List.drop_eq_nil_of_le (by simp)]
    rfl
  · rw [List.length_drop, hl]
    omega
theorem split_at {α : Type} {l : List α} {i : Int} (h0 : 0 ≤ i) (h : i < l.length) : ∃ A x B, l = A ++ x :: B ∧ i = (A.length : Int) := by
  obtain ⟨n, rfl⟩ := Int.eq_ofNat_of_zero_le h0
  have hn : n < l.length := by omega
  refine ⟨l.take n, l[n], l.drop (n + 1), ?_, ?_⟩
  · rw [← List.drop_eq_getElem_cons hn, List.take_append_drop]
  · rw [List.length_take]
    omega
theorem set_int {x : List Int} {a : Nat} {y : Int} : (x.map Dt.int).set a (.int y) = (x.set a y).map .int := List.map_set.symm
theorem amEq (x : List Int) : amD x = .tup (x.map .int) := rfl

/-! ### a unit moved -/
def mvT : M Fl := (mSeq (mSet 9 (mOp gPlus (mOp gPlus (mSl (mN 1) none (some (mN 3))) (mTup [(mCall gTuple [(mN 6)])])) (mSl (mN 1) (some (mOp gPlus (mN 3) (mC (.int 1)))) none))) (mSeq (mIfS (mAnd (mTC gEq2 (mN 8) (mC (.int 3))) (mTC gGt (mCall gLen [(mN 1)]) (mC (.int 1)))) (mSeq (mSet 10 (mFn f_law_take [(mN 0), (mCall gLen [(mN 1)])])) (mSeq (mSet 11 (mCall gList [(mOp gIdx (mN 9) (mN 10))])) (mSeq (mAsg (mOp gSub (mOp gIdx (mN 11) (mN 4)) (mN 7)) (gIx 11 (mN 4))) (mSet 9 (mOp gPlus (mOp gPlus (mSl (mN 9) none (some (mN 10))) (mTup [(mCall gTuple [(mN 11)])])) (mSl (mN 9) (some (mOp gPlus (mN 10) (mC (.int 1)))) none)))))) (M.pure .nx)) (mRet (mN 9))))
def mvW : M Fl := (mSeq (mPar [3, 4, 5] [(mFn f_law_take [(mN 0), (mCall gLen [(mN 1)])]), (mFn f_law_take [(mN 0), (mN 2)]), (mFn f_law_take [(mN 0), (mN 2)])]) (mSeq (mPar [6, 7, 8] [(mCall gList [(mOp gIdx (mN 1) (mN 3))]), (mFn f_law_of [(mN 0), (mLst [(mC (.int 1)), (mC (.int 1)), (mC (.int 2)), (mC (.int 7))])]), (mFn f_law_take [(mN 0), (mC (.int 5))])]) (mSeq (mAsg (mOp gPlus (mOp gIdx (mN 6) (mN 4)) (mN 7)) (gIx 6 (mN 4))) (mSeq (mIfS (mTC gLess2 (mN 8) (mC (.int 3))) (mAsg (mOp gSub (mOp gIdx (mN 6) (mN 5)) (mN 7)) (gIx 6 (mN 5))) (M.pure .nx)) mvT))))
theorem mv_eq : m_law_moved = mvW := rfl
def PMov (r : R) (outs : List Dt) : Prop := ∃ (nss : List (List Int)) (u' : Urn), r = .val (.tup (nss.map amD)) ∧ outs = [U u', .non, .non]
theorem mvT_ok {A B : List (List Int)} {x z : List Int} {n a : Nat} {to : Dt} {by' way : Int} {u : Urn} (hl : (A ++ x :: B).length ≤ 24) (hr : ∀ r ∈ A ++ x :: B, r.length = n) (hz : z.length = n) (ha : a < n) :
    OK mvT [some (U u, .io), some (.tup (A.map amD ++ amD x :: B.map amD), .fz), some (.int n, .fz), some (.int A.length, .fz), some (.int a, .fz), some (to, .fz), some (.lst (z.map .int), .ow), some (.int by', .fz), some (.int way, .fz), none, none, none] (fin [.io, .fz, .fz] PMov) := by
  unfold mvT
  simp at hl
  simp [line, cut_lo, cut_hi]
  refine ⟨by omega, by omega, ?_⟩
  have fn : A.map amD ++ Dt.tup (z.map .int) :: B.map amD = (A ++ z :: B).map amD := by simp [amEq]
  have hr2 : ∀ r ∈ A ++ z :: B, r.length = n := fun r h => by
    rcases List.mem_append.1 h with h | h
    · exact hr r (List.mem_append_left _ h)
    · rcases List.mem_cons.1 h with rfl | h
      · exact hz
      · exact hr r (List.mem_append_right _ (List.mem_cons_of_mem _ h))
  rw [fn]
  by_cases w : way = 3
  · simp [w]
    refine okIf_by (fun c => ?_) (fun c => ?_)
    · simp
      refine ok_take (by omega) (by omega) (fun k u1 k0 k1 => ?_)
      obtain ⟨A', y, B', e, rfl⟩ := split_at (l := A ++ z :: B) k0 (by simp; omega)
      rw [e] at hr2
      have hy : y.length = n := hr2 y (by simp)
      have el : (A' ++ y :: B').length = (A ++ z :: B).length := by rw [e]
      simp at el
      have em : A.map amD ++ amD z :: B.map amD = A'.map amD ++ amD y :: B'.map amD := by
        have := congrArg (List.map amD) e
        simpa using this
      have e1 := atD_int (l := y) (i := a) (by omega)
      have e2 := ixN_nat (n := y.length) (i := a) (by omega)
      simp [em, at_midF, amEq y, e1, e2, set_int, line, -List.map_set]
      simp only [← amEq]
      simp [cut_lo, cut_hi, line]
      refine ⟨by omega, by omega, A' ++ y.set a (nth y a - by') :: B', u1, ?_, rfl⟩
      simp [amEq]
    · simp
      exact ⟨A ++ z :: B, u, by simp, rfl⟩
  · simp [w]
    exact ⟨A ++ z :: B, u, by simp, rfl⟩
theorem moved_ok (u : Urn) {nss : List (List Int)} {n : Nat} (h0 : 0 < n) (hn : n ≤ 10) (hl : nss.length ≤ 24) (hne : nss ≠ []) (hr : ∀ r ∈ nss, r.length = n) :
    ∃ (nss' : List (List Int)) (u' : Urn), f_law_moved.run [U u, .tup (nss.map amD), .int n] = some (.ret (.val (.tup (nss'.map amD))) [U u', .non, .non]) := by
  have hpos : 0 < nss.length := by cases nss with | nil => exact absurd rfl hne | cons a l => simp
  have e : ∃ r outs, PMov r outs ∧ runB [.io, .fz, .fz] 9 m_law_moved [U u, .tup (nss.map amD), .int n] = some (.ret r outs) := by
    refine run_fin ?_
    show OK m_law_moved [some (U u, .io), some (.tup (nss.map amD), .fz), some (.int n, .fz), none, none, none, none, none, none, none, none, none] _
    rw [mv_eq]
    unfold mvW
    simp [putA, asV, line]
    refine ok_take (by omega) (by omega) (fun j u1 j0 j1 => ?_)
    simp
    refine ok_take (by omega) (by omega) (fun at' u2 a0 a1 => ?_)
    simp
    refine ok_take (by omega) (by omega) (fun to u3 t0 t1 => ?_)
    obtain ⟨A, x, B, rfl, rfl⟩ := split_at j0 j1
    obtain ⟨a, rfl⟩ := Int.eq_ofNat_of_zero_le a0
    obtain ⟨t, rfl⟩ := Int.eq_ofNat_of_zero_le t0
    have hx : x.length = n := hr x (by simp)
    have e1 := atD_int (l := x) (i := a) (by omega)
    have e2 := ixN_nat (n := x.length) (i := a) (by omega)
    simp [at_midF, line, amEq x, putA, asV]
    refine ok_ofL (by simp) (by simp [line]) (fun d u4 hd => ?_)
    obtain ⟨b, rfl⟩ : ∃ b, d = .int b := by
      simp only [List.mem_cons, List.not_mem_nil, or_false] at hd
      rcases hd with rfl | rfl | rfl | rfl <;> exact ⟨_, rfl⟩
    simp [line]
    refine ok_take (by omega) (by omega) (fun way u5 w0 w1 => ?_)
    simp [putA, asV, e1, e2, set_int, -List.map_set]
    have hz : (x.set a (nth x a + b)).length = n := by rw [List.length_set]; exact hx
    generalize x.set a (nth x a + b) = z at hz
    have e3 := atD_int (l := z) (i := t) (by omega)
    have e4 := ixN_nat (n := z.length) (i := t) (by omega)
    refine okIf_by (fun c => ?_) (fun c => ?_)
    · simp [e3, e4, set_int, -List.map_set]
      rw [← amEq x]
      exact mvT_ok hl hr (by rw [List.length_set]; exact hz) (by omega)
    · simp
      rw [← amEq x]
      exact mvT_ok hl hr hz (by omega)
  obtain ⟨r, outs, ⟨nss', u', rfl, rfl⟩, h⟩ := e
  exact ⟨nss', u', h⟩
theorem ok_moved {u : Urn} {nss : List (List Int)} {n : Nat} (h0 : 0 < n) (hn : n ≤ 10) (hl : nss.length ≤ 24) (hne : nss ≠ []) (hr : ∀ r ∈ nss, r.length = n) {rl : List R} {rest : DL.Env} {kr : R → DL.Env → Prop}
    (k : ∀ v u', Val v → kr (.val v) (eU u' rest)) : OK (callF f_law_moved (.loc 0 :: rl) [U u, .tup (nss.map amD), .int n]) (eU u rest) kr := by
  obtain ⟨nss', u', h⟩ := moved_ok u h0 hn hl hne hr
  exact ok_urn 2 rfl h rfl (k _ u' (Val.rows nss'))
end K64

/-! K64G: the plain law: rows with something that is none. -/
namespace K64
open PySem L2 DL DX

theorem p30 : gPow (.int 10) (.int 30) = some (.val (.int 1000000000000000000000000000000)) := by kernel_rfl
theorem p40 : gPow (.int 10) (.int 40) = some (.val (.int 10000000000000000000000000000000000000000)) := by kernel_rfl
theorem str_small {i : Int} (h0 : 0 ≤ i) (h : i ≤ 999) : gStr [.int i] = some (.val (.str (Str.ofString (toString i)))) := by
  have hn : i.natAbs < 1024 := by omega
  have hl : i.natAbs.log2 < 1920 := by
    by_cases z : i.natAbs = 0
    · rw [z]; decide
    · exact Nat.lt_of_lt_of_le ((Nat.log2_lt z (k := 10)).2 (by omega)) (by omega)
  show (if i.natAbs.log2 < 1920 then _ else _) = _
  rw [if_pos hl]
@[simp] theorem at4 {a b c d e : Dt} {l : List Dt} : atD (a :: b :: c :: d :: e :: l) 4 = some e := atD_nat (i := 4) rfl
@[simp] theorem at5 {a b c d e f : Dt} {l : List Dt} : atD (a :: b :: c :: d :: e :: f :: l) 5 = some f := atD_nat (i := 5) rfl
@[simp] theorem at6 {a b c d e f g : Dt} {l : List Dt} : atD (a :: b :: c :: d :: e :: f :: g :: l) 6 = some g := atD_nat (i := 6) rfl
def odT : M Fl := (mSeq (mSet 8 (mLst [(mCall gList [(mN 3)]), (mOp gPlus (mN 3) (mTup [(mC (.int 0))])), (mSl (mN 3) none (some (mUn gNeg (mC (.int 1))))), (mN 7), (mN 7), (mC .non), (mTup [])])) (mSeq (mIfS (mTC gLess2 (mN 4) (mC (.int 7))) (mRet (mOp gPlus (mOp gPlus (mSl (mN 1) none (some (mN 2))) (mTup [(mOp gIdx (mN 8) (mN 4))])) (mSl (mN 1) (some (mOp gPlus (mN 2) (mC (.int 1)))) none))) (M.pure .nx)) (mRet (mIf (mTC gEq2 (mN 4) (mC (.int 7))) (mOp gPlus (mN 1) (mTup [(mN 3)])) (mCall gList [(mN 1)])))))
def odW : M Fl := (mSeq (mSet 2 (mFn f_law_take [(mN 0), (mCall gLen [(mN 1)])])) (mSeq (mPar [3, 4] [(mOp gIdx (mN 1) (mN 2)), (mFn f_law_take [(mN 0), (mC (.int 9))])]) (mSeq (mSet 5 (mFn f_law_take [(mN 0), (mCall gLen [(mN 3)])])) (mSeq (mSet 6 (mFn f_law_of [(mN 0), (mLst [(mC .non), (mC (.bl true)), (mC (.bl false)), (mCall gStr [(mOp gIdx (mN 3) (mN 5))]), (mTup [(mOp gIdx (mN 3) (mN 5))]), (mLst []), (mOp gPow (mC (.int 10)) (mC (.int 30))), (mUn gNeg (mC (.int 1))), (mOp gGt (mOp gIdx (mN 3) (mN 5)) (mC (.int 0)))])])) (mSeq (mSet 7 (mOp gPlus (mOp gPlus (mSl (mN 3) none (some (mN 5))) (mTup [(mN 6)])) (mSl (mN 3) (some (mOp gPlus (mN 5) (mC (.int 1)))) none))) odT)))))
theorem od_eq : m_law_odd = odW := rfl
def POdd (r : R) (outs : List Dt) : Prop := ∃ (v : Dt) (u' : Urn), (r = .val v ∨ r = .new v) ∧ Val v ∧ outs = [U u', .non]
theorem odT_ok {A B : List (List Int)} {x : List Int} {d : Dt} {way : Nat} {at' : Dt} {zs ws : List Dt} {u : Urn} (hl : (A ++ x :: B).length ≤ 24) (hx : x.length ≤ 10) (hd : El d) (hz : ∀ e ∈ zs, El e) (hw : ∀ e ∈ ws, El e) (hway : way < 9) (hzl : zs.length ≤ 10) (hwl : ws.length ≤ 10) :
    OK odT [some (U u, .io), some (.tup (A.map amD ++ amD x :: B.map amD), .fz), some (.int A.length, .fz), some (amD x, .fz), some (.int way, .fz), some (at', .fz), some (d, .fz), some (.tup (zs ++ d :: ws), .fz), none] (fin [.io, .fz] POdd) := by
  have Vo : RowV (.tup (zs ++ d :: ws)) := RowV.tup fun e he => by
    rcases List.mem_append.1 he with he | he
    · exact hz e he
    · rcases List.mem_cons.1 he with rfl | he
      · exact hd
      · exact hw e he
  have Vm : ∀ e ∈ A.map amD, RowV e := fun e he => by
    obtain ⟨i, _, rfl⟩ := List.mem_map.1 he
    exact RowV.ints i
  have Vn : ∀ e ∈ B.map amD, RowV e := fun e he => by
    obtain ⟨i, _, rfl⟩ := List.mem_map.1 he
    exact RowV.ints i
  have Vi : ∀ e ∈ x.map Dt.int, El e := fun e he => by
    obtain ⟨i, _, rfl⟩ := List.mem_map.1 he
    exact El.int i
  have Vp : ∀ r, RowV r → Val (.tup (A.map amD ++ r :: B.map amD)) := fun r hr => Val.tup fun e he => by
    rcases List.mem_append.1 he with he | he
    · exact Vm e he
    · rcases List.mem_cons.1 he with rfl | he
      · exact hr
      · exact Vn e he
  have hw9 : way = 0 ∨ way = 1 ∨ way = 2 ∨ way = 3 ∨ way = 4 ∨ way = 5 ∨ way = 6 ∨ way = 7 ∨ way = 8 := by omega
  simp at hl
  have b1 : A.length + 1 ≤ line := by unfold line; omega
  have b2 : A.length + (1 + B.length) ≤ line := by unfold line; omega
  have b3 : x.length + 1 ≤ line := by unfold line; omega
  have b4 : (7 : Nat) ≤ line := by unfold line; omega
  have b5 : A.length + (1 + B.length) + 1 ≤ line := by unfold line; omega
  have b6 : A.length + (B.length + 1) + 1 ≤ line := by unfold line; omega
  have b7 : A.length + 1 + B.length ≤ line := by unfold line; omega
  have b8 : A.length + (B.length + 1) ≤ line := by unfold line; omega
  have b9 : (1 : Nat) ≤ line := by unfold line; omega
  unfold odT
  rcases hw9 with rfl | rfl | rfl | rfl | rfl | rfl | rfl | rfl | rfl
  · simp [line, cut_lo, cut_hi, amEq x]
    and_intros
    all_goals first
      | omega
      | exact ⟨_, u, .inl rfl, Vp _ (RowV.other rfl (fun _ e => by cases e)), rfl⟩
  · simp [line, cut_lo, cut_hi, amEq x]
    and_intros
    all_goals first
      | omega
      | exact ⟨_, u, .inl rfl, Vp _ (RowV.tup fun e he => by
        rcases List.mem_append.1 he with he | he
        · exact Vi e he
        · rw [List.mem_singleton.1 he]; exact El.int 0), rfl⟩
  · simp [line, cut_lo, cut_hi, amEq x]
    and_intros
    all_goals first
      | omega
      | exact ⟨_, u, .inl rfl, Vp _ (RowV.tup fun e he => Vi e (cutD_mem he)), rfl⟩
  · simp [line, cut_lo, cut_hi, amEq x]
    and_intros
    all_goals first
      | omega
      | exact ⟨_, u, .inl rfl, Vp _ Vo, rfl⟩
  · simp [line, cut_lo, cut_hi, amEq x]
    and_intros
    all_goals first
      | omega
      | exact ⟨_, u, .inl rfl, Vp _ Vo, rfl⟩
  · simp [line, cut_lo, cut_hi, amEq x]
    and_intros
    all_goals first
      | omega
      | exact ⟨_, u, .inl rfl, Vp _ (RowV.other rfl (fun _ e => by cases e)), rfl⟩
  · simp [line, cut_lo, cut_hi, amEq x]
    and_intros
    all_goals first
      | omega
      | exact ⟨_, u, .inl rfl, Vp _ (RowV.tup fun e he => by cases he), rfl⟩
  · simp [line, cut_lo, cut_hi, amEq x]
    and_intros
    all_goals first
      | omega
      | exact ⟨_, u, .inl rfl, Val.tup fun e he => by
        rcases List.mem_append.1 he with he | he
        · exact Vm e he
        · rcases List.mem_cons.1 he with rfl | he
          · exact RowV.ints x
          · rcases List.mem_append.1 he with he | he
            · exact Vn e he
            · rw [List.mem_singleton.1 he]; exact RowV.ints x, rfl⟩
  · simp [line, cut_lo, cut_hi, amEq x]
    and_intros
    all_goals first
      | omega
      | exact ⟨_, u, .inr rfl, Val.other (.inl rfl) (fun _ e => by cases e), rfl⟩
theorem odd_ok (u : Urn) {nss : List (List Int)} {n : Nat} (h0 : 0 < n) (hn : n ≤ 10) (hl : nss.length ≤ 24) (hne : nss ≠ []) (hr : ∀ r ∈ nss, r.length = n) (hx : ∀ r ∈ nss, ∀ i ∈ r, 0 ≤ i ∧ i ≤ 999) :
    ∃ (r : R) (v : Dt) (u' : Urn), (r = .val v ∨ r = .new v) ∧ Val v ∧ f_law_odd.run [U u, .tup (nss.map amD)] = some (.ret r [U u', .non]) := by
  have hpos : 0 < nss.length := by cases nss with | nil => exact absurd rfl hne | cons a l => simp
  have e : ∃ r outs, POdd r outs ∧ runB [.io, .fz] 7 m_law_odd [U u, .tup (nss.map amD)] = some (.ret r outs) := by
    refine run_fin ?_
    show OK m_law_odd [some (U u, .io), some (.tup (nss.map amD), .fz), none, none, none, none, none, none, none] _
    rw [od_eq]
    unfold odW
    simp
    refine ok_take (by omega) (by omega) (fun j u1 j0 j1 => ?_)
    obtain ⟨A, x, B, rfl, rfl⟩ := split_at j0 j1
    have hxn : x.length = n := hr x (by simp)
    have hxx := hx x (by simp)
    simp [at_midF, line, putA, asV]
    refine ok_take (by omega) (by omega) (fun way u2 w0 w1 => ?_)
    obtain ⟨way, rfl⟩ := Int.eq_ofNat_of_zero_le w0
    simp [amEq x, putA, asV]
    refine ok_take (by omega) (by omega) (fun k u3 k0 k1 => ?_)
    obtain ⟨P, y, Q, hxe, rfl⟩ := split_at k0 k1
    have hy := hxx y (by rw [hxe]; simp)
    have hm : x.map Dt.int = P.map Dt.int ++ Dt.int y :: Q.map Dt.int := by rw [hxe, List.map_append, List.map_cons]
    have hln : P.length + (Q.length + 1) = n := by rw [← hxn, hxe]; simp
    simp [hm, at_midF, str_small hy.1 hy.2, p30, line]
    refine ok_ofL (by simp) (by simp [line]) (fun d u4 hd => ?_)
    have hE : El d := by
      simp only [List.mem_cons, List.not_mem_nil, or_false] at hd
      rcases hd with rfl | rfl | rfl | rfl | rfl | rfl | rfl | rfl | rfl
      · exact El.non
      · exact El.bl true
      · exact El.bl false
      · exact El.str hy.1 hy.2
      · exact El.one y
      · exact El.nil
      · exact El.int _
      · exact El.int _
      · exact El.bl _
    have Vp : ∀ (l : List Int), ∀ e ∈ l.map Dt.int, El e := fun l e he => by
      obtain ⟨i, _, rfl⟩ := List.mem_map.1 he
      exact El.int i
    simp [cut_lo, cut_hi, line]
    refine ⟨by omega, by omega, ?_⟩
    have key := odT_ok (u := u4) (A := A) (B := B) (x := x) (d := d) (way := way) (at' := .int P.length) (zs := P.map .int) (ws := Q.map .int) hl (by omega) hE (Vp P) (Vp Q) (by omega) (by rw [List.length_map]; omega) (by rw [List.length_map]; omega)
    rw [amEq x, hm] at key
    simpa using key
  obtain ⟨r, outs, ⟨v, u', hr, hv, rfl⟩, h⟩ := e
  exact ⟨r, v, u', hr, hv, h⟩
theorem ok_odd {u : Urn} {nss : List (List Int)} {n : Nat} (h0 : 0 < n) (hn : n ≤ 10) (hl : nss.length ≤ 24) (hne : nss ≠ []) (hr : ∀ r ∈ nss, r.length = n) (hx : ∀ r ∈ nss, ∀ i ∈ r, 0 ≤ i ∧ i ≤ 999) {rl : List R} {rest : DL.Env} {kr : R → DL.Env → Prop}
    (k : ∀ r v u', r = .val v ∨ r = .new v → Val v → kr r (eU u' rest)) : OK (callF f_law_odd (.loc 0 :: rl) [U u, .tup (nss.map amD)]) (eU u rest) kr := by
  obtain ⟨r, v, u', hr, hv, h⟩ := odd_ok u h0 hn hl hne hr hx
  exact ok_urn 1 rfl h (by rcases hr with rfl | rfl <;> rfl) (k r v u' hr hv)
end K64

/-! K64D: the plain law: all that is asked of a drawn record. -/
namespace K64
open PySem L2 DL DX

theorem Lots.nil : Lots [] := ⟨by simp, .nil, by simp⟩
theorem fit_parts {ls : List Lot} {us : List Use} {cs : List Cnt} (hL : Lots ls) (hU : Uses us) (hC : Cnts ls cs) : Fit (partsD ls us cs) 3 8000 := fit_3 (fit_lots hL.ok (by have := hL.len; omega)) (fit_uses hU) (fit_cnts hC)
theorem ok_record {u : Urn} {s0 s1 s2 : Nat} (h0 : s0 ≤ 10) (h1 : s1 ≤ 24) (h2 : s2 ≤ 16) {top last : Int} (ht : 1 ≤ top ∧ top ≤ 999) (hl : 0 ≤ last ∧ last ≤ 99) {rl : List R} {rest : DL.Env} {kr : R → DL.Env → Prop}
    (k : ∀ ls us cs ams u', Lots ls → Uses us → Cnts ls cs → Made ls us ams → kr (.val (.tup [partsD ls us cs, .tup (ams.map amD)])) (eU u' rest)) : OK (callF f_law_record (.loc 0 :: rl) [U u, .tup [.int s0, .int s1, .int s2], .int top, .int last]) (eU u rest) kr := by
  obtain ⟨ls, us, cs, am, u', ⟨a, b, c, d⟩, h⟩ := record_ok u h0 h1 h2 ht hl
  exact ok_urn 3 rfl h rfl (k ls us cs am u' a b c d)
theorem eqT_emp {α : Type} {f : α → Dt} {l : List α} : eqT (.tup (l.map f)) (.tup []) = l.isEmpty := by
  cases l <;> rfl
theorem fit_made {ls : List Lot} {us : List Use} {ams : List (List Int)} (hL : Lots ls) (hU : Uses us) (hM : Made ls us ams) : Fit (.tup (ams.map amD)) 2 2503 := by
  refine FitA.tup (k := 1) ((FitA.of (k := 1) (n := 53) ?_).mono ?_)
  · intro d hd
    obtain ⟨r, hr, rfl⟩ := List.mem_map.1 hd
    refine ((FitA.of (k := 0) (n := 3) ?_).tup).mono (Nat.le_refl _) ?_
    · intro d hd
      obtain ⟨i, hi, rfl⟩ := List.mem_map.1 hd
      exact Fit.int (hM.num r hr i hi).1 (hM.num r hr i hi).2
    · rw [List.length_map, hM.row r hr]
      have := hL.len
      omega
  · rw [List.length_map, hM.len]
    have := hU.len
    omega
def strange : List Dt := [.non, .bl true, .bl false, .int 0, .int 1, .str "", .str "uses", .tup [], .lst [], .dic [], .tup [.tup []], .tup [.int 0], .tup [.tup [.int 0]], .tup [.tup [.bl true]], .int 10000000000000000000000000000000000000000]
theorem strange_val : ∀ d ∈ strange, Val d := by
  intro d hd
  unfold strange at hd
  simp only [List.mem_cons, List.not_mem_nil, or_false] at hd
  rcases hd with rfl | rfl | rfl | rfl | rfl | rfl | rfl | rfl | rfl | rfl | rfl | rfl | rfl | rfl | rfl
  · exact Val.other (.inl rfl) (fun _ e => by cases e)
  · exact Val.other (.inl rfl) (fun _ e => by cases e)
  · exact Val.other (.inl rfl) (fun _ e => by cases e)
  · exact Val.other (.inl rfl) (fun _ e => by cases e)
  · exact Val.other (.inl rfl) (fun _ e => by cases e)
  · exact Val.other (.inl rfl) (fun _ e => by cases e)
  · exact Val.other (.inl rfl) (fun _ e => by cases e)
  · exact Val.tup (fun e he => by cases he)
  · exact Val.other (.inl rfl) (fun _ e => by cases e)
  · exact Val.other (.inr ⟨_, rfl⟩) (fun _ e => by cases e)
  · exact Val.tup (fun e he => by
      simp only [List.mem_cons, List.not_mem_nil, or_false] at he
      subst he
      exact RowV.tup fun e he => by cases he)
  · exact Val.tup (fun e he => by
      simp only [List.mem_cons, List.not_mem_nil, or_false] at he
      subst he
      exact RowV.other rfl (fun _ e => by cases e))
  · exact Val.tup (fun e he => by
      simp only [List.mem_cons, List.not_mem_nil, or_false] at he
      subst he
      exact RowV.ints [0])
  · exact Val.tup (fun e he => by
      simp only [List.mem_cons, List.not_mem_nil, or_false] at he
      subst he
      exact RowV.tup fun e he => by
        simp only [List.mem_cons, List.not_mem_nil, or_false] at he
        subst he
        exact El.bl true)
  · exact Val.other (.inl rfl) (fun _ e => by cases e)
def bApp : M Fl := (mSeq (mDrop (mMt 7 gApp [(mFn f_law_moved [(mN 0), (mN 5), (mCall gLen [(mOp gIdx (mN 4) (mC (.int 0)))])])])) (mDrop (mMt 7 gApp [(mFn f_law_odd [(mN 0), (mN 5)])])))
def bAsk : M Fl := (mSeq (mSet 10 (mIf (mTC gEq2 (mOp gMod (mCall gInt [(mN 8)]) (mC (.int 2))) (mC (.int 0))) (mFn fis_filling [(mN 6), (mN 9)]) (mFnR fis_filling [(mN 9), (mN 6)]))) (mIfS (mTC gNe2 (mCall gRepr [(mN 10)]) (mCall gRepr [(mFn f_law_is_filling [(mN 4), (mN 9)])])) (mRet (mC (.bl false))) (M.pure .nx)))
def bRight : M Fl := (mSeq (mSet 3 (mFn f_law_of [(mN 0), (mLst [(mTup [(mC (.int 3)), (mC (.int 4)), (mC (.int 2))]), (mTup [(mC (.int 10)), (mC (.int 24)), (mC (.int 16))]), (mTup [(mC (.int 5)), (mC (.int 9)), (mC (.int 5))])])])) (mSeq (mAsg (mFn f_law_record [(mN 0), (mN 3), (mFn f_law_of [(mN 0), (mLst [(mC (.int 3)), (mC (.int 9)), (mC (.int 999))])]), (mFn f_law_of [(mN 0), (mLst [(mC (.int 2)), (mC (.int 9)), (mC (.int 99))])])]) (gT 2 (gCons' (gN 4) (gCons' (gN 5) gNil')))) (mSeq (mPar [6, 7] [(mNew "Record" "told" 3 m__init__ (fun ds => ds ++ []) [(mOp gIdx (mN 4) (mC (.int 0))), (mOp gIdx (mN 4) (mC (.int 1))), (mOp gIdx (mN 4) (mC (.int 2)))]), (mLst [(mN 5), (mFn f_law_of [(mN 0), (mN 1)]), (mSl (mN 5) none (some (mUn gNeg (mC (.int 1))))), (mUn gRevT (mN 5))])]) (mSeq (mFor (mRng1 (mIf (mTC gNe2 (mN 5) (mTup [])) (mC (.int 8)) (mC (.int 0)))) (gN 8) bApp) (mSeq (mFor (mEnumL (mN 7)) (gT 2 (gCons' (gN 8) (gCons' (gN 9) gNil'))) bAsk) (mIfS (mTC gNe2 (mCall gRepr [(mUn (gPrp "Record" "told" none) (mN 6))]) (mCall gRepr [(mN 4)])) (mRet (mC (.bl false))) (M.pure .nx)))))))
def mR : M Fl := (mSeq (mSet 1 (mLst [(mC .non), (mC (.bl true)), (mC (.bl false)), (mC (.int 0)), (mC (.int 1)), (mC (.str "")), (mC (.str "uses")), (mTup []), (mLst []), (M.pure (.val (.dic []))), (mTup [(mTup [])]), (mTup [(mC (.int 0))]), (mTup [(mTup [(mC (.int 0))])]), (mTup [(mTup [(mC (.bl true))])]), (mOp gPow (mC (.int 10)) (mC (.int 40)))])) (mSeq (mFor (mRng1 (mC (.int 4))) (gN 2) bRight) (mRet (mC (.bl true)))))
theorem mR_eq : m_law_right = mR := rfl
def IS (s : Option (Dt × Md)) : Prop := s = some (.lst strange, .ow) ∨ s = some (.lst strange, .fz) ∨ s = none
def IRight (ds : List Dt) (e : DL.Env) : Prop := ∃ (u : Urn) (s1 s2 s3 s4 s5 s6 s7 s8 s9 s10 : Option (Dt × Md)), ((s1 = some (.lst strange, .ow) ∨ s1 = some (.lst strange, .fz)) ∧ isIo s2 = false ∧ isIo s3 = false ∧ isIo s4 = false ∧ isIo s5 = false ∧ isIo s6 = false ∧ isIo s7 = false ∧ isIo s8 = false ∧ isIo s9 = false ∧ isIo s10 = false) ∧
  e = [some (U u, .io), s1, s2, s3, s4, s5, s6, s7, s8, s9, s10]
section
variable {ls : List Lot} {us : List Use} {cs : List Cnt} {ams : List (List Int)} {x2 x3 x8 x9 x10 : Option (Dt × Md)} {k : Fl → DL.Env → Prop}
abbrev eR (u : Urn) (ls : List Lot) (us : List Use) (cs : List Cnt) (ams : List (List Int)) (vs : List Dt) (m : Md) (x2 x3 x8 x9 x10 : Option (Dt × Md)) : DL.Env := [some (U u, .io), some (.lst strange, .fz), x2, x3, some (partsD ls us cs, .fz), some (.tup (ams.map amD), .fz), some (recR ls us cs, .fz), some (.lst vs, m), x8, x9, x10]
def IApp (ls : List Lot) (us : List Use) (cs : List Cnt) (ams : List (List Int)) (x2 x3 x9 x10 : Option (Dt × Md)) (ds : List Dt) (e : DL.Env) : Prop := ∃ (u : Urn) (vs : List Dt) (x8 : Option (Dt × Md)), isIo x8 = false ∧ (∀ v ∈ vs, Val v) ∧ vs.length + 2 * ds.length ≤ 20 ∧ e = eR u ls us cs ams vs .ow x2 x3 x8 x9 x10
theorem app_loop (hL : Lots ls) (hU : Uses us) (hM : Made ls us ams) (hne : ams ≠ []) {u : Urn} {vs ds : List Dt} (hv : ∀ v ∈ vs, Val v) (hl : vs.length + 2 * ds.length ≤ 20) (i8 : isIo x8 = false)
    (q : ∀ u vs x8, isIo x8 = false → (∀ v ∈ vs, Val v) → vs.length ≤ 20 → k .nx (eR u ls us cs ams vs .ow x2 x3 x8 x9 x10)) :
    OK (forL (gN 8) bApp ds) (eR u ls us cs ams vs .ow x2 x3 x8 x9 x10) k := by
  have h0 := hM.ne hne
  have h1 := hL.len
  have h2 := hU.len
  have h3 := hM.len
  refine ok_forL (IApp ls us cs ams x2 x3 x9 x10) ?_ _ _ ⟨u, vs, x8, i8, hv, hl, rfl⟩ ?_
  · rintro d ds e ⟨u, vs, x8, i8, hv, hl, rfl⟩
    simp only [List.length_cons] at hl
    unfold bApp
    simp [i8, partsD]
    refine ok_moved h0 h1 (by omega) hne hM.row (fun v u1 hv1 => ?_)
    have b1 : vs.length < 100000 := by omega
    simp [b1]
    refine ok_odd h0 h1 (by omega) hne hM.row hM.num (fun r w u2 hr hw => ?_)
    have b2 : vs.length + 1 < 100000 := by omega
    have fin' : ∀ x : Option (Dt × Md), isIo x = false → IApp ls us cs ams x2 x3 x9 x10 ds (eR u2 ls us cs ams (vs ++ [v] ++ [w]) .ow x2 x3 x x9 x10) := fun x hx => ⟨u2, vs ++ [v] ++ [w], x, hx, fun y hy => by
      rcases List.mem_append.1 hy with hy | hy
      · rcases List.mem_append.1 hy with hy | hy
        · exact hv y hy
        · rw [List.mem_singleton.1 hy]; exact hv1
      · rw [List.mem_singleton.1 hy]; exact hw, by simp only [List.length_append, List.length_singleton]; omega, rfl⟩
    have f2 := fin' (some (d, .fz)) rfl
    simp [partsD] at f2
    rcases hr with rfl | rfl
    · simp [b2]
      exact f2
    · simp [b2]
      exact f2
  · rintro e ⟨u, vs, x8, i8, hv, hl, rfl⟩
    exact q u vs x8 i8 hv (by simp at hl; omega)
def IAsk (u : Urn) (ls : List Lot) (us : List Use) (cs : List Cnt) (ams : List (List Int)) (vs0 : List Dt) (x2 x3 : Option (Dt × Md)) (ds : List Dt) (e : DL.Env) : Prop := ∃ (i : Nat) (vs : List Dt) (x8 x9 x10 : Option (Dt × Md)), (isIo x8 = false ∧ isIo x9 = false ∧ isIo x10 = false) ∧ (∀ v ∈ vs, Val v) ∧ ds = enumD i vs ∧ e = eR u ls us cs ams vs0 .fz x2 x3 x8 x9 x10
theorem rep_t : gRepr [.bl true] = some (.val (.str "True")) := by kernel_rfl
theorem rep_f : gRepr [.bl false] = some (.val (.str "False")) := by kernel_rfl
theorem ask_loop (hL : Lots ls) (hU : Uses us) (hC : Cnts ls cs) {u : Urn} {vs : List Dt} (hv : ∀ v ∈ vs, Val v) (i8 : isIo x8 = false) (i9 : isIo x9 = false) (i10 : isIo x10 = false)
    (q : ∀ x8 x9 x10, isIo x8 = false → isIo x9 = false → isIo x10 = false → k .nx (eR u ls us cs ams vs .fz x2 x3 x8 x9 x10)) :
    OK (forL (gT 2 (gCons' (gN 8) (gCons' (gN 9) gNil'))) bAsk (enumD 0 vs)) (eR u ls us cs ams vs .fz x2 x3 x8 x9 x10) k := by
  refine ok_forL (IAsk u ls us cs ams vs x2 x3) ?_ _ _ ⟨0, vs, x8, x9, x10, ⟨i8, i9, i10⟩, hv, rfl, rfl⟩ ?_
  · rintro d ds e ⟨i, ws, x8, x9, x10, ⟨i8, i9, i10⟩, hv, hd, rfl⟩
    obtain ⟨v, ws, rfl⟩ : ∃ v ws', ws = v :: ws' := by
      cases ws with
      | nil => cases hd
      | cons v ws => exact ⟨v, ws, rfl⟩
    rw [enumD_cons] at hd
    injection hd with hd1 hd2
    subst hd1
    have hV := hv v List.mem_cons_self
    have r1 := filling_ok hL hU hC hV
    have r2 := lfilling_ok (cs := cs) hL hU hV
    have tail : ∀ b : Bool, fillB ls us cs v = b → ∀ x : Option (Dt × Md), OK (mIfS (mTC gNe2 (mCall gRepr [(mN 10)]) (mCall gRepr [(mFn f_law_is_filling [(mN 4), (mN 9)])])) (mRet (mC (.bl false))) (M.pure .nx)) (eR u ls us cs ams vs .fz x2 x3 (some (.int i, .fz)) (some (v, .fz)) (some (.bl b, .fz))) fun f e => (f = .nx ∨ f = .ct) ∧ IAsk u ls us cs ams vs x2 x3 ds e := fun b hb _ => by
      have fin' : IAsk u ls us cs ams vs x2 x3 ds (eR u ls us cs ams vs .fz x2 x3 (some (.int i, .fz)) (some (v, .fz)) (some (.bl b, .fz))) := ⟨i + 1, ws, _, _, _, ⟨rfl, rfl, rfl⟩, fun y hy => hv y (List.mem_cons_of_mem _ hy), hd2, rfl⟩
      cases b with
      | true =>
        simp [rep_t]
        refine ok_plain 2 rfl r2 rfl ?_
        simp [hb, rep_t]
        exact fin'
      | false =>
        simp [rep_f]
        refine ok_plain 2 rfl r2 rfl ?_
        simp [hb, rep_f]
        exact fin'
    unfold bAsk
    simp [i8, i9]
    refine okIf_by (fun c => ?_) (fun c => ?_)
    · simp
      refine ok_plain 2 rfl r1 rfl ?_
      have t := tail _ rfl none
      simp at t
      simp [i10]
      exact t
    · rw [ok_fnR]
      simp
      refine ok_plain 2 rfl r1 rfl ?_
      have t := tail _ rfl none
      simp at t
      simp [i10]
      exact t
  · rintro e ⟨i, ws, x8, x9, x10, ⟨i8, i9, i10⟩, hv, hd, rfl⟩
    exact q x8 x9 x10 i8 i9 i10
end
theorem right_step {d : Dt} {ds : List Dt} {e : DL.Env} (h : IRight (d :: ds) e) : OK (gN 2 d) e fun _ e => OK bRight e fun f e => (f = .nx ∨ f = .ct) ∧ IRight ds e := by
  obtain ⟨u, s1, s2, s3, s4, s5, s6, s7, s8, s9, s10, ⟨h1, i2, i3, i4, i5, i6, i7, i8, i9, i10⟩, rfl⟩ := h
  have i1 : isIo s1 = false := by rcases h1 with rfl | rfl <;> rfl
  unfold bRight
  simp [i2, i3, line]
  refine ok_ofL (by simp) (by simp [line]) (fun d1 u1 hd => ?_)
  obtain ⟨z0, z1, z2, rfl, h0, hz1, h2⟩ : ∃ z0 z1 z2 : Nat, d1 = .tup [.int z0, .int z1, .int z2] ∧ z0 ≤ 10 ∧ z1 ≤ 24 ∧ z2 ≤ 16 := by
    simp only [List.mem_cons, List.not_mem_nil, or_false] at hd
    rcases hd with rfl | rfl | rfl
    · exact ⟨3, 4, 2, rfl, by omega, by omega, by omega⟩
    · exact ⟨10, 24, 16, rfl, by omega, by omega, by omega⟩
    · exact ⟨5, 9, 5, rfl, by omega, by omega, by omega⟩
  simp [i3, line]
  refine ok_ofL (by simp) (by simp [line]) (fun d3 u3 hd => ?_)
  obtain ⟨top, rfl, ht⟩ : ∃ top : Int, d3 = .int top ∧ 1 ≤ top ∧ top ≤ 999 := by
    simp only [List.mem_cons, List.not_mem_nil, or_false] at hd
    rcases hd with rfl | rfl | rfl <;> exact ⟨_, rfl, by omega, by omega⟩
  simp [line]
  refine ok_ofL (by simp) (by simp [line]) (fun d2 u2 hd => ?_)
  obtain ⟨last, rfl, hl⟩ : ∃ last : Int, d2 = .int last ∧ 0 ≤ last ∧ last ≤ 99 := by
    simp only [List.mem_cons, List.not_mem_nil, or_false] at hd
    rcases hd with rfl | rfl | rfl <;> exact ⟨_, rfl, by omega, by omega⟩
  simp
  refine ok_record h0 hz1 h2 ht hl (fun ls us cs ams u4 hL hU hC hM => ?_)
  have hn := new_ok hL hU hC
  have hp : partsD ls us cs = .tup [.tup (ls.map lotD), .tup (us.map useD), .tup (cs.map cntD)] := rfl
  have F : Fit (.tup [.tup (ls.map lotD), .tup (us.map useD), .tup (cs.map cntD)]) 3 8000 := fit_parts hL hU hC
  obtain ⟨zp, hzp⟩ := F.repr (by omega) (by unfold line; omega)
  have pa := prp_told (.tup [.tup (ls.map lotD), .tup (us.map useD), .tup (cs.map cntD)])
  simp [hp, i4, i5, i6, i7, line]
  simp [hn, putA, asV]
  have hfm := eqTT_fit (fit_made hL hU hM) fit_nil (by omega) (by omega)
  rw [eqT_emp] at hfm
  have rest : ∀ (u : Urn) (vs : List Dt) (x8 : Option (Dt × Md)), isIo x8 = false → (∀ v ∈ vs, Val v) → OK (mSeq (mFor (mEnumL (mN 7)) (gT 2 (gCons' (gN 8) (gCons' (gN 9) gNil'))) bAsk) (mIfS (mTC gNe2 (mCall gRepr [(mUn (gPrp "Record" "told" none) (mN 6))]) (mCall gRepr [(mN 4)])) (mRet (mC (.bl false))) (M.pure .nx))) (eR u ls us cs ams vs .ow (some (d, .fz)) (some (.tup [.int z0, .int z1, .int z2], .fz)) x8 s9 s10) fun f e => (f = .nx ∨ f = .ct) ∧ IRight ds e := fun u vs x8 i8 hv => by
    simp
    refine ask_loop hL hU hC hv i8 i9 i10 (fun x8 x9 x10 i8 i9 i10 => ?_)
    have pa' : gPrp "Record" "told" none (recR ls us cs) = some (.val (.tup [.tup (ls.map lotD), .tup (us.map useD), .tup (cs.map cntD)])) := pa
    simp [pa', hzp, hp]
    exact ⟨u, _, _, _, _, _, _, _, _, _, _, ⟨.inr rfl, rfl, rfl, rfl, rfl, rfl, rfl, i8, i9, i10⟩, rfl⟩
  have loop : ∀ (u : Urn) (vs : List Dt), (∀ v ∈ vs, Val v) → vs.length ≤ 4 → OK (mSeq (mFor (mRng1 (mIf (mTC gNe2 (mN 5) (mTup [])) (mC (.int 8)) (mC (.int 0)))) (gN 8) bApp) (mSeq (mFor (mEnumL (mN 7)) (gT 2 (gCons' (gN 8) (gCons' (gN 9) gNil'))) bAsk) (mIfS (mTC gNe2 (mCall gRepr [(mUn (gPrp "Record" "told" none) (mN 6))]) (mCall gRepr [(mN 4)])) (mRet (mC (.bl false))) (M.pure .nx)))) (eR u ls us cs ams vs .ow (some (d, .fz)) (some (.tup [.int z0, .int z1, .int z2], .fz)) s8 s9 s10) fun f e => (f = .nx ∨ f = .ct) ∧ IRight ds e := fun u vs hv hvl => by
    cases ams with
    | nil =>
      simp at hfm
      simp [hfm, line, bndR]
      refine ok_for0.2 ?_
      have r := rest u vs s8 i8 hv
      simp at r
      simp
      exact r
    | cons a l =>
      simp at hfm
      simp [hfm, line, bndR]
      refine app_loop hL hU hM (by simp) hv (by rw [rangeD_len]; omega) i8 (fun u vs x8 i8 hv _ => ?_)
      have r := rest u vs x8 i8 hv
      simp at r
      simp
      exact r
  have hsl : strange.length = 15 := rfl
  rcases h1 with rfl | rfl
  all_goals
    simp
    refine ok_ofL (by rw [hsl]; omega) (by rw [hsl]; unfold line; omega) (fun v u5 hv => ?_)
    have r := loop u5 [.tup (ams.map amD), v, .tup (cutD (ams.map amD) none (some (-1))), .tup (ams.map amD).reverse] (fun w hw => by
      have hsub : ∀ l : List Dt, (∀ d ∈ l, d ∈ ams.map amD) → Val (.tup l) := fun l h => Val.tup fun e he => by
        obtain ⟨i, _, rfl⟩ := List.mem_map.1 (h e he)
        exact RowV.ints i
      simp only [List.mem_cons, List.not_mem_nil, or_false] at hw
      rcases hw with rfl | rfl | rfl | rfl
      · exact Val.rows ams
      · exact strange_val _ hv
      · exact hsub _ fun d h => cutD_mem h
      · exact hsub _ fun d h => List.mem_reverse.1 h) (by simp)
    simp at r
    simp [putA, asV, i6, i7, line]
    exact r
theorem right_ok (u : Urn) : ∃ u', f_law_right.run [U u] = some (.ret yes [U u']) := by
  have e : ∃ r outs, (∃ u', r = yes ∧ outs = [U u']) ∧ runB [.io] 10 m_law_right [U u] = some (.ret r outs) := by
    refine run_fin ?_
    show OK m_law_right [some (U u, .io), none, none, none, none, none, none, none, none, none, none] _
    rw [mR_eq]
    unfold mR
    simp [bndR, p40, line]
    refine ok_forL IRight (fun d ds e h => right_step h) _ _ ⟨u, some (.lst strange, .ow), none, none, none, none, none, none, none, none, none, ⟨.inl rfl, rfl, rfl, rfl, rfl, rfl, rfl, rfl, rfl, rfl⟩, rfl⟩ ?_
    rintro e ⟨u, s1, s2, s3, s4, s5, s6, s7, s8, s9, s10, hi, rfl⟩
    simp
    exact ⟨u, rfl⟩
  obtain ⟨r, outs, ⟨u', rfl, rfl⟩, h⟩ := e
  exact ⟨u', h⟩
/-! ### the urn of a script -/
theorem own_at {ns : List Int} {lap : Int} (h0 : 0 ≤ lap) (h : lap < ns.length) : ∃ i, atD (ns.map Dt.int) lap = some (.int i) := by
  obtain ⟨n, rfl⟩ := Int.eq_ofNat_of_zero_le h0
  have hn : n < ns.length := by omega
  exact ⟨_, atD_map (f := Dt.int) hn⟩
theorem cut9 (ns : List Int) : cutD (ns.map Dt.int) none (some 9) = (ns.take 9).map Dt.int := by
  unfold cutD
  rw [HT.sIx_none, List.drop_zero, Nat.sub_zero, List.length_map, List.map_take]
  have q : HT.sIx ns.length ns.length (some 9) = min 9 ns.length := HT.sIx_nat _ _ 9
  rw [q]
  rcases Nat.le_total 9 ns.length with z | z
  · rw [Nat.min_eq_left z]
  · rw [Nat.min_eq_right z, List.take_of_length_le (by rw [List.length_map]; omega), List.take_of_length_le (by rw [List.length_map]; omega)]
def IUrn (s0 s1 : Option (Dt × Md)) (ds : List Dt) (e : DL.Env) : Prop := ∃ (l : List Int) (m : Int) (s3 : Option (Dt × Md)), isIo s3 = false ∧ ds = l.map .int ∧ e = [s0, s1, some (.int m, .fz), s3, none]
theorem p15 : gPow (.int 10) (.int 15) = some (.val (.int 1000000000000000)) := by kernel_rfl
theorem urn_ok (ns : List Int) {lap : Int} (h0 : 0 ≤ lap) : ∃ u, f_law_urn.run [.scr (ns.map Dt.int), .int lap] = some (.ret (.new (U u)) [.non, .non]) := by
  have e : ∃ r outs, (∃ u, r = .new (U u) ∧ outs = [.non, .non]) ∧ runB [.fz, .fz] 3 m_law_urn [.scr (ns.map Dt.int), .int lap] = some (.ret r outs) := by
    refine run_fin ?_
    show OK m_law_urn [some (.scr (ns.map Dt.int), .fz), some (.int lap, .fz), none, none, none] _
    unfold m_law_urn
    simp [cut9]
    refine ok_forL (IUrn (some (.scr (ns.map Dt.int), .fz)) (some (.int lap, .fz))) ?_ _ _ ⟨ns.take 9, _, none, rfl, by simp, rfl⟩ ?_
    · rintro d ds e ⟨l, m, s3, i3, hd, rfl⟩
      cases l with
      | nil => cases hd
      | cons a l =>
        injection hd with hd1 hd2
        subst hd1
        simp [i3]
        exact ⟨l, _, some (.int a, .fz), rfl, hd2, rfl⟩
    · rintro e ⟨l, m, s3, i3, hd, rfl⟩
      have fin' : ∀ own : Int, OK (mSeq (mSet 2 (mOp gMod (mCall gInt [(mOp gPlus (mOp gPlus (mOp gMul (mN 2) (mC (.int 59))) (mOp gMul (mOp gMod (mCall gInt [(mN 4)]) (mC (.int 2147483477))) (mC (.int 30029)))) (mC (.int 5)))]) (mC (.int 2147483629))))
          (mRet (mLst [(mIf (mOr (mTC gLess2 (mN 4) (mC (.int 0))) (mTC gGe (mN 4) (mOp gPow (mC (.int 10)) (mC (.int 15))))) (mCall gAbs [(mN 4)]) (mC (.int 0))), (mN 2), (mC (.int 0))])))
          [some (.scr (ns.map Dt.int), .fz), some (.int lap, .fz), some (.int m, .fz), s3, some (.int own, .fz)] (fin [.fz, .fz] fun r outs => ∃ u, r = .new (U u) ∧ outs = [.non, .non]) := fun own => by
        by_cases c1 : own < 0
        · simp [c1, line]
          exact ⟨⟨-own, _, 0, by omega⟩, by simp [U]; rfl⟩
        · by_cases c2 : 1000000000000000 ≤ own
          · simp [c1, c2, line, p15]
            exact ⟨⟨own, _, 0, by omega⟩, by simp [U]; rfl⟩
          · simp [c1, c2, line, p15]
            exact ⟨⟨0, _, 0, by omega⟩, by simp [U]; rfl⟩
      simp
      refine okIf_by (fun c => ?_) (fun c => ?_)
      · have c' : lap < ns.length := by simpa using c
        obtain ⟨own, hown⟩ := own_at h0 c'
        have f := fin' own
        simp at f
        simp [hown]
        exact f
      · have f := fin' 0
        simp at f
        simp
        exact f
  obtain ⟨r, outs, ⟨u, rfl, rfl⟩, h⟩ := e
  exact ⟨u, h⟩
end K64

/-! K64I: the plain law: every script. -/
namespace K64
open PySem L2 DL DX

theorem io_lurn : f_law_urn.io = [.fz, .fz] := rfl
def eltB : M R := (mFnT f_law_right (mFn f_law_urn [(mN 0), (mN 1)]))
theorem elt_ok (ns : List Int) {lap : Int} (h0 : 0 ≤ lap) : eltB [some (.scr (ns.map Dt.int), .fz), some (.int lap, .fz)] = some (.ok (.val (.bl true)) [some (.scr (ns.map Dt.int), .fz), some (.int lap, .fz)]) := by
  obtain ⟨u, hw⟩ := urn_ok ns h0
  obtain ⟨o, hr⟩ := right_ok u
  simp [eltB, mFnT, mFn, mA, mN, gs, M.bind, M.pure, io_lurn, argsD, frz, callF, lent, hw, putB, runT, hr]
theorem src_ok (ns : List Int) (hl : ns.length ≤ 63) : ∃ l : List Int, (∀ i ∈ l, 0 ≤ i) ∧ l.length ≤ 3 ∧ mRng1 (mCall gMax2 [(mC (.int 1)), (mCall gMin2 [(mCall gLen [(mN 0)]), (mC (.int 3))])]) [some (.scr (ns.map Dt.int), .fz), none] = some (.ok (l.map Dt.int) [some (.scr (ns.map Dt.int), .fz), none]) := by
  have key : ∀ m : Nat, m ≤ 3 → ∃ l : List Int, (∀ i ∈ l, 0 ≤ i) ∧ l.length ≤ 3 ∧ rangeD 0 m = l.map Dt.int := fun m hm => by
    refine ⟨(List.range m).map fun i : Nat => (i : Int), ?_, by simpa using hm, ?_⟩
    · intro i hi
      obtain ⟨j, _, rfl⟩ := List.mem_map.1 hi
      omega
    · rw [rangeD_0, List.map_map]
      rfl
  have run : ∃ m : Nat, m ≤ 3 ∧ mRng1 (mCall gMax2 [(mC (.int 1)), (mCall gMin2 [(mCall gLen [(mN 0)]), (mC (.int 3))])]) [some (.scr (ns.map Dt.int), .fz), none] = some (.ok (rangeD 0 m) [some (.scr (ns.map Dt.int), .fz), none]) := by
    refine ⟨(if (if (3 : Int) < ns.length then 3 else (ns.length : Int)) > 1 then (if (3 : Int) < ns.length then 3 else (ns.length : Int)) else 1).toNat, ?_, ?_⟩
    · by_cases c : (3 : Int) < ns.length
      · simp [c]
      · simp only [c, if_false]
        by_cases d : (ns.length : Int) > 1
        · simp only [d, if_true]; omega
        · simp only [d, if_false]; omega
    · refine ok_run ?_
      simp [bndR]
      by_cases c : (3 : Int) < ns.length
      · simp [c]
      · simp only [c, if_false]
        by_cases d : (1 : Int) < (ns.length : Int)
        · simp [d]; omega
        · simp [d]
  obtain ⟨m, hm, h⟩ := run
  obtain ⟨l, h1, h2, h3⟩ := key m hm
  exact ⟨l, h1, h2, by rw [h, h3]⟩
theorem law_yes : AllTrue 63 flaw where
  io := rfl
  yes := fun ns hl => by
    obtain ⟨l, h0, h2, hs⟩ := src_ok ns hl
    have e : runB [.fz] 1 mlaw [.scr (ns.map Dt.int)] = some (.ret yes [.non]) := by
      refine run_is (n := 1) ?_
      show OK (mRet (mCall gAll [mLC [1] (mRng1 (mCall gMax2 [(mC (.int 1)), (mCall gMin2 [(mCall gLen [(mN 0)]), (mC (.int 3))])])) (gN 1) (M.pure true) eltB])) [some (.scr (ns.map Dt.int), .fz), none] _
      rw [ok_ret, ok_call, ok_Acons, ok_LC]
      refine OK.of hs ?_
      refine ok_lcMap (fun _ => true) (fun _ => .bl true) rfl (by simp) (fun _ _ => rfl) ?_ (by rw [List.length_map]; unfold line; omega) ?_
      · intro d hd _
        obtain ⟨i, hi, rfl⟩ := List.mem_map.1 hd
        exact elt_ok ns (h0 i hi)
      · simp [all_yes, PIs]
    exact e
end K64

/-! K64H: what the top of k64 has written, by facts. -/
namespace K64
open PySem L2 DL DX PySem.W
def refsR (o : Obj) : List Addr := match o.data with
  | .dict es _ => es.toList.flatMap fun e => He.refV e.val
  | .cls cd => [cd.ns]
  | .func fd => He.refV fd.code ++ (He.refV fd.defaults ++ fd.closure.map (·.2))
  | .seq its _ => its.toList.flatMap He.refV
  | .fields vs => (match o.cls with
    | .type n => if n == "property" then vs.toList.flatMap He.refV else []
    | _ => [])
  | _ => []
def downR (g : Addr → Option Obj) (as : List Addr) : List Addr := as.flatMap fun a => match g a with
  | some o => refsR o
  | none => []
/-- what the module's names reach: classes and defs, namespaces and codes, methods and properties, getters, their codes -/
def asR (g : Addr → Option Obj) : List Addr := (fun l1 => (fun l2 => (fun l3 => (fun l4 => mainGlobals :: cStatics :: l1 ++ (l2 ++ (l3 ++ (l4 ++ downR g l4)))) (downR g l3)) (downR g l2)) (downR g l1)) (downR g [mainGlobals])
/-- a def at an address: what it says, how it stands -/
def fnA (K : Frag) (a : Addr) : He.FnW := match K.lookup a with
  | some ⟨_, _, .func fd, _⟩ => some (fd.name, fd.qualname, fd.params, fd.body, fd.scope, fd.globals, fd.closure, fd.builtins)
  | _ => none
def valA (x q : Str) (st : Stmt) : He.FnW := some (x, q, defArgs st, .stmts (defBody st), defScope st, mainGlobals, [], builtinsNs)
def bareA (K : Frag) (a : Addr) (q : Str) : Bool := match K.lookup a with
  | some ⟨_, _, .func fd, _⟩ => codeIn K fd.code q && decide (fd.defaults = .none)
  | _ => false
theorem fnA_ok {K : Frag} {a : Addr} {x q : Str} {st : Stmt} (e : fnA K a = valA x q st) (c : bareA K a q = true) :
    ∃ (oc : Value) (od : Option Addr) (osl : Array (Option Value)) (kV doc pm : Value) (an : Option Addr) (cdv ct : Value), K.lookup a = some ⟨oc, od, .func (fnOf x q (defArgs st) (defBody st) (defScope st) .none kV doc pm an cdv ct), osl⟩ ∧ codeIn K cdv q = true := by
  unfold bareA at c
  unfold fnA at e
  split at c
  · rename_i oc od fd osl l
    rw [l] at e
    dsimp only at e
    obtain ⟨n1, n2, n3, n4, n5, n6, n7, n8, n9, n10, n11, n12, n13, n14, n15⟩ := fd
    rw [Bool.and_eq_true, decide_eq_true_eq] at c
    obtain ⟨c1, c2⟩ := c
    unfold valA at e
    simp only [Option.some.injEq, Prod.mk.injEq] at e
    obtain ⟨z1, z2, z3, z4, z5, z6, z7, z8⟩ := e
    dsimp only at c1 c2
    subst z1 z2 z3 z4 z5 z6 z7 z8 c2
    exact ⟨oc, od, osl, _, _, _, _, _, _, l, c1⟩
  · cases c
abbrev cR (K : Frag) : Addr := He.ga K "Record"
/-- a property's getter -/
def getA (K : Frag) (f : Str) : Addr := match recIn K (He.ma K (cR K) f) "property" with
  | some (.ref g :: _) => g
  | _ => 0
def prpB (K : Frag) (f q : Str) : Bool := (findIn K (.ref (cR K)) f == some (some (.ref (He.ma K (cR K) f)))) && (specialIn K (.ref (He.ma K (cR K) f)) "__get__" == some (some (.builtin "property.__get__"))) && (takesIn K (.ref (He.ma K (cR K) f)) == some true) && (match recIn K (He.ma K (cR K) f) "property" with
  | some (.ref g :: _) => decide (g = getA K f)
  | _ => false) && bareA K (getA K f) q && keepIn K (.ref (getA K f))
theorem prp_of {K : Frag} {f q : Str} (h : prpB K f q = true) : PropOf K (cR K) f (He.ma K (cR K) f) (getA K f) ∧ bareA K (getA K f) q = true ∧ keepIn K (.ref (getA K f)) = true := by
  unfold prpB at h
  simp only [Bool.and_eq_true, beq_iff_eq] at h
  obtain ⟨⟨⟨⟨⟨h1, h2⟩, h3⟩, h4⟩, h5⟩, h6⟩ := h
  refine ⟨⟨h1, h2, h3, ?_⟩, h5, h6⟩
  split at h4
  · rename_i g r e
    rw [of_decide_eq_true h4] at e
    exact ⟨r, e⟩
  · cases h4
def insB (K : Frag) (C : Addr) : Bool := (findIn K (.ref C) "__class__" == some (some (.builtin "object.__class__"))) && (specialIn K (.builtin "object.__class__") "__get__" == some (some (.builtin "getset_descriptor.__get__"))) && (takesIn K (.builtin "object.__class__") == some true) && (mroIn K C (.type "object") == some true) && (tyNames.all fun t => kitOne K (.type t) (.ref C) == some false) &&
  (findIn K (.ref C) "__bool__" == some none) && (findIn K (.ref C) "__len__" == some none)
theorem ins_of {K : Frag} {C : Addr} (cl : Cls K C) (h : insB K C = true) : InsC K C := by
  unfold insB at h
  simp only [Bool.and_eq_true, beq_iff_eq] at h
  obtain ⟨⟨⟨⟨⟨⟨h1, h2⟩, h3⟩, h4⟩, h5⟩, h6⟩, h7⟩ := h
  exact ⟨cl, h1, h2, h3, h4, fun t ht => beq_iff_eq.mp (List.all_eq_true.mp h5 t ht), h6, h7⟩
/-- the default of counts -/
def T0 (K : Frag) : Addr := He.dflAt ("Record", some "__init__") 0 K
def exB (K : Frag) : Bool := insB K (cR K) && prpB K "lots" "Record.lots" && prpB K "uses" "Record.uses" && prpB K "counts" "Record.counts" && prpB K "parts" "Record.parts"
def mkD (x : Str) (i : Nat) : He.DefD := ⟨(x, none), x, x, defArgs (top i), defBody (top i), defScope (top i), [], []⟩
def dIni : He.DefD := ⟨("Record", some "__init__"), "__init__", "Record.__init__", defArgs (mth 0), defBody (mth 0), defScope (mth 0), [.adr T0], []⟩
def fnsD : List He.DefD := [dIni, mkD "is_whole" 9, mkD "is_number" 10, mkD "is_tuple_of" 11, mkD "wrong_at" 12, mkD "is_letters" 13, mkD "is_name" 14, mkD "is_lot" 21, mkD "is_use" 22, mkD "is_count" 23, mkD "check_lots" 24, mkD "check_uses" 25, mkD "check_counts" 26, mkD "check_record" 28, mkD "are_units" 30, mkD "used_up_to" 31, mkD "is_filled_by" 32, mkD "is_filling" 33, mkD "_law_urn" 35, mkD "_law_take" 36, mkD "_law_of" 37, mkD "_law_names" 38, mkD "_law_record" 39, mkD "_law_record_of" 40, mkD "_law_is_filling" 41, mkD "_law_moved" 42, mkD "_law_odd" 43, mkD "_law_right" 44, mkD "law" 45]
def fasD : List He.Fa := [.glo "Record", .cls "Record", .noat "Record" "told", .mkr "Record", .keep "Record", .str "SMALL_LETTERS" "abcdefghijklmnopqrstuvwxyz", .glo "is_whole", .glo "is_number", .glo "is_tuple_of", .glo "wrong_at", .glo "is_letters", .glo "is_name", .glo "is_lot", .glo "is_use", .glo "is_count", .glo "check_lots", .glo "check_uses", .glo "check_counts", .glo "check_record", .glo "are_units", .glo "used_up_to", .glo "is_filled_by", .glo "is_filling", .glo "_law_urn", .glo "_law_take", .glo "_law_of", .glo "_law_names", .glo "_law_record", .glo "_law_record_of", .glo "_law_is_filling", .glo "_law_moved", .glo "_law_odd", .glo "_law_right", .glo "law"] ++ [.free "super", .free "repr", .free "isinstance", .free "len", .free "abs", .free "divmod", .free "int", .free "max", .free "min", .free "all", .free "range", .free "sum", .free "sorted", .free "set", .free "tuple", .free "enumerate", .free "bool", .free "str", .free "list", .free "zip"] ++ [.int "MOST_IN_NAME" 8, .int "MOST_LOTS" 10, .int "MOST_USES" 24, .int "MOST_COUNTS" 16, .int "MOST_TICK" 99, .int "MOST_UNITS" 999]
abbrev Ax : Type := He.AlD × (Bool × List He.FnW)
def obsK (K : Frag) : Ax := (He.obsD fasD fnsD K, exB K, [fnA K (getA K "lots"), fnA K (getA K "uses"), fnA K (getA K "counts"), fnA K (getA K "parts")])
def valK : Ax := (He.valD fnsD, true, [valA "lots" "Record.lots" (mth 1), valA "uses" "Record.uses" (mth 2), valA "counts" "Record.counts" (mth 3), valA "parts" "Record.parts" (mth 4)])
def SaysK (K : Frag) : Prop := obsK K = valK
def obsX (g : Addr → Option Obj) : Ax := obsK (He.frG g (asR g))
def hkX : Hook where
  α := Ax
  obs := fun s => obsX s.heap.get?
  val := fun _ => valK
  says := fun _ h => ∃ K : Frag, K.In h ∧ SaysK K
  of := fun _ _ e => ⟨_, He.frG_in, e⟩
  keeps := fun _ _ _ ⟨K, hK, c⟩ k => ⟨K, Frag.In.keeps hK k, c⟩
def obX (s : SharedT) : Ax := obsX (HandSHeadRun.getT s)
theorem obX_eq (s : SharedT) : obX s = hkX.obs s.abs := by
  have e : HandSHeadRun.getT s = s.abs.heap.get? := funext (HandSHeadRun.getT_eq s)
  show obsX (HandSHeadRun.getT s) = obsX s.abs.heap.get?
  rw [e]
abbrev RX : OpenRow := OpenLaw.row PySem.Challenge.rw_ovenhall_k64_whole_fillings_or_anything
def looseX : List Str := [("HallError" : Str), ("NotARecord" : Str), ("InvalidLots" : Str), ("InvalidUses" : Str), ("InvalidCounts" : Str), ("is_whole" : Str), ("is_number" : Str), ("is_tuple_of" : Str), ("wrong_at" : Str), ("is_letters" : Str), ("is_name" : Str), ("is_lot" : Str), ("is_use" : Str), ("is_count" : Str), ("check_lots" : Str), ("check_uses" : Str), ("check_counts" : Str), ("Record" : Str), ("check_record" : Str), ("are_units" : Str)] ++ [("used_up_to" : Str), ("is_filled_by" : Str), ("is_filling" : Str), ("_law_urn" : Str), ("_law_take" : Str), ("_law_of" : Str), ("_law_names" : Str), ("_law_record" : Str), ("_law_record_of" : Str), ("_law_is_filling" : Str), ("_law_moved" : Str), ("_law_odd" : Str), ("_law_right" : Str), ("SMALL_LETTERS" : Str), ("MOST_IN_NAME" : Str), ("MOST_LOTS" : Str), ("MOST_USES" : Str), ("MOST_COUNTS" : Str), ("MOST_TICK" : Str), ("MOST_UNITS" : Str)]
theorem runX (w : World) : HandSHeadRun.RunEq RX (view RX.prog [45]) hkX obX 9000 looseX w := by
  intro os
  kernel_rfl
end K64

/-! K64F: the law. -/
namespace DL
open PySem L2
theorem data_lawE {l : PySem.W.OpenLaw} {n k : Nat} {q : Program} {loose : List Str} {XP : (Str → Option Value) → Heap → Prop} {YP : World → Heap → Prop} {d : DefRec} {fs : Fs} {x : Str}
    (hn : l.most = some n) (hn2 : n ≤ sizeLine) (hdf : d.params.defaults = []) (hr : Room k callerA)
    (F : ∀ (w : World) (mg : Str → Option Value) (fa : Addr) (h : Heap), YP w h → h.Ns mainGlobals mg → mg d.name = some (.ref fa) →
      ∃ (K : PySem.W.Frag) (fd : FuncData), K.In h ∧ (∀ (s : Shared) (u : Value), BindsTo s fd ⟨[u], []⟩ [(x, u)]) ∧ ∀ base : Heap, K.In base → base.Ns mainGlobals mg → FnG l.prog w K mg base k fa fd [x] (spOf K mg 1 fs))
    (yes : AllTrue n fs) : PySem.W.WalkO q loose XP YP l.row.toRowW d [] (fun f vs => PySem.call f vs) := by
  refine Att.attach_call hn hdf fun w s₀ s₁ mg mb fa o pm cd doc a vs ns G Y ho hd hcd hmg hobj hints hlen hg => ?_
  obtain ⟨K, fd, KX, hb, hF⟩ := F w mg fa _ Y G.T.g hmg
  exact law_run KX G.T.g G.T.b G.T.builtins G.T.nolimit hg hobj hints (Nat.le_trans hlen hn2) hr hF hb yes.io (yes.yes ns hlen)
end DL
namespace K64
open PySem L2 DL DX PySem.W
section
variable {K : Frag} {h base : Heap} {w : World} {mg : Str → Option Value}
theorem says_d (c : SaysK K) : He.SaysD fasD fnsD K := congrArg (fun z : Ax => z.1) c
theorem says_b (c : SaysK K) : exB K = true := congrArg (fun z : Ax => z.2.1) c
theorem says_p (c : SaysK K) (i : Nat) {a b : He.FnW} (e1 : [fnA K (getA K "lots"), fnA K (getA K "uses"), fnA K (getA K "counts"), fnA K (getA K "parts")][i]? = some a) (e2 : [valA "lots" "Record.lots" (mth 1), valA "uses" "Record.uses" (mth 2), valA "counts" "Record.counts" (mth 3), valA "parts" "Record.parts" (mth 4)][i]? = some b) : a = b := by
  have q : [fnA K (getA K "lots"), fnA K (getA K "uses"), fnA K (getA K "counts"), fnA K (getA K "parts")] = [valA "lots" "Record.lots" (mth 1), valA "uses" "Record.uses" (mth 2), valA "counts" "Record.counts" (mth 3), valA "parts" "Record.parts" (mth 4)] := congrArg (fun z : Ax => z.2.2) c
  rw [q, e2] at e1
  exact (Option.some.inj e1).symm
structure Exs (K : Frag) : Prop where
  ins : insB K (cR K) = true
  p1 : prpB K "lots" "Record.lots" = true
  p2 : prpB K "uses" "Record.uses" = true
  p3 : prpB K "counts" "Record.counts" = true
  p4 : prpB K "parts" "Record.parts" = true
theorem exs (c : SaysK K) : Exs K := by
  have q := says_b c
  unfold exB at q
  simp only [Bool.and_eq_true] at q
  obtain ⟨⟨⟨⟨q1, q2⟩, q3⟩, q4⟩, q5⟩ := q
  exact ⟨q1, q2, q3, q4, q5⟩
theorem fun_of {x q : Str} {st : Stmt} {f : Addr} {fd : FuncData} (F : FunD K x q (defArgs st) (defBody st) (defScope st) [] [] f fd) : Fun K x q st f fd := by
  obtain ⟨oc, od, dV, kV, doc, pm, an, cdv, ct, osl, rfl, l, c, hD, _⟩ := F.ex
  rcases hD with ⟨_, rfl⟩ | ⟨z, _⟩
  · exact fun_mk l c F.kp
  · exact absurd rfl z
theorem fni (X : K.In h) (G : h.Ns mainGlobals mg) (c : SaysK K) {x : Str} {i : Nat} {ps : List Str} (hd : mkD x i ∈ fnsD) (hf : He.Fa.glo x ∈ fasD)
    (hb : ∀ (kV doc pm : Value) (an : Option Addr) (cdv ct : Value) (us : List Value), us.length = ps.length → bindArgs (fnOf x x (defArgs (top i)) (defBody (top i)) (defScope (top i)) .none kV doc pm an cdv ct) ⟨us, []⟩ = pure (ps.zip us)) : FnI K mg x ps (top i) := by
  obtain ⟨fd, F⟩ := He.SaysD.defs (says_d c) hd
  exact ⟨_, fd, fun_of F, He.glo_ok X G (He.SaysD.facts (says_d c) hf), F.kp, FunD.bindsN F hb⟩
theorem glo_c (X : K.In h) (G : h.Ns mainGlobals mg) (c : SaysK K) {C : Addr} (e : mg "Record" = some (.ref C)) : C = cR K := by
  have q := He.glo_ok X G (He.SaysD.facts (says_d c) (f := .glo "Record") (by first | exact List.mem_cons_self | decide +kernel))
  rw [e] at q
  cases q
  rfl
theorem cls_c (c : SaysK K) : Cls K (cR K) := He.cls_ok (He.SaysD.facts (says_d c) (f := .cls "Record") (List.mem_cons_of_mem _ List.mem_cons_self))
theorem na_c (c : SaysK K) : NoAttr K (cR K) "told" := He.noat_ok (He.SaysD.facts (says_d c) (f := .noat "Record" "told") (List.mem_cons_of_mem _ (List.mem_cons_of_mem _ List.mem_cons_self)))
theorem mk_c (c : SaysK K) : Mk K (cR K) (He.ma K (cR K) "__init__") := He.mkr_ok (He.SaysD.facts (says_d c) (f := .mkr "Record") (List.mem_cons_of_mem _ (List.mem_cons_of_mem _ (List.mem_cons_of_mem _ List.mem_cons_self))))
theorem scp (j : Nat) (hj : j = 1 ∨ j = 2 ∨ j = 3 ∨ j = 4) : FnScope ["self"] ["self"] (defScope (mth j)) := by
  rcases hj with rfl | rfl | rfl | rfl <;> exact ⟨rfl, rfl, rfl, by decide +kernel, rfl, by decide +kernel, by decide +kernel⟩

theorem prp_lots (X : K.In h) (G : h.Ns mainGlobals mg) (c : SaysK K) : PrpC PySem.Challenge.pw_ovenhall_k64_whole_fillings_or_anything w K mg base "Record" "lots" (spPrp K "told" (some 0)) := by
  obtain ⟨a, b, d⟩ := prp_of (exs c).p1
  refine ⟨fun C hC => ?_⟩
  have eC := glo_c X G c hC
  subst eC
  obtain ⟨oc, od, osl, kV, doc, pm, an, cdv, ct, l, cd⟩ := fnA_ok (says_p c 0 rfl rfl) b
  refine ⟨cls_c c, _, _, _, ["self"], a, fn_getterI (N := ["self"]) l cd (scp 1 (by simp)) rfl rfl (cls_c c) (na_c c), Binds.all (ps := ["self"]) fun us hl => match us, hl with | [_], _ => rfl⟩
theorem prp_uses (X : K.In h) (G : h.Ns mainGlobals mg) (c : SaysK K) : PrpC PySem.Challenge.pw_ovenhall_k64_whole_fillings_or_anything w K mg base "Record" "uses" (spPrp K "told" (some 1)) := by
  obtain ⟨a, b, d⟩ := prp_of (exs c).p2
  refine ⟨fun C hC => ?_⟩
  have eC := glo_c X G c hC
  subst eC
  obtain ⟨oc, od, osl, kV, doc, pm, an, cdv, ct, l, cd⟩ := fnA_ok (says_p c 1 rfl rfl) b
  refine ⟨cls_c c, _, _, _, ["self"], a, fn_getterI (N := ["self"]) l cd (scp 2 (by simp)) rfl rfl (cls_c c) (na_c c), Binds.all (ps := ["self"]) fun us hl => match us, hl with | [_], _ => rfl⟩
theorem prp_counts (X : K.In h) (G : h.Ns mainGlobals mg) (c : SaysK K) : PrpC PySem.Challenge.pw_ovenhall_k64_whole_fillings_or_anything w K mg base "Record" "counts" (spPrp K "told" (some 2)) := by
  obtain ⟨a, b, d⟩ := prp_of (exs c).p3
  refine ⟨fun C hC => ?_⟩
  have eC := glo_c X G c hC
  subst eC
  obtain ⟨oc, od, osl, kV, doc, pm, an, cdv, ct, l, cd⟩ := fnA_ok (says_p c 2 rfl rfl) b
  refine ⟨cls_c c, _, _, _, ["self"], a, fn_getterI (N := ["self"]) l cd (scp 3 (by simp)) rfl rfl (cls_c c) (na_c c), Binds.all (ps := ["self"]) fun us hl => match us, hl with | [_], _ => rfl⟩
theorem prp_parts (X : K.In h) (G : h.Ns mainGlobals mg) (c : SaysK K) : PrpC PySem.Challenge.pw_ovenhall_k64_whole_fillings_or_anything w K mg base "Record" "parts" (spPrp K "told" none) := by
  obtain ⟨a, b, d⟩ := prp_of (exs c).p4
  refine ⟨fun C hC => ?_⟩
  have eC := glo_c X G c hC
  subst eC
  obtain ⟨oc, od, osl, kV, doc, pm, an, cdv, ct, l, cd⟩ := fnA_ok (says_p c 3 rfl rfl) b
  refine ⟨cls_c c, _, _, _, ["self"], a, fn_getter (N := ["self"]) l cd (scp 4 (by simp)) rfl rfl (cls_c c) (na_c c), Binds.all (ps := ["self"]) fun us hl => match us, hl with | [_], _ => rfl⟩
theorem vals_rev : ∀ {vs : List V} {us : List Value}, Vals vs us → Vals vs.reverse us.reverse
  | _, _, .nil => .nil
  | _, _, .cons r t => by
    rw [List.reverse_cons, List.reverse_cons]
    exact (vals_rev t).append (.cons r .nil)
theorem txt (X : K.In h) (G : h.Ns mainGlobals mg) (c : SaysK K) : Txt PySem.Challenge.pw_ovenhall_k64_whole_fillings_or_anything w K mg base where
  nb := fun x hx => by
    refine He.free_ok X G (He.SaysD.facts (says_d c) (f := .free x) ?_)
    refine List.mem_append_left _ (List.mem_append_right _ ?_)
    exact List.mem_map_of_mem (f := He.Fa.free) hx
  ci := fun x n hx => by
    refine He.int_ok X G (He.SaysD.facts (says_d c) (f := .int x n) ?_)
    refine List.mem_append_right _ ?_
    exact List.mem_map_of_mem (f := fun p : Str × Int => He.Fa.int p.1 p.2) hx
  cs := He.str_ok X G (He.SaysD.facts (says_d c) (f := .str "SMALL_LETTERS" "abcdefghijklmnopqrstuvwxyz") (List.mem_append_left _ (List.mem_append_left _ (by simp))))
  gl := ⟨cR K, He.glo_ok X G (He.SaysD.facts (says_d c) (f := .glo "Record") List.mem_cons_self)⟩
  ins := fun C hC => by
    have eC := glo_c X G c hC
    subst eC
    exact ins_of (cls_c c) (exs c).ins
  fld := fun C hC => by
    have eC := glo_c X G c hC
    subst eC
    exact ⟨cls_c c, na_c c⟩
  p_lots := prp_lots X G c
  p_uses := prp_uses X G c
  p_counts := prp_counts X G c
  p_parts := prp_parts X G c
theorem i_is_whole (X : K.In h) (G : h.Ns mainGlobals mg) (c : SaysK K) : FnI K mg "is_whole" [("value" : Str)] (top 9) :=
  fni X G c (List.mem_of_getElem? (i := 1) rfl) (List.mem_of_getElem? (i := 6) rfl) fun _ _ _ _ _ _ us hl => match us, hl with | [_], _ => rfl
theorem i_is_number (X : K.In h) (G : h.Ns mainGlobals mg) (c : SaysK K) : FnI K mg "is_number" [("value" : Str), ("low" : Str), ("high" : Str)] (top 10) :=
  fni X G c (List.mem_of_getElem? (i := 2) rfl) (List.mem_of_getElem? (i := 7) rfl) fun _ _ _ _ _ _ us hl => match us, hl with | [_, _, _], _ => rfl
theorem i_is_tuple_of (X : K.In h) (G : h.Ns mainGlobals mg) (c : SaysK K) : FnI K mg "is_tuple_of" [("value" : Str), ("many" : Str)] (top 11) :=
  fni X G c (List.mem_of_getElem? (i := 3) rfl) (List.mem_of_getElem? (i := 8) rfl) fun _ _ _ _ _ _ us hl => match us, hl with | [_, _], _ => rfl
theorem i_wrong_at (X : K.In h) (G : h.Ns mainGlobals mg) (c : SaysK K) : FnI K mg "wrong_at" [("values" : Str), ("most" : Str), ("is_right" : Str)] (top 12) :=
  fni X G c (List.mem_of_getElem? (i := 4) rfl) (List.mem_of_getElem? (i := 9) rfl) fun _ _ _ _ _ _ us hl => match us, hl with | [_, _, _], _ => rfl
theorem i_is_letters (X : K.In h) (G : h.Ns mainGlobals mg) (c : SaysK K) : FnI K mg "is_letters" [("value" : Str), ("least" : Str), ("most" : Str)] (top 13) :=
  fni X G c (List.mem_of_getElem? (i := 5) rfl) (List.mem_of_getElem? (i := 10) rfl) fun _ _ _ _ _ _ us hl => match us, hl with | [_, _, _], _ => rfl
theorem i_is_name (X : K.In h) (G : h.Ns mainGlobals mg) (c : SaysK K) : FnI K mg "is_name" [("value" : Str)] (top 14) :=
  fni X G c (List.mem_of_getElem? (i := 6) rfl) (List.mem_of_getElem? (i := 11) rfl) fun _ _ _ _ _ _ us hl => match us, hl with | [_], _ => rfl
theorem i_is_lot (X : K.In h) (G : h.Ns mainGlobals mg) (c : SaysK K) : FnI K mg "is_lot" [("value" : Str), ("before" : Str)] (top 21) :=
  fni X G c (List.mem_of_getElem? (i := 7) rfl) (List.mem_of_getElem? (i := 12) rfl) fun _ _ _ _ _ _ us hl => match us, hl with | [_, _], _ => rfl
theorem i_is_use (X : K.In h) (G : h.Ns mainGlobals mg) (c : SaysK K) : FnI K mg "is_use" [("value" : Str), ("before" : Str)] (top 22) :=
  fni X G c (List.mem_of_getElem? (i := 8) rfl) (List.mem_of_getElem? (i := 13) rfl) fun _ _ _ _ _ _ us hl => match us, hl with | [_, _], _ => rfl
theorem i_is_count (X : K.In h) (G : h.Ns mainGlobals mg) (c : SaysK K) : FnI K mg "is_count" [("value" : Str), ("before" : Str)] (top 23) :=
  fni X G c (List.mem_of_getElem? (i := 9) rfl) (List.mem_of_getElem? (i := 14) rfl) fun _ _ _ _ _ _ us hl => match us, hl with | [_, _], _ => rfl
theorem i_check_lots (X : K.In h) (G : h.Ns mainGlobals mg) (c : SaysK K) : FnI K mg "check_lots" [("value" : Str)] (top 24) :=
  fni X G c (List.mem_of_getElem? (i := 10) rfl) (List.mem_of_getElem? (i := 15) rfl) fun _ _ _ _ _ _ us hl => match us, hl with | [_], _ => rfl
theorem i_check_uses (X : K.In h) (G : h.Ns mainGlobals mg) (c : SaysK K) : FnI K mg "check_uses" [("value" : Str)] (top 25) :=
  fni X G c (List.mem_of_getElem? (i := 11) rfl) (List.mem_of_getElem? (i := 16) rfl) fun _ _ _ _ _ _ us hl => match us, hl with | [_], _ => rfl
theorem i_check_counts (X : K.In h) (G : h.Ns mainGlobals mg) (c : SaysK K) : FnI K mg "check_counts" [("lots" : Str), ("value" : Str)] (top 26) :=
  fni X G c (List.mem_of_getElem? (i := 12) rfl) (List.mem_of_getElem? (i := 17) rfl) fun _ _ _ _ _ _ us hl => match us, hl with | [_, _], _ => rfl
theorem i_check_record (X : K.In h) (G : h.Ns mainGlobals mg) (c : SaysK K) : FnI K mg "check_record" [("value" : Str)] (top 28) :=
  fni X G c (List.mem_of_getElem? (i := 13) rfl) (List.mem_of_getElem? (i := 18) rfl) fun _ _ _ _ _ _ us hl => match us, hl with | [_], _ => rfl
theorem i_are_units (X : K.In h) (G : h.Ns mainGlobals mg) (c : SaysK K) : FnI K mg "are_units" [("record" : Str), ("use" : Str), ("row" : Str)] (top 30) :=
  fni X G c (List.mem_of_getElem? (i := 14) rfl) (List.mem_of_getElem? (i := 19) rfl) fun _ _ _ _ _ _ us hl => match us, hl with | [_, _, _], _ => rfl
theorem i_used_up_to (X : K.In h) (G : h.Ns mainGlobals mg) (c : SaysK K) : FnI K mg "used_up_to" [("record" : Str), ("value" : Str), ("at" : Str), ("tick" : Str)] (top 31) :=
  fni X G c (List.mem_of_getElem? (i := 15) rfl) (List.mem_of_getElem? (i := 20) rfl) fun _ _ _ _ _ _ us hl => match us, hl with | [_, _, _, _], _ => rfl
theorem i_is_filled_by (X : K.In h) (G : h.Ns mainGlobals mg) (c : SaysK K) : FnI K mg "is_filled_by" [("record" : Str), ("value" : Str)] (top 32) :=
  fni X G c (List.mem_of_getElem? (i := 16) rfl) (List.mem_of_getElem? (i := 21) rfl) fun _ _ _ _ _ _ us hl => match us, hl with | [_, _], _ => rfl
theorem i_is_filling (X : K.In h) (G : h.Ns mainGlobals mg) (c : SaysK K) : FnI K mg "is_filling" [("record" : Str), ("value" : Str)] (top 33) :=
  fni X G c (List.mem_of_getElem? (i := 17) rfl) (List.mem_of_getElem? (i := 22) rfl) fun _ _ _ _ _ _ us hl => match us, hl with | [_, _], _ => rfl
theorem i__law_urn (X : K.In h) (G : h.Ns mainGlobals mg) (c : SaysK K) : FnI K mg "_law_urn" [("script" : Str), ("lap" : Str)] (top 35) :=
  fni X G c (List.mem_of_getElem? (i := 18) rfl) (List.mem_of_getElem? (i := 23) rfl) fun _ _ _ _ _ _ us hl => match us, hl with | [_, _], _ => rfl
theorem i__law_take (X : K.In h) (G : h.Ns mainGlobals mg) (c : SaysK K) : FnI K mg "_law_take" [("urn" : Str), ("many" : Str)] (top 36) :=
  fni X G c (List.mem_of_getElem? (i := 19) rfl) (List.mem_of_getElem? (i := 24) rfl) fun _ _ _ _ _ _ us hl => match us, hl with | [_, _], _ => rfl
theorem i__law_of (X : K.In h) (G : h.Ns mainGlobals mg) (c : SaysK K) : FnI K mg "_law_of" [("urn" : Str), ("some" : Str)] (top 37) :=
  fni X G c (List.mem_of_getElem? (i := 20) rfl) (List.mem_of_getElem? (i := 25) rfl) fun _ _ _ _ _ _ us hl => match us, hl with | [_, _], _ => rfl
theorem i__law_names (X : K.In h) (G : h.Ns mainGlobals mg) (c : SaysK K) : FnI K mg "_law_names" [("urn" : Str), ("many" : Str)] (top 38) :=
  fni X G c (List.mem_of_getElem? (i := 21) rfl) (List.mem_of_getElem? (i := 26) rfl) fun _ _ _ _ _ _ us hl => match us, hl with | [_, _], _ => rfl
theorem i__law_record (X : K.In h) (G : h.Ns mainGlobals mg) (c : SaysK K) : FnI K mg "_law_record" [("urn" : Str), ("sizes" : Str), ("top" : Str), ("last" : Str)] (top 39) :=
  fni X G c (List.mem_of_getElem? (i := 22) rfl) (List.mem_of_getElem? (i := 27) rfl) fun _ _ _ _ _ _ us hl => match us, hl with | [_, _, _, _], _ => rfl
theorem i__law_record_of (X : K.In h) (G : h.Ns mainGlobals mg) (c : SaysK K) : FnI K mg "_law_record_of" [("urn" : Str), ("names" : Str), ("sizes" : Str), ("top" : Str), ("last" : Str)] (top 40) :=
  fni X G c (List.mem_of_getElem? (i := 23) rfl) (List.mem_of_getElem? (i := 28) rfl) fun _ _ _ _ _ _ us hl => match us, hl with | [_, _, _, _, _], _ => rfl
theorem i__law_is_filling (X : K.In h) (G : h.Ns mainGlobals mg) (c : SaysK K) : FnI K mg "_law_is_filling" [("parts" : Str), ("value" : Str)] (top 41) :=
  fni X G c (List.mem_of_getElem? (i := 24) rfl) (List.mem_of_getElem? (i := 29) rfl) fun _ _ _ _ _ _ us hl => match us, hl with | [_, _], _ => rfl
theorem i__law_moved (X : K.In h) (G : h.Ns mainGlobals mg) (c : SaysK K) : FnI K mg "_law_moved" [("urn" : Str), ("rows" : Str), ("many" : Str)] (top 42) :=
  fni X G c (List.mem_of_getElem? (i := 25) rfl) (List.mem_of_getElem? (i := 30) rfl) fun _ _ _ _ _ _ us hl => match us, hl with | [_, _, _], _ => rfl
theorem i__law_odd (X : K.In h) (G : h.Ns mainGlobals mg) (c : SaysK K) : FnI K mg "_law_odd" [("urn" : Str), ("rows" : Str)] (top 43) :=
  fni X G c (List.mem_of_getElem? (i := 26) rfl) (List.mem_of_getElem? (i := 31) rfl) fun _ _ _ _ _ _ us hl => match us, hl with | [_, _], _ => rfl
theorem i__law_right (X : K.In h) (G : h.Ns mainGlobals mg) (c : SaysK K) : FnI K mg "_law_right" [("urn" : Str)] (top 44) :=
  fni X G c (List.mem_of_getElem? (i := 27) rfl) (List.mem_of_getElem? (i := 32) rfl) fun _ _ _ _ _ _ us hl => match us, hl with | [_], _ => rfl
theorem i_law (X : K.In h) (G : h.Ns mainGlobals mg) (c : SaysK K) : FnI K mg "law" [("script" : Str)] (top 45) :=
  fni X G c (List.mem_of_getElem? (i := 28) rfl) (List.mem_of_getElem? (i := 33) rfl) fun _ _ _ _ _ _ us hl => match us, hl with | [_], _ => rfl
theorem hb' {f : Addr} {fd : FuncData} (F : Fun K "law" "law" (top 45) f fd) (s : Shared) (v : Value) : BindsTo s fd ⟨[v], []⟩ [("script", v)] := by
  obtain ⟨oc, od, kV, doc, pm, an, cdv, ct, osl, rfl, _⟩ := F.ex
  exact .of_eq rfl
abbrev pI : List Str := ["self", "lots", "uses", "counts"]
theorem ini4 {f : Addr} {fd : FuncData} (F : FunD K "__init__" "Record.__init__" (defArgs (mth 0)) (defBody (mth 0)) (defScope (mth 0)) [.ref (T0 K)] [] f fd) : Binds K fd pI [] := by
  obtain ⟨ds, h1, h2⟩ := F.binds1 (ps := pI) 4 1 (by simp) rfl fun T kV doc pm an cdv ct us its l1 l2 => match us, its, l1, l2 with | [_, _, _, _], [_], _, _ => ⟨_, rfl, rfl⟩
  cases h1
  exact h2
theorem kbr {f : Addr} {fd : FuncData} (F : Fun K "is_filling" "is_filling" (top 33) f fd) : KBR K fd [("record" : Str), ("value" : Str)] [("value" : Str), ("record" : Str)] := by
  obtain ⟨oc, od, kV, doc, pm, an, cdv, ct, osl, rfl, _⟩ := F.ex
  intro s ws hs hl
  match ws, hl with
  | [_, _], _ => exact .of_eq rfl
theorem facts {fa : Addr} (X : K.In h) (G : h.Ns mainGlobals mg) (hfa : mg ("law" : Str) = some (.ref fa)) (c : SaysK K) :
    ∃ fd : FuncData, (∀ (s : Shared) (v : Value), BindsTo s fd ⟨[v], []⟩ [("script", v)]) ∧ ∀ base : Heap, K.In base → base.Ns mainGlobals mg → FnG PySem.Challenge.pw_ovenhall_k64_whole_fillings_or_anything w K mg base 9 fa fd ["script"] (spOf K mg 1 flaw) := by
  obtain ⟨f, fd, FL, hm, hk, hb⟩ := i_law X G c
  have ef : f = fa := by
    rw [hm] at hfa
    cases hfa
    rfl
  subst ef
  refine ⟨fd, fun s v => hb' FL s v, fun base _ _ => ?_⟩
  have T : Txt PySem.Challenge.pw_ovenhall_k64_whole_fillings_or_anything w K mg base := txt X G c
  have dis_whole := dfis_whole T (i_is_whole X G c) 
  have dis_number := dfis_number T (i_is_number X G c) dis_whole
  have dis_tuple_of := dfis_tuple_of T (i_is_tuple_of X G c) 
  have dis_letters := dfis_letters T (i_is_letters X G c) 
  have dis_name := dfis_name T (i_is_name X G c) dis_letters
  have dis_lot := dfis_lot T (i_is_lot X G c) dis_tuple_of dis_name dis_number
  have dis_use := dfis_use T (i_is_use X G c) dis_tuple_of dis_name dis_number
  have dis_count := dfis_count T (i_is_count X G c) dis_number dis_tuple_of dis_name
  have DT : ∀ y fs, tabF tab_wrong_at y = some fs → Df PySem.Challenge.pw_ovenhall_k64_whole_fillings_or_anything w K mg base 3 2 y fs := fun y fs e => by
    have e' : (if y = ("is_lot" : Str) then some fis_lot else if y = ("is_use" : Str) then some fis_use else if y = ("is_count" : Str) then some fis_count else none) = some fs := e
    by_cases z1 : y = ("is_lot" : Str)
    · rw [if_pos z1] at e'; cases e'; rw [z1]; exact dis_lot
    · rw [if_neg z1] at e'
      by_cases z2 : y = ("is_use" : Str)
      · rw [if_pos z2] at e'; cases e'; rw [z2]; exact dis_use
      · rw [if_neg z2] at e'
        by_cases z3 : y = ("is_count" : Str)
        · rw [if_pos z3] at e'; cases e'; rw [z3]; exact dis_count
        · rw [if_neg z3] at e'; cases e'
  have dwrong_at := dfwrong_at T (i_wrong_at X G c) DT
  have dcheck_lots := dfcheck_lots T (i_check_lots X G c) dwrong_at dis_lot
  have dcheck_uses := dfcheck_uses T (i_check_uses X G c) dwrong_at dis_use
  have dcheck_counts := dfcheck_counts T (i_check_counts X G c) dwrong_at dis_count
  have dcheck_record := dfcheck_record T (i_check_record X G c) 
  have dare_units := dfare_units T (i_are_units X G c) dis_tuple_of dis_number
  have dused_up_to := dfused_up_to T (i_used_up_to X G c) 
  have dis_filled_by := dfis_filled_by T (i_is_filled_by X G c) dis_tuple_of dare_units dused_up_to
  have dis_filling := dfis_filling T (i_is_filling X G c) dcheck_record dis_filled_by
  have DKis_filling : DfR PySem.Challenge.pw_ovenhall_k64_whole_fillings_or_anything w K mg base 5 "is_filling" ["value", "record"] fis_filling := by
    obtain ⟨f, fd, F, hm, hk, hb⟩ := i_is_filling X G c
    exact ⟨⟨f, fd, [("record" : Str), ("value" : Str)], rfl, gfis_filling T F dcheck_record dis_filled_by, hm, hk, kbr F⟩, rfl⟩
  have hm0 := He.glo_ok X G (He.SaysD.facts (says_d c) (f := .glo "Record") List.mem_cons_self)
  have DR : RecOk PySem.Challenge.pw_ovenhall_k64_whole_fillings_or_anything w K mg base := by
    obtain ⟨fI, FI⟩ := He.SaysD.defs (says_d c) (d := dIni) List.mem_cons_self
    exact ⟨⟨fI, ["self", "lots", "uses", "counts"], ⟨_, _, hm0, mk_c c, gf__init__ T hm0 FI dcheck_lots dcheck_uses dcheck_counts⟩, ini4 FI⟩⟩
  have d_law_urn := df_law_urn T (i__law_urn X G c) 
  have d_law_take := df_law_take T (i__law_take X G c) 
  have d_law_of := df_law_of T (i__law_of X G c) d_law_take
  have d_law_names := df_law_names T (i__law_names X G c) d_law_take d_law_of
  have d_law_record_of := df_law_record_of T (i__law_record_of X G c) d_law_take d_law_names d_law_of
  have d_law_record := df_law_record T (i__law_record X G c) d_law_record_of d_law_of d_law_names d_law_take
  have d_law_is_filling := df_law_is_filling T (i__law_is_filling X G c) 
  have d_law_moved := df_law_moved T (i__law_moved X G c) d_law_take d_law_of
  have d_law_odd := df_law_odd T (i__law_odd X G c) d_law_take d_law_of
  have d_law_right := df_law_right T (i__law_right X G c) d_law_of d_law_record d_law_moved d_law_odd dis_filling d_law_is_filling DR DKis_filling
  exact gflaw T FL d_law_right d_law_urn
end
end K64
open PySem PySem.W PySem.Calls PyProof.Rows
theorem PySem.Challenge.cw_ovenhall_k64_whole_fillings_or_anything_holds : PySem.Challenge.rw_ovenhall_k64_whole_fillings_or_anything.Holds := by
  w_on; o_law
  refine HandSHeadRun.head_any (r := OpenLaw.row PySem.Challenge.rw_ovenhall_k64_whole_fillings_or_anything) (q := view (OpenLaw.row PySem.Challenge.rw_ovenhall_k64_whole_fillings_or_anything).prog [45]) (H := K64.hkX) (ob := K64.obX) (M := 9000) (loose := K64.looseX) (d := HandSHeadRun.topDef (OpenLaw.row PySem.Challenge.rw_ovenhall_k64_whole_fillings_or_anything).prog 45) (kwd := []) K64.obX_eq
    (by kernel_rfl) (fun s => by kernel_rfl) K64.runX (by kernel_rfl) (by kernel_rfl) (by kernel_rfl) (by rfl) (by first | assumption | decide +kernel) (by decide +kernel) ⟨rfl, rfl, rfl, rfl, rfl, by decide +kernel⟩ ?hw ?hc
  case hw => w_witness2
  case hc =>
    refine DL.data_lawE (l := PySem.Challenge.rw_ovenhall_k64_whole_fillings_or_anything) (n := 63) (k := 9) (x := "script") (fs := K64.flaw) rfl (by decide) (by kernel_rfl) ⟨rfl, by decide, by decide⟩ ?F K64.law_yes
    intro w mg fa h Y G hmg0
    obtain ⟨K, KX, c⟩ := Y
    have hmg : mg ("law" : PySem.Str) = some (.ref fa) := by
      have e : (HandSHeadRun.topDef (OpenLaw.row PySem.Challenge.rw_ovenhall_k64_whole_fillings_or_anything).prog 45).name = ("law" : PySem.Str) := by kernel_rfl
      rw [← e]
      exact hmg0
    obtain ⟨fd, hb, hF⟩ := K64.facts (w := w) KX G hmg c
    exact ⟨K, fd, KX, hb, hF⟩
#print axioms PySem.Challenge.cw_ovenhall_k64_whole_fillings_or_anything_holds

