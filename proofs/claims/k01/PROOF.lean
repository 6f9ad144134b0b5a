import PyProof.Rows.All
import Wide.All
import OpenK.AllK
import Wide.FinOn
import HandS.ForMost
import HandS.ExcInit
import HandS.Iter
import HandS.Exc
import HandS.TupAny
import KE.KExcSuper
import KE.KExcIs
import KE.KExcPX
import HandS.ExcValue
import HandS.IsInst
import HandS.Comp
import HandS.RaiseMore
import HandS.Text
import HandS.Dict
import PyProof.ReprRoads
import PySem.Challenge.RW_ovenhall_k01_errors_each_of_its_own
import HandS.Ends
import HandS.Words
import HandS.WordsExc
import HandS.Defaults
import HandS.Head0
import HandS.Head1
import HandS.Head2
import HandS.HeadEnd
import HandS.HeadHook1
import HandS.HeadHook2
set_option Elab.async false
set_option linter.all false
set_option maxRecDepth 100000
set_option maxHeartbeats 8000000
/-! DLa: deep data over the hand layer: what a value stands for, slots with modes, what an expression denotes. -/
namespace DL
open PySem L2

/-- deep data -/
inductive Dt where
  | non | bl (b : Bool) | int (i : Int) | str (s : Str)
  | tup (xs : List Dt) | lst (xs : List Dt)
  | scr (xs : List Dt)
  | glob (x : Str)
  | ins (c : Str) (fs : List (Str × Dt))
  | exc (c : Str) (fs : List (Str × Dt)) | exc0 (c : Str)
  | dic (kvs : List (Key × Dt))
  | ty (n : String)

section
variable (K : PySem.W.Frag) (mg : Str → Option Value) (H : Hp)
mutual
inductive Rep : V → Dt → Prop
  | non : Rep .non .non
  | bl (b : Bool) : Rep (.bl b) (.bl b)
  | int (i : Int) : Rep (.int i) (.int i)
  | str (x : Str) : Rep (.str x) (.str x)
  | tup {a : Addr} {xs : List V} {ds : List Dt} : SqT K H a xs → RepA xs ds → Rep (.ref a) (.tup ds)
  | lst {a : Addr} {xs : List V} {ds : List Dt} : H a = some (.lst xs) → RepA xs ds → Rep (.ref a) (.lst ds)
  | scr {a : Addr} {xs : List V} {ds : List Dt} : SqL K H a xs → RepA xs ds → Rep (.ref a) (.scr ds)
  | ty (n : String) : Rep (.ty n) (.ty n)
  | glob {a : Addr} {x : Str} : mg x = some (.ref a) → Rep (.ref a) (.glob x)
  | ins {a C dx : Addr} {vf : List (Str × V)} {c : Str} {fs : List (Str × Dt)} : mg c = some (.ref C) → H a = some (.ins C dx vf) → RepF vf fs → Rep (.ref a) (.ins c fs)
  | exc {a C dx : Addr} {vf : List (Str × V)} {c : Str} {fs : List (Str × Dt)} : mg c = some (.ref C) → H a = some (exo a C (some dx)) → H dx = some (exd dx vf) → RepF vf fs → Rep (.ref a) (.exc c fs)
  | exc0 {a C : Addr} {c : Str} : mg c = some (.ref C) → H a = some (exo a C none) → Rep (.ref a) (.exc0 c)
  | dic {a : Addr} {kv : List (Key × V)} {ks : List (Key × Dt)} : H a = some (.dK kv) → RepK kv ks → Rep (.ref a) (.dic ks)
inductive RepK : List (Key × V) → List (Key × Dt) → Prop
  | nil : RepK [] []
  | cons {k : Key} {v : V} {vs : List (Key × V)} {d : Dt} {ds : List (Key × Dt)} : Rep v d → RepK vs ds → RepK ((k, v) :: vs) ((k, d) :: ds)
inductive RepA : List V → List Dt → Prop
  | nil : RepA [] []
  | cons {v : V} {vs : List V} {d : Dt} {ds : List Dt} : Rep v d → RepA vs ds → RepA (v :: vs) (d :: ds)
inductive RepF : List (Str × V) → List (Str × Dt) → Prop
  | nil : RepF [] []
  | cons {f : Str} {v : V} {vs : List (Str × V)} {d : Dt} {ds : List (Str × Dt)} : Rep v d → RepF vs ds → RepF ((f, v) :: vs) ((f, d) :: ds)
end
end

/-- all that the one heap tells the other one tells, too -/
def Le (H H' : Hp) : Prop := ∀ a o, H a = some o → H' a = some o
theorem Le.refl (H : Hp) : Le H H := fun _ _ h => h
theorem Le.trans {H H1 H2 : Hp} (a : Le H H1) (b : Le H1 H2) : Le H H2 := fun c o h => b c o (a c o h)
theorem Le.there {H H' : Hp} (e : Le H H') : ∀ a, H a ≠ none → H' a ≠ none := fun a q => by
  cases z : H a with
  | none => exact absurd z q
  | some o => rw [e a o z]; exact fun z => nomatch z
theorem Le.new {H : Hp} {p : Addr} {o : HO} (h : H p = none) : Le H (upd H p o) := fun b u e => by
  rw [upd_ne (ne_of_none e h)]
  exact e
theorem Le.rd {H H' : Hp} (e : Le H H') {a : Addr} {u : HO} (h : Rd H a u) : Rd H' a u := by
  rcases h with h | ⟨o, h⟩
  · exact Or.inl (e a _ h)
  · exact Or.inr ⟨o, e a _ h⟩
theorem Le.l {K : PySem.W.Frag} {H H' : Hp} (e : Le H H') {a : Addr} {xs : List V} (h : SqL K H a xs) : SqL K H' a xs := by
  rcases h with h | h
  · exact Or.inl (e.rd h)
  · exact Or.inr h
theorem Le.t {K : PySem.W.Frag} {H H' : Hp} (e : Le H H') {a : Addr} {xs : List V} (h : SqT K H a xs) : SqT K H' a xs := by
  rcases h with h | h
  · exact Or.inl (e.rd h)
  · exact Or.inr h

section
variable {K : PySem.W.Frag} {mg : Str → Option Value} {H H' : Hp}
mutual
theorem Rep.mono (e : Le H H') : ∀ {v : V} {d : Dt}, Rep K mg H v d → Rep K mg H' v d
  | _, _, .non => .non
  | _, _, .bl b => .bl b
  | _, _, .int i => .int i
  | _, _, .str x => .str x
  | _, _, .tup h r => .tup (e.t h) (RepA.mono e r)
  | _, _, .lst h r => .lst (e _ _ h) (RepA.mono e r)
  | _, _, .scr h r => .scr (e.l h) (RepA.mono e r)
  | _, _, .glob h => .glob h
  | _, _, .ty n => .ty n
  | _, _, .ins h1 h2 r => .ins h1 (e _ _ h2) (RepF.mono e r)
  | _, _, .exc h1 h2 h3 r => .exc h1 (e _ _ h2) (e _ _ h3) (RepF.mono e r)
  | _, _, .exc0 h1 h2 => .exc0 h1 (e _ _ h2)
  | _, _, .dic h r => .dic (e _ _ h) (RepK.mono e r)
theorem RepK.mono (e : Le H H') : ∀ {vs : List (Key × V)} {ds : List (Key × Dt)}, RepK K mg H vs ds → RepK K mg H' vs ds
  | _, _, .nil => .nil
  | _, _, .cons h r => .cons (Rep.mono e h) (RepK.mono e r)
theorem RepA.mono (e : Le H H') : ∀ {vs : List V} {ds : List Dt}, RepA K mg H vs ds → RepA K mg H' vs ds
  | _, _, .nil => .nil
  | _, _, .cons h r => .cons (Rep.mono e h) (RepA.mono e r)
theorem RepF.mono (e : Le H H') : ∀ {vs : List (Str × V)} {ds : List (Str × Dt)}, RepF K mg H vs ds → RepF K mg H' vs ds
  | _, _, .nil => .nil
  | _, _, .cons h r => .cons (Rep.mono e h) (RepF.mono e r)
end
theorem RepA.length : ∀ {vs : List V} {ds : List Dt}, RepA K mg H vs ds → vs.length = ds.length
  | _, _, .nil => rfl
  | _, _, .cons _ r => by rw [List.length_cons, List.length_cons, RepA.length r]
theorem RepA.get : ∀ {vs : List V} {ds : List Dt} {i : Nat} {d : Dt}, RepA K mg H vs ds → ds[i]? = some d → ∃ v, vs[i]? = some v ∧ Rep K mg H v d
  | _, _, _, _, .nil, e => by simp at e
  | _, _, 0, _, .cons r _, e => by simp at e; subst e; exact ⟨_, rfl, r⟩
  | _, _, i + 1, _, .cons _ t, e => by
    obtain ⟨v, h1, h2⟩ := RepA.get (i := i) t (by simpa using e)
    exact ⟨v, by simpa using h1, h2⟩
theorem RepA.get' : ∀ {vs : List V} {ds : List Dt} {i : Nat} {v : V}, RepA K mg H vs ds → vs[i]? = some v → ∃ d, ds[i]? = some d ∧ Rep K mg H v d
  | _, _, _, _, .nil, e => by simp at e
  | _, _, 0, _, .cons r _, e => by simp at e; subst e; exact ⟨_, rfl, r⟩
  | _, _, i + 1, _, .cons _ t, e => by
    obtain ⟨v, h1, h2⟩ := RepA.get' (i := i) t (by simpa using e)
    exact ⟨v, by simpa using h1, h2⟩
theorem RepA.append : ∀ {vs ws : List V} {ds es : List Dt}, RepA K mg H vs ds → RepA K mg H ws es → RepA K mg H (vs ++ ws) (ds ++ es)
  | _, _, _, _, .nil, s => s
  | _, _, _, _, .cons r t, s => .cons r (RepA.append t s)
theorem RepA.set {v : V} {d : Dt} (r : Rep K mg H v d) : ∀ {vs : List V} {ds : List Dt} (i : Nat), RepA K mg H vs ds → RepA K mg H (vs.set i v) (ds.set i d)
  | _, _, _, .nil => .nil
  | _, _, 0, .cons _ t => .cons r t
  | _, _, i + 1, .cons q t => .cons q (RepA.set r i t)
theorem RepA.take : ∀ {vs : List V} {ds : List Dt} (n : Nat), RepA K mg H vs ds → RepA K mg H (vs.take n) (ds.take n)
  | _, _, 0, _ => .nil
  | _, _, _ + 1, .nil => .nil
  | _, _, n + 1, .cons r t => .cons r (RepA.take n t)
theorem RepA.drop : ∀ {vs : List V} {ds : List Dt} (n : Nat), RepA K mg H vs ds → RepA K mg H (vs.drop n) (ds.drop n)
  | _, _, 0, r => r
  | _, _, _ + 1, .nil => .nil
  | _, _, n + 1, .cons _ t => RepA.drop n t
end

/-! ### a heap without some addresses -/
noncomputable def cut (L : Addr → Prop) (H : Hp) : Hp := fun a => open Classical in if L a then none else H a
theorem cut_in {L : Addr → Prop} {H : Hp} {a : Addr} (h : L a) : cut L H a = none := by unfold cut; rw [if_pos h]
theorem cut_out {L : Addr → Prop} {H : Hp} {a : Addr} (h : ¬ L a) : cut L H a = H a := by unfold cut; rw [if_neg h]
theorem cut_some {L : Addr → Prop} {H : Hp} {a : Addr} {o : HO} (h : cut L H a = some o) : ¬ L a ∧ H a = some o := by
  by_cases e : L a
  · rw [cut_in e] at h; cases h
  · rw [cut_out e] at h; exact ⟨e, h⟩
theorem cut_le (L : Addr → Prop) (H : Hp) : Le (cut L H) H := fun _ _ h => (cut_some h).2
theorem cut_sub {L L' : Addr → Prop} (H : Hp) (h : ∀ a, L' a → L a) : Le (cut L H) (cut L' H) := fun a o e => by
  obtain ⟨e1, e2⟩ := cut_some e
  rw [cut_out fun z => e1 (h a z)]
  exact e2
/-- what is kept outside -/
theorem cut_keep {L L' : Addr → Prop} {H H' : Hp} (h : ∀ a, L' a → H a ≠ none → L a) (k : ∀ a o, H a = some o → ¬ L a → H' a = some o) : Le (cut L H) (cut L' H') := fun a o e => by
  obtain ⟨e1, e2⟩ := cut_some e
  rw [cut_out fun z => e1 (h a z (by rw [e2]; exact fun q => nomatch q))]
  exact k a o e2 e1

/-! ### slots -/
/-- frozen (never written any more), owned (a list of ours that nobody else knows), lent by the caller (to be written, not to be kept) -/
inductive Md | fz | ow | io
abbrev Env := List (Option (Dt × Md))
abbrev Ow := Nat → Option Addr
def gs (env : Env) (i : Nat) : Option (Dt × Md) := (env[i]?).getD none
def gv (σ : St) (i : Nat) : Option V := (σ[i]?).getD none
def inO (ow : Ow) (a : Addr) : Prop := ∃ i, ow i = some a
def lim (ex : Addr → Prop) (ow : Ow) (a : Addr) : Prop := ex a ∨ inO ow a

section
variable (K : PySem.W.Frag) (mg : Str → Option Value)
/-- an object of ours -/
def OwnR (G : Hp) (o : HO) (d : Dt) : Prop := ∃ xs ds, o = .lst xs ∧ d = .lst ds ∧ RepA K mg G xs ds
/-- what may be read just now: frozen, or ours -/
def Rdb (G H : Hp) (v : V) (d : Dt) : Prop := Rep K mg G v d ∨ ∃ a o, v = .ref a ∧ H a = some o ∧ OwnR K mg G o d
def SlotOk (G H : Hp) : Option (Dt × Md) → Option Addr → Option V → Prop
  | none, o, _ => o = none
  | some (d, .fz), o, v => o = none ∧ ∃ x, v = some x ∧ Rep K mg G x d
  | some (d, _), o, v => ∃ a ob, o = some a ∧ v = some (.ref a) ∧ H a = some ob ∧ OwnR K mg G ob d
structure SR (ex : Addr → Prop) (env : Env) (ow : Ow) (σ : St) (H : Hp) : Prop where
  len : env.length = σ.length
  slot : ∀ i, SlotOk K mg (cut (lim ex ow) H) H (gs env i) (ow i) (gv σ i)
  inj : ∀ i j a, ow i = some a → ow j = some a → i = j
  dis : ∀ i a, ow i = some a → ¬ ex a
  tr : ∀ a, ex a → H a ≠ none
end
/-- what an expression leaves as it was -/
structure Post (env : Env) (ow : Ow) (H : Hp) (env' : Env) (ow' : Ow) (H' : Hp) : Prop where
  keep : ∀ a o, H a = some o → ¬ inO ow a → H' a = some o
  sub : ∀ i a, ow' i = some a → ow i = some a
  pin : ∀ i d, gs env i = some (d, .io) → ∃ d', gs env' i = some (d', .io)
  there : ∀ a, H a ≠ none → H' a ≠ none

/-- what an expression comes to: frozen data, a new object that nobody else knows, the object of a slot -/
inductive R | val (d : Dt) | new (d : Dt) | loc (i : Nat)
/-- an exception: its class, its attributes -/
abbrev Xn := Str × List (Str × Dt)
inductive Rs (α : Type) | ok (a : α) (env : Env) | er (x : Xn) (env : Env)
abbrev M (α : Type) := Env → Option (Rs α)
def M.pure {α : Type} (a : α) : M α := fun env => some (.ok a env)
def M.bind {α β : Type} (m : M α) (f : α → M β) : M β := fun env => match m env with
  | some (.ok a env') => f a env'
  | some (.er x env') => some (.er x env')
  | none => none

section
variable (K : PySem.W.Frag) (mg : Str → Option Value)
def ROk (ex : Addr → Prop) (env' : Env) (ow' : Ow) (σ : St) (H H' : Hp) : R → V → Prop
  | .val d, v => SR K mg ex env' ow' σ H' ∧ Rep K mg (cut (lim ex ow') H') v d
  | .new d, v => ∃ p ob, v = .ref p ∧ H p = none ∧ H' p = some ob ∧ OwnR K mg (cut (lim (fun a => ex a ∨ a = p) ow') H') ob d ∧ SR K mg (fun a => ex a ∨ a = p) env' ow' σ H'
  | .loc i, v => SR K mg ex env' ow' σ H' ∧ gv σ i = some v ∧ gs env' i ≠ none
/-- an exception as it lies -/
def XOk (G H : Hp) (x : Xn) (cls : Value) (d : Option Addr) : Prop := mg x.1 = some cls ∧ ∃ da vf, d = some da ∧ H da = some (.xd vf) ∧ RepF K mg G vf x.2
/-- what a computation on slots comes to -/
def WP {α : Type} (m : M α) (env : Env) (k : α → Env → Prop) (x : Xn → Env → Prop) : Prop := match m env with
  | some (.ok a e) => k a e
  | some (.er z e) => x z e
  | none => False
def kV (ex : Addr → Prop) (env : Env) (ow : Ow) (σ : St) (H : Hp) (Q : VK) : R → Env → Prop := fun r env' => ∀ v H' ow', Post env ow H env' ow' H' → ROk K mg ex env' ow' σ H H' r v → Q v H'
def kX (ex : Addr → Prop) (env : Env) (ow : Ow) (σ : St) (H : Hp) (E : XK) : Xn → Env → Prop := fun x env' => ∀ cls d H' ow', Post env ow H env' ow' H' → SR K mg ex env' ow' σ H' → XOk K mg (cut (lim ex ow') H') H' x cls d → E cls d H'
def kB (ex : Addr → Prop) (env : Env) (ow : Ow) (σ : St) (H : Hp) (Q : Bool → Hp → Prop) : Bool → Env → Prop := fun r env' => ∀ H' ow', Post env ow H env' ow' H' → SR K mg ex env' ow' σ H' → Q r H'
/-- expressions -/
def tM (E : XK) (m : M R) : TE := fun σ H Q => ∃ ex env ow, SR K mg ex env ow σ H ∧ WP m env (kV K mg ex env ow σ H Q) (kX K mg ex env ow σ H E)
/-- tests -/
def tMb (E : XK) (m : M Bool) : TT := fun σ H Q => ∃ ex env ow, SR K mg ex env ow σ H ∧ WP m env (kB K mg ex env ow σ H Q) (kX K mg ex env ow σ H E)
end
theorem WP.mono {α : Type} {m : M α} {env : Env} {k k' : α → Env → Prop} {x x' : Xn → Env → Prop} (h : WP m env k x) (h1 : ∀ a e, k a e → k' a e) (h2 : ∀ z e, x z e → x' z e) : WP m env k' x' := by
  unfold WP at *
  cases e : m env with
  | none => rw [e] at h; exact h
  | some r =>
    rw [e] at h
    cases r with
    | ok a e' => exact h1 a e' h
    | er z e' => exact h2 z e' h
theorem WP.bind {α β : Type} {m : M α} {f : α → M β} {env : Env} {k : β → Env → Prop} {x : Xn → Env → Prop} : WP (m.bind f) env k x ↔ WP m env (fun a e => WP (f a) e k x) x := by
  unfold WP M.bind
  cases e : m env with
  | none => exact Iff.rfl
  | some r =>
    cases r with
    | ok a e' => exact Iff.rfl
    | er z e' => exact Iff.rfl
theorem WP.pure {α : Type} {a : α} {env : Env} {k : α → Env → Prop} {x : Xn → Env → Prop} : WP (M.pure a) env k x ↔ k a env := Iff.rfl
end DL

/-! DLb: the glue: states go on, results are held, operations on data. -/
namespace DL
open PySem L2

theorem PE.weak {X : Cx} {e : Expr} {t t' : TE} (h : PE X e t) (w : ∀ σ H Q, t' σ H Q → t σ H Q) : PE X e t' := ⟨fun pins s σ H Q I q => h.run pins s σ H Q I (w σ H Q q)⟩
theorem PT.weak {X : Cx} {e : Expr} {t t' : TT} (h : PT X e t) (w : ∀ σ H Q, t' σ H Q → t σ H Q) : PT X e t' := ⟨fun pins s σ H Q I q => h.run pins s σ H Q I (w σ H Q q)⟩
theorem PA.weak {X : Cx} {es : List Expr} {t t' : TA} (h : PA X es t) (w : ∀ σ H Q, t' σ H Q → t σ H Q) : PA X es t' := ⟨fun pos pins s σ H Q I q => h.run pos pins s σ H Q I (w σ H Q q)⟩
theorem PS.weak {X : Cx} {st : Stmt} {t t' : TS} (h : PS X st t) (w : ∀ D σ H, t' D σ H → t D σ H) : PS X st t' := ⟨fun pins s σ H D I q => h.run pins s σ H D I (w D σ H q)⟩
theorem PSs.weak {X : Cx} {st : List Stmt} {t t' : TS} (h : PSs X st t) (w : ∀ D σ H, t' D σ H → t D σ H) : PSs X st t' := ⟨fun pins s σ H D I q => h.run pins s σ H D I (w D σ H q)⟩

section
variable {K : PySem.W.Frag} {mg : Str → Option Value} {ex ex' : Addr → Prop} {env env' env'' : Env} {ow ow' ow'' : Ow} {σ : St} {H H' H'' : Hp}

theorem OwnR.mono (e : Le H H') {o : HO} {d : Dt} : OwnR K mg H o d → OwnR K mg H' o d := fun ⟨xs, ds, e1, e2, r⟩ => ⟨xs, ds, e1, e2, r.mono e⟩
theorem SlotOk.mono {G G' : Hp} (e : Le G G') (k : ∀ a o, H a = some o → H' a = some o) : ∀ {s : Option (Dt × Md)} {o : Option Addr} {v : Option V}, SlotOk K mg G H s o v → SlotOk K mg G' H' s o v
  | none, _, _, h => h
  | some (d, .fz), _, _, ⟨h1, x, h2, r⟩ => ⟨h1, x, h2, r.mono e⟩
  | some (d, .ow), _, _, ⟨a, ob, h1, h2, h3, r⟩ => ⟨a, ob, h1, h2, k _ _ h3, r.mono e⟩
  | some (d, .io), _, _, ⟨a, ob, h1, h2, h3, r⟩ => ⟨a, ob, h1, h2, k _ _ h3, r.mono e⟩
theorem SlotOk.own {G : Hp} : ∀ {s : Option (Dt × Md)} {a : Addr} {v : Option V}, SlotOk K mg G H s (some a) v → ∃ d m ob, s = some (d, m) ∧ v = some (.ref a) ∧ H a = some ob ∧ OwnR K mg G ob d ∧ (m = .ow ∨ m = .io)
  | none, _, _, h => nomatch h
  | some (d, .fz), _, _, ⟨h1, _⟩ => nomatch h1
  | some (d, .ow), _, _, ⟨a, ob, h1, h2, h3, r⟩ => by cases h1; exact ⟨d, .ow, ob, rfl, h2, h3, r, .inl rfl⟩
  | some (d, .io), _, _, ⟨a, ob, h1, h2, h3, r⟩ => by cases h1; exact ⟨d, .io, ob, rfl, h2, h3, r, .inr rfl⟩
/-- an owned address is there -/
theorem SR.there (S : SR K mg ex env ow σ H) {a : Addr} (h : lim ex ow a) : H a ≠ none := by
  rcases h with h | ⟨i, h⟩
  · exact S.tr a h
  · have q := S.slot i
    rw [h] at q
    obtain ⟨d, m, ob, _, _, e, _⟩ := q.own
    rw [e]; exact fun z => nomatch z
theorem SR.nlim (S : SR K mg ex env ow σ H) {p : Addr} (h : H p = none) : ¬ lim ex ow p := fun z => S.there z h
/-- a heap that tells more -/
theorem SR.le (S : SR K mg ex env ow σ H) (e : Le H H') : SR K mg ex env ow σ H' :=
  ⟨S.len, fun i => (S.slot i).mono (cut_keep (fun _ h _ => h) fun a o h _ => e a o h) e, S.inj, S.dis, fun a h => e.there a (S.tr a h)⟩
/-- fewer that are beside -/
theorem SR.less (S : SR K mg ex env ow σ H) (h : ∀ a, ex' a → ex a) : SR K mg ex' env ow σ H :=
  ⟨S.len, fun i => (S.slot i).mono (cut_sub H fun a z => z.elim (fun q => .inl (h a q)) .inr) (fun _ _ q => q), S.inj, fun i a e q => S.dis i a e (h a q), fun a q => S.tr a (h a q)⟩
theorem Post.refl : Post env ow H env ow H := ⟨fun _ _ h _ => h, fun _ _ h => h, fun _ d h => ⟨d, h⟩, fun _ h => h⟩
theorem Post.le (e : Le H H') : Post env ow H env ow H' := ⟨fun a o h _ => e a o h, fun _ _ h => h, fun _ d h => ⟨d, h⟩, e.there⟩
theorem Post.trans (a : Post env ow H env' ow' H') (b : Post env' ow' H' env'' ow'' H'') : Post env ow H env'' ow'' H'' :=
  ⟨fun c o h n => b.keep c o (a.keep c o h n) fun ⟨i, z⟩ => n ⟨i, a.sub i c z⟩, fun i c h => a.sub i c (b.sub i c h), fun i d h => let ⟨d', h'⟩ := a.pin i d h; b.pin i d' h', fun c h => b.there c (a.there c h)⟩
theorem Post.cut (S : SR K mg ex env ow σ H) (P : Post env ow H env' ow' H') : Le (cut (lim ex ow) H) (cut (lim ex ow') H') :=
  cut_keep (fun a h _ => h.elim .inl fun ⟨i, z⟩ => .inr ⟨i, P.sub i a z⟩) fun a o h n => P.keep a o h fun z => n (.inr z)
/-! ### a result that is held while the rest is asked -/
def Held (K : PySem.W.Frag) (mg : Str → Option Value) (ex : Addr → Prop) (ow : Ow) (σ : St) (H : Hp) : R → V → Prop
  | .val d, v => Rep K mg (cut (lim ex ow) H) v d
  | .new d, v => Rep K mg (cut (lim ex ow) H) v d
  | .loc i, v => gv σ i = some v
def rs (env : Env) : R → Option Dt
  | .val d => some d
  | .new d => some d
  | .loc i => (gs env i).map (·.1)
theorem own_rep {p : Addr} {ob : HO} {d : Dt} (h : H p = some ob) (r : OwnR K mg H ob d) : Rep K mg H (.ref p) d := by
  obtain ⟨xs, ds, e1, e2, r⟩ := r
  subst e1; subst e2
  exact .lst h r
theorem ROk.sr {r : R} {v : V} {H0 : Hp} (h : ROk K mg ex env ow σ H0 H r v) : SR K mg ex env ow σ H := by
  cases r with
  | val d => exact h.1
  | new d =>
    obtain ⟨p, ob, _, _, _, _, S⟩ := h
    exact S.less fun a z => .inl z
  | loc i => exact h.1
theorem ROk.held {r : R} {v : V} {H0 : Hp} (tr : ∀ a, ex a → H0 a ≠ none) (h : ROk K mg ex env ow σ H0 H r v) : Held K mg ex ow σ H r v := by
  cases r with
  | val d => exact h.2
  | new d =>
    obtain ⟨p, ob, e, hp, hp', r, S⟩ := h
    subst e
    have np : ¬ lim ex ow p := fun z => z.elim (fun q => tr p q hp) fun ⟨i, q⟩ => S.dis i p q (.inr rfl)
    exact own_rep (by rw [cut_out np]; exact hp') (r.mono (cut_sub H fun a z => z.elim (fun q => .inl (.inl q)) .inr))
  | loc i => exact h.2.1
theorem Held.post (S : SR K mg ex env ow σ H) (P : Post env ow H env' ow' H') {r : R} {v : V} (h : Held K mg ex ow σ H r v) : Held K mg ex ow' σ H' r v := by
  cases r with
  | val d => exact Rep.mono (P.cut S) h
  | new d => exact Rep.mono (P.cut S) h
  | loc i => exact h
theorem Held.rdb (S : SR K mg ex env ow σ H) {r : R} {v : V} {d : Dt} (h : Held K mg ex ow σ H r v) (e : rs env r = some d) : Rdb K mg (cut (lim ex ow) H) H v d := by
  cases r with
  | val d' => cases e; exact .inl h
  | new d' => cases e; exact .inl h
  | loc i =>
    have q := S.slot i
    have hv : gv σ i = some v := h
    have e' : (gs env i).map (·.1) = some d := e
    rw [hv] at q
    cases z : gs env i with
    | none => rw [z] at e'; cases e'
    | some y =>
      obtain ⟨d', m⟩ := y
      rw [z] at e' q
      cases e'
      cases m with
      | fz => obtain ⟨_, x, e1, r⟩ := q; cases e1; exact .inl r
      | ow => obtain ⟨a, ob, _, e1, e2, r⟩ := q; cases e1; exact .inr ⟨a, ob, rfl, e2, r⟩
      | io => obtain ⟨a, ob, _, e1, e2, r⟩ := q; cases e1; exact .inr ⟨a, ob, rfl, e2, r⟩
/-- what may be read: a list, its items frozen -/
theorem Rdb.lst {L : Addr → Prop} {v : V} {ds : List Dt} (h : Rdb K mg (cut L H) H v (.lst ds)) : ∃ a xs, v = .ref a ∧ H a = some (.lst xs) ∧ RepA K mg (cut L H) xs ds := by
  rcases h with h | ⟨a, ob, e, ha, xs, ds', e1, e2, r⟩
  · cases h with
    | lst h r => exact ⟨_, _, rfl, cut_le L H _ _ h, r⟩
  · cases e2; subst e1
    exact ⟨a, xs, e, ha, r⟩
theorem Rdb.scr {L : Addr → Prop} {v : V} {ds : List Dt} (h : Rdb K mg (cut L H) H v (.scr ds)) : ∃ a xs, v = .ref a ∧ SqL K H a xs ∧ RepA K mg (cut L H) xs ds := by
  rcases h with h | ⟨a, ob, e, ha, xs, ds', e1, e2, r⟩
  · cases h with
    | scr h r => exact ⟨_, _, rfl, (cut_le L H).l h, r⟩
  · cases e2
theorem Rdb.tup {L : Addr → Prop} {v : V} {ds : List Dt} (h : Rdb K mg (cut L H) H v (.tup ds)) : ∃ a xs, v = .ref a ∧ SqT K H a xs ∧ RepA K mg (cut L H) xs ds := by
  rcases h with h | ⟨a, ob, e, ha, xs, ds', e1, e2, r⟩
  · cases h with
    | tup h r => exact ⟨_, _, rfl, (cut_le L H).t h, r⟩
  · cases e2
theorem Rdb.int {G : Hp} {v : V} {i : Int} (h : Rdb K mg G H v (.int i)) : v = .int i := by
  rcases h with h | ⟨a, ob, e, ha, xs, ds', e1, e2, r⟩
  · cases h; rfl
  · cases e2
theorem Rdb.bl {G : Hp} {v : V} {b : Bool} (h : Rdb K mg G H v (.bl b)) : v = .bl b := by
  rcases h with h | ⟨a, ob, e, ha, xs, ds', e1, e2, r⟩
  · cases h; rfl
  · cases e2
theorem Rdb.str {G : Hp} {v : V} {b : Str} (h : Rdb K mg G H v (.str b)) : v = .str b := by
  rcases h with h | ⟨a, ob, e, ha, xs, ds', e1, e2, r⟩
  · cases h; rfl
  · cases e2
theorem Rdb.non {G : Hp} {v : V} (h : Rdb K mg G H v .non) : v = .non := by
  rcases h with h | ⟨a, ob, e, ha, xs, ds', e1, e2, r⟩
  · cases h; rfl
  · cases e2
/-- readable as a whole (over the heap as it is) -/
theorem Rdb.rep {L : Addr → Prop} {v : V} {d : Dt} (h : Rdb K mg (cut L H) H v d) : Rep K mg H v d := by
  rcases h with h | ⟨a, ob, e, ha, r⟩
  · exact h.mono (cut_le L H)
  · subst e
    exact own_rep ha (r.mono (cut_le L H))

/-! ### operations on data -/
def RvOk (K : PySem.W.Frag) (mg : Str → Option Value) (L : Addr → Prop) (H H' : Hp) : R → V → Prop
  | .val d, v => Rep K mg (cut L H') v d
  | .new d, v => ∃ p ob, v = .ref p ∧ H p = none ∧ H' p = some ob ∧ OwnR K mg (cut (fun a => L a ∨ a = p) H') ob d
  | .loc _, _ => False
def OpS (K : PySem.W.Frag) (mg : Str → Option Value) (r : R2) (g : Dt → Dt → Option R) : Prop :=
  ∀ (L : Addr → Prop) (H : Hp) (x y : V) (dx dy : Dt) (rv : R) (Q : VK), (∀ a, L a → H a ≠ none) → Rdb K mg (cut L H) H x dx → Rdb K mg (cut L H) H y dy → g dx dy = some rv →
    (∀ v H', Le H H' → RvOk K mg L H H' rv v → Q v H') → r x y H Q
def UnS (K : PySem.W.Frag) (mg : Str → Option Value) (r : V → Hp → VK → Prop) (g : Dt → Option R) : Prop :=
  ∀ (L : Addr → Prop) (H : Hp) (x : V) (dx : Dt) (rv : R) (Q : VK), (∀ a, L a → H a ≠ none) → Rdb K mg (cut L H) H x dx → g dx = some rv → (∀ v H', Le H H' → RvOk K mg L H H' rv v → Q v H') → r x H Q
def RdA (K : PySem.W.Frag) (mg : Str → Option Value) (G H : Hp) : List V → List Dt → Prop := Paired (Rdb K mg G H)
def CallS (K : PySem.W.Frag) (mg : Str → Option Value) (r : List V → Hp → VK → Prop) (g : List Dt → Option R) : Prop :=
  ∀ (L : Addr → Prop) (H : Hp) (xs : List V) (ds : List Dt) (rv : R) (Q : VK), (∀ a, L a → H a ≠ none) → RdA K mg (cut L H) H xs ds → g ds = some rv → (∀ v H', Le H H' → RvOk K mg L H H' rv v → Q v H') → r xs H Q
/-- behind an operation -/
theorem op_back {H0 : Hp} {env0 : Env} {ow0 : Ow} (S0 : SR K mg ex env0 ow0 σ H0) (P : Post env0 ow0 H0 env ow H) (S : SR K mg ex env ow σ H) {rv : R} {v : V} (e : Le H H') (h : RvOk K mg (lim ex ow) H H' rv v) :
    Post env0 ow0 H0 env ow H' ∧ ROk K mg ex env ow σ H0 H' rv v := by
  refine ⟨P.trans (.le e), ?_⟩
  cases rv with
  | val d => exact ⟨S.le e, h⟩
  | new d =>
    obtain ⟨p, ob, e1, e2, e3, r⟩ := h
    have np := S.nlim e2
    refine ⟨p, ob, e1, ?_, e3, r.mono (cut_sub H' fun a z => ?_), ?_⟩
    · cases z : H0 p with
      | none => rfl
      | some o => exact absurd e2 (P.there p (by rw [z]; exact fun q => nomatch q))
    · rcases z with (z | z) | z
      · exact .inl (.inl z)
      · exact .inr z
      · exact .inl (.inr z)
    · refine ⟨S.len, fun i => (S.slot i).mono (cut_keep (fun a h n => ?_) fun a o h _ => e a o h) e, S.inj, fun i a q z => ?_, fun a z => ?_⟩
      · rcases h with (h | h) | h
        · exact .inl h
        · subst h; exact absurd e2 n
        · exact .inr h
      · rcases z with z | z
        · exact S.dis i a q z
        · subst z; exact np (.inr ⟨i, q⟩)
      · rcases z with z | z
        · exact (S.le e).tr a z
        · subst z; rw [e3]; exact fun q => nomatch q
  | loc i => exact h.elim
end
end DL

/-! DLc: the rules for expressions. -/
namespace DL
open PySem L2

/-- the data of results, as they are now -/
def use1 (g : Dt → Option R) (r : R) : M R := fun env => match rs env r with
  | some d => match g d with
    | some rv => some (.ok rv env)
    | none => none
  | none => none
def use2 (g : Dt → Dt → Option R) (r1 r2 : R) : M R := fun env => match rs env r1, rs env r2 with
  | some d1, some d2 => match g d1 d2 with
    | some rv => some (.ok rv env)
    | none => none
  | _, _ => none
def rsA (env : Env) : List R → Option (List Dt)
  | [] => some []
  | r :: l => match rs env r, rsA env l with
    | some d, some ds => some (d :: ds)
    | _, _ => none
def useA (g : List Dt → Option R) (l : List R) : M R := fun env => match rsA env l with
  | some ds => match g ds with
    | some rv => some (.ok rv env)
    | none => none
  | none => none
theorem WP.use1 {g : Dt → Option R} {r : R} {env : Env} {k : R → Env → Prop} {x : Xn → Env → Prop} (h : WP (use1 g r) env k x) : ∃ d rv, rs env r = some d ∧ g d = some rv ∧ k rv env := by
  unfold WP DL.use1 at h
  cases e : rs env r with
  | none => rw [e] at h; exact h.elim
  | some d =>
    rw [e] at h
    cases e2 : g d with
    | none => simp only [e2] at h
    | some rv => simp only [e2] at h; exact ⟨d, rv, rfl, e2, h⟩
theorem WP.use2 {g : Dt → Dt → Option R} {r1 r2 : R} {env : Env} {k : R → Env → Prop} {x : Xn → Env → Prop} (h : WP (use2 g r1 r2) env k x) : ∃ d1 d2 rv, rs env r1 = some d1 ∧ rs env r2 = some d2 ∧ g d1 d2 = some rv ∧ k rv env := by
  unfold WP DL.use2 at h
  cases e : rs env r1 with
  | none => rw [e] at h; exact h.elim
  | some d1 =>
    cases f : rs env r2 with
    | none => rw [e, f] at h; exact h.elim
    | some d2 =>
      rw [e, f] at h
      cases e2 : g d1 d2 with
      | none => simp only [e2] at h
      | some rv => simp only [e2] at h; exact ⟨d1, d2, rv, rfl, rfl, e2, h⟩
theorem WP.useA {g : List Dt → Option R} {l : List R} {env : Env} {k : R → Env → Prop} {x : Xn → Env → Prop} (h : WP (useA g l) env k x) : ∃ ds rv, rsA env l = some ds ∧ g ds = some rv ∧ k rv env := by
  unfold WP DL.useA at h
  cases e : rsA env l with
  | none => rw [e] at h; exact h.elim
  | some d =>
    rw [e] at h
    cases e2 : g d with
    | none => simp only [e2] at h
    | some rv => simp only [e2] at h; exact ⟨d, rv, rfl, e2, h⟩

def mC (d : Dt) : M R := M.pure (.val d)
def mN (i : Nat) : M R := fun env => match gs env i with
  | some (d, .fz) => some (.ok (.val d) env)
  | some _ => some (.ok (.loc i) env)
  | none => none
def mOp (g : Dt → Dt → Option R) (ma mb : M R) : M R := ma.bind fun ra => mb.bind fun rb => use2 g ra rb
def mUn (g : Dt → Option R) (ma : M R) : M R := ma.bind fun ra => use1 g ra
def mA (l : List (M R)) : M (List R) := match l with
  | [] => M.pure []
  | m :: r => m.bind fun a => (mA r).bind fun b => M.pure (a :: b)
def mCall (g : List Dt → Option R) (l : List (M R)) : M R := (mA l).bind fun rs => useA g rs
def mIf (t : M Bool) (a b : M R) : M R := t.bind fun c => if c then a else b
def mAnd (a b : M Bool) : M Bool := a.bind fun c => if c then b else M.pure false
def mOr (a b : M Bool) : M Bool := a.bind fun c => if c then M.pure true else b
def mNot (a : M Bool) : M Bool := a.bind fun c => M.pure (!c)
/-- a value as a test, a test as a value -/
def useT (r : R) : M Bool := fun env => match rs env r with
  | some (.bl b) => some (.ok b env)
  | _ => none
def mT (m : M R) : M Bool := m.bind useT
def mV (m : M Bool) : M R := m.bind fun b => M.pure (.val (.bl b))
/-- truth of data -/
def tru : Dt → Option Bool
  | .non => some false
  | .bl b => some b
  | .int i => some (i != 0)
  | .str s => if s.length ≤ 100000 then some (s.length != 0) else none
  | .tup xs => some (!xs.isEmpty)
  | .lst xs => some (!xs.isEmpty)
  | .scr xs => some (!xs.isEmpty)
  | _ => none
def useTru (r : R) : M Bool := fun env => match rs env r with
  | some d => match tru d with
    | some b => some (.ok b env)
    | none => none
  | none => none
def mTru (m : M R) : M Bool := m.bind useTru
theorem WP.useT {r : R} {env : Env} {k : Bool → Env → Prop} {x : Xn → Env → Prop} (h : WP (useT r) env k x) : ∃ b, rs env r = some (.bl b) ∧ k b env := by
  unfold WP DL.useT at h
  cases e : rs env r with
  | none => simp only [e] at h
  | some d =>
    cases d with
    | bl b => simp only [e] at h; exact ⟨b, rfl, h⟩
    | _ => simp only [e] at h
theorem WP.useTru {r : R} {env : Env} {k : Bool → Env → Prop} {x : Xn → Env → Prop} (h : WP (useTru r) env k x) : ∃ d b, rs env r = some d ∧ tru d = some b ∧ k b env := by
  unfold WP DL.useTru at h
  cases e : rs env r with
  | none => simp only [e] at h
  | some d =>
    cases e2 : tru d with
    | none => simp only [e, e2] at h
    | some b => simp only [e, e2] at h; exact ⟨d, b, rfl, e2, h⟩

section
variable {K : PySem.W.Frag} {mg : Str → Option Value} {ex ex' : Addr → Prop} {env env' env'' : Env} {ow ow' ow'' : Ow} {σ : St} {H H' H'' : Hp} {E : XK}
theorem kX.go (P : Post env ow H env' ow' H') {x : Xn} {e : Env} (h : kX K mg ex env ow σ H E x e) : kX K mg ex env' ow' σ H' E x e := fun cls d H1 ow1 P1 S1 X1 => h cls d H1 ow1 (P.trans P1) S1 X1
/-- a value that is handed on -/
theorem kV.val {Q : VK} {d : Dt} {v : V} (S : SR K mg ex env ow σ H) (h : kV K mg ex env ow σ H Q (.val d) env) (r : Rep K mg (cut (lim ex ow) H) v d) : Q v H := h v H ow .refl ⟨S, r⟩
/-- behind an operation on held results -/
theorem kV.op {H0 : Hp} {env0 : Env} {ow0 : Ow} {Q : VK} {rv : R} {v : V} (S0 : SR K mg ex env0 ow0 σ H0) (P : Post env0 ow0 H0 env ow H) (S : SR K mg ex env ow σ H) (h : kV K mg ex env0 ow0 σ H0 Q rv env) (e : Le H H') (q : RvOk K mg (lim ex ow) H H' rv v) : Q v H' := by
  obtain ⟨p1, p2⟩ := op_back S0 P S e q
  exact h v H' ow p1 p2
theorem rsA_rdb (S : SR K mg ex env ow σ H) : ∀ {l : List R} {vs : List V} {ds : List Dt}, Paired (Held K mg ex ow σ H) l vs → rsA env l = some ds → RdA K mg (cut (lim ex ow) H) H vs ds
  | _, _, _, .nil, e => by cases e; exact .nil
  | r :: l, v :: vs, ds, .cons h t, e => by
    unfold rsA at e
    cases e1 : rs env r with
    | none => rw [e1] at e; cases e
    | some d =>
      cases e2 : rsA env l with
      | none => rw [e1, e2] at e; cases e
      | some ds' =>
        rw [e1, e2] at e
        cases e
        exact .cons (h.rdb S e1) (rsA_rdb S t e2)
/-- lists of arguments -/
def kA (K : PySem.W.Frag) (mg : Str → Option Value) (ex : Addr → Prop) (env : Env) (ow : Ow) (σ : St) (H : Hp) (Q : List V → Hp → Prop) : List R → Env → Prop := fun l env' => ∀ vs H' ow', Post env ow H env' ow' H' → SR K mg ex env' ow' σ H' → Paired (Held K mg ex ow' σ H') l vs → Q vs H'
def tMa (K : PySem.W.Frag) (mg : Str → Option Value) (E : XK) (m : M (List R)) : TA := fun σ H Q => ∃ ex env ow, SR K mg ex env ow σ H ∧ WP m env (kA K mg ex env ow σ H Q) (kX K mg ex env ow σ H E)
theorem Held.postA (S : SR K mg ex env ow σ H) (P : Post env ow H env' ow' H') : ∀ {l : List R} {vs : List V}, Paired (Held K mg ex ow σ H) l vs → Paired (Held K mg ex ow' σ H') l vs
  | _, _, .nil => .nil
  | _, _, .cons h t => .cons (Held.post S P h) (Held.postA S P t)
end

section
variable {X : Cx} {E : XK} {a b c : Expr} {es : List Expr} {pos : Pos} {ma mb : M R} {mt : M Bool} {ml : List (M R)}
abbrev DE (X : Cx) (E : XK) (e : Expr) (m : M R) : Prop := PE X e (tM X.K X.mg E m)
abbrev DT (X : Cx) (E : XK) (e : Expr) (m : M Bool) : Prop := PT X e (tMb X.K X.mg E m)
abbrev DA (X : Cx) (E : XK) (es : List Expr) (l : List (M R)) : Prop := PA X es (tMa X.K X.mg E (mA l))

theorem dc {d : Dt} {v : V} {e : Expr} (h : PE X e (tC v)) (r : ∀ H, Rep X.K X.mg H v d) : DE X E e (mC d) := PE.weak h fun σ H Q ⟨ex, env, ow, S, w⟩ => kV.val S (WP.pure.mp w) (r _)
theorem dc_int {i : Int} {j : Nat} : DE X E (.Constant (.int i) j pos) (mC (.int i)) := dc pe_int fun _ => .int i
theorem dc_bl {i : Bool} {j : Nat} : DE X E (.Constant (.bool i) j pos) (mC (.bl i)) := dc pe_bl fun _ => .bl i
theorem dc_non {j : Nat} : DE X E (.Constant .none j pos) (mC .non) := dc pe_non fun _ => .non
theorem dc_str {i : Str} {j : Nat} : DE X E (.Constant (.str i) j pos) (mC (.str i)) := dc pe_str fun _ => .str i
theorem gv_some {σ : St} {i : Nat} {v : V} (h : gv σ i = some v) : σ[i]? = some (some v) := by
  unfold gv at h
  cases e : σ[i]? with
  | none => rw [e] at h; cases h
  | some y => rw [e] at h; cases h; rfl
theorem dn {i : Nat} {e : Expr} (h : PE X e (tVar i)) : DE X E e (mN i) := PE.weak h fun σ H Q ⟨ex, env, ow, S, w⟩ => by
  have q := S.slot i
  unfold WP mN at w
  cases z : gs env i with
  | none => rw [z] at w; exact w.elim
  | some y =>
    obtain ⟨d, m⟩ := y
    rw [z] at w q
    cases m with
    | fz =>
      obtain ⟨_, x, e1, r⟩ := q
      exact ⟨x, gv_some e1, w x H ow .refl ⟨S, r⟩⟩
    | ow =>
      obtain ⟨a, ob, _, e1, e2, r⟩ := q
      exact ⟨_, gv_some e1, w _ H ow .refl ⟨S, e1, by rw [z]; exact fun q => nomatch q⟩⟩
    | io =>
      obtain ⟨a, ob, _, e1, e2, r⟩ := q
      exact ⟨_, gv_some e1, w _ H ow .refl ⟨S, e1, by rw [z]; exact fun q => nomatch q⟩⟩

/-- two places -/
theorem t_op {K : PySem.W.Frag} {mg : Str → Option Value} {r : R2} {g : Dt → Dt → Option R} (hg : OpS K mg r g) (σ : St) (H : Hp) (Q : VK) (h : tM K mg E (mOp g ma mb) σ H Q) : tOp r (tM K mg E ma) (tM K mg E mb) σ H Q := by
  obtain ⟨ex, env, ow, S, w⟩ := h
  refine ⟨ex, env, ow, S, (WP.bind.mp w).mono (fun ra env1 w1 v1 H1 ow1 P1 R1 => ?_) fun _ _ z => z⟩
  refine ⟨ex, env1, ow1, R1.sr, (WP.bind.mp w1).mono (fun rb env2 w2 v2 H2 ow2 P2 R2 => ?_) fun _ _ z => z.go P1⟩
  obtain ⟨d1, d2, rv, e1, e2, e3, k⟩ := w2.use2
  have S2 := R2.sr
  have h1 := (R1.held S.tr).post R1.sr P2
  have h2 := R2.held R1.sr.tr
  exact hg (lim ex ow2) H2 v1 v2 d1 d2 rv Q (fun a z => S2.there z) (h1.rdb S2 e1) (h2.rdb S2 e2) e3 fun v H' l q => kV.op S (P1.trans P2) S2 k l q
theorem t_un {K : PySem.W.Frag} {mg : Str → Option Value} {r : V → Hp → VK → Prop} {g : Dt → Option R} (hg : UnS K mg r g) (σ : St) (H : Hp) (Q : VK) (h : tM K mg E (mUn g ma) σ H Q) : tUn r (tM K mg E ma) σ H Q := by
  obtain ⟨ex, env, ow, S, w⟩ := h
  refine ⟨ex, env, ow, S, (WP.bind.mp w).mono (fun ra env1 w1 v1 H1 ow1 P1 R1 => ?_) fun _ _ z => z⟩
  obtain ⟨d1, rv, e1, e3, k⟩ := w1.use1
  exact hg (lim ex ow1) H1 v1 d1 rv Q (fun a z => R1.sr.there z) ((R1.held S.tr).rdb R1.sr e1) e3 fun v H' l q => kV.op S P1 R1.sr k l q
theorem t_cb {K : PySem.W.Frag} {mg : Str → Option Value} {r : List V → Hp → VK → Prop} {g : List Dt → Option R} (hg : CallS K mg r g) (σ : St) (H : Hp) (Q : VK) (h : tM K mg E (mCall g ml) σ H Q) : tCB r (tMa K mg E (mA ml)) σ H Q := by
  obtain ⟨ex, env, ow, S, w⟩ := h
  refine ⟨ex, env, ow, S, (WP.bind.mp w).mono (fun l env1 w1 vs H1 ow1 P1 S1 hh => ?_) fun _ _ z => z⟩
  obtain ⟨ds, rv, e1, e3, k⟩ := w1.useA
  exact hg (lim ex ow1) H1 vs ds rv Q (fun a z => S1.there z) (rsA_rdb S1 hh e1) e3 fun v H' l q => kV.op S P1 S1 k l q
theorem da_nil : DA X E [] [] := PA.weak pa_nil fun σ H Q ⟨ex, env, ow, S, w⟩ => w [] H ow .refl S .nil
theorem da_cons (ha : DE X E a ma) (hr : DA X E es ml) (hs : starEach (a :: es) X.env = (false, eval a X.env) :: starEach es X.env := by rfl) : DA X E (a :: es) (ma :: ml) := PA.weak (pa_cons ha hr hs) fun σ H Q ⟨ex, env, ow, S, w⟩ => by
  refine ⟨ex, env, ow, S, (WP.bind.mp w).mono (fun ra env1 w1 v1 H1 ow1 P1 R1 => ?_) fun _ _ z => z⟩
  refine ⟨ex, env1, ow1, R1.sr, (WP.bind.mp w1).mono (fun l env2 w2 vs H2 ow2 P2 S2 hh => ?_) fun _ _ z => z.go P1⟩
  exact w2 (v1 :: vs) H2 ow2 (P1.trans P2) S2 (.cons ((R1.held S.tr).post R1.sr P2) hh)

theorem d_op {op : Operator} {r : R2} {g : Dt → Dt → Option R} (ho : OpR X (binaryOp op) r) (hg : OpS X.K X.mg r g) (ha : DE X E a ma) (hb : DE X E b mb) : DE X E (.BinOp a op b pos) (mOp g ma mb) := PE.weak (pe_op ho ha hb) (t_op hg)
theorem d_un {op : UnaryOp} {r : V → Hp → VK → Prop} {g : Dt → Option R} (ho : UnR X (unaryOp op) r) (hg : UnS X.K X.mg r g) (ha : DE X E a ma) : DE X E (.UnaryOp op a pos) (mUn g ma) := PE.weak (pe_un ho ha) (t_un hg)
theorem d_cmp {op : CmpOp} {r : R2} {g : Dt → Dt → Option R} (ho : OpR X (compareOp op) r) (hg : OpS X.K X.mg r g) (ha : DE X E a ma) (hb : DE X E b mb) (hm : behindInMarks op b = false) : DE X E (.Compare a [op] [b] pos) (mOp g ma mb) := PE.weak (pe_cmpR ho ha hb hm) (t_op hg)
/-- a value as a test -/
theorem t_T {K : PySem.W.Frag} {mg : Str → Option Value} (σ : St) (H : Hp) (Q : Bool → Hp → Prop) (h : tMb K mg E (mT ma) σ H Q) : tTest (tM K mg E ma) σ H Q := by
  obtain ⟨ex, env, ow, S, w⟩ := h
  refine ⟨ex, env, ow, S, (WP.bind.mp w).mono (fun ra env1 w1 v1 H1 ow1 P1 R1 => ?_) fun _ _ z => z⟩
  obtain ⟨b, e, k⟩ := w1.useT
  exact ⟨b, ((R1.held S.tr).rdb R1.sr e).bl, k H1 ow1 P1 R1.sr⟩
theorem d_test {op : CmpOp} {r : R2} {g : Dt → Dt → Option R} (ho : OpR X (compareOp op) r) (hg : OpS X.K X.mg r g) (ha : DE X E a ma) (hb : DE X E b mb) (hm : behindInMarks op b = false) : DT X E (.Compare a [op] [b] pos) (mT (mOp g ma mb)) :=
  PT.weak (pt_cmpR ho ha hb hm) fun σ H Q h => by
    obtain ⟨ex, env, ow, S, w⟩ := t_T σ H Q h
    exact t_op hg σ H _ ⟨ex, env, ow, S, w⟩
theorem d_val (ha : DE X E a ma) (he : ∀ whole, isTrue a X.env whole = (do let v ← whole; standAt a.pos; holding [v] (truthy v)) := by intro _; rfl) : DT X E a (mT ma) := PT.weak (pt_val ha he) fun σ H Q h => t_T σ H Q h
theorem tru_ok' {K : PySem.W.Frag} {mg : Str → Option Value} {L : Addr → Prop} {H : Hp} {v : V} {d : Dt} {b : Bool} (r : Rdb K mg (cut L H) H v d) (h : tru d = some b) : TruV K v H b := by
  have q := r.rep
  cases d with
  | non => cases q; cases h; rfl
  | bl i => cases q; cases h; rfl
  | int i => cases q; cases h; rfl
  | str s =>
    cases q
    have h' : (if s.length ≤ 100000 then some (s.length != 0) else none) = some b := h
    by_cases hs : s.length ≤ 100000
    · rw [if_pos hs] at h'
      cases h'
      refine ⟨Nat.le_trans hs (by decide), ?_⟩
      rw [Bool.eq_iff_iff]; simp
    · rw [if_neg hs] at h'; cases h'
  | tup xs =>
    cases h
    cases q with
    | tup h1 h2 =>
      refine .inr (.inl ⟨_, h1, ?_⟩)
      cases h2 <;> rfl
  | lst xs =>
    cases h
    cases q with
    | lst h1 h2 =>
      refine .inl ⟨_, SqL.of h1, ?_⟩
      cases h2 <;> rfl
  | scr xs =>
    cases h
    cases q with
    | scr h1 h2 =>
      refine .inl ⟨_, h1, ?_⟩
      cases h2 <;> rfl
  | glob x => cases h
  | ins c fs => cases h
  | exc c fs => cases h
  | exc0 c => cases h
  | dic fs => cases h
  | ty n => cases h
theorem d_tru (ha : DE X E a ma) (he : ∀ whole, isTrue a X.env whole = (do let v ← whole; standAt a.pos; holding [v] (truthy v)) := by intro _; rfl) : DT X E a (mTru ma) := PT.weak (pt_truth ha he) fun σ H Q ⟨ex, env, ow, S, w⟩ => by
  refine ⟨ex, env, ow, S, (WP.bind.mp w).mono (fun ra env1 w1 v1 H1 ow1 P1 R1 => ?_) fun _ _ z => z⟩
  obtain ⟨d, b, e, e2, k⟩ := w1.useTru
  exact ⟨b, tru_ok' ((R1.held S.tr).rdb R1.sr e) e2, k H1 ow1 P1 R1.sr⟩

/-! ### and, or, not, if -/
variable {rest : List Expr} {ta tb : M Bool}
abbrev DW (X : Cx) (E : XK) (e : Expr) (m : M Bool) : Prop := PW X e (tMb X.K X.mg E m)
theorem PW.weak {e : Expr} {t t' : TT} (h : PW X e t) (w : ∀ σ H Q, t' σ H Q → t σ H Q) : PW X e t' := ⟨fun wh pins s σ H Q I q => h.run wh pins s σ H Q I (w σ H Q q)⟩
theorem t_and {K : PySem.W.Frag} {mg : Str → Option Value} (σ : St) (H : Hp) (Q : Bool → Hp → Prop) (h : tMb K mg E (mAnd ta tb) σ H Q) : tAnd (tMb K mg E ta) (tMb K mg E tb) σ H Q := by
  obtain ⟨ex, env, ow, S, w⟩ := h
  refine ⟨ex, env, ow, S, (WP.bind.mp w).mono (fun c env1 w1 H1 ow1 P1 S1 => ?_) fun _ _ z => z⟩
  cases c with
  | true => exact ⟨ex, env1, ow1, S1, w1.mono (fun b env2 k H2 ow2 P2 S2 => k H2 ow2 (P1.trans P2) S2) fun _ _ z => z.go P1⟩
  | false => exact w1 H1 ow1 P1 S1
theorem t_or {K : PySem.W.Frag} {mg : Str → Option Value} (σ : St) (H : Hp) (Q : Bool → Hp → Prop) (h : tMb K mg E (mOr ta tb) σ H Q) : tOr (tMb K mg E ta) (tMb K mg E tb) σ H Q := by
  obtain ⟨ex, env, ow, S, w⟩ := h
  refine ⟨ex, env, ow, S, (WP.bind.mp w).mono (fun c env1 w1 H1 ow1 P1 S1 => ?_) fun _ _ z => z⟩
  cases c with
  | false => exact ⟨ex, env1, ow1, S1, w1.mono (fun b env2 k H2 ow2 P2 S2 => k H2 ow2 (P1.trans P2) S2) fun _ _ z => z.go P1⟩
  | true => exact w1 H1 ow1 P1 S1
theorem t_not {K : PySem.W.Frag} {mg : Str → Option Value} (σ : St) (H : Hp) (Q : Bool → Hp → Prop) (h : tMb K mg E (mNot ta) σ H Q) : tNot (tMb K mg E ta) σ H Q := by
  obtain ⟨ex, env, ow, S, w⟩ := h
  exact ⟨ex, env, ow, S, (WP.bind.mp w).mono (fun c env1 w1 H1 ow1 P1 S1 => w1 H1 ow1 P1 S1) fun _ _ z => z⟩
theorem dw_and1 (ha : DT X E a ta) : DW X E (.BoolOp .And [a] pos) ta := pw_and1 ha
theorem dw_or1 (ha : DT X E a ta) : DW X E (.BoolOp .Or [a] pos) ta := pw_or1 ha
theorem dw_and (ha : DT X E a ta) (hb : DW X E (.BoolOp .And (b :: rest) pos) tb) : DW X E (.BoolOp .And (a :: b :: rest) pos) (mAnd ta tb) := PW.weak (pw_and ha hb) t_and
theorem dw_or (ha : DT X E a ta) (hb : DW X E (.BoolOp .Or (b :: rest) pos) tb) : DW X E (.BoolOp .Or (a :: b :: rest) pos) (mOr ta tb) := PW.weak (pw_or ha hb) t_or
theorem dt_w {e : Expr} (h : DW X E e ta) : DT X E e ta := PW.pt h
theorem dt_not (ha : DT X E a ta) : DT X E (.UnaryOp .Not a pos) (mNot ta) := PT.weak (pt_not ha) t_not
theorem d_ifExp {t : Expr} (ht : DT X E t mt) (ha : DE X E a ma) (hb : DE X E b mb) : DE X E (.IfExp t a b pos) (mIf mt ma mb) := PE.weak (pe_ifExp ht ha hb) fun σ H Q ⟨ex, env, ow, S, w⟩ => by
  refine ⟨ex, env, ow, S, (WP.bind.mp w).mono (fun c env1 w1 H1 ow1 P1 S1 => ?_) fun _ _ z => z⟩
  have back : ∀ {r : R} {e2 : Env}, kV X.K X.mg ex env ow σ H Q r e2 → kV X.K X.mg ex env1 ow1 σ H1 Q r e2 := fun {r e2} k v H2 ow2 P2 R2 => by
    refine k v H2 ow2 (P1.trans P2) ?_
    cases r with
    | val d => exact R2
    | new d =>
      obtain ⟨p, ob, e1, e3, e4, e5⟩ := R2
      refine ⟨p, ob, e1, ?_, e4, e5⟩
      cases z : H p with
      | none => rfl
      | some o => exact absurd e3 (P1.there p (by rw [z]; exact fun q => nomatch q))
    | loc i => exact R2
  cases c with
  | true => exact ⟨ex, env1, ow1, S1, w1.mono (fun r e2 k => back k) fun _ _ z => z.go P1⟩
  | false => exact ⟨ex, env1, ow1, S1, w1.mono (fun r e2 k => back k) fun _ _ z => z.go P1⟩
end
end DL

/-! DLd: statements: stores, blocks, returns, ifs, loops. -/
namespace DL
open PySem L2

/-- how a statement ends -/
inductive Fl | nx | rt (d : Dt) (own : Bool) | bk | ct
structure PostS (env : Env) (ow : Ow) (H : Hp) (env' : Env) (ow' : Ow) (H' : Hp) : Prop where
  keep : ∀ a o, H a = some o → ¬ inO ow a → H' a = some o
  sub : ∀ a, inO ow' a → inO ow a ∨ H a = none
  pin : ∀ i d, gs env i = some (d, .io) → (∃ d', gs env' i = some (d', .io)) ∧ ow' i = ow i
  there : ∀ a, H a ≠ none → H' a ≠ none

section
variable {K : PySem.W.Frag} {mg : Str → Option Value} {ex ex' : Addr → Prop} {env env' env'' : Env} {ow ow' ow'' : Ow} {σ σ' : St} {H H' H'' : Hp} {E : XK}
theorem PostS.refl : PostS env ow H env ow H := ⟨fun _ _ h _ => h, fun _ h => .inl h, fun _ d h => ⟨⟨d, h⟩, rfl⟩, fun _ h => h⟩
theorem PostS.trans (a : PostS env ow H env' ow' H') (b : PostS env' ow' H' env'' ow'' H'') : PostS env ow H env'' ow'' H'' where
  keep := fun c o h n => b.keep c o (a.keep c o h n) fun z => by
    rcases a.sub c z with q | q
    · exact n q
    · rw [q] at h; cases h
  sub := fun c z => by
    rcases b.sub c z with q | q
    · exact a.sub c q
    · right
      cases y : H c with
      | none => rfl
      | some o => exact absurd q (a.there c (by rw [y]; exact fun q => nomatch q))
  pin := fun i d h => by
    obtain ⟨⟨d', h'⟩, e⟩ := a.pin i d h
    obtain ⟨q, e'⟩ := b.pin i d' h'
    exact ⟨q, e'.trans e⟩
  there := fun c h => b.there c (a.there c h)
theorem Post.s (P : Post env ow H env' ow' H') (S' : SR K mg ex env' ow' σ H') : PostS env ow H env' ow' H' := ⟨P.keep, fun a ⟨i, z⟩ => .inl ⟨i, P.sub i a z⟩, fun i d h => by
  obtain ⟨d', h'⟩ := P.pin i d h
  refine ⟨⟨d', h'⟩, ?_⟩
  have q := S'.slot i
  rw [h'] at q
  obtain ⟨a, ob, e, _⟩ := q
  rw [e]
  exact (P.sub i a e).symm, P.there⟩
theorem PostS.cut (P : PostS env ow H env' ow' H') : Le (cut (lim ex ow) H) (cut (lim ex ow') H') :=
  cut_keep (fun a h n => h.elim .inl fun z => by
    rcases P.sub a z with q | q
    · exact .inr q
    · exact absurd q n) fun a o h n => P.keep a o h fun z => n (.inr z)

/-! ### what is wanted behind a statement -/
def RetOk (K : PySem.W.Frag) (mg : Str → Option Value) (ex : Addr → Prop) (ow : Ow) (H : Hp) (env' : Env) (ow' : Ow) (σ' : St) (H' : Hp) (d : Dt) : Bool → V → Prop
  | false, v => SR K mg ex env' ow' σ' H' ∧ Rep K mg (cut (lim ex ow') H') v d
  | true, v => ∃ p ob, v = .ref p ∧ (inO ow p ∨ H p = none) ∧ H' p = some ob ∧ OwnR K mg (cut (lim (fun a => ex a ∨ a = p) ow') H') ob d ∧ SR K mg (fun a => ex a ∨ a = p) env' ow' σ' H' ∧ ¬ ex p
def kF (K : PySem.W.Frag) (mg : Str → Option Value) (ex : Addr → Prop) (env : Env) (ow : Ow) (H : Hp) (D : Ends) : Fl → Env → Prop
  | .nx, env' => ∀ σ' H' ow', PostS env ow H env' ow' H' → SR K mg ex env' ow' σ' H' → D.nx σ' H'
  | .bk, env' => ∀ σ' H' ow', PostS env ow H env' ow' H' → SR K mg ex env' ow' σ' H' → D.bk σ' H'
  | .ct, env' => ∀ σ' H' ow', PostS env ow H env' ow' H' → SR K mg ex env' ow' σ' H' → D.ct σ' H'
  | .rt d own, env' => ∀ v σ' H' ow', PostS env ow H env' ow' H' → RetOk K mg ex ow H env' ow' σ' H' d own v → D.rt v H'
def kY (K : PySem.W.Frag) (mg : Str → Option Value) (ex : Addr → Prop) (env : Env) (ow : Ow) (H : Hp) (E : XK) : Xn → Env → Prop := fun x env' => ∀ cls d σ' H' ow', PostS env ow H env' ow' H' → SR K mg ex env' ow' σ' H' → XOk K mg (cut (lim ex ow') H') H' x cls d → E cls d H'
def tS (K : PySem.W.Frag) (mg : Str → Option Value) (E : XK) (m : M Fl) : TS := fun D σ H => ∃ ex env ow, SR K mg ex env ow σ H ∧ WP m env (kF K mg ex env ow H D) (kY K mg ex env ow H E)
theorem kY.go (P : PostS env ow H env' ow' H') {x : Xn} {e : Env} (h : kY K mg ex env ow H E x e) : kY K mg ex env' ow' H' E x e := fun cls d σ1 H1 ow1 P1 S1 X1 => h cls d σ1 H1 ow1 (P.trans P1) S1 X1
theorem kY.x {x : Xn} {e : Env} (h : kY K mg ex env ow H E x e) : kX K mg ex env ow σ H E x e := fun cls d H1 ow1 P1 S1 X1 => h cls d σ H1 ow1 (P1.s S1) S1 X1
theorem RetOk.go (P : PostS env ow H env' ow' H') {e2 : Env} {ow2 : Ow} {σ2 : St} {H2 : Hp} {d : Dt} {own : Bool} {v : V} (h : RetOk K mg ex ow' H' e2 ow2 σ2 H2 d own v) : RetOk K mg ex ow H e2 ow2 σ2 H2 d own v := by
  cases own with
  | false => exact h
  | true =>
    obtain ⟨p, ob, e, f, r⟩ := h
    refine ⟨p, ob, e, ?_, r⟩
    rcases f with q | q
    · exact P.sub p q
    · right
      cases y : H p with
      | none => rfl
      | some o => exact absurd q (P.there p (by rw [y]; exact fun q => nomatch q))
theorem kF.go (P : PostS env ow H env' ow' H') {D : Ends} {f : Fl} {e : Env} (h : kF K mg ex env ow H D f e) : kF K mg ex env' ow' H' D f e := by
  cases f with
  | nx => exact fun σ1 H1 ow1 P1 S1 => h σ1 H1 ow1 (P.trans P1) S1
  | bk => exact fun σ1 H1 ow1 P1 S1 => h σ1 H1 ow1 (P.trans P1) S1
  | ct => exact fun σ1 H1 ow1 P1 S1 => h σ1 H1 ow1 (P.trans P1) S1
  | rt d own => exact fun v σ1 H1 ow1 P1 R1 => h v σ1 H1 ow1 (P.trans P1) (R1.go P)

/-! ### slots that change -/
def del (ow : Ow) (i : Nat) : Ow := fun j => if j = i then none else ow j
def putO (ow : Ow) (i : Nat) (p : Addr) : Ow := fun j => if j = i then some p else ow j
theorem gs_set_self {i : Nat} {s : Option (Dt × Md)} (h : i < env.length) : gs (env.set i s) i = s := by
  unfold gs; rw [List.getElem?_set_self h]; rfl
theorem gs_set_ne {i j : Nat} {s : Option (Dt × Md)} (h : i ≠ j) : gs (env.set i s) j = gs env j := by
  unfold gs; rw [List.getElem?_set_ne h]
theorem gv_set_self {i : Nat} {v : Option V} (h : i < σ.length) : gv (σ.set i v) i = v := by
  unfold gv; rw [List.getElem?_set_self h]; rfl
theorem gv_set_ne {i j : Nat} {v : Option V} (h : i ≠ j) : gv (σ.set i v) j = gv σ j := by
  unfold gv; rw [List.getElem?_set_ne h]
theorem inO_del {i : Nat} {a : Addr} (h : inO (del ow i) a) : inO ow a := by
  obtain ⟨j, h⟩ := h
  unfold del at h
  by_cases e : j = i
  · rw [if_pos e] at h; cases h
  · rw [if_neg e] at h; exact ⟨j, h⟩
theorem lim_del {i : Nat} {a : Addr} (h : lim ex (del ow i) a) : lim ex ow a := h.elim .inl fun z => .inr (inO_del z)
def isIo : Option (Dt × Md) → Bool
  | some (_, .io) => true
  | _ => false
theorem isIo_some {d : Dt} {s : Option (Dt × Md)} (e : s = some (d, .io)) (h : isIo s = false) : False := by subst e; cases h
/-- a slot holds frozen data (or nothing) from now on -/
theorem SR.setFz {v : Option V} {s : Option (Dt × Md)} {i : Nat} (S : SR K mg ex env ow σ H) (hi : i < env.length) (r : SlotOk K mg (cut (lim ex (del ow i)) H) H s none v) : SR K mg ex (env.set i s) (del ow i) (σ.set i v) H := by
  refine ⟨by simpa using S.len, fun j => ?_, fun j k a h1 h2 => ?_, fun j a h => ?_, S.tr⟩
  · by_cases e : j = i
    · subst e
      rw [gs_set_self hi, gv_set_self (by rw [← S.len]; exact hi)]
      unfold del
      rw [if_pos rfl]
      exact r
    · rw [gs_set_ne (Ne.symm e), gv_set_ne (Ne.symm e)]
      have q := (S.slot j).mono (G' := cut (lim ex (del ow i)) H) (H' := H) (cut_sub H fun a z => lim_del z) fun _ _ z => z
      unfold del
      rw [if_neg e]
      exact q
  · unfold del at h1 h2
    by_cases e1 : j = i
    · rw [if_pos e1] at h1; cases h1
    · by_cases e2 : k = i
      · rw [if_pos e2] at h2; cases h2
      · rw [if_neg e1] at h1; rw [if_neg e2] at h2; exact S.inj j k a h1 h2
  · unfold del at h
    by_cases e : j = i
    · rw [if_pos e] at h; cases h
    · rw [if_neg e] at h; exact S.dis j a h
theorem PostS.setFz {s : Option (Dt × Md)} {i : Nat} (hio : isIo (gs env i) = false) : PostS env ow H (env.set i s) (del ow i) H := by
  refine ⟨fun _ _ h _ => h, fun a h => .inl (inO_del h), fun j d h => ?_, fun _ h => h⟩
  have ne : i ≠ j := fun e => by subst e; exact isIo_some h hio
  refine ⟨⟨d, by rw [gs_set_ne ne]; exact h⟩, ?_⟩
  unfold del
  rw [if_neg (Ne.symm ne)]
/-- a slot gets an object of its own -/
theorem SR.setOw {p : Addr} {ob : HO} {d : Dt} {i : Nat} (S : SR K mg (fun a => ex a ∨ a = p) env ow σ H) (hi : i < env.length) (hp : H p = some ob) (r : OwnR K mg (cut (lim (fun a => ex a ∨ a = p) ow) H) ob d) (np : ¬ ex p) :
    SR K mg ex (env.set i (some (d, .ow))) (putO ow i p) (σ.set i (some (.ref p))) H := by
  have sub : ∀ a, lim ex (putO ow i p) a → lim (fun a => ex a ∨ a = p) ow a := fun a z => by
    rcases z with z | ⟨j, z⟩
    · exact .inl (.inl z)
    · unfold putO at z
      by_cases e : j = i
      · rw [if_pos e] at z; cases z; exact .inl (.inr rfl)
      · rw [if_neg e] at z; exact .inr ⟨j, z⟩
  refine ⟨by simpa using S.len, fun j => ?_, fun j k a h1 h2 => ?_, fun j a h => ?_, fun a z => S.tr a (.inl z)⟩
  · by_cases e : j = i
    · subst e
      rw [gs_set_self hi, gv_set_self (by rw [← S.len]; exact hi)]
      exact ⟨p, ob, by unfold putO; rw [if_pos rfl], rfl, hp, r.mono (cut_sub H sub)⟩
    · rw [gs_set_ne (Ne.symm e), gv_set_ne (Ne.symm e)]
      have q := (S.slot j).mono (G' := cut (lim ex (putO ow i p)) H) (H' := H) (cut_sub H sub) fun _ _ z => z
      have e2 : putO ow i p j = ow j := by unfold putO; rw [if_neg e]
      rw [e2]
      exact q
  · unfold putO at h1 h2
    by_cases e1 : j = i
    · by_cases e2 : k = i
      · rw [e1, e2]
      · rw [if_pos e1] at h1; rw [if_neg e2] at h2; cases h1
        exact absurd (.inr rfl) (S.dis k p h2)
    · by_cases e2 : k = i
      · rw [if_neg e1] at h1; rw [if_pos e2] at h2; cases h2
        exact absurd (.inr rfl) (S.dis j p h1)
      · rw [if_neg e1] at h1; rw [if_neg e2] at h2; exact S.inj j k a h1 h2
  · unfold putO at h
    by_cases e : j = i
    · rw [if_pos e] at h; cases h; exact np
    · rw [if_neg e] at h; exact fun z => S.dis j a h (.inl z)
theorem PostS.setOw {p : Addr} {d : Dt} {i : Nat} {H0 : Hp} {env0 : Env} {ow0 : Ow} (P : PostS env0 ow0 H0 env ow H) (hio : isIo (gs env i) = false) (hp : H0 p = none) : PostS env0 ow0 H0 (env.set i (some (d, .ow))) (putO ow i p) H := by
  refine ⟨P.keep, fun a h => ?_, fun j d0 h => ?_, P.there⟩
  · obtain ⟨j, z⟩ := h
    unfold putO at z
    by_cases e : j = i
    · rw [if_pos e] at z; cases z; exact .inr hp
    · rw [if_neg e] at z; exact P.sub a ⟨j, z⟩
  · obtain ⟨⟨d', h'⟩, e⟩ := P.pin j d0 h
    have ne : i ≠ j := fun e => by subst e; exact isIo_some h' hio
    refine ⟨⟨d', by rw [gs_set_ne ne]; exact h'⟩, ?_⟩
    unfold putO
    rw [if_neg (Ne.symm ne)]
    exact e
/-- an owned slot is frozen -/
theorem SR.freeze {d : Dt} {i : Nat} {v : V} (S : SR K mg ex env ow σ H) (h : gs env i = some (d, .ow)) (hv : gv σ i = some v) : SR K mg ex (env.set i (some (d, .fz))) (del ow i) σ H ∧ Rep K mg (cut (lim ex (del ow i)) H) v d := by
  have q := S.slot i
  rw [h, hv] at q
  obtain ⟨a, ob, e1, e2, e3, r⟩ := q
  cases e2
  have hi : i < env.length := by
    unfold gs at h
    cases z : env[i]? with
    | none => rw [z] at h; cases h
    | some y => exact (List.getElem?_eq_some_iff.mp z).1
  have na : ¬ lim ex (del ow i) a := fun z => by
    rcases z with z | ⟨j, z⟩
    · exact S.dis i a e1 z
    · unfold del at z
      by_cases e : j = i
      · rw [if_pos e] at z; cases z
      · rw [if_neg e] at z; exact e (S.inj j i a z e1)
  have rr : Rep K mg (cut (lim ex (del ow i)) H) (.ref a) d := own_rep (by rw [cut_out na]; exact e3) (r.mono (cut_sub H fun b z => lim_del z))
  have S' := S.setFz (v := some (.ref a)) (s := some (d, .fz)) hi ⟨rfl, _, rfl, rr⟩
  have e : σ.set i (some (V.ref a)) = σ := by
    apply List.ext_getElem?
    intro j
    by_cases z : j = i
    · subst z
      rw [List.getElem?_set_self (by rw [← S.len]; exact hi), gv_some hv]
    · rw [List.getElem?_set_ne (Ne.symm z)]
  rw [e] at S'
  exact ⟨S', rr⟩
theorem Post.freeze {d : Dt} {i : Nat} (h : gs env i = some (d, .ow)) : Post env ow H (env.set i (some (d, .fz))) (del ow i) H := by
  refine ⟨fun _ _ h _ => h, fun j a z => ?_, fun j d0 z => ?_, fun _ h => h⟩
  · unfold del at z
    by_cases e : j = i
    · rw [if_pos e] at z; cases z
    · rw [if_neg e] at z; exact z
  · have ne : i ≠ j := fun e => by subst e; rw [h] at z; cases z
    exact ⟨d0, by rw [gs_set_ne ne]; exact z⟩

/-- a result as frozen data -/
def frz (r : R) : M Dt := fun env => match r with
  | .val d => some (.ok d env)
  | .new d => some (.ok d env)
  | .loc i => match gs env i with
    | some (d, .fz) => some (.ok d env)
    | some (d, .ow) => some (.ok d (env.set i (some (d, .fz))))
    | _ => none
theorem WP.frz {r : R} {v : V} {k : Dt → Env → Prop} {x : Xn → Env → Prop} (S : SR K mg ex env ow σ H) (h : Held K mg ex ow σ H r v) (w : WP (frz r) env k x) : ∃ d env' ow', SR K mg ex env' ow' σ H ∧ Post env ow H env' ow' H ∧ Rep K mg (DL.cut (lim ex ow') H) v d ∧ k d env' := by
  cases r with
  | val d => exact ⟨d, env, ow, S, .refl, h, w⟩
  | new d => exact ⟨d, env, ow, S, .refl, h, w⟩
  | loc i =>
    unfold WP DL.frz at w
    have hv : gv σ i = some v := h
    cases e : gs env i with
    | none => simp only [e] at w
    | some y =>
      obtain ⟨d, m⟩ := y
      cases m with
      | fz =>
        simp only [e] at w
        have q := S.slot i
        rw [e, hv] at q
        obtain ⟨_, x, e1, r⟩ := q
        cases e1
        exact ⟨d, env, ow, S, .refl, r, w⟩
      | ow =>
        simp only [e] at w
        obtain ⟨S', r⟩ := S.freeze e hv
        exact ⟨d, _, _, S', .freeze e, r, w⟩
      | io => simp only [e] at w
end

/-! ### statements -/
def mSeq (a b : M Fl) : M Fl := a.bind fun f => match f with
  | .nx => b
  | f => M.pure f
def putS (i : Nat) (s : Option (Dt × Md)) : M Fl := fun env => if i < env.length ∧ isIo (gs env i) = false then some (.ok .nx (env.set i s)) else none
def setR (i : Nat) (r : R) : M Fl := match r with
  | .new d => putS i (some (d, .ow))
  | r => (frz r).bind fun d => putS i (some (d, .fz))
def mSet (i : Nat) (m : M R) : M Fl := m.bind (setR i)
def mDrop (m : M R) : M Fl := m.bind fun _ => M.pure .nx
def retR (r : R) : M Fl := fun env => match r with
  | .val d => some (.ok (.rt d false) env)
  | .new d => some (.ok (.rt d true) env)
  | .loc i => match gs env i with
    | some (d, .fz) => some (.ok (.rt d false) env)
    | some (d, .ow) => some (.ok (.rt d true) (env.set i none))
    | _ => none
def mRet (m : M R) : M Fl := m.bind retR
def mIfS (t : M Bool) (a b : M Fl) : M Fl := t.bind fun c => if c then a else b

section
variable {K : PySem.W.Frag} {mg : Str → Option Value} {ex ex' : Addr → Prop} {env env' env'' : Env} {ow ow' ow'' : Ow} {σ σ' : St} {H H' H'' : Hp} {E : XK}
theorem WP.putS {i : Nat} {s : Option (Dt × Md)} {k : Fl → Env → Prop} {x : Xn → Env → Prop} (w : WP (putS i s) env k x) : i < env.length ∧ isIo (gs env i) = false ∧ k .nx (env.set i s) := by
  unfold WP DL.putS at w
  by_cases h : i < env.length ∧ isIo (gs env i) = false
  · rw [if_pos h] at w; exact ⟨h.1, h.2, w⟩
  · rw [if_neg h] at w; exact w.elim
/-- x = a result -/
theorem WP.setR {i : Nat} {r : R} {v : V} {H0 : Hp} {env0 : Env} {ow0 : Ow} {D : Ends} {x : Xn → Env → Prop} (tr : ∀ a, ex a → H0 a ≠ none) (P : Post env0 ow0 H0 env ow H) (R1 : ROk K mg ex env ow σ H0 H r v) (w : WP (setR i r) env (kF K mg ex env0 ow0 H0 D) x) : D.nx (σ.set i (some v)) H := by
  have fin : ∀ {d : Dt} {env1 : Env} {ow1 : Ow}, SR K mg ex env1 ow1 σ H → Post env ow H env1 ow1 H → Rep K mg (DL.cut (lim ex ow1) H) v d → WP (DL.putS i (some (d, .fz))) env1 (kF K mg ex env0 ow0 H0 D) x → D.nx (σ.set i (some v)) H := fun {d env1 ow1} S1 P1 r1 w1 => by
    obtain ⟨h1, h2, k⟩ := w1.putS
    exact k (σ.set i (some v)) H (del ow1 i) (((P.trans P1).s S1).trans (.setFz h2)) (S1.setFz h1 ⟨rfl, v, rfl, r1.mono (cut_sub H fun a z => lim_del z)⟩)
  cases r with
  | val d =>
    have w' : WP ((DL.frz (.val d)).bind fun d => DL.putS i (some (d, .fz))) env (kF K mg ex env0 ow0 H0 D) x := w
    obtain ⟨d', env1, ow1, S1, P1, r1, w1⟩ := WP.frz (r := .val d) R1.1 R1.2 (WP.bind.mp w')
    exact fin S1 P1 r1 w1
  | new d =>
    obtain ⟨p, ob, e, hp, hp', r, S⟩ := R1
    subst e
    obtain ⟨h1, h2, k⟩ := WP.putS w
    exact k _ H (putO ow i p) (PostS.setOw (P.s (S.less fun a z => .inl z)) h2 hp) (S.setOw h1 hp' r fun z => tr p z hp)
  | loc j =>
    have w' : WP ((DL.frz (.loc j)).bind fun d => DL.putS i (some (d, .fz))) env (kF K mg ex env0 ow0 H0 D) x := w
    obtain ⟨d', env1, ow1, S1, P1, r1, w1⟩ := WP.frz (r := .loc j) R1.1 R1.2.1 (WP.bind.mp w')
    exact fin S1 P1 r1 w1
theorem WP.retR {r : R} {v : V} {H0 : Hp} {env0 : Env} {ow0 : Ow} {D : Ends} {x : Xn → Env → Prop} (tr : ∀ a, ex a → H0 a ≠ none) (P : Post env0 ow0 H0 env ow H) (R1 : ROk K mg ex env ow σ H0 H r v) (w : WP (retR r) env (kF K mg ex env0 ow0 H0 D) x) : D.rt v H := by
  cases r with
  | val d => exact w v σ H ow (P.s R1.1) R1
  | new d =>
    obtain ⟨p, ob, e, hp, hp', r, S⟩ := R1
    exact w v σ H ow (P.s (S.less fun a z => .inl z)) ⟨p, ob, e, .inr hp, hp', r, S, fun z => tr p z hp⟩
  | loc i =>
    obtain ⟨S, hv, ne⟩ := R1
    unfold WP DL.retR at w
    have q := S.slot i
    rw [hv] at q
    cases e : gs env i with
    | none => exact absurd e ne
    | some y =>
      obtain ⟨d, m⟩ := y
      rw [e] at q
      cases m with
      | fz =>
        simp only [e] at w
        obtain ⟨_, y, e1, r⟩ := q
        cases e1
        exact w v σ H ow (P.s S) ⟨S, r⟩
      | ow =>
        simp only [e] at w
        obtain ⟨p, ob, e1, e2, e3, r⟩ := q
        cases e2
        have hi : i < env.length := by
          unfold gs at e
          cases z : env[i]? with
          | none => rw [z] at e; cases e
          | some y => exact (List.getElem?_eq_some_iff.mp z).1
        have S1 := S.setFz (v := some (.ref p)) (s := none) hi rfl
        have io : isIo (gs env i) = false := by rw [e]; rfl
        have nd : ¬ inO (del ow i) p := fun ⟨j, z⟩ => by
          unfold del at z
          by_cases e : j = i
          · rw [if_pos e] at z; cases z
          · rw [if_neg e] at z; exact e (S.inj j i p z e1)
        have es : σ.set i (some (V.ref p)) = σ := by
          apply List.ext_getElem?
          intro j
          by_cases z : j = i
          · subst z
            rw [List.getElem?_set_self (by rw [← S.len]; exact hi), gv_some hv]
          · rw [List.getElem?_set_ne (Ne.symm z)]
        rw [es] at S1
        have sub : ∀ a, lim (fun a => ex a ∨ a = p) (del ow i) a → lim ex ow a := fun a z => by
          rcases z with (z | z) | z
          · exact .inl z
          · subst z; exact .inr ⟨i, e1⟩
          · exact .inr (inO_del z)
        refine w (.ref p) σ H (del ow i) ((P.s S).trans (.setFz io)) ⟨p, ob, rfl, ?_, e3, r.mono (cut_sub H sub), ⟨S1.len, fun j => ?_, S1.inj, fun j a h z => ?_, fun a z => ?_⟩, S.dis i p e1⟩
        · exact (P.s S).sub p ⟨i, e1⟩
        · have q := S.slot j
          by_cases ej : j = i
          · subst ej
            rw [gs_set_self hi]
            show del ow j j = none
            unfold del; rw [if_pos rfl]
          · rw [gs_set_ne (Ne.symm ej)]
            have eo : del ow i j = ow j := by unfold del; rw [if_neg ej]
            rw [eo]
            exact q.mono (cut_sub H sub) fun _ _ z => z
        · rcases z with z | z
          · exact S1.dis j a h z
          · subst z; exact nd ⟨j, h⟩
        · rcases z with z | z
          · exact S1.tr a z
          · subst z; rw [e3]; exact fun q => nomatch q
      | io => simp only [e] at w
end

section
variable {X : Cx} {E : XK} {e : Expr} {st : Stmt} {sts sts' : List Stmt} {pos : Pos} {m : M R} {a b : M Fl} {mt : M Bool}
abbrev DS (X : Cx) (E : XK) (st : Stmt) (m : M Fl) : Prop := PS X st (tS X.K X.mg E m)
abbrev DB (X : Cx) (E : XK) (sts : List Stmt) (m : M Fl) : Prop := PSs X sts (tS X.K X.mg E m)
theorem db_nil : DB X E [] (M.pure .nx) := PSs.weak pss_nil fun D σ H ⟨ex, env, ow, S, w⟩ => w σ H ow .refl S
theorem db_cons (h1 : DS X E st a) (h2 : DB X E sts b) : DB X E (st :: sts) (mSeq a b) := PSs.weak (pss_cons h1 h2) fun D σ H ⟨ex, env, ow, S, w⟩ => by
  refine ⟨ex, env, ow, S, (WP.bind.mp w).mono (fun f env1 w1 => ?_) fun _ _ z => z⟩
  cases f with
  | nx => exact fun σ1 H1 ow1 P1 S1 => ⟨ex, env1, ow1, S1, w1.mono (fun g e2 k => k.go P1) fun _ _ z => z.go P1⟩
  | bk => exact w1
  | ct => exact w1
  | rt d own => exact w1
theorem db_one (h1 : DS X E st a) : DB X E [st] a := pss_one h1
theorem ds_set {i : Nat} {x : Str} {p : Pos} (hN : X.N.Nodup) (hi : X.N[i]? = some x) (hx : Loc X.env.scope x) (he : DE X E e m) (hs : swapsWith e (some (.Name x p)) pos.line X.env = pure false := by rfl)
    (hf : X.fn x = true ∨ X.env.scope.names.lookup x = some .local := by first | exact .inl rfl | exact .inr rfl | assumption) : DS X E (.Assign [.Name x p] e pos) (mSet i m) :=
  PS.weak (ps_set hN hi hx he hs hf) fun D σ H ⟨ex, env, ow, S, w⟩ => ⟨ex, env, ow, S, (WP.bind.mp w).mono (fun r env1 w1 v H1 ow1 P1 R1 => w1.setR S.tr P1 R1) fun _ _ z => z.x⟩
theorem ds_expr (he : DE X E e m) (hs : swapsWith e none pos.line X.env = pure false := by rfl) : DS X E (.Expr e pos) (mDrop m) :=
  PS.weak (ps_expr he hs) fun D σ H ⟨ex, env, ow, S, w⟩ => ⟨ex, env, ow, S, (WP.bind.mp w).mono (fun r env1 w1 v H1 ow1 P1 R1 => w1 σ H1 ow1 (P1.s R1.sr) R1.sr) fun _ _ z => z.x⟩
theorem ds_ret (he : DE X E e m) : DS X E (.Return (some e) pos) (mRet m) :=
  PS.weak (ps_ret he) fun D σ H ⟨ex, env, ow, S, w⟩ => ⟨ex, env, ow, S, (WP.bind.mp w).mono (fun r env1 w1 v H1 ow1 P1 R1 => w1.retR S.tr P1 R1) fun _ _ z => z.x⟩
theorem ds_retN : DS X E (.Return none pos) (M.pure (.rt .non false)) := PS.weak ps_retN fun D σ H ⟨ex, env, ow, S, w⟩ => w .non σ H ow .refl ⟨S, .non⟩
theorem ds_pass : DS X E (.Pass pos) (M.pure .nx) := PS.weak ps_pass fun D σ H ⟨ex, env, ow, S, w⟩ => w σ H ow .refl S
theorem ds_break : DS X E (.Break pos) (M.pure .bk) := PS.weak ps_break fun D σ H ⟨ex, env, ow, S, w⟩ => w σ H ow .refl S
theorem ds_continue : DS X E (.Continue pos) (M.pure .ct) := PS.weak ps_continue fun D σ H ⟨ex, env, ow, S, w⟩ => w σ H ow .refl S
theorem ds_if {t : Expr} (ht : DT X E t mt) (ha : DB X E sts a) (hb : DB X E sts' b) : DS X E (.If t sts sts' pos) (mIfS mt a b) :=
  PS.weak (ps_if ht ha hb) fun D σ H ⟨ex, env, ow, S, w⟩ => ⟨ex, env, ow, S, (WP.bind.mp w).mono (fun c env1 w1 H1 ow1 P1 S1 => by
    have q := P1.s S1
    cases c with
    | true => exact ⟨ex, env1, ow1, S1, w1.mono (fun g e2 k => k.go q) fun _ _ z => z.go q⟩
    | false => exact ⟨ex, env1, ow1, S1, w1.mono (fun g e2 k => k.go q) fun _ _ z => z.go q⟩) fun _ _ z => z.x⟩
/-- a statement that is never come to -/
theorem ds_never : DS X E st (fun _ => none) := PS.weak ps_never fun D σ H ⟨ex, env, ow, S, w⟩ => w.elim
end
end DL

/-! DLe: targets and loops. -/
namespace DL
open PySem L2

/-! ### targets -/
/-- what a target does with frozen data -/
abbrev Tg := Dt → M Fl
def kG (K : PySem.W.Frag) (mg : Str → Option Value) (ex : Addr → Prop) (env : Env) (ow : Ow) (H : Hp) (Q : St → Hp → Prop) : Fl → Env → Prop := fun _ env' => ∀ σ' H' ow', PostS env ow H env' ow' H' → SR K mg ex env' ow' σ' H' → Q σ' H'
def tG (K : PySem.W.Frag) (mg : Str → Option Value) (t : Tg) : TG := fun v σ H Q => ∃ ex env ow d, SR K mg ex env ow σ H ∧ Rep K mg (cut (lim ex ow) H) v d ∧ WP (t d) env (kG K mg ex env ow H Q) (fun _ _ => True)
def tGs (K : PySem.W.Frag) (mg : Str → Option Value) (t : List Dt → M Fl) : TGs := fun vs σ H Q => ∃ ex env ow ds, SR K mg ex env ow σ H ∧ RepA K mg (cut (lim ex ow) H) vs ds ∧ WP (t ds) env (kG K mg ex env ow H Q) (fun _ _ => True)
def gN (i : Nat) : Tg := fun d => putS i (some (d, .fz))
def gNil' : List Dt → M Fl := fun ds => match ds with
  | [] => M.pure .nx
  | _ => fun _ => none
def gCons' (t : Tg) (u : List Dt → M Fl) : List Dt → M Fl := fun ds => match ds with
  | [] => fun _ => none
  | d :: r => (t d).bind fun _ => u r
def gT (n : Nat) (t : List Dt → M Fl) : Tg := fun d => match d with
  | .tup ds => if ds.length = n then t ds else fun _ => none
  | _ => fun _ => none

theorem PG.weak {X : Cx} {e : Expr} {t t' : TG} (h : PG X e t) (w : ∀ v σ H Q, t' v σ H Q → t v σ H Q) : PG X e t' := ⟨fun pins s σ H v u Q I r q => h.run pins s σ H v u Q I r (w v σ H Q q)⟩
theorem PGs.weak {X : Cx} {e : List Expr} {t t' : TGs} (h : PGs X e t) (w : ∀ v σ H Q, t' v σ H Q → t v σ H Q) : PGs X e t' := ⟨fun pins s σ H v u Q I r q => h.run pins s σ H v u Q I r (w v σ H Q q)⟩
theorem PI.weak {X : Cx} {tg e : Expr} {t t' : TI} (h : PI X tg e t) (w : ∀ σ H R, t' σ H R → t σ H R) : PI X tg e t' := ⟨fun pins s σ H R I q => h.run pins s σ H R I (w σ H R q)⟩

section
variable {X : Cx} {e : Expr} {es : List Expr} {pos : Pos} {t : Tg} {u : List Dt → M Fl}
abbrev DG (X : Cx) (e : Expr) (t : Tg) : Prop := PG X e (tG X.K X.mg t)
abbrev DGs (X : Cx) (es : List Expr) (t : List Dt → M Fl) : Prop := PGs X es (tGs X.K X.mg t)
theorem dg_name {i : Nat} {x : Str} (hN : X.N.Nodup) (hi : X.N[i]? = some x) (hx : Loc X.env.scope x) (hf : X.fn x = true ∨ X.env.scope.names.lookup x = some .local := by first | exact .inl rfl | exact .inr rfl | assumption) : DG X (.Name x pos) (gN i) :=
  PG.weak (pg_name hN hi hx hf) fun v σ H Q ⟨ex, env, ow, d, S, r, w⟩ => by
    obtain ⟨h1, h2, k⟩ := WP.putS w
    exact k _ H (del ow i) (.setFz h2) (S.setFz h1 ⟨rfl, v, rfl, r.mono (cut_sub H fun a z => lim_del z)⟩)
theorem dgs_nil : DGs X [] gNil' := PGs.weak pgs_nil fun vs σ H Q ⟨ex, env, ow, ds, S, r, w⟩ => by
  cases r with
  | nil => exact ⟨rfl, w σ H ow .refl S⟩
  | cons _ _ => exact w.elim
theorem dgs_cons (h1 : DG X e t) (h2 : DGs X es u) (hs : (assignEach (e :: es) X.env).map (·.2) = assign e X.env :: (assignEach es X.env).map (·.2) := by rfl) : DGs X (e :: es) (gCons' t u) :=
  PGs.weak (pgs_cons h1 h2 hs) fun vs σ H Q ⟨ex, env, ow, ds, S, r, w⟩ => by
    cases r with
    | nil => exact w.elim
    | @cons v vs d ds r rr =>
      refine ⟨v, vs, rfl, ex, env, ow, d, S, r, (WP.bind.mp w).mono (fun f env1 w1 => ?_) fun _ _ z => z⟩
      exact fun σ1 H1 ow1 P1 S1 => ⟨ex, env1, ow1, ds, S1, rr.mono P1.cut, w1.mono (fun g e2 k => fun σ2 H2 ow2 P2 S2 => k σ2 H2 ow2 (P1.trans P2) S2) fun _ _ z => z⟩
theorem dg_tup {k n : Nat} (hc : X.calm = true) (h : DGs X es u) (hn : (assignEach es X.env).length = n := by rfl) (hst : (assignEach es X.env).findIdx? (·.1) = none := by rfl) : DG X (.Tuple es k pos) (gT n u) :=
  PG.weak (pg_tup hc h hn hst) fun v σ H Q ⟨ex, env, ow, d, S, r, w⟩ => by
    cases d with
    | tup ds =>
      cases r with
      | @tup a xs ds h1 h2 =>
        have w' : WP (if ds.length = n then u ds else fun _ => none) env (kG X.K X.mg ex env ow H Q) (fun _ _ => True) := w
        by_cases e : ds.length = n
        · rw [if_pos e] at w'
          exact ⟨a, xs, rfl, (cut_le _ H).t h1, h2.length.trans e, ex, env, ow, ds, S, h2, w'⟩
        · rw [if_neg e] at w'; exact w'.elim
    | _ => exact w.elim
end

/-! ### what is walked -/
/-- an iterator hands out just these, as long as what is frozen stays -/
structure Yields (K : PySem.W.Frag) (mg : Str → Option Value) (G : Hp) (J : It) (ds : List Dt) : Prop where
  go : ∀ i H, Le G H → i < ds.length → J.go i H
  stop : ∀ i H, Le G H → ds.length ≤ i → J.stop i H
  yld : ∀ (L : Addr → Prop) i H x H', (∀ a, L a → H a ≠ none) → Le G (cut L H) → i < ds.length → J.yld i H x H' → Le H H' ∧ ∃ d, ds[i]? = some d ∧ Rep K mg (cut L H') x d
theorem Le.fresh {L : Addr → Prop} {H : Hp} {p : Addr} {o : HO} (tr : ∀ a, L a → H a ≠ none) (h : H p = none) : Le (cut L H) (cut L (upd H p o)) ∧ cut L (upd H p o) p = some o := by
  refine ⟨cut_keep (fun _ h _ => h) fun a ob e _ => Le.new h a ob e, ?_⟩
  rw [cut_out fun z => tr p z h, upd_same]
section
variable {K : PySem.W.Frag} {mg : Str → Option Value} {G : Hp}
theorem yields_list {a : Addr} {xs : List V} {ds : List Dt} (h : SqL K G a xs) (r : RepA K mg G xs ds) : Yields K mg G (Itl K a) ds where
  go := fun i H l hi => ⟨xs, xs[i]'(by rw [r.length]; exact hi), l.l h, by simp⟩
  stop := fun i H l hi => ⟨xs, l.l h, by rw [r.length]; exact hi⟩
  yld := fun L i H x H' tr l hi ⟨e, y⟩ => by
    subst e
    obtain ⟨d, h1, h2⟩ := r.get' (y xs (((l.trans (cut_le L _))).l h))
    exact ⟨.refl _, d, h1, h2.mono l⟩
theorem yields_tup {a : Addr} {xs : List V} {ds : List Dt} (h : SqT K G a xs) (r : RepA K mg G xs ds) : Yields K mg G (Itt K a) ds where
  go := fun i H l hi => ⟨xs, xs[i]'(by rw [r.length]; exact hi), l.t h, by simp⟩
  stop := fun i H l hi => ⟨xs, l.t h, by rw [r.length]; exact hi⟩
  yld := fun L i H x H' tr l hi ⟨e, y⟩ => by
    subst e
    obtain ⟨d, h1, h2⟩ := r.get' (y xs (((l.trans (cut_le L _))).t h))
    exact ⟨.refl _, d, h1, h2.mono l⟩
def rangeD (lo : Int) : Nat → List Dt
  | 0 => []
  | n + 1 => .int lo :: rangeD (lo + 1) n
theorem rangeD_length : ∀ (n : Nat) (lo : Int), (rangeD lo n).length = n
  | 0, _ => rfl
  | n + 1, lo => by rw [rangeD, List.length_cons, rangeD_length n]
theorem rangeD_get : ∀ (n i : Nat) (lo : Int), i < n → (rangeD lo n)[i]? = some (.int (lo + i))
  | 0, _, _, h => absurd h (Nat.not_lt_zero _)
  | n + 1, 0, lo, _ => by simp [rangeD]
  | n + 1, i + 1, lo, h => by
    rw [rangeD, List.getElem?_cons_succ, rangeD_get n i (lo + 1) (by omega)]
    congr 2
    omega
theorem yields_range (lo : Int) (n : Nat) : Yields K mg G (Itr lo n) (rangeD lo n) where
  go := fun i H l hi => by rw [rangeD_length] at hi; exact hi
  stop := fun i H l hi => by rw [rangeD_length] at hi; exact hi
  yld := fun L i H x H' tr l hi ⟨e, y⟩ => by
    subst e; subst y
    rw [rangeD_length] at hi
    exact ⟨.refl _, _, rangeD_get n i lo hi, .int _⟩
def signs : List Nat → List Dt
  | [] => []
  | c :: r => .str ⟨#[c]⟩ :: signs r
theorem signs_length : ∀ l : List Nat, (signs l).length = l.length
  | [] => rfl
  | c :: r => by rw [signs, List.length_cons, List.length_cons, signs_length r]
theorem signs_get : ∀ (l : List Nat) (i : Nat) (c : Nat), l[i]? = some c → (signs l)[i]? = some (.str ⟨#[c]⟩)
  | [], _, _, h => by simp at h
  | c :: r, 0, _, h => by simp at h; subst h; rfl
  | c :: r, i + 1, d, h => by
    rw [signs, List.getElem?_cons_succ]
    exact signs_get r i d (by simpa using h)
theorem yields_str (x : Str) : Yields K mg G (Its x) (signs x.cps.toList) where
  go := fun i H l hi => by rw [signs_length] at hi; show i < x.cps.size; simpa using hi
  stop := fun i H l hi => by rw [signs_length] at hi; show x.cps.size ≤ i; simpa using hi
  yld := fun L i H v H' tr l hi ⟨e, c, h1, h2⟩ => by
    subst e; subst h2
    exact ⟨.refl _, _, signs_get _ i c (by simpa using h1), .str _⟩
def enumD (k : Int) : List Dt → List Dt
  | [] => []
  | d :: r => .tup [.int k, d] :: enumD (k + 1) r
theorem enumD_length : ∀ (l : List Dt) (k : Int), (enumD k l).length = l.length
  | [], _ => rfl
  | d :: r, k => by rw [enumD, List.length_cons, List.length_cons, enumD_length r]
theorem enumD_get : ∀ (l : List Dt) (i : Nat) (k : Int) (d : Dt), l[i]? = some d → (enumD k l)[i]? = some (.tup [.int (k + i), d])
  | [], _, _, _, h => by simp at h
  | c :: r, 0, k, _, h => by simp at h; subst h; simp [enumD]
  | c :: r, i + 1, k, d, h => by
    rw [enumD, List.getElem?_cons_succ, enumD_get r i (k + 1) d (by simpa using h)]
    congr 3
    have e : k + 1 + (i : Int) = k + ((i + 1 : Nat) : Int) := by omega
    rw [e]
theorem yields_enum {a : Addr} {xs : List V} {ds : List Dt} (h : SqL K G a xs) (r : RepA K mg G xs ds) : Yields K mg G (Ite K a) (enumD 0 ds) where
  go := fun i H l hi => by
    rw [enumD_length] at hi
    exact ⟨xs, xs[i]'(by rw [r.length]; exact hi), l.l h, by simp⟩
  stop := fun i H l hi => by
    rw [enumD_length] at hi
    exact ⟨xs, l.l h, by rw [r.length]; exact hi⟩
  yld := fun L i H v H' tr l hi ⟨T, x, e1, e2, e3, y⟩ => by
    subst e1; subst e3
    obtain ⟨d, h1, h2⟩ := r.get' (y xs (((l.trans (cut_le L _))).l h))
    obtain ⟨l2, e4⟩ := Le.fresh (L := L) (o := .tup [.int (i : Nat), x]) tr e2
    refine ⟨.new e2, _, enumD_get ds i 0 d h1, .tup (SqT.of e4) (.cons ?_ (.cons (h2.mono (l.trans l2)) .nil))⟩
    have e : (0 : Int) + (i : Int) = (i : Int) := Int.zero_add _
    rw [e]; exact .int _
end

/-- a walked thing as its data -/
def kI (K : PySem.W.Frag) (mg : Str → Option Value) (ex : Addr → Prop) (env : Env) (ow : Ow) (σ : St) (H : Hp) (R : It → Hp → Prop) : List Dt → Env → Prop := fun ds env' => ∀ H' ow' J G, Post env ow H env' ow' H' → SR K mg ex env' ow' σ H' → Le G (cut (lim ex ow') H') → Yields K mg G J ds → R J H'
def tI (K : PySem.W.Frag) (mg : Str → Option Value) (E : XK) (m : M (List Dt)) : TI := fun σ H R => ∃ ex env ow, SR K mg ex env ow σ H ∧ WP m env (kI K mg ex env ow σ H R) (kX K mg ex env ow σ H E)
abbrev DI (X : Cx) (E : XK) (tg e : Expr) (m : M (List Dt)) : Prop := PI X tg e (tI X.K X.mg E m)

/-! ### loops -/
def forL (tg : Tg) (body : M Fl) : List Dt → M Fl
  | [] => M.pure .nx
  | d :: ds => (tg d).bind fun _ => body.bind fun f => match f with
    | .nx => forL tg body ds
    | .ct => forL tg body ds
    | .bk => M.pure .nx
    | .rt d o => M.pure (.rt d o)
def mFor (src : M (List Dt)) (tg : Tg) (body : M Fl) : M Fl := src.bind (forL tg body)
section
variable {K : PySem.W.Frag} {mg : Str → Option Value} {ex : Addr → Prop} {env env' : Env} {ow ow' : Ow} {σ σ' : St} {H H' : Hp} {E : XK}
theorem for_yields {tg : Tg} {body : M Fl} {ds : List Dt} {G : Hp} {J : It} {D : Ends} {env0 : Env} {ow0 : Ow} {H0 : Hp} (P : PostS env0 ow0 H0 env ow H) (S : SR K mg ex env ow σ H) (l : Le G (cut (lim ex ow) H)) (y : Yields K mg G J ds)
    (w : WP (forL tg body ds) env (kF K mg ex env0 ow0 H0 D) (kY K mg ex env0 ow0 H0 E)) :
    ∃ W : Nat → Nat → St → Hp → Prop, (∃ m, W 0 m σ H) ∧ ∀ i m σ H, W i m σ H →
      (J.stop i H ∧ D.nx σ H) ∨ (J.go i H ∧ ∃ N : St → Hp → Prop, (∀ σ' H', N σ' H' → ∃ m', m' < m ∧ W (i + 1) m' σ' H') ∧ ∀ x H', J.yld i H x H' → tG K mg tg x σ H' fun σ2 H2 => tS K mg E body { D with nx := N, ct := N, bk := D.nx } σ2 H2) := by
  refine ⟨fun i m σ1 H1 => m = ds.length - i ∧ i ≤ ds.length ∧ ∃ env1 ow1, PostS env0 ow0 H0 env1 ow1 H1 ∧ SR K mg ex env1 ow1 σ1 H1 ∧ Le G (cut (lim ex ow1) H1) ∧ WP (forL tg body (ds.drop i)) env1 (kF K mg ex env0 ow0 H0 D) (kY K mg ex env0 ow0 H0 E),
    ⟨ds.length, by simp, Nat.zero_le _, env, ow, P, S, l, by simpa using w⟩, ?_⟩
  rintro i m σ1 H1 ⟨rfl, hi, env1, ow1, P1, S1, l1, w1⟩
  by_cases hlt : i < ds.length
  · refine .inr ⟨y.go i H1 (l1.trans (cut_le _ _)) hlt, fun σ2 H2 => ∃ env2 ow2, PostS env0 ow0 H0 env2 ow2 H2 ∧ SR K mg ex env2 ow2 σ2 H2 ∧ Le G (cut (lim ex ow2) H2) ∧ WP (forL tg body (ds.drop (i + 1))) env2 (kF K mg ex env0 ow0 H0 D) (kY K mg ex env0 ow0 H0 E), ?_, ?_⟩
    · rintro σ2 H2 ⟨env2, ow2, h⟩
      exact ⟨ds.length - (i + 1), by omega, rfl, hlt, env2, ow2, h⟩
    · intro x H2 q
      obtain ⟨l2, d, hd, r⟩ := y.yld (lim ex ow1) i H1 x H2 (fun a z => S1.there z) l1 hlt q
      have S2 := S1.le l2
      have P2 : PostS env0 ow0 H0 env1 ow1 H2 := P1.trans ((Post.le l2).s S2)
      have l12 : Le G (cut (lim ex ow1) H2) := l1.trans (cut_keep (fun _ h _ => h) fun a o e _ => l2 a o e)
      have hd' : ds.drop i = d :: ds.drop (i + 1) := by
        have e1 : ds[i]? = some (ds[i]'hlt) := List.getElem?_eq_getElem hlt
        rw [e1] at hd
        have e2 : ds[i]'hlt = d := Option.some.inj hd
        rw [← e2]
        exact List.drop_eq_getElem_cons hlt
      rw [hd'] at w1
      refine ⟨ex, env1, ow1, d, S2, r, (WP.bind.mp (show WP ((tg d).bind _) env1 _ _ from w1)).mono (fun f env3 w3 => ?_) fun _ _ _ => True.intro⟩
      intro σ3 H3 ow3 P3 S3
      refine ⟨ex, env3, ow3, S3, (WP.bind.mp w3).mono (fun g env4 w4 => ?_) fun _ _ z => z.go (P2.trans P3)⟩
      have nx : WP (forL tg body (ds.drop (i + 1))) env4 (kF K mg ex env0 ow0 H0 D) (kY K mg ex env0 ow0 H0 E) → ∀ σ4 H4 ow4, PostS env3 ow3 H3 env4 ow4 H4 → SR K mg ex env4 ow4 σ4 H4 →
          ∃ env2 ow2, PostS env0 ow0 H0 env2 ow2 H4 ∧ SR K mg ex env2 ow2 σ4 H4 ∧ Le G (cut (lim ex ow2) H4) ∧ WP (forL tg body (ds.drop (i + 1))) env2 (kF K mg ex env0 ow0 H0 D) (kY K mg ex env0 ow0 H0 E) :=
        fun w5 σ4 H4 ow4 P4 S4 => ⟨env4, ow4, (P2.trans P3).trans P4, S4, (l12.trans P3.cut).trans P4.cut, w5⟩
      cases g with
      | nx => exact nx w4
      | ct => exact nx w4
      | bk => exact fun σ4 H4 ow4 P4 S4 => w4 σ4 H4 ow4 ((P2.trans P3).trans P4) S4
      | rt d o => exact fun v σ4 H4 ow4 P4 R4 => w4 v σ4 H4 ow4 ((P2.trans P3).trans P4) (R4.go (P2.trans P3))
  · have e : i = ds.length := by omega
    subst e
    rw [List.drop_length] at w1
    exact .inl ⟨y.stop _ H1 (l1.trans (cut_le _ _)) (Nat.le_refl _), w1 σ1 H1 ow1 P1 S1⟩
end
section
variable {X : Cx} {E : XK} {tg iter : Expr} {body : List Stmt} {pos : Pos} {src : M (List Dt)} {t : Tg} {b : M Fl}
theorem ds_for (hp : PassesOwn (model X.prog X.w) X.A X.env X.xe) (hc : X.calm = true) (hi : DI X E tg iter src) (hg : DG X tg t) (hb : DB X E body b) (hs : ∀ x, foldedSetIterable iter X.env x = pure x := by intro _; rfl) : DS X E (.For tg iter body [] pos) (mFor src t b) :=
  PS.weak (ps_for hp hc hi hg hb hs) fun D σ H ⟨ex, env, ow, S, w⟩ => ⟨ex, env, ow, S, (WP.bind.mp w).mono (fun ds env1 w1 H1 ow1 J G P1 S1 l y => for_yields (P1.s S1) S1 l y w1) fun _ _ z => z.x⟩
end
end DL

/-! DLf: what is walked, lists that are written. -/
namespace DL
open PySem L2

/-- a list, a tuple or a text -/
def iSeq (K : PySem.W.Frag) (tl : TE) : TI := fun σ H R => tl σ H fun x H1 => (∃ a xs, x = .ref a ∧ SqL K H1 a xs ∧ R (Itl K a) H1) ∨ (∃ a xs, x = .ref a ∧ SqT K H1 a xs ∧ R (Itt K a) H1) ∨ ∃ z, x = .str z ∧ R (Its z) H1
theorem pi_seq {X : Cx} {tg l : Expr} {tl : TE} (hl : PE X l tl) : PI X tg l (iSeq X.K tl) := by
  refine ⟨fun pins s σ H R I h => ?_⟩
  refine thn (hl.run pins s σ H _ I h) fun v s1 ⟨x, H1, I1, r1, q1⟩ => ?_
  rcases q1 with ⟨a, xs, e, hq, q⟩ | ⟨a, xs, e, hq, q⟩ | ⟨z, e, q⟩
  · subst e
    cases r1
    obtain ⟨its, rv, p, hz⟩ := I1.list hq
    refine wpAny_pyIter_list p.isList ?_
    refine ⟨s1.heap.objs.size, [s1.heap.objs.size], _, _, H1, rfl, I1.kept (t' := s1.toks) fun b o e => Heap.get?_push_of_some _ e, turn_list a _, ⟨_, Heap.get?_push_size _ rfl, rfl, rfl⟩, fun b hb => ?_, q⟩
    have e : b = s1.heap.objs.size := by simpa using hb
    subst e
    exact I1.fpOk (Nat.le_refl _) (I1.hok.fresh (Nat.le_refl _))
  · subst e
    cases r1
    obtain ⟨its, rv, p, hz⟩ := I1.tuple hq
    refine wpAny_pyIter_tuple (show s1.heap.IsTuple a its.toArray from p) ?_
    refine ⟨s1.heap.objs.size, [s1.heap.objs.size], _, _, H1, rfl, I1.kept (t' := s1.toks) fun b o e => Heap.get?_push_of_some _ e, turn_tuple a _, ⟨_, Heap.get?_push_size _ rfl, rfl, rfl⟩, fun b hb => ?_, q⟩
    have e : b = s1.heap.objs.size := by simpa using hb
    subst e
    exact I1.fpOk (Nat.le_refl _) (I1.hok.fresh (Nat.le_refl _))
  · subst e
    obtain ⟨t, rfl⟩ := r1
    cases ha : z.cps.all (· < 128)
    · exact wpAny_pyIter_wide ha (pi_one (tk := s1.toks) I1 _ (turn_str _ z t "str_iterator" (.inr rfl)) ⟨_, Heap.get?_push_size _ rfl, rfl, rfl⟩ q)
    · exact wpAny_pyIter_ascii ha (pi_one (tk := s1.toks) I1 _ (turn_str _ z t "str_ascii_iterator" (.inl rfl)) ⟨_, Heap.get?_push_size _ rfl, rfl, rfl⟩ q)

def itemsD (d : Dt) : M (List Dt) := fun env => match d with
  | .lst ds => some (.ok ds env)
  | .scr ds => some (.ok ds env)
  | .tup ds => some (.ok ds env)
  | .str s => some (.ok (signs s.cps.toList) env)
  | _ => none
def mItems (m : M R) : M (List Dt) := m.bind fun r => (frz r).bind itemsD
def bndR (a b : Int) : Prop := -1000000000 ≤ a ∧ a ≤ 1000000000 ∧ -1000000000 ≤ b ∧ b ≤ 1000000000
instance (a b : Int) : Decidable (bndR a b) := by unfold bndR; infer_instance
def rng1 (l : List R) : M (List Dt) := fun env => match rsA env l with
  | some [.int n] => if bndR 0 n then some (.ok (rangeD 0 n.toNat) env) else none
  | _ => none
def rng2 (l : List R) : M (List Dt) := fun env => match rsA env l with
  | some [.int a, .int b] => if bndR a b then some (.ok (rangeD a (b - a).toNat) env) else none
  | _ => none
def mRng1 (a : M R) : M (List Dt) := (mA [a]).bind rng1
def mRng2 (a b : M R) : M (List Dt) := (mA [a, b]).bind rng2
def enum1 (l : List R) : M (List Dt) := match l with
  | [r] => (frz r).bind fun d => (itemsD d).bind fun ds => M.pure (enumD 0 ds)
  | _ => fun _ => none
def mEnum (a : M R) : M (List Dt) := (mA [a]).bind enum1

section
variable {K : PySem.W.Frag} {mg : Str → Option Value} {ex ex' : Addr → Prop} {env env' env'' : Env} {ow ow' ow'' : Ow} {σ σ' : St} {H H' H'' : Hp} {E : XK}
theorem WP.itemsD {d : Dt} {v : V} {L : Addr → Prop} {k : List Dt → Env → Prop} {x : Xn → Env → Prop} (r : Rep K mg (DL.cut L H) v d) (w : WP (itemsD d) env k x) :
    (∃ a xs ds, v = .ref a ∧ SqL K (DL.cut L H) a xs ∧ RepA K mg (DL.cut L H) xs ds ∧ k ds env) ∨ (∃ a xs ds, v = .ref a ∧ SqT K (DL.cut L H) a xs ∧ RepA K mg (DL.cut L H) xs ds ∧ k ds env) ∨ ∃ z, v = .str z ∧ k (signs z.cps.toList) env := by
  cases d with
  | lst ds => cases r with | lst h1 h2 => exact .inl ⟨_, _, _, rfl, SqL.of h1, h2, w⟩
  | scr ds => cases r with | scr h1 h2 => exact .inl ⟨_, _, _, rfl, h1, h2, w⟩
  | tup ds => cases r with | tup h1 h2 => exact .inr (.inl ⟨_, _, _, rfl, h1, h2, w⟩)
  | str s => cases r; exact .inr (.inr ⟨_, rfl, w⟩)
  | _ => exact w.elim
theorem t_items {m : M R} (σ : St) (H : Hp) (R : It → Hp → Prop) (h : tI K mg E (mItems m) σ H R) : iSeq K (tM K mg E m) σ H R := by
  obtain ⟨ex, env, ow, S, w⟩ := h
  refine ⟨ex, env, ow, S, (WP.bind.mp w).mono (fun ra env1 w1 v1 H1 ow1 P1 R1 => ?_) fun _ _ z => z⟩
  obtain ⟨d, env2, ow2, S2, P2, r2, w2⟩ := WP.frz R1.sr (R1.held S.tr) (WP.bind.mp w1)
  rcases WP.itemsD r2 w2 with ⟨a, xs, ds, e, h1, h2, k⟩ | ⟨a, xs, ds, e, h1, h2, k⟩ | ⟨z, e, k⟩
  · exact .inl ⟨a, xs, e, (cut_le _ _).l h1, k H1 ow2 _ _ (P1.trans P2) S2 (.refl _) (yields_list h1 h2)⟩
  · exact .inr (.inl ⟨a, xs, e, (cut_le _ _).t h1, k H1 ow2 _ _ (P1.trans P2) S2 (.refl _) (yields_tup h1 h2)⟩)
  · exact .inr (.inr ⟨z, e, k H1 ow2 _ _ (P1.trans P2) S2 (.refl _) (yields_str z)⟩)
theorem Paired.one {α β : Type} {F : α → β → Prop} : ∀ {x : List α} {b : β}, Paired F x [b] → ∃ a, x = [a] ∧ F a b
  | _, _, .cons h .nil => ⟨_, rfl, h⟩
theorem Paired.two {α β : Type} {F : α → β → Prop} : ∀ {x : List α} {b c : β}, Paired F x [b, c] → ∃ a a', x = [a, a'] ∧ F a b ∧ F a' c
  | _, _, _, .cons h (.cons h' .nil) => ⟨_, _, rfl, h, h'⟩
theorem t_rng1 {a : M R} (σ : St) (H : Hp) (R : It → Hp → Prop) (h : tI K mg E (mRng1 a) σ H R) : iRng1 (tMa K mg E (mA [a])) σ H R := by
  obtain ⟨ex, env, ow, S, w⟩ := h
  refine ⟨ex, env, ow, S, (WP.bind.mp w).mono (fun l env1 w1 vs H1 ow1 P1 S1 hh => ?_) fun _ _ z => z⟩
  unfold WP rng1 at w1
  cases e : rsA env1 l with
  | none => simp only [e] at w1
  | some ds =>
    have q := rsA_rdb S1 hh e
    rw [e] at w1
    split at w1
    · rename_i r env' heq
      split at heq
      · rename_i n hab
        cases hab
        obtain ⟨v, e1, q1⟩ := Paired.one q
        have e2 := q1.int
        subst e2
        by_cases hb : bndR 0 n
        · rw [if_pos hb] at heq
          cases heq
          unfold bndR at hb
          exact ⟨n, e1, by omega, by omega, w1 H1 ow1 _ _ P1 S1 (.refl _) (yields_range 0 n.toNat)⟩
        · rw [if_neg hb] at heq; cases heq
      · cases heq
    · rename_i z env' heq
      split at heq
      · split at heq <;> cases heq
      · cases heq
    · exact w1.elim
theorem t_rng2 {a b : M R} (σ : St) (H : Hp) (R : It → Hp → Prop) (h : tI K mg E (mRng2 a b) σ H R) : iRng2 (tMa K mg E (mA [a, b])) σ H R := by
  obtain ⟨ex, env, ow, S, w⟩ := h
  refine ⟨ex, env, ow, S, (WP.bind.mp w).mono (fun l env1 w1 vs H1 ow1 P1 S1 hh => ?_) fun _ _ z => z⟩
  unfold WP rng2 at w1
  cases e : rsA env1 l with
  | none => simp only [e] at w1
  | some ds =>
    have q := rsA_rdb S1 hh e
    rw [e] at w1
    split at w1
    · rename_i r env' heq
      split at heq
      · rename_i a b hab
        cases hab
        obtain ⟨v, v', e1, q1, q2⟩ := Paired.two q
        have e2 := q1.int
        have e3 := q2.int
        subst e2; subst e3
        by_cases hb : bndR a b
        · rw [if_pos hb] at heq
          cases heq
          unfold bndR at hb
          exact ⟨a, b, e1, ⟨by omega, by omega, by omega, by omega⟩, w1 H1 ow1 _ _ P1 S1 (.refl _) (yields_range a (b - a).toNat)⟩
        · rw [if_neg hb] at heq; cases heq
      · cases heq
    · rename_i z env' heq
      split at heq
      · split at heq <;> cases heq
      · cases heq
    · exact w1.elim
end
section
variable {X : Cx} {E : XK} {tg a b : Expr} {es : List Expr} {p pos : Pos} {ma mb : M R}
theorem di_seq (h : DE X E a ma) : DI X E tg a (mItems ma) := PI.weak (pi_seq h) t_items
theorem di_rng1 (hg : Gl X "range") (hm : X.mg "range" = none) (ha : DE X E a ma) (hs : starEach [a] X.env = [(false, eval a X.env)] := by rfl) : DI X E tg (.Call (.Name "range" p) [a] [] pos) (mRng1 ma) := PI.weak (pi_range1 hg hm (da_cons ha da_nil (by rw [hs] <;> rfl)) hs) t_rng1
theorem di_rng2 (hg : Gl X "range") (hm : X.mg "range" = none) (ha : DE X E a ma) (hb : DE X E b mb) (hs : starEach [a, b] X.env = [(false, eval a X.env), (false, eval b X.env)] := by rfl) (hs2 : starEach [b] X.env = [(false, eval b X.env)] := by rfl) :
    DI X E tg (.Call (.Name "range" p) [a, b] [] pos) (mRng2 ma mb) := PI.weak (pi_range2 hg hm (da_cons ha (da_cons hb da_nil (by rw [hs2] <;> rfl)) (by rw [hs, hs2] <;> rfl)) hs hs2) t_rng2
end

/-! ### lists that are written -/
def frzA : List R → M (List Dt)
  | [] => M.pure []
  | r :: l => (frz r).bind fun d => (frzA l).bind fun ds => M.pure (d :: ds)
def mutS (i : Nat) (g : List Dt → List Dt → Option (List Dt × Dt)) (es : List Dt) : M R := fun env => match gs env i with
  | some (.lst ds, .ow) => match g ds es with
    | some (ys, d) => some (.ok (.val d) (env.set i (some (.lst ys, .ow))))
    | none => none
  | some (.lst ds, .io) => match g ds es with
    | some (ys, d) => some (.ok (.val d) (env.set i (some (.lst ys, .io))))
    | none => none
  | _ => none
def mMut (i : Nat) (g : List Dt → List Dt → Option (List Dt × Dt)) (l : List (M R)) : M R := (mN i).bind fun _ => (mA l).bind fun rs => (frzA rs).bind (mutS i g)
def MutS (K : PySem.W.Frag) (mg : Str → Option Value) (r : V → List V → Hp → VK → Prop) (g : List Dt → List Dt → Option (List Dt × Dt)) : Prop :=
  ∀ (G H : Hp) (l : Addr) (xs vs : List V) (ds es ys : List Dt) (d : Dt) (Q : VK), Le G H → H l = some (.lst xs) → RepA K mg G xs ds → RepA K mg G vs es → g ds es = some (ys, d) →
    (∀ v zs, RepA K mg G zs ys → Rep K mg G v d → Q v (upd H l (.lst zs))) → r (.ref l) vs H Q
section
variable {K : PySem.W.Frag} {mg : Str → Option Value} {ex ex' : Addr → Prop} {env env' env'' : Env} {ow ow' ow'' : Ow} {σ σ' : St} {H H' H'' : Hp} {E : XK}
theorem cut_upd {L : Addr → Prop} {a : Addr} {o : HO} (h : L a) : cut L (upd H a o) = cut L H := by
  funext b
  unfold cut
  by_cases e : L b
  · rw [if_pos e, if_pos e]
  · rw [if_neg e, if_neg e, upd_ne]
    intro z; subst z; exact e h
theorem SR.write {i : Nat} {a : Addr} {ob : HO} {d d' : Dt} {m : Md} (S : SR K mg ex env ow σ H) (hm : m = .ow ∨ m = .io) (h : gs env i = some (d, m)) (ha : ow i = some a) (r : OwnR K mg (cut (lim ex ow) H) ob d') : SR K mg ex (env.set i (some (d', m))) ow σ (upd H a ob) := by
  have la : lim ex ow a := .inr ⟨i, ha⟩
  have hi : i < env.length := by
    unfold gs at h
    cases z : env[i]? with
    | none => rw [z] at h; cases h
    | some y => exact (List.getElem?_eq_some_iff.mp z).1
  refine ⟨by simpa using S.len, fun j => ?_, S.inj, S.dis, fun b z => ?_⟩
  · rw [cut_upd la]
    by_cases e : j = i
    · subst e
      rw [gs_set_self hi]
      have q := S.slot j
      rw [h] at q
      rcases hm with rfl | rfl
      · obtain ⟨a', ob', e1, e2, e3, _⟩ := q
        rw [ha] at e1; cases e1
        exact ⟨a, ob, ha, e2, upd_same, r⟩
      · obtain ⟨a', ob', e1, e2, e3, _⟩ := q
        rw [ha] at e1; cases e1
        exact ⟨a, ob, ha, e2, upd_same, r⟩
    · rw [gs_set_ne (Ne.symm e)]
      have q := S.slot j
      have keep : ∀ b o, ow j = some b → H b = some o → upd H a ob b = some o := fun b o hb ho => by
        rw [upd_ne (fun z => e (S.inj j i a (by rw [← z]; exact hb) ha))]
        exact ho
      cases z : gs env j with
      | none => rw [z] at q; exact q
      | some y =>
        obtain ⟨dj, mj⟩ := y
        rw [z] at q
        cases mj with
        | fz => exact q
        | ow => obtain ⟨b, o, e1, e2, e3, r⟩ := q; exact ⟨b, o, e1, e2, keep b o e1 e3, r⟩
        | io => obtain ⟨b, o, e1, e2, e3, r⟩ := q; exact ⟨b, o, e1, e2, keep b o e1 e3, r⟩
  · rw [upd_ne (fun e => S.dis i a ha (by rw [← e]; exact z))]
    exact S.tr b z
theorem Post.write {i : Nat} {a : Addr} {ob : HO} {d d' : Dt} {m : Md} (h : gs env i = some (d, m)) (ha : ow i = some a) : Post env ow H (env.set i (some (d', m))) ow (upd H a ob) := by
  refine ⟨fun b o e n => ?_, fun _ _ h => h, fun j d0 e => ?_, fun b e => ?_⟩
  · rw [upd_ne (fun z => n ⟨i, by rw [z]; exact ha⟩)]; exact e
  · by_cases z : i = j
    · subst z
      rw [h] at e; cases e
      have hi : i < env.length := by
        unfold gs at h
        cases z : env[i]? with
        | none => rw [z] at h; cases h
        | some y => exact (List.getElem?_eq_some_iff.mp z).1
      exact ⟨d', by rw [gs_set_self hi]⟩
    · exact ⟨d0, by rw [gs_set_ne z]; exact e⟩
  · by_cases z : b = a
    · subst z; rw [upd_same]; exact fun q => nomatch q
    · rw [upd_ne z]; exact e
theorem WP.frzA {x : Xn → Env → Prop} : ∀ {l : List R} {vs : List V} {env : Env} {ow : Ow} {k : List Dt → Env → Prop}, SR K mg ex env ow σ H → Paired (Held K mg ex ow σ H) l vs → WP (frzA l) env k x →
    ∃ ds env' ow', SR K mg ex env' ow' σ H ∧ Post env ow H env' ow' H ∧ RepA K mg (DL.cut (lim ex ow') H) vs ds ∧ k ds env'
  | [], _, env, ow, k, S, .nil, w => ⟨[], env, ow, S, .refl, .nil, w⟩
  | r :: l, v :: vs, env, ow, k, S, .cons h t, w => by
    obtain ⟨d, env1, ow1, S1, P1, r1, w1⟩ := WP.frz S h (WP.bind.mp (show WP ((DL.frz r).bind _) env _ _ from w))
    obtain ⟨ds, env2, ow2, S2, P2, r2, w2⟩ := WP.frzA (x := x) S1 (Held.postA S P1 t) (WP.bind.mp w1)
    exact ⟨d :: ds, env2, ow2, S2, P1.trans P2, .cons (r1.mono (P2.cut S1)) r2, w2⟩
/-- a slot's object is written -/
theorem WP.mutS {r : V → List V → Hp → VK → Prop} {g : List Dt → List Dt → Option (List Dt × Dt)} (hg : MutS K mg r g) {i : Nat} {x : V} {vs : List V} {es : List Dt} {k : R → Env → Prop} {xx : Xn → Env → Prop} {Q : VK} (S : SR K mg ex env ow σ H) (hx : gv σ i = some x)
    (rv : RepA K mg (DL.cut (lim ex ow) H) vs es) (w : WP (mutS i g es) env k xx)
    (fin : ∀ d env' v H', SR K mg ex env' ow σ H' → Post env ow H env' ow H' → Rep K mg (DL.cut (lim ex ow) H') v d → k (.val d) env' → Q v H') : r x vs H Q := by
  unfold WP DL.mutS at w
  have q := S.slot i
  rw [hx] at q
  have go : ∀ (ds : List Dt) (m : Md), (m = .ow ∨ m = .io) → gs env i = some (.lst ds, m) → ∀ ys d, g ds es = some (ys, d) → k (.val d) (env.set i (some (.lst ys, m))) → r x vs H Q := fun ds m hm e ys d e2 kk => by
    have q' : ∃ a ob, ow i = some a ∧ some x = some (.ref a) ∧ H a = some ob ∧ OwnR K mg (DL.cut (lim ex ow) H) ob (.lst ds) := by
      rw [e] at q
      rcases hm with rfl | rfl
      · exact q
      · exact q
    obtain ⟨a, ob, e3, e4, e5, xs, ds', e6, e7, rr⟩ := q'
    cases e4; cases e7; subst e6
    refine hg (DL.cut (lim ex ow) H) H a xs vs ds es ys d Q (cut_le _ _) e5 rr rv e2 fun v zs r1 r2 => ?_
    refine fin d _ v _ (S.write hm e e3 ⟨zs, ys, rfl, rfl, r1⟩) (.write e e3) ?_ kk
    rw [cut_upd (.inr ⟨i, e3⟩)]
    exact r2
  cases e : gs env i with
  | none => simp only [e] at w
  | some y =>
    obtain ⟨d0, m⟩ := y
    cases d0 with
    | lst ds =>
      cases m with
      | fz => simp only [e] at w
      | ow =>
        cases e2 : g ds es with
        | none => simp only [e, e2] at w
        | some p =>
          obtain ⟨ys, d⟩ := p
          simp only [e, e2] at w
          exact go ds .ow (.inl rfl) e ys d e2 w
      | io =>
        cases e2 : g ds es with
        | none => simp only [e, e2] at w
        | some p =>
          obtain ⟨ys, d⟩ := p
          simp only [e, e2] at w
          exact go ds .io (.inr rfl) e ys d e2 w
    | _ => simp only [e] at w
theorem WP.mN {i : Nat} {k : R → Env → Prop} {x : Xn → Env → Prop} (S : SR K mg ex env ow σ H) (w : WP (mN i) env k x) : ∃ v r, gv σ i = some v ∧ k r env ∧ ROk K mg ex env ow σ H H r v := by
  unfold WP DL.mN at w
  have q := S.slot i
  cases e : gs env i with
  | none => simp only [e] at w
  | some y =>
    obtain ⟨d, m⟩ := y
    rw [e] at q
    cases m with
    | fz =>
      simp only [e] at w
      obtain ⟨_, v, e1, r⟩ := q
      exact ⟨v, _, e1, w, S, r⟩
    | ow =>
      simp only [e] at w
      obtain ⟨a, ob, _, e1, _⟩ := q
      exact ⟨_, _, e1, w, S, e1, by rw [e]; exact fun z => nomatch z⟩
    | io =>
      simp only [e] at w
      obtain ⟨a, ob, _, e1, _⟩ := q
      exact ⟨_, _, e1, w, S, e1, by rw [e]; exact fun z => nomatch z⟩
/-- an owned slot holds a list -/
theorem SR.isList (S : SR K mg ex env ow σ H) {i : Nat} {v : V} (hv : gv σ i = some v) {d : Dt} {m : Md} (e : gs env i = some (d, m)) (hm : m = .ow ∨ m = .io) : ∃ a xs, v = .ref a ∧ H a = some (.lst xs) := by
  have q := S.slot i
  rw [e, hv] at q
  have q' : ∃ a ob, ow i = some a ∧ some v = some (.ref a) ∧ H a = some ob ∧ OwnR K mg (DL.cut (lim ex ow) H) ob d := by
    rcases hm with rfl | rfl
    · exact q
    · exact q
  obtain ⟨a, ob, _, e2, e3, xs, ds, e4, _, _⟩ := q'
  cases e2; subst e4
  exact ⟨a, xs, rfl, e3⟩
end
end DL

/-! DLg: methods and items of lists that are written. -/
namespace DL
open PySem L2

/-- a slot that holds a list of ours -/
def mLs (i : Nat) : M R := fun env => match gs env i with
  | some (.lst _, .ow) => some (.ok (.loc i) env)
  | some (.lst _, .io) => some (.ok (.loc i) env)
  | _ => none
def mMt (i : Nat) (g : List Dt → List Dt → Option (List Dt × Dt)) (l : List (M R)) : M R := (mLs i).bind fun _ => (mA l).bind fun rs => (frzA rs).bind (mutS i g)
/-- xs[k] = v -/
def setIx (i : Nat) (d : Dt) (r : R) : M Fl := fun env => match rs env r with
  | some (.int k) => match gs env i with
    | some (.lst ds, .ow) => match ixN ds.length k with
      | some j => some (.ok .nx (env.set i (some (.lst (ds.set j d), .ow))))
      | none => none
    | some (.lst ds, .io) => match ixN ds.length k with
      | some j => some (.ok .nx (env.set i (some (.lst (ds.set j d), .io))))
      | none => none
    | _ => none
  | _ => none
def gIx (i : Nat) (mi : M R) : Tg := fun d => (mLs i).bind fun _ => mi.bind (setIx i d)
def mAsg (m : M R) (t : Tg) : M Fl := m.bind fun r => (frz r).bind fun d => (t d).bind fun _ => M.pure .nx

section
variable {K : PySem.W.Frag} {mg : Str → Option Value} {ex ex' : Addr → Prop} {env env' env'' : Env} {ow ow' ow'' : Ow} {σ σ' : St} {H H' H'' : Hp} {E : XK}
theorem WP.mLs {i : Nat} {k : R → Env → Prop} {x : Xn → Env → Prop} (S : SR K mg ex env ow σ H) (w : WP (mLs i) env k x) : ∃ a xs, gv σ i = some (.ref a) ∧ H a = some (.lst xs) ∧ k (.loc i) env ∧ gs env i ≠ none := by
  unfold WP DL.mLs at w
  have q := S.slot i
  cases e : gs env i with
  | none => simp only [e] at w
  | some y =>
    obtain ⟨d, m⟩ := y
    rw [e] at q
    cases d with
    | lst ds =>
      cases m with
      | fz => simp only [e] at w
      | ow =>
        simp only [e] at w
        obtain ⟨a, ob, _, e1, e2, xs, ds', e3, e4, _⟩ := q
        subst e3
        exact ⟨a, xs, e1, e2, w, fun z => nomatch z⟩
      | io =>
        simp only [e] at w
        obtain ⟨a, ob, _, e1, e2, xs, ds', e3, e4, _⟩ := q
        subst e3
        exact ⟨a, xs, e1, e2, w, fun z => nomatch z⟩
    | _ => simp only [e] at w
theorem WP.mLs' {i : Nat} {k : R → Env → Prop} {x : Xn → Env → Prop} (w : WP (DL.mLs i) env k x) : DL.mLs i env = some (.ok (.loc i) env) := by
  unfold WP at w
  unfold DL.mLs at w ⊢
  cases e : gs env i with
  | none => simp only [e] at w
  | some y =>
    obtain ⟨d, m⟩ := y
    cases d <;> cases m <;> first | rfl | (simp only [e] at w)
theorem t_mls {i : Nat} (σ : St) (H : Hp) (Q : VK) (h : tM K mg E (mLs i) σ H Q) : tVar i σ H Q := by
  obtain ⟨ex, env, ow, S, w⟩ := h
  obtain ⟨a, xs, e1, e2, k, ne⟩ := WP.mLs S w
  exact ⟨_, gv_some e1, k _ H ow .refl ⟨S, e1, ne⟩⟩
theorem t_mt {r : V → List V → Hp → VK → Prop} {g : List Dt → List Dt → Option (List Dt × Dt)} {i : Nat} {l : List (M R)} (hg : MutS K mg r g) (σ : St) (H : Hp) (Q : VK) (h : tM K mg E (mMt i g l) σ H Q) : tBM K "list" r (tM K mg E (mLs i)) (tMa K mg E (mA l)) σ H Q := by
  obtain ⟨ex, env, ow, S, w⟩ := h
  obtain ⟨a, xs, e1, e2, k, ne⟩ := WP.mLs S (WP.bind.mp w)
  have hl := WP.mLs' (WP.bind.mp w)
  refine ⟨ex, env, ow, S, ?_⟩
  unfold WP
  rw [hl]
  intro v H1 ow1 P1 R1
  obtain ⟨S1, hv, _⟩ := R1
  rw [e1] at hv; cases hv
  have q1 : ∃ ys, H1 a = some (.lst ys) := by
    have z : gs env i ≠ none := ne
    cases e : gs env i with
    | none => exact absurd e z
    | some y =>
      obtain ⟨d, m⟩ := y
      have hm : m = .ow ∨ m = .io := by
        unfold DL.mLs at hl
        rw [e] at hl
        cases d <;> cases m <;> first | exact .inl rfl | exact .inr rfl | (cases hl)
      have qs := S1.slot i
      rw [e, e1] at qs
      have qs' : ∃ a' ob, ow1 i = some a' ∧ some (V.ref a) = some (V.ref a') ∧ H1 a' = some ob ∧ OwnR K mg (DL.cut (lim ex ow1) H1) ob d := by
        rcases hm with rfl | rfl
        · exact qs
        · exact qs
      obtain ⟨a', ob, _, e4, e5, ys, ds, e6, _, _⟩ := qs'
      cases e4; subst e6
      exact ⟨ys, e5⟩
  obtain ⟨ys, q1⟩ := q1
  refine ⟨.inl ⟨rfl, ys, SqL.of q1⟩, ex, env, ow1, S1, (WP.bind.mp k).mono (fun rs env2 w2 vs H2 ow2 P2 S2 hh => ?_) fun _ _ z => z.go P1⟩
  obtain ⟨es, env3, ow3, S3, P3, r3, w3⟩ := WP.frzA S2 hh (WP.bind.mp w2)
  exact WP.mutS hg S3 e1 r3 w3 fun d env4 v H4 S4 P4 r4 k4 => k4 v H4 ow3 (((P1.trans P2).trans P3).trans P4) ⟨S4, r4⟩
theorem t_mt0 {r : V → List V → Hp → VK → Prop} {g : List Dt → List Dt → Option (List Dt × Dt)} {i : Nat} (hg : MutS K mg r g) (σ : St) (H : Hp) (Q : VK) (h : tM K mg E (mMt i g []) σ H Q) : tBM0 K "list" r (tM K mg E (mLs i)) σ H Q := by
  obtain ⟨ex, env, ow, S, w⟩ := t_mt hg σ H Q h
  refine ⟨ex, env, ow, S, w.mono (fun ra env1 w1 v1 H1 ow1 P1 R1 => ?_) fun _ _ z => z⟩
  obtain ⟨ty, ex', env', ow', S', w'⟩ := w1 v1 H1 ow1 P1 R1
  exact ⟨ty, w' [] H1 ow' .refl S' .nil⟩
end
section
variable {X : Cx} {E : XK} {o e : Expr} {es : List Expr} {name : Str} {apos cpos pos : Pos} {id : String} {r : V → List V → Hp → VK → Prop} {i : Nat} {g : List Dt → List Dt → Option (List Dt × Dt)} {me : M R} {ml : List (M R)}
theorem dls (h : PE X o (tVar i)) : DE X E o (mLs i) := PE.weak h t_mls
theorem d_mt0 (slot : Slot "list" name id) (hty : typeOf (.builtin id) = pure (.type "method_descriptor")) (hm : MtR X id r) (hg : MutS X.K X.mg r g) (ho : PE X o (tVar i))
    (hbase : attributeBase o name X.env (eval o X.env) = eval o X.env := by rfl) (hline : (apos.endLine == cpos.line) = true := by rfl) : DE X E (.Call (.Attribute o name apos) [] [] cpos) (mMt i g []) :=
  PE.weak (pe_bm0 PySem.F.plainAttrs_list slot hty hm (dls (E := E) ho) hbase hline) (t_mt0 hg)
theorem d_mt (slot : Slot "list" name id) (hty : typeOf (.builtin id) = pure (.type "method_descriptor")) (hm : MtR X id r) (hg : MutS X.K X.mg r g) (ho : PE X o (tVar i)) (ha : DA X E (e :: es) ml)
    (hbase : attributeBase o name X.env (eval o X.env) = eval o X.env := by rfl)
    (hfew : ((backTo cpos (starEach (e :: es) X.env)).all (fun x => !x.1) && (backToKw cpos (keywordEach [] X.env)).all (fun x => x.1.isSome)
      && decide ((e :: es).length + ([] : List Keyword).length + (if ([] : List Keyword).isEmpty then 0 else 1) < 30)) = true := by rfl)
    (hline : (apos.endLine == cpos.line) = true := by rfl) (hs : starEach (e :: es) X.env = (false, eval e X.env) :: starEach es X.env := by rfl) (hplain : (backTo cpos (starEach es X.env)).any (·.1) = false := by rfl) :
    DE X E (.Call (.Attribute o name apos) (e :: es) [] cpos) (mMt i g ml) :=
  PE.weak (pe_bm PySem.F.plainAttrs_list slot hty hm (dls (E := E) ho) ha hbase hfew hline hs hplain) (t_mt hg)

def gApp : List Dt → List Dt → Option (List Dt × Dt) := fun ds es => match es with
  | [e] => if ds.length < 100000 then some (ds ++ [e], .non) else none
  | _ => none
def gPop : List Dt → List Dt → Option (List Dt × Dt) := fun ds es => match es with
  | [] => match ds[ds.length - 1]? with
    | some d => some (ds.dropLast, d)
    | none => none
  | _ => none
def gPopAt : List Dt → List Dt → Option (List Dt × Dt) := fun ds es => match es with
  | [.int k] => if 0 ≤ k ∧ k < ds.length ∧ ds.length ≤ 100000 then match ds[k.toNat]? with
    | some d => some (ds.eraseIdx k.toNat, d)
    | none => none
    else none
  | _ => none
theorem RepA.dropLast {K : PySem.W.Frag} {mg : Str → Option Value} {H : Hp} : ∀ {vs : List V} {ds : List Dt}, RepA K mg H vs ds → RepA K mg H vs.dropLast ds.dropLast
  | _, _, .nil => .nil
  | _, _, .cons r .nil => .nil
  | _, _, .cons r (.cons q t) => .cons r (RepA.dropLast (.cons q t))
theorem RepA.eraseIdx {K : PySem.W.Frag} {mg : Str → Option Value} {H : Hp} : ∀ {vs : List V} {ds : List Dt} (i : Nat), RepA K mg H vs ds → RepA K mg H (vs.eraseIdx i) (ds.eraseIdx i)
  | _, _, _, .nil => .nil
  | _, _, 0, .cons _ t => t
  | _, _, i + 1, .cons r t => .cons r (RepA.eraseIdx i t)
theorem mu_app {K : PySem.W.Frag} {mg : Str → Option Value} : MutS K mg rAppend gApp := by
  intro G H l xs vs ds es ys d Q hG hl r1 r2 e fin
  match es, r2, e with
  | [e1], .cons (v := v) r3 .nil, e =>
    by_cases h : ds.length < 100000
    · have e' : (if ds.length < 100000 then some (ds ++ [e1], Dt.non) else none) = some (ys, d) := e
      rw [if_pos h] at e'; cases e'
      exact ⟨l, xs, v, rfl, rfl, hl, by rw [r1.length]; exact Nat.lt_of_lt_of_le h (by decide), fin .non _ (r1.append (.cons r3 .nil)) .non⟩
    · have e' : (if ds.length < 100000 then some (ds ++ [e1], Dt.non) else none) = some (ys, d) := e
      rw [if_neg h] at e'; cases e'
theorem mu_pop {K : PySem.W.Frag} {mg : Str → Option Value} : MutS K mg rPop gPop := by
  intro G H l xs vs ds es ys d Q hG hl r1 r2 e fin
  match es, r2, e with
  | [], .nil, e =>
    cases h : ds[ds.length - 1]? with
    | none => simp only [gPop, h] at e; cases e
    | some z =>
      simp only [gPop, h] at e; cases e
      obtain ⟨v, h1, h2⟩ := r1.get h
      exact ⟨l, xs, v, rfl, rfl, hl, by rw [r1.length]; exact h1, fin v _ r1.dropLast h2⟩
theorem mu_popAt {K : PySem.W.Frag} {mg : Str → Option Value} : MutS K mg rPopAt gPopAt := by
  intro G H l xs vs ds es ys d Q hG hl r1 r2 e fin
  match es, r2, e with
  | [.int k], .cons (v := v) r3 .nil, e =>
    cases r3
    have e' : (if 0 ≤ k ∧ k < ds.length ∧ ds.length ≤ 100000 then (match ds[k.toNat]? with
      | some d => some (ds.eraseIdx k.toNat, d)
      | none => none) else none) = some (ys, d) := e
    by_cases h : 0 ≤ k ∧ k < ds.length ∧ ds.length ≤ 100000
    · rw [if_pos h] at e'
      cases h2 : ds[k.toNat]? with
      | none => simp only [h2] at e'; cases e'
      | some z =>
        simp only [h2] at e'; cases e'
        obtain ⟨v, h3, h4⟩ := r1.get h2
        refine ⟨l, xs, k, k.toNat, v, rfl, rfl, hl, by omega, by omega, ?_, h3, fin v _ (r1.eraseIdx _) h4⟩
        exact PySem.StrLaws.seqIndex_nonneg h.1 (by rw [r1.length]; exact h.2.1)
    · rw [if_neg h] at e'; cases e'
theorem d_append (ho : PE X o (tVar i)) (ha : DE X E e me) (hbase : attributeBase o "append" X.env (eval o X.env) = eval o X.env := by rfl)
    (hfew : ((backTo cpos (starEach [e] X.env)).all (fun x => !x.1) && (backToKw cpos (keywordEach [] X.env)).all (fun x => x.1.isSome)
      && decide ([e].length + ([] : List Keyword).length + (if ([] : List Keyword).isEmpty then 0 else 1) < 30)) = true := by rfl)
    (hline : (apos.endLine == cpos.line) = true := by rfl) (hs : starEach [e] X.env = (false, eval e X.env) :: starEach [] X.env := by rfl) : DE X E (.Call (.Attribute o "append" apos) [e] [] cpos) (mMt i gApp [me]) :=
  d_mt PySem.F.slot_list_append PySem.F.type_list_append mt_append mu_app ho (da_cons ha da_nil hs) hbase hfew hline hs rfl
theorem d_pop (ho : PE X o (tVar i)) (hbase : attributeBase o "pop" X.env (eval o X.env) = eval o X.env := by rfl) (hline : (apos.endLine == cpos.line) = true := by rfl) : DE X E (.Call (.Attribute o "pop" apos) [] [] cpos) (mMt i gPop []) :=
  d_mt0 PySem.F.slot_list_pop PySem.F.type_list_pop mt_pop mu_pop ho hbase hline
theorem d_popAt (ho : PE X o (tVar i)) (ha : DE X E e me) (hbase : attributeBase o "pop" X.env (eval o X.env) = eval o X.env := by rfl)
    (hfew : ((backTo cpos (starEach [e] X.env)).all (fun x => !x.1) && (backToKw cpos (keywordEach [] X.env)).all (fun x => x.1.isSome)
      && decide ([e].length + ([] : List Keyword).length + (if ([] : List Keyword).isEmpty then 0 else 1) < 30)) = true := by rfl)
    (hline : (apos.endLine == cpos.line) = true := by rfl) (hs : starEach [e] X.env = (false, eval e X.env) :: starEach [] X.env := by rfl) : DE X E (.Call (.Attribute o "pop" apos) [e] [] cpos) (mMt i gPopAt [me]) :=
  d_mt PySem.F.slot_list_pop PySem.F.type_list_pop mt_popAt mu_popAt ho (da_cons ha da_nil hs) hbase hfew hline hs rfl
end
section
variable {K : PySem.W.Frag} {mg : Str → Option Value} {ex ex' : Addr → Prop} {env env' env'' : Env} {ow ow' ow'' : Ow} {σ σ' : St} {H H' H'' : Hp} {E : XK}
theorem WP.setIx {i : Nat} {d : Dt} {r : R} {x y v : V} {kk : Fl → Env → Prop} {xx : Xn → Env → Prop} {Q : Hp → Prop} (S : SR K mg ex env ow σ H) (hx : gv σ i = some x) (hy : Held K mg ex ow σ H r y) (rv : Rep K mg (DL.cut (lim ex ow) H) v d) (w : WP (setIx i d r) env kk xx)
    (fin : ∀ env' H', SR K mg ex env' ow σ H' → Post env ow H env' ow H' → kk .nx env' → Q H') : rSetL x y v H Q := by
  unfold WP DL.setIx at w
  cases e1 : rs env r with
  | none => simp only [e1] at w
  | some dk =>
    cases dk with
    | int k =>
      have hk := (hy.rdb S e1).int
      subst hk
      have go : ∀ (ds : List Dt) (m : Md), (m = .ow ∨ m = .io) → gs env i = some (.lst ds, m) → ∀ j, ixN ds.length k = some j → kk .nx (env.set i (some (.lst (ds.set j d), m))) → rSetL x (.int k) v H Q := fun ds m hm e j e2 w2 => by
        have q := S.slot i
        rw [hx] at q
        have q' : ∃ a ob, ow i = some a ∧ some x = some (.ref a) ∧ H a = some ob ∧ OwnR K mg (DL.cut (lim ex ow) H) ob (.lst ds) := by
          rw [e] at q
          rcases hm with rfl | rfl
          · exact q
          · exact q
        obtain ⟨a, ob, e3, e4, e5, xs, ds', e6, e7, rr⟩ := q'
        cases e4; cases e7; subst e6
        exact ⟨a, xs, k, j, rfl, rfl, e5, by rw [rr.length]; exact e2, fin _ _ (S.write hm e e3 ⟨_, _, rfl, rfl, rr.set rv j⟩) (.write e e3) w2⟩
      cases e : gs env i with
      | none => simp only [e1, e] at w
      | some y =>
        obtain ⟨d0, m⟩ := y
        cases d0 with
        | lst ds =>
          cases m with
          | fz => simp only [e1, e] at w
          | ow =>
            cases e2 : ixN ds.length k with
            | none => simp only [e1, e, e2] at w
            | some j => simp only [e1, e, e2] at w; exact go ds .ow (.inl rfl) e j e2 w
          | io =>
            cases e2 : ixN ds.length k with
            | none => simp only [e1, e, e2] at w
            | some j => simp only [e1, e, e2] at w; exact go ds .io (.inr rfl) e j e2 w
        | _ => simp only [e1, e] at w
    | _ => simp only [e1] at w
end
section
variable {X : Cx} {E : XK} {o idx e tg : Expr} {pos : Pos} {i : Nat} {mi m : M R} {t : Tg}
theorem dg_ix (ho : PE X o (tVar i)) (hi : DE X (fun _ _ _ => True) idx mi)
    (ha : ∀ v, assign (.Subscript o idx pos) X.env v = (do
      let ov ← holding [v] (eval o X.env)
      let iv ← holding [v, ov] (eval idx X.env)
      standAt pos
      holding [v, ov, iv] (setItem ov iv v)
      release [v, ov, iv] []) := by intro _; rfl) : DG X (.Subscript o idx pos) (gIx i mi) := PG.weak (pg_sub (dls (E := fun _ _ _ => True) ho) hi set_list ha) fun v σ H Q ⟨ex, env, ow, d, S, r, w⟩ => by
  obtain ⟨a, xs, e1, e2, k, ne⟩ := WP.mLs S (WP.bind.mp w)
  have hl := WP.mLs' (WP.bind.mp w)
  refine ⟨ex, env, ow, S, ?_⟩
  unfold WP
  rw [hl]
  intro v0 H0 ow0 P0 R0
  refine ⟨ex, env, ow0, R0.sr, (WP.bind.mp k).mono (fun r1 env1 w1 v1 H1 ow1 P1 R1 => ?_) fun _ _ _ => fun _ _ _ _ _ _ _ => True.intro⟩
  have hv0 : gv σ i = some v0 := R0.2.1
  refine WP.setIx R1.sr hv0 (R1.held R0.sr.tr) ((r.mono (P0.cut S)).mono (P1.cut R0.sr)) w1 fun env2 H2 S2 P2 k2 => ?_
  exact k2 σ H2 ow1 (((P0.trans P1).trans P2).s S2) S2
theorem ds_asg (he : DE X E e m) (hg : DG X tg t) (hs : swapsWithSole [tg] e pos.line X.env = pure false := by rfl) (hw : swappedStores [tg] e X.env = pure none := by rfl)
    (h1 : (assignEach [tg] X.env).map (·.2) = [assign tg X.env] := by rfl) : DS X E (.Assign [tg] e pos) (mAsg m t) :=
  PS.weak (ps_asg he hg hs hw h1) fun D σ H ⟨ex, env, ow, S, w⟩ => by
    refine ⟨ex, env, ow, S, (WP.bind.mp w).mono (fun r env1 w1 v H1 ow1 P1 R1 => ?_) fun _ _ z => z.x⟩
    obtain ⟨d, env2, ow2, S2, P2, r2, w2⟩ := WP.frz R1.sr (R1.held S.tr) (WP.bind.mp w1)
    refine ⟨ex, env2, ow2, d, S2, r2, (WP.bind.mp w2).mono (fun f env3 k => ?_) fun _ _ _ => True.intro⟩
    intro σ3 H3 ow3 P3 S3
    exact k σ3 H3 ow3 (((P1.trans P2).s S2).trans P3) S3
end
end DL

/-! DLh: defs by what they compute on data; calls of them. -/
namespace DL
open PySem L2

/-- what a call comes to: a value (frozen, or new), or an exception; with the lent lists behind it (.non where nothing is lent) -/
inductive Fr | ret (r : R) (outs : List Dt) | exc (x : Xn) (outs : List Dt)
structure Fs where
  io : List Md
  run : List Dt → Option Fr
def mixE : List Md → List Dt → List Dt → Env
  | .io :: ms, _ :: ds, o :: os => some (o, .io) :: mixE ms ds os
  | _ :: ms, d :: ds, _ :: os => some (d, .fz) :: mixE ms ds os
  | _, _, _ => []
def argE (io : List Md) (ds : List Dt) : Env := mixE io ds ds
def Keep (ow : Ow) (H H' : Hp) : Prop := (∀ a o, H a = some o → ¬ inO ow a → H' a = some o) ∧ ∀ a, H a ≠ none → H' a ≠ none
def isLoc : R → Bool
  | .loc _ => true
  | _ => false
/-- the promise of a def -/
def spOf (K : PySem.W.Frag) (mg : Str → Option Value) (n : Nat) (fs : Fs) : Sp := fun vs H Q E => vs.length = n ∧ ∃ ex ow ds, ds.length = n ∧ SR K mg ex (argE fs.io ds) ow (vs.map some) H ∧ match fs.run ds with
  | some (.ret r outs) => isLoc r = false ∧ ∀ v H', Keep ow H H' → ROk K mg ex (mixE fs.io ds outs) ow (vs.map some) H H' r v → Q v H'
  | some (.exc x outs) => ∀ cls d H', Keep ow H H' → SR K mg ex (mixE fs.io ds outs) ow (vs.map some) H' → XOk K mg (cut (lim ex ow) H') H' x cls d → E cls d H'
  | none => False

/-! ### a def where no guard runs -/
structure FnG (P : Program) (w : World) (K : PySem.W.Frag) (mg : Str → Option Value) (base : Heap) (k : Nat) (f : Addr) (fd : FuncData) (ps : List Str) (sp : Sp) : Prop where
  len : ∀ vs H Q E, sp vs H Q E → vs.length = ps.length
  run : ∀ (A : Around) (outer : List PySem.Env) (s : Shared) (H : Hp) (args : Args) (us : List Value) (vs : List V) (Q : VK) (E : XK), A.guards = some [] → Room k A → Env0 P w K mg base A outer s H → BindsTo s fd args (ps.zip us) → Vals vs us → sp vs H Q E →
    codeAny (model P w) A (.call (.ref f) args) (CR (L2.CX P w) outer P w H s Q E) s
theorem FnG.mono {P : Program} {w : World} {K : PySem.W.Frag} {mg : Str → Option Value} {base : Heap} {j k : Nat} {f : Addr} {fd : FuncData} {ps : List Str} {sp : Sp} (F : FnG P w K mg base j f fd ps sp) (h : j ≤ k) : FnG P w K mg base k f fd ps sp :=
  ⟨F.len, fun A outer s H args us vs Q E g hr => F.run A outer s H args us vs Q E g (hr.mono h)⟩

/-- what the body of a def may lean on -/
structure Bd (X : Cx) (k : Nat) (E : XK) : Prop where
  calm : X.calm = true
  room : Room k X.A
  gd : X.A.guards = some []
  ps : Passes (L2.CX X.prog X.w) X E
  own : PassesOwn (model X.prog X.w) X.A X.env X.xe
  tk : Takes X (fun cls d _ H => E cls d H)

section
variable {P : Program} {w : World} {K : PySem.W.Frag} {mg : Str → Option Value} {base : Heap}
/-- by its body -/
theorem fn_body {x qual : Str} {st : Stmt} {f : Addr} {fd : FuncData} {N ps : List Str} {k : Nat} {sp : Sp} (F : Fun K x qual st f fd) (S : FnScope N ps (defScope st)) (len : ∀ vs H Q E, sp vs H Q E → vs.length = ps.length)
    (hbody : ∀ (cdv : Value) (A : Around) (outer : List PySem.Env) (s : Shared) (H : Hp) (vs : List V) (Q : VK) (E : XK), Bd (cxOf (L2.CX P w) P w K mg base N qual (defScope st) f cdv A outer s H E) k E → sp vs H Q E →
      ∃ t, PSs (cxOf (L2.CX P w) P w K mg base N qual (defScope st) f cdv A outer s H E) (defBody st) t ∧ t { nx := fun _ H' => Q .non H', rt := Q } (start N vs) H) : FnG P w K mg base (k + 1) f fd ps sp := by
  obtain ⟨oc, od, kV, doc, pm, an, cdv, ct, osl, rfl, lk, hcd⟩ := F.ex
  refine ⟨len, fun A outer s H args us vs Q E hg hr e0 hb r hsp => ?_⟩
  have KX : K.In s.heap := e0.mod.kin.keeps fun b o e => (e0.bs b o e).1
  have lm : s.heap.NoLimit := e0.mod.nolimit.keeps fun b o e => (e0.bs b o e).1
  have hkind : ∀ y ∈ ps.zip us, (defScope st).names.lookup y.1 = some .local ∨ ((defScope st).names.lookup y.1 = some .cell ∧ ((cellsFrom (s.heap.objs.size + 1) (defScope st).names []).lookup y.1).isSome = true) := by
    rintro ⟨n, v⟩ hy
    rcases S.par n (List.of_mem_zip hy).1 with q | q
    · exact .inl q
    · exact .inr ⟨q, PySem.W.cellsFrom_some _ _ _ (.inl q)⟩
  refine codeAny_call_function hr.depth (KX _ _ lk) rfl S.co S.gen rfl (PySem.W.codeRec_of KX hcd) (hb _ _ _ _ (wpAny_newFunctionEnv_cells S.kind hkind fun env he s1 y => ?_))
  subst he
  have I : Inv (cxOf (L2.CX P w) P w K mg base N qual (defScope st) f cdv A outer s H E) [] (start N vs) H s1 := inv_start S hr.hd e0 (len _ _ _ _ hsp) r y
  have tk : Takes (cxOf (L2.CX P w) P w K mg base N qual (defScope st) f cdv A outer s H E) (fun cls d _ H => E cls d H) := takes_of rfl rfl rfl rfl
  obtain ⟨t, ht, hq⟩ := hbody cdv A outer s H vs Q E ⟨rfl, hr.deeper _, hg, passes_call tk (fun _ _ _ _ h => h), passes_of rfl, tk⟩ hsp
  refine ⟨lm.keeps y.toInCall.keep, codeAny_func (wpAny_mono (ht.run [] s1 (start N vs) H _ I hq) (fun fl s' hs => ?_) fun e s' hs => hs)⟩
  cases fl with
  | ret u => obtain ⟨v, σ', H', J, rv, q⟩ := hs; exact ⟨v, H', J.os, J.bare, J.base, J.hok, rv, q⟩
  | next => obtain ⟨σ', H', J, q⟩ := hs; exact ⟨V.non, H', J.os, J.bare, J.base, J.hok, rfl, q⟩
  | brk => obtain ⟨_, _, _, q⟩ := hs; exact False.elim q
  | cont => obtain ⟨_, _, _, q⟩ := hs; exact False.elim q
end

/-! ### the body's data -/
def outsOf (io : List Md) (env : Env) : List Dt := match io, env with
  | .io :: ms, some (d, _) :: r => d :: outsOf ms r
  | _ :: ms, _ :: r => .non :: outsOf ms r
  | _, _ => []
def startE (io : List Md) (k : Nat) (ds : List Dt) : Env := argE io ds ++ List.replicate k none
def finF (io : List Md) (f : Fl) (env : Env) : Option Fr := match f with
  | .nx => some (.ret (.val .non) (outsOf io env))
  | .rt d false => some (.ret (.val d) (outsOf io env))
  | .rt d true => some (.ret (.new d) (outsOf io env))
  | _ => none
def runB (io : List Md) (k : Nat) (m : M Fl) (ds : List Dt) : Option Fr := match m (startE io k ds) with
  | some (.ok f env) => if io.length ≤ env.length then finF io f env else none
  | some (.er x env) => if io.length ≤ env.length then some (.exc x (outsOf io env)) else none
  | none => none

section
variable {K : PySem.W.Frag} {mg : Str → Option Value} {ex : Addr → Prop} {env env' : Env} {ow ow' : Ow} {σ σ' : St} {H H' : Hp} {E : XK}
theorem mixE_length : ∀ (io : List Md) (ds os : List Dt), ds.length = io.length → os.length = io.length → (mixE io ds os).length = io.length
  | [], [], [], _, _ => rfl
  | .fz :: ms, d :: ds, o :: os, h1, h2 => by simp only [mixE, List.length_cons] at *; rw [mixE_length ms ds os (by omega) (by omega)]
  | .ow :: ms, d :: ds, o :: os, h1, h2 => by simp only [mixE, List.length_cons] at *; rw [mixE_length ms ds os (by omega) (by omega)]
  | .io :: ms, d :: ds, o :: os, h1, h2 => by simp only [mixE, List.length_cons] at *; rw [mixE_length ms ds os (by omega) (by omega)]
  | [], _ :: _, _, h1, _ => by cases h1
  | [], [], _ :: _, _, h2 => by cases h2
  | _ :: _, [], _, h1, _ => by cases h1
  | _ :: _, _ :: _, [], _, h2 => by cases h2
theorem gs_append_left {a b : Env} {i : Nat} (h : i < a.length) : gs (a ++ b) i = gs a i := by
  unfold gs; rw [List.getElem?_append_left h]
theorem gs_append_right {a : Env} {i k : Nat} (h : a.length ≤ i) : gs (a ++ List.replicate k none) i = none := by
  unfold gs
  rw [List.getElem?_append_right h, List.getElem?_replicate]
  split <;> rfl
theorem gs_out {a : Env} {i : Nat} (h : a.length ≤ i) : gs a i = none := by
  unfold gs; rw [List.getElem?_eq_none_iff.mpr h]; rfl
/-- the arguments' slots, then empty ones -/
theorem SR.start {N : List Str} {vs : List V} {k : Nat} (S : SR K mg ex env ow (vs.map some) H) (hN : N.length = vs.length + k) : SR K mg ex (env ++ List.replicate k none) ow (start N vs) H := by
  have l0 : env.length = vs.length := by rw [S.len, List.length_map]
  refine ⟨?_, fun i => ?_, S.inj, S.dis, S.tr⟩
  · unfold L2.start
    rw [List.length_append, List.length_append, List.length_map, List.length_replicate, List.length_replicate, l0]
    omega
  · by_cases h : i < env.length
    · rw [gs_append_left h]
      have e : gv (L2.start N vs) i = gv (vs.map some) i := by
        unfold gv L2.start
        rw [List.getElem?_append_left (by rw [List.length_map]; omega)]
      rw [e]
      exact S.slot i
    · rw [gs_append_right (by omega)]
      have q := S.slot i
      rw [gs_out (by omega)] at q
      exact q
/-- what is lent comes back -/
theorem mix_slot (G G' H H' : Hp) (l : Le G G') (ow : Ow) (vs : List V) : ∀ (io : List Md) (ds : List Dt) (env1 : Env) (base : Nat), ds.length = io.length →
    (∀ i, SlotOk K mg G H (gs (argE io ds) i) (ow (base + i)) (gv (vs.map some) (base + i))) →
    (∀ i d, gs (argE io ds) i = some (d, .io) → ∃ d', gs env1 i = some (d', .io) ∧ SlotOk K mg G' H' (some (d', .io)) (ow (base + i)) (gv (vs.map some) (base + i))) → io.length ≤ env1.length →
    ∀ i, SlotOk K mg G' H' (gs (mixE io ds (outsOf io env1)) i) (ow (base + i)) (gv (vs.map some) (base + i))
  | [], ds, env1, base, h, h1, h2, hl, i => by
    have q := h1 i
    have e : gs (mixE [] ds (outsOf [] env1)) i = none := by
      unfold outsOf mixE gs
      simp
    have e2 : gs (argE [] ds) i = none := by
      unfold argE mixE gs
      simp
    rw [e2] at q
    rw [e]
    exact q
  | m :: ms, [], _, _, h, _, _, _, _ => by cases h
  | m :: ms, d :: ds, [], _, _, _, _, hl, _ => by simp at hl
  | m :: ms, d :: ds, y :: env1, base, h, h1, h2, hl, 0 => by
    have q := h1 0
    cases m with
    | fz =>
      have e : gs (mixE (.fz :: ms) (d :: ds) (outsOf (.fz :: ms) (y :: env1))) 0 = some (d, .fz) := rfl
      rw [e]
      have q' : SlotOk K mg G H (some (d, .fz)) (ow (base + 0)) (gv (vs.map some) (base + 0)) := q
      obtain ⟨e1, x, e2, r⟩ := q'
      exact ⟨e1, x, e2, r.mono l⟩
    | ow =>
      have e : gs (mixE (.ow :: ms) (d :: ds) (outsOf (.ow :: ms) (y :: env1))) 0 = some (d, .fz) := rfl
      rw [e]
      have q' : SlotOk K mg G H (some (d, .fz)) (ow (base + 0)) (gv (vs.map some) (base + 0)) := q
      obtain ⟨e1, x, e2, r⟩ := q'
      exact ⟨e1, x, e2, r.mono l⟩
    | io =>
      obtain ⟨d', e1, e2⟩ := h2 0 d rfl
      have e3 : y = some (d', .io) := by
        have e1' : (y :: env1)[0]?.getD none = some (d', .io) := e1
        simpa using e1'
      subst e3
      have e : gs (mixE (.io :: ms) (d :: ds) (outsOf (.io :: ms) (some (d', .io) :: env1))) 0 = some (d', .io) := rfl
      rw [e]
      exact e2
  | m :: ms, d :: ds, y :: env1, base, h, h1, h2, hl, i + 1 => by
    have ih := mix_slot G G' H H' l ow vs ms ds env1 (base + 1) (by simpa using h) (fun j => by
      have q := h1 (j + 1)
      have e : gs (argE (m :: ms) (d :: ds)) (j + 1) = gs (argE ms ds) j := by cases m <;> rfl
      rw [e] at q
      have eb : base + (j + 1) = base + 1 + j := by omega
      rw [eb] at q
      exact q) (fun j d0 hj => by
      have e : gs (argE (m :: ms) (d :: ds)) (j + 1) = gs (argE ms ds) j := by cases m <;> rfl
      obtain ⟨d', e1, e2⟩ := h2 (j + 1) d0 (by rw [e]; exact hj)
      have eb : base + (j + 1) = base + 1 + j := by omega
      rw [eb] at e2
      exact ⟨d', e1, e2⟩) (by simpa using hl) i
    have e : gs (mixE (m :: ms) (d :: ds) (outsOf (m :: ms) (y :: env1))) (i + 1) = gs (mixE ms ds (outsOf ms env1)) i := by
      cases m with
      | fz => rfl
      | ow => rfl
      | io =>
        obtain ⟨d', e1, _⟩ := h2 0 d rfl
        have e1' : (y :: env1)[0]?.getD none = some (d', .io) := e1
        have e3 : y = some (d', .io) := by simpa using e1'
        subst e3
        rfl
    rw [e]
    have eb : base + (i + 1) = base + 1 + i := by omega
    rw [eb]
    exact ih
theorem outsOf_length : ∀ (io : List Md) (ds : List Dt) (env1 : Env), io.length ≤ env1.length → (∀ i d, gs (argE io ds) i = some (d, .io) → ∃ d', gs env1 i = some (d', .io)) → ds.length = io.length → (outsOf io env1).length = io.length
  | [], _, _, _, _, _ => by unfold outsOf; rfl
  | m :: ms, [], _, _, _, h => by cases h
  | m :: ms, d :: ds, [], h, _, _ => by simp at h
  | m :: ms, d :: ds, y :: env1, h, h2, h3 => by
    have ih := outsOf_length ms ds env1 (by simpa using h) (fun j d0 hj => by
      have e : gs (argE (m :: ms) (d :: ds)) (j + 1) = gs (argE ms ds) j := by cases m <;> rfl
      exact h2 (j + 1) d0 (by rw [e]; exact hj)) (by simpa using h3)
    cases m with
    | fz => show (outsOf ms env1).length + 1 = ms.length + 1; rw [ih]
    | ow => show (outsOf ms env1).length + 1 = ms.length + 1; rw [ih]
    | io =>
      obtain ⟨d', e1⟩ := h2 0 d rfl
      have e1' : (y :: env1)[0]?.getD none = some (d', .io) := e1
      have e3 : y = some (d', .io) := by simpa using e1'
      subst e3
      show (outsOf ms env1).length + 1 = ms.length + 1; rw [ih]
theorem argE_length {io : List Md} {ds : List Dt} (h : ds.length = io.length) : (argE io ds).length = io.length := mixE_length io ds ds h h
theorem argE_io : ∀ (io : List Md) (ds : List Dt) (i : Nat) (d : Dt), gs (argE io ds) i ≠ some (d, .ow)
  | [], ds, i, d => by unfold argE mixE gs; simp
  | m :: ms, [], i, d => by unfold argE mixE gs; cases m <;> simp
  | m :: ms, d0 :: ds, 0, d => by cases m <;> (show some (d0, _) ≠ some (d, Md.ow); intro z; cases z)
  | m :: ms, d0 :: ds, i + 1, d => by
    have e : gs (argE (m :: ms) (d0 :: ds)) (i + 1) = gs (argE ms ds) i := by cases m <;> rfl
    rw [e]
    exact argE_io ms ds i d
theorem argE_start {io : List Md} {ds : List Dt} {k i : Nat} {d : Dt} (h : gs (argE io ds) i = some (d, .io)) : gs (startE io k ds) i = some (d, .io) := by
  unfold startE
  rw [gs_append_left]
  · exact h
  · by_cases q : i < (argE io ds).length
    · exact q
    · rw [gs_out (by omega)] at h; cases h
theorem SR.sub_io {io : List Md} {ds : List Dt} {vs : List V} {k : Nat} (S0 : SR K mg ex (argE io ds) ow (vs.map some) H) (P : PostS (startE io k ds) ow H env' ow' H') {i : Nat} {a : Addr} (h : ow i = some a) : ow' i = some a := by
  have q := S0.slot i
  rw [h] at q
  obtain ⟨d, m, ob, e, _, _, _, hm⟩ := q.own
  have hm' : m = .io := by
    rcases hm with rfl | rfl
    · exact absurd e (argE_io io ds i d)
    · rfl
  subst hm'
  obtain ⟨_, e2⟩ := P.pin i d (argE_start e)
  rw [e2]; exact h
/-- the arguments' slots behind the body -/
theorem SR.back {ex' : Addr → Prop} {io : List Md} {ds : List Dt} {vs : List V} {k : Nat} {σ1 : St} (hx : ∀ a, ex a → ex' a) (hx2 : ∀ a, ex' a → H a ≠ none → ex a) (hd : ds.length = io.length) (S0 : SR K mg ex (argE io ds) ow (vs.map some) H) (P : PostS (startE io k ds) ow H env' ow' H') (S1 : SR K mg ex' env' ow' σ1 H') (hl : io.length ≤ env'.length) :
    SR K mg ex' (mixE io ds (outsOf io env')) ow (vs.map some) H' := by
  have la : (argE io ds).length = io.length := argE_length hd
  have g0 : ∀ i d, gs (argE io ds) i = some (d, .io) → gs (startE io k ds) i = some (d, .io) := fun i d h => argE_start h
  have sub : ∀ i a, ow i = some a → ow' i = some a := fun i a h => SR.sub_io S0 P h
  have lsub : ∀ a, lim ex' ow a → lim ex' ow' a := fun a h => h.elim .inl fun ⟨i, z⟩ => .inr ⟨i, sub i a z⟩
  have lk : Le (cut (lim ex ow) H) (cut (lim ex' ow) H') := cut_keep (fun a h n => h.elim (fun z => .inl (hx2 a z n)) .inr) fun a o h n => P.keep a o h fun z => n (.inr z)
  refine ⟨?_, fun i => ?_, S0.inj, fun i a h z => ?_, S1.tr⟩
  · rw [mixE_length io ds _ hd (outsOf_length io ds env' hl (fun i d h => (P.pin i d (g0 i d h)).1) hd), ← la, S0.len]
  · have q := mix_slot (cut (lim ex ow) H) (cut (lim ex' ow) H') H H' lk ow vs io ds env' 0 hd (fun i => by rw [Nat.zero_add]; exact S0.slot i) (fun i d h => ?_) hl i
    · rw [Nat.zero_add] at q; exact q
    · rw [Nat.zero_add]
      obtain ⟨⟨d', e1⟩, e2⟩ := P.pin i d (g0 i d h)
      refine ⟨d', e1, ?_⟩
      have s0 := S0.slot i
      rw [h] at s0
      obtain ⟨a, ob, h1, h2, h3, _⟩ := s0
      have s1 := S1.slot i
      rw [e1] at s1
      obtain ⟨a', ob', h1', h2', h3', r'⟩ := s1
      rw [e2, h1] at h1'; cases h1'
      exact ⟨a, ob', h1, h2, h3', r'.mono (cut_sub H' lsub)⟩
  · exact S1.dis i a (sub i a h) z
end

section
variable {P : Program} {w : World} {K : PySem.W.Frag} {mg : Str → Option Value} {base : Heap}
theorem matches_len {n : Nat} {fs : Fs} (vs : List V) (H : Hp) (Q : VK) (E : XK) (h : spOf K mg n fs vs H Q E) : vs.length = n := h.1
/-- a def by what its body does with data -/
theorem fn_data {x qual : Str} {st : Stmt} {f : Addr} {fd : FuncData} {N ps : List Str} {j : Nat} {fs : Fs} {m : M Fl} (F : Fun K x qual st f fd) (S : FnScope N ps (defScope st)) (hio : fs.io.length = ps.length) (k : Nat) (hN : N.length = ps.length + k)
    (pure : ∀ ds r, ds.length = ps.length → fs.run ds = some r → runB fs.io k m ds = some r) 
    (body : ∀ (cdv : Value) (A : Around) (outer : List PySem.Env) (s : Shared) (H : Hp) (E : XK), Bd (cxOf (L2.CX P w) P w K mg base N qual (defScope st) f cdv A outer s H E) j E →
      DB (cxOf (L2.CX P w) P w K mg base N qual (defScope st) f cdv A outer s H E) E (defBody st) m) : FnG P w K mg base (j + 1) f fd ps (spOf K mg ps.length fs) := by
  refine fn_body F S (fun vs H Q E h => h.1) fun cdv A outer s H vs Q E bd hsp => ⟨_, body cdv A outer s H E bd, ?_⟩
  obtain ⟨hv, ex, ow, ds, hd, S0, h⟩ := hsp
  have S1 := S0.start (N := N) (k := k) (by rw [hv]; exact hN)
  have hd' : ds.length = fs.io.length := by rw [hio]; exact hd
  have l0 : (startE fs.io k ds).length = fs.io.length + k := by unfold startE; rw [List.length_append, List.length_replicate, argE_length hd']
  refine ⟨ex, startE fs.io k ds, ow, S1, ?_⟩
  cases e : fs.run ds with
  | none => rw [e] at h; exact h.elim
  | some fr =>
    rw [e] at h
    have hp := pure ds fr hd e
    unfold runB at hp
    unfold WP
    cases e2 : m (startE fs.io k ds) with
    | none => simp only [e2] at hp; cases hp
    | some rr =>
      cases rr with
      | er z env1 =>
        simp only [e2] at hp
        by_cases hl : fs.io.length ≤ env1.length
        · rw [if_pos hl] at hp
          cases hp
          intro cls d σ1 H1 ow1 P1 S2 X1
          refine h cls d H1 ⟨P1.keep, P1.there⟩ (SR.back (fun _ h => h) (fun _ h _ => h) hd' S0 P1 S2 hl) ?_
          obtain ⟨q1, da, vf, q2, q3, q4⟩ := X1
          exact ⟨q1, da, vf, q2, q3, q4.mono (cut_sub H1 fun a z => z.elim .inl fun ⟨i, z⟩ => .inr ⟨i, SR.sub_io S0 P1 z⟩)⟩
        · rw [if_neg hl] at hp; cases hp
      | ok f env1 =>
        simp only [e2] at hp
        have hl : fs.io.length ≤ env1.length := by
          by_cases q : fs.io.length ≤ env1.length
          · exact q
          · rw [if_neg q] at hp; cases hp
        rw [if_pos hl] at hp
        cases f with
        | bk => cases hp
        | ct => cases hp
        | nx =>
          cases hp
          intro σ1 H1 ow1 P1 S2
          exact h.2 .non H1 ⟨P1.keep, P1.there⟩ ⟨SR.back (fun _ h => h) (fun _ h _ => h) hd' S0 P1 S2 hl, .non⟩
        | rt d own =>
          cases own with
          | false =>
            cases hp
            intro v σ1 H1 ow1 P1 R1
            obtain ⟨S2, r⟩ := R1
            refine h.2 v H1 ⟨P1.keep, P1.there⟩ ⟨SR.back (fun _ h => h) (fun _ h _ => h) hd' S0 P1 S2 hl, r.mono (cut_sub H1 fun a z => z.elim .inl fun ⟨i, z⟩ => .inr ⟨i, SR.sub_io S0 P1 z⟩)⟩
          | true =>
            cases hp
            intro v σ1 H1 ow1 P1 R1
            obtain ⟨p, ob, e3, e4, e5, r, S2, np⟩ := R1
            have hn : H p = none := by
              rcases e4 with ⟨i, z⟩ | z
              · exact absurd (.inr rfl) (S2.dis i p (SR.sub_io S0 P1 z))
              · exact z
            refine h.2 v H1 ⟨P1.keep, P1.there⟩ ⟨p, ob, e3, hn, e5, r.mono (cut_sub H1 fun a z => z.elim .inl fun ⟨i, z⟩ => .inr ⟨i, SR.sub_io S0 P1 z⟩), SR.back (fun _ h => .inl h) (fun a h n => h.elim (fun z => z) fun z => absurd (by rw [z]; exact hn) n) hd' S0 P1 S2 hl⟩
end
end DL

/-! DLi: calls of defs that are known by data. -/
namespace DL
open PySem L2

/-- the arguments' data: what is lent is not frozen -/
def argsD : List Md → List R → M (List Dt)
  | [], [] => M.pure []
  | .io :: ms, .loc i :: rs => fun env => match gs env i with
    | some (d, .ow) => (argsD ms rs).bind (fun ds => M.pure (d :: ds)) env
    | some (d, .io) => (argsD ms rs).bind (fun ds => M.pure (d :: ds)) env
    | _ => none
  | .fz :: ms, r :: rs => (frz r).bind fun d => (argsD ms rs).bind fun ds => M.pure (d :: ds)
  | _, _ => fun _ => none
/-- the slots that are lent -/
def lent : List Md → List R → List Nat
  | .io :: ms, .loc i :: rs => i :: lent ms rs
  | _ :: ms, _ :: rs => lent ms rs
  | _, _ => []
def setD (env : Env) (i : Nat) (o : Dt) : Env := match gs env i with
  | some (_, m) => env.set i (some (o, m))
  | none => env
def putB : List Md → List R → List Dt → Env → Env
  | .io :: ms, .loc i :: rs, o :: os, env => putB ms rs os (setD env i o)
  | _ :: ms, _ :: rs, _ :: os, env => putB ms rs os env
  | _, _, _, env => env
def isOwn : Option (Dt × Md) → Bool
  | some (_, .ow) => true
  | some (_, .io) => true
  | _ => false
def callF (fs : Fs) (rs : List R) (ds : List Dt) : M R := fun env => if (lent fs.io rs).Nodup ∧ (lent fs.io rs).all (fun i => isOwn (gs env i)) = true then match fs.run ds with
    | some (.ret (.val d) outs) => if outs.length = fs.io.length then some (.ok (.val d) (putB fs.io rs outs env)) else none
    | some (.ret (.new d) outs) => if outs.length = fs.io.length then some (.ok (.new d) (putB fs.io rs outs env)) else none
    | some (.exc x outs) => if outs.length = fs.io.length then some (.er x (putB fs.io rs outs env)) else none
    | _ => none
  else none
def mFn (fs : Fs) (l : List (M R)) : M R := (mA l).bind fun rs => (argsD fs.io rs).bind fun ds => callF fs rs ds

section
variable {K : PySem.W.Frag} {mg : Str → Option Value} {ex : Addr → Prop} {env env' : Env} {ow ow' : Ow} {σ σ' : St} {H H' : Hp} {E : XK}
/-- the same data, whatever the modes -/
def Same (env env' : Env) : Prop := ∀ i, (gs env' i).map (·.1) = (gs env i).map (·.1)
theorem Same.trans {env'' : Env} (a : Same env env') (b : Same env' env'') : Same env env'' := fun i => (b i).trans (a i)
theorem Same.get (a : Same env env') {i : Nat} {d : Dt} {m : Md} (h : gs env i = some (d, m)) : ∃ m', gs env' i = some (d, m') := by
  have q := a i
  rw [h] at q
  cases e : gs env' i with
  | none => rw [e] at q; cases q
  | some y =>
    obtain ⟨d', m'⟩ := y
    rw [e] at q
    have q' : some d' = some d := q
    cases q'
    exact ⟨m', rfl⟩
theorem WP.frzS {r : R} {v : V} {k : Dt → Env → Prop} {x : Xn → Env → Prop} (S : SR K mg ex env ow σ H) (h : Held K mg ex ow σ H r v) (w : WP (DL.frz r) env k x) : ∃ d env' ow', SR K mg ex env' ow' σ H ∧ Post env ow H env' ow' H ∧ Same env env' ∧ Rep K mg (DL.cut (lim ex ow') H) v d ∧ k d env' := by
  have w2 : WP (DL.frz r) env (fun d env' => Same env env' ∧ k d env') x := by
    unfold WP at w ⊢
    cases r with
    | val d => exact ⟨fun _ => rfl, w⟩
    | new d => exact ⟨fun _ => rfl, w⟩
    | loc i =>
      unfold DL.frz at w ⊢
      cases e : gs env i with
      | none => simp only [e] at w
      | some y =>
        obtain ⟨d, m⟩ := y
        cases m with
        | fz => simp only [e] at w ⊢; exact ⟨fun _ => rfl, w⟩
        | ow =>
          simp only [e] at w ⊢
          refine ⟨fun j => ?_, w⟩
          by_cases z : i = j
          · subst z
            have hi : i < env.length := by
              unfold gs at e
              cases z : env[i]? with
              | none => rw [z] at e; cases e
              | some y => exact (List.getElem?_eq_some_iff.mp z).1
            rw [gs_set_self hi, e]
            rfl
          · rw [gs_set_ne z]
        | io => simp only [e] at w
  obtain ⟨d, env', ow', a, b, c, e, f⟩ := WP.frz S h w2
  exact ⟨d, env', ow', a, b, e, c, f⟩
/-- an argument as it stands for the callee -/
def ArgOk (K : PySem.W.Frag) (mg : Str → Option Value) (L : Addr → Prop) (σ : St) (H : Hp) : Md → R → V → Dt → Prop
  | .io, .loc i, v, _ => gv σ i = some v
  | .fz, _, v, d => Rep K mg (cut L H) v d
  | _, _, _, _ => False
inductive Args4 (P : Md → R → V → Dt → Prop) : List Md → List R → List V → List Dt → Prop
  | nil : Args4 P [] [] [] []
  | cons {m r v d ms rs vs ds} : P m r v d → Args4 P ms rs vs ds → Args4 P (m :: ms) (r :: rs) (v :: vs) (d :: ds)
theorem Args4.mono {P Q : Md → R → V → Dt → Prop} {ms : List Md} {rs : List R} {vs : List V} {ds : List Dt} (h : Args4 P ms rs vs ds) (f : ∀ m r v d, P m r v d → Q m r v d) : Args4 Q ms rs vs ds := by
  induction h with
  | nil => exact .nil
  | cons p _ ih => exact .cons (f _ _ _ _ p) ih
theorem Args4.len {P : Md → R → V → Dt → Prop} {ms : List Md} {rs : List R} {vs : List V} {ds : List Dt} (h : Args4 P ms rs vs ds) : rs.length = ms.length ∧ vs.length = ms.length ∧ ds.length = ms.length := by
  induction h with
  | nil => exact ⟨rfl, rfl, rfl⟩
  | cons p _ ih => simp only [List.length_cons]; omega
theorem ArgOk.mono {L L' : Addr → Prop} {H H' : Hp} (l : Le (cut L H) (cut L' H')) : ∀ m r v d, ArgOk K mg L σ H m r v d → ArgOk K mg L' σ H' m r v d
  | .io, .loc i, v, _, h => h
  | .fz, r, v, d, h => Rep.mono l (show Rep K mg (cut L H) v d from h)
  | .io, .val _, _, _, h => h.elim
  | .io, .new _, _, _, h => h.elim
  | .ow, .val _, _, _, h => h.elim
  | .ow, .new _, _, _, h => h.elim
  | .ow, .loc _, _, _, h => h.elim
theorem WP.argsD {x : Xn → Env → Prop} : ∀ {ms : List Md} {rs : List R} {vs : List V} {env : Env} {ow : Ow} {k : List Dt → Env → Prop}, SR K mg ex env ow σ H → Paired (Held K mg ex ow σ H) rs vs → WP (argsD ms rs) env k x →
    ∃ ds env' ow', SR K mg ex env' ow' σ H ∧ Post env ow H env' ow' H ∧ Same env env' ∧ Args4 (ArgOk K mg (lim ex ow') σ H) ms rs vs ds ∧ Args4 (fun m r _ d => m = .io → ∀ i, r = .loc i → ∃ m', gs env' i = some (d, m')) ms rs vs ds ∧ k ds env'
  | [], [], _, env, ow, k, S, .nil, w => ⟨[], env, ow, S, .refl, fun _ => rfl, .nil, .nil, w⟩
  | .fz :: ms, r :: rs, v :: vs, env, ow, k, S, .cons h t, w => by
    obtain ⟨d, env1, ow1, S1, P1, s1, r1, w1⟩ := WP.frzS S h (WP.bind.mp (show WP ((DL.frz r).bind _) env _ _ from w))
    obtain ⟨ds, env2, ow2, S2, P2, s2, A2, B2, w2⟩ := WP.argsD (x := x) S1 (Held.postA S P1 t) (WP.bind.mp w1)
    exact ⟨d :: ds, env2, ow2, S2, P1.trans P2, s1.trans s2, .cons (show ArgOk K mg (lim ex ow2) σ H .fz r v d from r1.mono (P2.cut S1)) A2, .cons (fun z => nomatch z) B2, w2⟩
  | .io :: ms, .loc i :: rs, v :: vs, env, ow, k, S, .cons h t, w => by
    have go : ∀ d m, gs env i = some (d, m) → WP ((DL.argsD ms rs).bind (fun ds => M.pure (d :: ds))) env k x → ∃ ds env' ow', SR K mg ex env' ow' σ H ∧ Post env ow H env' ow' H ∧ Same env env' ∧ Args4 (ArgOk K mg (lim ex ow') σ H) (.io :: ms) (.loc i :: rs) (v :: vs) ds ∧
        Args4 (fun m r _ d => m = .io → ∀ i, r = .loc i → ∃ m', gs env' i = some (d, m')) (.io :: ms) (.loc i :: rs) (v :: vs) ds ∧ k ds env' := fun d m e w1 => by
      obtain ⟨ds, env2, ow2, S2, P2, s2, A2, B2, w2⟩ := WP.argsD (x := x) S t (WP.bind.mp w1)
      exact ⟨d :: ds, env2, ow2, S2, P2, s2, .cons (show gv σ i = some v from h) A2, .cons (fun _ j z => by cases z; exact s2.get e) B2, w2⟩
    unfold WP DL.argsD at w
    cases e : gs env i with
    | none => simp only [e] at w
    | some y =>
      obtain ⟨d, m⟩ := y
      cases m with
      | fz => simp only [e] at w
      | ow => simp only [e] at w; exact go d _ e w
      | io => simp only [e] at w; exact go d _ e w
  | .io :: ms, .val _ :: rs, _, _, _, _, _, _, w => w.elim
  | .io :: ms, .new _ :: rs, _, _, _, _, _, _, w => w.elim
  | .ow :: ms, _ :: rs, _, _, _, _, _, _, w => by cases rs <;> exact w.elim
  | [], _ :: _, _, _, _, _, _, _, w => w.elim
  | .io :: ms, [], _, _, _, _, _, _, w => w.elim
  | .ow :: ms, [], _, _, _, _, _, _, w => w.elim
  | .fz :: ms, [], _, _, _, _, _, _, w => w.elim

/-- the callee's own addresses -/
def owC (ow : Ow) : List Md → List R → Ow
  | .io :: _, .loc i :: _, 0 => ow i
  | _ :: ms, _ :: rs, j + 1 => owC ow ms rs j
  | _, _, _ => none
theorem owC_lent : ∀ {ms : List Md} {rs : List R} {j : Nat} {a : Addr}, owC ow ms rs j = some a → ∃ i, i ∈ lent ms rs ∧ ow i = some a
  | .io :: ms, .loc i :: rs, 0, a, h => ⟨i, by simp [lent], h⟩
  | .io :: ms, .val _ :: rs, 0, a, h => nomatch h
  | .io :: ms, .new _ :: rs, 0, a, h => nomatch h
  | .fz :: ms, _ :: rs, 0, a, h => by cases rs <;> exact nomatch h
  | .ow :: ms, _ :: rs, 0, a, h => by cases rs <;> exact nomatch h
  | m :: ms, r :: rs, j + 1, a, h => by
    have h' : owC ow ms rs j = some a := by
      have e : owC ow (m :: ms) (r :: rs) (j + 1) = owC ow ms rs j := by cases m <;> cases r <;> rfl
      rw [e] at h; exact h
    obtain ⟨i, h1, h2⟩ := owC_lent h'
    refine ⟨i, ?_, h2⟩
    cases m <;> cases r <;> simp [lent, h1]
  | [], _, j, a, h => by cases j <;> exact nomatch h
  | m :: ms, [], j, a, h => by cases m <;> cases j <;> exact nomatch h
theorem owC_inj (inj : ∀ i j a, ow i = some a → ow j = some a → i = j) : ∀ {ms : List Md} {rs : List R} {j k : Nat} {a : Addr}, (lent ms rs).Nodup → owC ow ms rs j = some a → owC ow ms rs k = some a → j = k
  | m :: ms, r :: rs, 0, 0, a, _, _, _ => rfl
  | m :: ms, r :: rs, j + 1, k + 1, a, nd, h1, h2 => by
    have e : ∀ j, owC ow (m :: ms) (r :: rs) (j + 1) = owC ow ms rs j := fun j => by cases m <;> cases r <;> rfl
    rw [e] at h1 h2
    rw [owC_inj inj (by cases m <;> cases r <;> simp [lent] at nd <;> first | exact nd.2 | exact nd) h1 h2]
  | .io :: ms, .loc i :: rs, 0, k + 1, a, nd, h1, h2 => by
    have h1' : ow i = some a := h1
    have h2' : owC ow ms rs k = some a := h2
    obtain ⟨i', m1, m2⟩ := owC_lent h2'
    have q := inj i i' a h1' m2
    subst q
    exact absurd m1 (List.nodup_cons.mp nd).1
  | .io :: ms, .loc i :: rs, j + 1, 0, a, nd, h1, h2 => by
    have h2' : ow i = some a := h2
    have h1' : owC ow ms rs j = some a := h1
    obtain ⟨i', m1, m2⟩ := owC_lent h1'
    have q := inj i i' a h2' m2
    subst q
    exact absurd m1 (List.nodup_cons.mp nd).1
  | .io :: ms, .val _ :: rs, 0, _ + 1, a, _, h1, _ => nomatch h1
  | .io :: ms, .new _ :: rs, 0, _ + 1, a, _, h1, _ => nomatch h1
  | .fz :: ms, _ :: rs, 0, _ + 1, a, _, h1, _ => by cases rs <;> exact nomatch h1
  | .ow :: ms, _ :: rs, 0, _ + 1, a, _, h1, _ => by cases rs <;> exact nomatch h1
  | .io :: ms, .val _ :: rs, _ + 1, 0, a, _, _, h1 => nomatch h1
  | .io :: ms, .new _ :: rs, _ + 1, 0, a, _, _, h1 => nomatch h1
  | .fz :: ms, _ :: rs, _ + 1, 0, a, _, _, h1 => by cases rs <;> exact nomatch h1
  | .ow :: ms, _ :: rs, _ + 1, 0, a, _, _, h1 => by cases rs <;> exact nomatch h1
  | [], _, j, _, a, _, h, _ => by cases j <;> exact nomatch h
  | m :: ms, [], j, _, a, _, h, _ => by cases m <;> cases j <;> exact nomatch h
/-- the callee's slots -/
theorem callee_slots {L : Addr → Prop} (own : ∀ i a, ow i = some a → L a) (S : ∀ i, SlotOk K mg (cut L H) H (gs env i) (ow i) (gv σ i)) : ∀ {ms : List Md} {rs : List R} {vs : List V} {ds : List Dt}, Args4 (ArgOk K mg L σ H) ms rs vs ds →
    Args4 (fun m r _ d => m = .io → ∀ i, r = .loc i → ∃ m', gs env i = some (d, m')) ms rs vs ds → (lent ms rs).all (fun i => isOwn (gs env i)) = true → ∀ j, SlotOk K mg (cut L H) H (gs (argE ms ds) j) (owC ow ms rs j) (gv (vs.map some) j)
  | [], [], [], [], .nil, _, _, j => by
    have e : gs (argE [] []) j = none := by unfold argE mixE gs; simp
    rw [e]
    cases j <;> rfl
  | .fz :: ms, r :: rs, v :: vs, d :: ds, .cons h t, _, _, 0 => ⟨rfl, v, rfl, h⟩
  | .io :: ms, .loc i :: rs, v :: vs, d :: ds, .cons h t, .cons q _, o, 0 => by
    have hv : gv σ i = some v := h
    obtain ⟨m', e⟩ := q rfl i rfl
    have s := S i
    have o' : isOwn (gs env i) = true := by
      have o2 := List.all_eq_true.mp o i (by simp [lent])
      exact o2
    rw [e] at o' s
    rw [hv] at s
    have e2 : gs (argE (.io :: ms) (d :: ds)) 0 = some (d, .io) := rfl
    have e3 : gv ((v :: vs).map some) 0 = some v := rfl
    rw [e2, e3]
    cases m' with
    | fz => cases o'
    | ow => exact s
    | io => exact s
  | .io :: ms, .val _ :: rs, v :: vs, d :: ds, .cons h t, _, _, 0 => h.elim
  | .io :: ms, .new _ :: rs, v :: vs, d :: ds, .cons h t, _, _, 0 => h.elim
  | .ow :: ms, r :: rs, v :: vs, d :: ds, .cons h t, _, _, 0 => by cases r <;> exact h.elim
  | m :: ms, r :: rs, v :: vs, d :: ds, .cons h t, .cons q t', o, j + 1 => by
    have ih := callee_slots own S t t' (by
      have o' := List.all_eq_true.mp o
      refine List.all_eq_true.mpr fun i hi => o' i ?_
      cases m <;> cases r <;> simp [lent, hi]) j
    have e1 : gs (argE (m :: ms) (d :: ds)) (j + 1) = gs (argE ms ds) j := by cases m <;> rfl
    have e2 : owC ow (m :: ms) (r :: rs) (j + 1) = owC ow ms rs j := by cases m <;> cases r <;> rfl
    have e3 : gv ((v :: vs).map some) (j + 1) = gv (vs.map some) j := rfl
    rw [e1, e2, e3]
    exact ih

/-! ### behind the call -/
theorem setD_length (i : Nat) (o : Dt) : (setD env i o).length = env.length := by
  unfold setD
  split
  · simp
  · rfl
theorem setD_self {i : Nat} {o d : Dt} {m : Md} (h : gs env i = some (d, m)) : gs (setD env i o) i = some (o, m) := by
  have hi : i < env.length := by
    unfold gs at h
    cases z : env[i]? with
    | none => rw [z] at h; cases h
    | some y => exact (List.getElem?_eq_some_iff.mp z).1
  unfold setD
  rw [h]
  exact gs_set_self hi
theorem setD_ne {i j : Nat} {o : Dt} (h : i ≠ j) : gs (setD env i o) j = gs env j := by
  unfold setD
  split
  · exact gs_set_ne h
  · rfl
theorem putB_length : ∀ (ms : List Md) (rs : List R) (os : List Dt) (env : Env), (putB ms rs os env).length = env.length
  | .io :: ms, .loc i :: rs, o :: os, env => by
    show (putB ms rs os (setD env i o)).length = env.length
    rw [putB_length ms rs os, setD_length]
  | .io :: ms, .val _ :: rs, _ :: os, env => putB_length ms rs os env
  | .io :: ms, .new _ :: rs, _ :: os, env => putB_length ms rs os env
  | .fz :: ms, _ :: rs, _ :: os, env => by cases rs <;> exact putB_length ms _ os env
  | .ow :: ms, _ :: rs, _ :: os, env => by cases rs <;> exact putB_length ms _ os env
  | [], _, _, env => by unfold putB; rfl
  | m :: ms, [], _, env => by cases m <;> rfl
  | m :: ms, r :: rs, [], env => by cases m <;> cases r <;> rfl
theorem putB_ne : ∀ {ms : List Md} {rs : List R} {os : List Dt} {env : Env} {i : Nat}, i ∉ lent ms rs → gs (putB ms rs os env) i = gs env i
  | .io :: ms, .loc j :: rs, o :: os, env, i, h => by
    have h' : i ≠ j ∧ i ∉ lent ms rs := by simpa [lent] using h
    show gs (putB ms rs os (setD env j o)) i = gs env i
    rw [putB_ne h'.2, setD_ne (Ne.symm h'.1)]
  | .io :: ms, .val _ :: rs, _ :: os, env, i, h => putB_ne (ms := ms) (rs := rs) (by simpa [lent] using h)
  | .io :: ms, .new _ :: rs, _ :: os, env, i, h => putB_ne (ms := ms) (rs := rs) (by simpa [lent] using h)
  | .fz :: ms, r :: rs, _ :: os, env, i, h => by cases r <;> exact putB_ne (ms := ms) (rs := rs) (by simpa [lent] using h)
  | .ow :: ms, r :: rs, _ :: os, env, i, h => by cases r <;> exact putB_ne (ms := ms) (rs := rs) (by simpa [lent] using h)
  | [], _, _, env, i, h => by unfold putB; rfl
  | m :: ms, [], _, env, i, h => by cases m <;> rfl
  | m :: ms, r :: rs, [], env, i, h => by cases m <;> cases r <;> rfl
/-- a lent slot's new data stand at some place of the callee -/
theorem putB_lent (K : PySem.W.Frag) (mg : Str → Option Value) (σ : St) (H : Hp) (L : Addr → Prop) : ∀ {ms : List Md} {rs : List R} {vs : List V} {ds os : List Dt} {env : Env} {ow : Ow} {i : Nat}, Args4 (ArgOk K mg L σ H) ms rs vs ds → os.length = ms.length → (lent ms rs).Nodup → i ∈ lent ms rs → (∀ i ∈ lent ms rs, ∃ d m, gs env i = some (d, m)) →
    ∃ j o d m, gs env i = some (d, m) ∧ gs (putB ms rs os env) i = some (o, m) ∧ gs (mixE ms ds os) j = some (o, .io) ∧ owC ow ms rs j = ow i ∧ gv (vs.map some) j = gv σ i
  | .io :: ms, .loc k :: rs, v :: vs, d :: ds, o :: os, env, ow, i, .cons h t, hl, nd, hi, he => by
    by_cases e : i = k
    · subst e
      have nd' := (List.nodup_cons.mp nd).1
      obtain ⟨d0, m0, e0⟩ := he i (by simp [lent])
      refine ⟨0, o, d0, m0, e0, ?_, rfl, rfl, ?_⟩
      · show gs (putB ms rs os (setD env i o)) i = some (o, m0)
        rw [putB_ne nd', setD_self e0]
      · have hv : gv σ i = some v := h
        rw [hv]; rfl
    · have hi' : i ∈ lent ms rs := by
        rcases List.mem_cons.mp hi with z | z
        · exact absurd z e
        · exact z
      obtain ⟨j, o', d', m', e1, e2, e3, e4, e5⟩ := putB_lent K mg σ H L (env := setD env k o) (ow := ow) t (by simpa using hl) (List.nodup_cons.mp nd).2 hi' fun i' hi2 => by
        obtain ⟨d2, m2, e2⟩ := he i' (List.mem_cons_of_mem _ hi2)
        by_cases z : k = i'
        · subst z; exact ⟨o, m2, setD_self e2⟩
        · exact ⟨d2, m2, by rw [setD_ne z]; exact e2⟩
      rw [setD_ne (Ne.symm e)] at e1
      exact ⟨j + 1, o', d', m', e1, e2, e3, e4, e5⟩
  | .fz :: ms, r :: rs, v :: vs, d :: ds, o :: os, env, ow, i, .cons h t, hl, nd, hi, he => by
    have e0 : lent (.fz :: ms) (r :: rs) = lent ms rs := by cases r <;> rfl
    rw [e0] at nd hi he
    obtain ⟨j, o', d', m', e1, e2, e3, e4, e5⟩ := putB_lent K mg σ H L (env := env) (ow := ow) t (by simpa using hl) nd hi he
    refine ⟨j + 1, o', d', m', e1, ?_, e3, ?_, e5⟩
    · cases r <;> exact e2
    · cases r <;> exact e4
  | .io :: ms, .val _ :: rs, v :: vs, d :: ds, os, env, ow, i, .cons h t, _, _, _, _ => h.elim
  | .io :: ms, .new _ :: rs, v :: vs, d :: ds, os, env, ow, i, .cons h t, _, _, _, _ => h.elim
  | .ow :: ms, r :: rs, v :: vs, d :: ds, os, env, ow, i, .cons h t, _, _, _, _ => by cases r <;> exact h.elim
  | [], [], [], [], _, _, _, _, .nil, _, _, hi, _ => by cases hi
  | .io :: ms, .loc k :: rs, v :: vs, d :: ds, [], _, _, _, _, hl, _, _, _ => by cases hl
  | .fz :: ms, r :: rs, v :: vs, d :: ds, [], _, _, _, _, hl, _, _, _ => by cases hl

/-- the caller's slots behind a call -/
theorem SR.called {ex2 : Addr → Prop} {ms : List Md} {rs : List R} {vs : List V} {ds os : List Dt} (S : SR K mg ex env ow σ H) (A : Args4 (ArgOk K mg (lim ex ow) σ H) ms rs vs ds) (hl : os.length = ms.length) (nd : (lent ms rs).Nodup) (own : ∀ i ∈ lent ms rs, isOwn (gs env i) = true)
    (k : Keep (owC ow ms rs) H H') (h1 : ∀ a, ex2 a → lim ex ow a ∨ H a = none) (h2 : ∀ a, ex a → ex2 a) (h3 : ∀ i a, ow i = some a → (∀ j, owC ow ms rs j ≠ some a) → ex2 a) (ex3 : Addr → Prop) (h4 : ∀ a, ex3 a ↔ ex a ∨ (ex2 a ∧ H a = none))
    (S' : SR K mg ex2 (mixE ms ds os) (owC ow ms rs) (vs.map some) H') : SR K mg ex3 (putB ms rs os env) ow σ H' ∧ Post env ow H (putB ms rs os env) ow H' ∧ ∀ a, lim ex3 ow a → lim ex2 (owC ow ms rs) a := by
  have sub : ∀ a, lim ex3 ow a → lim ex2 (owC ow ms rs) a := fun a z => by
    rcases z with z | ⟨i, z⟩
    · rcases (h4 a).mp z with z | z
      · exact .inl (h2 a z)
      · exact .inl z.1
    · by_cases q : ∃ j, owC ow ms rs j = some a
      · exact .inr q
      · exact .inl (h3 i a z fun j e => q ⟨j, e⟩)
  have sub2 : ∀ a, inO (owC ow ms rs) a → inO ow a := fun a ⟨j, z⟩ => let ⟨i, _, e⟩ := owC_lent z; ⟨i, e⟩
  have lk : Le (cut (lim ex ow) H) (cut (lim ex3 ow) H') := cut_keep (fun a z n => by
    rcases z with z | z
    · rcases (h4 a).mp z with z | z
      · exact .inl z
      · exact absurd z.2 n
    · exact .inr z) fun a o h n => k.1 a o h fun z => n (.inr (sub2 a z))
  have he : ∀ i ∈ lent ms rs, ∃ d m, gs env i = some (d, m) := fun i hi => by
    have q := own i hi
    cases e : gs env i with
    | none => rw [e] at q; cases q
    | some y => exact ⟨y.1, y.2, rfl⟩
  refine ⟨⟨by rw [putB_length]; exact S.len, fun i => ?_, S.inj, fun i a h z => ?_, fun a z => ?_⟩, ⟨fun a o h n => k.1 a o h fun z => n (sub2 a z), fun _ _ h => h, fun i d h => ?_, k.2⟩, sub⟩
  · by_cases hi : i ∈ lent ms rs
    · obtain ⟨j, o, d, m, e1, e2, e3, e4, e5⟩ := putB_lent K mg σ H (lim ex ow) (env := env) (ow := ow) A hl nd hi he
      rw [e2]
      have s := S'.slot j
      rw [e3, e4, e5] at s
      obtain ⟨a, ob, f1, f2, f3, r⟩ := s
      have o1 := own i hi
      rw [e1] at o1
      have r' := r.mono (cut_sub H' sub)
      cases m with
      | fz => cases o1
      | ow => exact ⟨a, ob, f1, f2, f3, r'⟩
      | io => exact ⟨a, ob, f1, f2, f3, r'⟩
    · rw [putB_ne hi]
      have s := S.slot i
      have keep : ∀ a o, ow i = some a → H a = some o → H' a = some o := fun a o e1 e2 => k.1 a o e2 fun ⟨j, z⟩ => by
        obtain ⟨i', m1, m2⟩ := owC_lent z
        exact hi (by rw [S.inj i i' a e1 m2]; exact m1)
      cases z : gs env i with
      | none => rw [z] at s; exact s
      | some y =>
        obtain ⟨d, m⟩ := y
        rw [z] at s
        cases m with
        | fz => obtain ⟨e1, x, e2, r⟩ := s; exact ⟨e1, x, e2, r.mono lk⟩
        | ow => obtain ⟨a, ob, e1, e2, e3, r⟩ := s; exact ⟨a, ob, e1, e2, keep a ob e1 e3, r.mono lk⟩
        | io => obtain ⟨a, ob, e1, e2, e3, r⟩ := s; exact ⟨a, ob, e1, e2, keep a ob e1 e3, r.mono lk⟩
  · rcases (h4 a).mp z with z | z
    · exact S.dis i a h z
    · exact S.there (.inr ⟨i, h⟩) z.2
  · rcases (h4 a).mp z with z | z
    · exact k.2 a (S.tr a z)
    · exact S'.tr a z.1
  · by_cases hi : i ∈ lent ms rs
    · obtain ⟨j, o, d', m, e1, e2, _⟩ := putB_lent K mg σ H (lim ex ow) (env := env) (ow := ow) A hl nd hi he
      rw [h] at e1; cases e1
      exact ⟨o, e2⟩
    · exact ⟨d, by rw [putB_ne hi]; exact h⟩
/-- the call's reading -/
theorem t_fn {fs : Fs} {l : List (M R)} {n : Nat} (hn : fs.io.length = n) (σ : St) (H : Hp) (Q : VK) (h : tM K mg E (mFn fs l) σ H Q) : tCall (spOf K mg n fs) [] E (tMa K mg E (mA l)) σ H Q := by
  obtain ⟨ex, env, ow, S, w⟩ := h
  refine ⟨ex, env, ow, S, (WP.bind.mp w).mono (fun rs env1 w1 vs H1 ow1 P1 S1 hh => ?_) fun _ _ z => z⟩
  obtain ⟨ds, env2, ow2, S2, P2, _, A2, B2, w2⟩ := WP.argsD S1 hh (WP.bind.mp w1)
  obtain ⟨l1, l2, l3⟩ := A2.len
  unfold WP callF at w2
  by_cases hc : (lent fs.io rs).Nodup ∧ (lent fs.io rs).all (fun i => isOwn (gs env2 i)) = true
  · rw [if_pos hc] at w2
    obtain ⟨nd, own⟩ := hc
    have own' : ∀ i ∈ lent fs.io rs, isOwn (gs env2 i) = true := List.all_eq_true.mp own
    have lims : ∀ a, lim (fun a => lim ex ow2 a ∧ ∀ j, owC ow2 fs.io rs j ≠ some a) (owC ow2 fs.io rs) a ↔ lim ex ow2 a := fun a => by
      constructor
      · rintro (z | ⟨j, z⟩)
        · exact z.1
        · obtain ⟨i, _, e⟩ := owC_lent z
          exact .inr ⟨i, e⟩
      · intro z
        by_cases q : ∃ j, owC ow2 fs.io rs j = some a
        · exact .inr q
        · exact .inl ⟨z, fun j e => q ⟨j, e⟩⟩
    have eqL : lim (fun a => lim ex ow2 a ∧ ∀ j, owC ow2 fs.io rs j ≠ some a) (owC ow2 fs.io rs) = lim ex ow2 := funext fun a => propext (lims a)
    have hlen : (argE fs.io ds).length = (vs.map some).length := by rw [argE_length l3, List.length_map, l2]
    have SC : SR K mg (fun a => lim ex ow2 a ∧ ∀ j, owC ow2 fs.io rs j ≠ some a) (argE fs.io ds) (owC ow2 fs.io rs) (vs.map some) H1 := by
      refine ⟨hlen, fun j => ?_, fun i j a h1 h2 => owC_inj S2.inj nd h1 h2, fun i a h z => z.2 i h, fun a z => S2.there z.1⟩
      rw [eqL]
      exact callee_slots (fun i a e => .inr ⟨i, e⟩) (fun i => S2.slot i) A2 B2 own j
    show spOf K mg n fs (vs ++ []) H1 Q E
    rw [List.append_nil]
    refine ⟨by rw [l2, hn], _, _, ds, by rw [l3, hn], SC, ?_⟩
    cases e : fs.run ds with
    | none => simp only [e] at w2
    | some fr =>
      simp only [e] at w2
      cases fr with
      | exc x outs =>
        by_cases ho : outs.length = fs.io.length
        · simp only [ho, if_pos] at w2
          intro cls d H3 k3 S3 X3
          have R := S2.called (ex2 := fun a => lim ex ow2 a ∧ ∀ j, owC ow2 fs.io rs j ≠ some a) A2 ho nd own' k3 (fun a z => .inl z.1) (fun a z => ⟨.inl z, fun j e => by
            obtain ⟨i, _, e2⟩ := owC_lent e
            exact S2.dis i a e2 z⟩) (fun i a e z => ⟨.inr ⟨i, e⟩, z⟩) ex (fun a => ⟨.inl, fun z => z.elim (fun z => z) fun z => absurd z.2 (S2.there z.1.1)⟩) S3
          obtain ⟨R1, R2, R3⟩ := R
          refine w2 cls d H3 ow2 ((P1.trans P2).trans R2) R1 ?_
          rw [eqL] at X3
          exact X3
        · simp only [ho, if_neg, not_false_eq_true] at w2
      | ret r outs =>
        cases r with
        | loc i => simp only at w2
        | val d0 =>
          by_cases ho : outs.length = fs.io.length
          · simp only [ho, if_pos] at w2
            refine ⟨rfl, fun v H3 k3 R0 => ?_⟩
            obtain ⟨S3, r3⟩ := R0
            obtain ⟨R1, R2, R3⟩ := S2.called (ex2 := fun a => lim ex ow2 a ∧ ∀ j, owC ow2 fs.io rs j ≠ some a) A2 ho nd own' k3 (fun a z => .inl z.1) (fun a z => ⟨.inl z, fun j e => by
              obtain ⟨i, _, e2⟩ := owC_lent e
              exact S2.dis i a e2 z⟩) (fun i a e z => ⟨.inr ⟨i, e⟩, z⟩) ex (fun a => ⟨.inl, fun z => z.elim (fun z => z) fun z => absurd z.2 (S2.there z.1.1)⟩) S3
            refine w2 v H3 ow2 ((P1.trans P2).trans R2) ⟨R1, ?_⟩
            rw [eqL] at r3
            exact r3
          · simp only [ho, if_neg, not_false_eq_true] at w2
        | new d0 =>
          by_cases ho : outs.length = fs.io.length
          · simp only [ho, if_pos] at w2
            refine ⟨rfl, fun v H3 k3 R0 => ?_⟩
            obtain ⟨p, ob, f1, f2, f3, r3, S3⟩ := R0
            obtain ⟨R1, R2, R3⟩ := S2.called (ex2 := fun a => (lim ex ow2 a ∧ ∀ j, owC ow2 fs.io rs j ≠ some a) ∨ a = p) A2 ho nd own' k3 (fun a z => z.elim (fun z => .inl z.1) fun z => .inr (by rw [z]; exact f2)) (fun a z => .inl ⟨.inl z, fun j e => by
              obtain ⟨i, _, e2⟩ := owC_lent e
              exact S2.dis i a e2 z⟩) (fun i a e z => .inl ⟨.inr ⟨i, e⟩, z⟩) (fun a => ex a ∨ a = p) (fun a => by
                constructor
                · rintro (z | z)
                  · exact .inl z
                  · exact .inr ⟨.inr z, by rw [z]; exact f2⟩
                · rintro (z | ⟨z | z, n⟩)
                  · exact .inl z
                  · exact absurd n (S2.there z.1)
                  · exact .inr z) S3
            have hp : H p = none := by
              cases z : H p with
              | none => rfl
              | some o => exact absurd f2 (P1.there p (by rw [z]; exact fun q => nomatch q))
            refine w2 v H3 ow2 ((P1.trans P2).trans R2) ⟨p, ob, f1, hp, f3, r3.mono (cut_sub H3 fun a z => ?_), R1⟩
            exact R3 a z
          · simp only [ho, if_neg, not_false_eq_true] at w2
  · rw [if_neg hc] at w2; exact w2.elim
end
end DL

/-! DLj: the calls' rules, the law's end. -/
namespace DL
open PySem L2

section
variable {X : Cx} {k : Nat} {f C : Addr} {fd : FuncData} {ps : List Str} {sp : Sp} {dvs : List V} {ds : List Value} {E : XK} {x m : Str} {p pos apos : Pos} {e o : Expr} {es : List Expr} {ta : TE} {t : TA}
theorem runG {pins : List (Addr × Obj)} {σ : St} {H : Hp} {s : Shared} {Q : VK} {us : List Value} {vs : List V} (F : FnG X.prog X.w X.K X.mg X.base k f fd ps sp) (bd : Bd X k E) (hb : Binds X.K fd ps ds) (hd : Vals dvs ds)
    (I : Inv X pins σ H s) (r : Vals vs us) (h : sp (vs ++ dvs) H Q E) : wpAny (model X.prog X.w) X.A (call (.ref f) us) (EP X pins σ Q) X.xe s := by
  have rr : Vals (vs ++ dvs) (us ++ ds) := r.append hd
  have hl : (us ++ ds).length = ps.length := rr.length.symm.trans (F.len _ _ _ _ h)
  have go := F.run X.A X.stack s H ⟨us, []⟩ (us ++ ds) (vs ++ dvs) Q E bd.gd bd.room I.env0 (hb s us I.kIn hl) rr h
  refine wpAny_call (codeAny_mono go fun rv s' hq => ?_)
  match rv, hq with
  | .error e, hq => exact bd.ps pins σ H s e s' I hq
  | .ok (.ret u), hq => exact I.after hq
  | .ok .next, hq => exact False.elim hq
  | .ok .brk, hq => exact False.elim hq
  | .ok .cont, hq => exact False.elim hq
theorem pe_callG (F : FnG X.prog X.w X.K X.mg X.base k f fd ps sp) (bd : Bd X k E) (hg : Gl X x) (hm : X.mg x = some (.ref f)) (hk : PySem.W.keepIn X.K (.ref f) = true) (hb : Binds X.K fd ps ds) (hd : Vals dvs ds)
    (ha : PA X (e :: es) t) (hdb : (x == ("__debug__" : Str)) = false := by decide) (he : starEach (e :: es) X.env = (false, eval e X.env) :: starEach es X.env := by rfl) (hpl : (backTo pos (starEach es X.env)).any (·.1) = false := by rfl) :
    PE X (.Call (.Name x p) (e :: es) [] pos) (tCall sp dvs E t) :=
  ⟨fun pins s σ H Q I h => wpAny_Call_Name_kw (ld_glob I hg hm (PySem.W.callWith_K (h₀ := X.base) I.ok.mod.kin hk (thn (ha.run pos pins s σ H _ I h) fun us s1 ⟨vs, H1, I1, r, q⟩ => ⟨I1.kIn, runG F bd hb hd I1 r q⟩) he hpl) hdb)⟩
theorem pe_callG0 (F : FnG X.prog X.w X.K X.mg X.base k f fd ps sp) (bd : Bd X k E) (hg : Gl X x) (hm : X.mg x = some (.ref f)) (hk : PySem.W.keepIn X.K (.ref f) = true) (hb : Binds X.K fd ps ds) (hd : Vals dvs ds)
    (hdb : (x == ("__debug__" : Str)) = false := by decide) : PE X (.Call (.Name x p) [] [] pos) (tCall sp dvs E tNil) :=
  ⟨fun pins s σ H Q I h => wpAny_Call_Name_kw (ld_glob I hg hm (PySem.W.callWith_K0 I.kIn hk (runG (us := []) F bd hb hd I .nil h)) hdb)⟩
end
theorem Bd.mono {X : Cx} {j k : Nat} {E : XK} (b : Bd X k E) (h : j ≤ k) : Bd X j E := ⟨b.calm, b.room.mono h, b.gd, b.ps, b.own, b.tk⟩

/-- all that a caller must know of a def -/
structure Df (P : Program) (w : World) (K : PySem.W.Frag) (mg : Str → Option Value) (base : Heap) (k n : Nat) (x : Str) (fs : Fs) : Prop where
  ok : ∃ (f : Addr) (fd : FuncData) (ps : List Str), ps.length = n ∧ FnG P w K mg base k f fd ps (spOf K mg n fs) ∧ mg x = some (.ref f) ∧ PySem.W.keepIn K (.ref f) = true ∧ Binds K fd ps []
  io : fs.io.length = n
section
variable {X : Cx} {E : XK} {x : Str} {p pos : Pos} {e : Expr} {es : List Expr} {k n : Nat} {fs : Fs} {ml : List (M R)}
theorem d_fn (D : Df X.prog X.w X.K X.mg X.base k n x fs) (bd : Bd X k E) (hg : Gl X x) (ha : DA X E (e :: es) ml) (hdb : (x == ("__debug__" : Str)) = false := by decide) (he : starEach (e :: es) X.env = (false, eval e X.env) :: starEach es X.env := by rfl)
    (hpl : (backTo pos (starEach es X.env)).any (·.1) = false := by rfl) : DE X E (.Call (.Name x p) (e :: es) [] pos) (mFn fs ml) := by
  obtain ⟨f, fd, ps, hl, F, hm, hk, hb⟩ := D.ok
  exact PE.weak (pe_callG F bd hg hm hk hb .nil ha hdb he hpl) (t_fn D.io)
theorem d_fn0 (D : Df X.prog X.w X.K X.mg X.base k n x fs) (bd : Bd X k E) (hg : Gl X x) (hdb : (x == ("__debug__" : Str)) = false := by decide) : DE X E (.Call (.Name x p) [] [] pos) (mFn fs []) := by
  obtain ⟨f, fd, ps, hl, F, hm, hk, hb⟩ := D.ok
  refine PE.weak (pe_callG0 F bd hg hm hk hb .nil hdb) fun σ H Q h => ?_
  obtain ⟨ex, env, ow, S, w⟩ := t_fn D.io σ H Q h
  exact w [] H ow .refl S .nil
end

/-! ### the law's end -/
section
open PySem.W
theorem only_ints {K : PySem.W.Frag} {mg : Str → Option Value} {H : Hp} : ∀ ns : List Int, RepA K mg H (ns.map V.int) (ns.map Dt.int)
  | [] => .nil
  | n :: ns => .cons (.int n) (only_ints ns)
/-- the script alone -/
theorem SR.script {K : PySem.W.Frag} {mg : Str → Option Value} {H : Hp} {a : Addr} {ns : List Int} (h : SqL K H a (ns.map V.int)) : SR K mg (fun _ => False) (argE [.fz] [.scr (ns.map Dt.int)]) (fun _ => none) ([V.ref a].map some) H := by
  have e : cut (lim (fun _ => False) (fun _ => none)) H = H := by
    funext b
    rw [cut_out]
    rintro (z | ⟨i, z⟩)
    · exact z
    · cases z
  refine ⟨rfl, fun i => ?_, (fun _ _ _ h => nomatch h), (fun _ _ h => nomatch h), fun _ h => False.elim h⟩
  cases i with
  | zero =>
    refine ⟨rfl, .ref a, rfl, ?_⟩
    rw [e]
    exact .scr h (only_ints ns)
  | succ i => rfl
/-- a def that gives True for every script -/
structure AllTrue (n : Nat) (fs : Fs) : Prop where
  io : fs.io = [.fz]
  yes : ∀ ns : List Int, ns.length ≤ n → fs.run [.scr (ns.map Dt.int)] = some (.ret (.val (.bl true)) [.non])
end
end DL

/-! DLk: the end of a law. -/
namespace DL
open PySem PySem.Spec PyProof.Rows PySem.W L2

section
variable {P : Program} {w : World} {K : PySem.W.Frag} {mg mb : Str → Option Value} {k n : Nat} {fa a : Addr} {fd : FuncData} {x : Str} {fs : Fs} {s₁ : Shared} {vs : List Value} {ns : List Int}
/-- the heap of which the script alone is known -/
def only1 (a : Addr) (o : Option HO) : Hp := fun b => if b = a then o else none
theorem only1_ne {o : Option HO} {b : Addr} (h : only1 a o b ≠ none) : b = a := by
  unfold only1 at h
  by_cases e : b = a
  · exact e
  · rw [if_neg e] at h; exact absurd rfl h
theorem law_run (KX : K.In s₁.heap) (hns : s₁.heap.Ns mainGlobals mg) (hb : s₁.heap.Ns builtinsNs mb) (hbb : ∀ x : Str, x ≠ "__name__" → mb x = bootBuiltins x) (hlim : s₁.heap.NoLimit) (hg : s₁.gens = #[])
    (ha : s₁.heap.get? a = some { cls := .type "list", data := .seq vs.toArray }) (hi : IntsAre vs ns) (hl : ns.length ≤ sizeLine) (hr : Room k callerA)
    (F : ∀ base : Heap, K.In base → base.Ns mainGlobals mg → FnG P w K mg base k fa fd [x] (spOf K mg 1 fs)) (hbind : ∀ (s : Shared) (u : Value), BindsTo s fd ⟨[u], []⟩ [(x, u)])
    (hio : fs.io = [.fz]) (yes : fs.run [.scr (ns.map Dt.int)] = some (.ret (.val (.bl true)) [.non])) :
    codeAny (model P w) callerA (.call (.ref fa) ⟨[.ref a], []⟩) (fun r s' => r = .ok (.ret (.bool true)) ∧ OldK s₁.heap s'.heap ∧ s'.os = s₁.os ∧ AllBare s'.gens) s₁ := by
  have rv := vals_ints hi
  have lv := hi.length
  have main : ∀ o : Option HO, (o = none ∨ ∃ ob xs, o = some (.frz ob (.lst xs))) → SqL K (only1 a o) a (ns.map V.int) → HOk P w (only1 a o) s₁.heap → (o ≠ none → K.lookup a = none) →
      codeAny (model P w) callerA (.call (.ref fa) ⟨[.ref a], []⟩) (fun r s' => r = .ok (.ret (.bool true)) ∧ OldK s₁.heap s'.heap ∧ s'.os = s₁.os ∧ AllBare s'.gens) s₁ := by
    intro o ho hS hok hK
    have nodict : ∀ {b : Addr} {ob : Obj} {es : Array DictEntry} {ep : Nat}, s₁.heap.get? b = some ob → ob.data = .dict es ep → only1 a o b = none := fun {b ob es ep} e d => by
      cases q : only1 a o b with
      | none => rfl
      | some u =>
        have z : b = a := only1_ne (o := o) (by rw [q]; exact fun z => nomatch z)
        rw [z, ha] at e
        cases e
        exact nomatch (show Data.seq vs.toArray _ = Data.dict es ep from d)
    have nsH : ∀ {b : Addr} {m : Str → Option Value}, s₁.heap.Ns b m → (hidT s₁.heap (only1 a o)).Ns b m := fun {b m} ⟨ob, es, ep, e, d, r⟩ => ⟨ob, es, ep, hidT_get e (nodict e d), d, r⟩
    have kb : K.In (hidT s₁.heap (only1 a o)) := fun b ob e => hidT_get (KX b ob e) (by
      cases q : only1 a o b with
      | none => rfl
      | some u =>
        have z : b = a := only1_ne (o := o) (by rw [q]; exact fun z => nomatch z)
        have no : o ≠ none := fun z2 => by
          unfold only1 at q
          rw [if_pos z, z2] at q
          cases q
        rw [z, hK no] at e
        cases e)
    have md : Mod K mg (hidT s₁.heap (only1 a o)) := ⟨kb, nsH hns, ⟨mb, nsH hb, hbb⟩, let ⟨mc, h1, h2⟩ := hlim; ⟨mc, nsH h1, h2⟩⟩
    have e0 : Env0 P w K mg (hidT s₁.heap (only1 a o)) callerA [] s₁ (only1 a o) := ⟨rfl, md, fun b ob e => of_hidT e, Nat.le_of_eq (hidT_size _ _), trivial, fun b hb => absurd (show b ∈ ([] : List Addr) from hb) (by simp), hok, .of_eq hg⟩
    have pre : spOf K mg 1 fs [.ref a] (only1 a o) (fun v _ => v = .bl true) (fun _ _ _ => False) := by
      refine ⟨rfl, (fun _ => False), (fun _ => none), [.scr (ns.map Dt.int)], rfl, ?_, ?_⟩
      · rw [hio]; exact SR.script hS
      · rw [yes]
        refine ⟨rfl, fun v H' _ R => ?_⟩
        obtain ⟨_, r⟩ := R
        cases r
        rfl
    refine codeAny_mono ((F _ kb (nsH hns)).run callerA [] s₁ (only1 a o) ⟨[.ref a], []⟩ [.ref a] [.ref a] _ _ rfl hr e0 (hbind s₁ (.ref a)) (.cons rfl .nil) pre) fun r s' h => ?_
    match r, h with
    | .error e, h =>
      obtain ⟨_, _, _, _, _, _, _, _, _, _, _, _, z⟩ := h
      exact z.elim
    | .ok .next, h => exact False.elim h
    | .ok .brk, h => exact False.elim h
    | .ok .cont, h => exact False.elim h
    | .ok (.ret u), h =>
      obtain ⟨v, H', os, bare, un, hok', r', q⟩ := h
      have e : v = .bl true := q
      subst e
      obtain rfl : u = Value.bool true := r'
      refine ⟨rfl, OldK.of_keep fun b ob e => ?_, os, bare⟩
      cases q : only1 a o b with
      | none => exact un.keep b ob e q (by simp [frs]) (by simp)
      | some u =>
        rcases ho with z | ⟨oz, xs, z⟩
        · have z2 : b = a := only1_ne (o := o) (by rw [q]; exact fun z => nomatch z)
          unfold only1 at q
          rw [if_pos z2, z] at q
          cases q
        · have z2 : b = a := only1_ne (o := o) (by rw [q]; exact fun z => nomatch z)
          have z3 : only1 a o b = some (.frz oz (.lst xs)) := by unfold only1; rw [if_pos z2]; exact z
          obtain ⟨e1, _⟩ := hok b _ z3
          obtain ⟨e2, _⟩ := hok' b _ (un.frzs b oz _ z3)
          rw [e] at e1
          cases e1
          exact e2
  cases hk : K.lookup a with
  | some ob =>
    have e := KX a ob hk
    rw [ha] at e
    cases e
    refine main none (.inl rfl) (.inr ⟨_, vs.toArray, _, hk, rfl, rfl, rfl, by rw [List.size_toArray, lv]; exact hl, by simpa using rv⟩) (fun b u z => ?_) fun z => absurd rfl z
    unfold only1 at z
    split at z <;> cases z
  | none =>
    have e : only1 a (some (.frz { cls := .type "list", data := .seq vs.toArray } (.lst (ns.map V.int)))) a = some (.frz { cls := .type "list", data := .seq vs.toArray } (.lst (ns.map V.int))) := by unfold only1; rw [if_pos rfl]
    refine main _ (.inr ⟨_, _, rfl⟩) (.inl (.inr ⟨_, e⟩)) (fun b u z => ?_) fun _ => hk
    have z2 : b = a := only1_ne (by rw [z]; exact fun z => nomatch z)
    subst z2
    rw [e] at z
    cases z
    exact ⟨ha, by rw [List.length_map]; exact hl, vs, _, rv, ha⟩
end
/-- a law by the data that its def gives -/
theorem data_law {l : PySem.W.OpenLaw} {n k : Nat} {q : Program} {loose : List Str} {XP : (Str → Option Value) → Heap → Prop} {YP : World → Heap → Prop} {d : DefRec} {K : Params → PySem.W.Frag} {fs : World → Fs} {x : Str}
    (hn : l.most = some n) (hn2 : n ≤ sizeLine) (hdf : d.params.defaults = []) (hr : Room k callerA) (hY : ∀ (w : World) (h : Heap), YP w h → (K w.params).In h)
    (F : ∀ (w : World) (mg : Str → Option Value) (fa : Addr) (h : Heap), (K w.params).In h → h.Ns mainGlobals mg → mg d.name = some (.ref fa) →
      ∃ fd : FuncData, (∀ (s : Shared) (u : Value), BindsTo s fd ⟨[u], []⟩ [(x, u)]) ∧ ∀ base : Heap, (K w.params).In base → base.Ns mainGlobals mg → FnG l.prog w (K w.params) mg base k fa fd [x] (spOf (K w.params) mg 1 (fs w)))
    (yes : ∀ w, AllTrue n (fs w)) : PySem.W.WalkO q loose XP YP l.row.toRowW d [] (fun f vs => PySem.call f vs) := by
  refine Att.attach_call hn hdf fun w s₀ s₁ mg mb fa o pm cd doc a vs ns G Y ho hd hcd hmg hobj hints hlen hg => ?_
  obtain ⟨fd, hb, hF⟩ := F w mg fa _ (hY w _ Y) G.T.g hmg
  exact law_run (hY w _ Y) G.T.g G.T.b G.T.builtins G.T.nolimit hg hobj hints (Nat.le_trans hlen hn2) hr hF hb (yes w).io ((yes w).yes ns hlen)
end DL

/-! DLo: what the operators and the built-ins make of data. -/
namespace DL
open PySem L2

section
variable {K : PySem.W.Frag} {mg : Str → Option Value} {L : Addr → Prop} {H H' : Hp}

/-! ### numbers -/
def gI (c : Int → Int → Bool) (f : Int → Int → Dt) : Dt → Dt → Option R := fun x y => match x, y with
  | .int i, .int j => if c i j then some (.val (f i j)) else none
  | _, _ => none
theorem gI_some {c : Int → Int → Bool} {f : Int → Int → Dt} {x y : Dt} {rv : R} (h : gI c f x y = some rv) : ∃ i j, x = .int i ∧ y = .int j ∧ c i j = true ∧ rv = .val (f i j) := by
  unfold gI at h
  split at h
  · rename_i i j
    by_cases e : c i j = true
    · rw [if_pos e] at h; cases h; exact ⟨i, j, rfl, rfl, e, rfl⟩
    · rw [if_neg e] at h; cases h
  · cases h
theorem os_int {C : Int → Int → Prop} {v : Int → Int → V} {c : Int → Int → Bool} {f : Int → Int → Dt} (hc : ∀ i j, c i j = true → C i j) (hv : ∀ (G : Hp) i j, Rep K mg G (v i j) (f i j)) : OpS K mg (rI C v) (gI c f) :=
  fun L H x y dx dy rv Q tr rx ry h k => by
    obtain ⟨i, j, rfl, rfl, e, rfl⟩ := gI_some h
    exact ⟨i, j, rx.int, ry.int, hc i j e, k _ H (.refl H) (hv _ i j)⟩
theorem os_int0 {v : Int → Int → V} {f : Int → Int → Dt} (hv : ∀ (G : Hp) i j, Rep K mg G (v i j) (f i j)) : OpS K mg (rI0 v) (gI (fun _ _ => true) f) :=
  fun L H x y dx dy rv Q tr rx ry h k => by
    obtain ⟨i, j, rfl, rfl, e, rfl⟩ := gI_some h
    exact ⟨i, j, rx.int, ry.int, k _ H (.refl H) (hv _ i j)⟩
def small (i : Int) : Bool := decide (-(2 ^ 64) < i ∧ i < 2 ^ 64)
def gAdd := gI (fun _ _ => true) fun i j => .int (i + j)
def gSub := gI (fun _ _ => true) fun i j => .int (i - j)
def gMul := gI (fun i j => small i || small j) fun i j => .int (i * j)
def gDiv := gI (fun _ j => decide (0 < j ∧ j < 1073741824)) fun i j => .int (i / j)
def gMod := gI (fun _ j => decide (0 < j)) fun i j => .int (i % j)
def gPow := gI (fun i j => decide (0 ≤ j ∧ j ≤ 1000000 ∧ i.natAbs < 2 ^ 64)) fun i j => .int (i ^ j.toNat)
def gLt := gI (fun _ _ => true) fun i j => .bl (decide (i < j))
def gLe := gI (fun _ _ => true) fun i j => .bl (decide (i ≤ j))
def gGt := gI (fun _ _ => true) fun i j => .bl (decide (j < i))
def gGe := gI (fun _ _ => true) fun i j => .bl (decide (j ≤ i))
theorem os_add : OpS K mg (rI0 fun i j => .int (i + j)) gAdd := os_int0 fun _ _ _ => .int _
theorem os_sub : OpS K mg (rI0 fun i j => .int (i - j)) gSub := os_int0 fun _ _ _ => .int _
theorem os_mul : OpS K mg (rI CMul fun i j => .int (i * j)) gMul := os_int (fun i j h => by
  rcases Bool.or_eq_true _ _ ▸ h with e | e
  · exact .inl (of_decide_eq_true e)
  · exact .inr (of_decide_eq_true e)) fun _ _ _ => .int _
theorem os_div : OpS K mg (rI CDiv fun i j => .int (i / j)) gDiv := os_int (fun i j h => (of_decide_eq_true h : 0 < j ∧ j < 1073741824)) fun _ _ _ => .int _
theorem os_mod : OpS K mg (rI (fun _ j => 0 < j) fun i j => .int (i % j)) gMod := os_int (fun i j h => of_decide_eq_true h) fun _ _ _ => .int _
theorem os_pow : OpS K mg (rI CPow fun i j => .int (i ^ j.toNat)) gPow := os_int (fun i j h => (of_decide_eq_true h : 0 ≤ j ∧ j ≤ 1000000 ∧ i.natAbs < 2 ^ 64)) fun _ _ _ => .int _
theorem os_lt : OpS K mg (rI0 fun i j => .bl (decide (i < j))) gLt := os_int0 fun _ _ _ => .bl _
theorem os_le : OpS K mg (rI0 fun i j => .bl (decide (i ≤ j))) gLe := os_int0 fun _ _ _ => .bl _
theorem os_gt : OpS K mg (rI0 fun i j => .bl (decide (j < i))) gGt := os_int0 fun _ _ _ => .bl _
theorem os_ge : OpS K mg (rI0 fun i j => .bl (decide (j ≤ i))) gGe := os_int0 fun _ _ _ => .bl _
def gNeg : Dt → Option R := fun x => match x with | .int i => some (.val (.int (-i))) | _ => none
theorem us_neg : UnS K mg (rU fun i => .int (-i)) gNeg := fun L H x dx rv Q tr rx h k => by
  unfold gNeg at h
  split at h
  · rename_i i
    cases h
    exact ⟨i, rx.int, k _ H (.refl H) (.int _)⟩
  · cases h

/-! ### == and != of flat data -/
def flatD : Dt → Bool
  | .non => true | .bl _ => true | .int _ => true | .str _ => true | _ => false
def eqF : Dt → Dt → Option Bool
  | .non, .non => some true | .non, .int _ => some false | .int _, .non => some false | .non, .bl _ => some false | .bl _, .non => some false | .non, .str _ => some false | .str _, .non => some false
  | .int i, .int j => some (decide (i = j)) | .bl i, .bl j => some (decide (i = j)) | .str i, .str j => some (decide (i = j))
  | .int _, .str _ => some false | .str _, .int _ => some false | .bl _, .str _ => some false | .str _, .bl _ => some false
  | _, _ => none
def gEq : Dt → Dt → Option R := fun x y => (eqF x y).map fun b => .val (.bl b)
def gNe : Dt → Dt → Option R := fun x y => (eqF x y).map fun b => .val (.bl !b)
theorem eqF_ok {G H : Hp} {x y : V} {dx dy : Dt} {b : Bool} (rx : Rdb K mg G H x dx) (ry : Rdb K mg G H y dy) (h : eqF dx dy = some b) : scal x y = true ∧ decide (x = y) = b := by
  unfold eqF at h
  split at h <;> cases h
  all_goals (first
    | (rw [rx.non, ry.non]; exact ⟨rfl, by simp⟩) | (rw [rx.non, ry.int]; exact ⟨rfl, by simp⟩) | (rw [rx.int, ry.non]; exact ⟨rfl, by simp⟩)
    | (rw [rx.non, ry.bl]; exact ⟨rfl, by simp⟩) | (rw [rx.bl, ry.non]; exact ⟨rfl, by simp⟩) | (rw [rx.non, ry.str]; exact ⟨rfl, by simp⟩) | (rw [rx.str, ry.non]; exact ⟨rfl, by simp⟩)
    | (rw [rx.int, ry.int]; exact ⟨rfl, by simp⟩) | (rw [rx.bl, ry.bl]; exact ⟨rfl, by simp⟩) | (rw [rx.str, ry.str]; exact ⟨rfl, by simp⟩)
    | (rw [rx.int, ry.str]; exact ⟨rfl, by simp⟩) | (rw [rx.str, ry.int]; exact ⟨rfl, by simp⟩) | (rw [rx.bl, ry.str]; exact ⟨rfl, by simp⟩) | (rw [rx.str, ry.bl]; exact ⟨rfl, by simp⟩))
theorem os_eq : OpS K mg rEq gEq := fun L H x y dx dy rv Q tr rx ry h k => by
  unfold gEq at h
  cases e : eqF dx dy with
  | none => rw [e] at h; cases h
  | some b =>
    rw [e] at h
    cases h
    obtain ⟨e1, e2⟩ := eqF_ok rx ry e
    exact ⟨e1, k _ H (.refl H) (by rw [e2]; exact .bl b)⟩
theorem os_ne : OpS K mg rNe gNe := fun L H x y dx dy rv Q tr rx ry h k => by
  unfold gNe at h
  cases e : eqF dx dy with
  | none => rw [e] at h; cases h
  | some b =>
    rw [e] at h
    cases h
    obtain ⟨e1, e2⟩ := eqF_ok rx ry e
    exact ⟨e1, k _ H (.refl H) (by rw [e2]; exact .bl _)⟩
/-- is None -/
def isNonD : Dt → Bool
  | .non => true | _ => false
theorem isNon_ok {G H : Hp} {x : V} {d : Dt} (rx : Rdb K mg G H x d) : decide (x = .non) = isNonD d := by
  rcases rx with h | ⟨a, ob, e, _, xs, ds, _, e2, _⟩
  · cases h <;> simp [isNonD]
  · subst e; subst e2; simp [isNonD]
def gIsN : Dt → Dt → Option R := fun x y => match y with | .non => some (.val (.bl (isNonD x))) | _ => none
def gNotN : Dt → Dt → Option R := fun x y => match y with | .non => some (.val (.bl !(isNonD x))) | _ => none
theorem os_isN : OpS K mg (fun x y H Q => y = .non ∧ Q (.bl (decide (x = .non))) H) gIsN := fun L H x y dx dy rv Q tr rx ry h k => by
  unfold gIsN at h
  split at h
  · cases h
    exact ⟨ry.non, k _ H (.refl H) (by rw [isNon_ok rx]; exact .bl _)⟩
  · cases h
theorem os_notN : OpS K mg (fun x y H Q => y = .non ∧ Q (.bl (!decide (x = .non))) H) gNotN := fun L H x y dx dy rv Q tr rx ry h k => by
  unfold gNotN at h
  split at h
  · cases h
    exact ⟨ry.non, k _ H (.refl H) (by rw [isNon_ok rx]; exact .bl _)⟩
  · cases h

/-! ### texts -/
def line : Nat := 100000
def gCatS : Dt → Dt → Option R := fun x y => match x, y with
  | .str a, .str b => if a.length + b.length ≤ line then some (.val (.str (a ++ b))) else none
  | _, _ => none
theorem line_le {n : Nat} (h : n ≤ line) : n ≤ sizeLine := by rw [sizeLine_eq]; unfold line at h; omega
theorem os_catS : OpS K mg (fun x y H Q => ∃ i j, x = .str i ∧ y = .str j ∧ i.length + j.length ≤ sizeLine ∧ Q (.str (i ++ j)) H) gCatS := fun L H x y dx dy rv Q tr rx ry h k => by
  unfold gCatS at h
  split at h
  · rename_i a b
    by_cases e : a.length + b.length ≤ line
    · rw [if_pos e] at h; cases h
      exact ⟨a, b, rx.str, ry.str, line_le e, k _ H (.refl H) (.str _)⟩
    · rw [if_neg e] at h; cases h
  · cases h
def ltS (a b : Str) : Bool := decide (a.cps.toList < b.cps.toList)
def gLtS : Dt → Dt → Option R := fun x y => match x, y with
  | .str a, .str b => some (.val (.bl (ltS a b)))
  | _, _ => none
theorem os_ltS : OpS K mg (fun x y H Q => ∃ i j, x = .str i ∧ y = .str j ∧ Q (.bl (decide (i.cps.toList < j.cps.toList))) H) gLtS := fun L H x y dx dy rv Q tr rx ry h k => by
  unfold gLtS at h
  split at h
  · rename_i a b
    cases h
    exact ⟨a, b, rx.str, ry.str, k _ H (.refl H) (.bl _)⟩
  · cases h

/-! ### a new object -/
theorem new_lst {xs : List V} {ds : List Dt} {p : Addr} (tr : ∀ a, L a → H a ≠ none) (hp : H p = none) (r : RepA K mg (cut L H) xs ds) : RvOk K mg L H (upd H p (.lst xs)) (.new (.lst ds)) (.ref p) :=
  ⟨p, _, rfl, hp, upd_same, xs, ds, rfl, rfl, r.mono (cut_keep (fun a h n => h.elim id fun e => absurd hp (by subst e; exact n)) fun a o h _ => Le.new hp a o h)⟩
theorem new_tup {xs : List V} {ds : List Dt} {p : Addr} (tr : ∀ a, L a → H a ≠ none) (hp : H p = none) (r : RepA K mg (cut L H) xs ds) : RvOk K mg L H (upd H p (.tup xs)) (.val (.tup ds)) (.ref p) :=
  .tup (.inl (.inl (Le.fresh tr hp).2)) (r.mono (Le.fresh tr hp).1)
def gCatL : Dt → Dt → Option R := fun x y => match x, y with
  | .lst a, .lst b => if a.length + b.length ≤ line then some (.new (.lst (a ++ b))) else none
  | _, _ => none
theorem os_catL : OpS K mg rCat gCatL := fun L H x y dx dy rv Q tr rx ry h k => by
  unfold gCatL at h
  split at h
  · rename_i a b
    by_cases e : a.length + b.length ≤ line
    · rw [if_pos e] at h; cases h
      obtain ⟨p1, xs, rfl, h1, r1⟩ := rx.lst
      obtain ⟨p2, ys, rfl, h2, r2⟩ := ry.lst
      exact ⟨p1, p2, xs, ys, rfl, rfl, h1, h2, line_le (by rw [r1.length, r2.length]; exact e), fun p hp => k _ _ (.new hp) (new_lst tr hp (r1.append r2))⟩
    · rw [if_neg e] at h; cases h
  · cases h
def gCatT : Dt → Dt → Option R := fun x y => match x, y with
  | .tup a, .tup b => if a.length + b.length ≤ line then some (.val (.tup (a ++ b))) else none
  | _, _ => none
theorem RepA.nil_iff {G : Hp} {vs : List V} {ds : List Dt} (r : RepA K mg G vs ds) : vs = [] ↔ ds = [] := by
  cases r <;> simp
/-- a tuple that is read is frozen -/
theorem Rdb.tupz {G H : Hp} {v : V} {ds : List Dt} (h : Rdb K mg G H v (.tup ds)) : Rep K mg G v (.tup ds) := by
  rcases h with h | ⟨a, ob, e, ha, xs, ds', e1, e2, r⟩
  · exact h
  · cases e2
theorem os_catT : OpS K mg (rCatA K) gCatT := fun L H x y dx dy rv Q tr rx ry h k => by
  unfold gCatT at h
  split at h
  · rename_i a b
    by_cases e : a.length + b.length ≤ line
    · rw [if_pos e] at h; cases h
      have rx' := rx.tupz
      have ry' := ry.tupz
      cases rx' with
      | tup hx r1 =>
        cases ry' with
        | tup hy r2 =>
          refine ⟨_, _, _, _, rfl, rfl, (cut_le L H).t hx, (cut_le L H).t hy, line_le (by rw [r1.length, r2.length]; exact e), fun z => ?_, fun z z2 => ?_, fun z z2 p hp => ?_⟩
          · have ea := r1.nil_iff.mp z
            subst ea
            exact k _ H (.refl H) (.tup hy r2)
          · have eb := r2.nil_iff.mp z2
            subst eb
            refine k _ H (.refl H) ?_
            show Rep K mg (cut L H) _ (.tup (a ++ []))
            rw [List.append_nil]
            exact .tup hx r1
          · exact k _ _ (.new hp) (new_tup tr hp (r1.append r2))
    · rw [if_neg e] at h; cases h
  · cases h

/-! ### in -/
def eqD : Dt → Dt → Bool
  | .non, .non => true
  | .bl a, .bl b => a == b
  | .bl a, .int b => (if a then 1 else 0) == b
  | .int a, .bl b => a == (if b then 1 else 0)
  | .int a, .int b => a == b
  | .str a, .str b => a == b
  | _, _ => false
theorem flat_rep {G : Hp} {v : V} {d : Dt} (r : Rep K mg G v d) (h : flatD d = true) : flatV v = true := by
  cases r <;> first | rfl | cases h
theorem eqD_rep {G : Hp} {v u : V} {d e : Dt} (r : Rep K mg G v d) (q : Rep K mg G u e) (h : flatD d = true) (h2 : flatD e = true) : eqV v u = eqD d e := by
  cases r <;> first | (cases h; done) | (cases q <;> first | (cases h2; done) | rfl)
theorem flat_all {G : Hp} : ∀ {vs : List V} {ds : List Dt}, RepA K mg G vs ds → ds.all flatD = true → vs.all flatV = true
  | _, _, .nil, _ => rfl
  | _, _, .cons r t, h => by
    rw [List.all_cons, Bool.and_eq_true] at h
    rw [List.all_cons, flat_rep r h.1, flat_all t h.2]; rfl
theorem in_rep {G : Hp} {u : V} {e : Dt} (q : Rep K mg G u e) (h2 : flatD e = true) : ∀ {vs : List V} {ds : List Dt}, RepA K mg G vs ds → ds.all flatD = true → inV u vs = ds.any fun d => eqD d e
  | _, _, .nil, _ => rfl
  | _, _, .cons r t, h => by
    rw [List.all_cons, Bool.and_eq_true] at h
    unfold inV
    rw [List.any_cons, List.any_cons, eqD_rep r q h.1 h2]
    have := in_rep q h2 t h.2
    unfold inV at this
    rw [this]
def seqD : Dt → Option (List Dt)
  | .tup xs => some xs | .lst xs => some xs | .scr xs => some xs | _ => none
theorem Rdb.seq {L : Addr → Prop} {H : Hp} {v : V} {d : Dt} {ds : List Dt} (h : Rdb K mg (cut L H) H v d) (e : seqD d = some ds) : ∃ a xs, v = .ref a ∧ (SqL K H a xs ∨ SqT K H a xs) ∧ RepA K mg (cut L H) xs ds := by
  unfold seqD at e
  split at e
  · cases e; obtain ⟨a, xs, e1, e2, r⟩ := h.tup; exact ⟨a, xs, e1, .inr e2, r⟩
  · cases e; obtain ⟨a, xs, e1, e2, r⟩ := h.lst; exact ⟨a, xs, e1, .inl (SqL.of e2), r⟩
  · cases e; obtain ⟨a, xs, e1, e2, r⟩ := h.scr; exact ⟨a, xs, e1, .inl e2, r⟩
  · cases e
def inD (x y : Dt) : Option Bool := match seqD y with
  | some ds => if flatD x && ds.all flatD then some (ds.any fun d => eqD d x) else none
  | none => none
def gIn : Dt → Dt → Option R := fun x y => (inD x y).map fun b => .val (.bl b)
def gNotIn : Dt → Dt → Option R := fun x y => (inD x y).map fun b => .val (.bl !b)
theorem inD_ok {L : Addr → Prop} {H : Hp} {x y : V} {dx dy : Dt} {b : Bool} (rx : Rdb K mg (cut L H) H x dx) (ry : Rdb K mg (cut L H) H y dy) (h : inD dx dy = some b) :
    ∃ p xs, y = .ref p ∧ (SqL K H p xs ∨ SqT K H p xs) ∧ flatV x = true ∧ xs.all flatV = true ∧ inV x xs = b := by
  unfold inD at h
  cases e : seqD dy with
  | none => rw [e] at h; cases h
  | some ds =>
    simp only [e] at h
    by_cases c : (flatD dx && ds.all flatD) = true
    · rw [if_pos c] at h
      cases h
      rw [Bool.and_eq_true] at c
      obtain ⟨a, xs, e1, e2, r⟩ := ry.seq e
      have qx := rx.rep
      have r' := r.mono (cut_le L H)
      exact ⟨a, xs, e1, e2, flat_rep qx c.1, flat_all r' c.2, in_rep qx c.1 r' c.2⟩
    · rw [if_neg c] at h; cases h
theorem os_in : OpS K mg (rIn K false) gIn := fun L H x y dx dy rv Q tr rx ry h k => by
  unfold gIn at h
  cases e : inD dx dy with
  | none => rw [e] at h; cases h
  | some b =>
    rw [e] at h; cases h
    obtain ⟨p, xs, e1, e2, e3, e4, e5⟩ := inD_ok rx ry e
    exact ⟨p, xs, e1, e2, e3, e4, k _ H (.refl H) (by rw [← e5]; exact .bl _)⟩
theorem os_notIn : OpS K mg (rIn K true) gNotIn := fun L H x y dx dy rv Q tr rx ry h k => by
  unfold gNotIn at h
  cases e : inD dx dy with
  | none => rw [e] at h; cases h
  | some b =>
    rw [e] at h; cases h
    obtain ⟨p, xs, e1, e2, e3, e4, e5⟩ := inD_ok rx ry e
    exact ⟨p, xs, e1, e2, e3, e4, k _ H (.refl H) (by rw [← e5]; exact .bl _)⟩

/-! ### x[i], x[a:b], len -/
def atD (xs : List Dt) (i : Int) : Option Dt := (ixN xs.length i).bind fun j => xs[j]?
def gIdx : Dt → Dt → Option R := fun x y => match x, y with
  | .str s, .int i => if s.length ≤ line then (atI s.cps.toList i).map fun c => .val (.str ⟨#[c]⟩) else none
  | d, .int i => match seqD d with
    | some xs => (atD xs i).map .val
    | none => none
  | _, _ => none
theorem atD_ok {G : Hp} {vs : List V} {ds : List Dt} {i : Int} {d : Dt} (r : RepA K mg G vs ds) (h : atD ds i = some d) : ∃ v, atI vs i = some v ∧ Rep K mg G v d := by
  unfold atD at h
  unfold atI
  rw [r.length]
  cases e : ixN ds.length i with
  | none => rw [e] at h; cases h
  | some j =>
    rw [e] at h
    exact r.get h
theorem os_idx : OpS K mg (rIx K) gIdx := fun L H x y dx dy rv Q tr rx ry h k => by
  unfold gIdx at h
  split at h
  · rename_i s i
    by_cases e : s.length ≤ line
    · rw [if_pos e] at h
      cases e2 : atI s.cps.toList i with
      | none => rw [e2] at h; cases h
      | some c =>
        rw [e2] at h; cases h
        exact .inr (.inr ⟨s, i, c, rx.str, ry.int, line_le e, e2, k _ H (.refl H) (.str _)⟩)
    · rw [if_neg e] at h; cases h
  · rename_i i hne
    cases e : seqD dx with
    | none => simp only [e] at h; cases h
    | some ds =>
      simp only [e] at h
      cases e2 : atD ds i with
      | none => rw [e2] at h; cases h
      | some d =>
        rw [e2] at h; cases h
        obtain ⟨a, xs, e1, e3, r⟩ := rx.seq e
        obtain ⟨v, e4, e5⟩ := atD_ok r e2
        rcases e3 with e3 | e3
        · exact .inl ⟨a, xs, i, v, e1, ry.int, e3, e4, k _ H (.refl H) e5⟩
        · exact .inr (.inl ⟨a, xs, i, v, e1, ry.int, e3, e4, k _ H (.refl H) e5⟩)
  · cases h
def lenD : Dt → Option Nat
  | .str s => if s.length ≤ line then some s.length else none
  | d => (seqD d).map List.length
def gLen : List Dt → Option R := fun l => match l with
  | [d] => (lenD d).map fun n => .val (.int n)
  | _ => none
theorem lenD_ok {L : Addr → Prop} {H : Hp} {v : V} {d : Dt} {n : Nat} (r : Rdb K mg (cut L H) H v d) (h : lenD d = some n) : LenV K v H n := by
  unfold lenD at h
  split at h
  · rename_i s
    by_cases e : s.length ≤ line
    · rw [if_pos e] at h; cases h
      rw [r.str]
      exact ⟨line_le e, rfl⟩
    · rw [if_neg e] at h; cases h
  · cases e : seqD d with
    | none => rw [e] at h; cases h
    | some ds =>
      rw [e] at h; cases h
      obtain ⟨a, xs, e1, e3, r⟩ := r.seq e
      rw [e1]
      rcases e3 with e3 | e3
      · exact .inl ⟨xs, e3, r.length.symm⟩
      · exact .inr ⟨xs, e3, r.length.symm⟩
theorem cs_len : CallS K mg (fun xs H Q => ∃ x n, xs = [x] ∧ LenV K x H n ∧ Q (.int n) H) gLen := fun L H xs ds rv Q tr r h k => by
  unfold gLen at h
  split at h
  · rename_i d
    obtain ⟨v, rfl, rv1⟩ := Paired.one r
    cases e : lenD d with
    | none => rw [e] at h; cases h
    | some n =>
      rw [e] at h; cases h
      exact ⟨v, n, rfl, lenD_ok rv1 e, k _ H (.refl H) (.int _)⟩
  · cases h

/-! ### built-ins of numbers -/
def gInt : List Dt → Option R := fun l => match l with
  | [.int i] => some (.val (.int i))
  | _ => none
def gAbs : List Dt → Option R := fun l => match l with
  | [.int i] => some (.val (.int (if i < 0 then -i else i)))
  | _ => none
def gMax2 : List Dt → Option R := fun l => match l with
  | [.int i, .int j] => some (.val (.int (if j > i then j else i)))
  | _ => none
def gMin2 : List Dt → Option R := fun l => match l with
  | [.int i, .int j] => some (.val (.int (if j < i then j else i)))
  | _ => none
def gDivmod : List Dt → Option R := fun l => match l with
  | [.int i, .int j] => if 0 < j ∧ j < 1073741824 then some (.val (.tup [.int (i / j), .int (i % j)])) else none
  | _ => none
theorem cs_int : CallS K mg (fun xs H Q => (∃ i, xs = [.int i] ∧ Q (.int i) H) ∨ ∃ k, xs = [.bl k] ∧ Q (.int (if k then 1 else 0)) H) gInt := fun L H xs ds rv Q tr r h k => by
  unfold gInt at h
  split at h
  · obtain ⟨v, rfl, rv1⟩ := Paired.one r
    cases h
    exact .inl ⟨_, by rw [rv1.int], k _ H (.refl H) (.int _)⟩
  · cases h
theorem cs_abs : CallS K mg (fun xs H Q => ∃ i, xs = [.int i] ∧ Q (.int (if i < 0 then -i else i)) H) gAbs := fun L H xs ds rv Q tr r h k => by
  unfold gAbs at h
  split at h
  · obtain ⟨v, rfl, rv1⟩ := Paired.one r
    cases h
    exact ⟨_, by rw [rv1.int], k _ H (.refl H) (.int _)⟩
  · cases h
theorem cs_max2 : CallS K mg (fun xs H Q => ∃ i j, xs = [.int i, .int j] ∧ Q (.int (if j > i then j else i)) H) gMax2 := fun L H xs ds rv Q tr r h k => by
  unfold gMax2 at h
  split at h
  · obtain ⟨v, u, rfl, rv1, rv2⟩ := Paired.two r
    cases h
    exact ⟨_, _, by rw [rv1.int, rv2.int], k _ H (.refl H) (.int _)⟩
  · cases h
theorem cs_min2 : CallS K mg (fun xs H Q => ∃ i j, xs = [.int i, .int j] ∧ Q (.int (if j < i then j else i)) H) gMin2 := fun L H xs ds rv Q tr r h k => by
  unfold gMin2 at h
  split at h
  · obtain ⟨v, u, rfl, rv1, rv2⟩ := Paired.two r
    cases h
    exact ⟨_, _, by rw [rv1.int, rv2.int], k _ H (.refl H) (.int _)⟩
  · cases h
theorem cs_divmod : CallS K mg (fun xs H Q => ∃ i j, xs = [.int i, .int j] ∧ CDiv i j ∧ ∀ p, H p = none → Q (.ref p) (upd H p (.tup [.int (i / j), .int (i % j)]))) gDivmod := fun L H xs ds rv Q tr r h k => by
  unfold gDivmod at h
  split at h
  · rename_i i j
    obtain ⟨v, u, rfl, rv1, rv2⟩ := Paired.two r
    by_cases e : 0 < j ∧ j < 1073741824
    · rw [if_pos e] at h; cases h
      exact ⟨i, j, by rw [rv1.int, rv2.int], e, fun p hp => k _ _ (.new hp) (new_tup tr hp (.cons (.int _) (.cons (.int _) .nil)))⟩
    · rw [if_neg e] at h; cases h
  · cases h

/-! ### sums, all, any -/
def intsD : List Dt → Option (List Int)
  | [] => some []
  | .int i :: r => (intsD r).map (i :: ·)
  | _ => none
def blsD : List Dt → Option (List Bool)
  | [] => some []
  | .bl i :: r => (blsD r).map (i :: ·)
  | _ => none
def strsD : List Dt → Option (List Str)
  | [] => some []
  | .str i :: r => (strsD r).map (i :: ·)
  | _ => none
theorem intsD_ok {G : Hp} : ∀ {vs : List V} {ds : List Dt} {ns : List Int}, RepA K mg G vs ds → intsD ds = some ns → vs = ns.map V.int ∧ ds = ns.map Dt.int
  | _, _, _, .nil, h => by cases h; exact ⟨rfl, rfl⟩
  | _, _, _, .cons (d := d) (ds := ds) r t, h => by
    cases d with
    | int i =>
      have h' : (intsD ds).map (i :: ·) = some _ := h
      cases e : intsD ds with
      | none => rw [e] at h'; cases h'
      | some ns =>
        rw [e] at h'; cases h'
        obtain ⟨e1, e2⟩ := intsD_ok t e
        cases r
        subst e1; subst e2
        exact ⟨rfl, rfl⟩
    | _ => cases h
theorem blsD_ok {G : Hp} : ∀ {vs : List V} {ds : List Dt} {ns : List Bool}, RepA K mg G vs ds → blsD ds = some ns → vs = ns.map V.bl ∧ ds = ns.map Dt.bl
  | _, _, _, .nil, h => by cases h; exact ⟨rfl, rfl⟩
  | _, _, _, .cons (d := d) (ds := ds) r t, h => by
    cases d with
    | bl i =>
      have h' : (blsD ds).map (i :: ·) = some _ := h
      cases e : blsD ds with
      | none => rw [e] at h'; cases h'
      | some ns =>
        rw [e] at h'; cases h'
        obtain ⟨e1, e2⟩ := blsD_ok t e
        cases r
        subst e1; subst e2
        exact ⟨rfl, rfl⟩
    | _ => cases h
theorem strsD_ok {G : Hp} : ∀ {vs : List V} {ds : List Dt} {ns : List Str}, RepA K mg G vs ds → strsD ds = some ns → vs = ns.map V.str ∧ ds = ns.map Dt.str
  | _, _, _, .nil, h => by cases h; exact ⟨rfl, rfl⟩
  | _, _, _, .cons (d := d) (ds := ds) r t, h => by
    cases d with
    | str i =>
      have h' : (strsD ds).map (i :: ·) = some _ := h
      cases e : strsD ds with
      | none => rw [e] at h'; cases h'
      | some ns =>
        rw [e] at h'; cases h'
        obtain ⟨e1, e2⟩ := strsD_ok t e
        cases r
        subst e1; subst e2
        exact ⟨rfl, rfl⟩
    | _ => cases h
def lstD : Dt → Option (List Dt)
  | .lst xs => some xs | .scr xs => some xs | _ => none
theorem Rdb.lists {L : Addr → Prop} {H : Hp} {v : V} {d : Dt} {ds : List Dt} (h : Rdb K mg (cut L H) H v d) (e : lstD d = some ds) : ∃ a xs, v = .ref a ∧ SqL K H a xs ∧ RepA K mg (cut L H) xs ds := by
  unfold lstD at e
  split at e
  · cases e; obtain ⟨a, xs, e1, e2, r⟩ := h.lst; exact ⟨a, xs, e1, SqL.of e2, r⟩
  · cases e; obtain ⟨a, xs, e1, e2, r⟩ := h.scr; exact ⟨a, xs, e1, e2, r⟩
  · cases e
def gBls (f : List Bool → Bool) : List Dt → Option R := fun l => match l with
  | [d] => match lstD d with
    | some ds => (blsD ds).map fun bs => .val (.bl (f bs))
    | none => none
  | _ => none
def gAll := gBls fun bs => bs.all id
def gAny := gBls fun bs => bs.any id
theorem gBls_ok {f : List Bool → Bool} {L : Addr → Prop} {H : Hp} {xs : List V} {ds : List Dt} {rv : R} (r : RdA K mg (cut L H) H xs ds) (h : gBls f ds = some rv) : ∃ a bs, xs = [.ref a] ∧ SqL K H a (bs.map V.bl) ∧ rv = .val (.bl (f bs)) := by
  unfold gBls at h
  split at h
  · rename_i d
    obtain ⟨v, rfl, rv1⟩ := Paired.one r
    cases e : lstD d with
    | none => simp only [e] at h; cases h
    | some l =>
      simp only [e] at h
      cases e2 : blsD l with
      | none => rw [e2] at h; cases h
      | some bs =>
        rw [e2] at h; cases h
        obtain ⟨a, ys, e1, e3, r⟩ := rv1.lists e
        obtain ⟨e4, _⟩ := blsD_ok r e2
        subst e4
        exact ⟨a, bs, by rw [e1], e3, rfl⟩
  · cases h
theorem cs_all : CallS K mg (rAll K) gAll := fun L H xs ds rv Q tr r h k => by
  obtain ⟨a, bs, e1, e2, rfl⟩ := gBls_ok r h
  exact ⟨a, bs, e1, e2, k _ H (.refl H) (.bl _)⟩
theorem cs_any : CallS K mg (rAny K) gAny := fun L H xs ds rv Q tr r h k => by
  obtain ⟨a, bs, e1, e2, rfl⟩ := gBls_ok r h
  exact ⟨a, bs, e1, e2, k _ H (.refl H) (.bl _)⟩
def gSum : List Dt → Option R := fun l => match l with
  | [d] => match lstD d with
    | some ds => (intsD ds).map fun ns => .val (.int ns.sum)
    | none => none
  | _ => none
theorem cs_sum : CallS K mg (rSum K) gSum := fun L H xs ds rv Q tr r h k => by
  unfold gSum at h
  split at h
  · rename_i d
    obtain ⟨v, rfl, rv1⟩ := Paired.one r
    cases e : lstD d with
    | none => simp only [e] at h; cases h
    | some l =>
      simp only [e] at h
      cases e2 : intsD l with
      | none => rw [e2] at h; cases h
      | some ns =>
        rw [e2] at h; cases h
        obtain ⟨a, ys, e1, e3, r⟩ := rv1.lists e
        obtain ⟨e4, _⟩ := intsD_ok r e2
        subst e4
        exact ⟨a, ns, by rw [e1], e3, k _ H (.refl H) (.int _)⟩
  · cases h
end
end DL

/-! DLx: own exceptions over ValueError, made by an __init__ that says super().__init__(g); self.g = g. -/
namespace DX
open PySem PySem.W PySem.Calls PyProof.Rows

/-- the scope of such an __init__ -/
def iniScope (g : Str) : Scope := { kind := .function, names := [("self", .local), (g, .local), ("__class__", .free), ("super", .globalImplicit)], isGenerator := false, isCoroutine := false, more := [] }
def iniArgs (g : Str) (q0 q1 : Pos) : Arguments := { posonlyargs := [], args := [{ arg := "self", annotation := none, pos := q0 }, { arg := g, annotation := none, pos := q1 }], vararg := none, kwonlyargs := [], kw_defaults := [], kwarg := none, defaults := [] }
def iniBody (g : Str) (p0 p1 p2 p3 p4 p6 p7 p8 p9 : Pos) : List Stmt :=
  [.Expr (.Call (.Attribute (.Call (.Name "super" p0) [] [] p1) "__init__" p2) [.Name g p3] [] p4) p4, .Assign [.Attribute (.Name "self" p6) g p7] (.Name g p8) p9]

/-- the call of super().__init__(g), as it is read -/
def SupEq (g : Str) (p0 p1 p2 p3 p4 : Pos) : Prop := ∃ pl : Sem Bool, ∀ env : Env, eval (.Call (.Attribute (.Call (.Name "super" p0) [] [] p1) "__init__" p2) [.Name g p3] [] p4) env = (do
  let ov ← attributeBase (.Call (.Name "super" p0) [] [] p1) "__init__" env (eval (.Call (.Name "super" p0) [] [] p1) env)
  standAt p2.atName
  let (f, first) ← holding [ov] (getMethod ov "__init__" pl)
  callWith p4 f first (backTo p4 (starEach [.Name g p3] env)) [])
/-- what the written part tells of such a class -/
structure IniC (P : Program) (K : Frag) (g : Str) (C fI cc cda : Addr) : Prop where
  cls : L2.OexC K C
  ini : findIn K (.ref C) "__init__" = some (some (.ref fI))
  noG : findIn K (.ref C) g = some none
  fnc : ∃ (q0 q1 p0 p1 p2 p3 p4 p6 p7 p8 p9 : Pos) (name qual : Str) (dV kV doc pm ct oc : Value) (an od : Option Addr) (osl : Array (Option Value)),
    K.lookup fI = some ⟨oc, od, .func (ksFn name qual (iniArgs g q0 q1) (iniBody g p0 p1 p2 p3 p4 p6 p7 p8 p9) (iniScope g) dV kV doc pm an (.ref cda) ct cc), osl⟩ ∧ oc = .type "function" ∧ codeIn K (.ref cda) qual = true ∧ SupEq g p0 p1 p2 p3 p4 ∧ (∀ env : Env, swapsWith (.Name g p8) (some (.Attribute (.Name "self" p6) g p7)) p9.line env = pure false) ∧
    (∀ (s : Shared) (a v : Value), BindsTo s (ksFn name qual (iniArgs g q0 q1) (iniBody g p0 p1 p2 p3 p4 p6 p7 p8 p9) (iniScope g) dV kV doc pm an (.ref cda) ct cc) ⟨[a, v], []⟩ [("self", a), (g, v)]) ∧
    ∀ (s : Shared) (a v : Value), BindsTo s (ksFn name qual (iniArgs g q0 q1) (iniBody g p0 p1 p2 p3 p4 p6 p7 p8 p9) (iniScope g) dV kV doc pm an (.ref cda) ct cc) ⟨[a], [(g, v)]⟩ [("self", a), (g, v)]
  code : ∃ (ccl : Value) (cdd : Option Addr) (vs : Array Value) (ccs : Array (Option Value)) (file : Str) (tf : Tok), K.lookup cda = some ⟨ccl, cdd, .fields vs, ccs⟩ ∧ vs[2]? = some (.str file tf) ∧ ((P.main.file : Str) == file) = true
  cell : ∃ (cl : Value) (cld : Option Addr) (csl : Array (Option Value)), K.lookup cc = some ⟨cl, cld, .cell (some (.ref C)), csl⟩
  self : mroIn K C (.ref C) = some true
  sup : ks_superIn K C C "__init__" = some (some (.builtin "ValueError.__init__"))
  isB : subIn K (.ref C) (.type "ValueError") = some true
  any : nsIn K cStatics "thirdparty.any" = some none
  top : (P.main.scope.names.lookup ("super" : Str)).isSome = false

section
variable {P : Program} {w : World} {K : Frag} {A : Around} {s : Shared} {g : Str} {C fI cc cda e t0 : Addr} {v : Value} {R : Result → Shared → Prop} {args : Args} {mg : Str → Option Value}

theorem init_raw (T : IniC P K g C fI cc cda) (hg1 : g ≠ "self") (hg2 : g ≠ "super") (hg3 : g ≠ "__class__") (hg4 : (g == ("__debug__" : Str)) = false) (X : K.In s.heap) (hns : s.heap.Ns mainGlobals mg) (hms : mg "super" = none) (hbl : ∃ mb, s.heap.Ns builtinsNs mb ∧ mb "super" = some (.type "super")) (lim : s.heap.NoLimit)
    (hroom : A.depth < recursionLimit) (he : s.heap.get? e = some (HandSPX.excO C t0)) (heK : ∀ b o, K.lookup b = some o → b ≠ e)
    (hargs : args = ⟨[.ref e, v], []⟩ ∨ args = ⟨[.ref e], [(g, v)]⟩)
    (hq : ∀ h' tk' dx t1, (∀ b o, b ≠ e → s.heap.get? b = some o → h'.get? b = some o) → s.heap.objs.size ≤ dx → dx ≠ e → h'.get? e = some ({ cls := .ref C, dict := some dx, data := .fields #[.ref t1, .none, .none, .none, .bool false, .none] } : Obj) → h'.Ns1 dx (fun y => if y = g then some v else none) →
      R (.ok (.ret .none)) { s with heap := h', toks := tk' }) :
    codeAny (model P w) A (.call (.ref fI) args) R s := by
  obtain ⟨q0, q1, p0, p1, p2, p3, p4, p6, p7, p8, p9, name, qual, dV, kV, doc, pm, ct, oc, an, od, osl, hf, rfl, hcd, ⟨pl, hsup⟩, hsw, hb3, hb4⟩ := T.fnc
  obtain ⟨ccl, cdd, vs, ccs, file, tf, hcode, hvs, hfile⟩ := T.code
  obtain ⟨cl, cld, csl, hcell⟩ := T.cell
  obtain ⟨nm, qn, N, bs, bm, sn, sub, ab, col, dd, k0, k1, k2, k3, k5, hC, hbm⟩ := T.cls.cls
  obtain ⟨mb, hb1, hb2⟩ := hbl
  refine ks_codeAny_call_defAt (fd := ksFn name qual (iniArgs g q0 q1) (iniBody g p0 p1 p2 p3 p4 p6 p7 p8 p9) (iniScope g) dV kV doc pm an (.ref cda) ct cc) (body := iniBody g p0 p1 p2 p3 p4 p6 p7 p8 p9) (binds := [("self", .ref e), (g, v)]) hroom (X _ _ hf) rfl lim (codeRec_of X hcd) rfl (by rcases hargs with q | q <;> subst q; exact hb3 _ _ _; exact hb4 _ _ _) ?_ ?_ (fun h₁ hns1 hk1 => ?_)
  · intro x hx
    simp only [iniScope, List.mem_cons, List.not_mem_nil, or_false] at hx
    rcases hx with rfl | rfl | rfl | rfl <;> exact fun z => nomatch z
  · intro x hx
    simp only [List.mem_cons, List.not_mem_nil, or_false] at hx
    rcases hx with rfl | rfl
    · rfl
    · show ([("self", NameKind.local), (g, .local), ("__class__", .free), ("super", .globalImplicit)] : List (Str × NameKind)).lookup g = some .local
      rw [List.lookup_cons, show (g == ("self" : Str)) = false by simpa using hg1]
      rw [List.lookup_cons, show (g == g) = true by simp]
  have lkS : ([("self", NameKind.local), (g, .local), ("__class__", .free), ("super", .globalImplicit)] : List (Str × NameKind)).lookup ("super" : Str) = some .globalImplicit := by
    rw [List.lookup_cons, show ((("super" : Str)) == ("self" : Str)) = false by decide]
    rw [List.lookup_cons, show ((("super" : Str)) == g) = false by simpa using fun z => hg2 z.symm]
    rfl
  have lkC : ([("self", NameKind.local), (g, .local), ("__class__", .free), ("super", .globalImplicit)] : List (Str × NameKind)).lookup ("__class__" : Str) = some .free := by
    rw [List.lookup_cons, show ((("__class__" : Str)) == ("self" : Str)) = false by decide]
    rw [List.lookup_cons, show ((("__class__" : Str)) == g) = false by simpa using fun z => hg3 z.symm]
    rfl
  have lkG : ([("self", NameKind.local), (g, .local), ("__class__", .free), ("super", .globalImplicit)] : List (Str × NameKind)).lookup g = some .local := by
    rw [List.lookup_cons, show (g == ("self" : Str)) = false by simpa using hg1]
    rw [List.lookup_cons, show (g == g) = true by simp]
  have X1 : K.In h₁ := X.keeps hk1
  have he1 := hk1 _ _ he
  have hel := Heap.lt_size he
  have hcl : clsIn K C = some { name := nm, bases := bs, mro := .ref C :: bm, ns := N, qualname := qn, hasDict := true, slotNames := sn, subclasses := sub, abstract := ab, collection := col, hasDel := false } := by unfold clsIn; rw [hC] <;> rfl
  have mS : (fun x : Str => ([("self", Value.ref e), (g, v)] : List (Str × Value)).reverse.lookup x) "self" = some (.ref e) := by
    show ([(g, v), ("self", Value.ref e)] : List (Str × Value)).lookup ("self" : Str) = _
    rw [List.lookup_cons, show ((("self" : Str)) == g) = false by simpa using fun z => hg1 z.symm]
    rfl
  have mG : (fun x : Str => ([("self", Value.ref e), (g, v)] : List (Str × Value)).reverse.lookup x) g = some v := by
    show ([(g, v), ("self", Value.ref e)] : List (Str × Value)).lookup g = _
    rw [List.lookup_cons, show (g == g) = true by simp]
  generalize (fun x : Str => ([("self", Value.ref e), (g, v)] : List (Str × Value)).reverse.lookup x) = m at hns1 mS mG
  obtain ⟨hh, gg, dd', t, os⟩ := s
  have I1 : InstAt h₁ e (HandSPX.excO C t0) C none := ⟨he1, rfl, rfl, trivial⟩
  have notC : e ≠ C := ks_ne X1 I1 hcl
  refine ks_wpAt_execs_cons (ks_wpAt_Expr_any (ks_wpAt_MethodCall (pl := pl) ?_ (hsup _)))
  refine ks_wpAt_super_base (env := ksEnv qual (iniScope g) hh.objs.size fI (.ref cda) cc) lkS lkC (by decide) rfl (X1 _ _ hf) rfl rfl rfl (X1 _ _ hcode) rfl hvs hfile T.top ?_
  refine ks_loadName_global rfl lkS (loadGlobal_builtin (env := ksEnv qual (iniScope g) hh.objs.size fI (.ref cda) cc) (hns.keeps hk1) hms (hb1.keeps hk1) hb2 ⟨rfl, ?_⟩)
  refine wpAny_loadName_free rfl lkC rfl ⟨_, X1 _ _ hcell, rfl⟩ ?_
  refine wpAny_loadName_local rfl rfl hns1 mS ?_
  refine ks_wpAny_isType_cls (X1 _ _ hC) rfl ⟨rfl, ?_⟩
  refine ks_wpAny_call_super (X1 _ _ hC) rfl he1 rfl (fun c z => nomatch z) (looks_mroIn X1 T.self) (fun h2 hso k2 => ?_)
  have X2 : K.In h2 := X1.keeps k2
  have I2 : InstAt h2 e (HandSPX.excO C t0) C none := ⟨k2 _ _ he1, rfl, rfl, trivial⟩
  have hsp := T.sup
  unfold ks_superIn at hsp
  rw [hcl] at hsp
  refine kxs_getMethod kxs_ValueError hso (looks_opaque X2 T.any) (fun A Q E s k q => wpAny_bind ((looks_clsIn X2 hcl) A _ E s k (wpAny_pure q))) rfl X2 hsp (I2.type.andThen (looks_subIn X2 T.isB)) notC (by decide) ?_
  have ns2 : h2.Ns hh.objs.size m := by
    obtain ⟨oL, es, ep, hL, r⟩ := hns1
    exact ⟨oL, es, ep, k2 _ _ hL, r⟩
  have ns3 : (h2.push (kxs_mw "ValueError.__init__" e)).Ns hh.objs.size m := by
    obtain ⟨oL, es, ep, hL, r⟩ := ns2
    exact ⟨oL, es, ep, Heap.get?_push_of_some _ hL, r⟩
  have hu : (h2.push (kxs_mw "ValueError.__init__" e)).get? h2.objs.size = some (kxs_mw "ValueError.__init__" e) := Heap.get?_push_size _ rfl
  refine kxs_callWith (i := "ValueError.__init__") (x := e) rfl (evalArgs_plain ?_)
  show wpAny _ _ (spliced ((false, eval (.Name g p3) (ksEnv qual (iniScope g) hh.objs.size fI (.ref cda) cc)) :: backTo p4 [])) _ _ _
  refine Calls.spliced_cons (wpAny_Name (wpAny_loadName_local rfl lkG ns3 mG ?_) hg4)
  refine Calls.spliced_nil ⟨hu, ?_⟩
  have keep3 : ∀ b o, hh.get? b = some o → (h2.push (kxs_mw "ValueError.__init__" e)).get? b = some o := fun b o z => Heap.get?_push_of_some _ (k2 _ _ (hk1 _ _ z))
  have he3 := keep3 _ _ he
  have hC3 := keep3 _ _ (X _ _ hC)
  generalize (h2.push (kxs_mw "ValueError.__init__" e)) = h3 at ns3 hu keep3 he3 hC3
  refine wpAny_call (codeAny_of_tree ?_)
  show wpAny _ _ (callAny (.ref h2.objs.size) ⟨[v], []⟩) _ _ _
  simp only [callAny]
  refine wpAny_bind (wpAny_load hu ?_)
  simp only [kxs_mw, show (Value.type "method-wrapper" == Value.type "method" || Value.type "method-wrapper" == Value.type "builtin_function_or_method" || Value.type "method-wrapper" == Value.type "method-wrapper") = true by decide, if_true]
  refine KFB.if_so (by decide) ?_
  refine wpAny_bind (check_bound_init F.excBase_ValueError.toExcCallFacts hC3 he3 rfl ?_)
  refine wpAny_bind (wpAny_pure (wpAny_pure ?_))
  refine ⟨plainId_quiet F.excBase_ValueError.init.plain _, codeAny_builtin F.excBase_ValueError.initEntry ?_⟩
  refine exc_init_tree (cls := .ref C) (t0 := t0) (dv := none) (c2 := .none) (c3 := .none) (b4 := .bool false) he3 (by rw [sizeLine_eq]; show 1 ≤ 16777216; decide) (fun h4 k4 he4 _ => ?_)
  have ns4 : h4.Ns hh.objs.size m := by
    obtain ⟨oL, es, ep, hL, r⟩ := ns3
    exact ⟨oL, es, ep, k4 _ _ (Nat.ne_of_gt hel) hL, r⟩
  have X4 : K.In h4 := fun b o z => k4 b o (heK b o z) (keep3 _ _ (X b o z))
  show PySem.wpAt _ _ _ (execs [_] _) _ _ _
  refine ks_wpAt_execs_cons (wpAt_of_wpAny (plainObj_wpAny_Assign_Attribute ?_ (hsw _)))
  refine wpAny_Name (wpAny_loadName_local rfl lkG ns4 mG ?_) hg4
  refine wpAny_Name (wpAny_loadName_local rfl rfl ns4 mS ?_) (by decide)
  refine set_plain X4 (ox := { cls := .ref C, dict := none, data := .fields #[.ref h3.objs.size, .none, .none, .none, .bool false, .none] }) (od := none) ⟨he4, rfl, rfl, trivial⟩ T.cls.sa ?_
  refine HandSPX.exc_osa X4 he4 hcl (show HandSPX.refsVE (.ref C :: bm) = true from hbm) rfl T.noG (fun h5 tk5 dx k5 dn dne hx hn => ?_)
  refine wpAt_of_wpAny (wpAny_execs_nil ?_)
  have sz : hh.objs.size ≤ h4.objs.size := by
    rcases Nat.lt_or_ge h4.objs.size hh.objs.size with q | q
    · obtain ⟨oL, es, ep, hL, r⟩ := ns4
      exact absurd (Heap.lt_size hL) (Nat.not_lt_of_gt q)
    · exact q
  exact hq h5 tk5 dx _ (fun b o hb z => k5 b o hb (k4 b o hb (keep3 _ _ z))) (Nat.le_trans sz dn) dne hx hn
end

end DX

/-! DLy: such an exception made, as an expression. -/
namespace DX
open PySem L2

section
variable {X : Cx} {pins : List (Addr × Obj)} {σ : St} {H : Hp} {s : Shared} {g : Str} {C fI cc cda : Addr} {y : V} {u : Value} {A : Around} {E : Value → Shared → Prop} {Q : Value → Shared → Prop}
/-- names that such a parameter may not have -/
structure Gn (g : Str) : Prop where
  h1 : g ≠ "self"
  h2 : g ≠ "super"
  h3 : g ≠ "__class__"
  h4 : (g == ("__debug__" : Str)) = false
/-- two objects are laid at once -/
theorem laid2 {h' : Heap} {a b : Addr} {o o' : HO} {tk : Nat} (I : Inv X pins σ H s) (k : ∀ c w, s.heap.get? c = some w → h'.get? c = some w) (ha : s.heap.objs.size ≤ a) (hb : s.heap.objs.size ≤ b) (ne : b ≠ a)
    (na : ∀ G : Heap, G.get? a = h'.get? a → ObjOk X.prog X.w (upd H a o) G a o) (nb : ObjOk X.prog X.w (upd (upd H a o) b o') h' b o') : Inv X pins σ (upd (upd H a o) b o') { s with heap := h', toks := tk } := by
  obtain ⟨G, g1, g2⟩ := restrict h' fun c => decide (c ≠ b)
  have gk : ∀ c, c ≠ b → G.get? c = h'.get? c := fun c hc => g1 c (decide_eq_true hc)
  have ge : G.get? b = none := g2 b (by simp)
  have J := I.laid (a := a) (o := o) (t' := tk) (h' := G) (fun c w z => by
    rw [gk c (Nat.ne_of_lt (Nat.lt_of_lt_of_le (Heap.lt_size z) hb))]
    exact k c w z) ha (na G (gk a (Ne.symm ne)))
  refine Inv.laidN (s := { s with heap := G, toks := tk }) (h' := h') (t' := tk) J (fun c w z => ?_) ge ?_ nb
  · by_cases hc : c = b
    · rw [hc] at z
      have z' : G.get? b = some w := z
      rw [ge] at z'; cases z'
    · have z' : G.get? c = some w := z
      rw [gk c hc] at z'
      exact z'
  · rw [upd_ne ne]
    exact I.hok.fresh hb
theorem init_mod (I : Inv X pins σ H s) (hm : X.mg "super" = none) {s1 : Shared} (k : ∀ b o, s.heap.get? b = some o → s1.heap.get? b = some o) :
    s1.heap.Ns mainGlobals X.mg ∧ (∃ mb, s1.heap.Ns builtinsNs mb ∧ mb "super" = some (.type "super")) ∧ s1.heap.NoLimit := by
  obtain ⟨mb, h1, h2⟩ := I.mod.blt
  have kk : ∀ b o, X.base.get? b = some o → s1.heap.get? b = some o := fun b o z => k b o (I.bk b o z)
  exact ⟨I.mod.glob.keeps kk, ⟨mb, h1.keeps kk, (h2 "super" (by decide)).trans (by first | rfl | decide +kernel)⟩, I.mod.nolimit.keeps kk⟩

/-- C(v): the new object's way -/
theorem make_raw {k : Nat} (T : IniC X.prog X.K g C fI cc cda) (G : Gn g) (I : Inv X pins σ H s) (hm : X.mg "super" = none) (r : RelV y u) (hr : Room (k + 1) X.A) {R : Result → Shared → Prop}
    (hq : ∀ a dx s', H a = none → H dx = none → a ≠ dx → Inv X pins σ (upd (upd H a (exo a C (some dx))) dx (exd dx [(g, y)])) s' → R (.ok (.ret (.ref a))) s') :
    codeAny (model X.prog X.w) X.A (.call (.ref C) ⟨[u], []⟩) R s := by
  obtain ⟨nm, q, N, bs, bm, sn, sub, ab, col, dd, k0, k1, k2, k3, k5, hC, hbm⟩ := T.cls.cls
  have tI : PySem.W.typeIn X.K (.ref fI) = some (.type "function") := by
    obtain ⟨_, _, _, _, _, _, _, _, _, _, _, _, _, _, _, _, _, _, _, _, _, _, lk, e, _⟩ := T.fnc
    show (X.K.lookup fI).map (·.cls) = _
    rw [lk, e] <;> rfl
  obtain ⟨hp, gg, dr, tk, os⟩ := s
  have hsz : hp.objs.size ≤ hp.objs.size + 1 := Nat.le_succ _
  have kk : ∀ b o, hp.get? b = some o → ((hp.push (PySem.W.kdv_tup [u])).push (PySem.HandSPX.excO C hp.objs.size)).get? b = some o := fun b o e => Heap.get?_push_of_some _ (Heap.get?_push_of_some _ e)
  have hget : ((hp.push (PySem.W.kdv_tup [u])).push (PySem.HandSPX.excO C hp.objs.size)).get? (hp.objs.size + 1) = some (PySem.HandSPX.excO C hp.objs.size) := by heap_get
  obtain ⟨m1, m2, m3⟩ := init_mod I hm (s1 := ⟨(hp.push (PySem.W.kdv_tup [u])).push (PySem.HandSPX.excO C hp.objs.size), gg, dr, tk, os⟩) kk
  have KX : X.K.In hp := I.kIn
  refine PySem.HandSPX.call_own F.excBase_ValueError (fun Y => PySem.HandSPX.refsVE_contains Y bm hbm) (KX _ _ hC) (PySem.W.looks_findIn KX T.ini) (fun self => PySem.W.bind_fn KX self tI) (by rw [sizeLine_eq]; show 1 ≤ 16777216; decide) ?_
  refine init_raw (v := u) (s := ⟨(hp.push (PySem.W.kdv_tup [u])).push (PySem.HandSPX.excO C hp.objs.size), gg, dr, tk, os⟩) T G.h1 G.h2 G.h3 G.h4 (KX.keeps kk) m1 hm m2 m3 (by have := (hr.make C [u] []).dp; omega) hget (fun b o z q => ?_) (.inl rfl) (fun h' tk' dx t1 k4 dn dne hx hn => ?_)
  · exact Nat.ne_of_lt (Nat.lt_succ_of_lt (Heap.lt_size (KX b o z))) q
  · have sz : hp.objs.size + 1 + 1 ≤ dx := by
      have z : ((hp.push (PySem.W.kdv_tup [u])).push (PySem.HandSPX.excO C hp.objs.size)).objs.size ≤ dx := dn
      rw [Heap.size_push, Heap.size_push] at z
      exact z
    show _ ∧ R _ _
    refine ⟨rfl, hq (hp.objs.size + 1) dx _ (I.hok.fresh hsz) (I.hok.fresh (Nat.le_trans (Nat.le_add_right _ 2) sz)) (Ne.symm dne) (laid2 (s := ⟨hp, gg, dr, tk, os⟩) I (fun b o z => k4 b o (Nat.ne_of_lt (Nat.lt_succ_of_lt (Heap.lt_size z))) (kk b o z)) hsz (Nat.le_trans (Nat.le_add_right _ 2) sz) dne (fun G e => exo_ok (e.trans hx)) (exd_ok hn (relO_put (fs := []) r fun _ => True.intro)))⟩
end
end DX

/-! DLk2: the same by keyword. -/
namespace DX
open PySem PySem.HandSPX
section
variable {M : Model} {A : Around} {E : Value → Shared → Prop} {h : Heap} {g : Array GenState} {d : Drawn} {t : Nat} {os : OsState}
variable {nm q : Str} {C N : Addr} {bs bm bmB : List Value} {hdct : Bool} {sn : List Str} {sub : List Value} {ab : Bool} {col : Option Bool} {dd : Option Addr} {k0 k1 k2 k3 k5 : Option Value} {B newId initId : String} {x : Str} {u : Value}

theorem check_newK (F : ExcBaseFacts B newId initId bmB) (hT : ∀ X : String, bm.contains (.type X) = bmB.contains (.type X)) {Q : Unit → Shared → Prop}
    (hC : h.get? C = some (excClassObj nm q C N bs bm hdct sn sub ab col dd k0 k1 k2 k3 k5 newId)) (hq : Q () ⟨h, g, d, t, os⟩) : wpAny M A (checkBuiltinCall newId ⟨[.ref C], [(x, u)]⟩) Q E ⟨h, g, d, t, os⟩ := by
  have hcont : (Value.ref C :: bm).contains (.type B) = true := by rw [List.contains_cons, hT, F.hasB, Bool.or_true]
  have hstar := F.noStar
  simp only [checkBuiltinCall, F.newKind, F.newSplit, F.newRow]
  repeat (first | refine wpAny_loadPart_at hC ?_ | (refine wpAny_isSubtype_exc hC ?_; rw [hcont]) | refine wpAny_staticBase_exc hC ?_ | refine wpAny_madeBy_exc hC ?_ | simp only [bne_self_eq_false, Bool.false_eq_true, if_false] | wp_step)
  exact hq
end

section
variable {prog : Program} {w : World} {A : Around} {E : Value → Shared → Prop} {R : Result → Shared → Prop} {h : Heap} {g : Array GenState} {d : Drawn} {t : Nat} {os : OsState}
variable {nm q : Str} {C N : Addr} {bs bm bmB : List Value} {hdct : Bool} {sn : List Str} {sub : List Value} {ab : Bool} {col : Option Bool} {dd : Option Addr} {k0 k1 k2 k3 k5 : Option Value} {B newId initId : String} {x : Str} {u : Value}

theorem newK (F : ExcBaseFacts B newId initId bmB) (hT : ∀ X : String, bm.contains (.type X) = bmB.contains (.type X))
    (hC : h.get? C = some (excClassObj nm q C N bs bm hdct sn sub ab col dd k0 k1 k2 k3 k5 newId))
    (hq : R (.ok (.ret (.ref (h.objs.size + 1)))) ⟨(h.push (W.kdv_tup [])).push (excO C h.objs.size), g, d, t, os⟩) :
    codeAny (model prog w) A (.builtin newId ⟨[.ref C], [(x, u)]⟩) R ⟨h, g, d, t, os⟩ := by
  have hends := F.ends
  have e1 : (Value.ref C :: bm).contains (.type B) = true := by rw [List.contains_cons, hT, F.hasB, Bool.or_true]
  have e2 : (Value.ref C :: bm).contains (.type "AttributeError") = false := by rw [List.contains_cons, hT, F.noAttr]; rfl
  have e3 : (Value.ref C :: bm).contains (.type "NameError") = false := by rw [List.contains_cons, hT, F.noName]; rfl
  have hz : ([] : List Value).length ≤ sizeLine := by rw [sizeLine_eq]; decide
  refine codeAny_builtinAt F.entry ?_
  unfold Builtin.«BaseException.__new__»
  refine wpAt_bind ?_
  show wpAt _ _ _ (stack >>= _) _ _ _
  refine wpAt_bind (wpAt_stack fun p below => wpAt_of_wpAny ?_)
  wp_walk
  refine wpAt_of_wpAny ?_
  rw [F.owner]
  repeat (first | with_reducible refine wpAny_madeHere_exc F.canon hC ?_ | with_reducible refine wpAny_loadPart_at hC ?_ | (with_reducible refine wpAny_isSubtype_exc hC ?_; first | rw [e1] | rw [e2] | rw [e3]) | wp_step)
  show R _ _
  rw [Heap.size_push]
  exact hq

theorem typeCallK (F : ExcBaseFacts B newId initId bmB) (hT : ∀ X : String, bm.contains (.type X) = bmB.contains (.type X)) {fI : Addr} {Q : Fin → Shared → Prop}
    (hC : h.get? C = some (excClassObj nm q C N bs bm hdct sn sub ab col dd k0 k1 k2 k3 k5 newId))
    (hi : W.Looks (model prog w) h (typeLookup (.ref C) "__init__") (some (.ref fI))) (hb : ∀ self, W.Looks (model prog w) h (bindSpecial (.ref fI) self) (.ref fI, [self]))
    (hq : codeAny (model prog w) A (.call (.ref fI) ⟨[.ref (h.objs.size + 1)], [(x, u)]⟩)
      (fun r s' => match r with | .ok (.ret v) => v = .none ∧ Q (.done (.ret (.ref (h.objs.size + 1)))) s' | .ok _ => False | .error e => E e s')
      ⟨(h.push (W.kdv_tup [])).push (excO C h.objs.size), g, d, t, os⟩) :
    wpAny (model prog w) A (Builtin.«type.__call__» ⟨[.ref C], [(x, u)]⟩) Q E ⟨h, g, d, t, os⟩ := by
  repeat (first | with_reducible refine wpAny_loadPart_at hC ?_ | with_reducible refine wpAny_madeBy_exc hC ?_ | wp_step)
  refine codeAny_call_builtin_code (Code.quiet_builtin _ F.quiet) (check_newK F hT hC ?_)
  refine newK F hT hC ?_
  show wpAny _ _ _ _ _ _
  have kp : ∀ b o, h.get? b = some o → ((h.push (W.kdv_tup [])).push (excO C h.objs.size)).get? b = some o := fun b o e => Heap.get?_push_of_some _ (Heap.get?_push_of_some _ e)
  have hC1 := kp _ _ hC
  have hget : ((h.push (W.kdv_tup [])).push (excO C h.objs.size)).get? (h.objs.size + 1) = some (excO C h.objs.size) := by heap_get
  have hcC : (Value.ref C :: bm).contains (.ref C) = true := by simp
  have i1 := hi.keeps kp
  have b1 := (hb (.ref (h.objs.size + 1))).keeps kp
  unfold isInstance
  repeat (first | with_reducible refine wpAny_loadPart_at hget ?_ | (with_reducible refine wpAny_isSubtype_exc hC1 ?_; rw [hcC]) | wp_step)
  show wpAny _ _ (typeLookup (.ref C) _) _ _ _
  refine i1.at ?_
  refine wpAny_holding (wpAny_bind (b1.at ?_))
  refine wpAny_bind (wpAny_call (codeAny_mono hq fun r s' z => ?_))
  rcases r with e | (v | _ | _ | _) <;> first | exact z | exact z.elim | skip
  obtain ⟨rfl, z⟩ := z
  first
    | exact wpAny_pure (wpAny_pure z)
    | (wp_walk; exact z)
theorem callK (F : ExcBaseFacts B newId initId bmB) (hT : ∀ X : String, bm.contains (.type X) = bmB.contains (.type X)) {fI : Addr}
    (hC : h.get? C = some (excClassObj nm q C N bs bm hdct sn sub ab col dd k0 k1 k2 k3 k5 newId))
    (hi : W.Looks (model prog w) h (typeLookup (.ref C) "__init__") (some (.ref fI))) (hb : ∀ self, W.Looks (model prog w) h (bindSpecial (.ref fI) self) (.ref fI, [self]))
    (hq : codeAny (model prog w) (A.under (.builtin "type.__call__" ⟨[.ref C], [(x, u)]⟩)) (.call (.ref fI) ⟨[.ref (h.objs.size + 1)], [(x, u)]⟩) (W.InitBack (h.objs.size + 1) R)
      ⟨(h.push (W.kdv_tup [])).push (excO C h.objs.size), g, d, t, os⟩) :
    codeAny (model prog w) A (.call (.ref C) ⟨[], [(x, u)]⟩) R ⟨h, g, d, t, os⟩ := by
  have f1 := tc_lookup
  have f2 := tc_bind (.ref C)
  have hTy : (⟨h, g, d, t, os⟩ : Shared).TypeIs (.ref C) "type" := ⟨_, hC, rfl⟩
  refine codeAny_of_tree ?_
  show wpAny _ _ (callAny (.ref C) _) _ _ _
  repeat (any_goals (first | assumption | with_reducible refine wpAny_loadPart_at hC ?_ | wp_step))
  refine ⟨rfl, ?_⟩
  refine codeAny_call_builtin_at (Code.quiet_builtin _ (by decide +kernel)) entry_typeCall (wpAny_check_type_call_sub hC (typeCallK F hT hC hi hb ?_))
  refine codeAny_mono hq fun r s' z => ?_
  rcases r with e | (v | _ | _ | _) <;> exact z
end
section
open L2
variable {X : Cx} {pins : List (Addr × Obj)} {σ : L2.St} {H : Hp} {s : Shared} {g : Str} {C fI cc cda : Addr} {y : V} {u : Value} {A : Around} {E : Value → Shared → Prop} {Q : Value → Shared → Prop}
/-- C(g=v) -/
theorem makeK_raw {k : Nat} (T : IniC X.prog X.K g C fI cc cda) (G : Gn g) (I : Inv X pins σ H s) (hm : X.mg "super" = none) (r : RelV y u) (hr : Room (k + 1) X.A) {R : Result → Shared → Prop}
    (hq : ∀ a dx s', H a = none → H dx = none → a ≠ dx → Inv X pins σ (upd (upd H a (exo a C (some dx))) dx (exd dx [(g, y)])) s' → R (.ok (.ret (.ref a))) s') :
    codeAny (model X.prog X.w) X.A (.call (.ref C) ⟨[], [(g, u)]⟩) R s := by
  obtain ⟨nm, q, N, bs, bm, sn, sub, ab, col, dd, k0, k1, k2, k3, k5, hC, hbm⟩ := T.cls.cls
  have tI : PySem.W.typeIn X.K (.ref fI) = some (.type "function") := by
    obtain ⟨_, _, _, _, _, _, _, _, _, _, _, _, _, _, _, _, _, _, _, _, _, _, lk, e, _⟩ := T.fnc
    show (X.K.lookup fI).map (·.cls) = _
    rw [lk, e] <;> rfl
  obtain ⟨hp, gg, dr, tk, os⟩ := s
  have hsz : hp.objs.size ≤ hp.objs.size + 1 := Nat.le_succ _
  have kk : ∀ b o, hp.get? b = some o → ((hp.push (PySem.W.kdv_tup [])).push (PySem.HandSPX.excO C hp.objs.size)).get? b = some o := fun b o e => Heap.get?_push_of_some _ (Heap.get?_push_of_some _ e)
  have hget : ((hp.push (PySem.W.kdv_tup [])).push (PySem.HandSPX.excO C hp.objs.size)).get? (hp.objs.size + 1) = some (PySem.HandSPX.excO C hp.objs.size) := by heap_get
  obtain ⟨m1, m2, m3⟩ := init_mod I hm (s1 := ⟨(hp.push (PySem.W.kdv_tup [])).push (PySem.HandSPX.excO C hp.objs.size), gg, dr, tk, os⟩) kk
  have KX : X.K.In hp := I.kIn
  refine callK F.excBase_ValueError (fun Y => PySem.HandSPX.refsVE_contains Y bm hbm) (KX _ _ hC) (PySem.W.looks_findIn KX T.ini) (fun self => PySem.W.bind_fn KX self tI) ?_
  refine init_raw (v := u) (s := ⟨(hp.push (PySem.W.kdv_tup [])).push (PySem.HandSPX.excO C hp.objs.size), gg, dr, tk, os⟩) T G.h1 G.h2 G.h3 G.h4 (KX.keeps kk) m1 hm m2 m3 (by have := (hr.make C [] [(g, u)]).dp; omega) hget (fun b o z q => ?_) (.inr rfl) (fun h' tk' dx t1 k4 dn dne hx hn => ?_)
  · exact Nat.ne_of_lt (Nat.lt_succ_of_lt (Heap.lt_size (KX b o z))) q
  · have sz : hp.objs.size + 1 + 1 ≤ dx := by
      have z : ((hp.push (PySem.W.kdv_tup [])).push (PySem.HandSPX.excO C hp.objs.size)).objs.size ≤ dx := dn
      rw [Heap.size_push, Heap.size_push] at z
      exact z
    show _ ∧ R _ _
    refine ⟨rfl, hq (hp.objs.size + 1) dx _ (I.hok.fresh hsz) (I.hok.fresh (Nat.le_trans (Nat.le_add_right _ 2) sz)) (Ne.symm dne) (laid2 (s := ⟨hp, gg, dr, tk, os⟩) I (fun b o z => k4 b o (Nat.ne_of_lt (Nat.lt_succ_of_lt (Heap.lt_size z))) (kk b o z)) hsz (Nat.le_trans (Nat.le_add_right _ 2) sz) dne (fun G e => exo_ok (e.trans hx)) (exd_ok hn (relO_put (fs := []) r fun _ => True.intro)))⟩
end
end DX

/-! DLz: exceptions as data: made, asked, read. -/
namespace DL
open PySem L2 DX

section
variable {X : Cx} {E : XK} {e : Expr} {es : List Expr} {p pos : Pos} {x g : Str} {C fI cc cda : Addr} {m : M R} {te : TE} {k : Nat}
def tMx (C : Addr) (g : Str) (te : TE) : TE := fun σ H Q => te σ H fun y H1 => ∀ a dx, H1 a = none → H1 dx = none → a ≠ dx → Q (.ref a) (upd (upd H1 a (exo a C (some dx))) dx (exd dx [(g, y)]))
theorem pe_mkx (T : IniC X.prog X.K g C fI cc cda) (G : Gn g) (hr : Room (k + 1) X.A) (hms : X.mg "super" = none) (hg : Gl X x) (hm : X.mg x = some (.ref C)) (he : PE X e te)
    (hdb : (x == ("__debug__" : Str)) = false := by decide) (hs : starEach [e] X.env = (false, eval e X.env) :: starEach [] X.env := by rfl) (hpl : (backTo pos (starEach [] X.env)).any (·.1) = false := by rfl) :
    PE X (.Call (.Name x p) [e] [] pos) (tMx C g te) := by
  refine ⟨fun pins s σ H Q I h => ?_⟩
  refine wpAny_Call_Name_kw (ld_glob I hg hm ?_ hdb)
  refine PySem.W.callWith_K (h₀ := X.base) I.ok.mod.kin T.cls.kC ?_ hs hpl
  rw [hs]
  show wpAny _ _ (spliced ((false, eval e X.env) :: backTo pos (starEach [] X.env))) _ _ s
  refine Calls.spliced_cons (thn (he.run pins s σ H _ I h) fun u s1 ⟨y, H1, I1, r1, q1⟩ => ?_)
  rw [show starEach [] X.env = [] by rfl]
  refine Calls.spliced_nil ⟨I1.kIn, ?_⟩
  exact wpAny_call (make_raw T G I1 hms r1 hr fun a dx s' h1 h2 ne J => ⟨.ref a, _, J, rfl, q1 a dx h1 h2 ne⟩)
theorem pe_mkxk {kp : Pos} (T : IniC X.prog X.K g C fI cc cda) (G : Gn g) (hr : Room (k + 1) X.A) (hms : X.mg "super" = none) (hg : Gl X x) (hm : X.mg x = some (.ref C)) (he : PE X e te)
    (hall : (backToKw pos (keywordEach [⟨some g, e, kp⟩] X.env)).all (·.1.isSome) = true := by rfl) (hks : (backToKw pos (keywordEach [⟨some g, e, kp⟩] X.env)).filterMap (·.1) = [g] := by rfl)
    (hdb : (x == ("__debug__" : Str)) = false := by decide) (hpl : ((backTo pos (starEach [] X.env)).any (·.1) || (backToKw pos (keywordEach [⟨some g, e, kp⟩] X.env)).any (·.1.isNone)) = false := by rfl) :
    PE X (.Call (.Name x p) [] [⟨some g, e, kp⟩] pos) (tMx C g te) := by
  refine ⟨fun pins s σ H Q I h => ?_⟩
  refine wpAny_Call_Name_kw (ld_glob I hg hm ?_ hdb)
  refine PySem.W.callWith_KW0 (h₀ := X.base) I.ok.mod.kin T.cls.kC hall ?_ hpl
  refine thn ((pk_cons he pk_nil).run pos pins s σ H (fun zs H1 => match zs with | [y] => ∀ a dx, H1 a = none → H1 dx = none → a ≠ dx → Q (.ref a) (upd (upd H1 a (exo a C (some dx))) dx (exd dx [(g, y)])) | _ => False) I h) fun ws s2 ⟨zs, H2, I2, rz, q2⟩ => ⟨I2.kIn, ?_⟩
  rw [hks]
  cases rz with
  | nil => exact q2.elim
  | @cons y u ys us r1 rr =>
    cases rr with
    | cons _ _ => exact q2.elim
    | nil => exact wpAny_call (makeK_raw T G I2 hms r1 hr fun a dx s' h1 h2 ne J => ⟨.ref a, _, J, rfl, q2 a dx h1 h2 ne⟩)
/-- C(e) -/
def mExc (x g : Str) (m : M R) : M R := m.bind fun r => (frz r).bind fun d => M.pure (.val (.exc x [(g, d)]))
theorem t_exc {K : PySem.W.Frag} {mg : Str → Option Value} (hm : mg x = some (.ref C)) (σ : St) (H : Hp) (Q : VK) (h : tM K mg E (mExc x g m) σ H Q) : tMx C g (tM K mg E m) σ H Q := by
  obtain ⟨ex, env, ow, S, w⟩ := h
  refine ⟨ex, env, ow, S, (WP.bind.mp w).mono (fun ra env1 w1 v1 H1 ow1 P1 R1 a dx h1 h2 ne => ?_) fun _ _ z => z⟩
  obtain ⟨d, env2, ow2, S2, P2, r2, k⟩ := WP.frz R1.sr (R1.held S.tr) (WP.bind.mp w1)
  have h2' : upd H1 a (exo a C (some dx)) dx = none := by rw [upd_ne (Ne.symm ne)]; exact h2
  have l : Le H1 (upd (upd H1 a (exo a C (some dx))) dx (exd dx [(g, v1)])) := (Le.new h1).trans (Le.new h2')
  have na : ¬ lim ex ow2 a := S2.nlim h1
  have nd : ¬ lim ex ow2 dx := S2.nlim h2
  refine k (.ref a) _ ow2 (P1.trans (P2.trans (.le l))) ⟨S2.le l, .exc (dx := dx) (vf := [(g, v1)]) hm ?_ ?_ (.cons ?_ .nil)⟩
  · rw [cut_out na, upd_ne ne, upd_same]
  · rw [cut_out nd, upd_same]
  · exact r2.mono (cut_keep (fun _ h _ => h) fun c o h _ => l c o h)
theorem d_exc (T : IniC X.prog X.K g C fI cc cda) (G : Gn g) (bd : Bd X (k + 1) E) (hms : X.mg "super" = none) (hg : Gl X x) (hm : X.mg x = some (.ref C)) (he : DE X E e m)
    (hdb : (x == ("__debug__" : Str)) = false := by decide) (hs : starEach [e] X.env = (false, eval e X.env) :: starEach [] X.env := by rfl) (hpl : (backTo pos (starEach [] X.env)).any (·.1) = false := by rfl) :
    DE X E (.Call (.Name x p) [e] [] pos) (mExc x g m) := PE.weak (pe_mkx T G bd.room hms hg hm he hdb hs hpl) (t_exc hm)
theorem d_exck {kp : Pos} (T : IniC X.prog X.K g C fI cc cda) (G : Gn g) (bd : Bd X (k + 1) E) (hms : X.mg "super" = none) (hg : Gl X x) (hm : X.mg x = some (.ref C)) (he : DE X E e m)
    (hall : (backToKw pos (keywordEach [⟨some g, e, kp⟩] X.env)).all (·.1.isSome) = true := by rfl) (hks : (backToKw pos (keywordEach [⟨some g, e, kp⟩] X.env)).filterMap (·.1) = [g] := by rfl)
    (hdb : (x == ("__debug__" : Str)) = false := by decide) (hpl : ((backTo pos (starEach [] X.env)).any (·.1) || (backToKw pos (keywordEach [⟨some g, e, kp⟩] X.env)).any (·.1.isNone)) = false := by rfl) :
    DE X E (.Call (.Name x p) [] [⟨some g, e, kp⟩] pos) (mExc x g m) := PE.weak (pe_mkxk T G bd.room hms hg hm he hall hks hdb hpl) (t_exc hm)
end

/-! ### asked and read -/
/-- what the written part tells of a class of exceptions -/
structure ExR (K : PySem.W.Frag) (C : Addr) : Prop where
  hcl : (PySem.W.clsIn K C).isSome = true
  hga : PySem.W.findIn K (.ref C) "__getattribute__" = some (some (.builtin "BaseException.__getattribute__"))
  hgt : PySem.W.findIn K (.ref C) "__getattr__" = some none
  hsub : PySem.W.subIn K (.ref C) (.type "BaseException") = some true
  ha : PySem.W.findIn K (.ref C) "__class__" = some (some (.builtin "object.__class__"))
  hn : PySem.W.specialIn K (.builtin "object.__class__") "__get__" = some (some (.builtin "getset_descriptor.__get__"))
  htk : PySem.W.takesIn K (.builtin "object.__class__") = some true
  hm : PySem.W.mroIn K C (.type "object") = some true
  hd : PySem.W.hasDictIn K C = true
def XAt (H : Hp) (a C : Addr) : Prop := H a = some (exo a C none) ∨ ∃ dx fs, H a = some (exo a C (some dx)) ∧ H dx = some (exd dx fs)
section
variable {X : Cx} {pins : List (Addr × Obj)} {σ : St} {H : Hp} {s : Shared} {a C : Addr}
theorem xat_inst (I : Inv X pins σ H s) (h : XAt H a C) : ∃ ox od, PySem.W.InstAt s.heap a ox C od := by
  rcases h with h | ⟨dx, fs, h1, h2⟩
  · obtain ⟨t1, ho⟩ := exo_at I.hok h
    exact ⟨_, none, ho, rfl, rfl, trivial⟩
  · obtain ⟨t1, ho⟩ := exo_at I.hok h1
    obtain ⟨mA, hn, _⟩ := exd_at I.hok h2
    obtain ⟨od, e, _⟩ := lookIn_ns hn
    exact ⟨_, some od, ho, rfl, rfl, e⟩
def rIsX (K : PySem.W.Frag) : List V → Hp → VK → Prop := fun xs H Q => ∃ (a C : Addr) (c : V) (u : Value) (b : Bool), xs = [.ref a, c] ∧ XAt H a C ∧ ExR K C ∧ ClsV c u ∧ PySem.W.kitOne K (.ref C) u = some b ∧ Q (.bl b) H
def rIsXT (K : PySem.W.Frag) : List V → Hp → VK → Prop := fun xs H Q => ∃ (a C tp : Addr) (cs : List V) (us : List Value) (b : Bool), xs = [.ref a, .ref tp] ∧ XAt H a C ∧ ExR K C ∧ SqT K H tp cs ∧ Paired ClsV cs us ∧ PySem.W.kitAny K (.ref C) us = some b ∧ Q (.bl b) H
theorem cr_isX : CallR X (.builtin "isinstance") (rIsX X.K) := by
  intro pins s σ H xs us Q I r h
  obtain ⟨a, C, c, u, b, rfl, hx, T, k, e, q⟩ := h
  obtain ⟨u1, u2, rfl, r1, r2⟩ := vals2 r
  have e2 := k.eq r2
  subst e2
  cases (show u1 = Value.ref a from r1)
  obtain ⟨ox, od, J⟩ := xat_inst I hx
  exact PySem.W.kia_one (PySem.W.kitx_exc T.hcl T.hga T.hgt T.hsub T.ha T.hn T.htk T.hm) I.kIn J e (fun z => nomatch z) fun tk => ⟨.bl b, H, I.tok tk, rfl, q⟩
theorem cr_isXT : CallR X (.builtin "isinstance") (rIsXT X.K) := by
  intro pins s σ H xs us Q I r h
  obtain ⟨a, C, tp, cs, ws, b, rfl, hx, T, hT, k, e, q⟩ := h
  obtain ⟨u1, u2, rfl, r1, r2⟩ := vals2 r
  cases (show u1 = Value.ref a from r1)
  cases (show u2 = Value.ref tp from r2)
  obtain ⟨ox, od, J⟩ := xat_inst I hx
  obtain ⟨its, rv, ⟨o, h1, h2, n, h3⟩, _⟩ := I.tuple hT
  have e3 := ClsV.all k rv
  subst e3
  obtain ⟨oc, od', dt, sl⟩ := o
  simp only at h2 h3
  subst h2 h3
  exact PySem.W.kia_tup (PySem.W.kitx_exc T.hcl T.hga T.hgt T.hsub T.ha T.hn T.htk T.hm) I.kIn J h1 e (fun z => nomatch z) fun tk => ⟨.bl b, H, I.tok tk, rfl, q⟩
/-- e.f -/
def rFx (K : PySem.W.Frag) (f : Str) : V → Hp → VK → Prop := fun x H Q => ∃ (a C dx : Addr) (fs : List (Str × V)) (v : V), x = .ref a ∧ H a = some (exo a C (some dx)) ∧ H dx = some (exd dx fs) ∧ ExR K C ∧ PySem.W.findIn K (.ref C) f = some none ∧ fs.lookup f = some v ∧ Q v H
theorem pe_xfld {e : Expr} {f : Str} {pos : Pos} {te : TE} (he : PE X e te) (hb : attributeBase e f X.env (eval e X.env) = eval e X.env) : PE X (.Attribute e f pos) (tUn (rFx X.K f) te) := by
  refine ⟨fun pins s σ H Q I h => ?_⟩
  refine attr_of hb (thn (he.run pins s σ H _ I h) fun u s1 ⟨x, H1, I1, rx, a, C, dx, fs, v, ex, ea, ed, T, n, l, q⟩ => ?_)
  subst ex
  obtain rfl : u = Value.ref a := rx
  obtain ⟨t1, ho⟩ := exo_at I1.hok ea
  obtain ⟨mA, hn, r⟩ := exd_at I1.hok ed
  obtain ⟨od, e1, e2⟩ := lookIn_ns hn
  obtain ⟨u', hu, ru⟩ := RelO.some_of (v := v) (o := mA f) (by rw [← l]; exact r f)
  exact PySem.PX.exc_get I1.kIn (od := some od) ⟨ho, rfl, rfl, e1⟩ T.hga T.hgt T.hsub (PySem.W.findObj_own T.hd n rfl (by rw [e2, hu])) (handed_of ru) ⟨v, H1, I1.tok _, ru, q⟩
end
/-- C(), a class without __init__ of its own -/
def tMx0 (C : Addr) : TE := fun _ H Q => ∀ a, H a = none → Q (.ref a) (upd H a (exo a C none))
section
variable {X : Cx} {E : XK} {e c : Expr} {es : List Expr} {p pos : Pos} {x f : Str} {C : Addr} {m m2 : M R}
theorem pe_mkx0 {bmB : List Value} {B newId initId : String} (F : ExcBaseFacts B newId initId bmB) (q : PySem.W.excIn X.K C bmB newId = true) (kC : PySem.W.keepIn X.K (.ref C) = true) (hg : Gl X x) (hm : X.mg x = some (.ref C))
    (hdb : (x == ("__debug__" : Str)) = false := by decide) : PE X (.Call (.Name x p) [] [] pos) (tMx0 C) := by
  refine ⟨fun pins s σ H Q I h => ?_⟩
  refine wpAny_Call_Name_kw (ld_glob I hg hm ?_ hdb)
  refine PySem.W.callWith_K0 I.kIn kC ?_
  obtain ⟨bm, N, nm, qn, bs, hdct, sn, sub, ab, col, dd, k0, k1, k2, k3, k5, mN, hC, hN, hni, T⟩ := exc_obj I.kIn q
  refine wpAny_call_exc_subT F T hC hN hni (fun h' a w => ?_) (by show 0 ≤ sizeLine; omega)
  obtain ⟨t, ht, _, _⟩ := w.there
  have z : H a = none := I.hok.gone w.new
  exact ⟨.ref a, upd H a (exo a C none), I.laidN w.keeps w.new z (exo_ok ht), rfl, h a z⟩
def mExc0 (x : Str) : M R := M.pure (.val (.exc0 x))
theorem t_exc0 {K : PySem.W.Frag} {mg : Str → Option Value} (hm : mg x = some (.ref C)) (σ : St) (H : Hp) (Q : VK) (h : tM K mg E (mExc0 x) σ H Q) : tMx0 C σ H Q := by
  obtain ⟨ex, env, ow, S, w⟩ := h
  intro a ha
  have l : Le H (upd H a (exo a C none)) := Le.new ha
  refine w (.ref a) _ ow (.le l) ⟨S.le l, .exc0 hm ?_⟩
  rw [cut_out (S.nlim ha), upd_same]
theorem d_exc0 {bmB : List Value} {B newId initId : String} (F : ExcBaseFacts B newId initId bmB) (q : PySem.W.excIn X.K C bmB newId = true) (kC : PySem.W.keepIn X.K (.ref C) = true) (hg : Gl X x) (hm : X.mg x = some (.ref C))
    (hdb : (x == ("__debug__" : Str)) = false := by decide) : DE X E (.Call (.Name x p) [] [] pos) (mExc0 x) := PE.weak (pe_mkx0 F q kC hg hm hdb) (t_exc0 hm)
/-- a class, a function, a type by its name -/
theorem d_glob {u : Addr} (hg : Gl X x) (hm : X.mg x = some (.ref u)) (hd : (x == ("__debug__" : Str)) = false := by decide) : DE X E (.Name x pos) (mC (.glob x)) := dc (pe_glob hg hm (show RelV (.ref u) (.ref u) from rfl) hd) fun _ => .glob hm
theorem d_ty {n : String} (hg : Gl X x) (hm : X.mg x = none) (hv : bootBuiltins x = some (.type n)) (hn : x ≠ "__name__" := by decide) (hd : (x == ("__debug__" : Str)) = false := by decide) : DE X E (.Name x pos) (mC (.ty n)) := dc (pe_bltn hg hm hv (show RelV (.ty n) (.type n) from rfl) hn hd) fun _ => .ty n
end
/-! ### isinstance of an exception, its attribute -/
def TabOk (K : PySem.W.Frag) (mg : Str → Option Value) (C : Addr) (t : Dt) (b : Bool) : Prop := match t with
  | .glob y => ∀ D, mg y = some (.ref D) → PySem.W.kitOne K (.ref C) (.ref D) = some b
  | .ty n => PySem.W.kitOne K (.ref C) (.type n) = some b
  | .tup ts => ∃ ns : List String, ts = ns.map Dt.ty ∧ PySem.W.kitAny K (.ref C) (ns.map Value.type) = some b
  | _ => False
structure XTab (K : PySem.W.Frag) (mg : Str → Option Value) (names : List Str) (tab : Str → Dt → Option Bool) (fld : Str) : Prop where
  cls : ∀ c ∈ names, ∀ C, mg c = some (.ref C) → ExR K C
  ans : ∀ c ∈ names, ∀ C, mg c = some (.ref C) → ∀ t b, tab c t = some b → TabOk K mg C t b
def gIsX (names : List Str) (tab : Str → Dt → Option Bool) : List Dt → Option R := fun l => match l with
  | [.exc c _, t] => if c ∈ names then (tab c t).map fun b => .val (.bl b) else none
  | [.exc0 c, t] => if c ∈ names then (tab c t).map fun b => .val (.bl b) else none
  | _ => none
section
variable {K : PySem.W.Frag} {mg : Str → Option Value} {names : List Str} {tab : Str → Dt → Option Bool} {fld : Str}
theorem tys_rep {G : Hp} : ∀ {vs : List V} {ns : List String}, RepA K mg G vs (ns.map Dt.ty) → Paired ClsV vs (ns.map Value.type)
  | _, [], h => by cases h; exact .nil
  | _, n :: ns, h => by
    cases h with
    | cons r t => cases r; exact .cons (.ty n) (tys_rep t)
theorem isX_ok {L : Addr → Prop} {H : Hp} {a C : Addr} {c : Str} {v : V} {t : Dt} {rv : R} {Q : VK} (T : XTab K mg names tab fld) (hc : mg c = some (.ref C)) (hx : XAt H a C) (rt : Rdb K mg (cut L H) H v t)
    (h : (if c ∈ names then (tab c t).map fun b => R.val (.bl b) else none) = some rv) (k : ∀ v H', Le H H' → RvOk K mg L H H' rv v → Q v H') : rIsX K [.ref a, v] H Q ∨ rIsXT K [.ref a, v] H Q := by
  by_cases hm : c ∈ names
  · rw [if_pos hm] at h
    cases e : tab c t with
    | none => rw [e] at h; cases h
    | some b =>
      rw [e] at h
      cases h
      have q := T.ans c hm C hc t b e
      have kk := k (.bl b) H (.refl H) (.bl b)
      have r := rt.rep
      cases t with
      | glob y => cases r with | glob hy => exact .inl ⟨a, C, _, _, b, rfl, hx, T.cls c hm C hc, .own _, q _ hy, kk⟩
      | ty n => cases r; exact .inl ⟨a, C, _, _, b, rfl, hx, T.cls c hm C hc, .ty n, q, kk⟩
      | tup ts =>
        obtain ⟨ns, e1, e2⟩ := q
        subst e1
        cases r with | tup h1 h2 => exact .inr ⟨a, C, _, _, _, b, rfl, hx, T.cls c hm C hc, h1, tys_rep h2, e2, kk⟩
      | _ => exact q.elim
  · rw [if_neg hm] at h; cases h
theorem cs_isX (T : XTab K mg names tab fld) : CallS K mg (fun xs H Q => rIsX K xs H Q ∨ rIsXT K xs H Q) (gIsX names tab) := fun L H xs ds rv Q tr r h k => by
  unfold gIsX at h
  split at h
  · obtain ⟨v, u, rfl, r1, r2⟩ := Paired.two r
    have q := r1.rep
    cases q with
    | exc hc h1 h2 rf => exact isX_ok T hc (.inr ⟨_, _, h1, h2⟩) r2 h k
  · obtain ⟨v, u, rfl, r1, r2⟩ := Paired.two r
    have q := r1.rep
    cases q with
    | exc0 hc h1 => exact isX_ok T hc (.inl h1) r2 h k
  · cases h
def gFx (names : List Str) (f : Str) : Dt → Option R := fun d => match d with
  | .exc c fs => if c ∈ names then (fs.lookup f).map .val else none
  | _ => none
theorem RepF.get {G : Hp} {f : Str} {d : Dt} : ∀ {vs : List (Str × V)} {ds : List (Str × Dt)}, RepF K mg G vs ds → ds.lookup f = some d → ∃ v, vs.lookup f = some v ∧ Rep K mg G v d
  | _, _, .nil, e => by cases e
  | _, _, .cons (f := f') r t, e => by
    rw [List.lookup_cons] at e ⊢
    by_cases h : (f == f') = true
    · simp only [h] at e ⊢
      cases e
      exact ⟨_, rfl, r⟩
    · have h' : (f == f') = false := by simpa using h
      simp only [h'] at e ⊢
      exact RepF.get t e
theorem us_fx {f : Str} (hx : ∀ c ∈ names, ∀ C, mg c = some (.ref C) → ExR K C ∧ PySem.W.findIn K (.ref C) f = some none) : UnS K mg (rFx K f) (gFx names f) := fun L H x dx rv Q tr rx h k => by
  unfold gFx at h
  split at h
  · rename_i c fs
    by_cases hm : c ∈ names
    · rw [if_pos hm] at h
      cases e : fs.lookup f with
      | none => rw [e] at h; cases h
      | some d =>
        rw [e] at h
        cases h
        rcases rx with q | ⟨a, ob, e1, _, xs, ds, _, e2, _⟩
        · cases q with
          | exc hc h1 h2 rf =>
            obtain ⟨v, e3, r3⟩ := rf.get e
            obtain ⟨q1, q2⟩ := hx c hm _ hc
            exact ⟨_, _, _, _, v, rfl, cut_le L H _ _ h1, cut_le L H _ _ h2, q1, q2, e3, k v H (.refl H) r3⟩
        · cases e2
    · rw [if_neg hm] at h; cases h
  · cases h
end
end DL

/-! DLp: calls with a fresh list that is lent; several readings of one operator; displays; slices. -/
namespace DL
open PySem L2

section
variable {K : PySem.W.Frag} {mg : Str → Option Value} {ex : Addr → Prop} {env env' : Env} {ow ow' : Ow} {σ σ' : St} {H H' : Hp} {E : XK}
/-- f(e), e a new list that f may write -/
def runT (fs : Fs) (r : R) : M R := match r with
  | .new d => fun env => match fs.run [d] with
    | some (.ret (.val d') outs) => if outs.length = 1 then some (.ok (.val d') env) else none
    | _ => none
  | _ => fun _ => none
def mFnT (fs : Fs) (m : M R) : M R := m.bind (runT fs)
theorem t_fnT {fs : Fs} {m : M R} (hio : fs.io = [.io]) (σ : St) (H : Hp) (Q : VK) (h : tM K mg E (mFnT fs m) σ H Q) : tCall (spOf K mg 1 fs) [] E (tCons (tM K mg E m) tNil) σ H Q := by
  obtain ⟨ex, env, ow, S, w⟩ := h
  refine ⟨ex, env, ow, S, (WP.bind.mp w).mono (fun r env1 w1 v H1 ow1 P1 R1 => ?_) fun _ _ z => z⟩
  cases r with
  | val d => exact w1.elim
  | loc i => exact w1.elim
  | new d =>
    obtain ⟨p, ob, rfl, hp, hp1, ho, S1⟩ := R1
    have npx : ¬ ex p := fun z => S.tr p z hp
    have nex : lim (fun a => ex a ∨ a = p) ow1 p := .inl (.inr rfl)
    have now : ∀ j, ow1 j ≠ some p := fun j z => S1.dis j p z (.inr rfl)
    show spOf K mg 1 fs ([V.ref p] ++ []) H1 Q E
    have eqL : lim (fun a => lim ex ow1 a) (fun j => if j = 0 then some p else none) = lim (fun a => ex a ∨ a = p) ow1 := funext fun a => propext (by
      constructor
      · rintro ((z | z) | ⟨j, z⟩)
        · exact .inl (.inl z)
        · exact .inr z
        · by_cases e : j = 0
          · simp only [e, if_pos] at z; cases z; exact nex
          · simp only [e, if_neg, not_false_eq_true] at z; cases z
      · rintro ((z | z) | z)
        · exact .inl (.inl z)
        · exact .inr ⟨0, by rw [z]; rfl⟩
        · exact .inl (.inr z))
    have SC : SR K mg (fun a => lim ex ow1 a) (argE fs.io [d]) (fun j => if j = 0 then some p else none) ([V.ref p].map some) H1 := by
      rw [hio]
      refine ⟨rfl, fun j => ?_, fun i j a h1 h2 => ?_, fun i a h z => ?_, fun a z => S1.there (z.elim (fun q => .inl (.inl q)) .inr)⟩
      · rw [eqL]
        cases j with
        | zero => exact ⟨p, ob, rfl, rfl, hp1, ho⟩
        | succ j => exact rfl
      · by_cases e1 : i = 0
        · by_cases e2 : j = 0
          · rw [e1, e2]
          · simp only [e2, if_neg, not_false_eq_true] at h2; cases h2
        · simp only [e1, if_neg, not_false_eq_true] at h1; cases h1
      · by_cases e1 : i = 0
        · simp only [e1, if_pos] at h
          cases h
          rcases z with z | ⟨j, z⟩
          · exact npx z
          · exact now j z
        · simp only [e1, if_neg, not_false_eq_true] at h; cases h
    refine ⟨rfl, _, _, [d], rfl, SC, ?_⟩
    unfold WP runT at w1
    cases e : fs.run [d] with
    | none => simp only [e] at w1
    | some fr =>
      simp only [e] at w1
      cases fr with
      | exc x outs => simp only at w1
      | ret r outs =>
        cases r with
        | loc i => simp only at w1
        | new d0 => simp only at w1
        | val d0 =>
          by_cases hl : outs.length = 1
          · simp only [hl, if_pos] at w1
            refine ⟨rfl, fun v H3 k3 R0 => ?_⟩
            obtain ⟨S3, r3⟩ := R0
            rw [eqL] at r3
            have kp : ∀ a o, H1 a = some o → a ≠ p → H3 a = some o := fun a o h n => k3.1 a o h fun ⟨j, z⟩ => by
              by_cases e1 : j = 0
              · simp only [e1, if_pos] at z; cases z; exact n rfl
              · simp only [e1, if_neg, not_false_eq_true] at z; cases z
            have lG : Le (cut (lim (fun a => ex a ∨ a = p) ow1) H1) (cut (lim ex ow1) H3) := fun a o h => by
              obtain ⟨h1, h2⟩ := cut_some h
              rw [cut_out fun z => h1 (z.elim (fun q => .inl (.inl q)) .inr)]
              exact kp a o h2 fun z => h1 (by rw [z]; exact nex)
            have S4 : SR K mg ex env1 ow1 σ H3 := by
              refine ⟨S1.len, fun i => ?_, S1.inj, fun i a h z => S1.dis i a h (.inl z), fun a z => k3.2 a (S1.tr a (.inl z))⟩
              have q := S1.slot i
              cases c : gs env1 i with
              | none => rw [c] at q; exact q
              | some y =>
                obtain ⟨d', md⟩ := y
                rw [c] at q
                cases md with
                | fz => obtain ⟨q1, x, q2, q3⟩ := q; exact ⟨q1, x, q2, q3.mono lG⟩
                | ow => obtain ⟨a, o, q1, q2, q3, q4⟩ := q; exact ⟨a, o, q1, q2, kp a o q3 (fun z => now i (by rw [← z]; exact q1)), q4.mono lG⟩
                | io => obtain ⟨a, o, q1, q2, q3, q4⟩ := q; exact ⟨a, o, q1, q2, kp a o q3 (fun z => now i (by rw [← z]; exact q1)), q4.mono lG⟩
            refine w1 v H3 ow1 ⟨fun a o h n => kp a o (P1.keep a o h n) fun z => ?_, P1.sub, P1.pin, fun a h => k3.2 a (P1.there a h)⟩ ⟨S4, r3.mono (cut_sub H3 fun a z => z.elim (fun q => .inl (.inl q)) .inr)⟩
            rw [z, hp] at h; cases h
          · simp only [hl, if_neg, not_false_eq_true] at w1
end
section
variable {X : Cx} {E : XK} {e : Expr} {p pos : Pos} {m : M R} {k : Nat} {x : Str}
theorem d_fnT {fs : Fs} (D : Df X.prog X.w X.K X.mg X.base k 1 x fs) (hio : fs.io = [.io]) (bd : Bd X k E) (hg : Gl X x) (he : DE X E e m) (hdb : (x == ("__debug__" : Str)) = false := by decide)
    (hs : starEach [e] X.env = (false, eval e X.env) :: starEach [] X.env := by rfl) (hpl : (backTo pos (starEach [] X.env)).any (·.1) = false := by rfl) : DE X E (.Call (.Name x p) [e] [] pos) (mFnT fs m) := by
  obtain ⟨f, fd, ps, hl, F, hm, hk, hb⟩ := D.ok
  exact PE.weak (pe_callG F bd hg hm hk hb .nil (pa_cons he pa_nil hs) hdb hs hpl) (t_fnT hio)
end
end DL

/-! DLq: list comprehensions. -/
namespace DL
open PySem L2

/-! ### targets that write just their own slots -/
def Elsewhere (vs : List Nat) (σ σ' : St) : Prop := σ'.length = σ.length ∧ ∀ j, j ∉ vs → σ'[j]? = σ[j]?
theorem Elsewhere.refl {vs : List Nat} {σ : St} : Elsewhere vs σ σ := ⟨rfl, fun _ _ => rfl⟩
theorem Elsewhere.trans {vs : List Nat} {σ σ' σ'' : St} (a : Elsewhere vs σ σ') (b : Elsewhere vs σ' σ'') : Elsewhere vs σ σ'' := ⟨b.1.trans a.1, fun j h => (b.2 j h).trans (a.2 j h)⟩
section
variable (K : PySem.W.Frag) (mg : Str → Option Value) (vs : List Nat)
def kGc (ex : Addr → Prop) (env : Env) (ow : Ow) (σ : St) (H : Hp) (Q : St → Hp → Prop) : Fl → Env → Prop := fun _ env' => ∀ σ' H' ow', Elsewhere vs σ σ' ∧ (∀ i a, ow' i = some a → ow i = some a) → PostS env ow H env' ow' H' → SR K mg ex env' ow' σ' H' → Q σ' H'
def tGc (t : Tg) : TG := fun v σ H Q => ∃ ex env ow d, SR K mg ex env ow σ H ∧ Rep K mg (cut (lim ex ow) H) v d ∧ WP (t d) env (kGc K mg vs ex env ow σ H Q) (fun _ _ => True)
def tGcs (t : List Dt → M Fl) : TGs := fun us σ H Q => ∃ ex env ow ds, SR K mg ex env ow σ H ∧ RepA K mg (cut (lim ex ow) H) us ds ∧ WP (t ds) env (kGc K mg vs ex env ow σ H Q) (fun _ _ => True)
end
section
variable {X : Cx} {e : Expr} {es : List Expr} {pos : Pos} {t : Tg} {u : List Dt → M Fl} {vs : List Nat}
abbrev DGc (X : Cx) (vs : List Nat) (e : Expr) (t : Tg) : Prop := PG X e (tGc X.K X.mg vs t)
abbrev DGcs (X : Cx) (vs : List Nat) (es : List Expr) (t : List Dt → M Fl) : Prop := PGs X es (tGcs X.K X.mg vs t)
theorem dgc_name {i : Nat} {x : Str} (hN : X.N.Nodup) (hi : X.N[i]? = some x) (hx : Loc X.env.scope x) (hv : i ∈ vs := by decide) (hf : X.fn x = true ∨ X.env.scope.names.lookup x = some .local := by first | exact .inl rfl | exact .inr rfl | assumption) : DGc X vs (.Name x pos) (gN i) :=
  PG.weak (pg_name hN hi hx hf) fun v σ H Q ⟨ex, env, ow, d, S, r, w⟩ => by
    obtain ⟨h1, h2, k⟩ := WP.putS w
    exact k _ H (del ow i) ⟨⟨by rw [List.length_set], fun j hj => List.getElem?_set_ne fun z => hj (by rw [← z]; exact hv)⟩, fun j a z => by unfold del at z; by_cases e : j = i; (rw [if_pos e] at z; cases z); (rw [if_neg e] at z; exact z)⟩ (.setFz h2) (S.setFz h1 ⟨rfl, v, rfl, r.mono (cut_sub H fun a z => lim_del z)⟩)
theorem dgcs_nil : DGcs X vs [] gNil' := PGs.weak pgs_nil fun us σ H Q ⟨ex, env, ow, ds, S, r, w⟩ => by
  cases r with
  | nil => exact ⟨rfl, w σ H ow ⟨.refl, fun _ _ z => z⟩ .refl S⟩
  | cons _ _ => exact w.elim
theorem dgcs_cons (h1 : DGc X vs e t) (h2 : DGcs X vs es u) (hs : (assignEach (e :: es) X.env).map (·.2) = assign e X.env :: (assignEach es X.env).map (·.2) := by rfl) : DGcs X vs (e :: es) (gCons' t u) :=
  PGs.weak (pgs_cons h1 h2 hs) fun us σ H Q ⟨ex, env, ow, ds, S, r, w⟩ => by
    cases r with
    | nil => exact w.elim
    | @cons v us d ds r rr =>
      refine ⟨v, us, rfl, ex, env, ow, d, S, r, (WP.bind.mp w).mono (fun f env1 w1 => ?_) fun _ _ z => z⟩
      exact fun σ1 H1 ow1 q1 P1 S1 => ⟨ex, env1, ow1, ds, S1, rr.mono P1.cut, w1.mono (fun g e2 k => fun σ2 H2 ow2 q2 P2 S2 => k σ2 H2 ow2 ⟨q1.1.trans q2.1, fun i a z => q1.2 i a (q2.2 i a z)⟩ (P1.trans P2) S2) fun _ _ z => z⟩
theorem dgc_tup {k n : Nat} (hc : X.calm = true) (h : DGcs X vs es u) (hn : (assignEach es X.env).length = n := by rfl) (hst : (assignEach es X.env).findIdx? (·.1) = none := by rfl) : DGc X vs (.Tuple es k pos) (gT n u) :=
  PG.weak (pg_tup hc h hn hst) fun v σ H Q ⟨ex, env, ow, d, S, r, w⟩ => by
    cases d with
    | tup ds =>
      cases r with
      | @tup a xs ds h1 h2 =>
        have w' : WP (if ds.length = n then u ds else fun _ => none) env (kGc X.K X.mg vs ex env ow σ H Q) (fun _ _ => True) := w
        by_cases e : ds.length = n
        · rw [if_pos e] at w'
          exact ⟨a, xs, rfl, (cut_le _ H).t h1, h2.length.trans e, ex, env, ow, ds, S, h2, w'⟩
        · rw [if_neg e] at w'; exact w'.elim
    | _ => exact w.elim
end

/-! ### slots forgotten -/
def wipeE (env : Env) : List Nat → Env
  | [] => env
  | v :: vs => (wipeE env vs).set v none
def delA (ow : Ow) : List Nat → Ow
  | [] => ow
  | v :: vs => del (delA ow vs) v
section
variable {K : PySem.W.Frag} {mg : Str → Option Value} {ex : Addr → Prop} {env env' : Env} {ow ow' : Ow} {σ σ' : St} {H H' : Hp} {E : XK}
theorem wipeE_length : ∀ vs : List Nat, (wipeE env vs).length = env.length
  | [] => rfl
  | v :: vs => by unfold wipeE; rw [List.length_set, wipeE_length vs]
theorem wipeE_ne : ∀ {vs : List Nat} {j : Nat}, j ∉ vs → gs (wipeE env vs) j = gs env j
  | [], _, _ => rfl
  | v :: vs, j, h => by
    unfold wipeE
    rw [gs_set_ne fun z => h (by rw [z]; exact List.mem_cons_self), wipeE_ne fun z => h (List.mem_cons_of_mem _ z)]
theorem wipeE_in : ∀ {vs : List Nat} {j : Nat}, j ∈ vs → gs (wipeE env vs) j = none
  | [], _, h => by cases h
  | v :: vs, j, h => by
    unfold wipeE
    by_cases e : v = j
    · subst e
      by_cases hl : v < (wipeE env vs).length
      · rw [gs_set_self hl]
      · unfold gs
        rw [List.getElem?_eq_none (by rw [List.length_set]; omega)]
        rfl
    · rw [gs_set_ne e]
      rcases List.mem_cons.mp h with q | q
      · exact absurd q.symm e
      · exact wipeE_in q
theorem delA_sub : ∀ {vs : List Nat} {i : Nat} {a : Addr}, delA ow vs i = some a → ow i = some a
  | [], _, _, h => h
  | v :: vs, i, a, h => by
    unfold delA del at h
    by_cases e : i = v
    · rw [if_pos e] at h; cases h
    · rw [if_neg e] at h; exact delA_sub h
theorem wipe_gv : ∀ {vs : List Nat} {σ : St} {j : Nat}, j ∉ vs → gv (wipe σ vs) j = gv σ j
  | [], _, _, _ => rfl
  | v :: vs, σ, j, h => by
    unfold wipe
    rw [gv_set_ne fun z => h (by rw [z]; exact List.mem_cons_self), wipe_gv fun z => h (List.mem_cons_of_mem _ z)]
theorem wipe_out : ∀ {vs : List Nat} {σ : St} {j : Nat}, j ∉ vs → (wipe σ vs)[j]? = σ[j]?
  | [], _, _, _ => rfl
  | v :: vs, σ, j, h => by
    unfold wipe
    rw [List.getElem?_set_ne fun z => h (by rw [z]; exact List.mem_cons_self), wipe_out fun z => h (List.mem_cons_of_mem _ z)]
theorem wipe_in : ∀ {vs : List Nat} {σ : St} {j : Nat}, j ∈ vs → (wipe σ vs)[j]? = if j < σ.length then some none else none
  | [], _, _, h => by cases h
  | v :: vs, σ, j, h => by
    unfold wipe
    by_cases e : v = j
    · subst e
      by_cases hl : v < σ.length
      · rw [List.getElem?_set_self (by rw [wipe_length]; exact hl), if_pos hl]
      · rw [if_neg hl, List.getElem?_eq_none (by rw [List.length_set, wipe_length]; omega)]
    · rw [List.getElem?_set_ne e]
      rcases List.mem_cons.mp h with q | q
      · exact absurd q.symm e
      · exact wipe_in q
theorem wipe_same {vs : List Nat} {σ σ' : St} (h : Elsewhere vs σ σ') : wipe σ' vs = wipe σ vs := List.ext_getElem? fun j => by
  by_cases e : j ∈ vs
  · rw [wipe_in e, wipe_in e, h.1]
  · rw [wipe_out e, wipe_out e, h.2 j e]
theorem wipe_wipe {vs : List Nat} {σ : St} : wipe (wipe σ vs) vs = wipe σ vs := wipe_same ⟨wipe_length σ vs, fun j h => wipe_out h⟩
theorem SR.wipe (S : SR K mg ex env ow σ H) : ∀ vs : List Nat, (∀ i ∈ vs, i < env.length) → SR K mg ex (wipeE env vs) (delA ow vs) (L2.wipe σ vs) H
  | [], _ => S
  | v :: vs, h => (SR.wipe S vs fun i z => h i (List.mem_cons_of_mem _ z)).setFz (v := none) (by rw [wipeE_length]; exact h v List.mem_cons_self) rfl
theorem SR.unwipe {vs : List Nat} (S : SR K mg ex env ow (L2.wipe σ vs) H) (h : ∀ i ∈ vs, gs env i = none) : SR K mg ex env ow σ H := by
  refine ⟨S.len.trans (wipe_length σ vs), fun i => ?_, S.inj, S.dis, S.tr⟩
  have q := S.slot i
  by_cases e : i ∈ vs
  · rw [h i e] at q ⊢
    exact q
  · rw [wipe_gv e] at q
    exact q
end

section
variable {K : PySem.W.Frag} {mg : Str → Option Value} {ex : Addr → Prop} {env env' : Env} {ow ow' : Ow} {σ σ' : St} {H H' : Hp} {E : XK}
theorem SR.wiped {vs : List Nat} (S : SR K mg ex env ow σ H) (h : ∀ i ∈ vs, gs env i = none) : SR K mg ex env ow (L2.wipe σ vs) H := by
  refine ⟨S.len.trans (wipe_length σ vs).symm, fun i => ?_, S.inj, S.dis, S.tr⟩
  have q := S.slot i
  by_cases e : i ∈ vs
  · rw [h i e] at q ⊢
    exact q
  · rw [wipe_gv e]
    exact q
theorem SR.updEx {D : Addr} {o : HO} (S : SR K mg ex env ow σ H) (hD : ex D) : SR K mg ex env ow σ (upd H D o) := by
  refine ⟨S.len, fun i => ?_, S.inj, S.dis, fun a z => ?_⟩
  · have q := S.slot i
    rw [cut_upd (L := lim ex ow) (a := D) (o := o) (.inl hD)]
    have ne : ∀ a, ow i = some a → a ≠ D := fun a z e => S.dis i a z (by rw [e]; exact hD)
    cases c : gs env i with
    | none => rw [c] at q; exact q
    | some y =>
      obtain ⟨d', md⟩ := y
      rw [c] at q
      cases md with
      | fz => exact q
      | ow => obtain ⟨a, o', q1, q2, q3, q4⟩ := q; exact ⟨a, o', q1, q2, by rw [upd_ne (ne a q1)]; exact q3, q4⟩
      | io => obtain ⟨a, o', q1, q2, q3, q4⟩ := q; exact ⟨a, o', q1, q2, by rw [upd_ne (ne a q1)]; exact q3, q4⟩
  · by_cases e : a = D
    · rw [e, upd_same]; exact fun z => nomatch z
    · rw [upd_ne e]; exact S.tr a z
/-- how far a turn of a comprehension is from its start -/
structure Far (vs : List Nat) (env0 : Env) (ow0 : Ow) (H0 : Hp) (env : Env) (ow : Ow) (H : Hp) : Prop where
  keep : ∀ a o, H0 a = some o → ¬ inO ow0 a → H a = some o
  sub : ∀ i a, ow i = some a → ow0 i = some a
  pin : ∀ i d, i ∉ vs → gs env0 i = some (d, .io) → ∃ d', gs env i = some (d', .io)
  there : ∀ a, H0 a ≠ none → H a ≠ none
variable {vs : List Nat} {env0 : Env} {ow0 : Ow} {H0 : Hp}
theorem Far.of (P : Post env0 ow0 H0 env ow H) : Far vs env0 ow0 H0 env ow H := ⟨P.keep, P.sub, fun i d _ h => P.pin i d h, P.there⟩
theorem Far.step (F : Far vs env0 ow0 H0 env ow H) (P : Post env ow H env' ow' H') : Far vs env0 ow0 H0 env' ow' H' :=
  ⟨fun a o h n => P.keep a o (F.keep a o h n) fun ⟨i, z⟩ => n ⟨i, F.sub i a z⟩, fun i a z => F.sub i a (P.sub i a z), fun i d n h => let ⟨d', h'⟩ := F.pin i d n h; P.pin i d' h', fun a h => P.there a (F.there a h)⟩
theorem Far.stepS (F : Far vs env0 ow0 H0 env ow H) (P : PostS env ow H env' ow' H') (hs : ∀ i a, ow' i = some a → ow i = some a) : Far vs env0 ow0 H0 env' ow' H' :=
  ⟨fun a o h n => P.keep a o (F.keep a o h n) fun ⟨i, z⟩ => n ⟨i, F.sub i a z⟩, fun i a z => F.sub i a (hs i a z), fun i d n h => let ⟨d', h'⟩ := F.pin i d n h; (P.pin i d' h').1, fun a h => P.there a (F.there a h)⟩
theorem Far.wipe (F : Far vs env0 ow0 H0 env ow H) : Far vs env0 ow0 H0 (wipeE env vs) (delA ow vs) H :=
  ⟨F.keep, fun i a z => F.sub i a (delA_sub z), fun i d n h => by rw [wipeE_ne n]; exact F.pin i d n h, F.there⟩
theorem Far.write {D : Addr} {o : HO} (F : Far vs env0 ow0 H0 env ow H) (hD : H0 D = none) : Far vs env0 ow0 H0 env ow (upd H D o) :=
  ⟨fun a u h n => by rw [upd_ne (ne_of_none h hD)]; exact F.keep a u h n, F.sub, F.pin, fun a h => by rw [upd_ne fun e => h (by rw [e]; exact hD)]; exact F.there a h⟩
theorem Far.post (F : Far vs env0 ow0 H0 env ow H) (hn : ∀ i d, gs env0 i = some (d, .io) → i ∉ vs) : Post env0 ow0 H0 env ow H := ⟨F.keep, F.sub, fun i d h => F.pin i d (hn i d h) h, F.there⟩
end
/-! ### the comprehension -/
def onEr {α : Type} (f : Env → Env) (m : M α) : M α := fun env => match m env with
  | some (.er z e) => some (.er z (f e))
  | o => o
theorem WP.onEr {α : Type} {f : Env → Env} {m : M α} {env : Env} {k : α → Env → Prop} {x : Xn → Env → Prop} (h : WP (onEr f m) env k x) : WP m env k fun z e => x z (f e) := by
  unfold WP DL.onEr at h
  unfold WP
  cases e : m env with
  | none => rw [e] at h; exact h
  | some r =>
    rw [e] at h
    cases r with
    | ok a e' => exact h
    | er z e' => exact h
/-- no exception comes out of a comprehension's block -/
def noEr {α : Type} (m : M α) : M α := fun env => match m env with
  | some (.er _ _) => none
  | o => o
theorem WP.noEr {α : Type} {m : M α} {env : Env} {k : α → Env → Prop} {x : Xn → Env → Prop} (h : WP (noEr m) env k x) : WP m env k fun _ _ => False := by
  unfold WP DL.noEr at h
  unfold WP
  cases e : m env with
  | none => rw [e] at h; exact h
  | some r =>
    rw [e] at h
    cases r with
    | ok a e' => exact h
    | er z e' => exact h
def ff : XK := fun _ _ _ => False
def lcL (vs : List Nat) (tg : Tg) (tt : M Bool) (te : M R) : List Dt → List Dt → M R
  | [], acc => M.pure (.new (.lst acc))
  | d :: ds, acc => (tg d).bind fun _ => tt.bind fun b => if b then te.bind fun r => (frz r).bind fun x => fun env => if acc.length < line then lcL vs tg tt te ds (acc ++ [x]) (wipeE env vs) else none
    else fun env => lcL vs tg tt te ds acc (wipeE env vs)
def lcG (vs : List Nat) (m : M R) : M R := fun env => if (vs.all fun i => decide (i < env.length) && (gs env i).isNone) = true then onEr (fun e => wipeE e vs) m env else none
def mLC (vs : List Nat) (src : M (List Dt)) (tg : Tg) (tt : M Bool) (te : M R) : M R := src.bind fun ds => lcG vs (lcL vs tg (noEr tt) (noEr te) ds [])
section
variable {K : PySem.W.Frag} {mg : Str → Option Value} {ex : Addr → Prop} {env env' : Env} {ow ow' : Ow} {σ σ' : St} {H H' : Hp} {E : XK}
theorem t_lc {vs : List Nat} {src : M (List Dt)} {tg : Tg} {tt : M Bool} {te : M R} (σ : St) (H : Hp) (Q : VK) (h : tM K mg E (mLC vs src tg tt te) σ H Q) :
    tLc (tI K mg E src) (tGc K mg vs tg) (tMb K mg ff tt) (tM K mg ff te) vs σ H Q := by
  obtain ⟨ex, env0, ow0, S0, w⟩ := h
  refine ⟨ex, env0, ow0, S0, (WP.bind.mp w).mono (fun ds env1 w1 H1 ow1 J G P1 S1 l y D hD => ?_) fun _ _ z => z⟩
  have w1' : WP (if (vs.all fun i => decide (i < env1.length) && (gs env1 i).isNone) = true then onEr (fun e => wipeE e vs) (lcL vs tg (noEr tt) (noEr te) ds []) else fun _ => none) env1 (kV K mg ex env0 ow0 σ H Q) (kX K mg ex env0 ow0 σ H E) := by
    unfold WP lcG at w1
    unfold WP
    by_cases c : (vs.all fun i => decide (i < env1.length) && (gs env1 i).isNone) = true
    · rw [if_pos c] at w1 ⊢; exact w1
    · rw [if_neg c] at w1; exact w1.elim
  by_cases c : (vs.all fun i => decide (i < env1.length) && (gs env1 i).isNone) = true
  · rw [if_pos c] at w1'
    have w2 := WP.onEr w1'
    have hv : ∀ i ∈ vs, i < env1.length ∧ gs env1 i = none := fun i hi => by
      have q := List.all_eq_true.mp c i hi
      rw [Bool.and_eq_true] at q
      exact ⟨of_decide_eq_true q.1, Option.isNone_iff_eq_none.mp q.2⟩
    have hvl : ∀ i ∈ vs, i < env1.length := fun i hi => (hv i hi).1
    have hD0 : H D = none := by
      cases z : H D with
      | none => rfl
      | some o => exact absurd hD (P1.there D (by rw [z]; exact fun q => nomatch q))
    have hn : ∀ i d, gs env0 i = some (d, .io) → i ∉ vs := fun i d h z => by
      obtain ⟨d', h'⟩ := P1.pin i d h
      rw [(hv i z).2] at h'
      cases h'
    let Iv : Nat → Hp → Prop := fun i H2 => ∃ env2 ow2 xs acc, Far vs env0 ow0 H env2 ow2 H2 ∧ SR K mg (fun a => ex a ∨ a = D) env2 ow2 (L2.wipe σ vs) H2 ∧ H2 D = some (.lst xs) ∧ RepA K mg (cut (lim (fun a => ex a ∨ a = D) ow2) H2) xs acc ∧
      Le G (cut (lim (fun a => ex a ∨ a = D) ow2) H2) ∧ (∀ i ∈ vs, gs env2 i = none) ∧ WP (lcL vs tg (noEr tt) (noEr te) (ds.drop i) acc) env2 (kV K mg ex env0 ow0 σ H Q) (fun z e => kX K mg ex env0 ow0 σ H E z (wipeE e vs))
    refine ⟨fun i m H2 => m = ds.length - i ∧ i ≤ ds.length ∧ Iv i H2, ⟨ds.length, by simp, Nat.zero_le _, ?_⟩, ?_⟩
    · obtain ⟨q1, p, ob, q2, q3, q4, q5, q6⟩ := op_back (H' := upd H1 D (.lst [])) (rv := .new (.lst [])) (v := .ref D) S1 .refl S1 (Le.new hD) (new_lst (fun a z => S1.there z) hD .nil)
      cases q2
      refine ⟨env1, ow1, [], [], (Far.of P1).step q1, q6.wiped fun i hi => (hv i hi).2, upd_same, .nil, l.trans (cut_keep (fun a h n => ?_) fun a o h _ => Le.new hD a o h), fun i hi => (hv i hi).2, by simpa using w2⟩
      rcases h with (h | h) | h
      · exact .inl h
      · rw [h] at n; exact absurd hD n
      · exact .inr h
    · rintro i m H2 ⟨rfl, hi, env2, ow2, xs, acc, F2, S2, hxs, rxs, l2, hv2, w3⟩
      by_cases hlt : i < ds.length
      · refine .inr ⟨y.go i H2 (l2.trans (cut_le _ _)) hlt, fun H' => Iv (i + 1) H', fun H' z => ⟨ds.length - (i + 1), by omega, rfl, hlt, z⟩, fun x H3 q => ?_⟩
        obtain ⟨l3, d, hd, r⟩ := y.yld (lim (fun a => ex a ∨ a = D) ow2) i H2 x H3 (fun a z => S2.there z) l2 hlt q
        have S3 := S2.le l3
        have c3 : Le (cut (lim (fun a => ex a ∨ a = D) ow2) H2) (cut (lim (fun a => ex a ∨ a = D) ow2) H3) := cut_keep (fun _ h _ => h) fun a o e _ => l3 a o e
        have F3 : Far vs env0 ow0 H env2 ow2 H3 := F2.step (.le l3)
        have D3 : H3 D = some (.lst xs) := l3 D _ hxs
        have hd' : ds.drop i = d :: ds.drop (i + 1) := by
          have e1 : ds[i]? = some (ds[i]'hlt) := List.getElem?_eq_getElem hlt
          rw [e1] at hd
          rw [← Option.some.inj hd]
          exact List.drop_eq_getElem_cons hlt
        rw [hd'] at w3
        refine ⟨_, env2, ow2, d, S3, r, (WP.bind.mp (show WP ((tg d).bind _) env2 _ _ from w3)).mono (fun f env3 w4 σ3 H4 ow3 el P3 S4 => ?_) fun _ _ _ => True.intro⟩
        have sw : L2.wipe σ3 vs = L2.wipe σ vs := (wipe_same el.1).trans wipe_wipe
        have F4 : Far vs env0 ow0 H env3 ow3 H4 := F3.stepS P3 el.2
        have c4 := P3.cut (ex := fun a => ex a ∨ a = D)
        have D4 : H4 D = some (.lst xs) := P3.keep D _ D3 fun ⟨j, z⟩ => S3.dis j D z (.inr rfl)
        have inl : ∀ {env : Env}, env.length = σ3.length → ∀ j ∈ vs, j < env.length := fun {env} e j hj => by
          rw [e, el.1.1, wipe_length, ← S1.len]; exact hvl j hj
        refine ⟨sw, _, env3, ow3, S4, (WP.noEr (WP.bind.mp w4)).mono (fun b env4 w5 H5 ow4 P4 S5 => ?_) fun _ _ z => z.elim⟩
        have F5 := F4.step P4
        have c5 := P4.cut S4
        have D5 : H5 D = some (.lst xs) := P4.keep D _ D4 fun ⟨j, z⟩ => S4.dis j D z (.inr rfl)
        cases b with
        | false =>
          show Iv (i + 1) H5
          have SW := S5.wipe vs (inl S5.len)
          rw [sw] at SW
          have cw : Le (cut (lim (fun a => ex a ∨ a = D) ow4) H5) (cut (lim (fun a => ex a ∨ a = D) (delA ow4 vs)) H5) := cut_sub H5 fun a z => z.elim .inl fun ⟨j, z⟩ => .inr ⟨j, delA_sub z⟩
          exact ⟨wipeE env4 vs, delA ow4 vs, xs, acc, F5.wipe, SW, D5, ((((rxs.mono c3).mono c4).mono c5).mono cw), (((l2.trans c3).trans c4).trans c5).trans cw, fun j hj => wipeE_in hj, w5⟩
        | true =>
          refine ⟨_, env4, ow4, S5, (WP.noEr (WP.bind.mp w5)).mono (fun rr env5 w6 v H6 ow5 P5 R6 => ?_) fun _ _ z => z.elim⟩
          have S6 := R6.sr
          obtain ⟨d6, env6, ow6, S7, P6, r7, w7⟩ := WP.frz S6 (R6.held S5.tr) (WP.bind.mp w6)
          have F7 := (F5.step P5).step P6
          have c6 := P5.cut S5
          have c7 := P6.cut S6
          have D6 : H6 D = some (.lst xs) := P5.keep D _ D5 fun ⟨j, z⟩ => S5.dis j D z (.inr rfl)
          have rx7 := ((((rxs.mono c3).mono c4).mono c5).mono c6).mono c7
          have w7 : WP (fun env => (if acc.length < line then lcL vs tg (noEr tt) (noEr te) (ds.drop (i + 1)) (acc ++ [d6]) (wipeE env vs) else none)) env6 (kV K mg ex env0 ow0 σ H Q) (fun z e => kX K mg ex env0 ow0 σ H E z (wipeE e vs)) := w7
          unfold WP at w7
          dsimp only at w7
          by_cases hl : acc.length < line
          · rw [if_pos hl] at w7
            refine ⟨xs, D6, Nat.lt_of_lt_of_le (by rw [rxs.length]; exact hl) (line_le (Nat.le_refl _)), ?_⟩
            show Iv (i + 1) _
            have SW := (S7.updEx (o := .lst (xs ++ [v])) (D := D) (.inr rfl)).wipe vs (inl S7.len)
            rw [sw] at SW
            have cw : Le (cut (lim (fun a => ex a ∨ a = D) ow6) H6) (cut (lim (fun a => ex a ∨ a = D) (delA ow6 vs)) (upd H6 D (.lst (xs ++ [v])))) := by
              rw [cut_upd (.inl (.inr rfl))]
              exact cut_sub H6 fun a z => z.elim .inl fun ⟨j, z⟩ => .inr ⟨j, delA_sub z⟩
            exact ⟨wipeE env6 vs, delA ow6 vs, xs ++ [v], acc ++ [d6], (F7.write hD0).wipe, SW, upd_same, (rx7.append (.cons r7 .nil)).mono cw, (((((l2.trans c3).trans c4).trans c5).trans c6).trans c7).trans cw, fun j hj => wipeE_in hj, w7⟩
          · rw [if_neg hl] at w7; exact w7.elim
      · have e : i = ds.length := by omega
        subst e
        rw [List.drop_length] at w3
        refine .inl ⟨y.stop _ H2 (l2.trans (cut_le _ _)) (Nat.le_refl _), ?_⟩
        exact w3 (.ref D) H2 ow2 (F2.post hn) ⟨D, _, rfl, hD0, hxs, ⟨xs, acc, rfl, rfl, rxs⟩, S2.unwipe hv2⟩
  · rw [if_neg c] at w1'; exact w1'.elim
end
section
variable {X : Cx} {E : XK} {elt tg iter c : Expr} {scope : Scope} {own : List (Str × Nat)} {pos : Pos} {src : M (List Dt)} {t : Tg} {mt : M Bool} {me : M R}
theorem d_lc (hc : X.calm = true) (hN : X.N.Nodup) (hi : DI X E tg iter src) (ok : BlkOk X.N X.env.scope scope own)
    (hg : ∀ (s : Shared) (H : Hp) (C : Addr) (cl : List (Str × Addr)) (fp : List Addr), DGc (X.blk s H scope (compEnvC scope cl C X.env) fp) (own.map (·.2)) tg t)
    (he : ∀ (s : Shared) (H : Hp) (C : Addr) (cl : List (Str × Addr)) (fp : List Addr), DE (X.blk s H scope (compEnvC scope cl C X.env) fp) ff elt me) (hs : ∀ x, foldedSetIterable iter X.env x = pure x := by intro _; rfl) :
    DE X E (.ListComp elt [⟨tg, iter, [], 0⟩] scope pos) (mLC (own.map (·.2)) src t (M.pure true) me) :=
  PE.weak (pe_lc (te := tM X.K X.mg ff me) (g := tGc X.K X.mg (own.map (·.2)) t) (tt := tMb X.K X.mg ff (M.pure true)) hc hN hi ok hg (fun s H C cl fp => ⟨fun pins s σ H Q I h => pts_nil.run pins s σ H Q I (by
    obtain ⟨ex, env, ow, S, w⟩ := h
    exact w H ow .refl S)⟩) he hs) (t_lc (vs := own.map (·.2)))
theorem d_lcIf (hc : X.calm = true) (hN : X.N.Nodup) (hi : DI X E tg iter src) (ok : BlkOk X.N X.env.scope scope own)
    (hg : ∀ (s : Shared) (H : Hp) (C : Addr) (cl : List (Str × Addr)) (fp : List Addr), DGc (X.blk s H scope (compEnvC scope cl C X.env) fp) (own.map (·.2)) tg t)
    (ht : ∀ (s : Shared) (H : Hp) (C : Addr) (cl : List (Str × Addr)) (fp : List Addr), DT (X.blk s H scope (compEnvC scope cl C X.env) fp) ff c mt)
    (he : ∀ (s : Shared) (H : Hp) (C : Addr) (cl : List (Str × Addr)) (fp : List Addr), DE (X.blk s H scope (compEnvC scope cl C X.env) fp) ff elt me) (hs : ∀ x, foldedSetIterable iter X.env x = pure x := by intro _; rfl) :
    DE X E (.ListComp elt [⟨tg, iter, [c], 0⟩] scope pos) (mLC (own.map (·.2)) src t mt me) :=
  PE.weak (pe_lc (te := tM X.K X.mg ff me) (g := tGc X.K X.mg (own.map (·.2)) t) (tt := tMb X.K X.mg ff mt) hc hN hi ok hg (fun s H C cl fp => pts_one (ht s H C cl fp)) he hs) (t_lc (vs := own.map (·.2)))
/-- within the block -/
theorem Bd.blk {k : Nat} (bd : Bd X k E) (s : Shared) (H : Hp) (C : Addr) (cl : List (Str × Addr)) (fp : List Addr) : Bd (X.blk s H scope (compEnvC scope cl C X.env) fp) k ff where
  calm := bd.calm
  room := bd.room
  gd := bd.gd
  ps := fun pins σ H s e s' I c => by
    obtain ⟨_, _, _, _, _, _, _, _, _, _, _, _, z⟩ := c
    exact z
  own := PassesOwn.never
  tk := fun u s' x => by
    obtain ⟨_, _, _, _, _, _, _, _, _, _, _, _, _, _, _, _, z⟩ := x
    exact z
end
end DL

/-! DLr: several readings of one operator; displays; slices; calls of built-ins; repr. -/
namespace DL
open PySem L2

/-! ### one operator, several kinds of data -/
def gOr (g g' : Dt → Dt → Option R) : Dt → Dt → Option R := fun x y => match g x y with
  | some r => some r
  | none => g' x y
section
variable {K : PySem.W.Frag} {mg : Str → Option Value}
theorem os_or {r r' : R2} {g g' : Dt → Dt → Option R} (h : OpS K mg r g) (h' : OpS K mg r' g') : OpS K mg (fun x y H Q => r x y H Q ∨ r' x y H Q) (gOr g g') := fun L H x y dx dy rv Q tr rx ry e k => by
  unfold gOr at e
  cases c : g dx dy with
  | some z => rw [c] at e; cases e; exact .inl (h L H x y dx dy _ Q tr rx ry c k)
  | none => rw [c] at e; exact .inr (h' L H x y dx dy rv Q tr rx ry e k)
def gCOr (g g' : List Dt → Option R) : List Dt → Option R := fun l => match g l with
  | some r => some r
  | none => g' l
theorem cs_or {r r' : List V → Hp → VK → Prop} {g g' : List Dt → Option R} (h : CallS K mg r g) (h' : CallS K mg r' g') : CallS K mg (fun xs H Q => r xs H Q ∨ r' xs H Q) (gCOr g g') := fun L H xs ds rv Q tr rx e k => by
  unfold gCOr at e
  cases c : g ds with
  | some z => rw [c] at e; cases e; exact .inl (h L H xs ds _ Q tr rx c k)
  | none => rw [c] at e; exact .inr (h' L H xs ds rv Q tr rx e k)
end
def gPlus := gOr gAdd (gOr gCatS (gOr gCatL gCatT))
def gLess := gOr gLt gLtS
section
variable {X : Cx} {E : XK} {a b c e : Expr} {es : List Expr} {p pos : Pos} {x : Str} {ma mb m : M R} {ml : List (M R)}
theorem d_plus (ha : DE X E a ma) (hb : DE X E b mb) : DE X E (.BinOp a .Add b pos) (mOp gPlus ma mb) := d_op (op_add.or (op_add_str.or (op_cat.or op_catA))) (os_or os_add (os_or os_catS (os_or os_catL os_catT))) ha hb
theorem d_sub (ha : DE X E a ma) (hb : DE X E b mb) : DE X E (.BinOp a .Sub b pos) (mOp gSub ma mb) := d_op op_sub os_sub ha hb
theorem d_mul (ha : DE X E a ma) (hb : DE X E b mb) : DE X E (.BinOp a .Mult b pos) (mOp gMul ma mb) := d_op op_mul os_mul ha hb
theorem d_div (ha : DE X E a ma) (hb : DE X E b mb) : DE X E (.BinOp a .FloorDiv b pos) (mOp gDiv ma mb) := d_op op_fdiv os_div ha hb
theorem d_mod (ha : DE X E a ma) (hb : DE X E b mb) : DE X E (.BinOp a .Mod b pos) (mOp gMod ma mb) := d_op op_mod os_mod ha hb
theorem d_pow (ha : DE X E a ma) (hb : DE X E b mb) : DE X E (.BinOp a .Pow b pos) (mOp gPow ma mb) := d_op op_pow os_pow ha hb
theorem d_neg (ha : DE X E a ma) : DE X E (.UnaryOp .USub a pos) (mUn gNeg ma) := d_un un_neg us_neg ha
/-- tests by one operator, and the same as values -/
def mTC (g : Dt → Dt → Option R) (ma mb : M R) : M Bool := mT (mOp g ma mb)
theorem dt_eq (ha : DE X E a ma) (hb : DE X E b mb) (hm : behindInMarks .Eq b = false := by rfl) : DT X E (.Compare a [.Eq] [b] pos) (mTC gEq ma mb) := d_test op_eq os_eq ha hb hm
theorem dt_ne (ha : DE X E a ma) (hb : DE X E b mb) (hm : behindInMarks .NotEq b = false := by rfl) : DT X E (.Compare a [.NotEq] [b] pos) (mTC gNe ma mb) := d_test op_ne os_ne ha hb hm
theorem dt_lt (ha : DE X E a ma) (hb : DE X E b mb) (hm : behindInMarks .Lt b = false := by rfl) : DT X E (.Compare a [.Lt] [b] pos) (mTC gLess ma mb) := d_test (op_lt.or op_lt_str) (os_or os_lt os_ltS) ha hb hm
theorem dt_le (ha : DE X E a ma) (hb : DE X E b mb) (hm : behindInMarks .LtE b = false := by rfl) : DT X E (.Compare a [.LtE] [b] pos) (mTC gLe ma mb) := d_test op_le os_le ha hb hm
theorem dt_gt (ha : DE X E a ma) (hb : DE X E b mb) (hm : behindInMarks .Gt b = false := by rfl) : DT X E (.Compare a [.Gt] [b] pos) (mTC gGt ma mb) := d_test op_gt os_gt ha hb hm
theorem dt_ge (ha : DE X E a ma) (hb : DE X E b mb) (hm : behindInMarks .GtE b = false := by rfl) : DT X E (.Compare a [.GtE] [b] pos) (mTC gGe ma mb) := d_test op_ge os_ge ha hb hm
theorem dt_in (ha : DE X E a ma) (hb : DE X E b mb) (hm : behindInMarks .In b = false := by rfl) : DT X E (.Compare a [.In] [b] pos) (mTC gIn ma mb) := d_test op_in_seq os_in ha hb hm
theorem dt_notIn (ha : DE X E a ma) (hb : DE X E b mb) (hm : behindInMarks .NotIn b = false := by rfl) : DT X E (.Compare a [.NotIn] [b] pos) (mTC gNotIn ma mb) := d_test op_notIn_seq os_notIn ha hb hm
theorem dt_isN (ha : DE X E a ma) (hb : DE X E b mb) (hm : behindInMarks .Is b = false := by rfl) : DT X E (.Compare a [.Is] [b] pos) (mTC gIsN ma mb) := d_test op_isN os_isN ha hb hm
theorem dt_notN (ha : DE X E a ma) (hb : DE X E b mb) (hm : behindInMarks .IsNot b = false := by rfl) : DT X E (.Compare a [.IsNot] [b] pos) (mTC gNotN ma mb) := d_test op_notN os_notN ha hb hm
theorem dv_eq (ha : DE X E a ma) (hb : DE X E b mb) (hm : behindInMarks .Eq b = false := by rfl) : DE X E (.Compare a [.Eq] [b] pos) (mOp gEq ma mb) := d_cmp op_eq os_eq ha hb hm
theorem d_ix (ha : DE X E a ma) (hb : DE X E b mb) (hs : PlainIx b) : DE X E (.Subscript a b pos) (mOp gIdx ma mb) := PE.weak (pe_ix ix_seq ha hb hs) (t_op os_idx)
/-- calls -/
theorem d_cb {id : String} {r : List V → Hp → VK → Prop} {g : List Dt → Option R} (hc : CallR X (.builtin id) r) (hg : CallS X.K X.mg r g) (hgl : Gl X x) (hm : X.mg x = none) (hv : bootBuiltins x = some (.builtin id)) (ha : DA X E (e :: es) ml) (hn : x ≠ "__name__" := by decide) (hdb : (x == ("__debug__" : Str)) = false := by decide)
    (he : starEach (e :: es) X.env = (false, eval e X.env) :: starEach es X.env := by rfl) (hpl : (backTo pos (starEach es X.env)).any (·.1) = false := by rfl) : DE X E (.Call (.Name x p) (e :: es) [] pos) (mCall g ml) := PE.weak (pe_callB hc hgl hm hv ha hn hdb he hpl) (t_cb hg)
theorem d_cty {T : String} {r : List V → Hp → VK → Prop} {g : List Dt → Option R} (hc : CallR X (.type T) r) (hg : CallS X.K X.mg r g) (hgl : Gl X x) (hm : X.mg x = none) (hv : bootBuiltins x = some (.type T)) (ha : DA X E (e :: es) ml) (hn : x ≠ "__name__" := by decide) (hdb : (x == ("__debug__" : Str)) = false := by decide)
    (he : starEach (e :: es) X.env = (false, eval e X.env) :: starEach es X.env := by rfl) (hpl : (backTo pos (starEach es X.env)).any (·.1) = false := by rfl) : DE X E (.Call (.Name x p) (e :: es) [] pos) (mCall g ml) := PE.weak (pe_callTy hc hgl hm hv ha hn hdb he hpl) (t_cb hg)

/-! ### displays -/
def dispT (ds : List Dt) : M R := fun env => if ds.length ≤ line then some (.ok (.val (.tup ds)) env) else none
def dispL (ds : List Dt) : M R := fun env => if ds.length ≤ line then some (.ok (.new (.lst ds)) env) else none
def mTup (l : List (M R)) : M R := (mA l).bind fun rs => (frzA rs).bind dispT
def mLst (l : List (M R)) : M R := (mA l).bind fun rs => (frzA rs).bind dispL
section
variable {K : PySem.W.Frag} {mg : Str → Option Value}
theorem t_tup {l : List (M R)} (σ : St) (H : Hp) (Q : VK) (h : tM K mg E (mTup l) σ H Q) : tTup (tMa K mg E (mA l)) σ H Q := by
  obtain ⟨ex, env, ow, S, w⟩ := h
  refine ⟨ex, env, ow, S, (WP.bind.mp w).mono (fun rs env1 w1 vs H1 ow1 P1 S1 hh => ?_) fun _ _ z => z⟩
  obtain ⟨ds, env2, ow2, S2, P2, r2, w2⟩ := WP.frzA S1 hh (WP.bind.mp w1)
  unfold WP dispT at w2
  by_cases hl : ds.length ≤ line
  · rw [if_pos hl] at w2
    refine ⟨line_le (by rw [r2.length]; exact hl), fun p hp => ?_⟩
    exact kV.op S (P1.trans P2) S2 w2 (Le.new hp) (new_tup (fun a z => S2.there z) hp r2)
  · rw [if_neg hl] at w2; exact w2.elim
theorem t_lst {l : List (M R)} (σ : St) (H : Hp) (Q : VK) (h : tM K mg E (mLst l) σ H Q) : tLst (tMa K mg E (mA l)) σ H Q := by
  obtain ⟨ex, env, ow, S, w⟩ := h
  refine ⟨ex, env, ow, S, (WP.bind.mp w).mono (fun rs env1 w1 vs H1 ow1 P1 S1 hh => ?_) fun _ _ z => z⟩
  obtain ⟨ds, env2, ow2, S2, P2, r2, w2⟩ := WP.frzA S1 hh (WP.bind.mp w1)
  unfold WP dispL at w2
  by_cases hl : ds.length ≤ line
  · rw [if_pos hl] at w2
    refine ⟨line_le (by rw [r2.length]; exact hl), fun p hp => ?_⟩
    exact kV.op S (P1.trans P2) S2 w2 (Le.new hp) (new_lst (fun a z => S2.there z) hp r2)
  · rw [if_neg hl] at w2; exact w2.elim
end
theorem d_tup {k : Nat} (h : DA X E es ml) : DE X E (.Tuple es k pos) (mTup ml) := PE.weak (pe_tup h) t_tup
theorem d_lst (h : DA X E es ml) : DE X E (.List es pos) (mLst ml) := PE.weak (pe_lst h) t_lst
/-- an empty dict -/
theorem d_dic0 : DE X E (.Dict [] [] pos) (M.pure (.val (.dic []))) := PE.weak pe_dnewK fun σ H Q ⟨ex, env, ow, S, w⟩ p hp => by
  have l := Le.new (o := .dK []) hp
  refine w (.ref p) _ ow (.le l) ⟨S.le l, .dic ?_ .nil⟩
  rw [cut_out (S.nlim hp), upd_same]
end
end DL

/-! ### repr -/
namespace DL
open PySem L2
mutual
def pyD : Dt → Option PyData
  | .non => some .none
  | .bl b => some (.bool b)
  | .int i => some (.int i)
  | .str s => some (.str s)
  | .tup xs => (pyA xs).map .tuple
  | .lst xs => (pyA xs).map .list
  | .scr xs => (pyA xs).map .list
  | _ => none
def pyA : List Dt → Option (List PyData)
  | [] => some []
  | d :: ds => match pyD d, pyA ds with
    | some p, some ps => some (p :: ps)
    | _, _ => none
end
section
variable {K : PySem.W.Frag} {mg : Str → Option Value} {H : Hp}
mutual
theorem dp_of : ∀ {d : Dt} {v : V} {p : PyData}, Rep K mg H v d → pyD d = some p → Dp K H v p
  | .non, _, _, r, e => by cases r; cases e; exact .non
  | .bl b, _, _, r, e => by cases r; cases e; exact .bl b
  | .int i, _, _, r, e => by cases r; cases e; exact .int i
  | .str s, _, _, r, e => by cases r; cases e; exact .str s
  | .tup xs, _, _, r, e => by
    cases r with
    | tup h rr =>
      unfold pyD at e
      cases c : pyA xs with
      | none => rw [c] at e; cases e
      | some ps => rw [c] at e; cases e; exact .tup h (dpA_of rr c)
  | .lst xs, _, _, r, e => by
    cases r with
    | lst h rr =>
      unfold pyD at e
      cases c : pyA xs with
      | none => rw [c] at e; cases e
      | some ps => rw [c] at e; cases e; exact .lst (SqL.of h) (dpA_of rr c)
  | .scr xs, _, _, r, e => by
    cases r with
    | scr h rr =>
      unfold pyD at e
      cases c : pyA xs with
      | none => rw [c] at e; cases e
      | some ps => rw [c] at e; cases e; exact .lst h (dpA_of rr c)
  | .glob _, _, _, _, e => by cases e
  | .ins _ _, _, _, _, e => by cases e
  | .exc _ _, _, _, _, e => by cases e
  | .exc0 _, _, _, _, e => by cases e
  | .dic _, _, _, _, e => by cases e
  | .ty _, _, _, _, e => by cases e
theorem dpA_of : ∀ {ds : List Dt} {vs : List V} {ps : List PyData}, RepA K mg H vs ds → pyA ds = some ps → DpAll K H vs ps
  | [], _, _, r, e => by cases r; cases e; exact .nil
  | d :: ds, _, _, r, e => by
    cases r with
    | cons h t =>
      unfold pyA at e
      cases c1 : pyD d with
      | none => rw [c1] at e; cases e
      | some p =>
        cases c2 : pyA ds with
        | none => rw [c1, c2] at e; cases e
        | some ps =>
          rw [c1, c2] at e
          cases e
          exact .cons (dp_of h c1) (dpA_of t c2)
end
end

/-- a dict of flat things -/
def flP : Dt → Option PyData
  | .non => some .none
  | .bl b => some (.bool b)
  | .int i => some (.int i)
  | .str s => some (.str s)
  | _ => none
def keyP : Key → PyData
  | .inl i => .int i
  | .inr s => .str s
def pyK : List (Key × Dt) → Option (List (PyData × PyData))
  | [] => some []
  | (k, d) :: r => match flP d, pyK r with
    | some p, some ps => some ((keyP k, p) :: ps)
    | _, _ => none
section
variable {X : Cx} {pins : List (Addr × Obj)} {σ : St} {H : Hp} {s : Shared} {h : Heap}
theorem flP_reads {K : PySem.W.Frag} {mg : Str → Option Value} {v : V} {u : Value} {d : Dt} {p : PyData} (r : Rep K mg H v d) (rv : RelV v u) (e : flP d = some p) : Reads h u p [] := by
  unfold flP at e
  split at e <;> cases e
  · cases r; cases rv; exact .none
  · cases r; cases rv; exact .bool _
  · cases r; obtain ⟨t, rfl⟩ := rv; exact .int _ t
  · cases r; obtain ⟨t, rfl⟩ := rv; exact .str _ t
theorem key_reads {k : Key} {u : Value} (e : keyIs k u = true) : Reads h u (keyP k) [] := by
  rcases keyIs_shape e with ⟨i, t, rfl, rfl⟩ | ⟨x, t, rfl, rfl⟩
  · exact .int _ t
  · exact .str _ t
theorem pairs_reads {P : Program} {w : World} {K : PySem.W.Frag} {mg : Str → Option Value} : ∀ {ks : List (Key × Dt)} {kv : List (Key × V)} {vs : List (Key × Value)} {es : List DictEntry} {ps : List (PyData × PyData)},
    RepK K mg H kv ks → KV kv vs → Pairs (mixKind P w) es vs → pyK ks = some ps → ReadsAll h (es.map (·.key)) (ps.map (·.1)) [] ∧ ReadsAll h (es.map (·.val)) (ps.map (·.2)) []
  | [], _, _, _, _, r, q, z, e => by
    cases r
    cases q
    cases z
    cases e
    exact ⟨.nil, .nil⟩
  | (k, d) :: ks, _, _, _, _, r, q, z, e => by
    cases r with
    | cons r1 r2 =>
      cases q with
      | cons q1 q2 =>
        cases z with
        | cons z1 z2 z3 =>
          unfold pyK at e
          cases c1 : flP d with
          | none => rw [c1] at e; cases e
          | some p =>
            cases c2 : pyK ks with
            | none => rw [c1, c2] at e; cases e
            | some ps =>
              rw [c1, c2] at e
              cases e
              obtain ⟨i1, i2⟩ := pairs_reads r2 q2 z3 c2
              obtain ⟨q3, q4⟩ := q1
              refine ⟨.cons (as := []) (bs := []) (key_reads (k := k) ?_) i1, .cons (as := []) (bs := []) (flP_reads r1 (by show RelV _ (DictEntry.val _); rw [z2]; exact q4) c1) i2⟩
              have z4 : keyIs _ _ = true := z1
              rw [← q3] at z4
              exact z4
theorem dic_reads {a : Addr} {kv : List (Key × V)} {ks : List (Key × Dt)} {ps : List (PyData × PyData)} (I : Inv X pins σ H s) (e : H a = some (.dK kv)) (r : RepK X.K X.mg H kv ks) (c : pyK ks = some ps) : ∃ as, Reads s.heap (.ref a) (.dict ps) as ∧ sysModules ∉ as := by
  obtain ⟨_, hm, vs, q, o, es, ep, ho, hx, hd, _, hp, _⟩ := dk_of I.hok e
  obtain ⟨i1, i2⟩ := pairs_reads (h := s.heap) r q hp c
  refine ⟨_, Reads.dict ho hx.1 hd i1 i2, ?_⟩
  have ne : a ≠ sysModules := beq_eq_false_iff_ne.mp hm
  simpa using Ne.symm ne
theorem noD : ∀ (d : PyData), (∀ x, d ≠ .dict x) → True := fun _ _ => trivial
mutual
theorem pyD_noDict : ∀ {d : Dt} {p : PyData}, pyD d = some p → p.hasDict = false
  | .non, _, e => by cases e; rfl
  | .bl b, _, e => by cases e; rfl
  | .int i, _, e => by cases e; rfl
  | .str s, _, e => by cases e; rfl
  | .tup xs, _, e => by
    unfold pyD at e
    cases c : pyA xs with
    | none => rw [c] at e; cases e
    | some ps => rw [c] at e; cases e; exact pyA_noDict c
  | .lst xs, _, e => by
    unfold pyD at e
    cases c : pyA xs with
    | none => rw [c] at e; cases e
    | some ps => rw [c] at e; cases e; exact pyA_noDict c
  | .scr xs, _, e => by
    unfold pyD at e
    cases c : pyA xs with
    | none => rw [c] at e; cases e
    | some ps => rw [c] at e; cases e; exact pyA_noDict c
  | .glob _, _, e => by cases e
  | .ins _ _, _, e => by cases e
  | .exc _ _, _, e => by cases e
  | .exc0 _, _, e => by cases e
  | .dic _, _, e => by cases e
  | .ty _, _, e => by cases e
theorem pyA_noDict : ∀ {ds : List Dt} {ps : List PyData}, pyA ds = some ps → PyData.hasDictAll ps = false
  | [], _, e => by cases e; rfl
  | d :: ds, _, e => by
    unfold pyA at e
    cases c1 : pyD d with
    | none => rw [c1] at e; cases e
    | some p =>
      cases c2 : pyA ds with
      | none => rw [c1, c2] at e; cases e
      | some ps =>
        rw [c1, c2] at e
        cases e
        show (p.hasDict || PyData.hasDictAll ps) = false
        rw [pyD_noDict c1, pyA_noDict c2]
        rfl
end
/-- what repr reads -/
def pyR : Dt → Option PyData := fun d => match d with
  | .dic ks => (pyK ks).map .dict
  | d => pyD d
def fitR (p : PyData) : Bool := p.showable && decide (p.depth ≤ 60) && decide (p.shown.length ≤ line)
def gRepr : List Dt → Option R := fun l => match l with
  | [d] => match pyR d with
    | some p => if fitR p then some (.val (.str p.shown)) else none
    | none => none
  | _ => none
def rRepr (X : Cx) : List V → Hp → VK → Prop := fun xs H Q => ∃ (v : V) (d : Dt) (p : PyData), xs = [v] ∧ Rep X.K X.mg H v d ∧ pyR d = some p ∧ fitR p = true ∧ Q (.str p.shown) H
theorem reads_R {v : V} {u : Value} {d : Dt} {p : PyData} (I : Inv X pins σ H s) (r : Rep X.K X.mg H v d) (rv : RelV v u) (e : pyR d = some p) : ∃ as, Reads s.heap u p as ∧ (p.hasDict = true → sysModules ∉ as) := by
  have go : pyD d = some p → ∃ as, Reads s.heap u p as ∧ (p.hasDict = true → sysModules ∉ as) := fun e => by
    obtain ⟨as, q⟩ := Dp.reads I p v u (dp_of r e) rv
    exact ⟨as, q, fun z => by rw [pyD_noDict e] at z; cases z⟩
  cases d with
  | dic ks =>
    have e' : (pyK ks).map PyData.dict = some p := e
    cases c : pyK ks with
    | none => rw [c] at e'; cases e'
    | some ps =>
      rw [c] at e'
      cases e'
      cases r with
      | dic h1 h2 =>
        cases rv
        obtain ⟨as, q1, q2⟩ := dic_reads I h1 h2 c
        exact ⟨as, q1, fun _ => q2⟩
  | _ => exact go e
theorem cr_repr (hg : X.A.guards = some []) (hu : X.A.units + 64 < cLine) : CallR X (.builtin "repr") (rRepr X) := by
  intro pins s σ H xs us Q I r h
  obtain ⟨v, d, p, rfl, rd, e, hf, q⟩ := h
  obtain ⟨u, rfl, rv⟩ := vals1 r
  obtain ⟨as, hr, hs⟩ := reads_R I rd rv e
  unfold fitR at hf
  rw [Bool.and_eq_true, Bool.and_eq_true] at hf
  obtain ⟨⟨f1, f2⟩, f3⟩ := hf
  have f2 := of_decide_eq_true f2
  have f3 := of_decide_eq_true f3
  have f4 := line_le f3
  cases hr with
  | none => exact PySem.P.repr_of_none ⟨.str _, H, I.tok _, ⟨_, rfl⟩, q⟩
  | bool b => exact PySem.P.repr_of_bool ⟨.str _, H, I.tok _, ⟨_, rfl⟩, q⟩
  | int i t => exact PySem.P.repr_of_int (of_decide_eq_true f1) ⟨.str _, H, I.tok _, ⟨_, rfl⟩, q⟩
  | str x t => exact PySem.P.repr_of_str ⟨.str _, H, I.tok _, ⟨_, rfl⟩, q⟩ f4
  | list h1 h2 h3 h4 => exact repr_of_reads' (.list h1 h2 h3 h4) f1 hs hg (by omega) (fun _ _ z => z) (fun h' u tk hk => ⟨.str _, H, I.kept hk, ⟨_, rfl⟩, q⟩) f4
  | tuple h1 h2 h3 h4 => exact repr_of_reads' (.tuple h1 h2 h3 h4) f1 hs hg (by omega) (fun _ _ z => z) (fun h' u tk hk => ⟨.str _, H, I.kept hk, ⟨_, rfl⟩, q⟩) f4
  | dict h1 h2 h3 h4 h5 => exact repr_of_reads' (.dict h1 h2 h3 h4 h5) f1 hs hg (by omega) (fun _ _ z => z) (fun h' u tk hk => ⟨.str _, H, I.kept hk, ⟨_, rfl⟩, q⟩) f4
theorem cs_repr : CallS X.K X.mg (rRepr X) gRepr := fun L H xs ds rv Q tr r h k => by
  unfold gRepr at h
  split at h
  · rename_i d
    obtain ⟨v, rfl, rv1⟩ := Paired.one r
    cases e : pyR d with
    | none => simp only [e] at h; cases h
    | some p =>
      simp only [e] at h
      by_cases hf : fitR p = true
      · rw [if_pos hf] at h
        cases h
        exact ⟨v, d, p, rfl, rv1.rep, e, hf, k _ H (.refl H) (.str _)⟩
      · rw [if_neg hf] at h; cases h
  · cases h
end
section
variable {X : Cx} {E : XK} {a e : Expr} {es : List Expr} {p pos : Pos} {ma : M R} {k : Nat}
theorem d_repr (bd : Bd X k E) (hg : Gl X "repr") (hm : X.mg "repr" = none) (ha : DE X E a ma) (hs : starEach [a] X.env = (false, eval a X.env) :: starEach [] X.env := by rfl) (hpl : (backTo pos (starEach [] X.env)).any (·.1) = false := by rfl) :
    DE X E (.Call (.Name "repr" p) [a] [] pos) (mCall gRepr [ma]) :=
  d_cb (cr_repr bd.gd (by have := bd.room.un; omega)) cs_repr hg hm (by first | rfl | kernel_rfl | decide +kernel) (da_cons ha da_nil hs) (by decide) (by decide) hs hpl
/-- {'a': 1} -/
theorem d_dic1 {x : Str} {i : Int} {j1 j2 : Nat} {p1 p2 : Pos} : DE X E (.Dict [some (.Constant (.str x) j1 p1)] [.Constant (.int i) j2 p2] pos) (M.pure (.val (.dic [(.inr x, .int i)]))) :=
  PE.weak (pe_disp (pps_cons pe_str pe_int pps_nil) (by rfl) (by rfl) (by simp) (by show 1 ≤ 15; decide)) fun σ H Q ⟨ex, env, ow, S, w⟩ p hp => by
    show upd H p (.dK []) p = some (.dK []) ∧ ∃ kvs : List (Key × V), [(V.str x, V.int i)] = kvs.map (fun kv => (L2.kV kv.1, kv.2)) ∧ kvs.length ≤ 15 ∧ Q (.ref p) (upd (upd H p (.dK [])) p (.dK (mergeK [] kvs)))
    refine ⟨upd_same, [(.inr x, .int i)], rfl, by show 1 ≤ 15; decide, ?_⟩
    have l : Le H (upd (upd H p (.dK [])) p (.dK (mergeK [] [(.inr x, .int i)]))) := fun b o h => by
      have ne : b ≠ p := ne_of_none h hp
      rw [upd_ne ne, upd_ne ne]
      exact h
    refine w (.ref p) _ ow (.le l) ⟨S.le l, .dic (kv := [(.inr x, .int i)]) ?_ (.cons (.int i) .nil)⟩
    rw [cut_out (S.nlim hp), upd_same]
    rfl
end
end DL

/-! DLs: slices; what else the laws of errors and kitchens want. -/
namespace DL
open PySem L2

def useI (r : R) : M (Option Int) := fun env => match rs env r with
  | some (.int i) => some (.ok (some i) env)
  | _ => none
def partM : Option (M R) → M (Option Int)
  | none => M.pure none
  | some m => m.bind useI
def cutD (xs : List Dt) (lo hi : Option Int) : List Dt := (xs.drop (HT.sIx xs.length 0 lo)).take (HT.sIx xs.length xs.length hi - HT.sIx xs.length 0 lo)
def gSl (lo hi : Option Int) : Dt → Option R := fun d => match d with
  | .lst xs => some (.new (.lst (cutD xs lo hi)))
  | .scr xs => some (.new (.lst (cutD xs lo hi)))
  | .tup xs => some (.val (.tup (cutD xs lo hi)))
  | .str s => if s.length ≤ line then some (.val (.str (cutS s lo hi))) else none
  | _ => none
def mSl (m : M R) (lo hi : Option (M R)) : M R := m.bind fun r => (partM lo).bind fun l => (partM hi).bind fun u => use1 (gSl l u) r
section
variable {K : PySem.W.Frag} {mg : Str → Option Value} {ex : Addr → Prop} {env env' : Env} {ow ow' : Ow} {σ σ' : St} {H H' : Hp} {E : XK}
theorem WP.useI {r : R} {env : Env} {k : Option Int → Env → Prop} {x : Xn → Env → Prop} (h : WP (useI r) env k x) : ∃ i, rs env r = some (.int i) ∧ k (some i) env := by
  unfold WP DL.useI at h
  cases e : rs env r with
  | none => simp only [e] at h
  | some d =>
    cases d with
    | int i => simp only [e] at h; exact ⟨i, rfl, h⟩
    | _ => simp only [e] at h
theorem RepA.cut {G : Hp} {vs : List V} {ds : List Dt} (r : RepA K mg G vs ds) (lo hi : Option Int) : RepA K mg G (cutV vs lo hi) (cutD ds lo hi) := by
  unfold cutV cutD
  rw [r.length]
  exact (r.drop _).take _
theorem cutD_whole {ds : List Dt} {lo hi : Option Int} (h : HT.sIx ds.length 0 lo = 0 ∧ HT.sIx ds.length ds.length hi = ds.length) : cutD ds lo hi = ds := by
  unfold cutD
  rw [h.1, h.2, List.drop_zero, Nat.sub_zero, List.take_length]
def rSl3 (K : PySem.W.Frag) : V → Option Int → Option Int → Hp → VK → Prop := fun x lo hi H Q => rSlL K x lo hi H Q ∨ (rSlA K x lo hi H Q ∨ rSlS x lo hi H Q)
theorem sl3_ok {L : Addr → Prop} {x : V} {d : Dt} {lo hi : Option Int} {rv : R} {Q : VK} (tr : ∀ a, L a → H a ≠ none) (rx : Rdb K mg (cut L H) H x d) (h : gSl lo hi d = some rv) (k : ∀ v H', Le H H' → RvOk K mg L H H' rv v → Q v H') : rSl3 K x lo hi H Q := by
  unfold gSl at h
  split at h
  · cases h
    obtain ⟨a, xs, rfl, h1, r1⟩ := rx.lst
    exact .inl ⟨a, xs, rfl, SqL.of h1, fun p hp => k _ _ (.new hp) (new_lst tr hp (r1.cut lo hi))⟩
  · cases h
    obtain ⟨a, xs, rfl, h1, r1⟩ := rx.scr
    exact .inl ⟨a, xs, rfl, h1, fun p hp => k _ _ (.new hp) (new_lst tr hp (r1.cut lo hi))⟩
  · cases h
    have rx' := rx.tupz
    cases rx' with
    | tup h1 r1 =>
      refine .inr (.inl ⟨_, _, rfl, (cut_le L H).t h1, fun w => ?_, fun _ p hp => k _ _ (.new hp) (new_tup tr hp (r1.cut lo hi))⟩)
      rw [r1.length] at w
      refine k _ H (.refl H) ?_
      show Rep K mg (DL.cut L H) _ (.tup (cutD _ lo hi))
      rw [cutD_whole w]
      exact .tup h1 r1
  · rename_i s
    by_cases e : s.length ≤ line
    · rw [if_pos e] at h
      cases h
      exact .inr (.inr ⟨s, rx.str, line_le e, k _ H (.refl H) (.str _)⟩)
    · rw [if_neg e] at h; cases h
  · cases h
/-- a part left out or told -/
def tP (K : PySem.W.Frag) (mg : Str → Option Value) (E : XK) (m : M (Option Int)) : TO := fun σ H Q => ∃ ex env ow, SR K mg ex env ow σ H ∧ WP m env (fun o env' => ∀ H' ow', Post env ow H env' ow' H' → SR K mg ex env' ow' σ H' → Q o H') (kX K mg ex env ow σ H E)
theorem t_sl {m : M R} {lo hi : Option (M R)} (σ : St) (H : Hp) (Q : VK) (h : tM K mg E (mSl m lo hi) σ H Q) : tSl (rSl3 K) (tM K mg E m) (tP K mg E (partM lo)) (tP K mg E (partM hi)) σ H Q := by
  obtain ⟨ex, env, ow, S, w⟩ := h
  refine ⟨ex, env, ow, S, (WP.bind.mp w).mono (fun ra env1 w1 v1 H1 ow1 P1 R1 => ?_) fun _ _ z => z⟩
  have S1 := R1.sr
  refine ⟨ex, env1, ow1, S1, (WP.bind.mp w1).mono (fun l env2 w2 H2 ow2 P2 S2 => ?_) fun _ _ z => z.go P1⟩
  refine ⟨ex, env2, ow2, S2, (WP.bind.mp w2).mono (fun u env3 w3 H3 ow3 P3 S3 => ?_) fun _ _ z => z.go (P1.trans P2)⟩
  obtain ⟨d, rv, e1, e2, k⟩ := w3.use1
  have hh := ((R1.held S.tr).post S1 P2).post S2 P3
  exact sl3_ok (fun a z => S3.there z) (hh.rdb S3 e1) e2 fun v H' l q => kV.op S ((P1.trans P2).trans P3) S3 k l q
end
section
variable {X : Cx} {E : XK} {a e : Expr} {lo hi : Option Expr} {p2 pos : Pos} {ma m : M R} {ml mh : Option (M R)}
abbrev DP (X : Cx) (E : XK) (e : Option Expr) (o : Option (M R)) : Prop := PO X e (tP X.K X.mg E (partM o))
theorem dp_none : DP X E none none := ⟨fun pins s σ H Q I ⟨ex, env, ow, S, w⟩ => po_none.run pins s σ H Q I (w H ow .refl S)⟩
theorem dp_some (h : DE X E e m) : DP X E (some e) (some m) := ⟨fun pins s σ H Q I ⟨ex, env, ow, S, w⟩ => (po_some h).run pins s σ H Q I ⟨ex, env, ow, S, (WP.bind.mp w).mono (fun r env1 w1 v H1 ow1 P1 R1 => by
  obtain ⟨i, e1, k⟩ := w1.useI
  exact ⟨i, ((R1.held S.tr).rdb R1.sr e1).int, k H1 ow1 P1 R1.sr⟩) fun _ _ z => z⟩⟩
theorem d_sl (ha : DE X E a ma) (hl : DP X E lo ml) (hh : DP X E hi mh) : DE X E (.Subscript a (.Slice lo hi none p2) pos) (mSl ma ml mh) := PE.weak (pe_slice (sl_list.or (sl_tupA.or sl_str)) ha hl hh) t_sl
end
/-! ### and, or as values (of truths) -/
def mAndV (ma mb : M R) : M R := (mT ma).bind fun c => if c then mb else M.pure (.val (.bl false))
def mOrV (ma mb : M R) : M R := (mT ma).bind fun c => if c then M.pure (.val (.bl true)) else mb
section
variable {K : PySem.W.Frag} {mg : Str → Option Value} {ex : Addr → Prop} {env env' : Env} {ow ow' : Ow} {σ σ' : St} {H H' : Hp} {E : XK} {ma mb : M R}
theorem kV.go {Q : VK} {r : R} {e2 : Env} (P1 : Post env ow H env' ow' H') (k : kV K mg ex env ow σ H Q r e2) : kV K mg ex env' ow' σ H' Q r e2 := fun v H2 ow2 P2 R2 => by
  refine k v H2 ow2 (P1.trans P2) ?_
  cases r with
  | val d => exact R2
  | new d =>
    obtain ⟨p, ob, e1, e3, e4, e5⟩ := R2
    refine ⟨p, ob, e1, ?_, e4, e5⟩
    cases z : H p with
    | none => rfl
    | some o => exact absurd e3 (P1.there p (by rw [z]; exact fun q => nomatch q))
  | loc i => exact R2
theorem t_andV (σ : St) (H : Hp) (Q : VK) (h : tM K mg E (mAndV ma mb) σ H Q) : tAndV (tM K mg E ma) (tM K mg E mb) σ H Q := by
  obtain ⟨ex, env, ow, S, w⟩ := h
  refine ⟨ex, env, ow, S, (WP.bind.mp (WP.bind.mp w)).mono (fun ra env1 w1 v1 H1 ow1 P1 R1 => ?_) fun _ _ z => z⟩
  obtain ⟨b, e, k⟩ := w1.useT
  refine ⟨b, ((R1.held S.tr).rdb R1.sr e).bl, ?_⟩
  cases b with
  | true => exact ⟨ex, env1, ow1, R1.sr, k.mono (fun r e2 z => z.go P1) fun _ _ z => z.go P1⟩
  | false => exact k (.bl false) H1 ow1 P1 ⟨R1.sr, .bl false⟩
theorem t_orV (σ : St) (H : Hp) (Q : VK) (h : tM K mg E (mOrV ma mb) σ H Q) : tOrV (tM K mg E ma) (tM K mg E mb) σ H Q := by
  obtain ⟨ex, env, ow, S, w⟩ := h
  refine ⟨ex, env, ow, S, (WP.bind.mp (WP.bind.mp w)).mono (fun ra env1 w1 v1 H1 ow1 P1 R1 => ?_) fun _ _ z => z⟩
  obtain ⟨b, e, k⟩ := w1.useT
  refine ⟨b, ((R1.held S.tr).rdb R1.sr e).bl, ?_⟩
  cases b with
  | false => exact ⟨ex, env1, ow1, R1.sr, k.mono (fun r e2 z => z.go P1) fun _ _ z => z.go P1⟩
  | true => exact k (.bl true) H1 ow1 P1 ⟨R1.sr, .bl true⟩
end
section
variable {X : Cx} {E : XK} {a b : Expr} {rest : List Expr} {pos : Pos} {ma mb : M R} {op : BoolOp}
theorem dv_one (ha : DE X E a ma) : DE X E (.BoolOp op [a] pos) ma := pe_one ha
theorem dv_and (ha : DE X E a ma) (hb : DE X E (.BoolOp .And (b :: rest) pos) mb) : DE X E (.BoolOp .And (a :: b :: rest) pos) (mAndV ma mb) := PE.weak (pe_and ha hb) t_andV
theorem dv_or (ha : DE X E a ma) (hb : DE X E (.BoolOp .Or (b :: rest) pos) mb) : DE X E (.BoolOp .Or (a :: b :: rest) pos) (mOrV ma mb) := PE.weak (pe_or ha hb) t_orV
end
end DL

/-! K01: the law's defs by data. -/
namespace K01
open PySem L2 DL DX
def top (i : Nat) : Stmt := PySem.Challenge.pw_ovenhall_k01_errors_each_of_its_own.main.body.getD i (.Pass ⟨0, 0, 0, 0⟩)
def givens : List Str := [("InvalidNumber" : Str), ("InvalidStuff" : Str), ("InvalidPlace" : Str), ("InvalidRoad" : Str), ("InvalidBounds" : Str), ("InvalidCourse" : Str), ("InvalidLine" : Str), ("NotAKitchen" : Str), ("NotAPlan" : Str), ("NotARecord" : Str), ("NotASheet" : Str), ("NotADesk" : Str), ("UnknownRecipe" : Str), ("UnknownStock" : Str), ("UnknownPromise" : Str), ("UnknownOrder" : Str), ("UnknownUse" : Str), ("UnknownLot" : Str), ("Unfit" : Str), ("OverBounds" : Str), ("TooLarge" : Str)]
def indexes : List Str := [("InvalidGoods" : Str), ("InvalidRecipes" : Str), ("InvalidClasses" : Str), ("InvalidTools" : Str), ("InvalidCooks" : Str), ("InvalidDeeds" : Str), ("InvalidWashings" : Str), ("InvalidHands" : Str), ("InvalidPromises" : Str), ("InvalidLines" : Str), ("InvalidLots" : Str), ("InvalidTicks" : Str), ("InvalidUses" : Str), ("InvalidCounts" : Str), ("InvalidParts" : Str), ("InvalidStarts" : Str), ("InvalidBars" : Str), ("InvalidText" : Str)]
def names : List Str := [("InvalidNumber" : Str), ("InvalidStuff" : Str), ("InvalidPlace" : Str), ("InvalidRoad" : Str), ("InvalidBounds" : Str), ("InvalidCourse" : Str), ("InvalidLine" : Str), ("NotAKitchen" : Str), ("NotAPlan" : Str), ("NotARecord" : Str), ("NotASheet" : Str), ("NotADesk" : Str), ("UnknownRecipe" : Str), ("UnknownStock" : Str), ("UnknownPromise" : Str), ("UnknownOrder" : Str), ("UnknownUse" : Str), ("UnknownLot" : Str), ("Unfit" : Str), ("OverBounds" : Str), ("TooLarge" : Str), ("InvalidGoods" : Str), ("InvalidRecipes" : Str), ("InvalidClasses" : Str), ("InvalidTools" : Str), ("InvalidCooks" : Str), ("InvalidDeeds" : Str), ("InvalidWashings" : Str), ("InvalidHands" : Str), ("InvalidPromises" : Str), ("InvalidLines" : Str), ("InvalidLots" : Str), ("InvalidTicks" : Str), ("InvalidUses" : Str), ("InvalidCounts" : Str), ("InvalidParts" : Str), ("InvalidStarts" : Str), ("InvalidBars" : Str), ("InvalidText" : Str), ("NoFilling" : Str), ("Begun" : Str), ("Over" : Str)]
def blts : List Str := [("super" : Str), ("repr" : Str), ("isinstance" : Str), ("len" : Str), ("abs" : Str), ("divmod" : Str), ("int" : Str), ("max" : Str), ("min" : Str), ("all" : Str), ("range" : Str), ("ValueError" : Str), ("TypeError" : Str), ("LookupError" : Str), ("ArithmeticError" : Str), ("AttributeError" : Str), ("RuntimeError" : Str)]
/-- what isinstance answers for an exception of the class c -/
def tab (c : Str) (t : Dt) : Option Bool := match t with
  | .glob y => if y = "HallError" then some true else if y ∈ names then some (decide (c = y)) else none
  | .ty n => if n = "ValueError" then some true else none
  | .tup ts => match ts with
    | [.ty "TypeError", .ty "LookupError", .ty "ArithmeticError", .ty "AttributeError", .ty "RuntimeError"] => some false
    | _ => none
  | _ => none
/-- what the top has written of a class with an __init__ -/
def ClsI (P : Program) (K : PySem.W.Frag) (mg : Str → Option Value) (x g : Str) : Prop := ∃ C fI cc cda, mg x = some (.ref C) ∧ IniC P K g C fI cc cda
def ClsZ (K : PySem.W.Frag) (mg : Str → Option Value) (x : Str) : Prop := ∃ C, mg x = some (.ref C) ∧ PySem.W.excIn K C [.type "ValueError", .type "Exception", .type "BaseException", .type "object"] "ValueError.__new__" = true ∧ PySem.W.keepIn K (.ref C) = true
structure Txt (P : Program) (K : PySem.W.Frag) (mg : Str → Option Value) : Prop where
  nb : ∀ x, x ∈ blts → mg x = none
  gl : ∀ x, x ∈ ("HallError" : Str) :: names → ∃ C, mg x = some (.ref C)
  ex : ∀ x g, (x, g) ∈ givens.map (fun y => (y, ("given" : Str))) ++ indexes.map (fun y => (y, ("index" : Str))) → ClsI P K mg x g
  ez : ∀ x, x ∈ ([("NoFilling" : Str), ("Begun" : Str), ("Over" : Str)] : List Str) → ClsZ K mg x
  tab : XTab K mg names tab ""
  fx_given : ∀ c ∈ names, ∀ C, mg c = some (.ref C) → ExR K C ∧ PySem.W.findIn K (.ref C) "given" = some none
  fx_index : ∀ c ∈ names, ∀ C, mg c = some (.ref C) → ExR K C ∧ PySem.W.findIn K (.ref C) "index" = some none
/-- a def as the top has written it -/
def FnI (K : PySem.W.Frag) (mg : Str → Option Value) (x : Str) (ps : List Str) (st : Stmt) : Prop := ∃ f fd, Fun K x x st f fd ∧ mg x = some (.ref f) ∧ PySem.W.keepIn K (.ref f) = true ∧ Binds K fd ps []
theorem gn_given : Gn "given" := ⟨by decide, by decide, by decide, by decide⟩
theorem gn_index : Gn "index" := ⟨by decide, by decide, by decide, by decide⟩
section
variable {X : Cx} {E : XK} {e : Expr} {p pos kp : Pos} {x g : Str} {m : M R} {k : Nat}
theorem d_globX (h : ∃ C, X.mg x = some (.ref C)) (hg : Gl X x) (hd : (x == ("__debug__" : Str)) = false := by decide) : DE X E (.Name x pos) (mC (.glob x)) := by
  obtain ⟨C, hm⟩ := h
  exact d_glob hg hm hd
theorem d_excX (h : ClsI X.prog X.K X.mg x g) (G : Gn g) (bd : Bd X (k + 1) E) (hms : X.mg "super" = none) (hg : Gl X x) (he : DE X E e m)
    (hdb : (x == ("__debug__" : Str)) = false := by decide) (hs : starEach [e] X.env = (false, eval e X.env) :: starEach [] X.env := by rfl) (hpl : (backTo pos (starEach [] X.env)).any (·.1) = false := by rfl) :
    DE X E (.Call (.Name x p) [e] [] pos) (mExc x g m) := by
  obtain ⟨C, fI, cc, cda, hm, T⟩ := h
  exact d_exc T G bd hms hg hm he hdb hs hpl
theorem d_exckX (h : ClsI X.prog X.K X.mg x g) (G : Gn g) (bd : Bd X (k + 1) E) (hms : X.mg "super" = none) (hg : Gl X x) (he : DE X E e m)
    (hall : (backToKw pos (keywordEach [⟨some g, e, kp⟩] X.env)).all (·.1.isSome) = true := by rfl) (hks : (backToKw pos (keywordEach [⟨some g, e, kp⟩] X.env)).filterMap (·.1) = [g] := by rfl)
    (hdb : (x == ("__debug__" : Str)) = false := by decide) (hpl : ((backTo pos (starEach [] X.env)).any (·.1) || (backToKw pos (keywordEach [⟨some g, e, kp⟩] X.env)).any (·.1.isNone)) = false := by rfl) :
    DE X E (.Call (.Name x p) [] [⟨some g, e, kp⟩] pos) (mExc x g m) := by
  obtain ⟨C, fI, cc, cda, hm, T⟩ := h
  exact d_exck T G bd hms hg hm he hall hks hdb hpl
theorem d_exc0X (h : ClsZ X.K X.mg x) (hg : Gl X x) (hdb : (x == ("__debug__" : Str)) = false := by decide) : DE X E (.Call (.Name x p) [] [] pos) (mExc0 x) := by
  obtain ⟨C, hm, q, kC⟩ := h
  exact d_exc0 PySem.F.excBase_ValueError q kC hg hm hdb
theorem d_fx {f : Str} (hx : ∀ c ∈ names, ∀ C, X.mg c = some (.ref C) → ExR X.K C ∧ PySem.W.findIn X.K (.ref C) f = some none) (he : DE X E e m) (hb : attributeBase e f X.env (eval e X.env) = eval e X.env) : DE X E (.Attribute e f pos) (mUn (gFx names f) m) := PE.weak (pe_xfld he hb) (t_un (us_fx hx))
end
section
variable {P : Program} {w : World} {K : PySem.W.Frag} {mg : Str → Option Value} {base : Heap}

/-- _law_well: slots script, lap, stirred, cell, own -/
def m_law_well : M Fl := (mSeq (mSet 2 (mOp gPlus (mC (.int 16983)) (mOp gMul (mC (.int 5231)) (mN 1))))
  (mSeq (mFor (mItems (mSl (mN 0) none (some (mC (.int 9))))) (gN 3) (mSet 2 (mOp gMod (mCall gInt [(mOp gPlus (mOp gPlus (mOp gMul (mN 2) (mC (.int 47521))) (mOp gMod (mCall gInt [(mN 3)]) (mC (.int 2147483549)))) (mC (.int 41)))]) (mC (.int 2147483629)))))
  (mSeq (mSet 4 (mIf (mTC gLess (mN 1) (mCall gLen [(mN 0)])) (mCall gInt [(mOp gIdx (mN 0) (mN 1))]) (mC (.int 0))))
  (mSeq (mSet 2 (mOp gMod (mCall gInt [(mOp gPlus (mOp gPlus (mOp gMul (mN 2) (mC (.int 61))) (mOp gMul (mOp gMod (mCall gInt [(mN 4)]) (mC (.int 2147483549))) (mC (.int 16007)))) (mC (.int 17)))]) (mC (.int 2147483629))))
  (mRet (mLst [(mIf (mOr (mTC gLess (mN 4) (mC (.int 0))) (mTC gGe (mN 4) (mOp gPow (mC (.int 10)) (mC (.int 15))))) (mCall gAbs [(mN 4)]) (mC (.int 0))), (mN 2), (mC (.int 0))]))))))
def f_law_well : Fs := ⟨[.fz, .fz], runB [.fz, .fz] 3 m_law_well⟩
theorem sc_law_well : FnScope ["script", "lap", "stirred", "cell", "own"] ["script", "lap"] (defScope (top 45)) := ⟨rfl, rfl, rfl, by decide +kernel, rfl, by decide +kernel, by decide +kernel⟩
theorem gf_law_well (T : Txt P K mg) {f : Addr} {fd : FuncData} (F : Fun K "_law_well" "_law_well" (top 45) f fd)  : FnG P w K mg base 1 f fd ["script", "lap"] (spOf K mg 2 f_law_well) := by
  have sc := sc_law_well
  exact fn_data (m := m_law_well) F sc rfl 3 rfl (fun _ _ _ h => h) (fun cdv A outer s H E bd =>
    (db_cons (ds_set (i := 2) sc.nd rfl (Or.inl rfl) (d_plus dc_int (d_mul dc_int (dn (pv 1)))))
    (db_cons (ds_for bd.own bd.calm (di_seq (d_sl (dn (pv 0)) dp_none (dp_some dc_int))) (dg_name sc.nd rfl (Or.inl rfl)) (db_one (ds_set (i := 2) sc.nd rfl (Or.inl rfl) (d_mod (d_cty call_int1 cs_int rfl (T.nb "int" (by decide +kernel)) (by first | rfl | decide +kernel) (da_cons (d_plus (d_plus (d_mul (dn (pv 2)) dc_int) (d_mod (d_cty call_int1 cs_int rfl (T.nb "int" (by decide +kernel)) (by first | rfl | decide +kernel) (da_cons (dn (pv 3)) da_nil)) dc_int)) dc_int) da_nil)) dc_int))))
    (db_cons (ds_set (i := 4) sc.nd rfl (Or.inl rfl) (d_ifExp (dt_lt (dn (pv 1)) (d_cb call_len cs_len rfl (T.nb "len" (by decide +kernel)) (by first | rfl | decide +kernel) (da_cons (dn (pv 0)) da_nil))) (d_cty call_int1 cs_int rfl (T.nb "int" (by decide +kernel)) (by first | rfl | decide +kernel) (da_cons (d_ix (dn (pv 0)) (dn (pv 1)) (fun _ _ => rfl)) da_nil)) dc_int))
    (db_cons (ds_set (i := 2) sc.nd rfl (Or.inl rfl) (d_mod (d_cty call_int1 cs_int rfl (T.nb "int" (by decide +kernel)) (by first | rfl | decide +kernel) (da_cons (d_plus (d_plus (d_mul (dn (pv 2)) dc_int) (d_mul (d_mod (d_cty call_int1 cs_int rfl (T.nb "int" (by decide +kernel)) (by first | rfl | decide +kernel) (da_cons (dn (pv 4)) da_nil)) dc_int) dc_int)) dc_int) da_nil)) dc_int))
    (db_one (ds_ret (d_lst (da_cons (d_ifExp (dt_w (dw_or (dt_lt (dn (pv 4)) dc_int) (dw_or1 (dt_ge (dn (pv 4)) (d_pow dc_int dc_int))))) (d_cb call_abs cs_abs rfl (T.nb "abs" (by decide +kernel)) (by first | rfl | decide +kernel) (da_cons (dn (pv 4)) da_nil)) dc_int) (da_cons (dn (pv 2)) (da_cons dc_int da_nil)))))))))))
theorem df_law_well (T : Txt P K mg) (F : FnI K mg "_law_well" ["script", "lap"] (top 45))  : Df P w K mg base 1 2 "_law_well" f_law_well := by
  obtain ⟨f, fd, F, hm, hk, hb⟩ := F
  exact ⟨⟨f, fd, ["script", "lap"], rfl, gf_law_well T F , hm, hk, hb⟩, rfl⟩

/-- _law_draw: slots well, limit, figure, mixed -/
def m_law_draw : M Fl := (mSeq (mIfS (mTC gGt (mOp gIdx (mN 0) (mC (.int 0))) (mC (.int 0))) (mSeq (mAsg (mCall gDivmod [(mOp gIdx (mN 0) (mC (.int 0))), (mN 1)]) (gT 2 (gCons' (gIx 0 (mC (.int 0))) (gCons' (gN 2) gNil'))))
  (mRet (mN 2))) (M.pure .nx))
  (mSeq (mAsg (mOp gPlus (mOp gIdx (mN 0) (mC (.int 2))) (mC (.int 1))) (gIx 0 (mC (.int 2))))
  (mSeq (mSet 3 (mOp gMod (mCall gInt [(mOp gPlus (mOp gMul (mOp gIdx (mN 0) (mC (.int 1))) (mC (.int 40009))) (mOp gMul (mC (.int 15013)) (mOp gIdx (mN 0) (mC (.int 2)))))]) (mC (.int 2147483629))))
  (mSeq (mAsg (mOp gMod (mCall gInt [(mOp gPlus (mOp gMul (mN 3) (mOp gPlus (mOp gMod (mCall gInt [(mN 3)]) (mC (.int 5003))) (mC (.int 20011)))) (mOp gIdx (mN 0) (mC (.int 2))))]) (mC (.int 2147483629))) (gIx 0 (mC (.int 1))))
  (mRet (mOp gMod (mCall gInt [(mOp gDiv (mOp gIdx (mN 0) (mC (.int 1))) (mC (.int 1031)))]) (mN 1)))))))
def f_law_draw : Fs := ⟨[.io, .fz], runB [.io, .fz] 2 m_law_draw⟩
theorem sc_law_draw : FnScope ["well", "limit", "figure", "mixed"] ["well", "limit"] (defScope (top 46)) := ⟨rfl, rfl, rfl, by decide +kernel, rfl, by decide +kernel, by decide +kernel⟩
theorem gf_law_draw (T : Txt P K mg) {f : Addr} {fd : FuncData} (F : Fun K "_law_draw" "_law_draw" (top 46) f fd)  : FnG P w K mg base 1 f fd ["well", "limit"] (spOf K mg 2 f_law_draw) := by
  have sc := sc_law_draw
  exact fn_data (m := m_law_draw) F sc rfl 2 rfl (fun _ _ _ h => h) (fun cdv A outer s H E bd =>
    (db_cons (ds_if (dt_gt (d_ix (dn (pv 0)) dc_int (fun _ _ => rfl)) dc_int) (db_cons (ds_asg (d_cb call_divmod cs_divmod rfl (T.nb "divmod" (by decide +kernel)) (by first | rfl | decide +kernel) (da_cons (d_ix (dn (pv 0)) dc_int (fun _ _ => rfl)) (da_cons (dn (pv 1)) da_nil))) (dg_tup bd.calm (dgs_cons (dg_ix (pv 0) dc_int) (dgs_cons (dg_name sc.nd rfl (Or.inl rfl)) dgs_nil))))
    (db_one (ds_ret (dn (pv 2))))) db_nil)
    (db_cons (ds_asg (d_plus (d_ix (dn (pv 0)) dc_int (fun _ _ => rfl)) dc_int) (dg_ix (pv 0) dc_int))
    (db_cons (ds_set (i := 3) sc.nd rfl (Or.inl rfl) (d_mod (d_cty call_int1 cs_int rfl (T.nb "int" (by decide +kernel)) (by first | rfl | decide +kernel) (da_cons (d_plus (d_mul (d_ix (dn (pv 0)) dc_int (fun _ _ => rfl)) dc_int) (d_mul dc_int (d_ix (dn (pv 0)) dc_int (fun _ _ => rfl)))) da_nil)) dc_int))
    (db_cons (ds_asg (d_mod (d_cty call_int1 cs_int rfl (T.nb "int" (by decide +kernel)) (by first | rfl | decide +kernel) (da_cons (d_plus (d_mul (dn (pv 3)) (d_plus (d_mod (d_cty call_int1 cs_int rfl (T.nb "int" (by decide +kernel)) (by first | rfl | decide +kernel) (da_cons (dn (pv 3)) da_nil)) dc_int) dc_int)) (d_ix (dn (pv 0)) dc_int (fun _ _ => rfl))) da_nil)) dc_int) (dg_ix (pv 0) dc_int))
    (db_one (ds_ret (d_mod (d_cty call_int1 cs_int rfl (T.nb "int" (by decide +kernel)) (by first | rfl | decide +kernel) (da_cons (d_div (d_ix (dn (pv 0)) dc_int (fun _ _ => rfl)) dc_int) da_nil)) (dn (pv 1))))))))))
theorem df_law_draw (T : Txt P K mg) (F : FnI K mg "_law_draw" ["well", "limit"] (top 46))  : Df P w K mg base 1 2 "_law_draw" f_law_draw := by
  obtain ⟨f, fd, F, hm, hk, hb⟩ := F
  exact ⟨⟨f, fd, ["well", "limit"], rfl, gf_law_draw T F , hm, hk, hb⟩, rfl⟩

/-- _law_of: slots well, some -/
def n_law_of (f_law_draw : Fs) : M Fl := (mRet (mOp gIdx (mN 1) (mFn f_law_draw [(mN 0), (mCall gLen [(mN 1)])])))
def m_law_of : M Fl := n_law_of f_law_draw
def f_law_of : Fs := ⟨[.io, .fz], runB [.io, .fz] 0 m_law_of⟩
theorem sc_law_of : FnScope ["well", "some"] ["well", "some"] (defScope (top 47)) := ⟨rfl, rfl, rfl, by decide +kernel, rfl, by decide +kernel, by decide +kernel⟩
theorem gf_law_of (T : Txt P K mg) {f : Addr} {fd : FuncData} (F : Fun K "_law_of" "_law_of" (top 47) f fd) (D_law_draw : Df P w K mg base 1 2 "_law_draw" f_law_draw) : FnG P w K mg base 2 f fd ["well", "some"] (spOf K mg 2 f_law_of) := by
  have sc := sc_law_of
  exact fn_data (m := m_law_of) F sc rfl 0 rfl (fun _ _ _ h => h) (fun cdv A outer s H E bd =>
    (db_one (ds_ret (d_ix (dn (pv 1)) (d_fn D_law_draw (bd.mono (by decide : 1 ≤ 1)) rfl (da_cons (dn (pv 0)) (da_cons (d_cb call_len cs_len rfl (T.nb "len" (by decide +kernel)) (by first | rfl | decide +kernel) (da_cons (dn (pv 1)) da_nil)) da_nil))) (fun _ _ => rfl)))))
theorem df_law_of (T : Txt P K mg) (F : FnI K mg "_law_of" ["well", "some"] (top 47)) (D_law_draw : Df P w K mg base 1 2 "_law_draw" f_law_draw) : Df P w K mg base 2 2 "_law_of" f_law_of := by
  obtain ⟨f, fd, F, hm, hk, hb⟩ := F
  exact ⟨⟨f, fd, ["well", "some"], rfl, gf_law_of T F D_law_draw, hm, hk, hb⟩, rfl⟩

/-- _law_is: slots told, due -/
def m_law_is : M Fl := (mRet (mOp gEq (mCall gRepr [(mN 0)]) (mCall gRepr [(mN 1)])))
def f_law_is : Fs := ⟨[.fz, .fz], runB [.fz, .fz] 0 m_law_is⟩
theorem sc_law_is : FnScope ["told", "due"] ["told", "due"] (defScope (top 48)) := ⟨rfl, rfl, rfl, by decide +kernel, rfl, by decide +kernel, by decide +kernel⟩
theorem gf_law_is (T : Txt P K mg) {f : Addr} {fd : FuncData} (F : Fun K "_law_is" "_law_is" (top 48) f fd)  : FnG P w K mg base 1 f fd ["told", "due"] (spOf K mg 2 f_law_is) := by
  have sc := sc_law_is
  exact fn_data (m := m_law_is) F sc rfl 0 rfl (fun _ _ _ h => h) (fun cdv A outer s H E bd =>
    (db_one (ds_ret (dv_eq (d_repr bd rfl (T.nb "repr" (by decide +kernel)) (dn (pv 0))) (d_repr bd rfl (T.nb "repr" (by decide +kernel)) (dn (pv 1)))))))
theorem df_law_is (T : Txt P K mg) (F : FnI K mg "_law_is" ["told", "due"] (top 48))  : Df P w K mg base 1 2 "_law_is" f_law_is := by
  obtain ⟨f, fd, F, hm, hk, hb⟩ := F
  exact ⟨⟨f, fd, ["told", "due"], rfl, gf_law_is T F , hm, hk, hb⟩, rfl⟩

/-- _law_given: slots  -/
def m_law_given : M Fl := (mRet (mLst [(mC (.str "InvalidNumber")), (mC (.str "InvalidStuff")), (mC (.str "InvalidPlace")), (mC (.str "InvalidRoad")), (mC (.str "InvalidBounds")), (mC (.str "InvalidCourse")), (mC (.str "InvalidLine")), (mC (.str "NotAKitchen")), (mC (.str "NotAPlan")), (mC (.str "NotARecord")), (mC (.str "NotASheet")), (mC (.str "NotADesk")), (mC (.str "UnknownRecipe")), (mC (.str "UnknownStock")), (mC (.str "UnknownPromise")), (mC (.str "UnknownOrder")), (mC (.str "UnknownUse")), (mC (.str "UnknownLot")), (mC (.str "Unfit")), (mC (.str "OverBounds")), (mC (.str "TooLarge"))]))
def f_law_given : Fs := ⟨[], runB [] 0 m_law_given⟩
theorem sc_law_given : FnScope [] [] (defScope (top 49)) := ⟨rfl, rfl, rfl, by decide +kernel, rfl, by decide +kernel, by decide +kernel⟩
theorem gf_law_given (T : Txt P K mg) {f : Addr} {fd : FuncData} (F : Fun K "_law_given" "_law_given" (top 49) f fd)  : FnG P w K mg base 1 f fd [] (spOf K mg 0 f_law_given) := by
  have sc := sc_law_given
  exact fn_data (m := m_law_given) F sc rfl 0 rfl (fun _ _ _ h => h) (fun cdv A outer s H E bd =>
    (db_one (ds_ret (d_lst (da_cons dc_str (da_cons dc_str (da_cons dc_str (da_cons dc_str (da_cons dc_str (da_cons dc_str (da_cons dc_str (da_cons dc_str (da_cons dc_str (da_cons dc_str (da_cons dc_str (da_cons dc_str (da_cons dc_str (da_cons dc_str (da_cons dc_str (da_cons dc_str (da_cons dc_str (da_cons dc_str (da_cons dc_str (da_cons dc_str (da_cons dc_str da_nil)))))))))))))))))))))))))
theorem df_law_given (T : Txt P K mg) (F : FnI K mg "_law_given" [] (top 49))  : Df P w K mg base 1 0 "_law_given" f_law_given := by
  obtain ⟨f, fd, F, hm, hk, hb⟩ := F
  exact ⟨⟨f, fd, [], rfl, gf_law_given T F , hm, hk, hb⟩, rfl⟩

/-- _law_index: slots  -/
def m_law_index : M Fl := (mRet (mLst [(mC (.str "InvalidGoods")), (mC (.str "InvalidRecipes")), (mC (.str "InvalidClasses")), (mC (.str "InvalidTools")), (mC (.str "InvalidCooks")), (mC (.str "InvalidDeeds")), (mC (.str "InvalidWashings")), (mC (.str "InvalidHands")), (mC (.str "InvalidPromises")), (mC (.str "InvalidLines")), (mC (.str "InvalidLots")), (mC (.str "InvalidTicks")), (mC (.str "InvalidUses")), (mC (.str "InvalidCounts")), (mC (.str "InvalidParts")), (mC (.str "InvalidStarts")), (mC (.str "InvalidBars")), (mC (.str "InvalidText"))]))
def f_law_index : Fs := ⟨[], runB [] 0 m_law_index⟩
theorem sc_law_index : FnScope [] [] (defScope (top 50)) := ⟨rfl, rfl, rfl, by decide +kernel, rfl, by decide +kernel, by decide +kernel⟩
theorem gf_law_index (T : Txt P K mg) {f : Addr} {fd : FuncData} (F : Fun K "_law_index" "_law_index" (top 50) f fd)  : FnG P w K mg base 1 f fd [] (spOf K mg 0 f_law_index) := by
  have sc := sc_law_index
  exact fn_data (m := m_law_index) F sc rfl 0 rfl (fun _ _ _ h => h) (fun cdv A outer s H E bd =>
    (db_one (ds_ret (d_lst (da_cons dc_str (da_cons dc_str (da_cons dc_str (da_cons dc_str (da_cons dc_str (da_cons dc_str (da_cons dc_str (da_cons dc_str (da_cons dc_str (da_cons dc_str (da_cons dc_str (da_cons dc_str (da_cons dc_str (da_cons dc_str (da_cons dc_str (da_cons dc_str (da_cons dc_str (da_cons dc_str da_nil))))))))))))))))))))))
theorem df_law_index (T : Txt P K mg) (F : FnI K mg "_law_index" [] (top 50))  : Df P w K mg base 1 0 "_law_index" f_law_index := by
  obtain ⟨f, fd, F, hm, hk, hb⟩ := F
  exact ⟨⟨f, fd, [], rfl, gf_law_index T F , hm, hk, hb⟩, rfl⟩

/-- _law_value: slots well, some -/
def n_law_value (f_law_of : Fs) : M Fl := (mSeq (mSet 1 (mTup [(mC .non), (mC (.bl true)), (mC (.bl false)), (mC (.int 0)), (mUn gNeg (mC (.int 1))), (mC (.int 7)), (mOp gPow (mC (.int 10)) (mC (.int 50))), (mC (.str "")), (mC (.str "egg")), (mC (.str " ")), (mTup []), (mTup [(mC (.int 1)), (mTup [(mC (.str "a"))])]), (mLst []), (M.pure (.val (.dic []))), (mLst [(mC (.str "x"))]), (M.pure (.val (.dic [(.inr "a", .int 1)])))]))
  (mRet (mFn f_law_of [(mN 0), (mOp gPlus (mN 1) (mTup [(mTup [(mC .non), (mC (.bl true))])]))])))
def m_law_value : M Fl := n_law_value f_law_of
def f_law_value : Fs := ⟨[.io], runB [.io] 1 m_law_value⟩
theorem sc_law_value : FnScope ["well", "some"] ["well"] (defScope (top 51)) := ⟨rfl, rfl, rfl, by decide +kernel, rfl, by decide +kernel, by decide +kernel⟩
theorem gf_law_value (T : Txt P K mg) {f : Addr} {fd : FuncData} (F : Fun K "_law_value" "_law_value" (top 51) f fd) (D_law_of : Df P w K mg base 2 2 "_law_of" f_law_of) : FnG P w K mg base 3 f fd ["well"] (spOf K mg 1 f_law_value) := by
  have sc := sc_law_value
  exact fn_data (m := m_law_value) F sc rfl 1 rfl (fun _ _ _ h => h) (fun cdv A outer s H E bd =>
    (db_cons (ds_set (i := 1) sc.nd rfl (Or.inl rfl) (d_tup (da_cons dc_non (da_cons dc_bl (da_cons dc_bl (da_cons dc_int (da_cons (d_neg dc_int) (da_cons dc_int (da_cons (d_pow dc_int dc_int) (da_cons dc_str (da_cons dc_str (da_cons dc_str (da_cons (d_tup da_nil) (da_cons (d_tup (da_cons dc_int (da_cons (d_tup (da_cons dc_str da_nil)) da_nil))) (da_cons (d_lst da_nil) (da_cons d_dic0 (da_cons (d_lst (da_cons dc_str da_nil)) (da_cons d_dic1 da_nil))))))))))))))))))
    (db_one (ds_ret (d_fn D_law_of (bd.mono (by decide : 2 ≤ 2)) rfl (da_cons (dn (pv 0)) (da_cons (d_plus (dn (pv 1)) (d_tup (da_cons (d_tup (da_cons dc_non (da_cons dc_bl da_nil))) da_nil))) da_nil)))))))
theorem df_law_value (T : Txt P K mg) (F : FnI K mg "_law_value" ["well"] (top 51)) (D_law_of : Df P w K mg base 2 2 "_law_of" f_law_of) : Df P w K mg base 3 1 "_law_value" f_law_value := by
  obtain ⟨f, fd, F, hm, hk, hb⟩ := F
  exact ⟨⟨f, fd, ["well"], rfl, gf_law_value T F D_law_of, hm, hk, hb⟩, rfl⟩

/-- _law_made_a: slots word, value, is_named -/
def m_law_made_a : M Fl := (mSeq (mIfS (mTC gEq (mN 0) (mC (.str "InvalidNumber"))) (mRet (mIf (mT (mN 2)) (mExc "InvalidNumber" "given" (mN 1)) (mExc "InvalidNumber" "given" (mN 1)))) (M.pure .nx))
  (mSeq (mIfS (mTC gEq (mN 0) (mC (.str "InvalidStuff"))) (mRet (mIf (mT (mN 2)) (mExc "InvalidStuff" "given" (mN 1)) (mExc "InvalidStuff" "given" (mN 1)))) (M.pure .nx))
  (mSeq (mIfS (mTC gEq (mN 0) (mC (.str "InvalidPlace"))) (mRet (mIf (mT (mN 2)) (mExc "InvalidPlace" "given" (mN 1)) (mExc "InvalidPlace" "given" (mN 1)))) (M.pure .nx))
  (mSeq (mIfS (mTC gEq (mN 0) (mC (.str "InvalidRoad"))) (mRet (mIf (mT (mN 2)) (mExc "InvalidRoad" "given" (mN 1)) (mExc "InvalidRoad" "given" (mN 1)))) (M.pure .nx))
  (mSeq (mIfS (mTC gEq (mN 0) (mC (.str "InvalidBounds"))) (mRet (mIf (mT (mN 2)) (mExc "InvalidBounds" "given" (mN 1)) (mExc "InvalidBounds" "given" (mN 1)))) (M.pure .nx))
  (mSeq (mIfS (mTC gEq (mN 0) (mC (.str "InvalidCourse"))) (mRet (mIf (mT (mN 2)) (mExc "InvalidCourse" "given" (mN 1)) (mExc "InvalidCourse" "given" (mN 1)))) (M.pure .nx))
  (mSeq (mIfS (mTC gEq (mN 0) (mC (.str "InvalidLine"))) (mRet (mIf (mT (mN 2)) (mExc "InvalidLine" "given" (mN 1)) (mExc "InvalidLine" "given" (mN 1)))) (M.pure .nx))
  (mSeq (mIfS (mTC gEq (mN 0) (mC (.str "NotAKitchen"))) (mRet (mIf (mT (mN 2)) (mExc "NotAKitchen" "given" (mN 1)) (mExc "NotAKitchen" "given" (mN 1)))) (M.pure .nx))
  (mSeq (mIfS (mTC gEq (mN 0) (mC (.str "NotAPlan"))) (mRet (mIf (mT (mN 2)) (mExc "NotAPlan" "given" (mN 1)) (mExc "NotAPlan" "given" (mN 1)))) (M.pure .nx))
  (mSeq (mIfS (mTC gEq (mN 0) (mC (.str "NotARecord"))) (mRet (mIf (mT (mN 2)) (mExc "NotARecord" "given" (mN 1)) (mExc "NotARecord" "given" (mN 1)))) (M.pure .nx))
  (mSeq (mIfS (mTC gEq (mN 0) (mC (.str "NotASheet"))) (mRet (mIf (mT (mN 2)) (mExc "NotASheet" "given" (mN 1)) (mExc "NotASheet" "given" (mN 1)))) (M.pure .nx))
  (mSeq (mIfS (mTC gEq (mN 0) (mC (.str "NotADesk"))) (mRet (mIf (mT (mN 2)) (mExc "NotADesk" "given" (mN 1)) (mExc "NotADesk" "given" (mN 1)))) (M.pure .nx))
  (mSeq (mIfS (mTC gEq (mN 0) (mC (.str "UnknownRecipe"))) (mRet (mIf (mT (mN 2)) (mExc "UnknownRecipe" "given" (mN 1)) (mExc "UnknownRecipe" "given" (mN 1)))) (M.pure .nx))
  (mSeq (mIfS (mTC gEq (mN 0) (mC (.str "UnknownStock"))) (mRet (mIf (mT (mN 2)) (mExc "UnknownStock" "given" (mN 1)) (mExc "UnknownStock" "given" (mN 1)))) (M.pure .nx))
  (mRet (mC .non))))))))))))))))
def f_law_made_a : Fs := ⟨[.fz, .fz, .fz], runB [.fz, .fz, .fz] 0 m_law_made_a⟩
theorem sc_law_made_a : FnScope ["word", "value", "is_named"] ["word", "value", "is_named"] (defScope (top 52)) := ⟨rfl, rfl, rfl, by decide +kernel, rfl, by decide +kernel, by decide +kernel⟩
theorem gf_law_made_a (T : Txt P K mg) {f : Addr} {fd : FuncData} (F : Fun K "_law_made_a" "_law_made_a" (top 52) f fd)  : FnG P w K mg base 2 f fd ["word", "value", "is_named"] (spOf K mg 3 f_law_made_a) := by
  have sc := sc_law_made_a
  exact fn_data (m := m_law_made_a) F sc rfl 0 rfl (fun _ _ _ h => h) (fun cdv A outer s H E bd =>
    (db_cons (ds_if (dt_eq (dn (pv 0)) dc_str) (db_one (ds_ret (d_ifExp (d_val (dn (pv 2))) (d_exckX (T.ex "InvalidNumber" "given" (by decide +kernel)) gn_given (bd.mono (by decide : 0 + 1 ≤ 1)) (T.nb "super" (by decide +kernel)) rfl (dn (pv 1))) (d_excX (T.ex "InvalidNumber" "given" (by decide +kernel)) gn_given (bd.mono (by decide : 0 + 1 ≤ 1)) (T.nb "super" (by decide +kernel)) rfl (dn (pv 1)))))) db_nil)
    (db_cons (ds_if (dt_eq (dn (pv 0)) dc_str) (db_one (ds_ret (d_ifExp (d_val (dn (pv 2))) (d_exckX (T.ex "InvalidStuff" "given" (by decide +kernel)) gn_given (bd.mono (by decide : 0 + 1 ≤ 1)) (T.nb "super" (by decide +kernel)) rfl (dn (pv 1))) (d_excX (T.ex "InvalidStuff" "given" (by decide +kernel)) gn_given (bd.mono (by decide : 0 + 1 ≤ 1)) (T.nb "super" (by decide +kernel)) rfl (dn (pv 1)))))) db_nil)
    (db_cons (ds_if (dt_eq (dn (pv 0)) dc_str) (db_one (ds_ret (d_ifExp (d_val (dn (pv 2))) (d_exckX (T.ex "InvalidPlace" "given" (by decide +kernel)) gn_given (bd.mono (by decide : 0 + 1 ≤ 1)) (T.nb "super" (by decide +kernel)) rfl (dn (pv 1))) (d_excX (T.ex "InvalidPlace" "given" (by decide +kernel)) gn_given (bd.mono (by decide : 0 + 1 ≤ 1)) (T.nb "super" (by decide +kernel)) rfl (dn (pv 1)))))) db_nil)
    (db_cons (ds_if (dt_eq (dn (pv 0)) dc_str) (db_one (ds_ret (d_ifExp (d_val (dn (pv 2))) (d_exckX (T.ex "InvalidRoad" "given" (by decide +kernel)) gn_given (bd.mono (by decide : 0 + 1 ≤ 1)) (T.nb "super" (by decide +kernel)) rfl (dn (pv 1))) (d_excX (T.ex "InvalidRoad" "given" (by decide +kernel)) gn_given (bd.mono (by decide : 0 + 1 ≤ 1)) (T.nb "super" (by decide +kernel)) rfl (dn (pv 1)))))) db_nil)
    (db_cons (ds_if (dt_eq (dn (pv 0)) dc_str) (db_one (ds_ret (d_ifExp (d_val (dn (pv 2))) (d_exckX (T.ex "InvalidBounds" "given" (by decide +kernel)) gn_given (bd.mono (by decide : 0 + 1 ≤ 1)) (T.nb "super" (by decide +kernel)) rfl (dn (pv 1))) (d_excX (T.ex "InvalidBounds" "given" (by decide +kernel)) gn_given (bd.mono (by decide : 0 + 1 ≤ 1)) (T.nb "super" (by decide +kernel)) rfl (dn (pv 1)))))) db_nil)
    (db_cons (ds_if (dt_eq (dn (pv 0)) dc_str) (db_one (ds_ret (d_ifExp (d_val (dn (pv 2))) (d_exckX (T.ex "InvalidCourse" "given" (by decide +kernel)) gn_given (bd.mono (by decide : 0 + 1 ≤ 1)) (T.nb "super" (by decide +kernel)) rfl (dn (pv 1))) (d_excX (T.ex "InvalidCourse" "given" (by decide +kernel)) gn_given (bd.mono (by decide : 0 + 1 ≤ 1)) (T.nb "super" (by decide +kernel)) rfl (dn (pv 1)))))) db_nil)
    (db_cons (ds_if (dt_eq (dn (pv 0)) dc_str) (db_one (ds_ret (d_ifExp (d_val (dn (pv 2))) (d_exckX (T.ex "InvalidLine" "given" (by decide +kernel)) gn_given (bd.mono (by decide : 0 + 1 ≤ 1)) (T.nb "super" (by decide +kernel)) rfl (dn (pv 1))) (d_excX (T.ex "InvalidLine" "given" (by decide +kernel)) gn_given (bd.mono (by decide : 0 + 1 ≤ 1)) (T.nb "super" (by decide +kernel)) rfl (dn (pv 1)))))) db_nil)
    (db_cons (ds_if (dt_eq (dn (pv 0)) dc_str) (db_one (ds_ret (d_ifExp (d_val (dn (pv 2))) (d_exckX (T.ex "NotAKitchen" "given" (by decide +kernel)) gn_given (bd.mono (by decide : 0 + 1 ≤ 1)) (T.nb "super" (by decide +kernel)) rfl (dn (pv 1))) (d_excX (T.ex "NotAKitchen" "given" (by decide +kernel)) gn_given (bd.mono (by decide : 0 + 1 ≤ 1)) (T.nb "super" (by decide +kernel)) rfl (dn (pv 1)))))) db_nil)
    (db_cons (ds_if (dt_eq (dn (pv 0)) dc_str) (db_one (ds_ret (d_ifExp (d_val (dn (pv 2))) (d_exckX (T.ex "NotAPlan" "given" (by decide +kernel)) gn_given (bd.mono (by decide : 0 + 1 ≤ 1)) (T.nb "super" (by decide +kernel)) rfl (dn (pv 1))) (d_excX (T.ex "NotAPlan" "given" (by decide +kernel)) gn_given (bd.mono (by decide : 0 + 1 ≤ 1)) (T.nb "super" (by decide +kernel)) rfl (dn (pv 1)))))) db_nil)
    (db_cons (ds_if (dt_eq (dn (pv 0)) dc_str) (db_one (ds_ret (d_ifExp (d_val (dn (pv 2))) (d_exckX (T.ex "NotARecord" "given" (by decide +kernel)) gn_given (bd.mono (by decide : 0 + 1 ≤ 1)) (T.nb "super" (by decide +kernel)) rfl (dn (pv 1))) (d_excX (T.ex "NotARecord" "given" (by decide +kernel)) gn_given (bd.mono (by decide : 0 + 1 ≤ 1)) (T.nb "super" (by decide +kernel)) rfl (dn (pv 1)))))) db_nil)
    (db_cons (ds_if (dt_eq (dn (pv 0)) dc_str) (db_one (ds_ret (d_ifExp (d_val (dn (pv 2))) (d_exckX (T.ex "NotASheet" "given" (by decide +kernel)) gn_given (bd.mono (by decide : 0 + 1 ≤ 1)) (T.nb "super" (by decide +kernel)) rfl (dn (pv 1))) (d_excX (T.ex "NotASheet" "given" (by decide +kernel)) gn_given (bd.mono (by decide : 0 + 1 ≤ 1)) (T.nb "super" (by decide +kernel)) rfl (dn (pv 1)))))) db_nil)
    (db_cons (ds_if (dt_eq (dn (pv 0)) dc_str) (db_one (ds_ret (d_ifExp (d_val (dn (pv 2))) (d_exckX (T.ex "NotADesk" "given" (by decide +kernel)) gn_given (bd.mono (by decide : 0 + 1 ≤ 1)) (T.nb "super" (by decide +kernel)) rfl (dn (pv 1))) (d_excX (T.ex "NotADesk" "given" (by decide +kernel)) gn_given (bd.mono (by decide : 0 + 1 ≤ 1)) (T.nb "super" (by decide +kernel)) rfl (dn (pv 1)))))) db_nil)
    (db_cons (ds_if (dt_eq (dn (pv 0)) dc_str) (db_one (ds_ret (d_ifExp (d_val (dn (pv 2))) (d_exckX (T.ex "UnknownRecipe" "given" (by decide +kernel)) gn_given (bd.mono (by decide : 0 + 1 ≤ 1)) (T.nb "super" (by decide +kernel)) rfl (dn (pv 1))) (d_excX (T.ex "UnknownRecipe" "given" (by decide +kernel)) gn_given (bd.mono (by decide : 0 + 1 ≤ 1)) (T.nb "super" (by decide +kernel)) rfl (dn (pv 1)))))) db_nil)
    (db_cons (ds_if (dt_eq (dn (pv 0)) dc_str) (db_one (ds_ret (d_ifExp (d_val (dn (pv 2))) (d_exckX (T.ex "UnknownStock" "given" (by decide +kernel)) gn_given (bd.mono (by decide : 0 + 1 ≤ 1)) (T.nb "super" (by decide +kernel)) rfl (dn (pv 1))) (d_excX (T.ex "UnknownStock" "given" (by decide +kernel)) gn_given (bd.mono (by decide : 0 + 1 ≤ 1)) (T.nb "super" (by decide +kernel)) rfl (dn (pv 1)))))) db_nil)
    (db_one (ds_ret dc_non)))))))))))))))))
theorem df_law_made_a (T : Txt P K mg) (F : FnI K mg "_law_made_a" ["word", "value", "is_named"] (top 52))  : Df P w K mg base 2 3 "_law_made_a" f_law_made_a := by
  obtain ⟨f, fd, F, hm, hk, hb⟩ := F
  exact ⟨⟨f, fd, ["word", "value", "is_named"], rfl, gf_law_made_a T F , hm, hk, hb⟩, rfl⟩

/-- _law_made_b: slots word, value, is_named -/
def m_law_made_b : M Fl := (mSeq (mIfS (mTC gEq (mN 0) (mC (.str "UnknownPromise"))) (mRet (mIf (mT (mN 2)) (mExc "UnknownPromise" "given" (mN 1)) (mExc "UnknownPromise" "given" (mN 1)))) (M.pure .nx))
  (mSeq (mIfS (mTC gEq (mN 0) (mC (.str "UnknownOrder"))) (mRet (mIf (mT (mN 2)) (mExc "UnknownOrder" "given" (mN 1)) (mExc "UnknownOrder" "given" (mN 1)))) (M.pure .nx))
  (mSeq (mIfS (mTC gEq (mN 0) (mC (.str "UnknownUse"))) (mRet (mIf (mT (mN 2)) (mExc "UnknownUse" "given" (mN 1)) (mExc "UnknownUse" "given" (mN 1)))) (M.pure .nx))
  (mSeq (mIfS (mTC gEq (mN 0) (mC (.str "UnknownLot"))) (mRet (mIf (mT (mN 2)) (mExc "UnknownLot" "given" (mN 1)) (mExc "UnknownLot" "given" (mN 1)))) (M.pure .nx))
  (mSeq (mIfS (mTC gEq (mN 0) (mC (.str "Unfit"))) (mRet (mIf (mT (mN 2)) (mExc "Unfit" "given" (mN 1)) (mExc "Unfit" "given" (mN 1)))) (M.pure .nx))
  (mSeq (mIfS (mTC gEq (mN 0) (mC (.str "OverBounds"))) (mRet (mIf (mT (mN 2)) (mExc "OverBounds" "given" (mN 1)) (mExc "OverBounds" "given" (mN 1)))) (M.pure .nx))
  (mSeq (mIfS (mTC gEq (mN 0) (mC (.str "TooLarge"))) (mRet (mIf (mT (mN 2)) (mExc "TooLarge" "given" (mN 1)) (mExc "TooLarge" "given" (mN 1)))) (M.pure .nx))
  (mSeq (mIfS (mTC gEq (mN 0) (mC (.str "InvalidGoods"))) (mRet (mIf (mT (mN 2)) (mExc "InvalidGoods" "index" (mN 1)) (mExc "InvalidGoods" "index" (mN 1)))) (M.pure .nx))
  (mSeq (mIfS (mTC gEq (mN 0) (mC (.str "InvalidRecipes"))) (mRet (mIf (mT (mN 2)) (mExc "InvalidRecipes" "index" (mN 1)) (mExc "InvalidRecipes" "index" (mN 1)))) (M.pure .nx))
  (mSeq (mIfS (mTC gEq (mN 0) (mC (.str "InvalidClasses"))) (mRet (mIf (mT (mN 2)) (mExc "InvalidClasses" "index" (mN 1)) (mExc "InvalidClasses" "index" (mN 1)))) (M.pure .nx))
  (mSeq (mIfS (mTC gEq (mN 0) (mC (.str "InvalidTools"))) (mRet (mIf (mT (mN 2)) (mExc "InvalidTools" "index" (mN 1)) (mExc "InvalidTools" "index" (mN 1)))) (M.pure .nx))
  (mSeq (mIfS (mTC gEq (mN 0) (mC (.str "InvalidCooks"))) (mRet (mIf (mT (mN 2)) (mExc "InvalidCooks" "index" (mN 1)) (mExc "InvalidCooks" "index" (mN 1)))) (M.pure .nx))
  (mSeq (mIfS (mTC gEq (mN 0) (mC (.str "InvalidDeeds"))) (mRet (mIf (mT (mN 2)) (mExc "InvalidDeeds" "index" (mN 1)) (mExc "InvalidDeeds" "index" (mN 1)))) (M.pure .nx))
  (mSeq (mIfS (mTC gEq (mN 0) (mC (.str "InvalidWashings"))) (mRet (mIf (mT (mN 2)) (mExc "InvalidWashings" "index" (mN 1)) (mExc "InvalidWashings" "index" (mN 1)))) (M.pure .nx))
  (mRet (mC .non))))))))))))))))
def f_law_made_b : Fs := ⟨[.fz, .fz, .fz], runB [.fz, .fz, .fz] 0 m_law_made_b⟩
theorem sc_law_made_b : FnScope ["word", "value", "is_named"] ["word", "value", "is_named"] (defScope (top 53)) := ⟨rfl, rfl, rfl, by decide +kernel, rfl, by decide +kernel, by decide +kernel⟩
theorem gf_law_made_b (T : Txt P K mg) {f : Addr} {fd : FuncData} (F : Fun K "_law_made_b" "_law_made_b" (top 53) f fd)  : FnG P w K mg base 2 f fd ["word", "value", "is_named"] (spOf K mg 3 f_law_made_b) := by
  have sc := sc_law_made_b
  exact fn_data (m := m_law_made_b) F sc rfl 0 rfl (fun _ _ _ h => h) (fun cdv A outer s H E bd =>
    (db_cons (ds_if (dt_eq (dn (pv 0)) dc_str) (db_one (ds_ret (d_ifExp (d_val (dn (pv 2))) (d_exckX (T.ex "UnknownPromise" "given" (by decide +kernel)) gn_given (bd.mono (by decide : 0 + 1 ≤ 1)) (T.nb "super" (by decide +kernel)) rfl (dn (pv 1))) (d_excX (T.ex "UnknownPromise" "given" (by decide +kernel)) gn_given (bd.mono (by decide : 0 + 1 ≤ 1)) (T.nb "super" (by decide +kernel)) rfl (dn (pv 1)))))) db_nil)
    (db_cons (ds_if (dt_eq (dn (pv 0)) dc_str) (db_one (ds_ret (d_ifExp (d_val (dn (pv 2))) (d_exckX (T.ex "UnknownOrder" "given" (by decide +kernel)) gn_given (bd.mono (by decide : 0 + 1 ≤ 1)) (T.nb "super" (by decide +kernel)) rfl (dn (pv 1))) (d_excX (T.ex "UnknownOrder" "given" (by decide +kernel)) gn_given (bd.mono (by decide : 0 + 1 ≤ 1)) (T.nb "super" (by decide +kernel)) rfl (dn (pv 1)))))) db_nil)
    (db_cons (ds_if (dt_eq (dn (pv 0)) dc_str) (db_one (ds_ret (d_ifExp (d_val (dn (pv 2))) (d_exckX (T.ex "UnknownUse" "given" (by decide +kernel)) gn_given (bd.mono (by decide : 0 + 1 ≤ 1)) (T.nb "super" (by decide +kernel)) rfl (dn (pv 1))) (d_excX (T.ex "UnknownUse" "given" (by decide +kernel)) gn_given (bd.mono (by decide : 0 + 1 ≤ 1)) (T.nb "super" (by decide +kernel)) rfl (dn (pv 1)))))) db_nil)
    (db_cons (ds_if (dt_eq (dn (pv 0)) dc_str) (db_one (ds_ret (d_ifExp (d_val (dn (pv 2))) (d_exckX (T.ex "UnknownLot" "given" (by decide +kernel)) gn_given (bd.mono (by decide : 0 + 1 ≤ 1)) (T.nb "super" (by decide +kernel)) rfl (dn (pv 1))) (d_excX (T.ex "UnknownLot" "given" (by decide +kernel)) gn_given (bd.mono (by decide : 0 + 1 ≤ 1)) (T.nb "super" (by decide +kernel)) rfl (dn (pv 1)))))) db_nil)
    (db_cons (ds_if (dt_eq (dn (pv 0)) dc_str) (db_one (ds_ret (d_ifExp (d_val (dn (pv 2))) (d_exckX (T.ex "Unfit" "given" (by decide +kernel)) gn_given (bd.mono (by decide : 0 + 1 ≤ 1)) (T.nb "super" (by decide +kernel)) rfl (dn (pv 1))) (d_excX (T.ex "Unfit" "given" (by decide +kernel)) gn_given (bd.mono (by decide : 0 + 1 ≤ 1)) (T.nb "super" (by decide +kernel)) rfl (dn (pv 1)))))) db_nil)
    (db_cons (ds_if (dt_eq (dn (pv 0)) dc_str) (db_one (ds_ret (d_ifExp (d_val (dn (pv 2))) (d_exckX (T.ex "OverBounds" "given" (by decide +kernel)) gn_given (bd.mono (by decide : 0 + 1 ≤ 1)) (T.nb "super" (by decide +kernel)) rfl (dn (pv 1))) (d_excX (T.ex "OverBounds" "given" (by decide +kernel)) gn_given (bd.mono (by decide : 0 + 1 ≤ 1)) (T.nb "super" (by decide +kernel)) rfl (dn (pv 1)))))) db_nil)
    (db_cons (ds_if (dt_eq (dn (pv 0)) dc_str) (db_one (ds_ret (d_ifExp (d_val (dn (pv 2))) (d_exckX (T.ex "TooLarge" "given" (by decide +kernel)) gn_given (bd.mono (by decide : 0 + 1 ≤ 1)) (T.nb "super" (by decide +kernel)) rfl (dn (pv 1))) (d_excX (T.ex "TooLarge" "given" (by decide +kernel)) gn_given (bd.mono (by decide : 0 + 1 ≤ 1)) (T.nb "super" (by decide +kernel)) rfl (dn (pv 1)))))) db_nil)
    (db_cons (ds_if (dt_eq (dn (pv 0)) dc_str) (db_one (ds_ret (d_ifExp (d_val (dn (pv 2))) (d_exckX (T.ex "InvalidGoods" "index" (by decide +kernel)) gn_index (bd.mono (by decide : 0 + 1 ≤ 1)) (T.nb "super" (by decide +kernel)) rfl (dn (pv 1))) (d_excX (T.ex "InvalidGoods" "index" (by decide +kernel)) gn_index (bd.mono (by decide : 0 + 1 ≤ 1)) (T.nb "super" (by decide +kernel)) rfl (dn (pv 1)))))) db_nil)
    (db_cons (ds_if (dt_eq (dn (pv 0)) dc_str) (db_one (ds_ret (d_ifExp (d_val (dn (pv 2))) (d_exckX (T.ex "InvalidRecipes" "index" (by decide +kernel)) gn_index (bd.mono (by decide : 0 + 1 ≤ 1)) (T.nb "super" (by decide +kernel)) rfl (dn (pv 1))) (d_excX (T.ex "InvalidRecipes" "index" (by decide +kernel)) gn_index (bd.mono (by decide : 0 + 1 ≤ 1)) (T.nb "super" (by decide +kernel)) rfl (dn (pv 1)))))) db_nil)
    (db_cons (ds_if (dt_eq (dn (pv 0)) dc_str) (db_one (ds_ret (d_ifExp (d_val (dn (pv 2))) (d_exckX (T.ex "InvalidClasses" "index" (by decide +kernel)) gn_index (bd.mono (by decide : 0 + 1 ≤ 1)) (T.nb "super" (by decide +kernel)) rfl (dn (pv 1))) (d_excX (T.ex "InvalidClasses" "index" (by decide +kernel)) gn_index (bd.mono (by decide : 0 + 1 ≤ 1)) (T.nb "super" (by decide +kernel)) rfl (dn (pv 1)))))) db_nil)
    (db_cons (ds_if (dt_eq (dn (pv 0)) dc_str) (db_one (ds_ret (d_ifExp (d_val (dn (pv 2))) (d_exckX (T.ex "InvalidTools" "index" (by decide +kernel)) gn_index (bd.mono (by decide : 0 + 1 ≤ 1)) (T.nb "super" (by decide +kernel)) rfl (dn (pv 1))) (d_excX (T.ex "InvalidTools" "index" (by decide +kernel)) gn_index (bd.mono (by decide : 0 + 1 ≤ 1)) (T.nb "super" (by decide +kernel)) rfl (dn (pv 1)))))) db_nil)
    (db_cons (ds_if (dt_eq (dn (pv 0)) dc_str) (db_one (ds_ret (d_ifExp (d_val (dn (pv 2))) (d_exckX (T.ex "InvalidCooks" "index" (by decide +kernel)) gn_index (bd.mono (by decide : 0 + 1 ≤ 1)) (T.nb "super" (by decide +kernel)) rfl (dn (pv 1))) (d_excX (T.ex "InvalidCooks" "index" (by decide +kernel)) gn_index (bd.mono (by decide : 0 + 1 ≤ 1)) (T.nb "super" (by decide +kernel)) rfl (dn (pv 1)))))) db_nil)
    (db_cons (ds_if (dt_eq (dn (pv 0)) dc_str) (db_one (ds_ret (d_ifExp (d_val (dn (pv 2))) (d_exckX (T.ex "InvalidDeeds" "index" (by decide +kernel)) gn_index (bd.mono (by decide : 0 + 1 ≤ 1)) (T.nb "super" (by decide +kernel)) rfl (dn (pv 1))) (d_excX (T.ex "InvalidDeeds" "index" (by decide +kernel)) gn_index (bd.mono (by decide : 0 + 1 ≤ 1)) (T.nb "super" (by decide +kernel)) rfl (dn (pv 1)))))) db_nil)
    (db_cons (ds_if (dt_eq (dn (pv 0)) dc_str) (db_one (ds_ret (d_ifExp (d_val (dn (pv 2))) (d_exckX (T.ex "InvalidWashings" "index" (by decide +kernel)) gn_index (bd.mono (by decide : 0 + 1 ≤ 1)) (T.nb "super" (by decide +kernel)) rfl (dn (pv 1))) (d_excX (T.ex "InvalidWashings" "index" (by decide +kernel)) gn_index (bd.mono (by decide : 0 + 1 ≤ 1)) (T.nb "super" (by decide +kernel)) rfl (dn (pv 1)))))) db_nil)
    (db_one (ds_ret dc_non)))))))))))))))))
theorem df_law_made_b (T : Txt P K mg) (F : FnI K mg "_law_made_b" ["word", "value", "is_named"] (top 53))  : Df P w K mg base 2 3 "_law_made_b" f_law_made_b := by
  obtain ⟨f, fd, F, hm, hk, hb⟩ := F
  exact ⟨⟨f, fd, ["word", "value", "is_named"], rfl, gf_law_made_b T F , hm, hk, hb⟩, rfl⟩

/-- _law_made_c: slots word, value, is_named -/
def m_law_made_c : M Fl := (mSeq (mIfS (mTC gEq (mN 0) (mC (.str "InvalidHands"))) (mRet (mIf (mT (mN 2)) (mExc "InvalidHands" "index" (mN 1)) (mExc "InvalidHands" "index" (mN 1)))) (M.pure .nx))
  (mSeq (mIfS (mTC gEq (mN 0) (mC (.str "InvalidPromises"))) (mRet (mIf (mT (mN 2)) (mExc "InvalidPromises" "index" (mN 1)) (mExc "InvalidPromises" "index" (mN 1)))) (M.pure .nx))
  (mSeq (mIfS (mTC gEq (mN 0) (mC (.str "InvalidLines"))) (mRet (mIf (mT (mN 2)) (mExc "InvalidLines" "index" (mN 1)) (mExc "InvalidLines" "index" (mN 1)))) (M.pure .nx))
  (mSeq (mIfS (mTC gEq (mN 0) (mC (.str "InvalidLots"))) (mRet (mIf (mT (mN 2)) (mExc "InvalidLots" "index" (mN 1)) (mExc "InvalidLots" "index" (mN 1)))) (M.pure .nx))
  (mSeq (mIfS (mTC gEq (mN 0) (mC (.str "InvalidTicks"))) (mRet (mIf (mT (mN 2)) (mExc "InvalidTicks" "index" (mN 1)) (mExc "InvalidTicks" "index" (mN 1)))) (M.pure .nx))
  (mSeq (mIfS (mTC gEq (mN 0) (mC (.str "InvalidUses"))) (mRet (mIf (mT (mN 2)) (mExc "InvalidUses" "index" (mN 1)) (mExc "InvalidUses" "index" (mN 1)))) (M.pure .nx))
  (mSeq (mIfS (mTC gEq (mN 0) (mC (.str "InvalidCounts"))) (mRet (mIf (mT (mN 2)) (mExc "InvalidCounts" "index" (mN 1)) (mExc "InvalidCounts" "index" (mN 1)))) (M.pure .nx))
  (mSeq (mIfS (mTC gEq (mN 0) (mC (.str "InvalidParts"))) (mRet (mIf (mT (mN 2)) (mExc "InvalidParts" "index" (mN 1)) (mExc "InvalidParts" "index" (mN 1)))) (M.pure .nx))
  (mSeq (mIfS (mTC gEq (mN 0) (mC (.str "InvalidStarts"))) (mRet (mIf (mT (mN 2)) (mExc "InvalidStarts" "index" (mN 1)) (mExc "InvalidStarts" "index" (mN 1)))) (M.pure .nx))
  (mSeq (mIfS (mTC gEq (mN 0) (mC (.str "InvalidBars"))) (mRet (mIf (mT (mN 2)) (mExc "InvalidBars" "index" (mN 1)) (mExc "InvalidBars" "index" (mN 1)))) (M.pure .nx))
  (mSeq (mIfS (mTC gEq (mN 0) (mC (.str "InvalidText"))) (mRet (mIf (mT (mN 2)) (mExc "InvalidText" "index" (mN 1)) (mExc "InvalidText" "index" (mN 1)))) (M.pure .nx))
  (mRet (mC .non)))))))))))))
def f_law_made_c : Fs := ⟨[.fz, .fz, .fz], runB [.fz, .fz, .fz] 0 m_law_made_c⟩
theorem sc_law_made_c : FnScope ["word", "value", "is_named"] ["word", "value", "is_named"] (defScope (top 54)) := ⟨rfl, rfl, rfl, by decide +kernel, rfl, by decide +kernel, by decide +kernel⟩
theorem gf_law_made_c (T : Txt P K mg) {f : Addr} {fd : FuncData} (F : Fun K "_law_made_c" "_law_made_c" (top 54) f fd)  : FnG P w K mg base 2 f fd ["word", "value", "is_named"] (spOf K mg 3 f_law_made_c) := by
  have sc := sc_law_made_c
  exact fn_data (m := m_law_made_c) F sc rfl 0 rfl (fun _ _ _ h => h) (fun cdv A outer s H E bd =>
    (db_cons (ds_if (dt_eq (dn (pv 0)) dc_str) (db_one (ds_ret (d_ifExp (d_val (dn (pv 2))) (d_exckX (T.ex "InvalidHands" "index" (by decide +kernel)) gn_index (bd.mono (by decide : 0 + 1 ≤ 1)) (T.nb "super" (by decide +kernel)) rfl (dn (pv 1))) (d_excX (T.ex "InvalidHands" "index" (by decide +kernel)) gn_index (bd.mono (by decide : 0 + 1 ≤ 1)) (T.nb "super" (by decide +kernel)) rfl (dn (pv 1)))))) db_nil)
    (db_cons (ds_if (dt_eq (dn (pv 0)) dc_str) (db_one (ds_ret (d_ifExp (d_val (dn (pv 2))) (d_exckX (T.ex "InvalidPromises" "index" (by decide +kernel)) gn_index (bd.mono (by decide : 0 + 1 ≤ 1)) (T.nb "super" (by decide +kernel)) rfl (dn (pv 1))) (d_excX (T.ex "InvalidPromises" "index" (by decide +kernel)) gn_index (bd.mono (by decide : 0 + 1 ≤ 1)) (T.nb "super" (by decide +kernel)) rfl (dn (pv 1)))))) db_nil)
    (db_cons (ds_if (dt_eq (dn (pv 0)) dc_str) (db_one (ds_ret (d_ifExp (d_val (dn (pv 2))) (d_exckX (T.ex "InvalidLines" "index" (by decide +kernel)) gn_index (bd.mono (by decide : 0 + 1 ≤ 1)) (T.nb "super" (by decide +kernel)) rfl (dn (pv 1))) (d_excX (T.ex "InvalidLines" "index" (by decide +kernel)) gn_index (bd.mono (by decide : 0 + 1 ≤ 1)) (T.nb "super" (by decide +kernel)) rfl (dn (pv 1)))))) db_nil)
    (db_cons (ds_if (dt_eq (dn (pv 0)) dc_str) (db_one (ds_ret (d_ifExp (d_val (dn (pv 2))) (d_exckX (T.ex "InvalidLots" "index" (by decide +kernel)) gn_index (bd.mono (by decide : 0 + 1 ≤ 1)) (T.nb "super" (by decide +kernel)) rfl (dn (pv 1))) (d_excX (T.ex "InvalidLots" "index" (by decide +kernel)) gn_index (bd.mono (by decide : 0 + 1 ≤ 1)) (T.nb "super" (by decide +kernel)) rfl (dn (pv 1)))))) db_nil)
    (db_cons (ds_if (dt_eq (dn (pv 0)) dc_str) (db_one (ds_ret (d_ifExp (d_val (dn (pv 2))) (d_exckX (T.ex "InvalidTicks" "index" (by decide +kernel)) gn_index (bd.mono (by decide : 0 + 1 ≤ 1)) (T.nb "super" (by decide +kernel)) rfl (dn (pv 1))) (d_excX (T.ex "InvalidTicks" "index" (by decide +kernel)) gn_index (bd.mono (by decide : 0 + 1 ≤ 1)) (T.nb "super" (by decide +kernel)) rfl (dn (pv 1)))))) db_nil)
    (db_cons (ds_if (dt_eq (dn (pv 0)) dc_str) (db_one (ds_ret (d_ifExp (d_val (dn (pv 2))) (d_exckX (T.ex "InvalidUses" "index" (by decide +kernel)) gn_index (bd.mono (by decide : 0 + 1 ≤ 1)) (T.nb "super" (by decide +kernel)) rfl (dn (pv 1))) (d_excX (T.ex "InvalidUses" "index" (by decide +kernel)) gn_index (bd.mono (by decide : 0 + 1 ≤ 1)) (T.nb "super" (by decide +kernel)) rfl (dn (pv 1)))))) db_nil)
    (db_cons (ds_if (dt_eq (dn (pv 0)) dc_str) (db_one (ds_ret (d_ifExp (d_val (dn (pv 2))) (d_exckX (T.ex "InvalidCounts" "index" (by decide +kernel)) gn_index (bd.mono (by decide : 0 + 1 ≤ 1)) (T.nb "super" (by decide +kernel)) rfl (dn (pv 1))) (d_excX (T.ex "InvalidCounts" "index" (by decide +kernel)) gn_index (bd.mono (by decide : 0 + 1 ≤ 1)) (T.nb "super" (by decide +kernel)) rfl (dn (pv 1)))))) db_nil)
    (db_cons (ds_if (dt_eq (dn (pv 0)) dc_str) (db_one (ds_ret (d_ifExp (d_val (dn (pv 2))) (d_exckX (T.ex "InvalidParts" "index" (by decide +kernel)) gn_index (bd.mono (by decide : 0 + 1 ≤ 1)) (T.nb "super" (by decide +kernel)) rfl (dn (pv 1))) (d_excX (T.ex "InvalidParts" "index" (by decide +kernel)) gn_index (bd.mono (by decide : 0 + 1 ≤ 1)) (T.nb "super" (by decide +kernel)) rfl (dn (pv 1)))))) db_nil)
    (db_cons (ds_if (dt_eq (dn (pv 0)) dc_str) (db_one (ds_ret (d_ifExp (d_val (dn (pv 2))) (d_exckX (T.ex "InvalidStarts" "index" (by decide +kernel)) gn_index (bd.mono (by decide : 0 + 1 ≤ 1)) (T.nb "super" (by decide +kernel)) rfl (dn (pv 1))) (d_excX (T.ex "InvalidStarts" "index" (by decide +kernel)) gn_index (bd.mono (by decide : 0 + 1 ≤ 1)) (T.nb "super" (by decide +kernel)) rfl (dn (pv 1)))))) db_nil)
    (db_cons (ds_if (dt_eq (dn (pv 0)) dc_str) (db_one (ds_ret (d_ifExp (d_val (dn (pv 2))) (d_exckX (T.ex "InvalidBars" "index" (by decide +kernel)) gn_index (bd.mono (by decide : 0 + 1 ≤ 1)) (T.nb "super" (by decide +kernel)) rfl (dn (pv 1))) (d_excX (T.ex "InvalidBars" "index" (by decide +kernel)) gn_index (bd.mono (by decide : 0 + 1 ≤ 1)) (T.nb "super" (by decide +kernel)) rfl (dn (pv 1)))))) db_nil)
    (db_cons (ds_if (dt_eq (dn (pv 0)) dc_str) (db_one (ds_ret (d_ifExp (d_val (dn (pv 2))) (d_exckX (T.ex "InvalidText" "index" (by decide +kernel)) gn_index (bd.mono (by decide : 0 + 1 ≤ 1)) (T.nb "super" (by decide +kernel)) rfl (dn (pv 1))) (d_excX (T.ex "InvalidText" "index" (by decide +kernel)) gn_index (bd.mono (by decide : 0 + 1 ≤ 1)) (T.nb "super" (by decide +kernel)) rfl (dn (pv 1)))))) db_nil)
    (db_one (ds_ret dc_non))))))))))))))
theorem df_law_made_c (T : Txt P K mg) (F : FnI K mg "_law_made_c" ["word", "value", "is_named"] (top 54))  : Df P w K mg base 2 3 "_law_made_c" f_law_made_c := by
  obtain ⟨f, fd, F, hm, hk, hb⟩ := F
  exact ⟨⟨f, fd, ["word", "value", "is_named"], rfl, gf_law_made_c T F , hm, hk, hb⟩, rfl⟩

/-- _law_made: slots word, value, is_named, found -/
def n_law_made (f_law_made_a f_law_made_b f_law_made_c : Fs) : M Fl := (mSeq (mSet 3 (mFn f_law_made_a [(mN 0), (mN 1), (mN 2)]))
  (mSeq (mSet 3 (mIf (mTC gIsN (mN 3) (mC .non)) (mFn f_law_made_b [(mN 0), (mN 1), (mN 2)]) (mN 3)))
  (mSeq (mSet 3 (mIf (mTC gIsN (mN 3) (mC .non)) (mFn f_law_made_c [(mN 0), (mN 1), (mN 2)]) (mN 3)))
  (mRet (mN 3)))))
def m_law_made : M Fl := n_law_made f_law_made_a f_law_made_b f_law_made_c
def f_law_made : Fs := ⟨[.fz, .fz, .fz], runB [.fz, .fz, .fz] 1 m_law_made⟩
theorem sc_law_made : FnScope ["word", "value", "is_named", "found"] ["word", "value", "is_named"] (defScope (top 55)) := ⟨rfl, rfl, rfl, by decide +kernel, rfl, by decide +kernel, by decide +kernel⟩
theorem gf_law_made (T : Txt P K mg) {f : Addr} {fd : FuncData} (F : Fun K "_law_made" "_law_made" (top 55) f fd) (D_law_made_a : Df P w K mg base 2 3 "_law_made_a" f_law_made_a) (D_law_made_b : Df P w K mg base 2 3 "_law_made_b" f_law_made_b) (D_law_made_c : Df P w K mg base 2 3 "_law_made_c" f_law_made_c) : FnG P w K mg base 3 f fd ["word", "value", "is_named"] (spOf K mg 3 f_law_made) := by
  have sc := sc_law_made
  exact fn_data (m := m_law_made) F sc rfl 1 rfl (fun _ _ _ h => h) (fun cdv A outer s H E bd =>
    (db_cons (ds_set (i := 3) sc.nd rfl (Or.inl rfl) (d_fn D_law_made_a (bd.mono (by decide : 2 ≤ 2)) rfl (da_cons (dn (pv 0)) (da_cons (dn (pv 1)) (da_cons (dn (pv 2)) da_nil)))))
    (db_cons (ds_set (i := 3) sc.nd rfl (Or.inl rfl) (d_ifExp (dt_isN (dn (pv 3)) dc_non) (d_fn D_law_made_b (bd.mono (by decide : 2 ≤ 2)) rfl (da_cons (dn (pv 0)) (da_cons (dn (pv 1)) (da_cons (dn (pv 2)) da_nil)))) (dn (pv 3))))
    (db_cons (ds_set (i := 3) sc.nd rfl (Or.inl rfl) (d_ifExp (dt_isN (dn (pv 3)) dc_non) (d_fn D_law_made_c (bd.mono (by decide : 2 ≤ 2)) rfl (da_cons (dn (pv 0)) (da_cons (dn (pv 1)) (da_cons (dn (pv 2)) da_nil)))) (dn (pv 3))))
    (db_one (ds_ret (dn (pv 3))))))))
theorem df_law_made (T : Txt P K mg) (F : FnI K mg "_law_made" ["word", "value", "is_named"] (top 55)) (D_law_made_a : Df P w K mg base 2 3 "_law_made_a" f_law_made_a) (D_law_made_b : Df P w K mg base 2 3 "_law_made_b" f_law_made_b) (D_law_made_c : Df P w K mg base 2 3 "_law_made_c" f_law_made_c) : Df P w K mg base 3 3 "_law_made" f_law_made := by
  obtain ⟨f, fd, F, hm, hk, hb⟩ := F
  exact ⟨⟨f, fd, ["word", "value", "is_named"], rfl, gf_law_made T F D_law_made_a D_law_made_b D_law_made_c, hm, hk, hb⟩, rfl⟩

/-- _law_kinds_a: slots e, found -/
def m_law_kinds_a : M Fl := (mSeq (mSet 1 (mIf (mT (mCall (gIsX names tab) [(mN 0), (mC (.glob "InvalidNumber"))])) (mLst [(mC (.str "InvalidNumber"))]) (mLst [])))
  (mSeq (mSet 1 (mOp gPlus (mN 1) (mIf (mT (mCall (gIsX names tab) [(mN 0), (mC (.glob "InvalidStuff"))])) (mLst [(mC (.str "InvalidStuff"))]) (mLst []))))
  (mSeq (mSet 1 (mOp gPlus (mN 1) (mIf (mT (mCall (gIsX names tab) [(mN 0), (mC (.glob "InvalidPlace"))])) (mLst [(mC (.str "InvalidPlace"))]) (mLst []))))
  (mSeq (mSet 1 (mOp gPlus (mN 1) (mIf (mT (mCall (gIsX names tab) [(mN 0), (mC (.glob "InvalidRoad"))])) (mLst [(mC (.str "InvalidRoad"))]) (mLst []))))
  (mSeq (mSet 1 (mOp gPlus (mN 1) (mIf (mT (mCall (gIsX names tab) [(mN 0), (mC (.glob "InvalidBounds"))])) (mLst [(mC (.str "InvalidBounds"))]) (mLst []))))
  (mSeq (mSet 1 (mOp gPlus (mN 1) (mIf (mT (mCall (gIsX names tab) [(mN 0), (mC (.glob "InvalidCourse"))])) (mLst [(mC (.str "InvalidCourse"))]) (mLst []))))
  (mSeq (mSet 1 (mOp gPlus (mN 1) (mIf (mT (mCall (gIsX names tab) [(mN 0), (mC (.glob "InvalidLine"))])) (mLst [(mC (.str "InvalidLine"))]) (mLst []))))
  (mSeq (mSet 1 (mOp gPlus (mN 1) (mIf (mT (mCall (gIsX names tab) [(mN 0), (mC (.glob "NotAKitchen"))])) (mLst [(mC (.str "NotAKitchen"))]) (mLst []))))
  (mSeq (mSet 1 (mOp gPlus (mN 1) (mIf (mT (mCall (gIsX names tab) [(mN 0), (mC (.glob "NotAPlan"))])) (mLst [(mC (.str "NotAPlan"))]) (mLst []))))
  (mSeq (mSet 1 (mOp gPlus (mN 1) (mIf (mT (mCall (gIsX names tab) [(mN 0), (mC (.glob "NotARecord"))])) (mLst [(mC (.str "NotARecord"))]) (mLst []))))
  (mSeq (mSet 1 (mOp gPlus (mN 1) (mIf (mT (mCall (gIsX names tab) [(mN 0), (mC (.glob "NotASheet"))])) (mLst [(mC (.str "NotASheet"))]) (mLst []))))
  (mSeq (mSet 1 (mOp gPlus (mN 1) (mIf (mT (mCall (gIsX names tab) [(mN 0), (mC (.glob "NotADesk"))])) (mLst [(mC (.str "NotADesk"))]) (mLst []))))
  (mSeq (mSet 1 (mOp gPlus (mN 1) (mIf (mT (mCall (gIsX names tab) [(mN 0), (mC (.glob "UnknownRecipe"))])) (mLst [(mC (.str "UnknownRecipe"))]) (mLst []))))
  (mSeq (mSet 1 (mOp gPlus (mN 1) (mIf (mT (mCall (gIsX names tab) [(mN 0), (mC (.glob "UnknownStock"))])) (mLst [(mC (.str "UnknownStock"))]) (mLst []))))
  (mSeq (mSet 1 (mOp gPlus (mN 1) (mIf (mT (mCall (gIsX names tab) [(mN 0), (mC (.glob "UnknownPromise"))])) (mLst [(mC (.str "UnknownPromise"))]) (mLst []))))
  (mSeq (mSet 1 (mOp gPlus (mN 1) (mIf (mT (mCall (gIsX names tab) [(mN 0), (mC (.glob "UnknownOrder"))])) (mLst [(mC (.str "UnknownOrder"))]) (mLst []))))
  (mSeq (mSet 1 (mOp gPlus (mN 1) (mIf (mT (mCall (gIsX names tab) [(mN 0), (mC (.glob "UnknownUse"))])) (mLst [(mC (.str "UnknownUse"))]) (mLst []))))
  (mSeq (mSet 1 (mOp gPlus (mN 1) (mIf (mT (mCall (gIsX names tab) [(mN 0), (mC (.glob "UnknownLot"))])) (mLst [(mC (.str "UnknownLot"))]) (mLst []))))
  (mSeq (mSet 1 (mOp gPlus (mN 1) (mIf (mT (mCall (gIsX names tab) [(mN 0), (mC (.glob "Unfit"))])) (mLst [(mC (.str "Unfit"))]) (mLst []))))
  (mSeq (mSet 1 (mOp gPlus (mN 1) (mIf (mT (mCall (gIsX names tab) [(mN 0), (mC (.glob "OverBounds"))])) (mLst [(mC (.str "OverBounds"))]) (mLst []))))
  (mSeq (mSet 1 (mOp gPlus (mN 1) (mIf (mT (mCall (gIsX names tab) [(mN 0), (mC (.glob "TooLarge"))])) (mLst [(mC (.str "TooLarge"))]) (mLst []))))
  (mRet (mN 1)))))))))))))))))))))))
def f_law_kinds_a : Fs := ⟨[.fz], runB [.fz] 1 m_law_kinds_a⟩
theorem sc_law_kinds_a : FnScope ["e", "found"] ["e"] (defScope (top 56)) := ⟨rfl, rfl, rfl, by decide +kernel, rfl, by decide +kernel, by decide +kernel⟩
theorem gf_law_kinds_a (T : Txt P K mg) {f : Addr} {fd : FuncData} (F : Fun K "_law_kinds_a" "_law_kinds_a" (top 56) f fd)  : FnG P w K mg base 1 f fd ["e"] (spOf K mg 1 f_law_kinds_a) := by
  have sc := sc_law_kinds_a
  exact fn_data (m := m_law_kinds_a) F sc rfl 1 rfl (fun _ _ _ h => h) (fun cdv A outer s H E bd =>
    (db_cons (ds_set (i := 1) sc.nd rfl (Or.inl rfl) (d_ifExp (d_val (d_cb (cr_isX.or cr_isXT) (cs_isX T.tab) rfl (T.nb "isinstance" (by decide +kernel)) (by first | rfl | decide +kernel) (da_cons (dn (pv 0)) (da_cons (d_globX (T.gl "InvalidNumber" (by decide +kernel)) rfl) da_nil)))) (d_lst (da_cons dc_str da_nil)) (d_lst da_nil)))
    (db_cons (ds_set (i := 1) sc.nd rfl (Or.inl rfl) (d_plus (dn (pv 1)) (d_ifExp (d_val (d_cb (cr_isX.or cr_isXT) (cs_isX T.tab) rfl (T.nb "isinstance" (by decide +kernel)) (by first | rfl | decide +kernel) (da_cons (dn (pv 0)) (da_cons (d_globX (T.gl "InvalidStuff" (by decide +kernel)) rfl) da_nil)))) (d_lst (da_cons dc_str da_nil)) (d_lst da_nil))))
    (db_cons (ds_set (i := 1) sc.nd rfl (Or.inl rfl) (d_plus (dn (pv 1)) (d_ifExp (d_val (d_cb (cr_isX.or cr_isXT) (cs_isX T.tab) rfl (T.nb "isinstance" (by decide +kernel)) (by first | rfl | decide +kernel) (da_cons (dn (pv 0)) (da_cons (d_globX (T.gl "InvalidPlace" (by decide +kernel)) rfl) da_nil)))) (d_lst (da_cons dc_str da_nil)) (d_lst da_nil))))
    (db_cons (ds_set (i := 1) sc.nd rfl (Or.inl rfl) (d_plus (dn (pv 1)) (d_ifExp (d_val (d_cb (cr_isX.or cr_isXT) (cs_isX T.tab) rfl (T.nb "isinstance" (by decide +kernel)) (by first | rfl | decide +kernel) (da_cons (dn (pv 0)) (da_cons (d_globX (T.gl "InvalidRoad" (by decide +kernel)) rfl) da_nil)))) (d_lst (da_cons dc_str da_nil)) (d_lst da_nil))))
    (db_cons (ds_set (i := 1) sc.nd rfl (Or.inl rfl) (d_plus (dn (pv 1)) (d_ifExp (d_val (d_cb (cr_isX.or cr_isXT) (cs_isX T.tab) rfl (T.nb "isinstance" (by decide +kernel)) (by first | rfl | decide +kernel) (da_cons (dn (pv 0)) (da_cons (d_globX (T.gl "InvalidBounds" (by decide +kernel)) rfl) da_nil)))) (d_lst (da_cons dc_str da_nil)) (d_lst da_nil))))
    (db_cons (ds_set (i := 1) sc.nd rfl (Or.inl rfl) (d_plus (dn (pv 1)) (d_ifExp (d_val (d_cb (cr_isX.or cr_isXT) (cs_isX T.tab) rfl (T.nb "isinstance" (by decide +kernel)) (by first | rfl | decide +kernel) (da_cons (dn (pv 0)) (da_cons (d_globX (T.gl "InvalidCourse" (by decide +kernel)) rfl) da_nil)))) (d_lst (da_cons dc_str da_nil)) (d_lst da_nil))))
    (db_cons (ds_set (i := 1) sc.nd rfl (Or.inl rfl) (d_plus (dn (pv 1)) (d_ifExp (d_val (d_cb (cr_isX.or cr_isXT) (cs_isX T.tab) rfl (T.nb "isinstance" (by decide +kernel)) (by first | rfl | decide +kernel) (da_cons (dn (pv 0)) (da_cons (d_globX (T.gl "InvalidLine" (by decide +kernel)) rfl) da_nil)))) (d_lst (da_cons dc_str da_nil)) (d_lst da_nil))))
    (db_cons (ds_set (i := 1) sc.nd rfl (Or.inl rfl) (d_plus (dn (pv 1)) (d_ifExp (d_val (d_cb (cr_isX.or cr_isXT) (cs_isX T.tab) rfl (T.nb "isinstance" (by decide +kernel)) (by first | rfl | decide +kernel) (da_cons (dn (pv 0)) (da_cons (d_globX (T.gl "NotAKitchen" (by decide +kernel)) rfl) da_nil)))) (d_lst (da_cons dc_str da_nil)) (d_lst da_nil))))
    (db_cons (ds_set (i := 1) sc.nd rfl (Or.inl rfl) (d_plus (dn (pv 1)) (d_ifExp (d_val (d_cb (cr_isX.or cr_isXT) (cs_isX T.tab) rfl (T.nb "isinstance" (by decide +kernel)) (by first | rfl | decide +kernel) (da_cons (dn (pv 0)) (da_cons (d_globX (T.gl "NotAPlan" (by decide +kernel)) rfl) da_nil)))) (d_lst (da_cons dc_str da_nil)) (d_lst da_nil))))
    (db_cons (ds_set (i := 1) sc.nd rfl (Or.inl rfl) (d_plus (dn (pv 1)) (d_ifExp (d_val (d_cb (cr_isX.or cr_isXT) (cs_isX T.tab) rfl (T.nb "isinstance" (by decide +kernel)) (by first | rfl | decide +kernel) (da_cons (dn (pv 0)) (da_cons (d_globX (T.gl "NotARecord" (by decide +kernel)) rfl) da_nil)))) (d_lst (da_cons dc_str da_nil)) (d_lst da_nil))))
    (db_cons (ds_set (i := 1) sc.nd rfl (Or.inl rfl) (d_plus (dn (pv 1)) (d_ifExp (d_val (d_cb (cr_isX.or cr_isXT) (cs_isX T.tab) rfl (T.nb "isinstance" (by decide +kernel)) (by first | rfl | decide +kernel) (da_cons (dn (pv 0)) (da_cons (d_globX (T.gl "NotASheet" (by decide +kernel)) rfl) da_nil)))) (d_lst (da_cons dc_str da_nil)) (d_lst da_nil))))
    (db_cons (ds_set (i := 1) sc.nd rfl (Or.inl rfl) (d_plus (dn (pv 1)) (d_ifExp (d_val (d_cb (cr_isX.or cr_isXT) (cs_isX T.tab) rfl (T.nb "isinstance" (by decide +kernel)) (by first | rfl | decide +kernel) (da_cons (dn (pv 0)) (da_cons (d_globX (T.gl "NotADesk" (by decide +kernel)) rfl) da_nil)))) (d_lst (da_cons dc_str da_nil)) (d_lst da_nil))))
    (db_cons (ds_set (i := 1) sc.nd rfl (Or.inl rfl) (d_plus (dn (pv 1)) (d_ifExp (d_val (d_cb (cr_isX.or cr_isXT) (cs_isX T.tab) rfl (T.nb "isinstance" (by decide +kernel)) (by first | rfl | decide +kernel) (da_cons (dn (pv 0)) (da_cons (d_globX (T.gl "UnknownRecipe" (by decide +kernel)) rfl) da_nil)))) (d_lst (da_cons dc_str da_nil)) (d_lst da_nil))))
    (db_cons (ds_set (i := 1) sc.nd rfl (Or.inl rfl) (d_plus (dn (pv 1)) (d_ifExp (d_val (d_cb (cr_isX.or cr_isXT) (cs_isX T.tab) rfl (T.nb "isinstance" (by decide +kernel)) (by first | rfl | decide +kernel) (da_cons (dn (pv 0)) (da_cons (d_globX (T.gl "UnknownStock" (by decide +kernel)) rfl) da_nil)))) (d_lst (da_cons dc_str da_nil)) (d_lst da_nil))))
    (db_cons (ds_set (i := 1) sc.nd rfl (Or.inl rfl) (d_plus (dn (pv 1)) (d_ifExp (d_val (d_cb (cr_isX.or cr_isXT) (cs_isX T.tab) rfl (T.nb "isinstance" (by decide +kernel)) (by first | rfl | decide +kernel) (da_cons (dn (pv 0)) (da_cons (d_globX (T.gl "UnknownPromise" (by decide +kernel)) rfl) da_nil)))) (d_lst (da_cons dc_str da_nil)) (d_lst da_nil))))
    (db_cons (ds_set (i := 1) sc.nd rfl (Or.inl rfl) (d_plus (dn (pv 1)) (d_ifExp (d_val (d_cb (cr_isX.or cr_isXT) (cs_isX T.tab) rfl (T.nb "isinstance" (by decide +kernel)) (by first | rfl | decide +kernel) (da_cons (dn (pv 0)) (da_cons (d_globX (T.gl "UnknownOrder" (by decide +kernel)) rfl) da_nil)))) (d_lst (da_cons dc_str da_nil)) (d_lst da_nil))))
    (db_cons (ds_set (i := 1) sc.nd rfl (Or.inl rfl) (d_plus (dn (pv 1)) (d_ifExp (d_val (d_cb (cr_isX.or cr_isXT) (cs_isX T.tab) rfl (T.nb "isinstance" (by decide +kernel)) (by first | rfl | decide +kernel) (da_cons (dn (pv 0)) (da_cons (d_globX (T.gl "UnknownUse" (by decide +kernel)) rfl) da_nil)))) (d_lst (da_cons dc_str da_nil)) (d_lst da_nil))))
    (db_cons (ds_set (i := 1) sc.nd rfl (Or.inl rfl) (d_plus (dn (pv 1)) (d_ifExp (d_val (d_cb (cr_isX.or cr_isXT) (cs_isX T.tab) rfl (T.nb "isinstance" (by decide +kernel)) (by first | rfl | decide +kernel) (da_cons (dn (pv 0)) (da_cons (d_globX (T.gl "UnknownLot" (by decide +kernel)) rfl) da_nil)))) (d_lst (da_cons dc_str da_nil)) (d_lst da_nil))))
    (db_cons (ds_set (i := 1) sc.nd rfl (Or.inl rfl) (d_plus (dn (pv 1)) (d_ifExp (d_val (d_cb (cr_isX.or cr_isXT) (cs_isX T.tab) rfl (T.nb "isinstance" (by decide +kernel)) (by first | rfl | decide +kernel) (da_cons (dn (pv 0)) (da_cons (d_globX (T.gl "Unfit" (by decide +kernel)) rfl) da_nil)))) (d_lst (da_cons dc_str da_nil)) (d_lst da_nil))))
    (db_cons (ds_set (i := 1) sc.nd rfl (Or.inl rfl) (d_plus (dn (pv 1)) (d_ifExp (d_val (d_cb (cr_isX.or cr_isXT) (cs_isX T.tab) rfl (T.nb "isinstance" (by decide +kernel)) (by first | rfl | decide +kernel) (da_cons (dn (pv 0)) (da_cons (d_globX (T.gl "OverBounds" (by decide +kernel)) rfl) da_nil)))) (d_lst (da_cons dc_str da_nil)) (d_lst da_nil))))
    (db_cons (ds_set (i := 1) sc.nd rfl (Or.inl rfl) (d_plus (dn (pv 1)) (d_ifExp (d_val (d_cb (cr_isX.or cr_isXT) (cs_isX T.tab) rfl (T.nb "isinstance" (by decide +kernel)) (by first | rfl | decide +kernel) (da_cons (dn (pv 0)) (da_cons (d_globX (T.gl "TooLarge" (by decide +kernel)) rfl) da_nil)))) (d_lst (da_cons dc_str da_nil)) (d_lst da_nil))))
    (db_one (ds_ret (dn (pv 1))))))))))))))))))))))))))
theorem df_law_kinds_a (T : Txt P K mg) (F : FnI K mg "_law_kinds_a" ["e"] (top 56))  : Df P w K mg base 1 1 "_law_kinds_a" f_law_kinds_a := by
  obtain ⟨f, fd, F, hm, hk, hb⟩ := F
  exact ⟨⟨f, fd, ["e"], rfl, gf_law_kinds_a T F , hm, hk, hb⟩, rfl⟩

/-- _law_kinds_b: slots e, found -/
def m_law_kinds_b : M Fl := (mSeq (mSet 1 (mIf (mT (mCall (gIsX names tab) [(mN 0), (mC (.glob "InvalidGoods"))])) (mLst [(mC (.str "InvalidGoods"))]) (mLst [])))
  (mSeq (mSet 1 (mOp gPlus (mN 1) (mIf (mT (mCall (gIsX names tab) [(mN 0), (mC (.glob "InvalidRecipes"))])) (mLst [(mC (.str "InvalidRecipes"))]) (mLst []))))
  (mSeq (mSet 1 (mOp gPlus (mN 1) (mIf (mT (mCall (gIsX names tab) [(mN 0), (mC (.glob "InvalidClasses"))])) (mLst [(mC (.str "InvalidClasses"))]) (mLst []))))
  (mSeq (mSet 1 (mOp gPlus (mN 1) (mIf (mT (mCall (gIsX names tab) [(mN 0), (mC (.glob "InvalidTools"))])) (mLst [(mC (.str "InvalidTools"))]) (mLst []))))
  (mSeq (mSet 1 (mOp gPlus (mN 1) (mIf (mT (mCall (gIsX names tab) [(mN 0), (mC (.glob "InvalidCooks"))])) (mLst [(mC (.str "InvalidCooks"))]) (mLst []))))
  (mSeq (mSet 1 (mOp gPlus (mN 1) (mIf (mT (mCall (gIsX names tab) [(mN 0), (mC (.glob "InvalidDeeds"))])) (mLst [(mC (.str "InvalidDeeds"))]) (mLst []))))
  (mSeq (mSet 1 (mOp gPlus (mN 1) (mIf (mT (mCall (gIsX names tab) [(mN 0), (mC (.glob "InvalidWashings"))])) (mLst [(mC (.str "InvalidWashings"))]) (mLst []))))
  (mSeq (mSet 1 (mOp gPlus (mN 1) (mIf (mT (mCall (gIsX names tab) [(mN 0), (mC (.glob "InvalidHands"))])) (mLst [(mC (.str "InvalidHands"))]) (mLst []))))
  (mSeq (mSet 1 (mOp gPlus (mN 1) (mIf (mT (mCall (gIsX names tab) [(mN 0), (mC (.glob "InvalidPromises"))])) (mLst [(mC (.str "InvalidPromises"))]) (mLst []))))
  (mSeq (mSet 1 (mOp gPlus (mN 1) (mIf (mT (mCall (gIsX names tab) [(mN 0), (mC (.glob "InvalidLines"))])) (mLst [(mC (.str "InvalidLines"))]) (mLst []))))
  (mSeq (mSet 1 (mOp gPlus (mN 1) (mIf (mT (mCall (gIsX names tab) [(mN 0), (mC (.glob "InvalidLots"))])) (mLst [(mC (.str "InvalidLots"))]) (mLst []))))
  (mSeq (mSet 1 (mOp gPlus (mN 1) (mIf (mT (mCall (gIsX names tab) [(mN 0), (mC (.glob "InvalidTicks"))])) (mLst [(mC (.str "InvalidTicks"))]) (mLst []))))
  (mSeq (mSet 1 (mOp gPlus (mN 1) (mIf (mT (mCall (gIsX names tab) [(mN 0), (mC (.glob "InvalidUses"))])) (mLst [(mC (.str "InvalidUses"))]) (mLst []))))
  (mSeq (mSet 1 (mOp gPlus (mN 1) (mIf (mT (mCall (gIsX names tab) [(mN 0), (mC (.glob "InvalidCounts"))])) (mLst [(mC (.str "InvalidCounts"))]) (mLst []))))
  (mSeq (mSet 1 (mOp gPlus (mN 1) (mIf (mT (mCall (gIsX names tab) [(mN 0), (mC (.glob "InvalidParts"))])) (mLst [(mC (.str "InvalidParts"))]) (mLst []))))
  (mSeq (mSet 1 (mOp gPlus (mN 1) (mIf (mT (mCall (gIsX names tab) [(mN 0), (mC (.glob "InvalidStarts"))])) (mLst [(mC (.str "InvalidStarts"))]) (mLst []))))
  (mSeq (mSet 1 (mOp gPlus (mN 1) (mIf (mT (mCall (gIsX names tab) [(mN 0), (mC (.glob "InvalidBars"))])) (mLst [(mC (.str "InvalidBars"))]) (mLst []))))
  (mSeq (mSet 1 (mOp gPlus (mN 1) (mIf (mT (mCall (gIsX names tab) [(mN 0), (mC (.glob "InvalidText"))])) (mLst [(mC (.str "InvalidText"))]) (mLst []))))
  (mSeq (mSet 1 (mOp gPlus (mN 1) (mIf (mT (mCall (gIsX names tab) [(mN 0), (mC (.glob "NoFilling"))])) (mLst [(mC (.str "NoFilling"))]) (mLst []))))
  (mSeq (mSet 1 (mOp gPlus (mN 1) (mIf (mT (mCall (gIsX names tab) [(mN 0), (mC (.glob "Begun"))])) (mLst [(mC (.str "Begun"))]) (mLst []))))
  (mSeq (mSet 1 (mOp gPlus (mN 1) (mIf (mT (mCall (gIsX names tab) [(mN 0), (mC (.glob "Over"))])) (mLst [(mC (.str "Over"))]) (mLst []))))
  (mRet (mN 1)))))))))))))))))))))))
def f_law_kinds_b : Fs := ⟨[.fz], runB [.fz] 1 m_law_kinds_b⟩
theorem sc_law_kinds_b : FnScope ["e", "found"] ["e"] (defScope (top 57)) := ⟨rfl, rfl, rfl, by decide +kernel, rfl, by decide +kernel, by decide +kernel⟩
theorem gf_law_kinds_b (T : Txt P K mg) {f : Addr} {fd : FuncData} (F : Fun K "_law_kinds_b" "_law_kinds_b" (top 57) f fd)  : FnG P w K mg base 1 f fd ["e"] (spOf K mg 1 f_law_kinds_b) := by
  have sc := sc_law_kinds_b
  exact fn_data (m := m_law_kinds_b) F sc rfl 1 rfl (fun _ _ _ h => h) (fun cdv A outer s H E bd =>
    (db_cons (ds_set (i := 1) sc.nd rfl (Or.inl rfl) (d_ifExp (d_val (d_cb (cr_isX.or cr_isXT) (cs_isX T.tab) rfl (T.nb "isinstance" (by decide +kernel)) (by first | rfl | decide +kernel) (da_cons (dn (pv 0)) (da_cons (d_globX (T.gl "InvalidGoods" (by decide +kernel)) rfl) da_nil)))) (d_lst (da_cons dc_str da_nil)) (d_lst da_nil)))
    (db_cons (ds_set (i := 1) sc.nd rfl (Or.inl rfl) (d_plus (dn (pv 1)) (d_ifExp (d_val (d_cb (cr_isX.or cr_isXT) (cs_isX T.tab) rfl (T.nb "isinstance" (by decide +kernel)) (by first | rfl | decide +kernel) (da_cons (dn (pv 0)) (da_cons (d_globX (T.gl "InvalidRecipes" (by decide +kernel)) rfl) da_nil)))) (d_lst (da_cons dc_str da_nil)) (d_lst da_nil))))
    (db_cons (ds_set (i := 1) sc.nd rfl (Or.inl rfl) (d_plus (dn (pv 1)) (d_ifExp (d_val (d_cb (cr_isX.or cr_isXT) (cs_isX T.tab) rfl (T.nb "isinstance" (by decide +kernel)) (by first | rfl | decide +kernel) (da_cons (dn (pv 0)) (da_cons (d_globX (T.gl "InvalidClasses" (by decide +kernel)) rfl) da_nil)))) (d_lst (da_cons dc_str da_nil)) (d_lst da_nil))))
    (db_cons (ds_set (i := 1) sc.nd rfl (Or.inl rfl) (d_plus (dn (pv 1)) (d_ifExp (d_val (d_cb (cr_isX.or cr_isXT) (cs_isX T.tab) rfl (T.nb "isinstance" (by decide +kernel)) (by first | rfl | decide +kernel) (da_cons (dn (pv 0)) (da_cons (d_globX (T.gl "InvalidTools" (by decide +kernel)) rfl) da_nil)))) (d_lst (da_cons dc_str da_nil)) (d_lst da_nil))))
    (db_cons (ds_set (i := 1) sc.nd rfl (Or.inl rfl) (d_plus (dn (pv 1)) (d_ifExp (d_val (d_cb (cr_isX.or cr_isXT) (cs_isX T.tab) rfl (T.nb "isinstance" (by decide +kernel)) (by first | rfl | decide +kernel) (da_cons (dn (pv 0)) (da_cons (d_globX (T.gl "InvalidCooks" (by decide +kernel)) rfl) da_nil)))) (d_lst (da_cons dc_str da_nil)) (d_lst da_nil))))
    (db_cons (ds_set (i := 1) sc.nd rfl (Or.inl rfl) (d_plus (dn (pv 1)) (d_ifExp (d_val (d_cb (cr_isX.or cr_isXT) (cs_isX T.tab) rfl (T.nb "isinstance" (by decide +kernel)) (by first | rfl | decide +kernel) (da_cons (dn (pv 0)) (da_cons (d_globX (T.gl "InvalidDeeds" (by decide +kernel)) rfl) da_nil)))) (d_lst (da_cons dc_str da_nil)) (d_lst da_nil))))
    (db_cons (ds_set (i := 1) sc.nd rfl (Or.inl rfl) (d_plus (dn (pv 1)) (d_ifExp (d_val (d_cb (cr_isX.or cr_isXT) (cs_isX T.tab) rfl (T.nb "isinstance" (by decide +kernel)) (by first | rfl | decide +kernel) (da_cons (dn (pv 0)) (da_cons (d_globX (T.gl "InvalidWashings" (by decide +kernel)) rfl) da_nil)))) (d_lst (da_cons dc_str da_nil)) (d_lst da_nil))))
    (db_cons (ds_set (i := 1) sc.nd rfl (Or.inl rfl) (d_plus (dn (pv 1)) (d_ifExp (d_val (d_cb (cr_isX.or cr_isXT) (cs_isX T.tab) rfl (T.nb "isinstance" (by decide +kernel)) (by first | rfl | decide +kernel) (da_cons (dn (pv 0)) (da_cons (d_globX (T.gl "InvalidHands" (by decide +kernel)) rfl) da_nil)))) (d_lst (da_cons dc_str da_nil)) (d_lst da_nil))))
    (db_cons (ds_set (i := 1) sc.nd rfl (Or.inl rfl) (d_plus (dn (pv 1)) (d_ifExp (d_val (d_cb (cr_isX.or cr_isXT) (cs_isX T.tab) rfl (T.nb "isinstance" (by decide +kernel)) (by first | rfl | decide +kernel) (da_cons (dn (pv 0)) (da_cons (d_globX (T.gl "InvalidPromises" (by decide +kernel)) rfl) da_nil)))) (d_lst (da_cons dc_str da_nil)) (d_lst da_nil))))
    (db_cons (ds_set (i := 1) sc.nd rfl (Or.inl rfl) (d_plus (dn (pv 1)) (d_ifExp (d_val (d_cb (cr_isX.or cr_isXT) (cs_isX T.tab) rfl (T.nb "isinstance" (by decide +kernel)) (by first | rfl | decide +kernel) (da_cons (dn (pv 0)) (da_cons (d_globX (T.gl "InvalidLines" (by decide +kernel)) rfl) da_nil)))) (d_lst (da_cons dc_str da_nil)) (d_lst da_nil))))
    (db_cons (ds_set (i := 1) sc.nd rfl (Or.inl rfl) (d_plus (dn (pv 1)) (d_ifExp (d_val (d_cb (cr_isX.or cr_isXT) (cs_isX T.tab) rfl (T.nb "isinstance" (by decide +kernel)) (by first | rfl | decide +kernel) (da_cons (dn (pv 0)) (da_cons (d_globX (T.gl "InvalidLots" (by decide +kernel)) rfl) da_nil)))) (d_lst (da_cons dc_str da_nil)) (d_lst da_nil))))
    (db_cons (ds_set (i := 1) sc.nd rfl (Or.inl rfl) (d_plus (dn (pv 1)) (d_ifExp (d_val (d_cb (cr_isX.or cr_isXT) (cs_isX T.tab) rfl (T.nb "isinstance" (by decide +kernel)) (by first | rfl | decide +kernel) (da_cons (dn (pv 0)) (da_cons (d_globX (T.gl "InvalidTicks" (by decide +kernel)) rfl) da_nil)))) (d_lst (da_cons dc_str da_nil)) (d_lst da_nil))))
    (db_cons (ds_set (i := 1) sc.nd rfl (Or.inl rfl) (d_plus (dn (pv 1)) (d_ifExp (d_val (d_cb (cr_isX.or cr_isXT) (cs_isX T.tab) rfl (T.nb "isinstance" (by decide +kernel)) (by first | rfl | decide +kernel) (da_cons (dn (pv 0)) (da_cons (d_globX (T.gl "InvalidUses" (by decide +kernel)) rfl) da_nil)))) (d_lst (da_cons dc_str da_nil)) (d_lst da_nil))))
    (db_cons (ds_set (i := 1) sc.nd rfl (Or.inl rfl) (d_plus (dn (pv 1)) (d_ifExp (d_val (d_cb (cr_isX.or cr_isXT) (cs_isX T.tab) rfl (T.nb "isinstance" (by decide +kernel)) (by first | rfl | decide +kernel) (da_cons (dn (pv 0)) (da_cons (d_globX (T.gl "InvalidCounts" (by decide +kernel)) rfl) da_nil)))) (d_lst (da_cons dc_str da_nil)) (d_lst da_nil))))
    (db_cons (ds_set (i := 1) sc.nd rfl (Or.inl rfl) (d_plus (dn (pv 1)) (d_ifExp (d_val (d_cb (cr_isX.or cr_isXT) (cs_isX T.tab) rfl (T.nb "isinstance" (by decide +kernel)) (by first | rfl | decide +kernel) (da_cons (dn (pv 0)) (da_cons (d_globX (T.gl "InvalidParts" (by decide +kernel)) rfl) da_nil)))) (d_lst (da_cons dc_str da_nil)) (d_lst da_nil))))
    (db_cons (ds_set (i := 1) sc.nd rfl (Or.inl rfl) (d_plus (dn (pv 1)) (d_ifExp (d_val (d_cb (cr_isX.or cr_isXT) (cs_isX T.tab) rfl (T.nb "isinstance" (by decide +kernel)) (by first | rfl | decide +kernel) (da_cons (dn (pv 0)) (da_cons (d_globX (T.gl "InvalidStarts" (by decide +kernel)) rfl) da_nil)))) (d_lst (da_cons dc_str da_nil)) (d_lst da_nil))))
    (db_cons (ds_set (i := 1) sc.nd rfl (Or.inl rfl) (d_plus (dn (pv 1)) (d_ifExp (d_val (d_cb (cr_isX.or cr_isXT) (cs_isX T.tab) rfl (T.nb "isinstance" (by decide +kernel)) (by first | rfl | decide +kernel) (da_cons (dn (pv 0)) (da_cons (d_globX (T.gl "InvalidBars" (by decide +kernel)) rfl) da_nil)))) (d_lst (da_cons dc_str da_nil)) (d_lst da_nil))))
    (db_cons (ds_set (i := 1) sc.nd rfl (Or.inl rfl) (d_plus (dn (pv 1)) (d_ifExp (d_val (d_cb (cr_isX.or cr_isXT) (cs_isX T.tab) rfl (T.nb "isinstance" (by decide +kernel)) (by first | rfl | decide +kernel) (da_cons (dn (pv 0)) (da_cons (d_globX (T.gl "InvalidText" (by decide +kernel)) rfl) da_nil)))) (d_lst (da_cons dc_str da_nil)) (d_lst da_nil))))
    (db_cons (ds_set (i := 1) sc.nd rfl (Or.inl rfl) (d_plus (dn (pv 1)) (d_ifExp (d_val (d_cb (cr_isX.or cr_isXT) (cs_isX T.tab) rfl (T.nb "isinstance" (by decide +kernel)) (by first | rfl | decide +kernel) (da_cons (dn (pv 0)) (da_cons (d_globX (T.gl "NoFilling" (by decide +kernel)) rfl) da_nil)))) (d_lst (da_cons dc_str da_nil)) (d_lst da_nil))))
    (db_cons (ds_set (i := 1) sc.nd rfl (Or.inl rfl) (d_plus (dn (pv 1)) (d_ifExp (d_val (d_cb (cr_isX.or cr_isXT) (cs_isX T.tab) rfl (T.nb "isinstance" (by decide +kernel)) (by first | rfl | decide +kernel) (da_cons (dn (pv 0)) (da_cons (d_globX (T.gl "Begun" (by decide +kernel)) rfl) da_nil)))) (d_lst (da_cons dc_str da_nil)) (d_lst da_nil))))
    (db_cons (ds_set (i := 1) sc.nd rfl (Or.inl rfl) (d_plus (dn (pv 1)) (d_ifExp (d_val (d_cb (cr_isX.or cr_isXT) (cs_isX T.tab) rfl (T.nb "isinstance" (by decide +kernel)) (by first | rfl | decide +kernel) (da_cons (dn (pv 0)) (da_cons (d_globX (T.gl "Over" (by decide +kernel)) rfl) da_nil)))) (d_lst (da_cons dc_str da_nil)) (d_lst da_nil))))
    (db_one (ds_ret (dn (pv 1))))))))))))))))))))))))))
theorem df_law_kinds_b (T : Txt P K mg) (F : FnI K mg "_law_kinds_b" ["e"] (top 57))  : Df P w K mg base 1 1 "_law_kinds_b" f_law_kinds_b := by
  obtain ⟨f, fd, F, hm, hk, hb⟩ := F
  exact ⟨⟨f, fd, ["e"], rfl, gf_law_kinds_b T F , hm, hk, hb⟩, rfl⟩

/-- _law_is_own: slots e, word, others, found -/
def n_law_is_own (f_law_is f_law_kinds_a f_law_kinds_b : Fs) : M Fl := (mSeq (mSet 2 (mCall (gIsX names tab) [(mN 0), (mTup [(mC (.ty "TypeError")), (mC (.ty "LookupError")), (mC (.ty "ArithmeticError")), (mC (.ty "AttributeError")), (mC (.ty "RuntimeError"))])]))
  (mSeq (mSet 3 (mOp gPlus (mFn f_law_kinds_a [(mN 0)]) (mFn f_law_kinds_b [(mN 0)])))
  (mRet (mFn f_law_is [(mLst [(mN 3), (mCall (gIsX names tab) [(mN 0), (mC (.glob "HallError"))]), (mCall (gIsX names tab) [(mN 0), (mC (.ty "ValueError"))]), (mN 2)]), (mLst [(mLst [(mN 1)]), (mC (.bl true)), (mC (.bl true)), (mC (.bl false))])]))))
def m_law_is_own : M Fl := n_law_is_own f_law_is f_law_kinds_a f_law_kinds_b
def f_law_is_own : Fs := ⟨[.fz, .fz], runB [.fz, .fz] 2 m_law_is_own⟩
theorem sc_law_is_own : FnScope ["e", "word", "others", "found"] ["e", "word"] (defScope (top 58)) := ⟨rfl, rfl, rfl, by decide +kernel, rfl, by decide +kernel, by decide +kernel⟩
theorem gf_law_is_own (T : Txt P K mg) {f : Addr} {fd : FuncData} (F : Fun K "_law_is_own" "_law_is_own" (top 58) f fd) (D_law_is : Df P w K mg base 1 2 "_law_is" f_law_is) (D_law_kinds_a : Df P w K mg base 1 1 "_law_kinds_a" f_law_kinds_a) (D_law_kinds_b : Df P w K mg base 1 1 "_law_kinds_b" f_law_kinds_b) : FnG P w K mg base 2 f fd ["e", "word"] (spOf K mg 2 f_law_is_own) := by
  have sc := sc_law_is_own
  exact fn_data (m := m_law_is_own) F sc rfl 2 rfl (fun _ _ _ h => h) (fun cdv A outer s H E bd =>
    (db_cons (ds_set (i := 2) sc.nd rfl (Or.inl rfl) (d_cb (cr_isX.or cr_isXT) (cs_isX T.tab) rfl (T.nb "isinstance" (by decide +kernel)) (by first | rfl | decide +kernel) (da_cons (dn (pv 0)) (da_cons (d_tup (da_cons (d_ty rfl (T.nb "TypeError" (by decide +kernel)) (by first | rfl | decide +kernel)) (da_cons (d_ty rfl (T.nb "LookupError" (by decide +kernel)) (by first | rfl | decide +kernel)) (da_cons (d_ty rfl (T.nb "ArithmeticError" (by decide +kernel)) (by first | rfl | decide +kernel)) (da_cons (d_ty rfl (T.nb "AttributeError" (by decide +kernel)) (by first | rfl | decide +kernel)) (da_cons (d_ty rfl (T.nb "RuntimeError" (by decide +kernel)) (by first | rfl | decide +kernel)) da_nil)))))) da_nil))))
    (db_cons (ds_set (i := 3) sc.nd rfl (Or.inl rfl) (d_plus (d_fn D_law_kinds_a (bd.mono (by decide : 1 ≤ 1)) rfl (da_cons (dn (pv 0)) da_nil)) (d_fn D_law_kinds_b (bd.mono (by decide : 1 ≤ 1)) rfl (da_cons (dn (pv 0)) da_nil))))
    (db_one (ds_ret (d_fn D_law_is (bd.mono (by decide : 1 ≤ 1)) rfl (da_cons (d_lst (da_cons (dn (pv 3)) (da_cons (d_cb (cr_isX.or cr_isXT) (cs_isX T.tab) rfl (T.nb "isinstance" (by decide +kernel)) (by first | rfl | decide +kernel) (da_cons (dn (pv 0)) (da_cons (d_globX (T.gl "HallError" (by decide +kernel)) rfl) da_nil))) (da_cons (d_cb (cr_isX.or cr_isXT) (cs_isX T.tab) rfl (T.nb "isinstance" (by decide +kernel)) (by first | rfl | decide +kernel) (da_cons (dn (pv 0)) (da_cons (d_ty rfl (T.nb "ValueError" (by decide +kernel)) (by first | rfl | decide +kernel)) da_nil))) (da_cons (dn (pv 2)) da_nil))))) (da_cons (d_lst (da_cons (d_lst (da_cons (dn (pv 1)) da_nil)) (da_cons dc_bl (da_cons dc_bl (da_cons dc_bl da_nil))))) da_nil))))))))
theorem df_law_is_own (T : Txt P K mg) (F : FnI K mg "_law_is_own" ["e", "word"] (top 58)) (D_law_is : Df P w K mg base 1 2 "_law_is" f_law_is) (D_law_kinds_a : Df P w K mg base 1 1 "_law_kinds_a" f_law_kinds_a) (D_law_kinds_b : Df P w K mg base 1 1 "_law_kinds_b" f_law_kinds_b) : Df P w K mg base 2 2 "_law_is_own" f_law_is_own := by
  obtain ⟨f, fd, F, hm, hk, hb⟩ := F
  exact ⟨⟨f, fd, ["e", "word"], rfl, gf_law_is_own T F D_law_is D_law_kinds_a D_law_kinds_b, hm, hk, hb⟩, rfl⟩

/-- _law_right: slots well, word, is_named, value, e, kept -/
def n_law_right (f_law_given f_law_index f_law_is_own f_law_value f_law_made f_law_is : Fs) : M Fl := (mSeq (mFor (mItems (mOp gPlus (mFn f_law_given []) (mFn f_law_index []))) (gN 1) (mFor (mItems (mTup [(mC (.bl false)), (mC (.bl true))])) (gN 2) (mSeq (mSet 3 (mFn f_law_value [(mN 0)]))
  (mSeq (mSet 4 (mFn f_law_made [(mN 1), (mN 3), (mN 2)]))
  (mSeq (mSet 5 (mIf (mTC gIn (mN 1) (mFn f_law_given [])) (mUn (gFx names "given") (mN 4)) (mUn (gFx names "index") (mN 4))))
  (mIfS (mOr (mNot (mT (mFn f_law_is [(mN 5), (mN 3)]))) (mNot (mT (mFn f_law_is_own [(mN 4), (mN 1)])))) (mRet (mC (.bl false))) (M.pure .nx)))))))
  (mRet (mAndV (mFn f_law_is_own [(mExc0 "NoFilling"), (mC (.str "NoFilling"))]) (mAndV (mFn f_law_is_own [(mExc0 "Begun"), (mC (.str "Begun"))]) (mFn f_law_is_own [(mExc0 "Over"), (mC (.str "Over"))])))))
def m_law_right : M Fl := n_law_right f_law_given f_law_index f_law_is_own f_law_value f_law_made f_law_is
def f_law_right : Fs := ⟨[.io], runB [.io] 5 m_law_right⟩
theorem sc_law_right : FnScope ["well", "word", "is_named", "value", "e", "kept"] ["well"] (defScope (top 59)) := ⟨rfl, rfl, rfl, by decide +kernel, rfl, by decide +kernel, by decide +kernel⟩
theorem gf_law_right (T : Txt P K mg) {f : Addr} {fd : FuncData} (F : Fun K "_law_right" "_law_right" (top 59) f fd) (D_law_given : Df P w K mg base 1 0 "_law_given" f_law_given) (D_law_index : Df P w K mg base 1 0 "_law_index" f_law_index) (D_law_is_own : Df P w K mg base 2 2 "_law_is_own" f_law_is_own) (D_law_value : Df P w K mg base 3 1 "_law_value" f_law_value) (D_law_made : Df P w K mg base 3 3 "_law_made" f_law_made) (D_law_is : Df P w K mg base 1 2 "_law_is" f_law_is) : FnG P w K mg base 4 f fd ["well"] (spOf K mg 1 f_law_right) := by
  have sc := sc_law_right
  exact fn_data (m := m_law_right) F sc rfl 5 rfl (fun _ _ _ h => h) (fun cdv A outer s H E bd =>
    (db_cons (ds_for bd.own bd.calm (di_seq (d_plus (d_fn0 D_law_given (bd.mono (by decide : 1 ≤ 3)) rfl) (d_fn0 D_law_index (bd.mono (by decide : 1 ≤ 3)) rfl))) (dg_name sc.nd rfl (Or.inl rfl)) (db_one (ds_for bd.own bd.calm (di_seq (d_tup (da_cons dc_bl (da_cons dc_bl da_nil)))) (dg_name sc.nd rfl (Or.inl rfl)) (db_cons (ds_set (i := 3) sc.nd rfl (Or.inl rfl) (d_fn D_law_value (bd.mono (by decide : 3 ≤ 3)) rfl (da_cons (dn (pv 0)) da_nil)))
    (db_cons (ds_set (i := 4) sc.nd rfl (Or.inl rfl) (d_fn D_law_made (bd.mono (by decide : 3 ≤ 3)) rfl (da_cons (dn (pv 1)) (da_cons (dn (pv 3)) (da_cons (dn (pv 2)) da_nil)))))
    (db_cons (ds_set (i := 5) sc.nd rfl (Or.inl rfl) (d_ifExp (dt_in (dn (pv 1)) (d_fn0 D_law_given (bd.mono (by decide : 1 ≤ 3)) rfl)) (d_fx (T.fx_given) (dn (pv 4)) rfl) (d_fx (T.fx_index) (dn (pv 4)) rfl)))
    (db_one (ds_if (dt_w (dw_or (dt_not (d_val (d_fn D_law_is (bd.mono (by decide : 1 ≤ 3)) rfl (da_cons (dn (pv 5)) (da_cons (dn (pv 3)) da_nil))))) (dw_or1 (dt_not (d_val (d_fn D_law_is_own (bd.mono (by decide : 2 ≤ 3)) rfl (da_cons (dn (pv 4)) (da_cons (dn (pv 1)) da_nil)))))))) (db_one (ds_ret dc_bl)) db_nil))))))))
    (db_one (ds_ret (dv_and (d_fn D_law_is_own (bd.mono (by decide : 2 ≤ 3)) rfl (da_cons (d_exc0X (T.ez "NoFilling" (by decide +kernel)) rfl) (da_cons dc_str da_nil))) (dv_and (d_fn D_law_is_own (bd.mono (by decide : 2 ≤ 3)) rfl (da_cons (d_exc0X (T.ez "Begun" (by decide +kernel)) rfl) (da_cons dc_str da_nil))) (dv_one (d_fn D_law_is_own (bd.mono (by decide : 2 ≤ 3)) rfl (da_cons (d_exc0X (T.ez "Over" (by decide +kernel)) rfl) (da_cons dc_str da_nil))))))))))
theorem df_law_right (T : Txt P K mg) (F : FnI K mg "_law_right" ["well"] (top 59)) (D_law_given : Df P w K mg base 1 0 "_law_given" f_law_given) (D_law_index : Df P w K mg base 1 0 "_law_index" f_law_index) (D_law_is_own : Df P w K mg base 2 2 "_law_is_own" f_law_is_own) (D_law_value : Df P w K mg base 3 1 "_law_value" f_law_value) (D_law_made : Df P w K mg base 3 3 "_law_made" f_law_made) (D_law_is : Df P w K mg base 1 2 "_law_is" f_law_is) : Df P w K mg base 4 1 "_law_right" f_law_right := by
  obtain ⟨f, fd, F, hm, hk, hb⟩ := F
  exact ⟨⟨f, fd, ["well"], rfl, gf_law_right T F D_law_given D_law_index D_law_is_own D_law_value D_law_made D_law_is, hm, hk, hb⟩, rfl⟩

/-- law: slots script, lap -/
def nlaw (f_law_right f_law_well : Fs) : M Fl := (mRet (mCall gAll [(mLC [1] (mRng1 (mCall gMax2 [(mC (.int 1)), (mCall gMin2 [(mCall gLen [(mN 0)]), (mC (.int 2))])])) (gN 1) (M.pure true) (mFnT f_law_right (mFn f_law_well [(mN 0), (mN 1)])))]))
def mlaw : M Fl := nlaw f_law_right f_law_well
def flaw : Fs := ⟨[.fz], runB [.fz] 1 mlaw⟩
theorem sclaw : FnScope ["script", "lap"] ["script"] (defScope (top 60)) := ⟨rfl, rfl, rfl, by decide +kernel, rfl, by decide +kernel, by decide +kernel⟩
theorem gflaw (T : Txt P K mg) {f : Addr} {fd : FuncData} (F : Fun K "law" "law" (top 60) f fd) (D_law_right : Df P w K mg base 4 1 "_law_right" f_law_right) (D_law_well : Df P w K mg base 1 2 "_law_well" f_law_well) : FnG P w K mg base 5 f fd ["script"] (spOf K mg 1 flaw) := by
  have sc := sclaw
  exact fn_data (m := mlaw) F sc rfl 1 rfl (fun _ _ _ h => h) (fun cdv A outer s H E bd =>
    (db_one (ds_ret (d_cb (cr_all bd.calm) cs_all rfl (T.nb "all" (by decide +kernel)) (by first | rfl | decide +kernel) (da_cons (d_lc (own := [("lap", 1)]) bd.calm sc.nd (di_rng1 rfl (T.nb "range" (by decide +kernel)) (d_cb (call_max2 bd.calm) cs_max2 rfl (T.nb "max" (by decide +kernel)) (by first | rfl | decide +kernel) (da_cons dc_int (da_cons (d_cb (call_min2 bd.calm) cs_min2 rfl (T.nb "min" (by decide +kernel)) (by first | rfl | decide +kernel) (da_cons (d_cb call_len cs_len rfl (T.nb "len" (by decide +kernel)) (by first | rfl | decide +kernel) (da_cons (dn (pv 0)) da_nil)) (da_cons dc_int da_nil))) da_nil)))) (blkOk_by (by first | rfl | kernel_rfl)) (fun s2 H2 C2 cl2 fp2 => dgc_name sc.nd rfl (Or.inl rfl)) (fun s2 H2 C2 cl2 fp2 => (d_fnT D_law_right rfl ((bd.blk s2 H2 C2 cl2 fp2).mono (by decide : 4 ≤ 4)) rfl (d_fn D_law_well ((bd.blk s2 H2 C2 cl2 fp2).mono (by decide : 1 ≤ 4)) rfl (da_cons (dn (pv 0)) (da_cons (dn (pv 1)) da_nil)))))) da_nil)))))
theorem dflaw (T : Txt P K mg) (F : FnI K mg "law" ["script"] (top 60)) (D_law_right : Df P w K mg base 4 1 "_law_right" f_law_right) (D_law_well : Df P w K mg base 1 2 "_law_well" f_law_well) : Df P w K mg base 5 1 "law" flaw := by
  obtain ⟨f, fd, F, hm, hk, hb⟩ := F
  exact ⟨⟨f, fd, ["script"], rfl, gflaw T F D_law_right D_law_well, hm, hk, hb⟩, rfl⟩

end
end K01

/-! K01L: what the law's defs make of data: the plain law. -/
namespace K01
open PySem L2 DL

/-- the well: a stock of digits that is never below 0 -/
def well (a b c : Int) : Dt := .lst [.int a, .int b, .int c]
theorem draw_stock {a b c n : Int} (ha : 0 < a) (hn : 0 < n) (hn2 : n < 1073741824) : f_law_draw.run [well a b c, .int n] = some (.ret (.val (.int (a % n))) [well (a / n) b c, .non]) := by
  simp [f_law_draw, m_law_draw, well, runB, startE, argE, mixE, mSeq, M.bind, M.pure, mIfS, mTC, mT, mOp, mN, mC, gs, use2, rs, gIdx, seqD, atD, ixN, useT, gGt, gI, mAsg, mCall, mA, useA, rsA, gDivmod, frz, gT, gCons', gNil', gIx, mLs, setIx, gN, putS, isIo, mRet, retR, finF, outsOf, ha, hn, hn2]
end K01
namespace K01
open PySem L2 DL
def mx (b c : Int) : Int := (b * 40009 + 15013 * (c + 1)) % 2147483629
def nxt (b c : Int) : Int := (mx b c * (mx b c % 5003 + 20011) + (c + 1)) % 2147483629
theorem small_mx (b c : Int) : small (mx b c) = true := by
  unfold small mx
  have h1 := Int.emod_nonneg (b * 40009 + 15013 * (c + 1)) (show (2147483629 : Int) ≠ 0 by decide)
  have h2 := Int.emod_lt_of_pos (b * 40009 + 15013 * (c + 1)) (show (0 : Int) < 2147483629 by decide)
  exact decide_eq_true ⟨by omega, by omega⟩
theorem draw_fresh {b c n : Int} (hn : 0 < n) : f_law_draw.run [well 0 b c, .int n] = some (.ret (.val (.int (nxt b c / 1031 % n))) [well 0 (nxt b c) (c + 1), .non]) := by
  have sm := small_mx b c
  have e1 : (b * 40009 + 15013 * (c + 1)) % 2147483629 = mx b c := rfl
  have e2 : (mx b c * (mx b c % 5003 + 20011) + (c + 1)) % 2147483629 = nxt b c := rfl
  have s1 : small 40009 = true := by decide
  have s2 : small 15013 = true := by decide
  simp [f_law_draw, m_law_draw, well, runB, startE, argE, mixE, mSeq, M.bind, M.pure, mIfS, mTC, mT, mOp, mN, mC, gs, use2, rs, gIdx, seqD, atD, ixN, useT, gGt, gI, mAsg, mCall, mA, useA, rsA, gDivmod, frz, gT, gCons', gNil', gIx, mLs, setIx, gN, putS, isIo, mRet, retR, finF, outsOf, hn, gPlus, gOr, gAdd, gMul, gMod, gInt, gDiv, mSet, setR, e1, e2, sm, s1, s2]
end K01
/-! ### beyond the draws -/
namespace K01
open PySem L2 DL
theorem draw_ok {a b c n : Int} (ha : 0 ≤ a) (hn : 0 < n) (hn2 : n < 1073741824) : ∃ r a' b' c', 0 ≤ r ∧ r < n ∧ 0 ≤ a' ∧ f_law_draw.run [well a b c, .int n] = some (.ret (.val (.int r)) [well a' b' c', .non]) := by
  rcases Int.lt_or_eq_of_le ha with h | h
  · exact ⟨a % n, a / n, b, c, Int.emod_nonneg _ (by omega), Int.emod_lt_of_pos _ hn, Int.ediv_nonneg ha (by omega), draw_stock h hn hn2⟩
  · subst h
    exact ⟨_, 0, _, _, Int.emod_nonneg _ (by omega), Int.emod_lt_of_pos _ hn, Int.le_refl 0, draw_fresh hn⟩
theorem io_draw : f_law_draw.io = [.io, .fz] := rfl
theorem of_ok {a b c : Int} {xs : List Dt} (ha : 0 ≤ a) (h0 : 0 < xs.length) (hl : xs.length ≤ line) : ∃ d a' b' c', d ∈ xs ∧ 0 ≤ a' ∧ f_law_of.run [well a b c, .tup xs] = some (.ret (.val d) [well a' b' c', .non]) := by
  obtain ⟨r, a', b', c', r0, r1, ha', h⟩ := draw_ok (b := b) (c := c) (n := xs.length) ha (by omega) (by unfold line at hl; omega)
  have hr : r.toNat < xs.length := by omega
  have hx : xs[r.toNat]? = some (xs[r.toNat]'hr) := List.getElem?_eq_getElem hr
  have hi : ixN xs.length r = some r.toNat := by
    unfold ixN
    rw [if_pos r0, if_pos r1]
  have ht : atD xs r = some (xs[r.toNat]'hr) := by
    unfold atD
    rw [hi]
    exact hx
  refine ⟨xs[r.toNat]'hr, a', b', c', List.getElem_mem hr, ha', ?_⟩
  simp [f_law_of, m_law_of, n_law_of, gLen, lenD, seqD, gIdx, io_draw, h, ht, runB, startE, argE, mixE, mSeq, M.bind, M.pure, mIfS, mTC, mT, mOp, mN, mC, gs, use2, rs, useT, mCall, mA, useA, rsA, frz, putS, isIo, mRet, retR, finF, outsOf, mSet, setR, mFn, argsD, callF, lent, isOwn, putB, setD]
def vals : List Dt := [.non, .bl true, .bl false, .int 0, .int (-1), .int 7, .int (10 ^ 50), .str "", .str "egg", .str " ", .tup [], .tup [.int 1, .tup [.str "a"]], .lst [], .dic [], .lst [.str "x"], .dic [(.inr "a", .int 1)], .tup [.non, .bl true]]
theorem value_const (r : List Dt → Option Fr) (a b c : Int) : runB [.io] 1 (n_law_value ⟨[.io, .fz], r⟩) [well a b c] = runB [.io] 1 (n_law_value ⟨[.io, .fz], fun _ => r [well a b c, .tup vals]⟩) [well a b c] := by kernel_rfl
theorem value_back (d : Dt) (a b c a' b' c' : Int) : runB [.io] 1 (n_law_value ⟨[.io, .fz], fun _ => some (.ret (.val d) [well a' b' c', .non])⟩) [well a b c] = some (.ret (.val d) [well a' b' c']) := by kernel_rfl
theorem value_ok {a b c : Int} (ha : 0 ≤ a) : ∃ d a' b' c', d ∈ vals ∧ 0 ≤ a' ∧ f_law_value.run [well a b c] = some (.ret (.val d) [well a' b' c']) := by
  obtain ⟨d, a', b', c', hd, ha', h⟩ := of_ok (b := b) (c := c) (xs := vals) ha (by decide) (by decide)
  refine ⟨d, a', b', c', hd, ha', ?_⟩
  show runB [.io] 1 (n_law_value ⟨[.io, .fz], f_law_of.run⟩) [well a b c] = _
  rw [value_const, h]
  exact value_back d a b c a' b' c'
theorem is_vals : ∀ d ∈ vals, f_law_is.run [d, d] = some (.ret (.val (.bl true)) [.non, .non]) := by
  unfold vals
  exact (List.forall_mem_cons.2 ⟨by kernel_rfl, (List.forall_mem_cons.2 ⟨by kernel_rfl, (List.forall_mem_cons.2 ⟨by kernel_rfl, (List.forall_mem_cons.2 ⟨by kernel_rfl, (List.forall_mem_cons.2 ⟨by kernel_rfl, (List.forall_mem_cons.2 ⟨by kernel_rfl, (List.forall_mem_cons.2 ⟨by kernel_rfl, (List.forall_mem_cons.2 ⟨by kernel_rfl, (List.forall_mem_cons.2 ⟨by kernel_rfl, (List.forall_mem_cons.2 ⟨by kernel_rfl, (List.forall_mem_cons.2 ⟨by kernel_rfl, (List.forall_mem_cons.2 ⟨by kernel_rfl, (List.forall_mem_cons.2 ⟨by kernel_rfl, (List.forall_mem_cons.2 ⟨by kernel_rfl, (List.forall_mem_cons.2 ⟨by kernel_rfl, (List.forall_mem_cons.2 ⟨by kernel_rfl, (List.forall_mem_cons.2 ⟨by kernel_rfl, (fun _ h => absurd h (by simp))⟩)⟩)⟩)⟩)⟩)⟩)⟩)⟩)⟩)⟩)⟩)⟩)⟩)⟩)⟩)⟩)⟩)
def pairs : List (Str × Str) := [(("InvalidNumber" : Str), ("given" : Str)), (("InvalidStuff" : Str), ("given" : Str)), (("InvalidPlace" : Str), ("given" : Str)), (("InvalidRoad" : Str), ("given" : Str)), (("InvalidBounds" : Str), ("given" : Str)), (("InvalidCourse" : Str), ("given" : Str)), (("InvalidLine" : Str), ("given" : Str)), (("NotAKitchen" : Str), ("given" : Str)), (("NotAPlan" : Str), ("given" : Str)), (("NotARecord" : Str), ("given" : Str)), (("NotASheet" : Str), ("given" : Str)), (("NotADesk" : Str), ("given" : Str)), (("UnknownRecipe" : Str), ("given" : Str)), (("UnknownStock" : Str), ("given" : Str)), (("UnknownPromise" : Str), ("given" : Str)), (("UnknownOrder" : Str), ("given" : Str)), (("UnknownUse" : Str), ("given" : Str)), (("UnknownLot" : Str), ("given" : Str)), (("Unfit" : Str), ("given" : Str)), (("OverBounds" : Str), ("given" : Str)), (("TooLarge" : Str), ("given" : Str)), (("InvalidGoods" : Str), ("index" : Str)), (("InvalidRecipes" : Str), ("index" : Str)), (("InvalidClasses" : Str), ("index" : Str)), (("InvalidTools" : Str), ("index" : Str)), (("InvalidCooks" : Str), ("index" : Str)), (("InvalidDeeds" : Str), ("index" : Str)), (("InvalidWashings" : Str), ("index" : Str)), (("InvalidHands" : Str), ("index" : Str)), (("InvalidPromises" : Str), ("index" : Str)), (("InvalidLines" : Str), ("index" : Str)), (("InvalidLots" : Str), ("index" : Str)), (("InvalidTicks" : Str), ("index" : Str)), (("InvalidUses" : Str), ("index" : Str)), (("InvalidCounts" : Str), ("index" : Str)), (("InvalidParts" : Str), ("index" : Str)), (("InvalidStarts" : Str), ("index" : Str)), (("InvalidBars" : Str), ("index" : Str)), (("InvalidText" : Str), ("index" : Str))]
theorem given_run : f_law_given.run [] = some (.ret (.new (.lst (givens.map Dt.str))) []) := by kernel_rfl
theorem index_run : f_law_index.run [] = some (.ret (.new (.lst (indexes.map Dt.str))) []) := by kernel_rfl
theorem in_ok : ∀ p ∈ pairs, gIn (.str p.1) (.lst (givens.map Dt.str)) = some (.val (.bl (decide (p.2 = "given")))) := by
  unfold pairs
  exact (List.forall_mem_cons.2 ⟨by kernel_rfl, (List.forall_mem_cons.2 ⟨by kernel_rfl, (List.forall_mem_cons.2 ⟨by kernel_rfl, (List.forall_mem_cons.2 ⟨by kernel_rfl, (List.forall_mem_cons.2 ⟨by kernel_rfl, (List.forall_mem_cons.2 ⟨by kernel_rfl, (List.forall_mem_cons.2 ⟨by kernel_rfl, (List.forall_mem_cons.2 ⟨by kernel_rfl, (List.forall_mem_cons.2 ⟨by kernel_rfl, (List.forall_mem_cons.2 ⟨by kernel_rfl, (List.forall_mem_cons.2 ⟨by kernel_rfl, (List.forall_mem_cons.2 ⟨by kernel_rfl, (List.forall_mem_cons.2 ⟨by kernel_rfl, (List.forall_mem_cons.2 ⟨by kernel_rfl, (List.forall_mem_cons.2 ⟨by kernel_rfl, (List.forall_mem_cons.2 ⟨by kernel_rfl, (List.forall_mem_cons.2 ⟨by kernel_rfl, (List.forall_mem_cons.2 ⟨by kernel_rfl, (List.forall_mem_cons.2 ⟨by kernel_rfl, (List.forall_mem_cons.2 ⟨by kernel_rfl, (List.forall_mem_cons.2 ⟨by kernel_rfl, (List.forall_mem_cons.2 ⟨by kernel_rfl, (List.forall_mem_cons.2 ⟨by kernel_rfl, (List.forall_mem_cons.2 ⟨by kernel_rfl, (List.forall_mem_cons.2 ⟨by kernel_rfl, (List.forall_mem_cons.2 ⟨by kernel_rfl, (List.forall_mem_cons.2 ⟨by kernel_rfl, (List.forall_mem_cons.2 ⟨by kernel_rfl, (List.forall_mem_cons.2 ⟨by kernel_rfl, (List.forall_mem_cons.2 ⟨by kernel_rfl, (List.forall_mem_cons.2 ⟨by kernel_rfl, (List.forall_mem_cons.2 ⟨by kernel_rfl, (List.forall_mem_cons.2 ⟨by kernel_rfl, (List.forall_mem_cons.2 ⟨by kernel_rfl, (List.forall_mem_cons.2 ⟨by kernel_rfl, (List.forall_mem_cons.2 ⟨by kernel_rfl, (List.forall_mem_cons.2 ⟨by kernel_rfl, (List.forall_mem_cons.2 ⟨by kernel_rfl, (List.forall_mem_cons.2 ⟨by kernel_rfl, (fun _ h => absurd h (by simp))⟩)⟩)⟩)⟩)⟩)⟩)⟩)⟩)⟩)⟩)⟩)⟩)⟩)⟩)⟩)⟩)⟩)⟩)⟩)⟩)⟩)⟩)⟩)⟩)⟩)⟩)⟩)⟩)⟩)⟩)⟩)⟩)⟩)⟩)⟩)⟩)⟩)⟩)⟩)
theorem which : ∀ p ∈ pairs, p.1 ∈ names ∧ (p.2 = "given" ∨ p.2 = "index") := by
  unfold pairs
  exact (List.forall_mem_cons.2 ⟨⟨by decide +kernel, by decide +kernel⟩, (List.forall_mem_cons.2 ⟨⟨by decide +kernel, by decide +kernel⟩, (List.forall_mem_cons.2 ⟨⟨by decide +kernel, by decide +kernel⟩, (List.forall_mem_cons.2 ⟨⟨by decide +kernel, by decide +kernel⟩, (List.forall_mem_cons.2 ⟨⟨by decide +kernel, by decide +kernel⟩, (List.forall_mem_cons.2 ⟨⟨by decide +kernel, by decide +kernel⟩, (List.forall_mem_cons.2 ⟨⟨by decide +kernel, by decide +kernel⟩, (List.forall_mem_cons.2 ⟨⟨by decide +kernel, by decide +kernel⟩, (List.forall_mem_cons.2 ⟨⟨by decide +kernel, by decide +kernel⟩, (List.forall_mem_cons.2 ⟨⟨by decide +kernel, by decide +kernel⟩, (List.forall_mem_cons.2 ⟨⟨by decide +kernel, by decide +kernel⟩, (List.forall_mem_cons.2 ⟨⟨by decide +kernel, by decide +kernel⟩, (List.forall_mem_cons.2 ⟨⟨by decide +kernel, by decide +kernel⟩, (List.forall_mem_cons.2 ⟨⟨by decide +kernel, by decide +kernel⟩, (List.forall_mem_cons.2 ⟨⟨by decide +kernel, by decide +kernel⟩, (List.forall_mem_cons.2 ⟨⟨by decide +kernel, by decide +kernel⟩, (List.forall_mem_cons.2 ⟨⟨by decide +kernel, by decide +kernel⟩, (List.forall_mem_cons.2 ⟨⟨by decide +kernel, by decide +kernel⟩, (List.forall_mem_cons.2 ⟨⟨by decide +kernel, by decide +kernel⟩, (List.forall_mem_cons.2 ⟨⟨by decide +kernel, by decide +kernel⟩, (List.forall_mem_cons.2 ⟨⟨by decide +kernel, by decide +kernel⟩, (List.forall_mem_cons.2 ⟨⟨by decide +kernel, by decide +kernel⟩, (List.forall_mem_cons.2 ⟨⟨by decide +kernel, by decide +kernel⟩, (List.forall_mem_cons.2 ⟨⟨by decide +kernel, by decide +kernel⟩, (List.forall_mem_cons.2 ⟨⟨by decide +kernel, by decide +kernel⟩, (List.forall_mem_cons.2 ⟨⟨by decide +kernel, by decide +kernel⟩, (List.forall_mem_cons.2 ⟨⟨by decide +kernel, by decide +kernel⟩, (List.forall_mem_cons.2 ⟨⟨by decide +kernel, by decide +kernel⟩, (List.forall_mem_cons.2 ⟨⟨by decide +kernel, by decide +kernel⟩, (List.forall_mem_cons.2 ⟨⟨by decide +kernel, by decide +kernel⟩, (List.forall_mem_cons.2 ⟨⟨by decide +kernel, by decide +kernel⟩, (List.forall_mem_cons.2 ⟨⟨by decide +kernel, by decide +kernel⟩, (List.forall_mem_cons.2 ⟨⟨by decide +kernel, by decide +kernel⟩, (List.forall_mem_cons.2 ⟨⟨by decide +kernel, by decide +kernel⟩, (List.forall_mem_cons.2 ⟨⟨by decide +kernel, by decide +kernel⟩, (List.forall_mem_cons.2 ⟨⟨by decide +kernel, by decide +kernel⟩, (List.forall_mem_cons.2 ⟨⟨by decide +kernel, by decide +kernel⟩, (List.forall_mem_cons.2 ⟨⟨by decide +kernel, by decide +kernel⟩, (List.forall_mem_cons.2 ⟨⟨by decide +kernel, by decide +kernel⟩, (fun _ h => absurd h (by simp))⟩)⟩)⟩)⟩)⟩)⟩)⟩)⟩)⟩)⟩)⟩)⟩)⟩)⟩)⟩)⟩)⟩)⟩)⟩)⟩)⟩)⟩)⟩)⟩)⟩)⟩)⟩)⟩)⟩)⟩)⟩)⟩)⟩)⟩)⟩)⟩)⟩)⟩)⟩)
theorem made_ok : ∀ p ∈ pairs, ∀ (n : Bool) (d : Dt), f_law_made.run [.str p.1, d, .bl n] = some (.ret (.val (.exc p.1 [(p.2, d)])) [.non, .non, .non]) := by
  unfold pairs
  exact (List.forall_mem_cons.2 ⟨fun n d => by cases n <;> kernel_rfl, (List.forall_mem_cons.2 ⟨fun n d => by cases n <;> kernel_rfl, (List.forall_mem_cons.2 ⟨fun n d => by cases n <;> kernel_rfl, (List.forall_mem_cons.2 ⟨fun n d => by cases n <;> kernel_rfl, (List.forall_mem_cons.2 ⟨fun n d => by cases n <;> kernel_rfl, (List.forall_mem_cons.2 ⟨fun n d => by cases n <;> kernel_rfl, (List.forall_mem_cons.2 ⟨fun n d => by cases n <;> kernel_rfl, (List.forall_mem_cons.2 ⟨fun n d => by cases n <;> kernel_rfl, (List.forall_mem_cons.2 ⟨fun n d => by cases n <;> kernel_rfl, (List.forall_mem_cons.2 ⟨fun n d => by cases n <;> kernel_rfl, (List.forall_mem_cons.2 ⟨fun n d => by cases n <;> kernel_rfl, (List.forall_mem_cons.2 ⟨fun n d => by cases n <;> kernel_rfl, (List.forall_mem_cons.2 ⟨fun n d => by cases n <;> kernel_rfl, (List.forall_mem_cons.2 ⟨fun n d => by cases n <;> kernel_rfl, (List.forall_mem_cons.2 ⟨fun n d => by cases n <;> kernel_rfl, (List.forall_mem_cons.2 ⟨fun n d => by cases n <;> kernel_rfl, (List.forall_mem_cons.2 ⟨fun n d => by cases n <;> kernel_rfl, (List.forall_mem_cons.2 ⟨fun n d => by cases n <;> kernel_rfl, (List.forall_mem_cons.2 ⟨fun n d => by cases n <;> kernel_rfl, (List.forall_mem_cons.2 ⟨fun n d => by cases n <;> kernel_rfl, (List.forall_mem_cons.2 ⟨fun n d => by cases n <;> kernel_rfl, (List.forall_mem_cons.2 ⟨fun n d => by cases n <;> kernel_rfl, (List.forall_mem_cons.2 ⟨fun n d => by cases n <;> kernel_rfl, (List.forall_mem_cons.2 ⟨fun n d => by cases n <;> kernel_rfl, (List.forall_mem_cons.2 ⟨fun n d => by cases n <;> kernel_rfl, (List.forall_mem_cons.2 ⟨fun n d => by cases n <;> kernel_rfl, (List.forall_mem_cons.2 ⟨fun n d => by cases n <;> kernel_rfl, (List.forall_mem_cons.2 ⟨fun n d => by cases n <;> kernel_rfl, (List.forall_mem_cons.2 ⟨fun n d => by cases n <;> kernel_rfl, (List.forall_mem_cons.2 ⟨fun n d => by cases n <;> kernel_rfl, (List.forall_mem_cons.2 ⟨fun n d => by cases n <;> kernel_rfl, (List.forall_mem_cons.2 ⟨fun n d => by cases n <;> kernel_rfl, (List.forall_mem_cons.2 ⟨fun n d => by cases n <;> kernel_rfl, (List.forall_mem_cons.2 ⟨fun n d => by cases n <;> kernel_rfl, (List.forall_mem_cons.2 ⟨fun n d => by cases n <;> kernel_rfl, (List.forall_mem_cons.2 ⟨fun n d => by cases n <;> kernel_rfl, (List.forall_mem_cons.2 ⟨fun n d => by cases n <;> kernel_rfl, (List.forall_mem_cons.2 ⟨fun n d => by cases n <;> kernel_rfl, (List.forall_mem_cons.2 ⟨fun n d => by cases n <;> kernel_rfl, (fun _ h => absurd h (by simp))⟩)⟩)⟩)⟩)⟩)⟩)⟩)⟩)⟩)⟩)⟩)⟩)⟩)⟩)⟩)⟩)⟩)⟩)⟩)⟩)⟩)⟩)⟩)⟩)⟩)⟩)⟩)⟩)⟩)⟩)⟩)⟩)⟩)⟩)⟩)⟩)⟩)⟩)⟩)
end K01

/-! K01O: what isinstance tells of each. -/
namespace K01
open PySem L2 DL
theorem own_ok : ∀ p ∈ pairs, ∀ d : Dt, f_law_is_own.run [.exc p.1 [(p.2, d)], .str p.1] = some (.ret (.val (.bl true)) [.non, .non]) := by
  unfold pairs
  exact (List.forall_mem_cons.2 ⟨fun d => by kernel_rfl, (List.forall_mem_cons.2 ⟨fun d => by kernel_rfl, (List.forall_mem_cons.2 ⟨fun d => by kernel_rfl, (List.forall_mem_cons.2 ⟨fun d => by kernel_rfl, (List.forall_mem_cons.2 ⟨fun d => by kernel_rfl, (List.forall_mem_cons.2 ⟨fun d => by kernel_rfl, (List.forall_mem_cons.2 ⟨fun d => by kernel_rfl, (List.forall_mem_cons.2 ⟨fun d => by kernel_rfl, (List.forall_mem_cons.2 ⟨fun d => by kernel_rfl, (List.forall_mem_cons.2 ⟨fun d => by kernel_rfl, (List.forall_mem_cons.2 ⟨fun d => by kernel_rfl, (List.forall_mem_cons.2 ⟨fun d => by kernel_rfl, (List.forall_mem_cons.2 ⟨fun d => by kernel_rfl, (List.forall_mem_cons.2 ⟨fun d => by kernel_rfl, (List.forall_mem_cons.2 ⟨fun d => by kernel_rfl, (List.forall_mem_cons.2 ⟨fun d => by kernel_rfl, (List.forall_mem_cons.2 ⟨fun d => by kernel_rfl, (List.forall_mem_cons.2 ⟨fun d => by kernel_rfl, (List.forall_mem_cons.2 ⟨fun d => by kernel_rfl, (List.forall_mem_cons.2 ⟨fun d => by kernel_rfl, (List.forall_mem_cons.2 ⟨fun d => by kernel_rfl, (List.forall_mem_cons.2 ⟨fun d => by kernel_rfl, (List.forall_mem_cons.2 ⟨fun d => by kernel_rfl, (List.forall_mem_cons.2 ⟨fun d => by kernel_rfl, (List.forall_mem_cons.2 ⟨fun d => by kernel_rfl, (List.forall_mem_cons.2 ⟨fun d => by kernel_rfl, (List.forall_mem_cons.2 ⟨fun d => by kernel_rfl, (List.forall_mem_cons.2 ⟨fun d => by kernel_rfl, (List.forall_mem_cons.2 ⟨fun d => by kernel_rfl, (List.forall_mem_cons.2 ⟨fun d => by kernel_rfl, (List.forall_mem_cons.2 ⟨fun d => by kernel_rfl, (List.forall_mem_cons.2 ⟨fun d => by kernel_rfl, (List.forall_mem_cons.2 ⟨fun d => by kernel_rfl, (List.forall_mem_cons.2 ⟨fun d => by kernel_rfl, (List.forall_mem_cons.2 ⟨fun d => by kernel_rfl, (List.forall_mem_cons.2 ⟨fun d => by kernel_rfl, (List.forall_mem_cons.2 ⟨fun d => by kernel_rfl, (List.forall_mem_cons.2 ⟨fun d => by kernel_rfl, (List.forall_mem_cons.2 ⟨fun d => by kernel_rfl, (fun _ h => absurd h (by simp))⟩)⟩)⟩)⟩)⟩)⟩)⟩)⟩)⟩)⟩)⟩)⟩)⟩)⟩)⟩)⟩)⟩)⟩)⟩)⟩)⟩)⟩)⟩)⟩)⟩)⟩)⟩)⟩)⟩)⟩)⟩)⟩)⟩)⟩)⟩)⟩)⟩)⟩)⟩)
theorem own_z1 : f_law_is_own.run [.exc0 "NoFilling", .str "NoFilling"] = some (.ret (.val (.bl true)) [.non, .non]) := by kernel_rfl
theorem own_z2 : f_law_is_own.run [.exc0 "Begun", .str "Begun"] = some (.ret (.val (.bl true)) [.non, .non]) := by kernel_rfl
theorem own_z3 : f_law_is_own.run [.exc0 "Over", .str "Over"] = some (.ret (.val (.bl true)) [.non, .non]) := by kernel_rfl
end K01

/-! K01M: the turns, the law. -/
namespace K01
open PySem L2 DL
def turnB : M Fl := (mSeq (mSet 3 (mFn f_law_value [(mN 0)]))
  (mSeq (mSet 4 (mFn f_law_made [(mN 1), (mN 3), (mN 2)]))
  (mSeq (mSet 5 (mIf (mTC gIn (mN 1) (mFn f_law_given [])) (mUn (gFx names "given") (mN 4)) (mUn (gFx names "index") (mN 4))))
  (mIfS (mOr (mNot (mT (mFn f_law_is [(mN 5), (mN 3)]))) (mNot (mT (mFn f_law_is_own [(mN 4), (mN 1)])))) (mRet (mC (.bl false))) (M.pure .nx)))))
theorem io_value : f_law_value.io = [.io] := rfl
theorem io_made : f_law_made.io = [.fz, .fz, .fz] := rfl
theorem io_given : f_law_given.io = [] := rfl
theorem io_index : f_law_index.io = [] := rfl
theorem io_is : f_law_is.io = [.fz, .fz] := rfl
theorem io_own : f_law_is_own.io = [.fz, .fz] := rfl
theorem fx_ok {x g : Str} {d : Dt} (hx : x ∈ names) : gFx names g (.exc x [(g, d)]) = some (.val d) := by
  show (if x ∈ names then (List.lookup g [(g, d)]).map R.val else none) = _
  rw [if_pos hx, List.lookup_cons]
  simp
theorem isIo_fz {d : Dt} : isIo (some (d, .fz)) = false := rfl
theorem isIo_none : isIo none = false := rfl
theorem turn_ok {p : Str × Str} (hp : p ∈ pairs) (n : Bool) {a b c : Int} (ha : 0 ≤ a) {s3 s4 s5 : Option (Dt × Md)} (h3 : isIo s3 = false) (h4 : isIo s4 = false) (h5 : isIo s5 = false) :
    ∃ a' b' c' t3 t4 t5, 0 ≤ a' ∧ isIo t3 = false ∧ isIo t4 = false ∧ isIo t5 = false ∧
      turnB [some (well a b c, .io), some (.str p.1, .fz), some (.bl n, .fz), s3, s4, s5] = some (.ok .nx [some (well a' b' c', .io), some (.str p.1, .fz), some (.bl n, .fz), t3, t4, t5]) := by
  obtain ⟨d, a', b', c', hd, ha', hv⟩ := value_ok (b := b) (c := c) ha
  have hm := made_ok p hp n d
  have hin := in_ok p hp
  have his := is_vals d hd
  have how := own_ok p hp d
  obtain ⟨hn, hg⟩ := which p hp
  have hfx := fx_ok (g := p.2) (d := d) hn
  refine ⟨a', b', c', some (d, .fz), some (.exc p.1 [(p.2, d)], .fz), some (d, .fz), ha', rfl, rfl, rfl, ?_⟩
  rcases hg with hg | hg
  · rw [hg] at hm hin how hfx
    rw [hg]
    simp [turnB, mIf, mOr, mNot, mUn, use1, hv, hm, hin, his, how, hfx, given_run, io_value, io_made, io_given, io_is, io_own, h3, h4, h5, mSeq, M.bind, M.pure, mIfS, mTC, mT, mOp, mN, mC, gs, use2, rs, useT, mA, frz, putS, isIo_fz, isIo_none, mRet, retR, mSet, setR, mFn, argsD, callF, lent, isOwn, putB, setD]
  · rw [hg] at hm hin how hfx
    rw [show decide (("index" : Str) = "given") = false by decide +kernel] at hin
    rw [hg]
    simp [turnB, mIf, mOr, mNot, mUn, use1, hv, hm, hin, his, how, hfx, given_run, io_value, io_made, io_given, io_is, io_own, h3, h4, h5, mSeq, M.bind, M.pure, mIfS, mTC, mT, mOp, mN, mC, gs, use2, rs, useT, mA, frz, putS, isIo_fz, isIo_none, mRet, retR, mSet, setR, mFn, argsD, callF, lent, isOwn, putB, setD]
/-- a place that may be written -/
def Fre (s : Option (Dt × Md)) : Prop := isIo s = false
def Env6 (env : DL.Env) : Prop := ∃ a b c s1 s2 s3 s4 s5, 0 ≤ a ∧ isIo s1 = false ∧ isIo s2 = false ∧ isIo s3 = false ∧ isIo s4 = false ∧ isIo s5 = false ∧ env = [some (well a b c, .io), s1, s2, s3, s4, s5]
theorem inner_ok {p : Str × Str} (hp : p ∈ pairs) {env : DL.Env} (he : Env6 env) : ∃ env', Env6 env' ∧ ((gN 1 (.str p.1)).bind fun _ => mFor (mItems (mTup [(mC (.bl false)), (mC (.bl true))])) (gN 2) turnB) env = some (.ok .nx env') := by
  obtain ⟨a, b, c, s1, s2, s3, s4, s5, ha, h1, h2, h3, h4, h5, rfl⟩ := he
  obtain ⟨a1, b1, c1, t3, t4, t5, ha1, g3, g4, g5, e1⟩ := turn_ok hp false (b := b) (c := c) ha h3 h4 h5
  obtain ⟨a2, b2, c2, u3, u4, u5, ha2, k3, k4, k5, e2⟩ := turn_ok hp true (b := b1) (c := c1) ha1 g3 g4 g5
  refine ⟨_, ⟨a2, b2, c2, some (.str p.1, .fz), some (.bl true, .fz), u3, u4, u5, ha2, rfl, rfl, k3, k4, k5, rfl⟩, ?_⟩
  simp [gN, putS, M.bind, M.pure, mFor, mItems, mTup, mA, mC, frz, frzA, dispT, line, itemsD, forL, h1, h2, isIo_fz, gs, e1, e2]
theorem outer_ok : ∀ (ps : List (Str × Str)), (∀ p ∈ ps, p ∈ pairs) → ∀ env : DL.Env, Env6 env → ∃ env', Env6 env' ∧ forL (gN 1) (mFor (mItems (mTup [(mC (.bl false)), (mC (.bl true))])) (gN 2) turnB) (ps.map fun p => .str p.1) env = some (.ok .nx env')
  | [], _, env, he => ⟨env, he, rfl⟩
  | p :: ps, h, env, he => by
    obtain ⟨env1, h1, e1⟩ := inner_ok (h p List.mem_cons_self) he
    obtain ⟨env2, h2, e2⟩ := outer_ok ps (fun q hq => h q (List.mem_cons_of_mem _ hq)) env1 h1
    refine ⟨env2, h2, ?_⟩
    show ((gN 1 (.str p.1)).bind fun _ => (mFor (mItems (mTup [(mC (.bl false)), (mC (.bl true))])) (gN 2) turnB).bind fun f => match f with
      | .nx => forL (gN 1) _ (ps.map fun p => .str p.1)
      | .ct => forL (gN 1) _ (ps.map fun p => .str p.1)
      | .bk => M.pure .nx
      | .rt d o => M.pure (.rt d o)) env = _
    have e1' := e1
    unfold M.bind at e1' ⊢
    cases c : gN 1 (.str p.1) env with
    | none => rw [c] at e1'; cases e1'
    | some r =>
      cases r with
      | er z e => rw [c] at e1'; cases e1'
      | ok f e3 =>
        rw [c] at e1'
        have e1'' : mFor (mItems (mTup [(mC (.bl false)), (mC (.bl true))])) (gN 2) turnB e3 = some (.ok .nx env1) := e1'
        simp only [M.bind, e1'']
        exact e2
theorem words : givens.map Dt.str ++ indexes.map Dt.str = pairs.map fun p => Dt.str p.1 := by kernel_rfl
theorem right_ok {a b c : Int} (ha : 0 ≤ a) : ∃ o, f_law_right.run [well a b c] = some (.ret (.val (.bl true)) [o]) := by
  obtain ⟨env', ⟨a', b', c', s1, s2, s3, s4, s5, ha', h1, h2, h3, h4, h5, rfl⟩, e⟩ := outer_ok pairs (fun p hp => hp) [some (well a b c, .io), none, none, none, none, none] ⟨a, b, c, none, none, none, none, none, ha, rfl, rfl, rfl, rfl, rfl, rfl⟩
  refine ⟨well a' b' c', ?_⟩
  have hw : (List.map Dt.str givens).length + (List.map Dt.str indexes).length ≤ line := by decide
  have src : mItems (mOp gPlus (mFn f_law_given []) (mFn f_law_index [])) [some (well a b c, .io), none, none, none, none, none] = some (.ok (pairs.map fun p => Dt.str p.1) [some (well a b c, .io), none, none, none, none, none]) := by
    rw [← words]
    simp only [List.length_map] at hw
    simp [mItems, mOp, mFn, mA, M.bind, M.pure, io_given, io_index, argsD, callF, given_run, index_run, lent, putB, use2, rs, gPlus, gOr, gAdd, gI, gCatS, gCatL, hw, frz, itemsD]
  show runB [.io] 5 (mSeq (mFor _ (gN 1) (mFor (mItems (mTup [(mC (.bl false)), (mC (.bl true))])) (gN 2) turnB)) _) [well a b c] = _
  unfold runB
  have st : startE [.io] 5 [well a b c] = [some (well a b c, .io), none, none, none, none, none] := rfl
  rw [st]
  unfold mSeq mFor
  simp only [M.bind, src]
  unfold mFor at e
  simp only [e]
  simp [mRet, mAndV, mT, mFn, mA, mExc0, mC, M.bind, M.pure, io_own, argsD, frz, callF, lent, own_z1, own_z2, own_z3, putB, useT, rs, retR, finF, outsOf]
end K01

/-! K01N: the well, the law. -/
namespace K01
open PySem L2 DL
def cellB : M Fl := (mSet 2 (mOp gMod (mCall gInt [(mOp gPlus (mOp gPlus (mOp gMul (mN 2) (mC (.int 47521))) (mOp gMod (mCall gInt [(mN 3)]) (mC (.int 2147483549)))) (mC (.int 41)))]) (mC (.int 2147483629))))
theorem cell_one (S : Dt) (lap st n : Int) : cellB [some (S, .fz), some (.int lap, .fz), some (.int st, .fz), some (.int n, .fz), none] = some (.ok .nx [some (S, .fz), some (.int lap, .fz), some (.int ((st * 47521 + n % 2147483549 + 41) % 2147483629), .fz), some (.int n, .fz), none]) := by
  have s1 : small 47521 = true := by decide
  simp [putS, M.bind, M.pure, cellB, mSet, mOp, mN, mC, gs, use2, rs, mCall, mA, useA, rsA, gMul, gPlus, gOr, gAdd, gMod, gI, gInt, s1, setR, frz, isIo_fz]
theorem cells_ok (S : Dt) (lap : Int) : ∀ (l : List Int) (st : Int) (s3 : Option (Dt × Md)), isIo s3 = false → ∃ st' s3', isIo s3' = false ∧
    forL (gN 3) cellB (l.map Dt.int) [some (S, .fz), some (.int lap, .fz), some (.int st, .fz), s3, none] = some (.ok .nx [some (S, .fz), some (.int lap, .fz), some (.int st', .fz), s3', none])
  | [], st, s3, h => ⟨st, s3, h, rfl⟩
  | n :: l, st, s3, h => by
    obtain ⟨st', s3', h', e⟩ := cells_ok S lap l ((st * 47521 + n % 2147483549 + 41) % 2147483629) (some (.int n, .fz)) rfl
    refine ⟨st', s3', h', ?_⟩
    simp [forL, gN, putS, M.bind, h, gs, cell_one, e]
theorem own_at {ns : List Int} {lap : Int} (h0 : 0 ≤ lap) (h : lap < ns.length) : ∃ i, atD (ns.map Dt.int) lap = some (.int i) := by
  have hr : lap.toNat < ns.length := by omega
  refine ⟨ns[lap.toNat]'hr, ?_⟩
  have hi : ixN (ns.map Dt.int).length lap = some lap.toNat := by
    unfold ixN
    rw [List.length_map, if_pos h0, if_pos h]
  unfold atD
  rw [hi]
  show (ns.map Dt.int)[lap.toNat]? = _
  rw [List.getElem?_map, List.getElem?_eq_getElem hr]
  rfl
theorem well_ok (ns : List Int) {lap : Int} (h0 : 0 ≤ lap) : ∃ a b, 0 ≤ a ∧ f_law_well.run [.scr (ns.map Dt.int), .int lap] = some (.ret (.new (well a b 0)) [.non, .non]) := by
  have e9 : cutD (ns.map Dt.int) none (some 9) = (ns.take 9).map Dt.int := by
    unfold cutD
    rw [HT.sIx_none, List.drop_zero, Nat.sub_zero, List.length_map, List.map_take]
    have q : HT.sIx ns.length ns.length (some 9) = min 9 ns.length := HT.sIx_nat _ _ 9
    rw [q]
    rcases Nat.le_total 9 ns.length with z | z
    · rw [Nat.min_eq_left z]
    · rw [Nat.min_eq_right z, List.take_of_length_le (by rw [List.length_map]; omega), List.take_of_length_le (by rw [List.length_map]; omega)]
  obtain ⟨st, s3, h3, e⟩ := cells_ok (.scr (ns.map Dt.int)) lap (ns.take 9) (16983 + 5231 * lap) none rfl
  have s1 : small 5231 = true := by decide
  have s2 : small 61 = true := by decide
  have s4 : small 16007 = true := by decide
  have fin : ∀ (own : Int), ∃ a b, 0 ≤ a ∧ (mSeq (mSet 2 (mOp gMod (mCall gInt [(mOp gPlus (mOp gPlus (mOp gMul (mN 2) (mC (.int 61))) (mOp gMul (mOp gMod (mCall gInt [(mN 4)]) (mC (.int 2147483549))) (mC (.int 16007)))) (mC (.int 17)))]) (mC (.int 2147483629))))
      (mRet (mLst [(mIf (mOr (mTC gLess (mN 4) (mC (.int 0))) (mTC gGe (mN 4) (mOp gPow (mC (.int 10)) (mC (.int 15))))) (mCall gAbs [(mN 4)]) (mC (.int 0))), (mN 2), (mC (.int 0))]))) [some (.scr (ns.map Dt.int), .fz), some (.int lap, .fz), some (.int st, .fz), s3, some (.int own, .fz)] =
      some (.ok (.rt (well a b 0) true) [some (.scr (ns.map Dt.int), .fz), some (.int lap, .fz), some (.int b, .fz), s3, some (.int own, .fz)]) := fun own => by
    have p15 : gPow (.int 10) (.int 15) = some (.val (.int 1000000000000000)) := by kernel_rfl
    have b0 : ∀ b : Int, (st * 61 + own % 2147483549 * 16007 + 17) % 2147483629 = b → True := fun _ _ => trivial
    by_cases c1 : own < 0
    · refine ⟨-own, (st * 61 + own % 2147483549 * 16007 + 17) % 2147483629, by omega, ?_⟩
      simp [mSeq, putS, M.bind, M.pure, mSet, mOp, mN, mC, gs, use2, rs, mCall, mA, useA, rsA, gMul, gPlus, gOr, gAdd, gMod, gI, gInt, s2, s4, setR, frz, isIo_fz, mRet, mLst, mIf, mOr, mTC, mT, gLess, gLt, useT, c1, gAbs, frzA, dispL, line, retR, well]
    · by_cases c2 : own ≥ 1000000000000000
      · refine ⟨own, (st * 61 + own % 2147483549 * 16007 + 17) % 2147483629, by omega, ?_⟩
        simp [mSeq, putS, M.bind, M.pure, mSet, mOp, mN, mC, gs, use2, rs, mCall, mA, useA, rsA, gMul, gPlus, gOr, gAdd, gMod, gI, gInt, s2, s4, setR, frz, isIo_fz, mRet, mLst, mIf, mOr, mTC, mT, gLess, gLt, gGe, useT, c1, c2, p15, gAbs, frzA, dispL, line, retR, well]
      · refine ⟨0, (st * 61 + own % 2147483549 * 16007 + 17) % 2147483629, by omega, ?_⟩
        simp [mSeq, putS, M.bind, M.pure, mSet, mOp, mN, mC, gs, use2, rs, mCall, mA, useA, rsA, gMul, gPlus, gOr, gAdd, gMod, gI, gInt, s2, s4, setR, frz, isIo_fz, mRet, mLst, mIf, mOr, mTC, mT, gLess, gLt, gGe, useT, c1, c2, p15, gAbs, frzA, dispL, line, retR, well]
  have pick : ∃ own, (mSet 4 (mIf (mTC gLess (mN 1) (mCall gLen [(mN 0)])) (mCall gInt [(mOp gIdx (mN 0) (mN 1))]) (mC (.int 0)))) [some (.scr (ns.map Dt.int), .fz), some (.int lap, .fz), some (.int st, .fz), s3, none] =
      some (.ok .nx [some (.scr (ns.map Dt.int), .fz), some (.int lap, .fz), some (.int st, .fz), s3, some (.int own, .fz)]) := by
    by_cases c : lap < ns.length
    · obtain ⟨own, h⟩ := own_at h0 c
      refine ⟨own, ?_⟩
      simp [mSet, mIf, mTC, mT, mOp, mN, mC, gs, use2, rs, mCall, mA, useA, rsA, M.bind, M.pure, gLess, gOr, gLt, gI, gLen, lenD, seqD, useT, c, gIdx, h, gInt, setR, frz, putS, isIo_fz, isIo_none]
    · refine ⟨0, ?_⟩
      simp [mSet, mIf, mTC, mT, mOp, mN, mC, gs, use2, rs, mCall, mA, useA, rsA, M.bind, M.pure, gLess, gOr, gLt, gI, gLen, lenD, seqD, useT, c, setR, frz, putS, isIo_fz, isIo_none]
  obtain ⟨own, hp⟩ := pick
  obtain ⟨a, b, ha, hf⟩ := fin own
  refine ⟨a, b, ha, ?_⟩
  have src : mItems (mSl (mN 0) none (some (mC (.int 9)))) [some (.scr (ns.map Dt.int), .fz), some (.int lap, .fz), some (.int (16983 + 5231 * lap), .fz), none, none] = some (.ok ((ns.take 9).map Dt.int) [some (.scr (ns.map Dt.int), .fz), some (.int lap, .fz), some (.int (16983 + 5231 * lap), .fz), none, none]) := by
    simp only [mItems, mSl, mN, gs, M.bind, M.pure, partM, mC, useI, rs, use1, gSl, e9, frz, itemsD, List.getElem?_cons_zero, Option.getD_some]
  have first : (mSet 2 (mOp gPlus (mC (.int 16983)) (mOp gMul (mC (.int 5231)) (mN 1)))) [some (.scr (ns.map Dt.int), .fz), some (.int lap, .fz), none, none, none] = some (.ok .nx [some (.scr (ns.map Dt.int), .fz), some (.int lap, .fz), some (.int (16983 + 5231 * lap), .fz), none, none]) := by
    simp [mSet, mOp, mN, mC, gs, use2, rs, M.bind, M.pure, gPlus, gOr, gAdd, gMul, gI, s1, setR, frz, putS, isIo_fz, isIo_none]
  have loop : mFor (mItems (mSl (mN 0) none (some (mC (.int 9))))) (gN 3) cellB [some (.scr (ns.map Dt.int), .fz), some (.int lap, .fz), some (.int (16983 + 5231 * lap), .fz), none, none] = some (.ok .nx [some (.scr (ns.map Dt.int), .fz), some (.int lap, .fz), some (.int st, .fz), s3, none]) := by
    unfold mFor
    simp only [M.bind, src]
    exact e
  show runB [.fz, .fz] 3 (mSeq _ (mSeq (mFor _ (gN 3) cellB) (mSeq _ _))) [_, _] = _
  unfold runB
  have stt : startE [.fz, .fz] 3 [.scr (ns.map Dt.int), .int lap] = [some (.scr (ns.map Dt.int), .fz), some (.int lap, .fz), none, none, none] := rfl
  rw [stt]
  unfold mSeq at hf ⊢
  simp only [M.bind, first, loop, hp] at hf ⊢
  rw [hf]
  rfl
/-! ### the law -/
theorem io_well : f_law_well.io = [.fz, .fz] := rfl
def eltB : M R := (mFnT f_law_right (mFn f_law_well [(mN 0), (mN 1)]))
theorem elt_ok (ns : List Int) {lap : Int} (h0 : 0 ≤ lap) : noEr eltB [some (.scr (ns.map Dt.int), .fz), some (.int lap, .fz)] = some (.ok (.val (.bl true)) [some (.scr (ns.map Dt.int), .fz), some (.int lap, .fz)]) := by
  obtain ⟨a, b, ha, hw⟩ := well_ok ns h0
  obtain ⟨o, hr⟩ := right_ok (b := b) (c := 0) ha
  simp [eltB, noEr, mFnT, mFn, mA, mN, gs, M.bind, M.pure, io_well, argsD, frz, callF, lent, hw, putB, runT, hr]
theorem lc_ok (ns : List Int) : ∀ (l : List Int) (acc : List Dt), (∀ i ∈ l, 0 ≤ i) → acc.length + l.length ≤ 100 →
    lcL [1] (gN 1) (noEr (M.pure true)) (noEr eltB) (l.map Dt.int) acc [some (.scr (ns.map Dt.int), .fz), none] = some (.ok (.new (.lst (acc ++ List.replicate l.length (.bl true)))) [some (.scr (ns.map Dt.int), .fz), none])
  | [], acc, _, _ => by simp [lcL, M.pure]
  | i :: l, acc, h, hl => by
    have ih := lc_ok ns l (acc ++ [.bl true]) (fun j hj => h j (List.mem_cons_of_mem _ hj)) (by simp only [List.length_append, List.length_cons, List.length_nil] at hl ⊢; omega)
    have he := elt_ok ns (h i List.mem_cons_self)
    have hacc : acc.length < line := by
      unfold line
      simp only [List.length_cons] at hl
      omega
    have hpt : ∀ env : DL.Env, noEr (M.pure true) env = some (.ok true env) := fun _ => rfl
    simp only [List.map_cons, lcL, M.bind, gN, putS, isIo_none, gs, List.length_cons, List.length_nil, hpt, List.getElem?_cons_succ, List.getElem?_cons_zero, Option.getD_some, List.set_cons_succ, List.set_cons_zero]
    simp [M.bind, he, frz, hacc, wipeE, ih, List.replicate_succ]
theorem all_ok (k : Nat) : gAll [.lst (List.replicate k (.bl true))] = some (.val (.bl true)) := by
  have h : blsD (List.replicate k (.bl true)) = some (List.replicate k true) := by
    induction k with
    | zero => rfl
    | succ k ih => rw [List.replicate_succ, List.replicate_succ]; unfold blsD; rw [ih]; rfl
  unfold gAll gBls
  simp only [lstD, h, Option.map_some]
  congr 3
  simp
theorem src_ok (ns : List Int) (hl : ns.length ≤ 63) : ∃ l : List Int, (∀ i ∈ l, 0 ≤ i) ∧ l.length ≤ 2 ∧ mRng1 (mCall gMax2 [(mC (.int 1)), (mCall gMin2 [(mCall gLen [(mN 0)]), (mC (.int 2))])]) [some (.scr (ns.map Dt.int), .fz), none] = some (.ok (l.map Dt.int) [some (.scr (ns.map Dt.int), .fz), none]) := by
  by_cases c : ns.length < 2
  · refine ⟨[0], by simp, by simp, ?_⟩
    have c1 : ¬ ((2 : Int) < ns.length) := by omega
    have c2 : ¬ ((ns.length : Int) > 1) := by omega
    simp [mRng1, mCall, mA, mC, mN, gs, M.bind, M.pure, useA, rsA, rs, gLen, lenD, seqD, gMin2, gMax2, rng1, c1, c2, bndR, rangeD]
  · refine ⟨[0, 1], by simp, by simp, ?_⟩
    by_cases d : (2 : Int) < ns.length
    · simp [mRng1, mCall, mA, mC, mN, gs, M.bind, M.pure, useA, rsA, rs, gLen, lenD, seqD, gMin2, gMax2, rng1, d, bndR, rangeD]
    · have e : (ns.length : Int) = 2 := by omega
      simp [mRng1, mCall, mA, mC, mN, gs, M.bind, M.pure, useA, rsA, rs, gLen, lenD, seqD, gMin2, gMax2, rng1, e, bndR, rangeD]
theorem law_yes : AllTrue 63 flaw where
  io := rfl
  yes := fun ns hl => by
    obtain ⟨l, h0, h2, hs⟩ := src_ok ns hl
    have hlc := lc_ok ns l [] h0 (by simp only [List.length_nil]; omega)
    have hg : lcG [1] (lcL [1] (gN 1) (noEr (M.pure true)) (noEr eltB) (l.map Dt.int) []) [some (.scr (ns.map Dt.int), .fz), none] = some (.ok (.new (.lst ([] ++ List.replicate l.length (.bl true)))) [some (.scr (ns.map Dt.int), .fz), none]) := by
      unfold lcG
      rw [if_pos (by rfl)]
      unfold onEr
      rw [hlc]
    have hm : mLC [1] (mRng1 (mCall gMax2 [(mC (.int 1)), (mCall gMin2 [(mCall gLen [(mN 0)]), (mC (.int 2))])])) (gN 1) (M.pure true) eltB [some (.scr (ns.map Dt.int), .fz), none] = some (.ok (.new (.lst (List.replicate l.length (.bl true)))) [some (.scr (ns.map Dt.int), .fz), none]) := by
      unfold mLC
      simp only [M.bind, hs]
      exact hg
    have key : ∀ (q : M R) (env : DL.Env) (k : Nat), q env = some (.ok (.new (.lst (List.replicate k (.bl true)))) env) → (mRet (mCall gAll [q])) env = some (.ok (.rt (.bl true) false) env) := fun q env k hq => by
      simp [mRet, mCall, mA, M.bind, M.pure, hq, useA, rsA, rs, all_ok, retR]
    show runB [.fz] 1 (mRet (mCall gAll [mLC [1] _ (gN 1) (M.pure true) eltB])) [_] = _
    unfold runB
    have stt : startE [.fz] 1 [.scr (ns.map Dt.int)] = [some (.scr (ns.map Dt.int), .fz), none] := rfl
    rw [stt, key _ _ _ hm]
    rfl
end K01

/-! K01E: what the top has written; the law. -/
namespace K01
open PySem L2 DL DX PySem.W
/-- the written part that a heap has -/
abbrev frg {K : Frag} {h : Heap} (_ : K.In h) : Frag := K
def asC (o : Option (Option Value)) : Option Addr := match o with
  | some (some (.ref C)) => some C
  | _ => none
theorem asC_some {o : Option (Option Value)} {C : Addr} (h : asC o = some C) : o = some (some (.ref C)) := by
  unfold asC at h
  split at h
  · cases h; rfl
  · cases h
def clsAt (K : Frag) (x : Str) : Option Addr := asC (nsIn K mainGlobals x)
/-- a class of exceptions, as it is asked -/
def exrOk (K : Frag) (C : Addr) : Bool := (clsIn K C).isSome && (findIn K (.ref C) "__getattribute__" == some (some (.builtin "BaseException.__getattribute__"))) && (findIn K (.ref C) "__getattr__" == some none) && (subIn K (.ref C) (.type "BaseException") == some true) &&
  (findIn K (.ref C) "__class__" == some (some (.builtin "object.__class__"))) && (specialIn K (.builtin "object.__class__") "__get__" == some (some (.builtin "getset_descriptor.__get__"))) && (takesIn K (.builtin "object.__class__") == some true) && (mroIn K C (.type "object") == some true) && hasDictIn K C
theorem exr_of {K : Frag} {C : Addr} (h : exrOk K C = true) : ExR K C := by
  unfold exrOk at h
  simp only [Bool.and_eq_true, beq_iff_eq] at h
  obtain ⟨⟨⟨⟨⟨⟨⟨⟨h1, h2⟩, h3⟩, h4⟩, h5⟩, h6⟩, h7⟩, h8⟩, h9⟩ := h
  exact ⟨h1, h2, h3, h4, h5, h6, h7, h8, h9⟩
def others : List String := ["TypeError", "LookupError", "ArithmeticError", "AttributeError", "RuntimeError"]
/-- the chain of a class: itself, HallError, ValueError's own -/
def mroB (K : Frag) (C H : Addr) : Bool := match clsIn K C with
  | some cd => (match cd.mro with
    | .ref C' :: .ref H' :: r => decide (C' = C) && decide (H' = H) && r.all fun v => (match v with
      | .ref _ => false
      | _ => true)
    | _ => false)
  | none => false
def rowOk (K : Frag) (x : Str) : Bool := match clsAt K x with
  | some C => exrOk K C && (findIn K (.ref C) "given" == some none) && (findIn K (.ref C) "index" == some none) && (kitOne K (.ref C) (.type "ValueError") == some true) && (kitAny K (.ref C) (others.map Value.type) == some false) &&
      (match clsAt K "HallError" with | some D => (kitOne K (.ref C) (.ref D) == some true) && mroB K C D | none => false) && (typeIn K (.ref C) == some (.type "type"))
  | none => false
def addrs (K : Frag) : List (Option Addr) := (("HallError" : Str) :: names).map (clsAt K)
theorem at_mg {K : Frag} {h : Heap} {mg : Str → Option Value} {x : Str} {C D : Addr} (X : K.In h) (G : h.Ns mainGlobals mg) (e : clsAt K x = some C) (q : mg x = some (.ref D)) : D = C := by
  have z := mg_of X G (asC_some e)
  rw [q] at z
  cases z
  rfl
theorem nodup_at {α : Type} {f : Str → α} : ∀ {l : List Str}, (l.map f).Nodup → ∀ {x y : Str}, x ∈ l → y ∈ l → f x = f y → x = y
  | [], _, _, _, h, _, _ => by cases h
  | z :: l, h, x, y, hx, hy, e => by
    obtain ⟨h1, h2⟩ := List.nodup_cons.mp h
    rcases List.mem_cons.mp hx with a | a
    · rcases List.mem_cons.mp hy with b | b
      · rw [a, b]
      · subst a
        exact absurd (by rw [e]; exact List.mem_map_of_mem b) h1
    · rcases List.mem_cons.mp hy with b | b
      · subst b
        exact absurd (by rw [← e]; exact List.mem_map_of_mem a) h1
      · exact nodup_at h2 a b e
theorem mro_out {K : Frag} {C H D : Addr} (b : mroB K C H = true) (n1 : D ≠ C) (n2 : D ≠ H) : subIn K (.ref C) (.ref D) = some false := by
  unfold mroB at b
  show mroIn K C (.ref D) = some false
  unfold mroIn
  cases e : clsIn K C with
  | none => rw [e] at b; cases b
  | some cd =>
    rw [e] at b
    dsimp only at b
    rw [Option.bind_some]
    split at b
    · rename_i C' H' r hm
      simp only [Bool.and_eq_true, decide_eq_true_eq] at b
      obtain ⟨⟨z1, z2⟩, z3⟩ := b
      subst z1 z2
      rw [hm, if_neg (by simp)]
      have z : (Value.ref C' :: Value.ref H' :: r).contains (.ref D) = false := by
        rw [List.contains_cons, List.contains_cons]
        have e1 : (Value.ref D == Value.ref C') = false := by simpa using n1
        have e2 : (Value.ref D == Value.ref H') = false := by simpa using n2
        rw [e1, e2]
        have e3 : r.contains (.ref D) = false := by
          rw [← Bool.not_eq_true]
          intro q
          have q2 : Value.ref D ∈ r := by simpa using q
          have q3 := List.all_eq_true.mp z3 _ q2
          cases q3
        rw [e3]
        rfl
      rw [z]
    · cases b
theorem tab_of {K : Frag} {h : Heap} {mg : Str → Option Value} (X : K.In h) (G : h.Ns mainGlobals mg) (hr : names.all (rowOk K) = true) (hnd : (addrs K).Nodup) :
    XTab K mg names tab "" ∧ (∀ c ∈ names, ∀ C, mg c = some (.ref C) → ExR K C ∧ findIn K (.ref C) "given" = some none) ∧ (∀ c ∈ names, ∀ C, mg c = some (.ref C) → ExR K C ∧ findIn K (.ref C) "index" = some none) := by
  have row : ∀ c ∈ names, ∀ C, mg c = some (.ref C) → clsAt K c = some C ∧ ExR K C ∧ findIn K (.ref C) "given" = some none ∧ findIn K (.ref C) "index" = some none ∧ kitOne K (.ref C) (.type "ValueError") = some true ∧ kitAny K (.ref C) (others.map Value.type) = some false ∧
      (∀ D, mg "HallError" = some (.ref D) → kitOne K (.ref C) (.ref D) = some true) ∧ (∃ D, clsAt K "HallError" = some D ∧ mroB K C D = true) ∧ typeIn K (.ref C) = some (.type "type") := fun c hc C hC => by
    have q := List.all_eq_true.mp hr c hc
    unfold rowOk at q
    cases e : clsAt K c with
    | none => rw [e] at q; cases q
    | some C' =>
      have eC := at_mg X G e hC
      subst eC
      rw [e] at q
      simp only [Bool.and_eq_true, beq_iff_eq] at q
      obtain ⟨⟨⟨⟨⟨⟨q1, q2⟩, q3⟩, q4⟩, q5⟩, q6⟩, q7⟩ := q
      cases e2 : clsAt K "HallError" with
      | none => rw [e2] at q6; cases q6
      | some D' =>
        rw [e2] at q6
        dsimp only at q6
        rw [Bool.and_eq_true, beq_iff_eq] at q6
        exact ⟨rfl, exr_of q1, q2, q3, q4, q5, fun D hD => by rw [at_mg X G e2 hD]; exact q6.1, ⟨D', rfl, q6.2⟩, q7⟩
  refine ⟨⟨fun c hc C hC => (row c hc C hC).2.1, fun c hc C hC t b ht => ?_⟩, fun c hc C hC => ⟨(row c hc C hC).2.1, (row c hc C hC).2.2.1⟩, fun c hc C hC => ⟨(row c hc C hC).2.1, (row c hc C hC).2.2.2.1⟩⟩
  obtain ⟨r0, r1, r2, r3, r4, r5, r6, ⟨Hh, hH, r7⟩, r8⟩ := row c hc C hC
  unfold tab at ht
  split at ht
  · rename_i y
    by_cases c1 : y = "HallError"
    · rw [if_pos c1] at ht
      cases ht
      intro D hD
      exact r6 D (by rw [← c1]; exact hD)
    · rw [if_neg c1] at ht
      by_cases c2 : y ∈ names
      · rw [if_pos c2] at ht
        cases ht
        intro D hD
        obtain ⟨s0, s1, _, _, _, _, _, _, s8⟩ := row y c2 D hD
        by_cases c3 : c = y
        · subst c3
          have eD : D = C := by rw [r0] at s0; cases s0; rfl
          subst eD
          rw [decide_eq_true rfl]
          unfold kitOne
          rw [if_pos (by simp)]
        · rw [decide_eq_false c3]
          have nD : D ≠ C := fun q => c3 (nodup_at hnd (List.mem_cons_of_mem _ hc) (List.mem_cons_of_mem _ c2) (by rw [r0, s0, q]))
          have nH : D ≠ Hh := fun q => c1 (nodup_at hnd (List.mem_cons_of_mem _ c2) List.mem_cons_self (by rw [s0, hH, q]))
          unfold kitOne
          rw [if_neg (by simpa using fun q : C = D => nD q.symm)]
          unfold kitCls
          dsimp only
          rw [s1.hcl, s8, if_pos (by simp)]
          exact mro_out r7 nD nH
      · rw [if_neg c2] at ht; cases ht
  · rename_i n
    by_cases c1 : n = "ValueError"
    · rw [if_pos c1] at ht
      cases ht
      subst c1
      exact r4
    · rw [if_neg c1] at ht; cases ht
  · rename_i ts
    split at ht
    · cases ht
      exact ⟨others, rfl, r5⟩
    · cases ht
  · cases ht
/-- a class with an __init__ -/
def iniOk (K : Frag) (g : Str) (C : Addr) : Bool := (findIn K (.ref C) "__setattr__" == some (some (.builtin "object.__setattr__"))) && (subIn K (.ref C) (.type "BaseException") == some true) && (typeIn K (.ref C) == some (.type "type")) && keepIn K (.ref C) && (findIn K (.ref C) g == some none) &&
  (mroIn K C (.ref C) == some true) && (ks_superIn K C C "__init__" == some (some (.builtin "ValueError.__init__"))) && (subIn K (.ref C) (.type "ValueError") == some true) && (nsIn K cStatics "thirdparty.any" == some none)
theorem clsi {P : Program} {K : Frag} {h : Heap} {mg : Str → Option Value} {x g : Str} {C fI cc cda N : Addr} (X : K.In h) (G : h.Ns mainGlobals mg)
    {nm q : Str} {bs bm : List Value} {sn : List Str} {sub : List Value} {ab : Bool} {col : Option Bool} {dd : Option Addr} {m0 m1 m2 m3 m5 : Option Value}
    {name qual : Str} {dV kV doc pm ct oc ccl cl : Value} {an od cdd cld : Option Addr} {osl ccs csl : Array (Option Value)} {vs : Array Value} {file : Str} {tf : Tok} {q0 q1 p0 p1 p2 p3 p4 p6 p7 p8 p9 : Pos}
    (aC : nsIn K mainGlobals x = some (some (.ref C))) (xL : K.lookup C = some (excClassObj nm q C N bs bm true sn sub ab col dd m0 m1 m2 m3 m5 "ValueError.__new__")) (hbm : HandSPX.refsVE bm = true)
    (a1 : findIn K (.ref C) "__init__" = some (some (.ref fI))) (l1 : K.lookup fI = some ⟨oc, od, .func (ksFn name qual (iniArgs g q0 q1) (iniBody g p0 p1 p2 p3 p4 p6 p7 p8 p9) (iniScope g) dV kV doc pm an (.ref cda) ct cc), osl⟩) (hoc : oc = .type "function") (c1 : codeIn K (.ref cda) qual = true)
    (lc : K.lookup cda = some ⟨ccl, cdd, .fields vs, ccs⟩) (hvs : vs[2]? = some (.str file tf)) (hfile : ((P.main.file : Str) == file) = true) (lcell : K.lookup cc = some ⟨cl, cld, .cell (some (.ref C)), csl⟩)
    (ok : iniOk K g C = true) (htop : (P.main.scope.names.lookup ("super" : Str)).isSome = false) (hsup : SupEq g p0 p1 p2 p3 p4)
    (hsw : ∀ env : PySem.Env, swapsWith (.Name g p8) (some (.Attribute (.Name "self" p6) g p7)) p9.line env = pure false)
    (hb1 : ∀ (s : Shared) (a v : Value), BindsTo s (ksFn name qual (iniArgs g q0 q1) (iniBody g p0 p1 p2 p3 p4 p6 p7 p8 p9) (iniScope g) dV kV doc pm an (.ref cda) ct cc) ⟨[a, v], []⟩ [("self", a), (g, v)])
    (hb2 : ∀ (s : Shared) (a v : Value), BindsTo s (ksFn name qual (iniArgs g q0 q1) (iniBody g p0 p1 p2 p3 p4 p6 p7 p8 p9) (iniScope g) dV kV doc pm an (.ref cda) ct cc) ⟨[a], [(g, v)]⟩ [("self", a), (g, v)]) :
    ClsI P K mg x g := by
  unfold iniOk at ok
  simp only [Bool.and_eq_true, beq_iff_eq] at ok
  obtain ⟨⟨⟨⟨⟨⟨⟨⟨o1, o2⟩, o3⟩, o4⟩, o5⟩, o6⟩, o7⟩, o8⟩, o9⟩ := ok
  exact ⟨C, fI, cc, cda, mg_of X G aC, ⟨⟨⟨nm, q, N, bs, bm, sn, sub, ab, col, dd, m0, m1, m2, m3, m5, xL, hbm⟩, o1, o2, o3, o4⟩, a1, o5,
    ⟨q0, q1, p0, p1, p2, p3, p4, p6, p7, p8, p9, name, qual, dV, kV, doc, pm, ct, oc, an, od, osl, l1, hoc, c1, hsup, hsw, hb1, hb2⟩, ⟨ccl, cdd, vs, ccs, file, tf, lc, hvs, hfile⟩, ⟨cl, cld, csl, lcell⟩, o6, o7, o8, o9, htop⟩⟩
theorem clsz {K : Frag} {h : Heap} {mg : Str → Option Value} {x : Str} {C : Addr} (X : K.In h) (G : h.Ns mainGlobals mg) (a : nsIn K mainGlobals x = some (some (.ref C)))
    (e : excIn K C [.type "ValueError", .type "Exception", .type "BaseException", .type "object"] "ValueError.__new__" = true) (k : keepIn K (.ref C) = true) : ClsZ K mg x := ⟨C, mg_of X G a, e, k⟩
def gone (K : Frag) (x : Str) : Bool := nsIn K mainGlobals x == some none
def known (K : Frag) (x : Str) : Bool := (clsAt K x).isSome
theorem txt_mk {P : Program} {K : Frag} {h : Heap} {mg : Str → Option Value} (X : K.In h) (G : h.Ns mainGlobals mg) (hb : blts.all (gone K) = true) (hk : (("HallError" : Str) :: names).all (known K) = true)
    (hg : ∀ y ∈ givens, ClsI P K mg y "given") (hi : ∀ y ∈ indexes, ClsI P K mg y "index") (hz : ∀ x, x ∈ ([("NoFilling" : Str), ("Begun" : Str), ("Over" : Str)] : List Str) → ClsZ K mg x)
    (t1 : XTab K mg names tab "") (t2 : ∀ c ∈ names, ∀ C, mg c = some (.ref C) → ExR K C ∧ findIn K (.ref C) "given" = some none) (t3 : ∀ c ∈ names, ∀ C, mg c = some (.ref C) → ExR K C ∧ findIn K (.ref C) "index" = some none) : Txt P K mg where
  nb := fun x hx => mg_none_of X G (beq_iff_eq.mp (List.all_eq_true.mp hb x hx))
  gl := fun x hx => by
    have q := List.all_eq_true.mp hk x hx
    unfold known at q
    cases e : clsAt K x with
    | none => rw [e] at q; cases q
    | some C => exact ⟨C, mg_of X G (asC_some e)⟩
  ex := fun x g h => by
    rcases List.mem_append.mp h with h | h
    · obtain ⟨y, hy, e⟩ := List.mem_map.mp h
      cases e
      exact hg _ hy
    · obtain ⟨y, hy, e⟩ := List.mem_map.mp h
      cases e
      exact hi _ hy
  ez := hz
  tab := t1
  fx_given := t2
  fx_index := t3

/-! ### the run's own look -/
def refsR (o : Obj) : List Addr := match o.data with
  | .dict es _ => es.toList.flatMap fun e => He.refV e.val
  | .cls cd => [cd.ns]
  | .func fd => He.refV fd.code ++ fd.closure.map (·.2)
  | _ => []
def downR (g : Addr → Option Obj) (as : List Addr) : List Addr := as.flatMap fun a => match g a with
  | some o => refsR o
  | none => []
/-- what the module's names reach: classes and defs, their namespaces and codes, the __init__s, their codes and cells -/
def asR (g : Addr → Option Obj) : List Addr := (fun l1 => (fun l2 => (fun l3 => mainGlobals :: cStatics :: l1 ++ (l2 ++ (l3 ++ downR g l3))) (downR g l2)) (downR g l1)) (downR g [mainGlobals])
/-- an own exception's __init__: parameters, body, scope, globals, builtins -/
abbrev InV : Type := Option (Arguments × FuncBody × Scope × Addr × Addr)
def inObs (K : Frag) (x : Str) : InV := match K.lookup (He.ma K (He.ga K x) "__init__") with
  | some ⟨_, _, .func fd, _⟩ => some (fd.params, fd.body, fd.scope, fd.globals, fd.builtins)
  | _ => none
def inVal (st : Stmt) : InV := some (defArgs st, .stmts (defBody st), defScope st, mainGlobals, builtinsNs)
def clsB (K : Frag) (C : Addr) : Bool := match K.lookup C with
  | some ⟨.type "type", _, .cls cd, sl⟩ => (match cd.mro, sl.toList with
    | .ref D :: bm, [_, _, _, _, some (.builtin n), _] => decide (D = C) && decide (n = "ValueError.__new__") && !cd.hasDel && cd.hasDict && HandSPX.refsVE bm
    | _, _ => false)
  | _ => false
def celB (K : Frag) (cc C : Addr) : Bool := match K.lookup cc with
  | some ⟨_, _, .cell (some (.ref D)), _⟩ => decide (D = C)
  | _ => false
def filB (K : Frag) (file : Str) (cda : Addr) : Bool := match K.lookup cda with
  | some ⟨_, _, .fields vs, _⟩ => (match (vs[2]? : Option Value) with
    | some (.str f _) => file == f
    | _ => false)
  | _ => false
def fncB (K : Frag) (file : Str) (C f : Addr) : Bool := match K.lookup f with
  | some ⟨.type "function", _, .func fd, _⟩ => (match fd.closure, fd.code, fd.defaults with
    | [(n, cc)], .ref cda, .none => decide (n = "__class__") && celB K cc C && codeIn K (.ref cda) fd.qualname && filB K file cda
    | _, _, _ => false)
  | _ => false
def iniB (K : Frag) (file x g : Str) : Bool := decide (nsIn K mainGlobals x = some (some (.ref (He.ga K x)))) && decide (findIn K (.ref (He.ga K x)) "__init__" = some (some (.ref (He.ma K (He.ga K x) "__init__")))) && clsB K (He.ga K x) && iniOk K g (He.ga K x) && fncB K file (He.ga K x) (He.ma K (He.ga K x) "__init__")
theorem cls_of {K : Frag} {C : Addr} (q : clsB K C = true) : ∃ nm qn N bs bm sn sub ab col dd k0 k1 k2 k3 k5, K.lookup C = some (excClassObj nm qn C N bs bm true sn sub ab col dd k0 k1 k2 k3 k5 "ValueError.__new__") ∧ HandSPX.refsVE bm = true := by
  unfold clsB at q
  split at q
  · rename_i dd cd sl ho
    split at q
    · rename_i D bm k0 k1 k2 k3 n k5 hm hs
      simp only [Bool.and_eq_true, decide_eq_true_eq, Bool.not_eq_true'] at q
      obtain ⟨⟨⟨⟨z1, z2⟩, z3⟩, z4⟩, z5⟩ := q
      subst z1 z2
      obtain ⟨nm, bs, mro, ns, qn, hd, sn, sub, ab, col, del⟩ := cd
      dsimp only at hm z3 z4
      subst hm z3 z4
      obtain ⟨l⟩ := sl
      dsimp only at hs
      subst hs
      exact ⟨nm, qn, ns, bs, bm, sn, sub, ab, col, dd, k0, k1, k2, k3, k5, ho, z5⟩
    · cases q
  · cases q
theorem ini_of {P : Program} {K : Frag} {h : Heap} {mg : Str → Option Value} {x g : Str} {st : Stmt} {q0 q1 p0 p1 p2 p3 p4 p6 p7 p8 p9 : Pos} (X : K.In h) (G : h.Ns mainGlobals mg) (b : iniB K P.main.file x g = true) (v : inObs K x = inVal st)
    (ea : defArgs st = iniArgs g q0 q1) (eb : defBody st = iniBody g p0 p1 p2 p3 p4 p6 p7 p8 p9) (es : defScope st = iniScope g) (htop : (P.main.scope.names.lookup ("super" : Str)).isSome = false) (hsup : SupEq g p0 p1 p2 p3 p4)
    (hsw : ∀ env : PySem.Env, swapsWith (.Name g p8) (some (.Attribute (.Name "self" p6) g p7)) p9.line env = pure false)
    (hb1 : ∀ (name qual : Str) (kV doc pm ct cdv : Value) (an : Option Addr) (cc : Addr) (s : Shared) (a v : Value), BindsTo s (ksFn name qual (iniArgs g q0 q1) (iniBody g p0 p1 p2 p3 p4 p6 p7 p8 p9) (iniScope g) .none kV doc pm an cdv ct cc) ⟨[a, v], []⟩ [("self", a), (g, v)])
    (hb2 : ∀ (name qual : Str) (kV doc pm ct cdv : Value) (an : Option Addr) (cc : Addr) (s : Shared) (a v : Value), BindsTo s (ksFn name qual (iniArgs g q0 q1) (iniBody g p0 p1 p2 p3 p4 p6 p7 p8 p9) (iniScope g) .none kV doc pm an cdv ct cc) ⟨[a], [(g, v)]⟩ [("self", a), (g, v)]) :
    ClsI P K mg x g := by
  unfold iniB at b
  simp only [Bool.and_eq_true, decide_eq_true_eq] at b
  obtain ⟨⟨⟨⟨b1, b2⟩, b3⟩, b4⟩, b5⟩ := b
  obtain ⟨nm, qn, N, bs, bm, sn, sub, ab, col, dd, k0, k1, k2, k3, k5, xL, hbm⟩ := cls_of b3
  unfold inObs at v
  unfold fncB at b5
  split at b5
  · rename_i od fd osl lf
    rw [lf] at v
    dsimp only at v
    split at b5
    · rename_i n cc cda hcl hcd hdf
      simp only [Bool.and_eq_true, decide_eq_true_eq] at b5
      obtain ⟨⟨⟨c1, c2⟩, c3⟩, c4⟩ := b5
      subst c1
      obtain ⟨n1, n2, n3, n4, n5, n6, n7, n8, n9, n10, n11, n12, n13, n14, n15⟩ := fd
      dsimp only at hcl hcd hdf v c3
      subst hcl hcd hdf
      unfold inVal at v
      simp only [Option.some.injEq, Prod.mk.injEq] at v
      obtain ⟨v1, v2, v3, v4, v5⟩ := v
      rw [ea] at v1
      rw [eb] at v2
      rw [es] at v3
      subst v1 v2 v3 v4 v5
      unfold celB at c2
      split at c2
      · rename_i cl cld D csl lcc
        have eD : D = He.ga K x := of_decide_eq_true c2
        subst eD
        unfold filB at c4
        split at c4
        · rename_i ccl cdd vs ccs lcd
          split at c4
          · rename_i f tf hvs
            exact clsi X G b1 xL hbm b2 lf rfl c3 lcd hvs c4 lcc b4 htop hsup hsw (fun s a v => hb1 _ _ _ _ _ _ _ _ _ s a v) (fun s a v => hb2 _ _ _ _ _ _ _ _ _ s a v)
          · cases c4
        · cases c4
      · cases c2
    · cases b5
  · cases b5
def zB (K : Frag) (x : Str) : Bool := decide (nsIn K mainGlobals x = some (some (.ref (He.ga K x)))) && excIn K (He.ga K x) [.type "ValueError", .type "Exception", .type "BaseException", .type "object"] "ValueError.__new__" && keepIn K (.ref (He.ga K x))
def fB (K : Frag) (d : He.FnD) : Bool := decide (nsIn K mainGlobals d.name = some (some (.ref (He.ga K d.name)))) && keepIn K (.ref (He.ga K d.name)) && (He.Fa.code d.at_ d.qual).ok K
def mkD (x : Str) (i : Nat) : He.FnD := ⟨(x, none), x, x, defArgs (top i), defBody (top i), defScope (top i)⟩
def fns : List He.FnD := [mkD "_law_well" 45, mkD "_law_draw" 46, mkD "_law_of" 47, mkD "_law_is" 48, mkD "_law_given" 49, mkD "_law_index" 50, mkD "_law_value" 51, mkD "_law_made_a" 52, mkD "_law_made_b" 53, mkD "_law_made_c" 54, mkD "_law_made" 55, mkD "_law_kinds_a" 56, mkD "_law_kinds_b" 57, mkD "_law_is_own" 58, mkD "_law_right" 59, mkD "law" 60]
def inis : List (Str × Str × Nat) := ([("InvalidNumber", "given", 2), ("InvalidStuff", "given", 3), ("InvalidPlace", "given", 4), ("InvalidRoad", "given", 5), ("InvalidBounds", "given", 6), ("InvalidCourse", "given", 7), ("InvalidLine", "given", 8), ("NotAKitchen", "given", 9), ("NotAPlan", "given", 10), ("NotARecord", "given", 11), ("NotASheet", "given", 12), ("NotADesk", "given", 13), ("UnknownRecipe", "given", 14)] : List (Str × Str × Nat)) ++ ([("UnknownStock", "given", 15), ("UnknownPromise", "given", 16), ("UnknownOrder", "given", 17), ("UnknownUse", "given", 18), ("UnknownLot", "given", 19), ("Unfit", "given", 20), ("OverBounds", "given", 21), ("TooLarge", "given", 22), ("InvalidGoods", "index", 23), ("InvalidRecipes", "index", 24), ("InvalidClasses", "index", 25), ("InvalidTools", "index", 26), ("InvalidCooks", "index", 27)] : List (Str × Str × Nat)) ++ ([("InvalidDeeds", "index", 28), ("InvalidWashings", "index", 29), ("InvalidHands", "index", 30), ("InvalidPromises", "index", 31), ("InvalidLines", "index", 32), ("InvalidLots", "index", 33), ("InvalidTicks", "index", 34), ("InvalidUses", "index", 35), ("InvalidCounts", "index", 36), ("InvalidParts", "index", 37), ("InvalidStarts", "index", 38), ("InvalidBars", "index", 39), ("InvalidText", "index", 40)] : List (Str × Str × Nat))
def zeros : List Str := [("NoFilling" : Str), ("Begun" : Str), ("Over" : Str)]
abbrev Ax : Type := Bool × List He.FnV × List InV
def allB (K : Frag) : Bool := names.all (rowOk K) && decide (addrs K).Nodup && blts.all (gone K) && (("HallError" : Str) :: names).all (known K) && inis.all (fun p => iniB K "/claim/cut.py" p.1 p.2.1) && zeros.all (zB K) && fns.all (fB K)
def obsK (K : Frag) : Ax := (allB K, fns.map (fun d => He.fnObs K d.at_), inis.map fun p => inObs K p.1)
def valX : Ax := (true, fns.map He.FnD.val, inis.map fun p => inVal (inClass (top p.2.2) 0))
def SaysX (K : Frag) : Prop := obsK K = valX
def obsX (g : Addr → Option Obj) : Ax := obsK (He.frG g (asR g))
def hkX : Hook where
  α := Ax
  obs := fun s => obsX s.heap.get?
  val := fun _ => valX
  says := fun _ h => ∃ K : Frag, K.In h ∧ SaysX K
  of := fun _ _ e => ⟨_, He.frG_in, e⟩
  keeps := fun _ _ _ ⟨K, hK, c⟩ k => ⟨K, Frag.In.keeps hK k, c⟩
def obX (s : SharedT) : Ax := obsX (HandSHeadRun.getT s)
theorem obX_eq (s : SharedT) : obX s = hkX.obs s.abs := by
  have e : HandSHeadRun.getT s = s.abs.heap.get? := funext (HandSHeadRun.getT_eq s)
  show obsX (HandSHeadRun.getT s) = obsX s.abs.heap.get?
  rw [e]
abbrev RX : OpenRow := OpenLaw.row PySem.Challenge.rw_ovenhall_k01_errors_each_of_its_own
def looseX : List Str := [("HallError" : Str), ("InvalidNumber" : Str), ("InvalidStuff" : Str), ("InvalidPlace" : Str), ("InvalidRoad" : Str), ("InvalidBounds" : Str), ("InvalidCourse" : Str), ("InvalidLine" : Str), ("NotAKitchen" : Str), ("NotAPlan" : Str), ("NotARecord" : Str), ("NotASheet" : Str), ("NotADesk" : Str), ("UnknownRecipe" : Str), ("UnknownStock" : Str), ("UnknownPromise" : Str), ("UnknownOrder" : Str), ("UnknownUse" : Str), ("UnknownLot" : Str), ("Unfit" : Str)] ++ [("OverBounds" : Str), ("TooLarge" : Str), ("InvalidGoods" : Str), ("InvalidRecipes" : Str), ("InvalidClasses" : Str), ("InvalidTools" : Str), ("InvalidCooks" : Str), ("InvalidDeeds" : Str), ("InvalidWashings" : Str), ("InvalidHands" : Str), ("InvalidPromises" : Str), ("InvalidLines" : Str), ("InvalidLots" : Str), ("InvalidTicks" : Str), ("InvalidUses" : Str), ("InvalidCounts" : Str), ("InvalidParts" : Str), ("InvalidStarts" : Str), ("InvalidBars" : Str), ("InvalidText" : Str)] ++ [("NoFilling" : Str), ("Begun" : Str), ("Over" : Str), ("_law_well" : Str), ("_law_draw" : Str), ("_law_of" : Str), ("_law_is" : Str), ("_law_given" : Str), ("_law_index" : Str), ("_law_value" : Str), ("_law_made_a" : Str), ("_law_made_b" : Str), ("_law_made_c" : Str), ("_law_made" : Str), ("_law_kinds_a" : Str), ("_law_kinds_b" : Str), ("_law_is_own" : Str), ("_law_right" : Str)]
theorem runX (w : World) : HandSHeadRun.RunEq RX (view RX.prog [60]) hkX obX 16000 looseX w := by
  intro os
  kernel_rfl
end K01

/-! K01F: the law. -/
namespace DL
open PySem L2
theorem data_lawE {l : PySem.W.OpenLaw} {n k : Nat} {q : Program} {loose : List Str} {XP : (Str → Option Value) → Heap → Prop} {YP : World → Heap → Prop} {d : DefRec} {fs : Fs} {x : Str}
    (hn : l.most = some n) (hn2 : n ≤ sizeLine) (hdf : d.params.defaults = []) (hr : Room k callerA)
    (F : ∀ (w : World) (mg : Str → Option Value) (fa : Addr) (h : Heap), YP w h → h.Ns mainGlobals mg → mg d.name = some (.ref fa) →
      ∃ (K : PySem.W.Frag) (fd : FuncData), K.In h ∧ (∀ (s : Shared) (u : Value), BindsTo s fd ⟨[u], []⟩ [(x, u)]) ∧ ∀ base : Heap, K.In base → base.Ns mainGlobals mg → FnG l.prog w K mg base k fa fd [x] (spOf K mg 1 fs))
    (yes : AllTrue n fs) : PySem.W.WalkO q loose XP YP l.row.toRowW d [] (fun f vs => PySem.call f vs) := by
  refine Att.attach_call hn hdf fun w s₀ s₁ mg mb fa o pm cd doc a vs ns G Y ho hd hcd hmg hobj hints hlen hg => ?_
  obtain ⟨K, fd, KX, hb, hF⟩ := F w mg fa _ Y G.T.g hmg
  exact law_run KX G.T.g G.T.b G.T.builtins G.T.nolimit hg hobj hints (Nat.le_trans hlen hn2) hr hF hb yes.io (yes.yes ns hlen)
end DL
namespace K01
open PySem L2 DL DX PySem.W
section
variable {K : Frag} {h : Heap} {mg : Str → Option Value}
theorem says_all (c : SaysX K) : allB K = true := congrArg (fun z : Ax => z.1) c
theorem says_fn (c : SaysX K) (i : Nat) {d : He.FnD} (e : fns[i]? = some d) : He.fnObs K d.at_ = d.val := by
  have q : fns.map (fun d => He.fnObs K d.at_) = fns.map He.FnD.val := congrArg (fun z : Ax => z.2.1) c
  have q2 : (fns.map fun d => He.fnObs K d.at_)[i]? = (fns.map He.FnD.val)[i]? := by rw [q]
  rw [List.getElem?_map, List.getElem?_map, e] at q2
  exact Option.some.inj q2
theorem says_in (c : SaysX K) (i : Nat) {p : Str × Str × Nat} (e : inis[i]? = some p) : inObs K p.1 = inVal (inClass (top p.2.2) 0) := by
  have q : inis.map (fun p => inObs K p.1) = inis.map (fun p => inVal (inClass (top p.2.2) 0)) := congrArg (fun z : Ax => z.2.2) c
  have q2 : (inis.map fun p => inObs K p.1)[i]? = (inis.map fun p => inVal (inClass (top p.2.2) 0))[i]? := by rw [q]
  rw [List.getElem?_map, List.getElem?_map, e] at q2
  exact Option.some.inj q2
structure Alls (K : Frag) : Prop where
  rows : names.all (rowOk K) = true
  nodup : (addrs K).Nodup
  gones : blts.all (gone K) = true
  knowns : (("HallError" : Str) :: names).all (known K) = true
  ini : inis.all (fun p => iniB K "/claim/cut.py" p.1 p.2.1) = true
  zer : zeros.all (zB K) = true
  fn : fns.all (fB K) = true
theorem alls (c : SaysX K) : Alls K := by
  have q := says_all c
  unfold allB at q
  simp only [Bool.and_eq_true] at q
  obtain ⟨⟨⟨⟨⟨⟨q1, q0⟩, q2⟩, q3⟩, q4⟩, q5⟩, q6⟩ := q
  exact ⟨q1, of_decide_eq_true q0, q2, q3, q4, q5, q6⟩
theorem clsi_at (X : K.In h) (G : h.Ns mainGlobals mg) (c : SaysX K) (i : Nat) {x g : Str} {j : Nat} (e : inis[i]? = some (x, g, j)) {q0 q1 p0 p1 p2 p3 p4 p6 p7 p8 p9 : Pos}
    (ea : defArgs (inClass (top j) 0) = iniArgs g q0 q1) (eb : defBody (inClass (top j) 0) = iniBody g p0 p1 p2 p3 p4 p6 p7 p8 p9) (es : defScope (inClass (top j) 0) = iniScope g) (hsup : SupEq g p0 p1 p2 p3 p4)
    (hsw : ∀ env : PySem.Env, swapsWith (.Name g p8) (some (.Attribute (.Name "self" p6) g p7)) p9.line env = pure false)
    (hb1 : ∀ (name qual : Str) (kV doc pm ct cdv : Value) (an : Option Addr) (cc : Addr) (s : Shared) (a v : Value), BindsTo s (ksFn name qual (iniArgs g q0 q1) (iniBody g p0 p1 p2 p3 p4 p6 p7 p8 p9) (iniScope g) .none kV doc pm an cdv ct cc) ⟨[a, v], []⟩ [("self", a), (g, v)])
    (hb2 : ∀ (name qual : Str) (kV doc pm ct cdv : Value) (an : Option Addr) (cc : Addr) (s : Shared) (a v : Value), BindsTo s (ksFn name qual (iniArgs g q0 q1) (iniBody g p0 p1 p2 p3 p4 p6 p7 p8 p9) (iniScope g) .none kV doc pm an cdv ct cc) ⟨[a], [(g, v)]⟩ [("self", a), (g, v)]) :
    ClsI PySem.Challenge.pw_ovenhall_k01_errors_each_of_its_own K mg x g :=
  ini_of X G (List.all_eq_true.mp (alls c).ini _ (List.mem_of_getElem? e)) (says_in c i e) ea eb es (by first | rfl | kernel_rfl) hsup hsw hb1 hb2
theorem fni_at (X : K.In h) (G : h.Ns mainGlobals mg) (c : SaysX K) (i : Nat) {x : Str} {j : Nat} {ps : List Str} (e : fns[i]? = some (mkD x j)) (hb : ∀ f fd, Fun K x x (top j) f fd → Binds K fd ps []) : FnI K mg x ps (top j) := by
  have q := List.all_eq_true.mp (alls c).fn _ (List.mem_of_getElem? e)
  unfold fB at q
  simp only [Bool.and_eq_true, decide_eq_true_eq] at q
  obtain ⟨⟨q1, q2⟩, q3⟩ := q
  obtain ⟨oc, od, osl, kV, doc, pm, an, cdv, ct, l, cd⟩ := He.fn_ok (says_fn c i e) q3
  have F : Fun K x x (top j) (He.ga K x) _ := fun_mk l cd q2
  exact ⟨_, _, F, mg_of X G q1, q2, hb _ _ F⟩
theorem law_at (X : K.In h) (G : h.Ns mainGlobals mg) (c : SaysX K) (i : Nat) (e : fns[i]? = some (mkD "law" 60)) :
    ∃ f fd, Fun K "law" "law" (top 60) f fd ∧ mg "law" = some (.ref f) ∧ ∀ (s : Shared) (u : Value), BindsTo s fd ⟨[u], []⟩ [("script", u)] := by
  have q := List.all_eq_true.mp (alls c).fn _ (List.mem_of_getElem? e)
  unfold fB at q
  simp only [Bool.and_eq_true, decide_eq_true_eq] at q
  obtain ⟨⟨q1, q2⟩, q3⟩ := q
  obtain ⟨oc, od, osl, kV, doc, pm, an, cdv, ct, l, cd⟩ := He.fn_ok (says_fn c i e) q3
  have F : Fun K "law" "law" (top 60) (He.ga K "law") _ := fun_mk l cd q2
  exact ⟨_, _, F, mg_of X G q1, fun s u => .of_eq rfl⟩
theorem clsz_at (X : K.In h) (G : h.Ns mainGlobals mg) (c : SaysX K) {x : Str} (hx : x ∈ zeros) : ClsZ K mg x := by
  have q := List.all_eq_true.mp (alls c).zer _ hx
  unfold zB at q
  simp only [Bool.and_eq_true, decide_eq_true_eq] at q
  obtain ⟨⟨q1, q2⟩, q3⟩ := q
  exact ⟨_, mg_of X G q1, q2, q3⟩
theorem c_InvalidNumber (X : K.In h) (G : h.Ns mainGlobals mg) (c : SaysX K) : ClsI PySem.Challenge.pw_ovenhall_k01_errors_each_of_its_own K mg "InvalidNumber" "given" :=
  clsi_at X G c 0 (j := 2) (by rfl) (q0 := ⟨6, 17, 6, 21⟩) (q1 := ⟨6, 23, 6, 28⟩) (p0 := ⟨7, 8, 7, 13⟩) (p1 := ⟨7, 8, 7, 15⟩) (p2 := ⟨7, 8, 7, 24⟩) (p3 := ⟨7, 25, 7, 30⟩) (p4 := ⟨7, 8, 7, 31⟩) (p6 := ⟨8, 8, 8, 12⟩) (p7 := ⟨8, 8, 8, 18⟩) (p8 := ⟨8, 21, 8, 26⟩) (p9 := ⟨8, 8, 8, 26⟩) (by rfl) (by rfl) (by rfl) ⟨_, fun _ => rfl⟩ (fun _ => rfl) (fun _ _ _ _ _ _ _ _ _ _ _ _ => .of_eq rfl) (fun _ _ _ _ _ _ _ _ _ _ _ _ => .of_eq rfl)
theorem c_InvalidStuff (X : K.In h) (G : h.Ns mainGlobals mg) (c : SaysX K) : ClsI PySem.Challenge.pw_ovenhall_k01_errors_each_of_its_own K mg "InvalidStuff" "given" :=
  clsi_at X G c 1 (j := 3) (by rfl) (q0 := ⟨11, 17, 11, 21⟩) (q1 := ⟨11, 23, 11, 28⟩) (p0 := ⟨12, 8, 12, 13⟩) (p1 := ⟨12, 8, 12, 15⟩) (p2 := ⟨12, 8, 12, 24⟩) (p3 := ⟨12, 25, 12, 30⟩) (p4 := ⟨12, 8, 12, 31⟩) (p6 := ⟨13, 8, 13, 12⟩) (p7 := ⟨13, 8, 13, 18⟩) (p8 := ⟨13, 21, 13, 26⟩) (p9 := ⟨13, 8, 13, 26⟩) (by rfl) (by rfl) (by rfl) ⟨_, fun _ => rfl⟩ (fun _ => rfl) (fun _ _ _ _ _ _ _ _ _ _ _ _ => .of_eq rfl) (fun _ _ _ _ _ _ _ _ _ _ _ _ => .of_eq rfl)
theorem c_InvalidPlace (X : K.In h) (G : h.Ns mainGlobals mg) (c : SaysX K) : ClsI PySem.Challenge.pw_ovenhall_k01_errors_each_of_its_own K mg "InvalidPlace" "given" :=
  clsi_at X G c 2 (j := 4) (by rfl) (q0 := ⟨16, 17, 16, 21⟩) (q1 := ⟨16, 23, 16, 28⟩) (p0 := ⟨17, 8, 17, 13⟩) (p1 := ⟨17, 8, 17, 15⟩) (p2 := ⟨17, 8, 17, 24⟩) (p3 := ⟨17, 25, 17, 30⟩) (p4 := ⟨17, 8, 17, 31⟩) (p6 := ⟨18, 8, 18, 12⟩) (p7 := ⟨18, 8, 18, 18⟩) (p8 := ⟨18, 21, 18, 26⟩) (p9 := ⟨18, 8, 18, 26⟩) (by rfl) (by rfl) (by rfl) ⟨_, fun _ => rfl⟩ (fun _ => rfl) (fun _ _ _ _ _ _ _ _ _ _ _ _ => .of_eq rfl) (fun _ _ _ _ _ _ _ _ _ _ _ _ => .of_eq rfl)
theorem c_InvalidRoad (X : K.In h) (G : h.Ns mainGlobals mg) (c : SaysX K) : ClsI PySem.Challenge.pw_ovenhall_k01_errors_each_of_its_own K mg "InvalidRoad" "given" :=
  clsi_at X G c 3 (j := 5) (by rfl) (q0 := ⟨21, 17, 21, 21⟩) (q1 := ⟨21, 23, 21, 28⟩) (p0 := ⟨22, 8, 22, 13⟩) (p1 := ⟨22, 8, 22, 15⟩) (p2 := ⟨22, 8, 22, 24⟩) (p3 := ⟨22, 25, 22, 30⟩) (p4 := ⟨22, 8, 22, 31⟩) (p6 := ⟨23, 8, 23, 12⟩) (p7 := ⟨23, 8, 23, 18⟩) (p8 := ⟨23, 21, 23, 26⟩) (p9 := ⟨23, 8, 23, 26⟩) (by rfl) (by rfl) (by rfl) ⟨_, fun _ => rfl⟩ (fun _ => rfl) (fun _ _ _ _ _ _ _ _ _ _ _ _ => .of_eq rfl) (fun _ _ _ _ _ _ _ _ _ _ _ _ => .of_eq rfl)
theorem c_InvalidBounds (X : K.In h) (G : h.Ns mainGlobals mg) (c : SaysX K) : ClsI PySem.Challenge.pw_ovenhall_k01_errors_each_of_its_own K mg "InvalidBounds" "given" :=
  clsi_at X G c 4 (j := 6) (by rfl) (q0 := ⟨26, 17, 26, 21⟩) (q1 := ⟨26, 23, 26, 28⟩) (p0 := ⟨27, 8, 27, 13⟩) (p1 := ⟨27, 8, 27, 15⟩) (p2 := ⟨27, 8, 27, 24⟩) (p3 := ⟨27, 25, 27, 30⟩) (p4 := ⟨27, 8, 27, 31⟩) (p6 := ⟨28, 8, 28, 12⟩) (p7 := ⟨28, 8, 28, 18⟩) (p8 := ⟨28, 21, 28, 26⟩) (p9 := ⟨28, 8, 28, 26⟩) (by rfl) (by rfl) (by rfl) ⟨_, fun _ => rfl⟩ (fun _ => rfl) (fun _ _ _ _ _ _ _ _ _ _ _ _ => .of_eq rfl) (fun _ _ _ _ _ _ _ _ _ _ _ _ => .of_eq rfl)
theorem c_InvalidCourse (X : K.In h) (G : h.Ns mainGlobals mg) (c : SaysX K) : ClsI PySem.Challenge.pw_ovenhall_k01_errors_each_of_its_own K mg "InvalidCourse" "given" :=
  clsi_at X G c 5 (j := 7) (by rfl) (q0 := ⟨31, 17, 31, 21⟩) (q1 := ⟨31, 23, 31, 28⟩) (p0 := ⟨32, 8, 32, 13⟩) (p1 := ⟨32, 8, 32, 15⟩) (p2 := ⟨32, 8, 32, 24⟩) (p3 := ⟨32, 25, 32, 30⟩) (p4 := ⟨32, 8, 32, 31⟩) (p6 := ⟨33, 8, 33, 12⟩) (p7 := ⟨33, 8, 33, 18⟩) (p8 := ⟨33, 21, 33, 26⟩) (p9 := ⟨33, 8, 33, 26⟩) (by rfl) (by rfl) (by rfl) ⟨_, fun _ => rfl⟩ (fun _ => rfl) (fun _ _ _ _ _ _ _ _ _ _ _ _ => .of_eq rfl) (fun _ _ _ _ _ _ _ _ _ _ _ _ => .of_eq rfl)
theorem c_InvalidLine (X : K.In h) (G : h.Ns mainGlobals mg) (c : SaysX K) : ClsI PySem.Challenge.pw_ovenhall_k01_errors_each_of_its_own K mg "InvalidLine" "given" :=
  clsi_at X G c 6 (j := 8) (by rfl) (q0 := ⟨36, 17, 36, 21⟩) (q1 := ⟨36, 23, 36, 28⟩) (p0 := ⟨37, 8, 37, 13⟩) (p1 := ⟨37, 8, 37, 15⟩) (p2 := ⟨37, 8, 37, 24⟩) (p3 := ⟨37, 25, 37, 30⟩) (p4 := ⟨37, 8, 37, 31⟩) (p6 := ⟨38, 8, 38, 12⟩) (p7 := ⟨38, 8, 38, 18⟩) (p8 := ⟨38, 21, 38, 26⟩) (p9 := ⟨38, 8, 38, 26⟩) (by rfl) (by rfl) (by rfl) ⟨_, fun _ => rfl⟩ (fun _ => rfl) (fun _ _ _ _ _ _ _ _ _ _ _ _ => .of_eq rfl) (fun _ _ _ _ _ _ _ _ _ _ _ _ => .of_eq rfl)
theorem c_NotAKitchen (X : K.In h) (G : h.Ns mainGlobals mg) (c : SaysX K) : ClsI PySem.Challenge.pw_ovenhall_k01_errors_each_of_its_own K mg "NotAKitchen" "given" :=
  clsi_at X G c 7 (j := 9) (by rfl) (q0 := ⟨41, 17, 41, 21⟩) (q1 := ⟨41, 23, 41, 28⟩) (p0 := ⟨42, 8, 42, 13⟩) (p1 := ⟨42, 8, 42, 15⟩) (p2 := ⟨42, 8, 42, 24⟩) (p3 := ⟨42, 25, 42, 30⟩) (p4 := ⟨42, 8, 42, 31⟩) (p6 := ⟨43, 8, 43, 12⟩) (p7 := ⟨43, 8, 43, 18⟩) (p8 := ⟨43, 21, 43, 26⟩) (p9 := ⟨43, 8, 43, 26⟩) (by rfl) (by rfl) (by rfl) ⟨_, fun _ => rfl⟩ (fun _ => rfl) (fun _ _ _ _ _ _ _ _ _ _ _ _ => .of_eq rfl) (fun _ _ _ _ _ _ _ _ _ _ _ _ => .of_eq rfl)
theorem c_NotAPlan (X : K.In h) (G : h.Ns mainGlobals mg) (c : SaysX K) : ClsI PySem.Challenge.pw_ovenhall_k01_errors_each_of_its_own K mg "NotAPlan" "given" :=
  clsi_at X G c 8 (j := 10) (by rfl) (q0 := ⟨46, 17, 46, 21⟩) (q1 := ⟨46, 23, 46, 28⟩) (p0 := ⟨47, 8, 47, 13⟩) (p1 := ⟨47, 8, 47, 15⟩) (p2 := ⟨47, 8, 47, 24⟩) (p3 := ⟨47, 25, 47, 30⟩) (p4 := ⟨47, 8, 47, 31⟩) (p6 := ⟨48, 8, 48, 12⟩) (p7 := ⟨48, 8, 48, 18⟩) (p8 := ⟨48, 21, 48, 26⟩) (p9 := ⟨48, 8, 48, 26⟩) (by rfl) (by rfl) (by rfl) ⟨_, fun _ => rfl⟩ (fun _ => rfl) (fun _ _ _ _ _ _ _ _ _ _ _ _ => .of_eq rfl) (fun _ _ _ _ _ _ _ _ _ _ _ _ => .of_eq rfl)
theorem c_NotARecord (X : K.In h) (G : h.Ns mainGlobals mg) (c : SaysX K) : ClsI PySem.Challenge.pw_ovenhall_k01_errors_each_of_its_own K mg "NotARecord" "given" :=
  clsi_at X G c 9 (j := 11) (by rfl) (q0 := ⟨51, 17, 51, 21⟩) (q1 := ⟨51, 23, 51, 28⟩) (p0 := ⟨52, 8, 52, 13⟩) (p1 := ⟨52, 8, 52, 15⟩) (p2 := ⟨52, 8, 52, 24⟩) (p3 := ⟨52, 25, 52, 30⟩) (p4 := ⟨52, 8, 52, 31⟩) (p6 := ⟨53, 8, 53, 12⟩) (p7 := ⟨53, 8, 53, 18⟩) (p8 := ⟨53, 21, 53, 26⟩) (p9 := ⟨53, 8, 53, 26⟩) (by rfl) (by rfl) (by rfl) ⟨_, fun _ => rfl⟩ (fun _ => rfl) (fun _ _ _ _ _ _ _ _ _ _ _ _ => .of_eq rfl) (fun _ _ _ _ _ _ _ _ _ _ _ _ => .of_eq rfl)
theorem c_NotASheet (X : K.In h) (G : h.Ns mainGlobals mg) (c : SaysX K) : ClsI PySem.Challenge.pw_ovenhall_k01_errors_each_of_its_own K mg "NotASheet" "given" :=
  clsi_at X G c 10 (j := 12) (by rfl) (q0 := ⟨56, 17, 56, 21⟩) (q1 := ⟨56, 23, 56, 28⟩) (p0 := ⟨57, 8, 57, 13⟩) (p1 := ⟨57, 8, 57, 15⟩) (p2 := ⟨57, 8, 57, 24⟩) (p3 := ⟨57, 25, 57, 30⟩) (p4 := ⟨57, 8, 57, 31⟩) (p6 := ⟨58, 8, 58, 12⟩) (p7 := ⟨58, 8, 58, 18⟩) (p8 := ⟨58, 21, 58, 26⟩) (p9 := ⟨58, 8, 58, 26⟩) (by rfl) (by rfl) (by rfl) ⟨_, fun _ => rfl⟩ (fun _ => rfl) (fun _ _ _ _ _ _ _ _ _ _ _ _ => .of_eq rfl) (fun _ _ _ _ _ _ _ _ _ _ _ _ => .of_eq rfl)
theorem c_NotADesk (X : K.In h) (G : h.Ns mainGlobals mg) (c : SaysX K) : ClsI PySem.Challenge.pw_ovenhall_k01_errors_each_of_its_own K mg "NotADesk" "given" :=
  clsi_at X G c 11 (j := 13) (by rfl) (q0 := ⟨61, 17, 61, 21⟩) (q1 := ⟨61, 23, 61, 28⟩) (p0 := ⟨62, 8, 62, 13⟩) (p1 := ⟨62, 8, 62, 15⟩) (p2 := ⟨62, 8, 62, 24⟩) (p3 := ⟨62, 25, 62, 30⟩) (p4 := ⟨62, 8, 62, 31⟩) (p6 := ⟨63, 8, 63, 12⟩) (p7 := ⟨63, 8, 63, 18⟩) (p8 := ⟨63, 21, 63, 26⟩) (p9 := ⟨63, 8, 63, 26⟩) (by rfl) (by rfl) (by rfl) ⟨_, fun _ => rfl⟩ (fun _ => rfl) (fun _ _ _ _ _ _ _ _ _ _ _ _ => .of_eq rfl) (fun _ _ _ _ _ _ _ _ _ _ _ _ => .of_eq rfl)
theorem c_UnknownRecipe (X : K.In h) (G : h.Ns mainGlobals mg) (c : SaysX K) : ClsI PySem.Challenge.pw_ovenhall_k01_errors_each_of_its_own K mg "UnknownRecipe" "given" :=
  clsi_at X G c 12 (j := 14) (by rfl) (q0 := ⟨66, 17, 66, 21⟩) (q1 := ⟨66, 23, 66, 28⟩) (p0 := ⟨67, 8, 67, 13⟩) (p1 := ⟨67, 8, 67, 15⟩) (p2 := ⟨67, 8, 67, 24⟩) (p3 := ⟨67, 25, 67, 30⟩) (p4 := ⟨67, 8, 67, 31⟩) (p6 := ⟨68, 8, 68, 12⟩) (p7 := ⟨68, 8, 68, 18⟩) (p8 := ⟨68, 21, 68, 26⟩) (p9 := ⟨68, 8, 68, 26⟩) (by rfl) (by rfl) (by rfl) ⟨_, fun _ => rfl⟩ (fun _ => rfl) (fun _ _ _ _ _ _ _ _ _ _ _ _ => .of_eq rfl) (fun _ _ _ _ _ _ _ _ _ _ _ _ => .of_eq rfl)
theorem c_UnknownStock (X : K.In h) (G : h.Ns mainGlobals mg) (c : SaysX K) : ClsI PySem.Challenge.pw_ovenhall_k01_errors_each_of_its_own K mg "UnknownStock" "given" :=
  clsi_at X G c 13 (j := 15) (by rfl) (q0 := ⟨71, 17, 71, 21⟩) (q1 := ⟨71, 23, 71, 28⟩) (p0 := ⟨72, 8, 72, 13⟩) (p1 := ⟨72, 8, 72, 15⟩) (p2 := ⟨72, 8, 72, 24⟩) (p3 := ⟨72, 25, 72, 30⟩) (p4 := ⟨72, 8, 72, 31⟩) (p6 := ⟨73, 8, 73, 12⟩) (p7 := ⟨73, 8, 73, 18⟩) (p8 := ⟨73, 21, 73, 26⟩) (p9 := ⟨73, 8, 73, 26⟩) (by rfl) (by rfl) (by rfl) ⟨_, fun _ => rfl⟩ (fun _ => rfl) (fun _ _ _ _ _ _ _ _ _ _ _ _ => .of_eq rfl) (fun _ _ _ _ _ _ _ _ _ _ _ _ => .of_eq rfl)
theorem c_UnknownPromise (X : K.In h) (G : h.Ns mainGlobals mg) (c : SaysX K) : ClsI PySem.Challenge.pw_ovenhall_k01_errors_each_of_its_own K mg "UnknownPromise" "given" :=
  clsi_at X G c 14 (j := 16) (by rfl) (q0 := ⟨76, 17, 76, 21⟩) (q1 := ⟨76, 23, 76, 28⟩) (p0 := ⟨77, 8, 77, 13⟩) (p1 := ⟨77, 8, 77, 15⟩) (p2 := ⟨77, 8, 77, 24⟩) (p3 := ⟨77, 25, 77, 30⟩) (p4 := ⟨77, 8, 77, 31⟩) (p6 := ⟨78, 8, 78, 12⟩) (p7 := ⟨78, 8, 78, 18⟩) (p8 := ⟨78, 21, 78, 26⟩) (p9 := ⟨78, 8, 78, 26⟩) (by rfl) (by rfl) (by rfl) ⟨_, fun _ => rfl⟩ (fun _ => rfl) (fun _ _ _ _ _ _ _ _ _ _ _ _ => .of_eq rfl) (fun _ _ _ _ _ _ _ _ _ _ _ _ => .of_eq rfl)
theorem c_UnknownOrder (X : K.In h) (G : h.Ns mainGlobals mg) (c : SaysX K) : ClsI PySem.Challenge.pw_ovenhall_k01_errors_each_of_its_own K mg "UnknownOrder" "given" :=
  clsi_at X G c 15 (j := 17) (by rfl) (q0 := ⟨81, 17, 81, 21⟩) (q1 := ⟨81, 23, 81, 28⟩) (p0 := ⟨82, 8, 82, 13⟩) (p1 := ⟨82, 8, 82, 15⟩) (p2 := ⟨82, 8, 82, 24⟩) (p3 := ⟨82, 25, 82, 30⟩) (p4 := ⟨82, 8, 82, 31⟩) (p6 := ⟨83, 8, 83, 12⟩) (p7 := ⟨83, 8, 83, 18⟩) (p8 := ⟨83, 21, 83, 26⟩) (p9 := ⟨83, 8, 83, 26⟩) (by rfl) (by rfl) (by rfl) ⟨_, fun _ => rfl⟩ (fun _ => rfl) (fun _ _ _ _ _ _ _ _ _ _ _ _ => .of_eq rfl) (fun _ _ _ _ _ _ _ _ _ _ _ _ => .of_eq rfl)
theorem c_UnknownUse (X : K.In h) (G : h.Ns mainGlobals mg) (c : SaysX K) : ClsI PySem.Challenge.pw_ovenhall_k01_errors_each_of_its_own K mg "UnknownUse" "given" :=
  clsi_at X G c 16 (j := 18) (by rfl) (q0 := ⟨86, 17, 86, 21⟩) (q1 := ⟨86, 23, 86, 28⟩) (p0 := ⟨87, 8, 87, 13⟩) (p1 := ⟨87, 8, 87, 15⟩) (p2 := ⟨87, 8, 87, 24⟩) (p3 := ⟨87, 25, 87, 30⟩) (p4 := ⟨87, 8, 87, 31⟩) (p6 := ⟨88, 8, 88, 12⟩) (p7 := ⟨88, 8, 88, 18⟩) (p8 := ⟨88, 21, 88, 26⟩) (p9 := ⟨88, 8, 88, 26⟩) (by rfl) (by rfl) (by rfl) ⟨_, fun _ => rfl⟩ (fun _ => rfl) (fun _ _ _ _ _ _ _ _ _ _ _ _ => .of_eq rfl) (fun _ _ _ _ _ _ _ _ _ _ _ _ => .of_eq rfl)
theorem c_UnknownLot (X : K.In h) (G : h.Ns mainGlobals mg) (c : SaysX K) : ClsI PySem.Challenge.pw_ovenhall_k01_errors_each_of_its_own K mg "UnknownLot" "given" :=
  clsi_at X G c 17 (j := 19) (by rfl) (q0 := ⟨91, 17, 91, 21⟩) (q1 := ⟨91, 23, 91, 28⟩) (p0 := ⟨92, 8, 92, 13⟩) (p1 := ⟨92, 8, 92, 15⟩) (p2 := ⟨92, 8, 92, 24⟩) (p3 := ⟨92, 25, 92, 30⟩) (p4 := ⟨92, 8, 92, 31⟩) (p6 := ⟨93, 8, 93, 12⟩) (p7 := ⟨93, 8, 93, 18⟩) (p8 := ⟨93, 21, 93, 26⟩) (p9 := ⟨93, 8, 93, 26⟩) (by rfl) (by rfl) (by rfl) ⟨_, fun _ => rfl⟩ (fun _ => rfl) (fun _ _ _ _ _ _ _ _ _ _ _ _ => .of_eq rfl) (fun _ _ _ _ _ _ _ _ _ _ _ _ => .of_eq rfl)
theorem c_Unfit (X : K.In h) (G : h.Ns mainGlobals mg) (c : SaysX K) : ClsI PySem.Challenge.pw_ovenhall_k01_errors_each_of_its_own K mg "Unfit" "given" :=
  clsi_at X G c 18 (j := 20) (by rfl) (q0 := ⟨96, 17, 96, 21⟩) (q1 := ⟨96, 23, 96, 28⟩) (p0 := ⟨97, 8, 97, 13⟩) (p1 := ⟨97, 8, 97, 15⟩) (p2 := ⟨97, 8, 97, 24⟩) (p3 := ⟨97, 25, 97, 30⟩) (p4 := ⟨97, 8, 97, 31⟩) (p6 := ⟨98, 8, 98, 12⟩) (p7 := ⟨98, 8, 98, 18⟩) (p8 := ⟨98, 21, 98, 26⟩) (p9 := ⟨98, 8, 98, 26⟩) (by rfl) (by rfl) (by rfl) ⟨_, fun _ => rfl⟩ (fun _ => rfl) (fun _ _ _ _ _ _ _ _ _ _ _ _ => .of_eq rfl) (fun _ _ _ _ _ _ _ _ _ _ _ _ => .of_eq rfl)
theorem c_OverBounds (X : K.In h) (G : h.Ns mainGlobals mg) (c : SaysX K) : ClsI PySem.Challenge.pw_ovenhall_k01_errors_each_of_its_own K mg "OverBounds" "given" :=
  clsi_at X G c 19 (j := 21) (by rfl) (q0 := ⟨101, 17, 101, 21⟩) (q1 := ⟨101, 23, 101, 28⟩) (p0 := ⟨102, 8, 102, 13⟩) (p1 := ⟨102, 8, 102, 15⟩) (p2 := ⟨102, 8, 102, 24⟩) (p3 := ⟨102, 25, 102, 30⟩) (p4 := ⟨102, 8, 102, 31⟩) (p6 := ⟨103, 8, 103, 12⟩) (p7 := ⟨103, 8, 103, 18⟩) (p8 := ⟨103, 21, 103, 26⟩) (p9 := ⟨103, 8, 103, 26⟩) (by rfl) (by rfl) (by rfl) ⟨_, fun _ => rfl⟩ (fun _ => rfl) (fun _ _ _ _ _ _ _ _ _ _ _ _ => .of_eq rfl) (fun _ _ _ _ _ _ _ _ _ _ _ _ => .of_eq rfl)
theorem c_TooLarge (X : K.In h) (G : h.Ns mainGlobals mg) (c : SaysX K) : ClsI PySem.Challenge.pw_ovenhall_k01_errors_each_of_its_own K mg "TooLarge" "given" :=
  clsi_at X G c 20 (j := 22) (by rfl) (q0 := ⟨106, 17, 106, 21⟩) (q1 := ⟨106, 23, 106, 28⟩) (p0 := ⟨107, 8, 107, 13⟩) (p1 := ⟨107, 8, 107, 15⟩) (p2 := ⟨107, 8, 107, 24⟩) (p3 := ⟨107, 25, 107, 30⟩) (p4 := ⟨107, 8, 107, 31⟩) (p6 := ⟨108, 8, 108, 12⟩) (p7 := ⟨108, 8, 108, 18⟩) (p8 := ⟨108, 21, 108, 26⟩) (p9 := ⟨108, 8, 108, 26⟩) (by rfl) (by rfl) (by rfl) ⟨_, fun _ => rfl⟩ (fun _ => rfl) (fun _ _ _ _ _ _ _ _ _ _ _ _ => .of_eq rfl) (fun _ _ _ _ _ _ _ _ _ _ _ _ => .of_eq rfl)
theorem c_InvalidGoods (X : K.In h) (G : h.Ns mainGlobals mg) (c : SaysX K) : ClsI PySem.Challenge.pw_ovenhall_k01_errors_each_of_its_own K mg "InvalidGoods" "index" :=
  clsi_at X G c 21 (j := 23) (by rfl) (q0 := ⟨111, 17, 111, 21⟩) (q1 := ⟨111, 23, 111, 28⟩) (p0 := ⟨112, 8, 112, 13⟩) (p1 := ⟨112, 8, 112, 15⟩) (p2 := ⟨112, 8, 112, 24⟩) (p3 := ⟨112, 25, 112, 30⟩) (p4 := ⟨112, 8, 112, 31⟩) (p6 := ⟨113, 8, 113, 12⟩) (p7 := ⟨113, 8, 113, 18⟩) (p8 := ⟨113, 21, 113, 26⟩) (p9 := ⟨113, 8, 113, 26⟩) (by rfl) (by rfl) (by rfl) ⟨_, fun _ => rfl⟩ (fun _ => rfl) (fun _ _ _ _ _ _ _ _ _ _ _ _ => .of_eq rfl) (fun _ _ _ _ _ _ _ _ _ _ _ _ => .of_eq rfl)
theorem c_InvalidRecipes (X : K.In h) (G : h.Ns mainGlobals mg) (c : SaysX K) : ClsI PySem.Challenge.pw_ovenhall_k01_errors_each_of_its_own K mg "InvalidRecipes" "index" :=
  clsi_at X G c 22 (j := 24) (by rfl) (q0 := ⟨116, 17, 116, 21⟩) (q1 := ⟨116, 23, 116, 28⟩) (p0 := ⟨117, 8, 117, 13⟩) (p1 := ⟨117, 8, 117, 15⟩) (p2 := ⟨117, 8, 117, 24⟩) (p3 := ⟨117, 25, 117, 30⟩) (p4 := ⟨117, 8, 117, 31⟩) (p6 := ⟨118, 8, 118, 12⟩) (p7 := ⟨118, 8, 118, 18⟩) (p8 := ⟨118, 21, 118, 26⟩) (p9 := ⟨118, 8, 118, 26⟩) (by rfl) (by rfl) (by rfl) ⟨_, fun _ => rfl⟩ (fun _ => rfl) (fun _ _ _ _ _ _ _ _ _ _ _ _ => .of_eq rfl) (fun _ _ _ _ _ _ _ _ _ _ _ _ => .of_eq rfl)
theorem c_InvalidClasses (X : K.In h) (G : h.Ns mainGlobals mg) (c : SaysX K) : ClsI PySem.Challenge.pw_ovenhall_k01_errors_each_of_its_own K mg "InvalidClasses" "index" :=
  clsi_at X G c 23 (j := 25) (by rfl) (q0 := ⟨121, 17, 121, 21⟩) (q1 := ⟨121, 23, 121, 28⟩) (p0 := ⟨122, 8, 122, 13⟩) (p1 := ⟨122, 8, 122, 15⟩) (p2 := ⟨122, 8, 122, 24⟩) (p3 := ⟨122, 25, 122, 30⟩) (p4 := ⟨122, 8, 122, 31⟩) (p6 := ⟨123, 8, 123, 12⟩) (p7 := ⟨123, 8, 123, 18⟩) (p8 := ⟨123, 21, 123, 26⟩) (p9 := ⟨123, 8, 123, 26⟩) (by rfl) (by rfl) (by rfl) ⟨_, fun _ => rfl⟩ (fun _ => rfl) (fun _ _ _ _ _ _ _ _ _ _ _ _ => .of_eq rfl) (fun _ _ _ _ _ _ _ _ _ _ _ _ => .of_eq rfl)
theorem c_InvalidTools (X : K.In h) (G : h.Ns mainGlobals mg) (c : SaysX K) : ClsI PySem.Challenge.pw_ovenhall_k01_errors_each_of_its_own K mg "InvalidTools" "index" :=
  clsi_at X G c 24 (j := 26) (by rfl) (q0 := ⟨126, 17, 126, 21⟩) (q1 := ⟨126, 23, 126, 28⟩) (p0 := ⟨127, 8, 127, 13⟩) (p1 := ⟨127, 8, 127, 15⟩) (p2 := ⟨127, 8, 127, 24⟩) (p3 := ⟨127, 25, 127, 30⟩) (p4 := ⟨127, 8, 127, 31⟩) (p6 := ⟨128, 8, 128, 12⟩) (p7 := ⟨128, 8, 128, 18⟩) (p8 := ⟨128, 21, 128, 26⟩) (p9 := ⟨128, 8, 128, 26⟩) (by rfl) (by rfl) (by rfl) ⟨_, fun _ => rfl⟩ (fun _ => rfl) (fun _ _ _ _ _ _ _ _ _ _ _ _ => .of_eq rfl) (fun _ _ _ _ _ _ _ _ _ _ _ _ => .of_eq rfl)
theorem c_InvalidCooks (X : K.In h) (G : h.Ns mainGlobals mg) (c : SaysX K) : ClsI PySem.Challenge.pw_ovenhall_k01_errors_each_of_its_own K mg "InvalidCooks" "index" :=
  clsi_at X G c 25 (j := 27) (by rfl) (q0 := ⟨131, 17, 131, 21⟩) (q1 := ⟨131, 23, 131, 28⟩) (p0 := ⟨132, 8, 132, 13⟩) (p1 := ⟨132, 8, 132, 15⟩) (p2 := ⟨132, 8, 132, 24⟩) (p3 := ⟨132, 25, 132, 30⟩) (p4 := ⟨132, 8, 132, 31⟩) (p6 := ⟨133, 8, 133, 12⟩) (p7 := ⟨133, 8, 133, 18⟩) (p8 := ⟨133, 21, 133, 26⟩) (p9 := ⟨133, 8, 133, 26⟩) (by rfl) (by rfl) (by rfl) ⟨_, fun _ => rfl⟩ (fun _ => rfl) (fun _ _ _ _ _ _ _ _ _ _ _ _ => .of_eq rfl) (fun _ _ _ _ _ _ _ _ _ _ _ _ => .of_eq rfl)
theorem c_InvalidDeeds (X : K.In h) (G : h.Ns mainGlobals mg) (c : SaysX K) : ClsI PySem.Challenge.pw_ovenhall_k01_errors_each_of_its_own K mg "InvalidDeeds" "index" :=
  clsi_at X G c 26 (j := 28) (by rfl) (q0 := ⟨136, 17, 136, 21⟩) (q1 := ⟨136, 23, 136, 28⟩) (p0 := ⟨137, 8, 137, 13⟩) (p1 := ⟨137, 8, 137, 15⟩) (p2 := ⟨137, 8, 137, 24⟩) (p3 := ⟨137, 25, 137, 30⟩) (p4 := ⟨137, 8, 137, 31⟩) (p6 := ⟨138, 8, 138, 12⟩) (p7 := ⟨138, 8, 138, 18⟩) (p8 := ⟨138, 21, 138, 26⟩) (p9 := ⟨138, 8, 138, 26⟩) (by rfl) (by rfl) (by rfl) ⟨_, fun _ => rfl⟩ (fun _ => rfl) (fun _ _ _ _ _ _ _ _ _ _ _ _ => .of_eq rfl) (fun _ _ _ _ _ _ _ _ _ _ _ _ => .of_eq rfl)
theorem c_InvalidWashings (X : K.In h) (G : h.Ns mainGlobals mg) (c : SaysX K) : ClsI PySem.Challenge.pw_ovenhall_k01_errors_each_of_its_own K mg "InvalidWashings" "index" :=
  clsi_at X G c 27 (j := 29) (by rfl) (q0 := ⟨141, 17, 141, 21⟩) (q1 := ⟨141, 23, 141, 28⟩) (p0 := ⟨142, 8, 142, 13⟩) (p1 := ⟨142, 8, 142, 15⟩) (p2 := ⟨142, 8, 142, 24⟩) (p3 := ⟨142, 25, 142, 30⟩) (p4 := ⟨142, 8, 142, 31⟩) (p6 := ⟨143, 8, 143, 12⟩) (p7 := ⟨143, 8, 143, 18⟩) (p8 := ⟨143, 21, 143, 26⟩) (p9 := ⟨143, 8, 143, 26⟩) (by rfl) (by rfl) (by rfl) ⟨_, fun _ => rfl⟩ (fun _ => rfl) (fun _ _ _ _ _ _ _ _ _ _ _ _ => .of_eq rfl) (fun _ _ _ _ _ _ _ _ _ _ _ _ => .of_eq rfl)
theorem c_InvalidHands (X : K.In h) (G : h.Ns mainGlobals mg) (c : SaysX K) : ClsI PySem.Challenge.pw_ovenhall_k01_errors_each_of_its_own K mg "InvalidHands" "index" :=
  clsi_at X G c 28 (j := 30) (by rfl) (q0 := ⟨146, 17, 146, 21⟩) (q1 := ⟨146, 23, 146, 28⟩) (p0 := ⟨147, 8, 147, 13⟩) (p1 := ⟨147, 8, 147, 15⟩) (p2 := ⟨147, 8, 147, 24⟩) (p3 := ⟨147, 25, 147, 30⟩) (p4 := ⟨147, 8, 147, 31⟩) (p6 := ⟨148, 8, 148, 12⟩) (p7 := ⟨148, 8, 148, 18⟩) (p8 := ⟨148, 21, 148, 26⟩) (p9 := ⟨148, 8, 148, 26⟩) (by rfl) (by rfl) (by rfl) ⟨_, fun _ => rfl⟩ (fun _ => rfl) (fun _ _ _ _ _ _ _ _ _ _ _ _ => .of_eq rfl) (fun _ _ _ _ _ _ _ _ _ _ _ _ => .of_eq rfl)
theorem c_InvalidPromises (X : K.In h) (G : h.Ns mainGlobals mg) (c : SaysX K) : ClsI PySem.Challenge.pw_ovenhall_k01_errors_each_of_its_own K mg "InvalidPromises" "index" :=
  clsi_at X G c 29 (j := 31) (by rfl) (q0 := ⟨151, 17, 151, 21⟩) (q1 := ⟨151, 23, 151, 28⟩) (p0 := ⟨152, 8, 152, 13⟩) (p1 := ⟨152, 8, 152, 15⟩) (p2 := ⟨152, 8, 152, 24⟩) (p3 := ⟨152, 25, 152, 30⟩) (p4 := ⟨152, 8, 152, 31⟩) (p6 := ⟨153, 8, 153, 12⟩) (p7 := ⟨153, 8, 153, 18⟩) (p8 := ⟨153, 21, 153, 26⟩) (p9 := ⟨153, 8, 153, 26⟩) (by rfl) (by rfl) (by rfl) ⟨_, fun _ => rfl⟩ (fun _ => rfl) (fun _ _ _ _ _ _ _ _ _ _ _ _ => .of_eq rfl) (fun _ _ _ _ _ _ _ _ _ _ _ _ => .of_eq rfl)
theorem c_InvalidLines (X : K.In h) (G : h.Ns mainGlobals mg) (c : SaysX K) : ClsI PySem.Challenge.pw_ovenhall_k01_errors_each_of_its_own K mg "InvalidLines" "index" :=
  clsi_at X G c 30 (j := 32) (by rfl) (q0 := ⟨156, 17, 156, 21⟩) (q1 := ⟨156, 23, 156, 28⟩) (p0 := ⟨157, 8, 157, 13⟩) (p1 := ⟨157, 8, 157, 15⟩) (p2 := ⟨157, 8, 157, 24⟩) (p3 := ⟨157, 25, 157, 30⟩) (p4 := ⟨157, 8, 157, 31⟩) (p6 := ⟨158, 8, 158, 12⟩) (p7 := ⟨158, 8, 158, 18⟩) (p8 := ⟨158, 21, 158, 26⟩) (p9 := ⟨158, 8, 158, 26⟩) (by rfl) (by rfl) (by rfl) ⟨_, fun _ => rfl⟩ (fun _ => rfl) (fun _ _ _ _ _ _ _ _ _ _ _ _ => .of_eq rfl) (fun _ _ _ _ _ _ _ _ _ _ _ _ => .of_eq rfl)
theorem c_InvalidLots (X : K.In h) (G : h.Ns mainGlobals mg) (c : SaysX K) : ClsI PySem.Challenge.pw_ovenhall_k01_errors_each_of_its_own K mg "InvalidLots" "index" :=
  clsi_at X G c 31 (j := 33) (by rfl) (q0 := ⟨161, 17, 161, 21⟩) (q1 := ⟨161, 23, 161, 28⟩) (p0 := ⟨162, 8, 162, 13⟩) (p1 := ⟨162, 8, 162, 15⟩) (p2 := ⟨162, 8, 162, 24⟩) (p3 := ⟨162, 25, 162, 30⟩) (p4 := ⟨162, 8, 162, 31⟩) (p6 := ⟨163, 8, 163, 12⟩) (p7 := ⟨163, 8, 163, 18⟩) (p8 := ⟨163, 21, 163, 26⟩) (p9 := ⟨163, 8, 163, 26⟩) (by rfl) (by rfl) (by rfl) ⟨_, fun _ => rfl⟩ (fun _ => rfl) (fun _ _ _ _ _ _ _ _ _ _ _ _ => .of_eq rfl) (fun _ _ _ _ _ _ _ _ _ _ _ _ => .of_eq rfl)
theorem c_InvalidTicks (X : K.In h) (G : h.Ns mainGlobals mg) (c : SaysX K) : ClsI PySem.Challenge.pw_ovenhall_k01_errors_each_of_its_own K mg "InvalidTicks" "index" :=
  clsi_at X G c 32 (j := 34) (by rfl) (q0 := ⟨166, 17, 166, 21⟩) (q1 := ⟨166, 23, 166, 28⟩) (p0 := ⟨167, 8, 167, 13⟩) (p1 := ⟨167, 8, 167, 15⟩) (p2 := ⟨167, 8, 167, 24⟩) (p3 := ⟨167, 25, 167, 30⟩) (p4 := ⟨167, 8, 167, 31⟩) (p6 := ⟨168, 8, 168, 12⟩) (p7 := ⟨168, 8, 168, 18⟩) (p8 := ⟨168, 21, 168, 26⟩) (p9 := ⟨168, 8, 168, 26⟩) (by rfl) (by rfl) (by rfl) ⟨_, fun _ => rfl⟩ (fun _ => rfl) (fun _ _ _ _ _ _ _ _ _ _ _ _ => .of_eq rfl) (fun _ _ _ _ _ _ _ _ _ _ _ _ => .of_eq rfl)
theorem c_InvalidUses (X : K.In h) (G : h.Ns mainGlobals mg) (c : SaysX K) : ClsI PySem.Challenge.pw_ovenhall_k01_errors_each_of_its_own K mg "InvalidUses" "index" :=
  clsi_at X G c 33 (j := 35) (by rfl) (q0 := ⟨171, 17, 171, 21⟩) (q1 := ⟨171, 23, 171, 28⟩) (p0 := ⟨172, 8, 172, 13⟩) (p1 := ⟨172, 8, 172, 15⟩) (p2 := ⟨172, 8, 172, 24⟩) (p3 := ⟨172, 25, 172, 30⟩) (p4 := ⟨172, 8, 172, 31⟩) (p6 := ⟨173, 8, 173, 12⟩) (p7 := ⟨173, 8, 173, 18⟩) (p8 := ⟨173, 21, 173, 26⟩) (p9 := ⟨173, 8, 173, 26⟩) (by rfl) (by rfl) (by rfl) ⟨_, fun _ => rfl⟩ (fun _ => rfl) (fun _ _ _ _ _ _ _ _ _ _ _ _ => .of_eq rfl) (fun _ _ _ _ _ _ _ _ _ _ _ _ => .of_eq rfl)
theorem c_InvalidCounts (X : K.In h) (G : h.Ns mainGlobals mg) (c : SaysX K) : ClsI PySem.Challenge.pw_ovenhall_k01_errors_each_of_its_own K mg "InvalidCounts" "index" :=
  clsi_at X G c 34 (j := 36) (by rfl) (q0 := ⟨176, 17, 176, 21⟩) (q1 := ⟨176, 23, 176, 28⟩) (p0 := ⟨177, 8, 177, 13⟩) (p1 := ⟨177, 8, 177, 15⟩) (p2 := ⟨177, 8, 177, 24⟩) (p3 := ⟨177, 25, 177, 30⟩) (p4 := ⟨177, 8, 177, 31⟩) (p6 := ⟨178, 8, 178, 12⟩) (p7 := ⟨178, 8, 178, 18⟩) (p8 := ⟨178, 21, 178, 26⟩) (p9 := ⟨178, 8, 178, 26⟩) (by rfl) (by rfl) (by rfl) ⟨_, fun _ => rfl⟩ (fun _ => rfl) (fun _ _ _ _ _ _ _ _ _ _ _ _ => .of_eq rfl) (fun _ _ _ _ _ _ _ _ _ _ _ _ => .of_eq rfl)
theorem c_InvalidParts (X : K.In h) (G : h.Ns mainGlobals mg) (c : SaysX K) : ClsI PySem.Challenge.pw_ovenhall_k01_errors_each_of_its_own K mg "InvalidParts" "index" :=
  clsi_at X G c 35 (j := 37) (by rfl) (q0 := ⟨181, 17, 181, 21⟩) (q1 := ⟨181, 23, 181, 28⟩) (p0 := ⟨182, 8, 182, 13⟩) (p1 := ⟨182, 8, 182, 15⟩) (p2 := ⟨182, 8, 182, 24⟩) (p3 := ⟨182, 25, 182, 30⟩) (p4 := ⟨182, 8, 182, 31⟩) (p6 := ⟨183, 8, 183, 12⟩) (p7 := ⟨183, 8, 183, 18⟩) (p8 := ⟨183, 21, 183, 26⟩) (p9 := ⟨183, 8, 183, 26⟩) (by rfl) (by rfl) (by rfl) ⟨_, fun _ => rfl⟩ (fun _ => rfl) (fun _ _ _ _ _ _ _ _ _ _ _ _ => .of_eq rfl) (fun _ _ _ _ _ _ _ _ _ _ _ _ => .of_eq rfl)
theorem c_InvalidStarts (X : K.In h) (G : h.Ns mainGlobals mg) (c : SaysX K) : ClsI PySem.Challenge.pw_ovenhall_k01_errors_each_of_its_own K mg "InvalidStarts" "index" :=
  clsi_at X G c 36 (j := 38) (by rfl) (q0 := ⟨186, 17, 186, 21⟩) (q1 := ⟨186, 23, 186, 28⟩) (p0 := ⟨187, 8, 187, 13⟩) (p1 := ⟨187, 8, 187, 15⟩) (p2 := ⟨187, 8, 187, 24⟩) (p3 := ⟨187, 25, 187, 30⟩) (p4 := ⟨187, 8, 187, 31⟩) (p6 := ⟨188, 8, 188, 12⟩) (p7 := ⟨188, 8, 188, 18⟩) (p8 := ⟨188, 21, 188, 26⟩) (p9 := ⟨188, 8, 188, 26⟩) (by rfl) (by rfl) (by rfl) ⟨_, fun _ => rfl⟩ (fun _ => rfl) (fun _ _ _ _ _ _ _ _ _ _ _ _ => .of_eq rfl) (fun _ _ _ _ _ _ _ _ _ _ _ _ => .of_eq rfl)
theorem c_InvalidBars (X : K.In h) (G : h.Ns mainGlobals mg) (c : SaysX K) : ClsI PySem.Challenge.pw_ovenhall_k01_errors_each_of_its_own K mg "InvalidBars" "index" :=
  clsi_at X G c 37 (j := 39) (by rfl) (q0 := ⟨191, 17, 191, 21⟩) (q1 := ⟨191, 23, 191, 28⟩) (p0 := ⟨192, 8, 192, 13⟩) (p1 := ⟨192, 8, 192, 15⟩) (p2 := ⟨192, 8, 192, 24⟩) (p3 := ⟨192, 25, 192, 30⟩) (p4 := ⟨192, 8, 192, 31⟩) (p6 := ⟨193, 8, 193, 12⟩) (p7 := ⟨193, 8, 193, 18⟩) (p8 := ⟨193, 21, 193, 26⟩) (p9 := ⟨193, 8, 193, 26⟩) (by rfl) (by rfl) (by rfl) ⟨_, fun _ => rfl⟩ (fun _ => rfl) (fun _ _ _ _ _ _ _ _ _ _ _ _ => .of_eq rfl) (fun _ _ _ _ _ _ _ _ _ _ _ _ => .of_eq rfl)
theorem c_InvalidText (X : K.In h) (G : h.Ns mainGlobals mg) (c : SaysX K) : ClsI PySem.Challenge.pw_ovenhall_k01_errors_each_of_its_own K mg "InvalidText" "index" :=
  clsi_at X G c 38 (j := 40) (by rfl) (q0 := ⟨196, 17, 196, 21⟩) (q1 := ⟨196, 23, 196, 28⟩) (p0 := ⟨197, 8, 197, 13⟩) (p1 := ⟨197, 8, 197, 15⟩) (p2 := ⟨197, 8, 197, 24⟩) (p3 := ⟨197, 25, 197, 30⟩) (p4 := ⟨197, 8, 197, 31⟩) (p6 := ⟨198, 8, 198, 12⟩) (p7 := ⟨198, 8, 198, 18⟩) (p8 := ⟨198, 21, 198, 26⟩) (p9 := ⟨198, 8, 198, 26⟩) (by rfl) (by rfl) (by rfl) ⟨_, fun _ => rfl⟩ (fun _ => rfl) (fun _ _ _ _ _ _ _ _ _ _ _ _ => .of_eq rfl) (fun _ _ _ _ _ _ _ _ _ _ _ _ => .of_eq rfl)
theorem txt_at (X : K.In h) (G : h.Ns mainGlobals mg) (c : SaysX K) : Txt PySem.Challenge.pw_ovenhall_k01_errors_each_of_its_own K mg := by
  obtain ⟨t1, t2, t3⟩ := tab_of X G (alls c).rows (alls c).nodup
  have hg : ∀ y ∈ givens, ClsI PySem.Challenge.pw_ovenhall_k01_errors_each_of_its_own K mg y "given" := by unfold givens; exact (List.forall_mem_cons.2 ⟨c_InvalidNumber X G c, (List.forall_mem_cons.2 ⟨c_InvalidStuff X G c, (List.forall_mem_cons.2 ⟨c_InvalidPlace X G c, (List.forall_mem_cons.2 ⟨c_InvalidRoad X G c, (List.forall_mem_cons.2 ⟨c_InvalidBounds X G c, (List.forall_mem_cons.2 ⟨c_InvalidCourse X G c, (List.forall_mem_cons.2 ⟨c_InvalidLine X G c, (List.forall_mem_cons.2 ⟨c_NotAKitchen X G c, (List.forall_mem_cons.2 ⟨c_NotAPlan X G c, (List.forall_mem_cons.2 ⟨c_NotARecord X G c, (List.forall_mem_cons.2 ⟨c_NotASheet X G c, (List.forall_mem_cons.2 ⟨c_NotADesk X G c, (List.forall_mem_cons.2 ⟨c_UnknownRecipe X G c, (List.forall_mem_cons.2 ⟨c_UnknownStock X G c, (List.forall_mem_cons.2 ⟨c_UnknownPromise X G c, (List.forall_mem_cons.2 ⟨c_UnknownOrder X G c, (List.forall_mem_cons.2 ⟨c_UnknownUse X G c, (List.forall_mem_cons.2 ⟨c_UnknownLot X G c, (List.forall_mem_cons.2 ⟨c_Unfit X G c, (List.forall_mem_cons.2 ⟨c_OverBounds X G c, (List.forall_mem_cons.2 ⟨c_TooLarge X G c, (fun _ h => absurd h (by simp))⟩)⟩)⟩)⟩)⟩)⟩)⟩)⟩)⟩)⟩)⟩)⟩)⟩)⟩)⟩)⟩)⟩)⟩)⟩)⟩)⟩)
  have hi : ∀ y ∈ indexes, ClsI PySem.Challenge.pw_ovenhall_k01_errors_each_of_its_own K mg y "index" := by unfold indexes; exact (List.forall_mem_cons.2 ⟨c_InvalidGoods X G c, (List.forall_mem_cons.2 ⟨c_InvalidRecipes X G c, (List.forall_mem_cons.2 ⟨c_InvalidClasses X G c, (List.forall_mem_cons.2 ⟨c_InvalidTools X G c, (List.forall_mem_cons.2 ⟨c_InvalidCooks X G c, (List.forall_mem_cons.2 ⟨c_InvalidDeeds X G c, (List.forall_mem_cons.2 ⟨c_InvalidWashings X G c, (List.forall_mem_cons.2 ⟨c_InvalidHands X G c, (List.forall_mem_cons.2 ⟨c_InvalidPromises X G c, (List.forall_mem_cons.2 ⟨c_InvalidLines X G c, (List.forall_mem_cons.2 ⟨c_InvalidLots X G c, (List.forall_mem_cons.2 ⟨c_InvalidTicks X G c, (List.forall_mem_cons.2 ⟨c_InvalidUses X G c, (List.forall_mem_cons.2 ⟨c_InvalidCounts X G c, (List.forall_mem_cons.2 ⟨c_InvalidParts X G c, (List.forall_mem_cons.2 ⟨c_InvalidStarts X G c, (List.forall_mem_cons.2 ⟨c_InvalidBars X G c, (List.forall_mem_cons.2 ⟨c_InvalidText X G c, (fun _ h => absurd h (by simp))⟩)⟩)⟩)⟩)⟩)⟩)⟩)⟩)⟩)⟩)⟩)⟩)⟩)⟩)⟩)⟩)⟩)⟩)
  exact txt_mk X G (alls c).gones (alls c).knowns hg hi (fun x hx => clsz_at X G c hx) t1 t2 t3
theorem i_law_well (X : K.In h) (G : h.Ns mainGlobals mg) (c : SaysX K) : FnI K mg "_law_well" [("script" : Str), ("lap" : Str)] (top 45) :=
  fni_at X G c 0 (by rfl) fun f fd F => F.binds (ps := [("script" : Str), ("lap" : Str)]) fun _ _ _ _ _ _ us hl => match us, hl with | [_, _], _ => rfl
theorem i_law_draw (X : K.In h) (G : h.Ns mainGlobals mg) (c : SaysX K) : FnI K mg "_law_draw" [("well" : Str), ("limit" : Str)] (top 46) :=
  fni_at X G c 1 (by rfl) fun f fd F => F.binds (ps := [("well" : Str), ("limit" : Str)]) fun _ _ _ _ _ _ us hl => match us, hl with | [_, _], _ => rfl
theorem i_law_of (X : K.In h) (G : h.Ns mainGlobals mg) (c : SaysX K) : FnI K mg "_law_of" [("well" : Str), ("some" : Str)] (top 47) :=
  fni_at X G c 2 (by rfl) fun f fd F => F.binds (ps := [("well" : Str), ("some" : Str)]) fun _ _ _ _ _ _ us hl => match us, hl with | [_, _], _ => rfl
theorem i_law_is (X : K.In h) (G : h.Ns mainGlobals mg) (c : SaysX K) : FnI K mg "_law_is" [("told" : Str), ("due" : Str)] (top 48) :=
  fni_at X G c 3 (by rfl) fun f fd F => F.binds (ps := [("told" : Str), ("due" : Str)]) fun _ _ _ _ _ _ us hl => match us, hl with | [_, _], _ => rfl
theorem i_law_given (X : K.In h) (G : h.Ns mainGlobals mg) (c : SaysX K) : FnI K mg "_law_given" [] (top 49) :=
  fni_at X G c 4 (by rfl) fun f fd F => F.binds (ps := []) fun _ _ _ _ _ _ us hl => match us, hl with | [], _ => rfl
theorem i_law_index (X : K.In h) (G : h.Ns mainGlobals mg) (c : SaysX K) : FnI K mg "_law_index" [] (top 50) :=
  fni_at X G c 5 (by rfl) fun f fd F => F.binds (ps := []) fun _ _ _ _ _ _ us hl => match us, hl with | [], _ => rfl
theorem i_law_value (X : K.In h) (G : h.Ns mainGlobals mg) (c : SaysX K) : FnI K mg "_law_value" [("well" : Str)] (top 51) :=
  fni_at X G c 6 (by rfl) fun f fd F => F.binds (ps := [("well" : Str)]) fun _ _ _ _ _ _ us hl => match us, hl with | [_], _ => rfl
theorem i_law_made_a (X : K.In h) (G : h.Ns mainGlobals mg) (c : SaysX K) : FnI K mg "_law_made_a" [("word" : Str), ("value" : Str), ("is_named" : Str)] (top 52) :=
  fni_at X G c 7 (by rfl) fun f fd F => F.binds (ps := [("word" : Str), ("value" : Str), ("is_named" : Str)]) fun _ _ _ _ _ _ us hl => match us, hl with | [_, _, _], _ => rfl
theorem i_law_made_b (X : K.In h) (G : h.Ns mainGlobals mg) (c : SaysX K) : FnI K mg "_law_made_b" [("word" : Str), ("value" : Str), ("is_named" : Str)] (top 53) :=
  fni_at X G c 8 (by rfl) fun f fd F => F.binds (ps := [("word" : Str), ("value" : Str), ("is_named" : Str)]) fun _ _ _ _ _ _ us hl => match us, hl with | [_, _, _], _ => rfl
theorem i_law_made_c (X : K.In h) (G : h.Ns mainGlobals mg) (c : SaysX K) : FnI K mg "_law_made_c" [("word" : Str), ("value" : Str), ("is_named" : Str)] (top 54) :=
  fni_at X G c 9 (by rfl) fun f fd F => F.binds (ps := [("word" : Str), ("value" : Str), ("is_named" : Str)]) fun _ _ _ _ _ _ us hl => match us, hl with | [_, _, _], _ => rfl
theorem i_law_made (X : K.In h) (G : h.Ns mainGlobals mg) (c : SaysX K) : FnI K mg "_law_made" [("word" : Str), ("value" : Str), ("is_named" : Str)] (top 55) :=
  fni_at X G c 10 (by rfl) fun f fd F => F.binds (ps := [("word" : Str), ("value" : Str), ("is_named" : Str)]) fun _ _ _ _ _ _ us hl => match us, hl with | [_, _, _], _ => rfl
theorem i_law_kinds_a (X : K.In h) (G : h.Ns mainGlobals mg) (c : SaysX K) : FnI K mg "_law_kinds_a" [("e" : Str)] (top 56) :=
  fni_at X G c 11 (by rfl) fun f fd F => F.binds (ps := [("e" : Str)]) fun _ _ _ _ _ _ us hl => match us, hl with | [_], _ => rfl
theorem i_law_kinds_b (X : K.In h) (G : h.Ns mainGlobals mg) (c : SaysX K) : FnI K mg "_law_kinds_b" [("e" : Str)] (top 57) :=
  fni_at X G c 12 (by rfl) fun f fd F => F.binds (ps := [("e" : Str)]) fun _ _ _ _ _ _ us hl => match us, hl with | [_], _ => rfl
theorem i_law_is_own (X : K.In h) (G : h.Ns mainGlobals mg) (c : SaysX K) : FnI K mg "_law_is_own" [("e" : Str), ("word" : Str)] (top 58) :=
  fni_at X G c 13 (by rfl) fun f fd F => F.binds (ps := [("e" : Str), ("word" : Str)]) fun _ _ _ _ _ _ us hl => match us, hl with | [_, _], _ => rfl
theorem i_law_right (X : K.In h) (G : h.Ns mainGlobals mg) (c : SaysX K) : FnI K mg "_law_right" [("well" : Str)] (top 59) :=
  fni_at X G c 14 (by rfl) fun f fd F => F.binds (ps := [("well" : Str)]) fun _ _ _ _ _ _ us hl => match us, hl with | [_], _ => rfl
theorem facts {w : World} {fa : Addr} (X : K.In h) (G : h.Ns mainGlobals mg) (hfa : mg ("law" : Str) = some (.ref fa)) (c : SaysX K) :
    ∃ fd : FuncData, (∀ (s : Shared) (v : Value), BindsTo s fd ⟨[v], []⟩ [("script", v)]) ∧ ∀ base : Heap, K.In base → base.Ns mainGlobals mg → FnG PySem.Challenge.pw_ovenhall_k01_errors_each_of_its_own w K mg base 5 fa fd ["script"] (spOf K mg 1 flaw) := by
  have T := txt_at X G c
  obtain ⟨f, fd, F, hm, hb⟩ := law_at X G c 15 (by rfl)
  have ef : f = fa := by
    rw [hm] at hfa
    cases hfa
    rfl
  subst ef
  refine ⟨fd, hb, fun base _ _ => ?_⟩
  have d_law_well := df_law_well (w := w) (base := base) T (i_law_well X G c) 
  have d_law_draw := df_law_draw (w := w) (base := base) T (i_law_draw X G c) 
  have d_law_of := df_law_of (w := w) (base := base) T (i_law_of X G c) d_law_draw
  have d_law_is := df_law_is (w := w) (base := base) T (i_law_is X G c) 
  have d_law_given := df_law_given (w := w) (base := base) T (i_law_given X G c) 
  have d_law_index := df_law_index (w := w) (base := base) T (i_law_index X G c) 
  have d_law_value := df_law_value (w := w) (base := base) T (i_law_value X G c) d_law_of
  have d_law_made_a := df_law_made_a (w := w) (base := base) T (i_law_made_a X G c) 
  have d_law_made_b := df_law_made_b (w := w) (base := base) T (i_law_made_b X G c) 
  have d_law_made_c := df_law_made_c (w := w) (base := base) T (i_law_made_c X G c) 
  have d_law_made := df_law_made (w := w) (base := base) T (i_law_made X G c) d_law_made_a d_law_made_b d_law_made_c
  have d_law_kinds_a := df_law_kinds_a (w := w) (base := base) T (i_law_kinds_a X G c) 
  have d_law_kinds_b := df_law_kinds_b (w := w) (base := base) T (i_law_kinds_b X G c) 
  have d_law_is_own := df_law_is_own (w := w) (base := base) T (i_law_is_own X G c) d_law_is d_law_kinds_a d_law_kinds_b
  have d_law_right := df_law_right (w := w) (base := base) T (i_law_right X G c) d_law_given d_law_index d_law_is_own d_law_value d_law_made d_law_is
  exact gflaw T F d_law_right d_law_well
end
end K01
open PySem PySem.W PySem.Calls PyProof.Rows
theorem PySem.Challenge.cw_ovenhall_k01_errors_each_of_its_own_holds : PySem.Challenge.rw_ovenhall_k01_errors_each_of_its_own.Holds := by
  w_on; o_law
  refine HandSHeadRun.head_any (r := OpenLaw.row PySem.Challenge.rw_ovenhall_k01_errors_each_of_its_own) (q := view (OpenLaw.row PySem.Challenge.rw_ovenhall_k01_errors_each_of_its_own).prog [60]) (H := K01.hkX) (ob := K01.obX) (M := 16000) (loose := K01.looseX) (d := HandSHeadRun.topDef (OpenLaw.row PySem.Challenge.rw_ovenhall_k01_errors_each_of_its_own).prog 60) (kwd := []) K01.obX_eq
    (by kernel_rfl) (fun s => by kernel_rfl) K01.runX (by kernel_rfl) (by kernel_rfl) (by kernel_rfl) (by rfl) (by first | assumption | decide +kernel) (by decide +kernel) ⟨rfl, rfl, rfl, rfl, rfl, by decide +kernel⟩ ?hw ?hc
  case hw => w_witness2
  case hc =>
    refine DL.data_lawE (l := PySem.Challenge.rw_ovenhall_k01_errors_each_of_its_own) (n := 63) (k := 5) (x := "script") (fs := K01.flaw) rfl (by decide) (by kernel_rfl) ⟨rfl, by decide, by decide⟩ ?F K01.law_yes
    intro w mg fa h Y G hmg0
    obtain ⟨K, KX, c⟩ := Y
    have hmg : mg ("law" : PySem.Str) = some (.ref fa) := by
      have e : (HandSHeadRun.topDef (OpenLaw.row PySem.Challenge.rw_ovenhall_k01_errors_each_of_its_own).prog 60).name = ("law" : PySem.Str) := by kernel_rfl
      rw [← e]
      exact hmg0
    obtain ⟨fd, hb, hF⟩ := K01.facts (w := w) KX G hmg c
    exact ⟨K, fd, KX, hb, hF⟩
#print axioms PySem.Challenge.cw_ovenhall_k01_errors_each_of_its_own_holds

