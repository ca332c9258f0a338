import PyProof.Rows.All
import PySem.Challenge.RW_boxlaws_k62_sort_count
import HandS.ForMost
import HandS.TupAny
import HandS.Wide
import HandS.EndBits
import HandS.Evl
import HandS.IsInst
import HandS.Deep
import PyProof.ReprRoads
import HandS.Flow
import HandS.TupMul
import HandS.RaiseMore
import HandS.Defaults
import HandS.Dict
import HandS.More
import HandS.Ends
import HandS.Head0
import HandS.Head1
import HandS.Head2
import HandS.HeadEnd
import HandS.HeadHook1
import HandS.HeadHook2
import HandS.HeadHook3
import HandS.HeadHook4
import PyProof.FitsInt
import PyProof.StrLawsRepr
set_option Elab.async false
set_option linter.all false
set_option maxRecDepth 100000
set_option maxHeartbeats 0
namespace Eng
open PySem PySem.Spec PyProof.Rows L2
open Evl (Ex)

inductive D where
  | non | bl (b : Bool) | int (i : Int) | str (x : Str) | tup (l : List D) | lst (l : List D) | dct (ks : List Key) (vs : List D) | obj (a : Addr)

inductive T (α : Type) where
  | ret (a : α) | fail | draw (n : Nat) (k : Nat → T α) | exc (c : Str) (d : List D)
namespace T
def bind {α β : Type} : T α → (α → T β) → T β
  | .ret a, f => f a
  | .fail, _ => .fail
  | .draw n k, f => .draw n fun i => bind (k i) f
  | .exc c d, _ => .exc c d
end T
instance : Monad T where
  pure := T.ret
  bind := T.bind
@[simp] theorem ret_bind {α β : Type} (a : α) (f : α → T β) : (T.ret a >>= f) = f a := rfl
@[simp] theorem pure_eq {α : Type} (a : α) : (pure a : T α) = T.ret a := rfl
@[simp] theorem fail_bind {α β : Type} (f : α → T β) : ((T.fail : T α) >>= f) = T.fail := rfl
@[simp] theorem draw_bind {α β : Type} (n : Nat) (k : Nat → T α) (f : α → T β) : (T.draw n k >>= f) = T.draw n fun i => k i >>= f := rfl
@[simp] theorem exc_bind {α β : Type} (c : Str) (d : List D) (f : α → T β) : ((T.exc c d : T α) >>= f) = T.exc c d := rfl
@[simp] theorem bind_ret {α : Type} (t : T α) : (t >>= T.ret) = t := by
  show T.bind t T.ret = t
  induction t with
  | ret a => rfl
  | fail => rfl
  | draw n k ih => show T.draw n (fun i => T.bind (k i) T.ret) = _; congr 1; funext i; exact ih i
  | exc c d => rfl
theorem bind_assoc' {α β γ : Type} (t : T α) (f : α → T β) (g : β → T γ) : (t >>= f) >>= g = t >>= fun a => f a >>= g := by
  show T.bind (T.bind t f) g = T.bind t fun a => T.bind (f a) g
  induction t with
  | ret a => rfl
  | fail => rfl
  | draw n k ih => show T.draw n (fun i => T.bind (T.bind (k i) f) g) = T.draw n _; congr 1; funext i; exact ih i
  | exc c d => rfl
/-- what holds at every end -/
def wp {α : Type} : T α → (α → Prop) → (Str → List D → Prop) → Prop
  | .ret a, Q, _ => Q a
  | .fail, _, _ => False
  | .draw n k, Q, E => 0 < n ∧ ∀ i, i < n → wp (k i) Q E
  | .exc c d, _, E => E c d
@[simp] theorem wp_ret {α : Type} {a : α} {Q : α → Prop} {E : Str → List D → Prop} : wp (T.ret a) Q E = Q a := rfl
@[simp] theorem wp_fail {α : Type} {Q : α → Prop} {E : Str → List D → Prop} : wp (T.fail : T α) Q E = False := rfl
theorem wp_bind {α β : Type} {t : T α} {f : α → T β} {Q : β → Prop} {E : Str → List D → Prop} : wp (t >>= f) Q E ↔ wp t (fun a => wp (f a) Q E) E := by
  show wp (T.bind t f) Q E ↔ _
  induction t with
  | ret a => exact Iff.rfl
  | fail => exact Iff.rfl
  | draw n k ih =>
    show (0 < n ∧ ∀ i, i < n → wp (T.bind (k i) f) Q E) ↔ (0 < n ∧ ∀ i, i < n → wp (k i) (fun a => wp (f a) Q E) E)
    exact and_congr Iff.rfl (forall_congr' fun i => imp_congr Iff.rfl (ih i))
  | exc c d => exact Iff.rfl
theorem wp_mono {α : Type} {t : T α} {Q Q' : α → Prop} {E E' : Str → List D → Prop} (h : wp t Q E) (hq : ∀ a, Q a → Q' a) (he : ∀ c d, E c d → E' c d) : wp t Q' E' := by
  induction t with
  | ret a => exact hq a h
  | fail => exact h
  | draw n k ih => exact ⟨h.1, fun i hi => ih i (h.2 i hi)⟩
  | exc c d => exact he c d h
theorem wp_imp {α : Type} {t : T α} {Q Q' : α → Prop} {E : Str → List D → Prop} (h : wp t Q E) (hq : ∀ a, Q a → Q' a) : wp t Q' E := wp_mono h hq fun _ _ x => x

inductive Sl where
  | un | val (d : D) | own (d : D)
abbrev Env := List Sl
def getV (env : Env) (i : Nat) : T D := match env[i]? with
  | some (.val d) => .ret d
  | _ => .fail
def getB (env : Env) (i : Nat) : T D := match env[i]? with
  | some (.val d) => .ret d
  | some (.own d) => .ret d
  | _ => .fail
/-- an owned thing is handed out: it changes no more -/
def frz (i : Nat) (env : Env) : Env := match env[i]? with
  | some (.own d) => env.set i (.val d)
  | _ => env
def frzs : List Nat → Env → Env
  | [], env => env
  | i :: r, env => frzs r (frz i env)

structure Act where
  F : Addr → Prop
  SI : Hp → Prop
  loc : ∀ H H' : Hp, (∀ a, F a → H' a = H a) → SI H → SI H'
  dom : ∀ H, SI H → ∀ a, F a → H a ≠ none
  G0 : Hp
  H0 : Hp
  E : Str → List D → Prop

variable {K : PySem.W.Frag} {A : Act} {G H G' H' G1 H1 G2 H2 : Hp}

mutual
inductive Rp (K : PySem.W.Frag) (G : Hp) : V → D → Prop
  | non : Rp K G .non .non
  | bl (b : Bool) : Rp K G (.bl b) (.bl b)
  | int (i : Int) : Rp K G (.int i) (.int i)
  | str (x : Str) : Rp K G (.str x) (.str x)
  | lst {a : Addr} {xs : List V} {ds : List D} : G a = some (.lst xs) → RpAll K G xs ds → Rp K G (.ref a) (.lst ds)
  | tup {a : Addr} {xs : List V} {ds : List D} : SqT K G a xs → RpAll K G xs ds → Rp K G (.ref a) (.tup ds)
  | dct {a : Addr} {ks : List Key} {xs : List V} {ds : List D} : G a = some (.dK (ks.zip xs)) → ks.length = xs.length → RpAll K G xs ds → Rp K G (.ref a) (.dct ks ds)
  | obj (a : Addr) : Rp K G (.ref a) (.obj a)
inductive RpAll (K : PySem.W.Frag) (G : Hp) : List V → List D → Prop
  | nil : RpAll K G [] []
  | cons {v : V} {vs : List V} {d : D} {ds : List D} : Rp K G v d → RpAll K G vs ds → RpAll K G (v :: vs) (d :: ds)
end
mutual
theorem Rp.mono (e : Ex G G') : ∀ {v : V} {d : D}, Rp K G v d → Rp K G' v d
  | _, _, .non => .non
  | _, _, .bl b => .bl b
  | _, _, .int i => .int i
  | _, _, .str x => .str x
  | _, _, .lst h r => .lst (e _ _ h) (RpAll.mono e r)
  | _, _, .tup h r => .tup (Evl.ex_t e h) (RpAll.mono e r)
  | _, _, .dct h l r => .dct (e _ _ h) l (RpAll.mono e r)
  | _, _, .obj a => .obj a
theorem RpAll.mono (e : Ex G G') : ∀ {vs : List V} {ds : List D}, RpAll K G vs ds → RpAll K G' vs ds
  | _, _, .nil => .nil
  | _, _, .cons h r => .cons (Rp.mono e h) (RpAll.mono e r)
end
theorem RpAll.length : ∀ {vs : List V} {ds : List D}, RpAll K G vs ds → vs.length = ds.length
  | _, _, .nil => rfl
  | _, _, .cons _ r => congrArg Nat.succ (RpAll.length r)
theorem RpAll.get : ∀ {vs : List V} {ds : List D} {i : Nat} {d : D}, RpAll K G vs ds → ds[i]? = some d → ∃ v, vs[i]? = some v ∧ Rp K G v d
  | _, _, _, _, .nil, e => by simp at e
  | _, _, 0, _, .cons h _, e => by simp at e; subst e; exact ⟨_, rfl, h⟩
  | _, _, i + 1, _, .cons _ r, e => by
    obtain ⟨v, h1, h2⟩ := RpAll.get (i := i) r (by simpa using e)
    exact ⟨v, by simpa using h1, h2⟩
theorem RpAll.getV : ∀ {vs : List V} {ds : List D} {i : Nat} {v : V}, RpAll K G vs ds → vs[i]? = some v → ∃ d, ds[i]? = some d ∧ Rp K G v d
  | _, _, _, _, .nil, e => by simp at e
  | _, _, 0, _, .cons h _, e => by simp at e; subst e; exact ⟨_, rfl, h⟩
  | _, _, i + 1, _, .cons _ r, e => by
    obtain ⟨v, h1, h2⟩ := RpAll.getV (i := i) r (by simpa using e)
    exact ⟨v, by simpa using h1, h2⟩
theorem RpAll.append : ∀ {vs us : List V} {ds es : List D}, RpAll K G vs ds → RpAll K G us es → RpAll K G (vs ++ us) (ds ++ es)
  | _, _, _, _, .nil, s => s
  | _, _, _, _, .cons h r, s => .cons h (RpAll.append r s)
theorem RpAll.take : ∀ {vs : List V} {ds : List D} (n : Nat), RpAll K G vs ds → RpAll K G (vs.take n) (ds.take n)
  | _, _, 0, _ => .nil
  | _, _, _ + 1, .nil => .nil
  | _, _, n + 1, .cons h r => .cons h (RpAll.take n r)
theorem RpAll.drop : ∀ {vs : List V} {ds : List D} (n : Nat), RpAll K G vs ds → RpAll K G (vs.drop n) (ds.drop n)
  | _, _, 0, r => r
  | _, _, _ + 1, .nil => .nil
  | _, _, n + 1, .cons _ r => RpAll.drop n r
theorem RpAll.set {v : V} {d : D} (h : Rp K G v d) : ∀ {vs : List V} {ds : List D} (i : Nat), RpAll K G vs ds → RpAll K G (vs.set i v) (ds.set i d)
  | _, _, _, .nil => .nil
  | _, _, 0, .cons _ r => .cons h r
  | _, _, i + 1, .cons q r => .cons q (RpAll.set h i r)
theorem RpAll.eraseIdx : ∀ {vs : List V} {ds : List D} (i : Nat), RpAll K G vs ds → RpAll K G (vs.eraseIdx i) (ds.eraseIdx i)
  | _, _, _, .nil => .nil
  | _, _, 0, .cons _ r => r
  | _, _, i + 1, .cons q r => .cons q (RpAll.eraseIdx i r)
theorem RpAll.rep (n : Nat) : ∀ {vs : List V} {ds : List D}, RpAll K G vs ds → RpAll K G (List.replicate n vs).flatten (List.replicate n ds).flatten := fun {vs ds} r => by
  induction n with
  | zero => exact .nil
  | succ n ih =>
    rw [List.replicate_succ, List.replicate_succ, List.flatten_cons, List.flatten_cons]
    exact r.append ih
theorem RpAll.ints : ∀ {vs : List V} {ns : List Int}, RpAll K G vs (ns.map D.int) → vs = ns.map V.int
  | _, [], .nil => rfl
  | _, n :: ns, .cons (.int _) r => by rw [RpAll.ints r]; rfl

/-- the state goes on: what was known stays known, what was there stays but for the draws' own -/
structure Ext (A : Act) (G H G' H' : Hp) : Prop where
  gg : Ex G G'
  gh : Ex G' H'
  keep : ∀ a o, ¬ A.F a → H a = some o → H' a = some o
  new : ∀ a o, G' a = some o → G a = some o ∨ H a = none
  si0 : A.SI H
  si : A.SI H'
theorem Ext.dn (e : Ext A G H G' H') {a : Addr} (h : H' a = none) : H a = none := by
  cases q : H a with
  | none => rfl
  | some o =>
    by_cases f : A.F a
    · exact absurd h (A.dom _ e.si a f)
    · rw [e.keep a o f q] at h; cases h
theorem Ext.trans (e : Ext A G H G1 H1) (e2 : Ext A G1 H1 G2 H2) : Ext A G H G2 H2 where
  gg := e.gg.trans e2.gg
  gh := e2.gh
  keep := fun a o f h => e2.keep a o f (e.keep a o f h)
  new := fun a o h => by
    rcases e2.new a o h with q | q
    · exact e.new a o q
    · exact .inr (e.dn q)
  si0 := e.si0
  si := e2.si
theorem Ext.refl' (e : Ext A G H G' H') : Ext A G' H' G' H' := ⟨Ex.refl _, e.gh, fun _ _ _ h => h, fun _ _ h => .inl h, e.si, e.si⟩
theorem Ext.refl0 (e : Ext A G H G' H') (g : Ex G H) : Ext A G H G H := ⟨Ex.refl _, g, fun _ _ _ h => h, fun _ _ h => .inl h, e.si0, e.si0⟩
/-- a state by itself -/
abbrev St1 (A : Act) (G H : Hp) : Prop := Ext A G H G H
theorem Ext.nf (s : St1 A G H) {p : Addr} (h : H p = none) : ¬ A.F p := fun f => A.dom _ s.si p f h
theorem Ex.upd1 {p : Addr} {o : HO} (e : Ex G H) (hp : H p = none) : Ex (upd G p o) (upd H p o) := fun a u h => by
  by_cases q : a = p
  · subst q; rw [upd_same] at h ⊢; exact h
  · rw [upd_ne q] at h ⊢; exact e a u h
theorem Ext.si_upd {p : Addr} {o : HO} (s : A.SI H) (hp : ¬ A.F p) : A.SI (upd H p o) := A.loc H _ (fun a f => by rw [upd_ne]; rintro rfl; exact hp f) s
/-- a new thing, known from now on -/
theorem Ext.alloc {p : Addr} {o : HO} (s : St1 A G H) (hp : H p = none) : Ext A G H (upd G p o) (upd H p o) where
  gg := Ex.new (by cases q : G p with | none => rfl | some u => rw [s.gh p u q] at hp; cases hp)
  gh := Ex.upd1 s.gh hp
  keep := fun a u f h => by rw [upd_ne (ne_of_none h hp)]; exact h
  new := fun a u h => by
    by_cases q : a = p
    · subst q; exact .inr hp
    · rw [upd_ne q] at h; exact .inl h
  si0 := s.si
  si := Ext.si_upd s.si (s.nf hp)
/-- a new thing, owned -/
theorem Ext.allocO {p : Addr} {o : HO} (s : St1 A G H) (hp : H p = none) : Ext A G H G (upd H p o) where
  gg := Ex.refl _
  gh := s.gh.trans (Ex.new hp)
  keep := fun a u f h => by rw [upd_ne (ne_of_none h hp)]; exact h
  new := fun a u h => .inl h
  si0 := s.si
  si := Ext.si_upd s.si (s.nf hp)
theorem Ext.gnone (s : St1 A G H) {p : Addr} (hp : H p = none) : G p = none := by
  cases q : G p with
  | none => rfl
  | some u => rw [s.gh p u q] at hp; cases hp
/-- an owned thing becomes known -/
theorem Ext.frz {p : Addr} {o : HO} (e : Ext A G H G' H') (h0 : H p = none) (h1 : H' p = some o) (hg : G' p = none) : Ext A G H (upd G' p o) H' where
  gg := e.gg.trans (Ex.new hg)
  gh := fun a u h => by
    by_cases q : a = p
    · subst q; rw [upd_same] at h; rw [h1]; exact h
    · rw [upd_ne q] at h; exact e.gh a u h
  keep := e.keep
  new := fun a u h => by
    by_cases q : a = p
    · subst q; exact .inr h0
    · rw [upd_ne q] at h; exact e.new a u h
  si0 := e.si0
  si := e.si

/-- an owned thing's object -/
inductive OwnAs (K : PySem.W.Frag) (G : Hp) : HO → D → Prop
  | lst {vs : List V} {ds : List D} : RpAll K G vs ds → OwnAs K G (.lst vs) (.lst ds)
  | dct {ks : List Key} {vs : List V} {ds : List D} : ks.length = vs.length → RpAll K G vs ds → OwnAs K G (.dK (ks.zip vs)) (.dct ks ds)
theorem OwnAs.mono {o : HO} {d : D} (e : Ex G G') (h : OwnAs K G o d) : OwnAs K G' o d := by
  cases h with
  | lst r => exact .lst (r.mono e)
  | dct l r => exact .dct l (r.mono e)
theorem OwnAs.rp {o : HO} {d : D} {p : Addr} (h : OwnAs K G o d) (hp : G p = some o) : Rp K G (.ref p) d := by
  cases h with
  | lst r => exact .lst hp r
  | dct l r => exact .dct hp l r
structure OwnOk (K : PySem.W.Frag) (A : Act) (G H : Hp) (p : Addr) (d : D) : Prop where
  at_ : ∃ o, H p = some o ∧ OwnAs K G o d
  gn : G p = none
  h0 : A.H0 p = none
  nf : ¬ A.F p
def SlOk (K : PySem.W.Frag) (A : Act) (G : Hp) (σ : L2.St) (H : Hp) (i : Nat) : Sl → Prop
  | .un => True
  | .val d => ∃ v, σ[i]? = some (some v) ∧ Rp K G v d
  | .own d => ∃ p, σ[i]? = some (some (.ref p)) ∧ OwnOk K A G H p d
structure Rel (K : PySem.W.Frag) (A : Act) (G : Hp) (σ : L2.St) (env : Env) (H : Hp) : Prop where
  e0 : Ext A A.G0 A.H0 G H
  gf : ∀ a, A.F a → G a = none
  len : env.length = σ.length
  sl : ∀ i s, env[i]? = some s → SlOk K A G σ H i s
  ap : ∀ (i j : Nat) (p : Addr) (d e : D), env[i]? = some (.own d) → env[j]? = some (.own e) → σ[i]? = some (some (.ref p)) → σ[j]? = some (some (.ref p)) → i = j
theorem Rel.st {σ : L2.St} {env : Env} (R : Rel K A G σ env H) : St1 A G H := R.e0.refl'
theorem OwnOk.ext {p : Addr} {d : D} (o : OwnOk K A G H p d) (e : Ext A G H G' H') : OwnOk K A G' H' p d := by
  obtain ⟨⟨u, h1, h2⟩, g, h0, nf⟩ := o
  refine ⟨⟨u, e.keep _ _ nf h1, h2.mono e.gg⟩, ?_, h0, nf⟩
  cases q : G' p with
  | none => rfl
  | some x =>
    rcases e.new p x q with z | z
    · rw [g] at z; cases z
    · rw [h1] at z; cases z
theorem Rel.ext {σ : L2.St} {env : Env} (R : Rel K A G σ env H) (e : Ext A G H G' H') : Rel K A G' σ env H' where
  e0 := R.e0.trans e
  gf := fun a f => by
    cases q : G' a with
    | none => rfl
    | some o =>
      rcases e.new a o q with z | z
      · rw [R.gf a f] at z; cases z
      · exact absurd z (A.dom _ e.si0 a f)
  len := R.len
  sl := fun i s h => by
    have q := R.sl i s h
    cases s with
    | un => trivial
    | val d => obtain ⟨v, h1, h2⟩ := q; exact ⟨v, h1, h2.mono e.gg⟩
    | own d => obtain ⟨p, h1, h2⟩ := q; exact ⟨p, h1, h2.ext e⟩
  ap := R.ap
end Eng

namespace Eng
open PySem PySem.Spec PyProof.Rows L2
open Evl (Ex)
variable {K : PySem.W.Frag} {A : Act} {G H G' H' G1 H1 G2 H2 : Hp}

mutual
def D.py : D → PyData
  | .non => .none
  | .bl b => .bool b
  | .int i => .int i
  | .str x => .str x
  | .tup l => .tuple (pyAll l)
  | .lst l => .list (pyAll l)
  | .dct _ _ => .none
  | .obj _ => .none
def pyAll : List D → List PyData
  | [] => []
  | d :: r => d.py :: pyAll r
end
mutual
/-- no dict, no handle within -/
def D.pure : D → Bool
  | .tup l => pureAll l
  | .lst l => pureAll l
  | .dct _ _ => false
  | .obj _ => false
  | _ => true
def pureAll : List D → Bool
  | [] => true
  | d :: r => d.pure && pureAll r
end
section
variable {X : Cx} {pins : List (Addr × Obj)} {σ : L2.St} {s : Shared}
mutual
theorem Rp.dp : ∀ (d : D) {v : V}, Rp K G v d → d.pure = true → Dp K G v d.py
  | .non, _, h, _ => by cases h; exact .non
  | .bl b, _, h, _ => by cases h; exact .bl b
  | .int i, _, h, _ => by cases h; exact .int i
  | .str x, _, h, _ => by cases h; exact .str x
  | .tup l, _, h, p => by
    cases h with
    | tup hs r => exact .tup hs (RpAll.dp l r p)
  | .lst l, _, h, p => by
    cases h with
    | lst hs r => exact .lst (SqL.of hs) (RpAll.dp l r p)
  | .dct _ _, _, _, p => by cases p
  | .obj _, _, _, p => by cases p
theorem RpAll.dp : ∀ (ds : List D) {vs : List V}, RpAll K G vs ds → pureAll ds = true → DpAll K G vs (pyAll ds)
  | [], _, h, _ => by cases h; exact .nil
  | d :: r, _, h, p => by
    have p' : (d.pure && pureAll r) = true := p
    rw [Bool.and_eq_true] at p'
    cases h with
    | cons h1 h2 => exact .cons (Rp.dp d h1 p'.1) (RpAll.dp r h2 p'.2)
end
end

inductive Rq (K : PySem.W.Frag) (A : Act) (G H : Hp) : V → D → Prop
  | of {v : V} {d : D} : Rp K G v d → Rq K A G H v d
  | own {p : Addr} {o : HO} {d : D} : H p = some o → ¬ A.F p → OwnAs K G o d → Rq K A G H (.ref p) d
theorem Rq.ext {v : V} {d : D} (h : Rq K A G H v d) (e : Ext A G H G' H') : Rq K A G' H' v d := by
  cases h with
  | of r => exact .of (r.mono e.gg)
  | own a b c => exact .own (e.keep _ _ b a) b (c.mono e.gg)
theorem Rq.lst {v : V} {ds : List D} (h : Rq K A G H v (.lst ds)) (g : Ex G H) : ∃ p vs, v = .ref p ∧ H p = some (.lst vs) ∧ RpAll K G vs ds := by
  cases h with
  | of r => cases r with | lst a b => exact ⟨_, _, rfl, g _ _ a, b⟩
  | own a b c => cases c with | lst r => exact ⟨_, _, rfl, a, r⟩
theorem Rq.tup {v : V} {ds : List D} (h : Rq K A G H v (.tup ds)) (g : Ex G H) : ∃ p vs, v = .ref p ∧ SqT K H p vs ∧ RpAll K G vs ds := by
  cases h with
  | of r => cases r with | tup a b => exact ⟨_, _, rfl, Evl.ex_t g a, b⟩
  | own a b c => cases c
theorem Rq.dct {v : V} {ks : List Key} {ds : List D} (h : Rq K A G H v (.dct ks ds)) (g : Ex G H) : ∃ p vs, v = .ref p ∧ H p = some (.dK (ks.zip vs)) ∧ ks.length = vs.length ∧ RpAll K G vs ds := by
  cases h with
  | of r => cases r with | dct a l b => exact ⟨_, _, rfl, g _ _ a, l, b⟩
  | own a b c => cases c with | dct l r => exact ⟨_, _, rfl, a, l, r⟩
theorem Rq.int {v : V} {i : Int} (h : Rq K A G H v (.int i)) : v = .int i := by
  cases h with
  | of r => cases r; rfl
  | own a b c => cases c
theorem Rq.bl {v : V} {i : Bool} (h : Rq K A G H v (.bl i)) : v = .bl i := by
  cases h with
  | of r => cases r; rfl
  | own a b c => cases c
theorem Rq.str {v : V} {i : Str} (h : Rq K A G H v (.str i)) : v = .str i := by
  cases h with
  | of r => cases r; rfl
  | own a b c => cases c
theorem Rq.non {v : V} (h : Rq K A G H v .non) : v = .non := by
  cases h with
  | of r => cases r; rfl
  | own a b c => cases c
theorem Rq.dp {v : V} {d : D} (h : Rq K A G H v d) (g : Ex G H) (p : d.pure = true) : Dp K H v d.py := by
  cases h with
  | of r => exact Rp.dp d (r.mono g) p
  | own a b c =>
    cases c with
    | lst r => exact .lst (SqL.of a) (RpAll.dp _ (r.mono g) p)
    | dct => cases p

section
variable {X : Cx}
theorem _root_.L2.PE.imp {e : Expr} {t t' : TE} (h : PE X e t) (i : ∀ σ H Q, t' σ H Q → t σ H Q) : PE X e t' := ⟨fun pins s σ H Q I q => h.run pins s σ H Q I (i σ H Q q)⟩
theorem _root_.L2.PT.imp {e : Expr} {t t' : TT} (h : PT X e t) (i : ∀ σ H Q, t' σ H Q → t σ H Q) : PT X e t' := ⟨fun pins s σ H Q I q => h.run pins s σ H Q I (i σ H Q q)⟩
theorem _root_.L2.PW.imp {e : Expr} {t t' : TT} (h : PW X e t) (i : ∀ σ H Q, t' σ H Q → t σ H Q) : PW X e t' := ⟨fun wh pins s σ H Q I q => h.run wh pins s σ H Q I (i σ H Q q)⟩
theorem _root_.L2.PA.imp {es : List Expr} {t t' : TA} (h : PA X es t) (i : ∀ σ H Q, t' σ H Q → t σ H Q) : PA X es t' := ⟨fun pos pins s σ H Q I q => h.run pos pins s σ H Q I (i σ H Q q)⟩
theorem _root_.L2.PK.imp {es : List Keyword} {t t' : TA} (h : PK X es t) (i : ∀ σ H Q, t' σ H Q → t σ H Q) : PK X es t' := ⟨fun pos pins s σ H Q I q => h.run pos pins s σ H Q I (i σ H Q q)⟩
theorem _root_.L2.PS.imp {st : Stmt} {t t' : TS} (h : PS X st t) (i : ∀ D σ H, t' D σ H → t D σ H) : PS X st t' := ⟨fun pins s σ H D I q => h.run pins s σ H D I (i D σ H q)⟩
theorem _root_.L2.PSs.imp {st : List Stmt} {t t' : TS} (h : PSs X st t) (i : ∀ D σ H, t' D σ H → t D σ H) : PSs X st t' := ⟨fun pins s σ H D I q => h.run pins s σ H D I (i D σ H q)⟩
theorem _root_.L2.PI.imp {tg iter : Expr} {t t' : TI} (h : PI X tg iter t) (i : ∀ σ H R, t' σ H R → t σ H R) : PI X tg iter t' := ⟨fun pins s σ H R I q => h.run pins s σ H R I (i σ H R q)⟩
theorem _root_.L2.PG.imp {tg : Expr} {t t' : TG} (h : PG X tg t) (i : ∀ v σ H Q, t' v σ H Q → t v σ H Q) : PG X tg t' := ⟨fun pins s σ H v u Q I r q => h.run pins s σ H v u Q I r (i v σ H Q q)⟩
end

/-- an expression that gives a datum -/
def rd (K : PySem.W.Frag) (A : Act) (w : Env → T D) : TE := fun σ H Q => ∃ G env, Rel K A G σ env H ∧ wp (w env) (fun d => ∀ v G' H', Ext A G H G' H' → Rp K G' v d → Q v H') A.E
/-- .. or a thing that is owned -/
def rdB (K : PySem.W.Frag) (A : Act) (w : Env → T D) : TE := fun σ H Q => ∃ G env, Rel K A G σ env H ∧ wp (w env) (fun d => ∀ v G' H', Ext A G H G' H' → Rq K A G' H' v d → Q v H') A.E
/-- .. a new list -/
def rdN (K : PySem.W.Frag) (A : Act) (w : Env → T (List D)) : TE := fun σ H Q => ∃ G env, Rel K A G σ env H ∧ wp (w env) (fun ds => ∀ p vs G' H', Ext A G H G' H' → H p = none → G' p = none → H' p = some (.lst vs) → RpAll K G' vs ds → Q (.ref p) H') A.E
/-- arguments: n of them -/
def rdA (K : PySem.W.Frag) (A : Act) (n : Nat) (w : Env → T (List D)) : TA := fun σ H Q => ∃ G env, Rel K A G σ env H ∧ wp (w env) (fun ds => ∀ vs G' H', Ext A G H G' H' → RpAll K G' vs ds → vs.length = n → Q vs H') A.E
/-- a test -/
def rdT (K : PySem.W.Frag) (A : Act) (w : Env → T Bool) : TT := fun σ H Q => ∃ G env, Rel K A G σ env H ∧ wp (w env) (fun b => ∀ G' H', Ext A G H G' H' → Q b H') A.E

theorem rdB_of {w : Env → T D} {σ : L2.St} {Q : VK} (h : rdB K A w σ H Q) : rd K A w σ H Q := by
  obtain ⟨G, env, R, h⟩ := h
  exact ⟨G, env, R, wp_imp h fun d q v G' H' e r => q v G' H' e (.of r)⟩
theorem rdN_of {w : Env → T (List D)} {σ : L2.St} {Q : VK} (h : rd K A (fun env => w env >>= fun ds => T.ret (D.lst ds)) σ H Q) : rdN K A w σ H Q := by
  obtain ⟨G, env, R, h⟩ := h
  refine ⟨G, env, R, wp_imp (wp_bind.mp h) fun ds q p vs G' H' e hp hg hl r => ?_⟩
  have e2 := e.frz hp hl hg
  exact q _ _ _ e2 (.lst upd_same (r.mono (Ex.new hg)))
section
variable {X : Cx} {e : Expr}
theorem toB {w : Env → T D} (h : PE X e (rd X.K A w)) : PE X e (rdB X.K A w) := h.imp fun _ _ _ => rdB_of
theorem toL {w : Env → T (List D)} (h : PE X e (rdN X.K A w)) : PE X e (rd X.K A (fun env => w env >>= fun ds => T.ret (D.lst ds))) := h.imp fun _ _ _ => rdN_of

theorem r_var (i : Nat) {x : Str} {pos : Pos} (hN : X.N[i]? = some x := by rfl) (hv : Vis X.env.scope x := by first | exact Or.inl rfl | exact Or.inr (Or.inl rfl) | exact Or.inr (Or.inr rfl)) (hd : (x == ("__debug__" : Str)) = false := by decide)
    (hcd : (x == ("__classdict__" : Str)) = false := by decide) : PE X (.Name x pos) (rd X.K A (fun env => getV env i)) := (pe_var hN hv hd hcd).imp fun σ H Q h => by
  obtain ⟨G, env, R, h⟩ := h
  dsimp only [getV] at h
  split at h
  · rename_i d e
    obtain ⟨v, h1, h2⟩ := R.sl i _ e
    exact ⟨v, h1, h v G H R.st h2⟩
  · exact h.elim
theorem r_varB (i : Nat) {x : Str} {pos : Pos} (hN : X.N[i]? = some x := by rfl) (hv : Vis X.env.scope x := by first | exact Or.inl rfl | exact Or.inr (Or.inl rfl) | exact Or.inr (Or.inr rfl)) (hd : (x == ("__debug__" : Str)) = false := by decide)
    (hcd : (x == ("__classdict__" : Str)) = false := by decide) : PE X (.Name x pos) (rdB X.K A (fun env => getB env i)) := (pe_var hN hv hd hcd).imp fun σ H Q h => by
  obtain ⟨G, env, R, h⟩ := h
  dsimp only [getB] at h
  split at h
  · rename_i d e
    obtain ⟨v, h1, h2⟩ := R.sl i _ e
    exact ⟨v, h1, h v G H R.st (.of h2)⟩
  · rename_i d e
    obtain ⟨p, h1, ⟨⟨o, h2, h3⟩, h4, h5, h6⟩⟩ := R.sl i _ e
    exact ⟨_, h1, h _ G H R.st (.own h2 h6 h3)⟩
  · exact h.elim
theorem tC_rd {v : V} {d : D} (hr : ∀ G, Rp X.K G v d) {σ : L2.St} {Q : VK} (h : rd X.K A (fun _ => T.ret d) σ H Q) : tC v σ H Q := by
  obtain ⟨G, env, R, h⟩ := h
  exact h v G H R.st (hr G)
theorem r_int {i j pos} : PE X (.Constant (.int i) j pos) (rd X.K A fun _ => T.ret (.int i)) := pe_int.imp fun _ _ _ => tC_rd fun _ => .int i
theorem r_bl {i j pos} : PE X (.Constant (.bool i) j pos) (rd X.K A fun _ => T.ret (.bl i)) := pe_bl.imp fun _ _ _ => tC_rd fun _ => .bl i
theorem r_str {i j pos} : PE X (.Constant (.str i) j pos) (rd X.K A fun _ => T.ret (.str i)) := pe_str.imp fun _ _ _ => tC_rd fun _ => .str i
theorem r_non {j pos} : PE X (.Constant .none j pos) (rd X.K A fun _ => T.ret .non) := pe_non.imp fun _ _ _ => tC_rd fun _ => .non
/-- a constant of the module -/
structure Gc (K : PySem.W.Frag) (mg : Str → Option Value) (x : Str) (d : D) : Prop where
  ex : ∃ v u, mg x = some u ∧ RelV v u ∧ ∀ G, Rp K G v d
theorem r_glob {x : Str} {pos : Pos} {d : D} (hg : Gl X x) (c : Gc X.K X.mg x d) (hd : (x == ("__debug__" : Str)) = false := by decide) : PE X (.Name x pos) (rd X.K A fun _ => T.ret d) := by
  obtain ⟨v, u, h1, h2, h3⟩ := c.ex
  exact (pe_glob hg h1 h2 hd).imp fun _ _ _ => tC_rd h3

def dNil : Env → T (List D) := fun _ => T.ret []
def dCons (w : Env → T D) (ws : Env → T (List D)) : Env → T (List D) := fun env => do
  let d ← w env
  let ds ← ws env
  T.ret (d :: ds)
theorem a_nil : PA X [] (rdA X.K A 0 dNil) := pa_nil.imp fun σ H Q h => by
  obtain ⟨G, env, R, h⟩ := h
  exact h [] G H R.st .nil rfl
theorem rdA_cons {n : Nat} {w : Env → T D} {ws : Env → T (List D)} {σ : L2.St} {Q : List V → Hp → Prop} (h : rdA K A (n + 1) (dCons w ws) σ H Q) : tCons (rd K A w) (rdA K A n ws) σ H Q := by
  obtain ⟨G, env, R, h⟩ := h
  refine ⟨G, env, R, wp_imp (wp_bind.mp h) fun d h1 v G1 H1 e1 r1 => ?_⟩
  refine ⟨G1, env, R.ext e1, wp_imp (wp_bind.mp h1) fun ds h2 vs G2 H2 e2 r2 l2 => ?_⟩
  exact h2 (v :: vs) G2 H2 (e1.trans e2) (.cons (r1.mono e2.gg) r2) (congrArg Nat.succ l2)
theorem a_cons {n : Nat} {es : List Expr} {w : Env → T D} {ws : Env → T (List D)} (h : PE X e (rd X.K A w)) (hr : PA X es (rdA X.K A n ws)) (hs : starEach (e :: es) X.env = (false, eval e X.env) :: starEach es X.env := by rfl) : PA X (e :: es) (rdA X.K A (n + 1) (dCons w ws)) :=
  (pa_cons h hr hs).imp fun _ _ _ => rdA_cons
theorem k_nil : PK X [] (rdA X.K A 0 dNil) := pk_nil.imp fun σ H Q h => by
  obtain ⟨G, env, R, h⟩ := h
  exact h [] G H R.st .nil rfl
theorem k_cons {n : Nat} {nm : Option Str} {kpos : Pos} {kws : List Keyword} {w : Env → T D} {ws : Env → T (List D)} (h : PE X e (rd X.K A w)) (hr : PK X kws (rdA X.K A n ws)) : PK X (⟨nm, e, kpos⟩ :: kws) (rdA X.K A (n + 1) (dCons w ws)) :=
  (pk_cons h hr).imp fun _ _ _ => rdA_cons
def dTup (ws : Env → T (List D)) : Env → T D := fun env => ws env >>= fun ds => T.ret (.tup ds)
theorem r_tup {n : Nat} {es : List Expr} {ws : Env → T (List D)} {x1 pos} (h : PA X es (rdA X.K A n ws)) (hn : n ≤ 1000 := by decide) : PE X (.Tuple es x1 pos) (rd X.K A (dTup ws)) := (pe_tup h).imp fun σ H Q h => by
  obtain ⟨G, env, R, h⟩ := h
  refine ⟨G, env, R, wp_imp (wp_bind.mp h) fun ds h1 vs G1 H1 e1 r1 l1 => ⟨by rw [l1]; exact Nat.le_of_lt (small1000 hn), fun p hp => ?_⟩⟩
  exact h1 _ _ _ (e1.trans (e1.refl'.alloc hp)) (.tup (SqT.of upd_same) (r1.mono (Ex.new (e1.refl'.gnone hp))))
theorem r_lst {n : Nat} {es : List Expr} {ws : Env → T (List D)} {pos} (h : PA X es (rdA X.K A n ws)) (hn : n ≤ 1000 := by decide) : PE X (.List es pos) (rdN X.K A ws) := (pe_lst h).imp fun σ H Q h => by
  obtain ⟨G, env, R, h⟩ := h
  refine ⟨G, env, R, wp_imp h fun ds h1 vs G1 H1 e1 r1 l1 => ⟨by rw [l1]; exact Nat.le_of_lt (small1000 hn), fun p hp => ?_⟩⟩
  exact h1 _ _ _ _ (e1.trans (e1.refl'.allocO hp)) (e1.dn hp) (e1.refl'.gnone hp) upd_same r1

def OpD (K : PySem.W.Frag) (A : Act) (r : R2) (f : D → D → T D) : Prop := ∀ (G H : Hp) (x y : V) (dx dy : D) (Q : VK), St1 A G H → Rq K A G H x dx → Rq K A G H y dy →
  wp (f dx dy) (fun d => ∀ v G' H', Ext A G H G' H' → Rp K G' v d → Q v H') A.E → r x y H Q
/-- .. that give a new list -/
def OpN (K : PySem.W.Frag) (A : Act) (r : R2) (f : D → D → T (List D)) : Prop := ∀ (G H : Hp) (x y : V) (dx dy : D) (Q : VK), St1 A G H → Rq K A G H x dx → Rq K A G H y dy →
  wp (f dx dy) (fun ds => ∀ p vs G' H', Ext A G H G' H' → H p = none → G' p = none → H' p = some (.lst vs) → RpAll K G' vs ds → Q (.ref p) H') A.E → r x y H Q
/-- .. that give a truth value -/
def OpC (K : PySem.W.Frag) (A : Act) (r : R2) (f : D → D → T Bool) : Prop := ∀ (G H : Hp) (x y : V) (dx dy : D) (Q : VK), St1 A G H → Rq K A G H x dx → Rq K A G H y dy →
  wp (f dx dy) (fun b => Q (.bl b) H) A.E → r x y H Q
def dB {α : Type} (f : D → D → T α) (wa wb : Env → T D) : Env → T α := fun env => do
  let x ← wa env
  let y ← wb env
  f x y
theorem tOp_D {r : R2} {f : D → D → T D} {wa wb : Env → T D} {σ : L2.St} {Q : VK} (hd : OpD K A r f) (h : rd K A (dB f wa wb) σ H Q) : tOp r (rdB K A wa) (rdB K A wb) σ H Q := by
  obtain ⟨G, env, R, h⟩ := h
  refine ⟨G, env, R, wp_imp (wp_bind.mp h) fun d h1 v G1 H1 e1 r1 => ?_⟩
  refine ⟨G1, env, R.ext e1, wp_imp (wp_bind.mp h1) fun d' h2 v' G2 H2 e2 r2 => ?_⟩
  exact hd G2 H2 v v' d d' Q e2.refl' (r1.ext e2) r2 (wp_imp h2 fun z h3 u G3 H3 e3 r3 => h3 u G3 H3 ((e1.trans e2).trans e3) r3)
theorem tOp_N {r : R2} {f : D → D → T (List D)} {wa wb : Env → T D} {σ : L2.St} {Q : VK} (hd : OpN K A r f) (h : rdN K A (dB f wa wb) σ H Q) : tOp r (rdB K A wa) (rdB K A wb) σ H Q := by
  obtain ⟨G, env, R, h⟩ := h
  refine ⟨G, env, R, wp_imp (wp_bind.mp h) fun d h1 v G1 H1 e1 r1 => ?_⟩
  refine ⟨G1, env, R.ext e1, wp_imp (wp_bind.mp h1) fun d' h2 v' G2 H2 e2 r2 => ?_⟩
  exact hd G2 H2 v v' d d' Q e2.refl' (r1.ext e2) r2 (wp_imp h2 fun z h3 p us G3 H3 e3 a b c r3 => h3 p us G3 H3 ((e1.trans e2).trans e3) (e1.dn (e2.dn a)) b c r3)
def dBl (w : Env → T Bool) : Env → T D := fun env => w env >>= fun b => T.ret (.bl b)
theorem tOp_C {r : R2} {f : D → D → T Bool} {wa wb : Env → T D} {σ : L2.St} {Q : VK} (hd : OpC K A r f) (h : rd K A (dBl (dB f wa wb)) σ H Q) : tOp r (rdB K A wa) (rdB K A wb) σ H Q := by
  obtain ⟨G, env, R, h⟩ := h
  have h := wp_bind.mp h
  refine ⟨G, env, R, wp_imp (wp_bind.mp h) fun d h1 v G1 H1 e1 r1 => ?_⟩
  refine ⟨G1, env, R.ext e1, wp_imp (wp_bind.mp h1) fun d' h2 v' G2 H2 e2 r2 => ?_⟩
  exact hd G2 H2 v v' d d' Q e2.refl' (r1.ext e2) r2 (wp_imp h2 fun b h3 => h3 _ _ _ (e1.trans e2) (.bl b))
theorem tOp_CT {r : R2} {f : D → D → T Bool} {wa wb : Env → T D} {σ : L2.St} {Q : Bool → Hp → Prop} (hd : OpC K A r f) (h : rdT K A (dB f wa wb) σ H Q) : tTest (tOp r (rdB K A wa) (rdB K A wb)) σ H Q := by
  obtain ⟨G, env, R, h⟩ := h
  refine ⟨G, env, R, wp_imp (wp_bind.mp h) fun d h1 v G1 H1 e1 r1 => ?_⟩
  refine ⟨G1, env, R.ext e1, wp_imp (wp_bind.mp h1) fun d' h2 v' G2 H2 e2 r2 => ?_⟩
  exact hd G2 H2 v v' d d' _ e2.refl' (r1.ext e2) r2 (wp_imp h2 fun b h3 => ⟨b, rfl, h3 _ _ (e1.trans e2)⟩)

variable {a b : Expr} {wa wb : Env → T D} {pos : Pos}
theorem r_bin {op : Operator} {r : R2} {f : D → D → T D} (ho : OpR X (binaryOp op) r) (hd : OpD X.K A r f) (ha : PE X a (rdB X.K A wa)) (hb : PE X b (rdB X.K A wb)) : PE X (.BinOp a op b pos) (rd X.K A (dB f wa wb)) :=
  (pe_op ho ha hb).imp fun _ _ _ => tOp_D hd
theorem r_binN {op : Operator} {r : R2} {f : D → D → T (List D)} (ho : OpR X (binaryOp op) r) (hd : OpN X.K A r f) (ha : PE X a (rdB X.K A wa)) (hb : PE X b (rdB X.K A wb)) : PE X (.BinOp a op b pos) (rdN X.K A (dB f wa wb)) :=
  (pe_op ho ha hb).imp fun _ _ _ => tOp_N hd
theorem r_cmp {op : CmpOp} {r : R2} {f : D → D → T Bool} (ho : OpR X (compareOp op) r) (hd : OpC X.K A r f) (ha : PE X a (rdB X.K A wa)) (hb : PE X b (rdB X.K A wb)) (hm : behindInMarks op b = false) : PE X (.Compare a [op] [b] pos) (rd X.K A (dBl (dB f wa wb))) :=
  (pe_cmpR ho ha hb hm).imp fun _ _ _ => tOp_C hd
theorem t_cmp {op : CmpOp} {r : R2} {f : D → D → T Bool} (ho : OpR X (compareOp op) r) (hd : OpC X.K A r f) (ha : PE X a (rdB X.K A wa)) (hb : PE X b (rdB X.K A wb)) (hm : behindInMarks op b = false) : PT X (.Compare a [op] [b] pos) (rdT X.K A (dB f wa wb)) :=
  (pt_cmpR ho ha hb hm).imp fun _ _ _ => tOp_CT hd
end
end Eng

namespace Eng
open PySem PySem.Spec PyProof.Rows L2
open Evl (Ex)
variable {K : PySem.W.Frag} {A : Act} {G H G' H' G1 H1 G2 H2 : Hp}

def addD : D → D → T D
  | .int i, .int j => .ret (.int (i + j))
  | .int i, .bl b => .ret (.int (i + b2i b))
  | .str i, .str j => if i.length + j.length ≤ sizeLine then .ret (.str (i ++ j)) else .fail
  | .lst xs, .lst ys => if xs.length + ys.length ≤ sizeLine then .ret (.lst (xs ++ ys)) else .fail
  | .tup xs, .tup ys => if xs.length + ys.length ≤ sizeLine then .ret (.tup (xs ++ ys)) else .fail
  | _, _ => .fail
def addN : D → D → T (List D)
  | .lst xs, .lst ys => if xs.length + ys.length ≤ sizeLine then .ret (xs ++ ys) else .fail
  | _, _ => .fail
abbrev rAddI : R2 := rI0 fun i j => .int (i + j)
abbrev rAddB : R2 := fun x y H Q => ∃ i k, x = .int i ∧ y = .bl k ∧ Q (.int (i + b2i k)) H
abbrev rAddS : R2 := fun x y H Q => ∃ i j, x = .str i ∧ y = .str j ∧ i.length + j.length ≤ sizeLine ∧ Q (.str (i ++ j)) H
def rAddAll (K : PySem.W.Frag) : R2 := fun x y H Q => rAddI x y H Q ∨ (rAddB x y H Q ∨ (rAddS x y H Q ∨ (rCat x y H Q ∨ rCatA K x y H Q)))
section
variable {X : Cx}
theorem op_addAll : OpR X (binaryOp .Add) (rAddAll X.K) := op_add.or (op_add_ib.or (op_add_str.or (op_cat.or op_catA)))
theorem opN_cat : OpN K A rCat addN := by
  intro G H x y dx dy Q s hx hy h
  unfold addN at h
  split at h
  · rename_i xs ys
    split at h
    · rename_i hl
      obtain ⟨p, vs, rfl, h1, h2⟩ := hx.lst s.gh
      obtain ⟨q, us, rfl, h3, h4⟩ := hy.lst s.gh
      exact ⟨p, q, vs, us, rfl, rfl, h1, h3, by rw [h2.length, h4.length]; exact hl, fun r hr => h r _ _ _ (s.allocO hr) hr (s.gnone hr) upd_same (h2.append h4)⟩
    · exact h.elim
  · exact h.elim
theorem opD_add : OpD K A (rAddAll K) addD := by
  intro G H x y dx dy Q s hx hy h
  unfold addD at h
  split at h
  · rename_i i j
    exact .inl ⟨i, j, hx.int, hy.int, h _ _ _ s (.int _)⟩
  · rename_i i j
    exact .inr (.inl ⟨i, j, hx.int, hy.bl, h _ _ _ s (.int _)⟩)
  · rename_i i j
    split at h
    · rename_i hl
      exact .inr (.inr (.inl ⟨i, j, hx.str, hy.str, hl, h _ _ _ s (.str _)⟩))
    · exact h.elim
  · rename_i xs ys
    split at h
    · rename_i hl
      obtain ⟨p, vs, rfl, h1, h2⟩ := hx.lst s.gh
      obtain ⟨q, us, rfl, h3, h4⟩ := hy.lst s.gh
      exact .inr (.inr (.inr (.inl ⟨p, q, vs, us, rfl, rfl, h1, h3, by rw [h2.length, h4.length]; exact hl, fun r hr => h _ _ _ (s.alloc hr) (.lst upd_same ((h2.append h4).mono (Ex.new (s.gnone hr))))⟩)))
    · exact h.elim
  · rename_i xs ys
    split at h
    · rename_i hl
      have tx : ∃ p vs, x = .ref p ∧ Rp K G x (.tup xs) ∧ SqT K H p vs ∧ RpAll K G vs xs := by
        obtain ⟨p, vs, e, h1, h2⟩ := hx.tup s.gh
        cases hx with
        | of r => exact ⟨p, vs, e, r, h1, h2⟩
        | own a b c => cases c
      have ty : ∃ p vs, y = .ref p ∧ Rp K G y (.tup ys) ∧ SqT K H p vs ∧ RpAll K G vs ys := by
        obtain ⟨p, vs, e, h1, h2⟩ := hy.tup s.gh
        cases hy with
        | of r => exact ⟨p, vs, e, r, h1, h2⟩
        | own a b c => cases c
      obtain ⟨p, vs, rfl, r1, h1, h2⟩ := tx
      obtain ⟨q, us, rfl, r2, h3, h4⟩ := ty
      refine .inr (.inr (.inr (.inr ⟨p, q, vs, us, rfl, rfl, h1, h3, by rw [h2.length, h4.length]; exact hl, fun e => ?_, fun _ e => ?_, fun _ _ r hr => ?_⟩)))
      · subst e
        cases h2
        exact h _ _ _ s r2
      · subst e
        cases h4
        rw [List.append_nil] at h
        exact h _ _ _ s r1
      · exact h _ _ _ (s.alloc hr) (.tup (SqT.of upd_same) ((h2.append h4).mono (Ex.new (s.gnone hr))))
    · exact h.elim
  · exact h.elim
end

def subD : D → D → T D
  | .int i, .int j => .ret (.int (i - j))
  | _, _ => .fail
theorem opD_sub : OpD K A (rI0 fun i j => .int (i - j)) subD := by
  intro G H x y dx dy Q s hx hy h
  unfold subD at h
  split at h
  · exact ⟨_, _, hx.int, hy.int, h _ _ _ s (.int _)⟩
  · exact h.elim
def mulOk (i j : Int) : Bool := decide (i.natAbs < 2 ^ 64) || (decide (j.natAbs < 2 ^ 64) || decide (i.natAbs.log2 + j.natAbs.log2 < 1000000))
def mulD : D → D → T D
  | .int i, .int j => if mulOk i j = true then .ret (.int (i * j)) else .fail
  | .lst xs, .int k => if -(2 ^ 63) ≤ k ∧ k < 2 ^ 63 ∧ xs.length * k.toNat ≤ sizeLine then .ret (.lst (List.replicate k.toNat xs).flatten) else .fail
  | .tup xs, .int k => if xs ≠ [] ∧ 2 ≤ k ∧ k ≤ 1000 ∧ xs.length ≤ 1000 then .ret (.tup (List.replicate k.toNat xs).flatten) else .fail
  | _, _ => .fail
def mulN : D → D → T (List D)
  | .lst xs, .int k => if -(2 ^ 63) ≤ k ∧ k < 2 ^ 63 ∧ xs.length * k.toNat ≤ sizeLine then .ret (List.replicate k.toNat xs).flatten else .fail
  | _, _ => .fail
def rMulAll (K : PySem.W.Frag) : R2 := fun x y H Q => rI CMul (fun i j => .int (i * j)) x y H Q ∨ (rI CMulW (fun i j => .int (i * j)) x y H Q ∨ (rRep x y H Q ∨ rRepT K x y H Q))
theorem op_mulAll {X : Cx} : OpR X (binaryOp .Mult) (rMulAll X.K) := op_mul.or (op_mulW.or (op_rep.or op_repT))
theorem opN_rep : OpN K A rRep mulN := by
  intro G H x y dx dy Q s hx hy h
  unfold mulN at h
  split at h
  · rename_i xs k
    split at h
    · rename_i hl
      obtain ⟨p, vs, rfl, h1, h2⟩ := hx.lst s.gh
      exact ⟨p, k, vs, rfl, hy.int, h1, hl.1, hl.2.1, by rw [h2.length]; exact hl.2.2, fun r hr => h r _ _ _ (s.allocO hr) hr (s.gnone hr) upd_same (h2.rep _)⟩
    · exact h.elim
  · exact h.elim
theorem opD_mul : OpD K A (rMulAll K) mulD := by
  intro G H x y dx dy Q s hx hy h
  unfold mulD at h
  split at h
  · rename_i i j
    split at h
    · rename_i hm
      have q := h _ _ _ s (.int _)
      unfold mulOk at hm
      simp only [Bool.or_eq_true, decide_eq_true_eq] at hm
      rcases hm with hm | hm | hm
      · exact .inl ⟨i, j, hx.int, hy.int, .inl (by omega), q⟩
      · exact .inl ⟨i, j, hx.int, hy.int, .inr (by omega), q⟩
      · exact .inr (.inl ⟨i, j, hx.int, hy.int, hm, q⟩)
    · exact h.elim
  · rename_i xs k
    split at h
    · rename_i hl
      obtain ⟨p, vs, rfl, h1, h2⟩ := hx.lst s.gh
      exact .inr (.inr (.inl ⟨p, k, vs, rfl, hy.int, h1, hl.1, hl.2.1, by rw [h2.length]; exact hl.2.2, fun r hr => h _ _ _ (s.alloc hr) (.lst upd_same ((h2.rep _).mono (Ex.new (s.gnone hr))))⟩))
    · exact h.elim
  · rename_i xs k
    split at h
    · rename_i hl
      obtain ⟨p, vs, rfl, h1, h2⟩ := hx.tup s.gh
      exact .inr (.inr (.inr ⟨p, k, vs, rfl, hy.int, h1, fun e => hl.1 (by subst e; cases h2; rfl), hl.2.1, hl.2.2.1, by rw [h2.length]; exact hl.2.2.2, fun r hr => h _ _ _ (s.alloc hr) (.tup (SqT.of upd_same) ((h2.rep _).mono (Ex.new (s.gnone hr))))⟩))
    · exact h.elim
  · exact h.elim
def fdivD : D → D → T D
  | .int i, .int j => if 0 < j ∧ j < 1073741824 then .ret (.int (i / j)) else .fail
  | _, _ => .fail
theorem opD_fdiv : OpD K A (rI CDiv fun i j => .int (i / j)) fdivD := by
  intro G H x y dx dy Q s hx hy h
  unfold fdivD at h
  split at h
  · split at h
    · rename_i hc
      exact ⟨_, _, hx.int, hy.int, hc, h _ _ _ s (.int _)⟩
    · exact h.elim
  · exact h.elim
def modD : D → D → T D
  | .int i, .int j => if 0 < j then .ret (.int (i % j)) else .fail
  | _, _ => .fail
theorem opD_mod : OpD K A (rI (fun _ j => 0 < j) fun i j => .int (i % j)) modD := by
  intro G H x y dx dy Q s hx hy h
  unfold modD at h
  split at h
  · split at h
    · rename_i hc
      exact ⟨_, _, hx.int, hy.int, hc, h _ _ _ s (.int _)⟩
    · exact h.elim
  · exact h.elim
def powD : D → D → T D
  | .int i, .int j => if 0 ≤ j ∧ j ≤ 1000000 ∧ i.natAbs < 2 ^ 64 then .ret (.int (i ^ j.toNat)) else .fail
  | _, _ => .fail
theorem opD_pow : OpD K A (rI CPow fun i j => .int (i ^ j.toNat)) powD := by
  intro G H x y dx dy Q s hx hy h
  unfold powD at h
  split at h
  · split at h
    · rename_i hc
      exact ⟨_, _, hx.int, hy.int, hc, h _ _ _ s (.int _)⟩
    · exact h.elim
  · exact h.elim
def negD : D → T D
  | .int i => .ret (.int (-i))
  | _ => .fail

def ltD : D → D → T Bool
  | .int i, .int j => .ret (decide (i < j))
  | _, _ => .fail
def leD : D → D → T Bool
  | .int i, .int j => .ret (decide (i ≤ j))
  | _, _ => .fail
def gtD : D → D → T Bool
  | .int i, .int j => .ret (decide (j < i))
  | _, _ => .fail
def geD : D → D → T Bool
  | .int i, .int j => .ret (decide (j ≤ i))
  | _, _ => .fail
theorem opC_lt : OpC K A (rI0 fun i j => .bl (decide (i < j))) ltD := by
  intro G H x y dx dy Q s hx hy h
  unfold ltD at h
  split at h
  · exact ⟨_, _, hx.int, hy.int, h⟩
  · exact h.elim
theorem opC_le : OpC K A (rI0 fun i j => .bl (decide (i ≤ j))) leD := by
  intro G H x y dx dy Q s hx hy h
  unfold leD at h
  split at h
  · exact ⟨_, _, hx.int, hy.int, h⟩
  · exact h.elim
theorem opC_gt : OpC K A (rI0 fun i j => .bl (decide (j < i))) gtD := by
  intro G H x y dx dy Q s hx hy h
  unfold gtD at h
  split at h
  · exact ⟨_, _, hx.int, hy.int, h⟩
  · exact h.elim
theorem opC_ge : OpC K A (rI0 fun i j => .bl (decide (j ≤ i))) geD := by
  intro G H x y dx dy Q s hx hy h
  unfold geD at h
  split at h
  · exact ⟨_, _, hx.int, hy.int, h⟩
  · exact h.elim
/-- == of scalars that it tells apart as data does -/
def eqS : D → D → Option Bool
  | .non, .non => some true
  | .non, .int _ => some false
  | .int _, .non => some false
  | .non, .bl _ => some false
  | .bl _, .non => some false
  | .non, .str _ => some false
  | .str _, .non => some false
  | .int i, .int j => some (decide (i = j))
  | .bl i, .bl j => some (decide (i = j))
  | .str i, .str j => some (decide (i = j))
  | .int _, .str _ => some false
  | .str _, .int _ => some false
  | .bl _, .str _ => some false
  | .str _, .bl _ => some false
  | _, _ => none
/-- what == looks into -/
def D.okD (d : D) : Bool := d.pure && SeqAt.shaped d.py
def eqD (a b : D) : T Bool := match eqS a b with
  | some k => .ret k
  | none => if a.okD = true ∧ b.okD = true then .ret (PyData.eqv a.py b.py) else .fail
def neD (a b : D) : T Bool := match eqS a b with
  | some k => .ret (!k)
  | none => if a.okD = true ∧ b.okD = true then .ret (!PyData.eqv a.py b.py) else .fail
theorem eqS_ok {x y : V} {dx dy : D} {k : Bool} (hx : Rq K A G H x dx) (hy : Rq K A G H y dy) (h : eqS dx dy = some k) : scal x y = true ∧ decide (x = y) = k := by
  unfold eqS at h
  split at h <;> cases h <;> (first | (have e := hx.int; subst e) | (have e := hx.bl; subst e) | (have e := hx.str; subst e) | (have e := hx.non; subst e)) <;>
    (first | (have e := hy.int; subst e) | (have e := hy.bl; subst e) | (have e := hy.str; subst e) | (have e := hy.non; subst e)) <;> exact ⟨rfl, by simp⟩
def rEqAll (K : PySem.W.Frag) : R2 := fun x y H Q => rEq x y H Q ∨ rEqD K x y H Q
def rNeAll (K : PySem.W.Frag) : R2 := fun x y H Q => rNe x y H Q ∨ rNeD K x y H Q
theorem op_eqAll {X : Cx} (hu : X.A.units + 64 < cLine) : OpR X (compareOp .Eq) (rEqAll X.K) := op_eq.or (op_eqD hu)
theorem op_neAll {X : Cx} (hu : X.A.units + 64 < cLine) : OpR X (compareOp .NotEq) (rNeAll X.K) := op_ne.or (op_neD hu)
theorem okD_pure {d : D} (h : d.okD = true) : d.pure = true ∧ SeqAt.shaped d.py = true := Bool.and_eq_true_iff.mp h
theorem opC_eq : OpC K A (rEqAll K) eqD := by
  intro G H x y dx dy Q s hx hy h
  unfold eqD at h
  split at h
  · rename_i k e
    obtain ⟨h1, h2⟩ := eqS_ok hx hy e
    exact .inl ⟨h1, by rw [h2]; exact h⟩
  · split at h
    · rename_i hk
      obtain ⟨p1, p2⟩ := okD_pure hk.1
      obtain ⟨p3, p4⟩ := okD_pure hk.2
      exact .inr ⟨_, _, hx.dp s.gh p1, hy.dp s.gh p3, p2, p4, h⟩
    · exact h.elim
theorem opC_ne : OpC K A (rNeAll K) neD := by
  intro G H x y dx dy Q s hx hy h
  unfold neD at h
  split at h
  · rename_i k e
    obtain ⟨h1, h2⟩ := eqS_ok hx hy e
    exact .inl ⟨h1, by rw [h2]; exact h⟩
  · split at h
    · rename_i hk
      obtain ⟨p1, p2⟩ := okD_pure hk.1
      obtain ⟨p3, p4⟩ := okD_pure hk.2
      exact .inr ⟨_, _, hx.dp s.gh p1, hy.dp s.gh p3, p2, p4, h⟩
    · exact h.elim
/-- is None -/
def D.isNon : D → Bool
  | .non => true
  | _ => false
def isNoneD (a b : D) : T Bool := match b with
  | .non => .ret a.isNon
  | _ => .fail
def notNoneD (a b : D) : T Bool := match b with
  | .non => .ret (!a.isNon)
  | _ => .fail
theorem Rq.none_iff {x : V} {d : D} (h : Rq K A G H x d) : decide (x = .non) = d.isNon := by
  cases h with
  | of r => cases r <;> simp [D.isNon]
  | own a b c => cases c <;> simp [D.isNon]
theorem opC_isN : OpC K A (fun x y H Q => y = .non ∧ Q (.bl (decide (x = .non))) H) isNoneD := by
  intro G H x y dx dy Q s hx hy h
  unfold isNoneD at h
  split at h
  · exact ⟨hy.non, by rw [hx.none_iff]; exact h⟩
  · exact h.elim
theorem opC_notN : OpC K A (fun x y H Q => y = .non ∧ Q (.bl (!decide (x = .non))) H) notNoneD := by
  intro G H x y dx dy Q s hx hy h
  unfold notNoneD at h
  split at h
  · exact ⟨hy.non, by rw [hx.none_iff]; exact h⟩
  · exact h.elim

def D.flat : D → Bool
  | .non => true
  | .bl _ => true
  | .int _ => true
  | .str _ => true
  | _ => false
/-- == of flat things -/
def eqF : D → D → Bool
  | .non, .non => true
  | .bl a, .bl b => a == b
  | .bl a, .int b => (if a then 1 else 0) == b
  | .int a, .bl b => a == (if b then 1 else 0)
  | .int a, .int b => a == b
  | .str a, .str b => a == b
  | _, _ => false
def itemsOf : D → Option (List D)
  | .lst l => some l
  | .tup l => some l
  | _ => none
def inD (a b : D) : T Bool := match itemsOf b with
  | some l => if a.flat = true ∧ l.all D.flat = true then .ret (l.any fun e => eqF e a) else if a.okD = true ∧ b.okD = true then .ret (l.any fun e => PyData.eqv e.py a.py) else .fail
  | none => (match a, b with
    | .str i, .str j => .ret (!(Builtin.Str.occurrences j i 0 j.length 1).isEmpty)
    | _, _ => .fail)
def notInD (a b : D) : T Bool := inD a b >>= fun k => .ret (!k)
theorem Rp.flatV {v : V} {d : D} (h : Rp K G v d) (f : d.flat = true) : flatV v = true := by
  cases h <;> first | rfl | cases f
theorem RpAll.flatV : ∀ {vs : List V} {ds : List D}, RpAll K G vs ds → ds.all D.flat = true → vs.all L2.flatV = true
  | _, _, .nil, _ => rfl
  | _, _, .cons h r, f => by
    rw [List.all_cons, Bool.and_eq_true] at f
    rw [List.all_cons, h.flatV f.1, RpAll.flatV r f.2] <;> rfl
theorem Rp.eqF {v u : V} {d e : D} (h : Rp K G v d) (h' : Rp K G u e) (f : d.flat = true) (f' : e.flat = true) : eqV v u = eqF d e := by
  cases h <;> cases h' <;> first | rfl | cases f | cases f'
theorem RpAll.inV {u : V} {e : D} (h' : Rp K G u e) (f' : e.flat = true) : ∀ {vs : List V} {ds : List D}, RpAll K G vs ds → ds.all D.flat = true → L2.inV u vs = ds.any fun d => Eng.eqF d e
  | _, _, .nil, _ => rfl
  | _, _, .cons h r, f => by
    rw [List.all_cons, Bool.and_eq_true] at f
    unfold L2.inV
    rw [List.any_cons, List.any_cons, h.eqF h' f.1 f']
    have := RpAll.inV h' f' r f.2
    unfold L2.inV at this
    rw [this]
theorem pyAll_any (x : PyData) : ∀ (l : List D), (pyAll l).any (fun z => PyData.eqv z x) = l.any fun e => PyData.eqv e.py x
  | [] => rfl
  | d :: r => by
    show (PyData.eqv d.py x || (pyAll r).any _) = _
    rw [pyAll_any x r] <;> rfl
/-- x in t, t a tuple of data of any depth -/
def rInDT (K : PySem.W.Frag) (neg : Bool) : R2 := fun x y H Q => ∃ d ds, Dp K H x d ∧ Dp K H y (.tuple ds) ∧ SeqAt.shaped d = true ∧ SeqAt.shaped (.tuple ds) = true ∧ Q (.bl (if neg then !ds.any fun z => PyData.eqv z d else ds.any fun z => PyData.eqv z d)) H
section
variable {X : Cx}
theorem op_inDT (hu : X.A.units + 65 < cLine) : OpR X (compareOp .In) (rInDT X.K false) := by
  intro pins s σ H x y v u Q I rx ry h
  obtain ⟨d, ds, hd, he, sd, se, q⟩ := h
  obtain ⟨as, r1⟩ := Dp.reads I d x v hd rx
  obtain ⟨bs, r2⟩ := Dp.reads I (.tuple ds) y u he ry
  exact SeqAt.in_tuple_reads r2 r1 (SeqAt.canLay_of_shaped se) (SeqAt.canLay_of_shaped sd) (room_in_shaped sd hu) ⟨.bl _, H, I, rfl, q⟩
theorem op_notInDT (hu : X.A.units + 65 < cLine) : OpR X (compareOp .NotIn) (rInDT X.K true) := by
  intro pins s σ H x y v u Q I rx ry h
  obtain ⟨d, ds, hd, he, sd, se, q⟩ := h
  obtain ⟨as, r1⟩ := Dp.reads I d x v hd rx
  obtain ⟨bs, r2⟩ := Dp.reads I (.tuple ds) y u he ry
  exact SeqAt.notIn_tuple_reads r2 r1 (SeqAt.canLay_of_shaped se) (SeqAt.canLay_of_shaped sd) (room_in_shaped sd hu) ⟨.bl _, H, I, rfl, q⟩
end
abbrev rInS (neg : Bool) : R2 := fun x y H Q => ∃ i j, x = .str i ∧ y = .str j ∧ Q (.bl (if neg then !(!(Builtin.Str.occurrences j i 0 j.length 1).isEmpty) else !(Builtin.Str.occurrences j i 0 j.length 1).isEmpty)) H
def rInAll (K : PySem.W.Frag) : R2 := fun x y H Q => rIn K false x y H Q ∨ (rInD K x y H Q ∨ (rInDT K false x y H Q ∨ rInS false x y H Q))
def rNotInAll (K : PySem.W.Frag) : R2 := fun x y H Q => rIn K true x y H Q ∨ (rNotInD K x y H Q ∨ (rInDT K true x y H Q ∨ rInS true x y H Q))
theorem op_inAll {X : Cx} (hu : X.A.units + 65 < cLine) : OpR X (compareOp .In) (rInAll X.K) := op_in_seq.or ((op_inD hu).or ((op_inDT hu).or op_in_str))
theorem op_notInAll {X : Cx} (hu : X.A.units + 65 < cLine) : OpR X (compareOp .NotIn) (rNotInAll X.K) := op_notIn_seq.or ((op_notInD hu).or ((op_notInDT hu).or op_notIn_str))
theorem inD_cases {x y : V} {dx dy : D} {R : Bool → Prop} {E : Str → List D → Prop} (s : St1 A G H) (hx : Rq K A G H x dx) (hy : Rq K A G H y dy) (h : wp (inD dx dy) R E) :
    (∃ p xs k, y = .ref p ∧ (SqL K H p xs ∨ SqT K H p xs) ∧ flatV x = true ∧ xs.all flatV = true ∧ inV x xs = k ∧ R k) ∨
    (∃ d ds, Dp K H x d ∧ Dp K H y (.list ds) ∧ SeqAt.shaped d = true ∧ SeqAt.shaped (.list ds) = true ∧ R (ds.any fun z => PyData.eqv z d)) ∨
    (∃ d ds, Dp K H x d ∧ Dp K H y (.tuple ds) ∧ SeqAt.shaped d = true ∧ SeqAt.shaped (.tuple ds) = true ∧ R (ds.any fun z => PyData.eqv z d)) ∨
    (∃ i j, x = .str i ∧ y = .str j ∧ R (!(Builtin.Str.occurrences j i 0 j.length 1).isEmpty)) := by
  unfold inD at h
  split at h
  · rename_i l hl
    split at h
    · rename_i hf
      left
      have hxr : Rp K G x dx := by
        cases hx with
        | of r => exact r
        | own a b c => cases c <;> cases hf.1
      cases dy with
      | lst l' =>
        cases hl
        obtain ⟨p, vs, rfl, h1, h2⟩ := hy.lst s.gh
        exact ⟨p, vs, _, rfl, .inl (SqL.of h1), hxr.flatV hf.1, h2.flatV hf.2, h2.inV hxr hf.1 hf.2, h⟩
      | tup l' =>
        cases hl
        obtain ⟨p, vs, rfl, h1, h2⟩ := hy.tup s.gh
        exact ⟨p, vs, _, rfl, .inr h1, hxr.flatV hf.1, h2.flatV hf.2, h2.inV hxr hf.1 hf.2, h⟩
      | _ => cases hl
    · split at h
      · rename_i hk
        obtain ⟨p1, p2⟩ := okD_pure hk.1
        obtain ⟨p3, p4⟩ := okD_pure hk.2
        have d1 := hx.dp s.gh p1
        have d2 := hy.dp s.gh p3
        cases dy with
        | lst l' =>
          cases hl
          exact .inr (.inl ⟨_, _, d1, d2, p2, p4, by rw [pyAll_any]; exact h⟩)
        | tup l' =>
          cases hl
          exact .inr (.inr (.inl ⟨_, _, d1, d2, p2, p4, by rw [pyAll_any]; exact h⟩))
        | _ => cases hl
      · exact h.elim
  · split at h
    · exact .inr (.inr (.inr ⟨_, _, hx.str, hy.str, h⟩))
    · exact h.elim
theorem opC_in : OpC K A (rInAll K) inD := by
  intro G H x y dx dy Q s hx hy h
  rcases inD_cases s hx hy h with ⟨p, xs, k, h1, h2, h3, h4, h5, h6⟩ | ⟨d, ds, h1, h2, h3, h4, h5⟩ | ⟨d, ds, h1, h2, h3, h4, h5⟩ | ⟨i, j, h1, h2, h3⟩
  · exact .inl ⟨p, xs, h1, h2, h3, h4, by rw [if_neg Bool.false_ne_true, h5]; exact h6⟩
  · exact .inr (.inl ⟨d, ds, h1, h2, h3, h4, h5⟩)
  · exact .inr (.inr (.inl ⟨d, ds, h1, h2, h3, h4, by rw [if_neg Bool.false_ne_true]; exact h5⟩))
  · exact .inr (.inr (.inr ⟨i, j, h1, h2, by rw [if_neg Bool.false_ne_true]; exact h3⟩))
theorem opC_notIn : OpC K A (rNotInAll K) notInD := by
  intro G H x y dx dy Q s hx hy h
  unfold notInD at h
  rcases inD_cases s hx hy (wp_bind.mp h) with ⟨p, xs, k, h1, h2, h3, h4, h5, h6⟩ | ⟨d, ds, h1, h2, h3, h4, h5⟩ | ⟨d, ds, h1, h2, h3, h4, h5⟩ | ⟨i, j, h1, h2, h3⟩
  · exact .inl ⟨p, xs, h1, h2, h3, h4, by rw [if_pos rfl, h5]; exact h6⟩
  · exact .inr (.inl ⟨d, ds, h1, h2, h3, h4, h5⟩)
  · exact .inr (.inr (.inl ⟨d, ds, h1, h2, h3, h4, by rw [if_pos rfl]; exact h5⟩))
  · exact .inr (.inr (.inr ⟨i, j, h1, h2, by rw [if_pos rfl]; exact h3⟩))

def truthD : D → T Bool
  | .non => .ret false
  | .bl b => .ret b
  | .int i => .ret (i != 0)
  | .str x => if x.length ≤ sizeLine then .ret ((x.length : Int) != 0) else .fail
  | .tup l => .ret (!l.isEmpty)
  | .lst l => .ret (!l.isEmpty)
  | .dct ks _ => .ret (!ks.isEmpty)
  | .obj _ => .fail
theorem isEmpty_rp {vs : List V} {ds : List D} (r : RpAll K G vs ds) : vs.isEmpty = ds.isEmpty := by cases r <;> rfl
theorem tru_of {x : V} {d : D} {R : Bool → Prop} {E : Str → List D → Prop} (s : St1 A G H) (hx : Rq K A G H x d) (h : wp (truthD d) R E) : ∃ k, TruV K x H k ∧ R k := by
  cases d with
  | non => rw [hx.non]; exact ⟨_, rfl, h⟩
  | bl b => rw [hx.bl]; exact ⟨_, rfl, h⟩
  | int i => rw [hx.int]; exact ⟨_, rfl, h⟩
  | str z =>
    rw [hx.str]
    have h : wp (if z.length ≤ sizeLine then T.ret ((z.length : Int) != 0) else T.fail) R E := h
    split at h
    · rename_i hl; exact ⟨_, ⟨hl, rfl⟩, h⟩
    · exact h.elim
  | tup l =>
    obtain ⟨p, vs, rfl, h1, h2⟩ := hx.tup s.gh
    exact ⟨_, .inr (.inl ⟨vs, h1, rfl⟩), by rw [isEmpty_rp h2]; exact h⟩
  | lst l =>
    obtain ⟨p, vs, rfl, h1, h2⟩ := hx.lst s.gh
    exact ⟨_, .inl ⟨vs, SqL.of h1, rfl⟩, by rw [isEmpty_rp h2]; exact h⟩
  | dct ks ds =>
    obtain ⟨p, vs, rfl, h1, h2, h3⟩ := hx.dct s.gh
    refine ⟨_, .inr (.inr ⟨_, h1, rfl⟩), ?_⟩
    have e : (ks.zip vs).isEmpty = ks.isEmpty := by
      cases ks with
      | nil => rfl
      | cons k r => cases vs with | nil => cases h2 | cons v r' => rfl
    rw [e]
    exact h
  | obj a => exact h.elim
end Eng

namespace Eng
open PySem PySem.Spec PyProof.Rows L2
open Evl (Ex)
variable {K : PySem.W.Frag} {A : Act} {G H G' H' G1 H1 G2 H2 : Hp}
section
variable {X : Cx} {a b c e : Expr} {wa wb wc w : Env → T D} {ta tb tc : Env → T Bool} {pos : Pos} {rest : List Expr}

def dU {α : Type} (f : D → T α) (w : Env → T D) : Env → T α := fun env => w env >>= f
theorem r_neg (h : PE X a (rdB X.K A wa)) : PE X (.UnaryOp .USub a pos) (rd X.K A (dU negD wa)) := (pe_un un_neg h).imp fun σ H Q h => by
  obtain ⟨G, env, R, h⟩ := h
  refine ⟨G, env, R, wp_imp (wp_bind.mp h) fun d h1 v G1 H1 e1 r1 => ?_⟩
  unfold negD at h1
  split at h1
  · exact ⟨_, r1.int, h1 _ _ _ e1 (.int _)⟩
  · exact h1.elim
theorem t_truth (h : PE X a (rdB X.K A wa)) (he : ∀ whole, isTrue a X.env whole = (do let v ← whole; standAt a.pos; holding [v] (truthy v)) := by intro _; rfl) : PT X a (rdT X.K A (dU truthD wa)) := (pt_truth h he).imp fun σ H Q h => by
  obtain ⟨G, env, R, h⟩ := h
  refine ⟨G, env, R, wp_imp (wp_bind.mp h) fun d h1 v G1 H1 e1 r1 => ?_⟩
  exact tru_of e1.refl' r1 (wp_imp h1 fun b q => q _ _ e1)
def dNot (t : Env → T Bool) : Env → T Bool := fun env => t env >>= fun b => T.ret (!b)
theorem t_not (h : PT X a (rdT X.K A ta)) : PT X (.UnaryOp .Not a pos) (rdT X.K A (dNot ta)) := (pt_not h).imp fun σ H Q h => by
  obtain ⟨G, env, R, h⟩ := h
  exact ⟨G, env, R, wp_imp (wp_bind.mp h) fun b h1 G1 H1 e1 => h1 _ _ e1⟩
def dAnd (t u : Env → T Bool) : Env → T Bool := fun env => t env >>= fun b => if b = true then u env else T.ret false
def dOr (t u : Env → T Bool) : Env → T Bool := fun env => t env >>= fun b => if b = true then T.ret true else u env
theorem t_and1 (h : PT X a (rdT X.K A ta)) : PW X (.BoolOp .And [a] pos) (rdT X.K A ta) := pw_and1 h
theorem t_or1 (h : PT X a (rdT X.K A ta)) : PW X (.BoolOp .Or [a] pos) (rdT X.K A ta) := pw_or1 h
theorem t_and (h : PT X a (rdT X.K A ta)) (h2 : PW X (.BoolOp .And (b :: rest) pos) (rdT X.K A tb)) : PW X (.BoolOp .And (a :: b :: rest) pos) (rdT X.K A (dAnd ta tb)) := (pw_and h h2).imp fun σ H Q h => by
  obtain ⟨G, env, R, h⟩ := h
  refine ⟨G, env, R, wp_imp (wp_bind.mp h) fun b h1 G1 H1 e1 => ?_⟩
  cases b with
  | true => exact ⟨G1, env, R.ext e1, wp_imp h1 fun b q G2 H2 e2 => q _ _ (e1.trans e2)⟩
  | false => exact h1 _ _ e1
theorem t_or (h : PT X a (rdT X.K A ta)) (h2 : PW X (.BoolOp .Or (b :: rest) pos) (rdT X.K A tb)) : PW X (.BoolOp .Or (a :: b :: rest) pos) (rdT X.K A (dOr ta tb)) := (pw_or h h2).imp fun σ H Q h => by
  obtain ⟨G, env, R, h⟩ := h
  refine ⟨G, env, R, wp_imp (wp_bind.mp h) fun b h1 G1 H1 e1 => ?_⟩
  cases b with
  | true => exact h1 _ _ e1
  | false => exact ⟨G1, env, R.ext e1, wp_imp h1 fun b q G2 H2 e2 => q _ _ (e1.trans e2)⟩
theorem t_pw {e : Expr} (h : PW X e (rdT X.K A ta)) : PT X e (rdT X.K A ta) := h.pt
def dAndV (w u : Env → T D) : Env → T D := fun env => w env >>= fun d => truthD d >>= fun b => if b = true then u env else T.ret d
def dOrV (w u : Env → T D) : Env → T D := fun env => w env >>= fun d => truthD d >>= fun b => if b = true then T.ret d else u env
theorem r_one {op} (h : PE X a (rd X.K A wa)) : PE X (.BoolOp op [a] pos) (rd X.K A wa) := pe_one h
theorem r_and (h : PE X a (rd X.K A wa)) (h2 : PE X (.BoolOp .And (b :: rest) pos) (rd X.K A wb)) : PE X (.BoolOp .And (a :: b :: rest) pos) (rd X.K A (dAndV wa wb)) := (pe_andT h h2).imp fun σ H Q h => by
  obtain ⟨G, env, R, h⟩ := h
  refine ⟨G, env, R, wp_imp (wp_bind.mp h) fun d h1 v G1 H1 e1 r1 => ?_⟩
  obtain ⟨k, h2, h3⟩ := tru_of e1.refl' (.of r1) (wp_bind.mp h1)
  refine ⟨k, h2, ?_⟩
  cases k with
  | true => exact ⟨G1, env, R.ext e1, wp_imp h3 fun d q v G2 H2 e2 => q _ _ _ (e1.trans e2)⟩
  | false => exact h3 _ _ _ e1 r1
theorem r_or (h : PE X a (rd X.K A wa)) (h2 : PE X (.BoolOp .Or (b :: rest) pos) (rd X.K A wb)) : PE X (.BoolOp .Or (a :: b :: rest) pos) (rd X.K A (dOrV wa wb)) := (pe_orT h h2).imp fun σ H Q h => by
  obtain ⟨G, env, R, h⟩ := h
  refine ⟨G, env, R, wp_imp (wp_bind.mp h) fun d h1 v G1 H1 e1 r1 => ?_⟩
  obtain ⟨k, h2, h3⟩ := tru_of e1.refl' (.of r1) (wp_bind.mp h1)
  refine ⟨k, h2, ?_⟩
  cases k with
  | true => exact h3 _ _ _ e1 r1
  | false => exact ⟨G1, env, R.ext e1, wp_imp h3 fun d q v G2 H2 e2 => q _ _ _ (e1.trans e2)⟩
def dNotV (w : Env → T D) : Env → T D := fun env => w env >>= fun d => truthD d >>= fun b => T.ret (.bl (!b))
theorem r_not (h : PE X a (rdB X.K A wa)) : PE X (.UnaryOp .Not a pos) (rd X.K A (dNotV wa)) := (pe_notT h).imp fun σ H Q h => by
  obtain ⟨G, env, R, h⟩ := h
  refine ⟨G, env, R, wp_imp (wp_bind.mp h) fun d h1 v G1 H1 e1 r1 => ?_⟩
  obtain ⟨k, h2, h3⟩ := tru_of e1.refl' r1 (wp_bind.mp h1)
  exact ⟨k, h2, h3 _ _ _ e1 (.bl _)⟩
def dIf {α : Type} (t : Env → T Bool) (w u : Env → T α) : Env → T α := fun env => t env >>= fun b => if b = true then w env else u env
theorem r_if (h : PT X c (rdT X.K A tc)) (ha : PE X a (rd X.K A wa)) (hb : PE X b (rd X.K A wb)) : PE X (.IfExp c a b pos) (rd X.K A (dIf tc wa wb)) := (pe_ifExp h ha hb).imp fun σ H Q h => by
  obtain ⟨G, env, R, h⟩ := h
  refine ⟨G, env, R, wp_imp (wp_bind.mp h) fun b h1 G1 H1 e1 => ?_⟩
  cases b with
  | true => exact ⟨G1, env, R.ext e1, wp_imp h1 fun d q v G2 H2 e2 => q _ _ _ (e1.trans e2)⟩
  | false => exact ⟨G1, env, R.ext e1, wp_imp h1 fun d q v G2 H2 e2 => q _ _ _ (e1.trans e2)⟩

def dChain (f g : D → D → T Bool) (wa wb wc : Env → T D) : Env → T Bool := fun env => do
  let x ← wa env
  let y ← wb env
  let k ← f x y
  if k = true then (do
    let z ← wc env
    g y z) else T.ret false
theorem t_chain {op op' : CmpOp} {r r' : R2} {f g : D → D → T Bool} (ho : OpR X (compareOp op) r) (ho' : OpR X (compareOp op') r') (hf : OpC X.K A r f) (hg : OpC X.K A r' g) (ha : PE X a (rdB X.K A wa)) (hb : PE X b (rdB X.K A wb)) (hc : PE X c (rdB X.K A wc))
    (hm : lastMarks [op, op'] [b, c] = false := by with_unfolding_all rfl) : PT X (.Compare a [op, op'] [b, c] pos) (rdT X.K A (dChain f g wa wb wc)) := (pt_chain ho ho' ha hb hc hm).imp fun σ H Q h => by
  obtain ⟨G, env, R, h⟩ := h
  refine ⟨G, env, R, wp_imp (wp_bind.mp h) fun x h1 v1 G1 H1 e1 r1 => ?_⟩
  refine ⟨G1, env, R.ext e1, wp_imp (wp_bind.mp h1) fun y h2 v2 G2 H2 e2 r2 => ?_⟩
  refine hf G2 H2 v1 v2 x y _ e2.refl' (r1.ext e2) r2 (wp_imp (wp_bind.mp h2) fun k h3 => ⟨k, rfl, ?_⟩)
  cases k with
  | true =>
    refine ⟨G2, env, (R.ext e1).ext e2, wp_imp (wp_bind.mp h3) fun z h4 v3 G3 H3 e3 r3 => ?_⟩
    exact hg G3 H3 v2 v3 y z _ e3.refl' (r2.ext e3) r3 (wp_imp h4 fun b q => ⟨b, rfl, q _ _ ((e1.trans e2).trans e3)⟩)
  | false => exact ⟨false, rfl, h3 _ _ (e1.trans e2)⟩
theorem r_chain {op op' : CmpOp} {r r' : R2} {f g : D → D → T Bool} (ho : OpR X (compareOp op) r) (ho' : OpR X (compareOp op') r') (hf : OpC X.K A r f) (hg : OpC X.K A r' g) (ha : PE X a (rdB X.K A wa)) (hb : PE X b (rdB X.K A wb)) (hc : PE X c (rdB X.K A wc))
    (hm : lastMarks [op, op'] [b, c] = false := by with_unfolding_all rfl) : PE X (.Compare a [op, op'] [b, c] pos) (rd X.K A (dBl (dChain f g wa wb wc))) := (pe_chain ho ho' ha hb hc hm).imp fun σ H Q h => by
  obtain ⟨G, env, R, h⟩ := h
  have h := wp_bind.mp h
  refine ⟨G, env, R, wp_imp (wp_bind.mp h) fun x h1 v1 G1 H1 e1 r1 => ?_⟩
  refine ⟨G1, env, R.ext e1, wp_imp (wp_bind.mp h1) fun y h2 v2 G2 H2 e2 r2 => ?_⟩
  refine hf G2 H2 v1 v2 x y _ e2.refl' (r1.ext e2) r2 (wp_imp (wp_bind.mp h2) fun k h3 => ⟨k, rfl, ?_⟩)
  cases k with
  | true =>
    refine ⟨G2, env, (R.ext e1).ext e2, wp_imp (wp_bind.mp h3) fun z h4 v3 G3 H3 e3 r3 => ?_⟩
    exact hg G3 H3 v2 v3 y z _ e3.refl' (r2.ext e3) r3 (wp_imp h4 fun b q => q _ _ _ ((e1.trans e2).trans e3) (.bl b))
  | false => exact h3 _ _ _ (e1.trans e2) (.bl _)

def ixD : D → D → T D
  | .lst l, .int i => (match atI l i with
    | some d => .ret d
    | none => .fail)
  | .tup l, .int i => (match atI l i with
    | some d => .ret d
    | none => .fail)
  | .str z, .int i => if z.length ≤ sizeLine then (match atI z.cps.toList i with
    | some c => .ret (.str ⟨#[c]⟩)
    | none => .fail) else .fail
  | _, _ => .fail
theorem RpAll.atI {vs : List V} {ds : List D} {i : Int} {d : D} (r : RpAll K G vs ds) (h : L2.atI ds i = some d) : ∃ v, L2.atI vs i = some v ∧ Rp K G v d := by
  unfold L2.atI at h ⊢
  rw [r.length]
  cases q : ixN ds.length i with
  | none => rw [q] at h; cases h
  | some j =>
    rw [q] at h
    exact r.get h
theorem opD_ix : OpD K A (rIx K) ixD := by
  intro G H x y dx dy Q s hx hy h
  unfold ixD at h
  split at h
  · split at h
    · rename_i d e
      obtain ⟨p, vs, rfl, h1, h2⟩ := hx.lst s.gh
      obtain ⟨v, h3, h4⟩ := h2.atI e
      exact .inl ⟨p, vs, _, v, rfl, hy.int, SqL.of h1, h3, h _ _ _ s h4⟩
    · exact h.elim
  · split at h
    · rename_i d e
      obtain ⟨p, vs, rfl, h1, h2⟩ := hx.tup s.gh
      obtain ⟨v, h3, h4⟩ := h2.atI e
      exact .inr (.inl ⟨p, vs, _, v, rfl, hy.int, h1, h3, h _ _ _ s h4⟩)
    · exact h.elim
  · split at h
    · rename_i hl
      split at h
      · rename_i c e
        exact .inr (.inr ⟨_, _, c, hx.str, hy.int, hl, e, h _ _ _ s (.str _)⟩)
      · exact h.elim
    · exact h.elim
  · exact h.elim
theorem r_ix (ha : PE X a (rdB X.K A wa)) (hb : PE X b (rdB X.K A wb)) (hs : PlainIx b := by intro _ _; rfl) : PE X (.Subscript a b pos) (rd X.K A (dB ixD wa wb)) := (pe_ix ix_seq ha hb hs).imp fun _ _ _ => tOp_D opD_ix

def rdO (K : PySem.W.Frag) (A : Act) (w : Env → T (Option Int)) : TO := fun σ H Q => ∃ G env, Rel K A G σ env H ∧ wp (w env) (fun o => ∀ G' H', Ext A G H G' H' → Q o H') A.E
def dNo : Env → T (Option Int) := fun _ => T.ret none
def asInt : D → T Int
  | .int i => .ret i
  | _ => .fail
def dSome (w : Env → T D) : Env → T (Option Int) := fun env => w env >>= fun d => asInt d >>= fun i => T.ret (some i)
theorem o_none : PO X none (rdO X.K A dNo) := ⟨fun pins s σ H Q I h => by
  obtain ⟨G, env, R, h⟩ := h
  exact po_none.run pins s σ H Q I (h G H R.st)⟩
theorem o_some (h : PE X a (rdB X.K A wa)) : PO X (some a) (rdO X.K A (dSome wa)) := ⟨fun pins s σ H Q I hw => by
  obtain ⟨G, env, R, hw⟩ := hw
  refine (po_some h).run pins s σ H Q I ⟨G, env, R, wp_imp (wp_bind.mp hw) fun d h1 v G1 H1 e1 r1 => ?_⟩
  unfold asInt at h1
  split at h1
  · exact ⟨_, r1.int, h1 _ _ e1⟩
  · exact h1.elim⟩
def cutD (xs : List D) (lo hi : Option Int) : List D := (xs.drop (HT.sIx xs.length 0 lo)).take (HT.sIx xs.length xs.length hi - HT.sIx xs.length 0 lo)
theorem RpAll.cut {vs : List V} {ds : List D} (r : RpAll K G vs ds) (lo hi : Option Int) : RpAll K G (cutV vs lo hi) (cutD ds lo hi) := by
  unfold cutV cutD
  rw [r.length]
  exact (r.drop _).take _
def slD (x : D) (lo hi : Option Int) : T D := match x with
  | .lst l => .ret (.lst (cutD l lo hi))
  | .tup l => .ret (.tup (cutD l lo hi))
  | .str z => if z.length ≤ sizeLine then .ret (.str (cutS z lo hi)) else .fail
  | _ => .fail
def slN (x : D) (lo hi : Option Int) : T (List D) := match x with
  | .lst l => .ret (cutD l lo hi)
  | _ => .fail
def dSl {α : Type} (f : D → Option Int → Option Int → T α) (w : Env → T D) (l u : Env → T (Option Int)) : Env → T α := fun env => do
  let x ← w env
  let lo ← l env
  let hi ← u env
  f x lo hi
def rSlAll (K : PySem.W.Frag) : V → Option Int → Option Int → Hp → VK → Prop := fun x lo hi H Q => rSlL K x lo hi H Q ∨ (rSlA K x lo hi H Q ∨ rSlS x lo hi H Q)
theorem sl_all : SlR X (rSlAll X.K) := sl_list.or (sl_tupA.or sl_str)
variable {lo hi : Option Expr} {tl tu : Env → T (Option Int)} {p2 : Pos}
theorem r_slice (ha : PE X a (rdB X.K A wa)) (hl : PO X lo (rdO X.K A tl)) (hu : PO X hi (rdO X.K A tu)) : PE X (.Subscript a (.Slice lo hi none p2) pos) (rd X.K A (dSl slD wa tl tu)) := (pe_slice sl_all ha hl hu).imp fun σ H Q h => by
  obtain ⟨G, env, R, h⟩ := h
  refine ⟨G, env, R, wp_imp (wp_bind.mp h) fun x h1 v G1 H1 e1 r1 => ?_⟩
  refine ⟨G1, env, R.ext e1, wp_imp (wp_bind.mp h1) fun l h2 G2 H2 e2 => ?_⟩
  refine ⟨G2, env, (R.ext e1).ext e2, wp_imp (wp_bind.mp h2) fun u h3 G3 H3 e3 => ?_⟩
  have r3 := (r1.ext e2).ext e3
  have ee := (e1.trans e2).trans e3
  have s := e3.refl'
  cases x with
  | lst d =>
    obtain ⟨p, vs, rfl, q1, q2⟩ := r3.lst s.gh
    exact .inl ⟨p, vs, rfl, SqL.of q1, fun r hr => h3 _ _ _ (ee.trans (s.alloc hr)) (.lst upd_same ((q2.cut l u).mono (Ex.new (s.gnone hr))))⟩
  | tup d =>
    have hr : ∃ p vs, v = .ref p ∧ Rp X.K G3 v (.tup d) ∧ SqT X.K H3 p vs ∧ RpAll X.K G3 vs d := by
      obtain ⟨p, vs, e, q1, q2⟩ := r3.tup s.gh
      cases r3 with
      | of r => exact ⟨p, vs, e, r, q1, q2⟩
      | own a b c => cases c
    obtain ⟨p, vs, rfl, r, q1, q2⟩ := hr
    refine .inr (.inl ⟨p, vs, rfl, q1, fun hw => ?_, fun hw r hr => h3 _ _ _ (ee.trans (s.alloc hr)) (.tup (SqT.of upd_same) ((q2.cut l u).mono (Ex.new (s.gnone hr))))⟩)
    have h3 : ∀ v G' H', Ext A G H G' H' → Rp X.K G' v (.tup (cutD d l u)) → Q v H' := h3
    have e : cutD d l u = d := by
      unfold cutD
      rw [← q2.length, hw.1, hw.2, List.drop_zero, q2.length, Nat.sub_zero, List.take_length]
    rw [e] at h3
    exact h3 _ _ _ ee r
  | str z =>
    have h3 : wp (if z.length ≤ sizeLine then T.ret (D.str (cutS z l u)) else T.fail) _ _ := h3
    split at h3
    · rename_i hz
      exact .inr (.inr ⟨z, r3.str, hz, h3 _ _ _ ee (.str _)⟩)
    · exact h3.elim
  | _ => exact h3.elim
theorem r_sliceN (ha : PE X a (rdB X.K A wa)) (hl : PO X lo (rdO X.K A tl)) (hu : PO X hi (rdO X.K A tu)) : PE X (.Subscript a (.Slice lo hi none p2) pos) (rdN X.K A (dSl slN wa tl tu)) := (pe_slice sl_list ha hl hu).imp fun σ H Q h => by
  obtain ⟨G, env, R, h⟩ := h
  refine ⟨G, env, R, wp_imp (wp_bind.mp h) fun x h1 v G1 H1 e1 r1 => ?_⟩
  refine ⟨G1, env, R.ext e1, wp_imp (wp_bind.mp h1) fun l h2 G2 H2 e2 => ?_⟩
  refine ⟨G2, env, (R.ext e1).ext e2, wp_imp (wp_bind.mp h2) fun u h3 G3 H3 e3 => ?_⟩
  have r3 := (r1.ext e2).ext e3
  have ee := (e1.trans e2).trans e3
  have s := e3.refl'
  cases x with
  | lst d =>
    obtain ⟨p, vs, rfl, q1, q2⟩ := r3.lst s.gh
    exact ⟨p, vs, rfl, SqL.of q1, fun r hr => h3 _ _ _ _ (ee.trans (s.allocO hr)) (ee.dn hr) (s.gnone hr) upd_same (q2.cut l u)⟩
  | _ => exact h3.elim

/-- arguments that are read only -/
def rdAB (K : PySem.W.Frag) (A : Act) (w : Env → T (List D)) : TA := fun σ H Q => ∃ G env, Rel K A G σ env H ∧ wp (w env) (fun ds => ∀ vs G' H', Ext A G H G' H' → Paired (Rq K A G' H') vs ds → Q vs H') A.E
theorem b_nil : PA X [] (rdAB X.K A dNil) := pa_nil.imp fun σ H Q h => by
  obtain ⟨G, env, R, h⟩ := h
  exact h [] G H R.st .nil
theorem Paired.ext {vs : List V} {ds : List D} (e : Ext A G H G' H') (h : Paired (Rq K A G H) vs ds) : Paired (Rq K A G' H') vs ds := Paired.mapP h fun _ _ r => r.ext e
theorem b_cons {es : List Expr} {ws : Env → T (List D)} (h : PE X e (rdB X.K A w)) (hr : PA X es (rdAB X.K A ws)) (hs : starEach (e :: es) X.env = (false, eval e X.env) :: starEach es X.env := by rfl) : PA X (e :: es) (rdAB X.K A (dCons w ws)) :=
  (pa_cons h hr hs).imp fun σ H Q h => by
    obtain ⟨G, env, R, h⟩ := h
    refine ⟨G, env, R, wp_imp (wp_bind.mp h) fun d h1 v G1 H1 e1 r1 => ?_⟩
    refine ⟨G1, env, R.ext e1, wp_imp (wp_bind.mp h1) fun ds h2 vs G2 H2 e2 r2 => ?_⟩
    exact h2 (v :: vs) G2 H2 (e1.trans e2) (.cons (r1.ext e2) r2)
abbrev RL := List V → Hp → VK → Prop
def CaD (K : PySem.W.Frag) (A : Act) (r : RL) (f : List D → T D) : Prop := ∀ (G H : Hp) (vs : List V) (ds : List D) (Q : VK), St1 A G H → Paired (Rq K A G H) vs ds →
  wp (f ds) (fun d => ∀ v G' H', Ext A G H G' H' → Rp K G' v d → Q v H') A.E → r vs H Q
def CaN (K : PySem.W.Frag) (A : Act) (r : RL) (f : List D → T (List D)) : Prop := ∀ (G H : Hp) (vs : List V) (ds : List D) (Q : VK), St1 A G H → Paired (Rq K A G H) vs ds →
  wp (f ds) (fun ds => ∀ p vs G' H', Ext A G H G' H' → H p = none → G' p = none → H' p = some (.lst vs) → RpAll K G' vs ds → Q (.ref p) H') A.E → r vs H Q
def dC {α : Type} (f : List D → T α) (ws : Env → T (List D)) : Env → T α := fun env => ws env >>= f
theorem tCB_D {r : RL} {f : List D → T D} {ws : Env → T (List D)} {σ : L2.St} {Q : VK} (hd : CaD K A r f) (h : rd K A (dC f ws) σ H Q) : tCB r (rdAB K A ws) σ H Q := by
  obtain ⟨G, env, R, h⟩ := h
  refine ⟨G, env, R, wp_imp (wp_bind.mp h) fun ds h1 vs G1 H1 e1 r1 => ?_⟩
  exact hd G1 H1 vs ds Q e1.refl' r1 (wp_imp h1 fun d q v G2 H2 e2 => q v G2 H2 (e1.trans e2))
theorem tCB_N {r : RL} {f : List D → T (List D)} {ws : Env → T (List D)} {σ : L2.St} {Q : VK} (hd : CaN K A r f) (h : rdN K A (dC f ws) σ H Q) : tCB r (rdAB K A ws) σ H Q := by
  obtain ⟨G, env, R, h⟩ := h
  refine ⟨G, env, R, wp_imp (wp_bind.mp h) fun ds h1 vs G1 H1 e1 r1 => ?_⟩
  exact hd G1 H1 vs ds Q e1.refl' r1 (wp_imp h1 fun d q p us G2 H2 e2 a b c => q p us G2 H2 (e1.trans e2) (e1.dn a) b c)
variable {x : Str} {p : Pos} {es : List Expr} {ws : Env → T (List D)} {id T' : String} {r : RL}
theorem r_callB {f : List D → T D} (hc : CallR X (.builtin id) r) (hd : CaD X.K A r f) (hg : Gl X x) (hm : X.mg x = none) (hv : bootBuiltins x = some (.builtin id)) (ha : PA X (e :: es) (rdAB X.K A ws)) (hn : x ≠ "__name__" := by decide) (hdb : (x == ("__debug__" : Str)) = false := by decide)
    (he : starEach (e :: es) X.env = (false, eval e X.env) :: starEach es X.env := by rfl) (hpl : (backTo pos (starEach es X.env)).any (·.1) = false := by rfl) : PE X (.Call (.Name x p) (e :: es) [] pos) (rd X.K A (dC f ws)) := (pe_callB hc hg hm hv ha hn hdb he hpl).imp fun _ _ _ => tCB_D hd
theorem r_callBN {f : List D → T (List D)} (hc : CallR X (.builtin id) r) (hd : CaN X.K A r f) (hg : Gl X x) (hm : X.mg x = none) (hv : bootBuiltins x = some (.builtin id)) (ha : PA X (e :: es) (rdAB X.K A ws)) (hn : x ≠ "__name__" := by decide) (hdb : (x == ("__debug__" : Str)) = false := by decide)
    (he : starEach (e :: es) X.env = (false, eval e X.env) :: starEach es X.env := by rfl) (hpl : (backTo pos (starEach es X.env)).any (·.1) = false := by rfl) : PE X (.Call (.Name x p) (e :: es) [] pos) (rdN X.K A (dC f ws)) := (pe_callB hc hg hm hv ha hn hdb he hpl).imp fun _ _ _ => tCB_N hd
theorem r_callT {f : List D → T D} (hc : CallR X (.type T') r) (hd : CaD X.K A r f) (hg : Gl X x) (hm : X.mg x = none) (hv : bootBuiltins x = some (.type T')) (ha : PA X (e :: es) (rdAB X.K A ws)) (hn : x ≠ "__name__" := by decide) (hdb : (x == ("__debug__" : Str)) = false := by decide)
    (he : starEach (e :: es) X.env = (false, eval e X.env) :: starEach es X.env := by rfl) (hpl : (backTo pos (starEach es X.env)).any (·.1) = false := by rfl) : PE X (.Call (.Name x p) (e :: es) [] pos) (rd X.K A (dC f ws)) := (pe_callTy hc hg hm hv ha hn hdb he hpl).imp fun _ _ _ => tCB_D hd
theorem r_callTN {f : List D → T (List D)} (hc : CallR X (.type T') r) (hd : CaN X.K A r f) (hg : Gl X x) (hm : X.mg x = none) (hv : bootBuiltins x = some (.type T')) (ha : PA X (e :: es) (rdAB X.K A ws)) (hn : x ≠ "__name__" := by decide) (hdb : (x == ("__debug__" : Str)) = false := by decide)
    (he : starEach (e :: es) X.env = (false, eval e X.env) :: starEach es X.env := by rfl) (hpl : (backTo pos (starEach es X.env)).any (·.1) = false := by rfl) : PE X (.Call (.Name x p) (e :: es) [] pos) (rdN X.K A (dC f ws)) := (pe_callTy hc hg hm hv ha hn hdb he hpl).imp fun _ _ _ => tCB_N hd
end

theorem Paired.one {F : V → D → Prop} {vs : List V} {d : D} (h : Paired F vs [d]) : ∃ v, vs = [v] ∧ F v d := by
  cases h with
  | cons r t => cases t; exact ⟨_, rfl, r⟩
theorem Paired.two {F : V → D → Prop} {vs : List V} {d e : D} (h : Paired F vs [d, e]) : ∃ v u, vs = [v, u] ∧ F v d ∧ F u e := by
  cases h with
  | cons r t => cases t with | cons r' t' => cases t'; exact ⟨_, _, rfl, r, r'⟩
def lenD : List D → T D
  | [.lst l] => .ret (.int l.length)
  | [.tup l] => .ret (.int l.length)
  | [.str z] => if z.length ≤ sizeLine then .ret (.int z.length) else .fail
  | _ => .fail
theorem ca_len : CaD K A (fun xs H Q => ∃ x n, xs = [x] ∧ LenV K x H n ∧ Q (.int n) H) lenD := by
  intro G H vs ds Q s hp h
  unfold lenD at h
  split at h
  · obtain ⟨v, rfl, r⟩ := Paired.one hp
    obtain ⟨p, us, rfl, h1, h2⟩ := r.lst s.gh
    exact ⟨_, _, rfl, .inl ⟨us, SqL.of h1, rfl⟩, by rw [h2.length]; exact h _ _ _ s (.int _)⟩
  · obtain ⟨v, rfl, r⟩ := Paired.one hp
    obtain ⟨p, us, rfl, h1, h2⟩ := r.tup s.gh
    exact ⟨_, _, rfl, .inr ⟨us, h1, rfl⟩, by rw [h2.length]; exact h _ _ _ s (.int _)⟩
  · obtain ⟨v, rfl, r⟩ := Paired.one hp
    split at h
    · rename_i hz
      rw [r.str]
      exact ⟨_, _, rfl, ⟨hz, rfl⟩, h _ _ _ s (.int _)⟩
    · exact h.elim
  · exact h.elim
def absD : List D → T D
  | [.int i] => .ret (.int (if i < 0 then -i else i))
  | _ => .fail
theorem ca_abs : CaD K A (fun xs H Q => ∃ i, xs = [.int i] ∧ Q (.int (if i < 0 then -i else i)) H) absD := by
  intro G H vs ds Q s hp h
  unfold absD at h
  split at h
  · obtain ⟨v, rfl, r⟩ := Paired.one hp
    rw [r.int]
    exact ⟨_, rfl, h _ _ _ s (.int _)⟩
  · exact h.elim
def max2D : List D → T D
  | [.int i, .int j] => .ret (.int (if j > i then j else i))
  | _ => .fail
def min2D : List D → T D
  | [.int i, .int j] => .ret (.int (if j < i then j else i))
  | _ => .fail
theorem ca_max2 : CaD K A (fun xs H Q => ∃ i j, xs = [.int i, .int j] ∧ Q (.int (if j > i then j else i)) H) max2D := by
  intro G H vs ds Q s hp h
  unfold max2D at h
  split at h
  · obtain ⟨v, u, rfl, r, r2⟩ := Paired.two hp
    rw [r.int, r2.int]
    exact ⟨_, _, rfl, h _ _ _ s (.int _)⟩
  · exact h.elim
theorem ca_min2 : CaD K A (fun xs H Q => ∃ i j, xs = [.int i, .int j] ∧ Q (.int (if j < i then j else i)) H) min2D := by
  intro G H vs ds Q s hp h
  unfold min2D at h
  split at h
  · obtain ⟨v, u, rfl, r, r2⟩ := Paired.two hp
    rw [r.int, r2.int]
    exact ⟨_, _, rfl, h _ _ _ s (.int _)⟩
  · exact h.elim
def intD : List D → T D
  | [.int i] => .ret (.int i)
  | [.bl k] => .ret (.int (if k then 1 else 0))
  | _ => .fail
theorem ca_int : CaD K A (fun xs H Q => (∃ i, xs = [.int i] ∧ Q (.int i) H) ∨ ∃ k, xs = [.bl k] ∧ Q (.int (if k then 1 else 0)) H) intD := by
  intro G H vs ds Q s hp h
  unfold intD at h
  split at h
  · obtain ⟨v, rfl, r⟩ := Paired.one hp
    rw [r.int]
    exact .inl ⟨_, rfl, h _ _ _ s (.int _)⟩
  · obtain ⟨v, rfl, r⟩ := Paired.one hp
    rw [r.bl]
    exact .inr ⟨_, rfl, h _ _ _ s (.int _)⟩
  · exact h.elim
def listN : List D → T (List D)
  | [.lst l] => .ret l
  | [.tup l] => .ret l
  | _ => .fail
theorem ca_list : CaN K A (fun xs H Q => ∃ p ys, xs = [.ref p] ∧ (SqL K H p ys ∨ SqT K H p ys) ∧ ∀ l, H l = none → Q (.ref l) (upd H l (.lst ys))) listN := by
  intro G H vs ds Q s hp h
  unfold listN at h
  split at h
  · obtain ⟨v, rfl, r⟩ := Paired.one hp
    obtain ⟨p, us, rfl, h1, h2⟩ := r.lst s.gh
    exact ⟨p, us, rfl, .inl (SqL.of h1), fun r hr => h r _ _ _ (s.allocO hr) hr (s.gnone hr) upd_same h2⟩
  · obtain ⟨v, rfl, r⟩ := Paired.one hp
    obtain ⟨p, us, rfl, h1, h2⟩ := r.tup s.gh
    exact ⟨p, us, rfl, .inr h1, fun r hr => h r _ _ _ (s.allocO hr) hr (s.gnone hr) upd_same h2⟩
  · exact h.elim
def tupleD : List D → T D
  | [.lst l] => .ret (.tup l)
  | [.tup l] => .ret (.tup l)
  | _ => .fail
theorem ca_tuple : CaD K A (fun xs H Q => ∃ p ys, xs = [.ref p] ∧ ((SqL K H p ys ∧ ∀ l, H l = none → Q (.ref l) (upd H l (.tup ys))) ∨ (SqT K H p ys ∧ Q (.ref p) H))) tupleD := by
  intro G H vs ds Q s hp h
  unfold tupleD at h
  split at h
  · obtain ⟨v, rfl, r⟩ := Paired.one hp
    obtain ⟨p, us, rfl, h1, h2⟩ := r.lst s.gh
    exact ⟨p, us, rfl, .inl ⟨SqL.of h1, fun r hr => h _ _ _ (s.alloc hr) (.tup (SqT.of upd_same) (h2.mono (Ex.new (s.gnone hr))))⟩⟩
  · obtain ⟨v, rfl, r⟩ := Paired.one hp
    rename_i l'
    have hr : ∃ p us, v = .ref p ∧ SqT K H p us ∧ Rp K G v (.tup l') := by
      obtain ⟨p, us, e, h1, h2⟩ := r.tup s.gh
      cases r with
      | of r => exact ⟨p, us, e, h1, r⟩
      | own a b c => cases c
    obtain ⟨p, us, rfl, h1, h2⟩ := hr
    exact ⟨p, us, rfl, .inr ⟨h1, h _ _ _ s h2⟩⟩
  · exact h.elim
/-- the ints of a list -/
def intsOf : List D → Option (List Int)
  | [] => some []
  | .int i :: r => (intsOf r).map (i :: ·)
  | _ :: _ => none
theorem intsOf_eq : ∀ {l : List D} {ns : List Int}, intsOf l = some ns → l = ns.map D.int
  | [], ns, h => by cases h; rfl
  | d :: r, ns, h => by
    cases d with
    | int i =>
      unfold intsOf at h
      cases q : intsOf r with
      | none => rw [q] at h; cases h
      | some m =>
        rw [q] at h
        cases h
        rw [intsOf_eq q] <;> rfl
    | _ => cases h
@[simp] theorem intsOf_map (ns : List Int) : intsOf (ns.map D.int) = some ns := by
  induction ns with
  | nil => rfl
  | cons n r ih => show (intsOf (r.map D.int)).map (n :: ·) = _; rw [ih] <;> rfl
def sumD : List D → T D
  | [.lst l] => (match intsOf l with
    | some ns => .ret (.int ns.sum)
    | none => .fail)
  | _ => .fail
theorem ca_sum : CaD K A (rSum K) sumD := by
  intro G H vs ds Q s hp h
  unfold sumD at h
  split at h
  · split at h
    · rename_i ns e
      obtain ⟨v, rfl, r⟩ := Paired.one hp
      have e := intsOf_eq e
      subst e
      obtain ⟨p, us, rfl, h1, h2⟩ := r.lst s.gh
      have e := h2.ints
      subst e
      exact ⟨p, ns, rfl, SqL.of h1, h _ _ _ s (.int _)⟩
    · exact h.elim
  · exact h.elim
def boolsOf : List D → Option (List Bool)
  | [] => some []
  | .bl i :: r => (boolsOf r).map (i :: ·)
  | _ :: _ => none
theorem boolsOf_eq : ∀ {l : List D} {ns : List Bool}, boolsOf l = some ns → l = ns.map D.bl
  | [], ns, h => by cases h; rfl
  | d :: r, ns, h => by
    cases d with
    | bl i =>
      unfold boolsOf at h
      cases q : boolsOf r with
      | none => rw [q] at h; cases h
      | some m =>
        rw [q] at h
        cases h
        rw [boolsOf_eq q] <;> rfl
    | _ => cases h
@[simp] theorem boolsOf_map (ns : List Bool) : boolsOf (ns.map D.bl) = some ns := by
  induction ns with
  | nil => rfl
  | cons n r ih => show (boolsOf (r.map D.bl)).map (n :: ·) = _; rw [ih] <;> rfl
theorem RpAll.bools : ∀ {vs : List V} {ns : List Bool}, RpAll K G vs (ns.map D.bl) → vs = ns.map V.bl
  | _, [], .nil => rfl
  | _, n :: ns, .cons (.bl _) r => by rw [RpAll.bools r]; rfl
def allD : List D → T D
  | [.lst l] => (match boolsOf l with
    | some ns => .ret (.bl (ns.all id))
    | none => .fail)
  | _ => .fail
def anyD : List D → T D
  | [.lst l] => (match boolsOf l with
    | some ns => .ret (.bl (ns.any id))
    | none => .fail)
  | _ => .fail
theorem ca_all : CaD K A (rAll K) allD := by
  intro G H vs ds Q s hp h
  unfold allD at h
  split at h
  · split at h
    · rename_i ns e
      obtain ⟨v, rfl, r⟩ := Paired.one hp
      have e := boolsOf_eq e
      subst e
      obtain ⟨p, us, rfl, h1, h2⟩ := r.lst s.gh
      have e := h2.bools
      subst e
      exact ⟨p, ns, rfl, SqL.of h1, h _ _ _ s (.bl _)⟩
    · exact h.elim
  · exact h.elim
theorem ca_any : CaD K A (rAny K) anyD := by
  intro G H vs ds Q s hp h
  unfold anyD at h
  split at h
  · split at h
    · rename_i ns e
      obtain ⟨v, rfl, r⟩ := Paired.one hp
      have e := boolsOf_eq e
      subst e
      obtain ⟨p, us, rfl, h1, h2⟩ := r.lst s.gh
      have e := h2.bools
      subst e
      exact ⟨p, ns, rfl, SqL.of h1, h _ _ _ s (.bl _)⟩
    · exact h.elim
  · exact h.elim

def D.showOk (d : D) : Bool := d.pure && (d.py.showable && (decide (d.py.shown.length ≤ sizeLine) && decide (d.py.depth ≤ 64)))
def reprD : List D → T D
  | [d] => if d.showOk = true then .ret (.str d.py.shown) else .fail
  | _ => .fail
def rRepr (K : PySem.W.Frag) : RL := fun xs H Q => ∃ x d, xs = [x] ∧ Dp K H x d ∧ d.showable = true ∧ d.shown.length ≤ sizeLine ∧ d.depth ≤ 64 ∧ d.hasDict = false ∧ Q (.str d.shown) H
theorem call_repr {X : Cx} (hg : X.A.guards = some []) (hu : X.A.units + 66 < cLine) : CallR X (.builtin "repr") (rRepr X.K) := by
  intro pins s σ H xs us Q I r h
  obtain ⟨x, d, rfl, hd, hs, hz, hdp, hnd, q⟩ := h
  obtain ⟨u, rfl, ru⟩ := vals1 r
  obtain ⟨as, rr⟩ := Dp.reads I d x u hd ru
  cases rr with
  | none => exact PySem.P.repr_of_none ⟨.str _, H, I.tok _, ⟨_, rfl⟩, q⟩
  | bool b => exact PySem.P.repr_of_bool ⟨.str _, H, I.tok _, ⟨_, rfl⟩, q⟩
  | int i t => exact PySem.P.repr_of_int (by simpa [PyData.showable] using hs) ⟨.str _, H, I.tok _, ⟨_, rfl⟩, q⟩
  | str z t => exact PySem.P.repr_of_str ⟨.str _, H, I.tok _, ⟨_, rfl⟩, q⟩ (by simpa only [PyData.shown] using hz)
  | list a1 a2 a3 a4 => exact repr_of_reads' (Reads.list a1 a2 a3 a4) hs (PyData.noDict_hsm hnd) hg (by omega) (fun _ _ e => e) (fun h' u tk hk => ⟨.str _, H, I.kept hk, ⟨_, rfl⟩, q⟩) hz
  | tuple a1 a2 a3 a4 => exact repr_of_reads' (Reads.tuple a1 a2 a3 a4) hs (PyData.noDict_hsm hnd) hg (by omega) (fun _ _ e => e) (fun h' u tk hk => ⟨.str _, H, I.kept hk, ⟨_, rfl⟩, q⟩) hz
  | dict => simp [PyData.hasDict] at hnd
mutual
theorem py_nodict : ∀ d : D, d.pure = true → d.py.hasDict = false
  | .non, _ => rfl
  | .bl _, _ => rfl
  | .int _, _ => rfl
  | .str _, _ => rfl
  | .tup l, h => pyAll_nodict l h
  | .lst l, h => pyAll_nodict l h
  | .dct _ _, h => by cases h
  | .obj _, h => by cases h
theorem pyAll_nodict : ∀ l : List D, pureAll l = true → PyData.hasDictAll (pyAll l) = false
  | [], _ => rfl
  | d :: r, h => by
    have h' : (d.pure && pureAll r) = true := h
    rw [Bool.and_eq_true] at h'
    show (d.py.hasDict || PyData.hasDictAll (pyAll r)) = false
    rw [py_nodict d h'.1, pyAll_nodict r h'.2] <;> rfl
end
theorem ca_repr : CaD K A (rRepr K) reprD := by
  intro G H vs ds Q s hp h
  unfold reprD at h
  split at h
  · split at h
    · rename_i d hk
      obtain ⟨v, rfl, r⟩ := Paired.one hp
      unfold D.showOk at hk
      simp only [Bool.and_eq_true, decide_eq_true_eq] at hk
      obtain ⟨h1, h2, h3, h4⟩ := hk
      exact ⟨v, _, rfl, r.dp s.gh h1, h2, h3, h4, py_nodict d h1, h _ _ _ s (.str _)⟩
    · exact h.elim
  · exact h.elim
end Eng

namespace Eng
open PySem PySem.Spec PyProof.Rows L2
open Evl (Ex)
variable {K : PySem.W.Frag} {A : Act} {G H G' H' G1 H1 G2 H2 : Hp}

theorem Rel.set {σ : L2.St} {env : Env} (R : Rel K A G σ env H) {i : Nat} {v : V} {d : D} (h : Rp K G v d) : Rel K A G (σ.set i (some v)) (env.set i (.val d)) H where
  e0 := R.e0
  gf := R.gf
  len := by rw [List.length_set, List.length_set]; exact R.len
  sl := fun j s hj => by
    by_cases e : i = j
    · subst e
      rw [List.getElem?_set_self'] at hj
      cases q : env[i]? with
      | none => rw [q] at hj; cases hj
      | some u =>
        rw [q] at hj
        cases hj
        have hi : i < σ.length := by rw [← R.len]; exact (List.getElem?_eq_some_iff.mp q).1
        exact ⟨v, by rw [List.getElem?_set_self hi], h⟩
    · rw [List.getElem?_set_ne e] at hj
      have z := R.sl j s hj
      cases s with
      | un => trivial
      | val d' => obtain ⟨u, h1, h2⟩ := z; exact ⟨u, by rw [List.getElem?_set_ne e]; exact h1, h2⟩
      | own d' => obtain ⟨u, h1, h2⟩ := z; exact ⟨u, by rw [List.getElem?_set_ne e]; exact h1, h2⟩
  ap := fun j k p d' e' hj hk h1 h2 => by
    have nj : i ≠ j := fun e => by
      subst e
      rw [List.getElem?_set_self'] at hj
      cases q : env[i]? with
      | none => rw [q] at hj; cases hj
      | some u => rw [q] at hj; cases hj
    have nk : i ≠ k := fun e => by
      subst e
      rw [List.getElem?_set_self'] at hk
      cases q : env[i]? with
      | none => rw [q] at hk; cases hk
      | some u => rw [q] at hk; cases hk
    rw [List.getElem?_set_ne nj] at hj h1
    rw [List.getElem?_set_ne nk] at hk h2
    exact R.ap j k p d' e' hj hk h1 h2
theorem Rel.setO {σ : L2.St} {env : Env} (R : Rel K A G σ env H) {i : Nat} {p : Addr} {d : D} (h : OwnOk K A G H p d) (hf : ∀ (j : Nat) (e : D), env[j]? = some (.own e) → σ[j]? ≠ some (some (.ref p))) : Rel K A G (σ.set i (some (.ref p))) (env.set i (.own d)) H where
  e0 := R.e0
  gf := R.gf
  len := by rw [List.length_set, List.length_set]; exact R.len
  sl := fun j s hj => by
    by_cases e : i = j
    · subst e
      rw [List.getElem?_set_self'] at hj
      cases q : env[i]? with
      | none => rw [q] at hj; cases hj
      | some u =>
        rw [q] at hj
        cases hj
        have hi : i < σ.length := by rw [← R.len]; exact (List.getElem?_eq_some_iff.mp q).1
        exact ⟨p, by rw [List.getElem?_set_self hi], h⟩
    · rw [List.getElem?_set_ne e] at hj
      have z := R.sl j s hj
      cases s with
      | un => trivial
      | val d' => obtain ⟨u, h1, h2⟩ := z; exact ⟨u, by rw [List.getElem?_set_ne e]; exact h1, h2⟩
      | own d' => obtain ⟨u, h1, h2⟩ := z; exact ⟨u, by rw [List.getElem?_set_ne e]; exact h1, h2⟩
  ap := fun j k q d' e' hj hk h1 h2 => by
    have at_ : ∀ (m : Nat) (f : D), i ≠ m → (env.set i (.own d))[m]? = some (.own f) → (σ.set i (some (.ref p)))[m]? = some (some (.ref q)) → env[m]? = some (.own f) ∧ σ[m]? = some (some (.ref q)) := fun m f e a b => by
      rw [List.getElem?_set_ne e] at a b
      exact ⟨a, b⟩
    have self : ∀ (f : D), (env.set i (.own d))[i]? = some (.own f) → (σ.set i (some (.ref p)))[i]? = some (some (.ref q)) → q = p := fun f a b => by
      rw [List.getElem?_set_self'] at a b
      cases z : σ[i]? with
      | none => rw [z] at b; cases b
      | some u => rw [z] at b; cases b; rfl
    by_cases ej : i = j
    · subst ej
      by_cases ek : i = k
      · exact ek
      · have := self _ hj h1
        subst this
        obtain ⟨a, b⟩ := at_ k e' ek hk h2
        exact absurd b (hf k e' a)
    · by_cases ek : i = k
      · subst ek
        have := self _ hk h2
        subst this
        obtain ⟨a, b⟩ := at_ j d' ej hj h1
        exact absurd b (hf j d' a)
      · obtain ⟨a, b⟩ := at_ j d' ej hj h1
        obtain ⟨a', b'⟩ := at_ k e' ek hk h2
        exact R.ap j k q d' e' a a' b b'
/-- a new owned thing is no other one -/
theorem Rel.fresh {σ : L2.St} {env : Env} (R : Rel K A G σ env H) {p : Addr} (hp : H p = none) : ∀ (j : Nat) (e : D), env[j]? = some (.own e) → σ[j]? ≠ some (some (.ref p)) := fun j e h z => by
  obtain ⟨q, h1, ⟨⟨o, h2, _⟩, _⟩⟩ := R.sl j _ h
  rw [h1] at z
  cases z
  rw [hp] at h2
  cases h2
theorem Rel.h0 {σ : L2.St} {env : Env} (R : Rel K A G σ env H) {p : Addr} (hp : H p = none) : A.H0 p = none := R.e0.dn hp
/-- an owned thing in slot i becomes known -/
theorem Rel.frz1 {σ : L2.St} {env : Env} (R : Rel K A G σ env H) (i : Nat) : ∃ G', Ex G G' ∧ Rel K A G' σ (Eng.frz i env) H := by
  unfold Eng.frz
  split
  · rename_i d hd
    obtain ⟨p, h1, ⟨⟨o, h2, h3⟩, h4, h5, h6⟩⟩ := R.sl i _ hd
    have ex : Ex G (upd G p o) := Ex.new h4
    have hlt : i < env.length := (List.getElem?_eq_some_iff.mp hd).1
    refine ⟨upd G p o, ex, ⟨R.e0.frz h5 h2 h4, fun a f => ?_, by rw [List.length_set]; exact R.len, fun j s hj => ?_, fun j k q d' e' hj hk a b => ?_⟩⟩
    · rw [upd_ne (by rintro rfl; exact h6 f)]
      exact R.gf a f
    · by_cases e : i = j
      · subst e
        rw [List.getElem?_set_self hlt] at hj
        cases hj
        exact ⟨_, h1, (h3.mono ex).rp upd_same⟩
      · rw [List.getElem?_set_ne e] at hj
        have z := R.sl j s hj
        cases s with
        | un => trivial
        | val d' => obtain ⟨u, a, b⟩ := z; exact ⟨u, a, b.mono ex⟩
        | own d' =>
          obtain ⟨q, a, ⟨⟨o', b, c⟩, d1, d2, d3⟩⟩ := z
          have hne : q ≠ p := fun z => by
            subst z
            exact e (R.ap i j q d d' hd hj h1 a)
          exact ⟨q, a, ⟨⟨o', b, c.mono ex⟩, by rw [upd_ne hne]; exact d1, d2, d3⟩⟩
    · have nj : i ≠ j := fun e => by subst e; rw [List.getElem?_set_self hlt] at hj; cases hj
      have nk : i ≠ k := fun e => by subst e; rw [List.getElem?_set_self hlt] at hk; cases hk
      rw [List.getElem?_set_ne nj] at hj
      rw [List.getElem?_set_ne nk] at hk
      exact R.ap j k q d' e' hj hk a b
  · exact ⟨G, Ex.refl _, R⟩
theorem Rel.frzs : ∀ (is : List Nat) {G : Hp} {σ : L2.St} {env : Env}, Rel K A G σ env H → ∃ G', Ex G G' ∧ Rel K A G' σ (Eng.frzs is env) H
  | [], G, _, _, R => ⟨G, Ex.refl _, R⟩
  | i :: r, G, _, _, R => by
    obtain ⟨G1, e1, R1⟩ := R.frz1 i
    obtain ⟨G2, e2, R2⟩ := Rel.frzs r R1
    exact ⟨G2, e1.trans e2, R2⟩
/-- an owned thing changes -/
theorem Rel.mut {σ : L2.St} {env : Env} (R : Rel K A G σ env H) {i : Nat} {p : Addr} {d d' : D} {o' : HO} (hi : env[i]? = some (.own d)) (hp : σ[i]? = some (some (.ref p))) (ho : OwnAs K G o' d') : Rel K A G σ (env.set i (.own d')) (upd H p o') := by
  obtain ⟨q, h1, ⟨⟨o, h2, h3⟩, h4, h5, h6⟩⟩ := R.sl i _ hi
  rw [hp] at h1
  cases h1
  have hlt : i < env.length := (List.getElem?_eq_some_iff.mp hi).1
  refine ⟨⟨R.e0.gg, fun a u h => ?_, fun a u f h => ?_, R.e0.new, R.e0.si0, Ext.si_upd R.e0.si h6⟩, R.gf, by rw [List.length_set]; exact R.len, fun j s hj => ?_, fun j k q d1 d2 hj hk a b => ?_⟩
  · rw [upd_ne (ne_of_none h h4)]; exact R.e0.gh a u h
  · rw [upd_ne (ne_of_none h h5)]; exact R.e0.keep a u f h
  · by_cases e : i = j
    · subst e
      rw [List.getElem?_set_self hlt] at hj
      cases hj
      exact ⟨p, hp, ⟨⟨o', upd_same, ho⟩, h4, h5, h6⟩⟩
    · rw [List.getElem?_set_ne e] at hj
      have z := R.sl j s hj
      cases s with
      | un => trivial
      | val d1 => exact z
      | own d1 =>
        obtain ⟨q, a, ⟨⟨o1, b, c⟩, f1, f2, f3⟩⟩ := z
        have hne : q ≠ p := fun z => by
          subst z
          exact e (R.ap i j q d d1 hi hj hp a)
        exact ⟨q, a, ⟨⟨o1, by rw [upd_ne hne]; exact b, c⟩, f1, f2, f3⟩⟩
  · have key : ∀ (m : Nat) (f : D), (env.set i (.own d'))[m]? = some (.own f) → ∃ g, env[m]? = some (.own g) := fun m f h => by
      by_cases e : i = m
      · subst e; exact ⟨_, hi⟩
      · rw [List.getElem?_set_ne e] at h; exact ⟨_, h⟩
    obtain ⟨g1, q1⟩ := key j d1 hj
    obtain ⟨g2, q2⟩ := key k d2 hk
    exact R.ap j k q g1 g2 q1 q2 a b

inductive Out where
  | nx (env : Env) | rt (d : D) | bk (env : Env) | ct (env : Env)
def EndOk (K : PySem.W.Frag) (A : Act) (G : Hp) (Dn : Ends) : Out → Prop
  | .nx env => ∀ σ G' H', Ex G G' → Rel K A G' σ env H' → Dn.nx σ H'
  | .bk env => ∀ σ G' H', Ex G G' → Rel K A G' σ env H' → Dn.bk σ H'
  | .ct env => ∀ σ G' H', Ex G G' → Rel K A G' σ env H' → Dn.ct σ H'
  | .rt d => ∀ v G' H', Ext A A.G0 A.H0 G' H' → Rp K G' v d → Dn.rt v H'
theorem EndOk.mono {Dn : Ends} {o : Out} (e : Ex G G') (h : EndOk K A G Dn o) : EndOk K A G' Dn o := by
  cases o with
  | nx env => exact fun σ G2 H2 e2 R => h σ G2 H2 (e.trans e2) R
  | bk env => exact fun σ G2 H2 e2 R => h σ G2 H2 (e.trans e2) R
  | ct env => exact fun σ G2 H2 e2 R => h σ G2 H2 (e.trans e2) R
  | rt d => exact h
def rdS (K : PySem.W.Frag) (A : Act) (w : Env → T Out) : TS := fun Dn σ H => ∃ G env, Rel K A G σ env H ∧ wp (w env) (EndOk K A G Dn) A.E
section
variable {X : Cx} {a b c e : Expr} {wa wb wc w : Env → T D} {ta tb tc : Env → T Bool} {pos pos' : Pos} {x : Str} {ws1 ws2 : Env → T Out} {s1 s2 : List Stmt} {st : Stmt}
/-- things handed out ahead of a statement -/
def dF (is : List Nat) (w : Env → T Out) : Env → T Out := fun env => w (frzs is env)
theorem rdS_frz (is : List Nat) {Dn : Ends} {σ : L2.St} (h : rdS K A (dF is ws1) Dn σ H) : rdS K A ws1 Dn σ H := by
  obtain ⟨G, env, R, h⟩ := h
  obtain ⟨G', e, R'⟩ := R.frzs is
  exact ⟨G', _, R', wp_imp h fun o q => q.mono e⟩
theorem s_frz (is : List Nat) (h : PS X st (rdS X.K A ws1)) : PS X st (rdS X.K A (dF is ws1)) := h.imp fun _ _ _ => rdS_frz is
def dSkip : Env → T Out := fun env => T.ret (.nx env)
def dSeq (w u : Env → T Out) : Env → T Out := fun env => w env >>= fun o => match o with
  | .nx env' => u env'
  | o => T.ret o
theorem ss_nil : PSs X [] (rdS X.K A dSkip) := pss_nil.imp fun Dn σ H h => by
  obtain ⟨G, env, R, h⟩ := h
  exact h σ G H (Ex.refl _) R
theorem rdS_seq {Dn : Ends} {σ : L2.St} (h : rdS K A (dSeq ws1 ws2) Dn σ H) : tSeq (rdS K A ws1) (rdS K A ws2) Dn σ H := by
  obtain ⟨G, env, R, h⟩ := h
  refine ⟨G, env, R, wp_imp (wp_bind.mp h) fun o q => ?_⟩
  cases o with
  | nx env' => exact fun σ' G' H' e R' => ⟨G', env', R', wp_imp q fun o q => q.mono e⟩
  | rt d => exact q
  | bk env' => exact q
  | ct env' => exact q
theorem ss_cons (h1 : PS X st (rdS X.K A ws1)) (h2 : PSs X s2 (rdS X.K A ws2)) : PSs X (st :: s2) (rdS X.K A (dSeq ws1 ws2)) := (pss_cons h1 h2).imp fun _ _ _ => rdS_seq
theorem ss_one (h1 : PS X st (rdS X.K A ws1)) : PSs X [st] (rdS X.K A ws1) := pss_one h1
theorem s_pass : PS X (.Pass pos) (rdS X.K A dSkip) := ps_pass.imp fun Dn σ H h => by
  obtain ⟨G, env, R, h⟩ := h
  exact h σ G H (Ex.refl _) R
def dBrk : Env → T Out := fun env => T.ret (.bk env)
def dCnt : Env → T Out := fun env => T.ret (.ct env)
theorem s_brk : PS X (.Break pos) (rdS X.K A dBrk) := ps_break.imp fun Dn σ H h => by
  obtain ⟨G, env, R, h⟩ := h
  exact h σ G H (Ex.refl _) R
theorem s_cnt : PS X (.Continue pos) (rdS X.K A dCnt) := ps_continue.imp fun Dn σ H h => by
  obtain ⟨G, env, R, h⟩ := h
  exact h σ G H (Ex.refl _) R
theorem s_never : PS X st (rdS X.K A fun _ => T.fail) := ps_never.imp fun Dn σ H h => by
  obtain ⟨G, env, R, h⟩ := h
  exact h
/-- what is not to be reached -/
theorem s_none {w : Env → T Out} : PSs X s1 (rdS X.K A fun _ => T.fail) := pss_never.imp fun Dn σ H h => by
  obtain ⟨G, env, R, h⟩ := h
  exact h
def dDrop (w : Env → T D) : Env → T Out := fun env => w env >>= fun _ => T.ret (.nx env)
theorem s_expr (he : PE X e (rd X.K A w)) (hs : swapsWith e none pos.line X.env = pure false := by rfl) : PS X (.Expr e pos) (rdS X.K A (dDrop w)) := (ps_expr he hs).imp fun Dn σ H h => by
  obtain ⟨G, env, R, h⟩ := h
  refine ⟨G, env, R, wp_imp (wp_bind.mp h) fun d h1 v G1 H1 e1 r1 => ?_⟩
  exact h1 σ G1 H1 e1.gg (R.ext e1)
def dRet (w : Env → T D) : Env → T Out := fun env => w env >>= fun d => T.ret (.rt d)
theorem s_ret (he : PE X e (rd X.K A w)) : PS X (.Return (some e) pos) (rdS X.K A (dRet w)) := (ps_ret he).imp fun Dn σ H h => by
  obtain ⟨G, env, R, h⟩ := h
  refine ⟨G, env, R, wp_imp (wp_bind.mp h) fun d h1 v G1 H1 e1 r1 => ?_⟩
  exact h1 v G1 H1 (R.e0.trans e1) r1
def dRetN : Env → T Out := fun _ => T.ret (.rt .non)
theorem s_retN : PS X (.Return none pos) (rdS X.K A dRetN) := ps_retN.imp fun Dn σ H h => by
  obtain ⟨G, env, R, h⟩ := h
  exact h .non G H R.e0 .non
theorem s_if (hc : PT X c (rdT X.K A tc)) (ha : PSs X s1 (rdS X.K A ws1)) (hb : PSs X s2 (rdS X.K A ws2)) : PS X (.If c s1 s2 pos) (rdS X.K A (dIf tc ws1 ws2)) := (ps_if hc ha hb).imp fun Dn σ H h => by
  obtain ⟨G, env, R, h⟩ := h
  refine ⟨G, env, R, wp_imp (wp_bind.mp h) fun b h1 G1 H1 e1 => ?_⟩
  cases b with
  | true => exact ⟨G1, env, R.ext e1, wp_imp h1 fun o q => q.mono e1.gg⟩
  | false => exact ⟨G1, env, R.ext e1, wp_imp h1 fun o q => q.mono e1.gg⟩
def dSet (i : Nat) (w : Env → T D) : Env → T Out := fun env => w env >>= fun d => T.ret (.nx (env.set i (.val d)))
theorem rdS_set {i : Nat} {Dn : Ends} {σ : L2.St} (h : rdS K A (dSet i w) Dn σ H) : tAsg (rd K A w) (gName i) Dn σ H := by
  obtain ⟨G, env, R, h⟩ := h
  refine ⟨G, env, R, wp_imp (wp_bind.mp h) fun d h1 v G1 H1 e1 r1 => ?_⟩
  exact h1 _ G1 H1 e1.gg ((R.ext e1).set r1)
theorem s_set (i : Nat) (hN : X.N.Nodup) (hi : X.N[i]? = some x) (hx : Loc X.env.scope x) (he : PE X e (rd X.K A w)) (hs : swapsWith e (some (.Name x pos')) pos.line X.env = pure false := by rfl) (hf : X.fn x = true ∨ X.env.scope.names.lookup x = some .local := by first | exact .inl rfl | exact .inr rfl | assumption) :
    PS X (.Assign [.Name x pos'] e pos) (rdS X.K A (dSet i w)) := (ps_set hN hi hx he hs hf).imp fun _ _ _ => rdS_set
/-- a new list is owned by the name -/
def dOwn (i : Nat) (w : Env → T (List D)) : Env → T Out := fun env => w env >>= fun ds => T.ret (.nx (env.set i (.own (.lst ds))))
theorem rdS_own {i : Nat} {w : Env → T (List D)} {Dn : Ends} {σ : L2.St} (h : rdS K A (dOwn i w) Dn σ H) : tAsg (rdN K A w) (gName i) Dn σ H := by
  obtain ⟨G, env, R, h⟩ := h
  refine ⟨G, env, R, wp_imp (wp_bind.mp h) fun ds h1 p vs G1 H1 e1 hp hg hl r1 => ?_⟩
  exact h1 _ G1 H1 e1.gg ((R.ext e1).setO ⟨⟨_, hl, .lst r1⟩, hg, R.h0 hp, R.st.nf hp⟩ (R.fresh hp))
theorem s_own (i : Nat) {w : Env → T (List D)} (hN : X.N.Nodup) (hi : X.N[i]? = some x) (hx : Loc X.env.scope x) (he : PE X e (rdN X.K A w)) (hs : swapsWith e (some (.Name x pos')) pos.line X.env = pure false := by rfl) (hf : X.fn x = true ∨ X.env.scope.names.lookup x = some .local := by first | exact .inl rfl | exact .inr rfl | assumption) :
    PS X (.Assign [.Name x pos'] e pos) (rdS X.K A (dOwn i w)) := (ps_set hN hi hx he hs hf).imp fun _ _ _ => rdS_own

def ownL (env : Env) (i : Nat) : T (List D) := match env[i]? with
  | some (.own (.lst l)) => .ret l
  | _ => .fail
theorem ownL_wp {env : Env} {i : Nat} {Q : List D → Prop} {E : Str → List D → Prop} (h : wp (ownL env i) Q E) : ∃ l, env[i]? = some (.own (.lst l)) ∧ Q l := by
  unfold ownL at h
  split at h
  · rename_i l e; exact ⟨l, e, h⟩
  · exact h.elim
theorem Rel.ownL {σ : L2.St} {env : Env} {i : Nat} {l : List D} (R : Rel K A G σ env H) (h : env[i]? = some (.own (.lst l))) : ∃ p vs, σ[i]? = some (some (.ref p)) ∧ H p = some (.lst vs) ∧ RpAll K G vs l := by
  obtain ⟨p, h1, ⟨⟨o, h2, h3⟩, _⟩⟩ := R.sl i _ h
  cases h3 with
  | lst r => exact ⟨p, _, h1, h2, r⟩
def dApp (i : Nat) (w : Env → T D) : Env → T Out := fun env => do
  let l ← ownL env i
  let d ← w env
  if l.length < sizeLine then T.ret (.nx (env.set i (.own (.lst (l ++ [d]))))) else T.fail
theorem s_app (i : Nat) {apos p : Pos} (hN : X.N[i]? = some x) (hv : Vis X.env.scope x) (he : PE X e (rd X.K A w)) (hd : (x == ("__debug__" : Str)) = false := by decide) (hcd : (x == ("__classdict__" : Str)) = false := by decide)
    (hbase : attributeBase (.Name x p) "append" X.env (eval (.Name x p) X.env) = eval (.Name x p) X.env := by rfl)
    (hfew : ((backTo pos (starEach [e] X.env)).all (fun x => !x.1) && (backToKw pos (keywordEach [] X.env)).all (fun x => x.1.isSome) && decide (([e] : List Expr).length + ([] : List Keyword).length + (if ([] : List Keyword).isEmpty then 0 else 1) < 30)) = true := by rfl)
    (hline : (apos.endLine == pos.line) = true := by rfl) (hs : starEach [e] X.env = (false, eval e X.env) :: starEach [] X.env := by rfl) :
    PS X (.Expr (.Call (.Attribute (.Name x p) "append" apos) [e] [] pos) pos') (rdS X.K A (dApp i w)) :=
  (ps_expr (pe_bm PySem.F.plainAttrs_list PySem.F.slot_list_append PySem.F.type_list_append mt_append (pe_var hN hv hd hcd) (pa_cons he pa_nil hs) hbase hfew hline hs rfl) rfl).imp fun Dn σ H h => by
    obtain ⟨G, env, R, h⟩ := h
    obtain ⟨l, hl, h0⟩ := ownL_wp (wp_bind.mp h)
    obtain ⟨p, vs, h1, h2, h3⟩ := R.ownL hl
    refine ⟨.ref p, h1, .inl ⟨rfl, vs, SqL.of h2⟩, G, env, R, wp_imp (wp_bind.mp h0) fun d q v G1 H1 e1 r1 => ?_⟩
    have R1 := R.ext e1
    obtain ⟨p', vs', h1', h2', h3'⟩ := R1.ownL hl
    rw [h1] at h1'
    cases h1'
    split at q
    · rename_i hlt
      refine ⟨p, vs', v, rfl, rfl, h2', by rw [h3'.length]; exact hlt, ?_⟩
      exact q σ G1 _ e1.gg (R1.mut hl h1 (.lst (h3'.append (.cons r1 .nil))))
    · exact q.elim
/-- xs[i] = e: e first, then the list, then the place -/
def dSetIx (i : Nat) (w u : Env → T D) : Env → T Out := fun env => do
  let d ← w env
  let l ← ownL env i
  let k ← u env >>= asInt
  match ixN l.length k with
  | some j => T.ret (.nx (env.set i (.own (.lst (l.set j d)))))
  | none => T.fail
theorem s_setIx (i : Nat) {ie : Expr} {u : Env → T D} {p spos : Pos} (hN : X.N[i]? = some x) (hv : Vis X.env.scope x) (he : PE X e (rd X.K A w)) (hu : PE X ie (rdB X.K A u)) (hd : (x == ("__debug__" : Str)) = false := by decide) (hcd : (x == ("__classdict__" : Str)) = false := by decide)
    (hs : swapsWithSole [.Subscript (.Name x p) ie spos] e pos.line X.env = pure false := by rfl) (hw : swappedStores [.Subscript (.Name x p) ie spos] e X.env = pure none := by rfl)
    (h1 : (assignEach [.Subscript (.Name x p) ie spos] X.env).map (·.2) = [assign (.Subscript (.Name x p) ie spos) X.env] := by rfl)
    (ha : ∀ v, assign (.Subscript (.Name x p) ie spos) X.env v = (do
      let ov ← holding [v] (eval (.Name x p) X.env)
      let iv ← holding [v, ov] (eval ie X.env)
      standAt spos
      holding [v, ov, iv] (setItem ov iv v)
      release [v, ov, iv] []) := by intro _; rfl) : PS X (.Assign [.Subscript (.Name x p) ie spos] e pos) (rdS X.K A (dSetIx i w u)) :=
  (ps_asg he (pg_sub (pe_var hN hv hd hcd) hu set_list ha) hs hw h1).imp fun Dn σ H h => by
    obtain ⟨G, env, R, h⟩ := h
    refine ⟨G, env, R, wp_imp (wp_bind.mp h) fun d q v G1 H1 e1 r1 => ?_⟩
    obtain ⟨l, hl, q⟩ := ownL_wp (wp_bind.mp q)
    have R1 := R.ext e1
    obtain ⟨p, vs, h1, h2, h3⟩ := R1.ownL hl
    refine ⟨.ref p, h1, G1, env, R1, wp_imp (wp_bind.mp (wp_bind.mp q)) fun dk q iv G2 H2 e2 r2 => ?_⟩
    unfold asInt at q
    split at q
    · rename_i k
      have R2 := R1.ext e2
      obtain ⟨p', vs', h1', h2', h3'⟩ := R2.ownL hl
      rw [h1] at h1'
      cases h1'
      have q : wp (match ixN l.length k with | some j => T.ret (Out.nx (env.set i (.own (.lst (l.set j d))))) | none => T.fail) (EndOk X.K A G Dn) A.E := q
      split at q
      · rename_i j hj
        exact ⟨p, vs', k, j, rfl, r2.int, h2', by rw [h3'.length]; exact hj, q σ G2 _ (e1.gg.trans e2.gg) (R2.mut hl h1 (.lst (h3'.set (r1.mono e2.gg) j)))⟩
      · exact q.elim
    · exact q.elim

def rdG (K : PySem.W.Frag) (A : Act) (ts : List Nat) (f : D → Env → Option Env) : TG := fun v σ H Q => ∃ G env d env', Rel K A G σ env H ∧ Rp K G v d ∧ f d env = some env' ∧
  ∀ σ', (∀ j, j ∉ ts → σ'[j]? = σ[j]?) → σ'.length = σ.length → Rel K A G σ' env' H → Q σ' H
def tgName (i : Nat) : D → Env → Option Env := fun d env => some (env.set i (.val d))
theorem g_name (i : Nat) (hN : X.N.Nodup) (hi : X.N[i]? = some x) (hx : Loc X.env.scope x) (hf : X.fn x = true ∨ X.env.scope.names.lookup x = some .local := by first | exact .inl rfl | exact .inr rfl | assumption) : PG X (.Name x pos) (rdG X.K A [i] (tgName i)) :=
  (pg_name hN hi hx hf).imp fun v σ H Q h => by
    obtain ⟨G, env, d, env', R, r, e, h⟩ := h
    cases e
    exact h _ (fun j hj => List.getElem?_set_ne (by rintro rfl; exact hj List.mem_cons_self)) List.length_set (R.set r)
/-- targets one after another -/
def rdGs (K : PySem.W.Frag) (A : Act) (ts : List Nat) (f : List D → Env → Option Env) : TGs := fun vs σ H Q => ∃ G env ds env', Rel K A G σ env H ∧ RpAll K G vs ds ∧ f ds env = some env' ∧
  ∀ σ', (∀ j, j ∉ ts → σ'[j]? = σ[j]?) → σ'.length = σ.length → Rel K A G σ' env' H → Q σ' H
def tgNil : List D → Env → Option Env := fun ds env => match ds with
  | [] => some env
  | _ => none
def tgCons (f : D → Env → Option Env) (g : List D → Env → Option Env) : List D → Env → Option Env := fun ds env => match ds with
  | d :: r => (f d env).bind (g r)
  | [] => none
theorem gs_nil : PGs X [] (rdGs X.K A [] tgNil) := ⟨fun pins s σ H vs us Q I r h => by
  obtain ⟨G, env, ds, env', R, ra, e, h⟩ := h
  unfold tgNil at e
  split at e
  · cases e
    cases ra
    exact pgs_nil.run pins s σ H [] us Q I r ⟨rfl, h σ (fun _ _ => rfl) rfl R⟩
  · cases e⟩
theorem gs_cons {es : List Expr} {ts us : List Nat} {f : D → Env → Option Env} {g : List D → Env → Option Env} (h1 : PG X e (rdG X.K A ts f)) (h2 : PGs X es (rdGs X.K A us g))
    (hs : (assignEach (e :: es) X.env).map (·.2) = assign e X.env :: (assignEach es X.env).map (·.2) := by rfl) : PGs X (e :: es) (rdGs X.K A (ts ++ us) (tgCons f g)) := ⟨fun pins s σ H vs ws Q I r h => by
  obtain ⟨G, env, ds, env', R, ra, e, h⟩ := h
  unfold tgCons at e
  split at e
  · rename_i d ds'
    cases ra with
    | cons r1 r2 =>
      obtain ⟨env1, e1, e2⟩ := Option.bind_eq_some_iff.mp e
      refine (pgs_cons h1 h2 hs).run pins s σ H _ ws Q I r ⟨_, _, rfl, G, env, d, env1, R, r1, e1, fun σ1 k1 l1 R1 => ⟨G, env1, ds', env', R1, r2, e2, fun σ2 k2 l2 R2 => h σ2 (fun j hj => ?_) (l2.trans l1) R2⟩⟩
      rw [k2 j (fun z => hj (List.mem_append_right _ z)), k1 j (fun z => hj (List.mem_append_left _ z))]
  · cases e⟩
def tgTup (g : List D → Env → Option Env) (n : Nat) : D → Env → Option Env := fun d env => match d with
  | .tup l => if l.length = n then g l env else none
  | _ => none
theorem g_tup {es : List Expr} {k : Nat} {n : Nat} {ts : List Nat} {g : List D → Env → Option Env} (hc : X.calm = true) (h : PGs X es (rdGs X.K A ts g))
    (hn : (assignEach es X.env).length = n := by rfl) (hst : (assignEach es X.env).findIdx? (·.1) = none := by rfl) : PG X (.Tuple es k pos) (rdG X.K A ts (tgTup g n)) := (pg_tup hc h hn hst).imp fun v σ H Q h => by
  obtain ⟨G, env, d, env', R, r, e, h⟩ := h
  unfold tgTup at e
  split at e
  · rename_i l
    split at e
    · rename_i hl
      cases r with
      | tup h1 h2 => exact ⟨_, _, rfl, Evl.ex_t R.st.gh h1, by rw [h2.length]; exact hl, G, env, l, env', R, h2, e, h⟩
    · cases e
  · cases e
/-- target = value -/
def dAsg (f : D → Env → Option Env) (w : Env → T D) : Env → T Out := fun env => w env >>= fun d => match f d env with
  | some env' => T.ret (.nx env')
  | none => T.fail
theorem s_asg {tg : Expr} {ts : List Nat} {f : D → Env → Option Env} (he : PE X e (rd X.K A w)) (hg : PG X tg (rdG X.K A ts f)) (hs : swapsWithSole [tg] e pos.line X.env = pure false := by rfl) (hw : swappedStores [tg] e X.env = pure none := by rfl)
    (h1 : (assignEach [tg] X.env).map (·.2) = [assign tg X.env] := by rfl) : PS X (.Assign [tg] e pos) (rdS X.K A (dAsg f w)) := (ps_asg he hg hs hw h1).imp fun Dn σ H h => by
  obtain ⟨G, env, R, h⟩ := h
  refine ⟨G, env, R, wp_imp (wp_bind.mp h) fun d q v G1 H1 e1 r1 => ?_⟩
  split at q
  · rename_i env' e
    exact ⟨G1, env, d, env', R.ext e1, r1, e, fun σ' _ _ R' => q σ' G1 H1 e1.gg R'⟩
  · exact q.elim
/-- a, b = x, y of plain local names -/
def dPar (i j : Nat) (ws : Env → T (List D)) : Env → T Out := fun env => ws env >>= fun ds => match ds with
  | [d, e] => T.ret (.nx ((env.set i (.val d)).set j (.val e)))
  | _ => T.fail
theorem s_par (i j : Nat) {y : Str} {ws : Env → T (List D)} {px py pt : Pos} {kt k2 : Nat} {pt2 : Pos} (hc : X.calm = true) (hN : X.N.Nodup) (hi : X.N[i]? = some x) (hj : X.N[j]? = some y) (hij : i ≠ j)
    (hx : X.env.scope.names.lookup x = some .local) (hy : X.env.scope.names.lookup y = some .local) (ha : PA X [a, b] (rdA X.K A 2 ws))
    (hw : swappedStores [.Tuple [.Name x px, .Name y py] kt pt] (.Tuple [a, b] k2 pt2) X.env = pure (some [x, y]))
    (hs : swapsWithSole [.Tuple [.Name x px, .Name y py] kt pt] (.Tuple [a, b] k2 pt2) pos.line X.env = pure false := by rfl) :
    PS X (.Assign [.Tuple [.Name x px, .Name y py] kt pt] (.Tuple [a, b] k2 pt2) pos) (rdS X.K A (dPar i j ws)) := (ps_par hc hN hi hj hij hx hy ha hw hs).imp fun Dn σ H h => by
  obtain ⟨G, env, R, h⟩ := h
  refine ⟨G, env, R, wp_imp (wp_bind.mp h) fun ds q vs G1 H1 e1 r1 l1 => ?_⟩
  split at q
  · rename_i d e
    cases r1 with
    | cons ra rb =>
      cases rb with
      | cons rb rc =>
        cases rc
        exact ⟨_, _, rfl, q _ G1 H1 e1.gg (((R.ext e1).set ra).set rb)⟩
  · exact q.elim

structure Yld (K : PySem.W.Frag) (A : Act) (J : It) (G : Hp) (Sr : Hp → Prop) (ds : List D) : Prop where
  go : ∀ (i : Nat) H1, Sr H1 → i < ds.length → J.go i H1
  stop : ∀ (i : Nat) H1, Sr H1 → ds.length ≤ i → J.stop i H1
  item : ∀ (i : Nat) d G1 H1 x H2, Ex G G1 → St1 A G1 H1 → Sr H1 → ds[i]? = some d → J.yld i H1 x H2 → ∃ G2, Ext A G1 H1 G2 H2 ∧ Rp K G2 x d
/-- for a loop: the source stands as long as what is known stands -/
def rdI (K : PySem.W.Frag) (A : Act) (w : Env → T (List D)) : TI := fun σ H R => ∃ G env, Rel K A G σ env H ∧ wp (w env) (fun ds => ∀ J G' H', Ext A G H G' H' → (∃ Sr, Yld K A J G' Sr ds ∧ ∀ H1, Ex G' H1 → Sr H1) → ds.length ≤ sizeLine → R J H') A.E
/-- for a comprehension: .. as long as the state goes on -/
def rdIB (K : PySem.W.Frag) (A : Act) (w : Env → T (List D)) : TI := fun σ H R => ∃ G env, Rel K A G σ env H ∧ wp (w env) (fun ds => ∀ J G' H', Ext A G H G' H' → (∃ Sr, Yld K A J G' Sr ds ∧ ∀ G1 H1, Ext A G' H' G1 H1 → Sr H1) → ds.length ≤ sizeLine → R J H') A.E
theorem _root_.L2.PI.hok {tg iter : Expr} {wi : TI} (h : PI X tg iter wi) : PI X tg iter (fun σ H R => wi σ H fun J H1 => (∃ h, HOk X.prog X.w H1 h ∧ X.K.In h) → R J H1) := ⟨fun pins s σ H R I q =>
  thn (h.run pins s σ H _ I q) fun v s1 h1 => thn h1 fun itv s2 h2 => by
    obtain ⟨it, fp, tn, J, H', e, I', T, st, f, r⟩ := h2
    exact ⟨it, fp, tn, J, H', e, I', T, st, f, r ⟨_, I'.hok, I'.kIn⟩⟩⟩
theorem sqT_len {a : Addr} {xs : List V} {P : Program} {w : World} {h : Heap} (o : HOk P w H h) (k : K.In h) (s : SqT K H a xs) : xs.length ≤ sizeLine := by
  rcases s with s | ⟨ob, its, n, hk, hc, hd, hz, r⟩
  · exact (s.ok o).1
  · have := r.length
    simp only [Array.length_toList] at this
    omega
theorem yld_list {a : Addr} {vs : List V} {ds : List D} (r : RpAll K G vs ds) : Yld K A (Itl K a) G (fun H => SqL K H a vs) ds where
  go := fun i H1 h hi => ⟨vs, vs[i]'(by rw [r.length]; exact hi), h, by simp⟩
  stop := fun i H1 h hi => ⟨vs, h, by rw [r.length]; exact hi⟩
  item := fun i d G1 H1 x H2 e s h hd y => by
    obtain ⟨rfl, y⟩ := y
    obtain ⟨v, h1, h2⟩ := r.get hd
    have := y vs h
    rw [h1] at this
    cases this
    exact ⟨G1, s, h2.mono e⟩
theorem yld_tup {a : Addr} {vs : List V} {ds : List D} (r : RpAll K G vs ds) : Yld K A (Itt K a) G (fun H => SqT K H a vs) ds where
  go := fun i H1 h hi => ⟨vs, vs[i]'(by rw [r.length]; exact hi), h, by simp⟩
  stop := fun i H1 h hi => ⟨vs, h, by rw [r.length]; exact hi⟩
  item := fun i d G1 H1 x H2 e s h hd y => by
    obtain ⟨rfl, y⟩ := y
    obtain ⟨v, h1, h2⟩ := r.get hd
    have := y vs h
    rw [h1] at this
    cases this
    exact ⟨G1, s, h2.mono e⟩
def rangeD (lo : Int) (n : Nat) : List D := (List.range n).map fun (i : Nat) => D.int (lo + (i : Int))
@[simp] theorem rangeD_length (lo : Int) (n : Nat) : (rangeD lo n).length = n := by unfold rangeD; rw [List.length_map, List.length_range]
theorem yld_range (lo : Int) (n : Nat) : Yld K A (Itr lo n) G (fun _ => True) (rangeD lo n) where
  go := fun i H1 h hi => by rw [rangeD_length] at hi; exact hi
  stop := fun i H1 h hi => by rw [rangeD_length] at hi; exact hi
  item := fun i d G1 H1 x H2 e s h hd y => by
    obtain ⟨rfl, rfl⟩ := y
    unfold rangeD at hd
    rw [List.getElem?_map] at hd
    cases q : (List.range n)[i]? with
    | none => rw [q] at hd; cases hd
    | some j =>
      rw [q] at hd
      have hj : j = i := by
        rw [List.getElem?_range (by have := (List.getElem?_eq_some_iff.mp q).1; simpa using this)] at q
        cases q; rfl
      subst hj
      cases hd
      exact ⟨G1, s, .int _⟩
def enumD (l : List D) : List D := (l.zipIdx).map fun p => D.tup [.int (p.2 : Nat), p.1]
@[simp] theorem enumD_length (l : List D) : (enumD l).length = l.length := by unfold enumD; rw [List.length_map, List.length_zipIdx]
theorem enumD_get {l : List D} {i : Nat} {d : D} (h : (enumD l)[i]? = some d) : ∃ x, l[i]? = some x ∧ d = .tup [.int (i : Nat), x] := by
  unfold enumD at h
  rw [List.getElem?_map, List.getElem?_zipIdx] at h
  cases q : l[i]? with
  | none => rw [q] at h; cases h
  | some x => rw [q] at h; cases h; exact ⟨x, rfl, by simp⟩
theorem yld_enum {a : Addr} {vs : List V} {ds : List D} (r : RpAll K G vs ds) : Yld K A (Ite K a) G (fun H => SqL K H a vs) (enumD ds) where
  go := fun i H1 h hi => ⟨vs, vs[i]'(by rw [r.length]; simpa using hi), h, by simp⟩
  stop := fun i H1 h hi => ⟨vs, h, by rw [r.length]; simpa using hi⟩
  item := fun i d G1 H1 x H2 e s h hd y => by
    obtain ⟨T, u, rfl, hT, rfl, y⟩ := y
    obtain ⟨z, hz, rfl⟩ := enumD_get hd
    obtain ⟨v, h1, h2⟩ := r.get hz
    have := y vs h
    rw [h1] at this
    cases this
    exact ⟨_, s.alloc hT, .tup (SqT.of upd_same) (.cons (.int _) (.cons ((h2.mono e).mono (Ex.new (s.gnone hT))) .nil))⟩
def zipD (l m : List D) : List D := (l.zip m).map fun p => D.tup [p.1, p.2]
theorem zipD_length (l m : List D) : (zipD l m).length = min l.length m.length := by unfold zipD; rw [List.length_map, List.length_zip]
theorem zipD_get {l m : List D} {i : Nat} {d : D} (h : (zipD l m)[i]? = some d) : ∃ x y, l[i]? = some x ∧ m[i]? = some y ∧ d = .tup [x, y] := by
  unfold zipD at h
  rw [List.getElem?_map] at h
  cases q : (l.zip m)[i]? with
  | none => rw [q] at h; cases h
  | some p =>
    rw [q] at h
    cases h
    obtain ⟨h1, h2⟩ := List.getElem?_zip_eq_some.mp q
    exact ⟨_, _, h1, h2, rfl⟩
theorem yld_zip {a b : Addr} {vs us : List V} {ds es : List D} (r : RpAll K G vs ds) (r2 : RpAll K G us es) : Yld K A (Itz K a b) G (fun H => SqL K H a vs ∧ SqL K H b us) (zipD ds es) where
  go := fun i H1 h hi => by
    rw [zipD_length] at hi
    exact ⟨vs, us, vs[i]'(by rw [r.length]; omega), us[i]'(by rw [r2.length]; omega), h.1, h.2, by simp, by simp⟩
  stop := fun i H1 h hi => by
    rw [zipD_length] at hi
    refine ⟨vs, us, h.1, h.2, ?_⟩
    rw [r.length, r2.length]
    omega
  item := fun i d G1 H1 x H2 e s h hd y => by
    obtain ⟨T, u, v, rfl, hT, rfl, y1, y2⟩ := y
    obtain ⟨z, z2, hz, hz2, rfl⟩ := zipD_get hd
    obtain ⟨v', h1, h2⟩ := r.get hz
    obtain ⟨u', h3, h4⟩ := r2.get hz2
    have q1 := y1 vs h.1
    have q2 := y2 us h.2
    rw [h1] at q1
    rw [h3] at q2
    cases q1
    cases q2
    exact ⟨_, s.alloc hT, .tup (SqT.of upd_same) (.cons ((h2.mono e).mono (Ex.new (s.gnone hT))) (.cons ((h4.mono e).mono (Ex.new (s.gnone hT))) .nil))⟩
end
end Eng

namespace Eng
open PySem PySem.Spec PyProof.Rows L2
open Evl (Ex)
variable {K : PySem.W.Frag} {A : Act} {G H G' H' G1 H1 G2 H2 : Hp}
section
variable {X : Cx} {a b c e : Expr} {wa wb wc w : Env → T D} {ta tb tc : Env → T Bool} {pos pos' : Pos} {x : Str} {ws1 ws2 : Env → T Out} {s1 s2 : List Stmt} {st : Stmt} {tg : Expr}

def iAny (K : PySem.W.Frag) (tl : TE) : TI := fun σ H R => tl σ H fun x H1 => (∃ a xs, x = .ref a ∧ SqL K H1 a xs ∧ R (Itl K a) H1) ∨ (∃ a xs, x = .ref a ∧ SqT K H1 a xs ∧ R (Itt K a) H1) ∨ ∃ z, x = .str z ∧ R (Its z) H1
theorem pi_any {l : Expr} {tl : TE} (hl : PE X l tl) : PI X tg l (iAny X.K tl) := by
  refine ⟨fun pins s σ H R I h => ?_⟩
  refine thn (hl.run pins s σ H _ I h) fun v s1 ⟨x, H1, I1, r1, q1⟩ => ?_
  rcases q1 with ⟨a, xs, e, hq, q⟩ | ⟨a, xs, e, hq, q⟩ | ⟨z, e, q⟩
  · subst e
    cases r1
    obtain ⟨its, rv, p, hz⟩ := I1.list hq
    refine wpAny_pyIter_list p.isList ?_
    refine ⟨s1.heap.objs.size, [s1.heap.objs.size], _, _, H1, rfl, I1.kept (t' := s1.toks) fun b o e => Heap.get?_push_of_some _ e, turn_list a _, ⟨_, Heap.get?_push_size _ rfl, rfl, rfl⟩, fun b hb => ?_, q⟩
    have e : b = s1.heap.objs.size := by simpa using hb
    subst e
    exact I1.fpOk (Nat.le_refl _) (I1.hok.fresh (Nat.le_refl _))
  · subst e
    cases r1
    obtain ⟨its, rv, p, hz⟩ := I1.tuple hq
    refine wpAny_pyIter_tuple (show s1.heap.IsTuple a its.toArray from p) ?_
    refine ⟨s1.heap.objs.size, [s1.heap.objs.size], _, _, H1, rfl, I1.kept (t' := s1.toks) fun b o e => Heap.get?_push_of_some _ e, turn_tuple a _, ⟨_, Heap.get?_push_size _ rfl, rfl, rfl⟩, fun b hb => ?_, q⟩
    have e : b = s1.heap.objs.size := by simpa using hb
    subst e
    exact I1.fpOk (Nat.le_refl _) (I1.hok.fresh (Nat.le_refl _))
  · subst e
    obtain ⟨t, rfl⟩ := r1
    cases ha : z.cps.all (· < 128)
    · exact wpAny_pyIter_wide ha (pi_one (tk := s1.toks) I1 _ (turn_str _ z t "str_iterator" (.inr rfl)) ⟨_, Heap.get?_push_size _ rfl, rfl, rfl⟩ q)
    · exact wpAny_pyIter_ascii ha (pi_one (tk := s1.toks) I1 _ (turn_str _ z t "str_ascii_iterator" (.inl rfl)) ⟨_, Heap.get?_push_size _ rfl, rfl, rfl⟩ q)
def charsD (z : Str) : List D := z.cps.toList.map fun c => D.str ⟨#[c]⟩
theorem yld_str (z : Str) : Yld K A (Its z) G (fun _ => True) (charsD z) where
  go := fun i H1 h hi => by unfold charsD at hi; rw [List.length_map, Array.length_toList] at hi; exact hi
  stop := fun i H1 h hi => by unfold charsD at hi; rw [List.length_map, Array.length_toList] at hi; exact hi
  item := fun i d G1 H1 x H2 e s h hd y => by
    obtain ⟨rfl, c, hc, rfl⟩ := y
    unfold charsD at hd
    rw [List.getElem?_map, Array.getElem?_toList, hc] at hd
    cases hd
    exact ⟨G1, s, .str _⟩
def itemsD : D → T (List D)
  | .lst l => .ret l
  | .tup l => .ret l
  | .str z => if z.length ≤ sizeLine then .ret (charsD z) else .fail
  | _ => .fail
theorem items_any {v : V} {d : D} {R : It → Hp → Prop} {E : Str → List D → Prop} {P : Program} {w : World} {hp : Heap} (ok : HOk P w H hp) (hk : K.In hp) (s : St1 A G H) (r : Rq K A G H v d)
    (h : wp (itemsD d) (fun ds => ∀ J, (∃ Sr, Yld K A J G Sr ds ∧ (∀ G1 H1, Ext A G H G1 H1 → Sr H1) ∧ (Rp K G v d → ∀ H1, Ex G H1 → Sr H1)) → ds.length ≤ sizeLine → R J H) E) :
    (∃ a xs, v = .ref a ∧ SqL K H a xs ∧ R (Itl K a) H) ∨ (∃ a xs, v = .ref a ∧ SqT K H a xs ∧ R (Itt K a) H) ∨ ∃ z, v = .str z ∧ R (Its z) H := by
  cases d with
  | lst l =>
    have hq := r
    obtain ⟨p, vs, rfl, h1, h2⟩ := r.lst s.gh
    have hz : l.length ≤ sizeLine := by rw [← h2.length]; exact (ok p _ h1).1
    refine .inl ⟨p, vs, rfl, SqL.of h1, h _ ⟨_, yld_list h2, fun G1 H1 e => ?_, fun rp H1 e => ?_⟩ hz⟩
    · cases hq with
      | of rr => cases rr with | lst a b => exact SqL.of (e.gh _ _ (e.gg _ _ (by rw [a]; have := s.gh _ _ a; rw [h1] at this; exact this.symm)))
      | own a b c => rw [h1] at a; cases a; exact SqL.of (e.keep _ _ b h1)
    · cases rp with
      | lst a b =>
        have := s.gh _ _ a
        rw [h1] at this
        cases this
        exact SqL.of (e _ _ a)
  | tup l =>
    have hq := r
    obtain ⟨p, vs, e0, h1, h2⟩ := r.tup s.gh
    have hz : l.length ≤ sizeLine := by rw [← h2.length]; exact sqT_len ok hk h1
    have hrp : Rp K G v (.tup l) := by
      cases hq with
      | of rr => exact rr
      | own a b c => cases c
    subst e0
    cases hrp with
    | @tup _ vs' _ ha hb =>
      have stay : ∀ H1, Ex G H1 → SqT K H1 p vs' := fun H1 e => Evl.ex_t e ha
      exact .inr (.inl ⟨p, vs', rfl, Evl.ex_t s.gh ha, h _ ⟨_, yld_tup hb, fun G1 H1 e => stay H1 (e.gg.trans e.gh), fun _ H1 e => stay H1 e⟩ hz⟩)
  | str z =>
    have h : wp (if z.length ≤ sizeLine then T.ret (charsD z) else T.fail) _ _ := h
    split at h
    · rename_i hz
      exact .inr (.inr ⟨z, r.str, h _ ⟨_, yld_str z, fun _ _ _ => trivial, fun _ _ _ => trivial⟩ (by unfold charsD; rw [List.length_map, Array.length_toList]; exact hz)⟩)
    · exact h.elim
  | _ => exact h.elim
theorem i_seq {l : Expr} (hl : PE X l (rd X.K A w)) : PI X tg l (rdI X.K A (dU itemsD w)) := by
  refine ⟨fun pins s σ H R I h => ?_⟩
  obtain ⟨G, env, Re, h⟩ := h
  refine (pi_any (tg := tg) (tl := fun σ H Q => rd X.K A w σ H fun v H1 => (∃ hp, HOk X.prog X.w H1 hp ∧ X.K.In hp) → Q v H1) ⟨fun pins s σ H Q I q => ?_⟩).run pins s σ H R I ?_
  · exact thn (hl.run pins s σ H _ I q) fun u s1 ⟨v, H1, I1, r1, q1⟩ => ⟨v, H1, I1, r1, q1 ⟨_, I1.hok, I1.kIn⟩⟩
  · refine ⟨G, env, Re, wp_imp (wp_bind.mp h) fun d q v G1 H1 e1 r1 ⟨hp, ok, hk⟩ => ?_⟩
    exact items_any ok hk e1.refl' (.of r1) (wp_imp q fun ds q J ⟨Sr, y, _, k⟩ hz => q J G1 H1 e1 ⟨Sr, y, k r1⟩ hz)
theorem i_seqB {l : Expr} (hl : PE X l (rdB X.K A w)) : PI X tg l (rdIB X.K A (dU itemsD w)) := by
  refine ⟨fun pins s σ H R I h => ?_⟩
  obtain ⟨G, env, Re, h⟩ := h
  refine (pi_any (tg := tg) (tl := fun σ H Q => rdB X.K A w σ H fun v H1 => (∃ hp, HOk X.prog X.w H1 hp ∧ X.K.In hp) → Q v H1) ⟨fun pins s σ H Q I q => ?_⟩).run pins s σ H R I ?_
  · exact thn (hl.run pins s σ H _ I q) fun u s1 ⟨v, H1, I1, r1, q1⟩ => ⟨v, H1, I1, r1, q1 ⟨_, I1.hok, I1.kIn⟩⟩
  · refine ⟨G, env, Re, wp_imp (wp_bind.mp h) fun d q v G1 H1 e1 r1 ⟨hp, ok, hk⟩ => ?_⟩
    exact items_any ok hk e1.refl' r1 (wp_imp q fun ds q J ⟨Sr, y, k, _⟩ hz => q J G1 H1 e1 ⟨Sr, y, k⟩ hz)

def range1 : List D → T (List D)
  | [.int j] => if j ≤ 16777216 ∧ -(2 ^ 62) ≤ j then .ret (rangeD 0 j.toNat) else .fail
  | _ => .fail
def range2 : List D → T (List D)
  | [.int i, .int j] => if -(2 ^ 62) ≤ i ∧ i < 2 ^ 62 ∧ -(2 ^ 62) ≤ j ∧ j < 2 ^ 62 ∧ (j - i).toNat ≤ 16777216 then .ret (rangeD i (j - i).toNat) else .fail
  | _ => .fail
variable {p : Pos} {wsl : Env → T (List D)}
theorem rdI_B {wl : Env → T (List D)} {σ : L2.St} {R : It → Hp → Prop} (h : rdIB K A wl σ H R) : rdI K A wl σ H R := by
  obtain ⟨G, env, Re, h⟩ := h
  exact ⟨G, env, Re, wp_imp h fun ds q J G' H' e ⟨Sr, y, k⟩ hz => q J G' H' e ⟨Sr, y, fun G1 H1 e2 => k H1 (e2.gg.trans e2.gh)⟩ hz⟩
theorem toIB {iter : Expr} {wl : Env → T (List D)} (h : PI X tg iter (rdI X.K A wl)) : PI X tg iter (rdIB X.K A wl) := h.imp fun _ _ _ => rdI_B
theorem i_range1 (hg : Gl X "range") (hm : X.mg "range" = none) (ha : PA X [a] (rdAB X.K A wsl)) (hs : starEach [a] X.env = [(false, eval a X.env)] := by rfl) : PI X tg (.Call (.Name "range" p) [a] [] pos) (rdI X.K A (dC range1 wsl)) :=
  (pi_range1 hg hm ha hs).imp fun σ H R h => by
    obtain ⟨G, env, Re, h⟩ := h
    refine ⟨G, env, Re, wp_imp (wp_bind.mp h) fun ds q vs G1 H1 e1 r1 => ?_⟩
    unfold range1 at q
    split at q
    · rename_i j
      obtain ⟨v, rfl, r⟩ := Paired.one r1
      split at q
      · rename_i hj
        exact ⟨j, by rw [r.int], hj.2, by omega, q _ G1 H1 e1 ⟨_, yld_range 0 j.toNat, fun _ _ => trivial⟩ (by rw [rangeD_length, sizeLine_eq]; omega)⟩
      · exact q.elim
    · exact q.elim
theorem i_range2 (hg : Gl X "range") (hm : X.mg "range" = none) (ha : PA X [a, b] (rdAB X.K A wsl)) (hs : starEach [a, b] X.env = [(false, eval a X.env), (false, eval b X.env)] := by rfl) (hs2 : starEach [b] X.env = [(false, eval b X.env)] := by rfl) : PI X tg (.Call (.Name "range" p) [a, b] [] pos) (rdI X.K A (dC range2 wsl)) :=
  (pi_range2 hg hm ha hs hs2).imp fun σ H R h => by
    obtain ⟨G, env, Re, h⟩ := h
    refine ⟨G, env, Re, wp_imp (wp_bind.mp h) fun ds q vs G1 H1 e1 r1 => ?_⟩
    unfold range2 at q
    split at q
    · rename_i i j
      obtain ⟨v, u, rfl, r, r2⟩ := Paired.two r1
      split at q
      · rename_i hj
        exact ⟨i, j, by rw [r.int, r2.int], ⟨hj.1, hj.2.1, hj.2.2.1, hj.2.2.2.1⟩, q _ G1 H1 e1 ⟨_, yld_range i _, fun _ _ => trivial⟩ (by rw [rangeD_length, sizeLine_eq]; omega)⟩
      · exact q.elim
    · exact q.elim
def enumOf : List D → T (List D)
  | [.lst l] => .ret (enumD l)
  | _ => .fail
def zipOf : List D → T (List D)
  | [.lst l, .lst m] => .ret (zipD l m)
  | _ => .fail
variable {elts : List Expr} {kk : Nat} {tpos : Pos}
theorem Rq.stayL {v : V} {ds : List D} {pp : Addr} {vs : List V} (r : Rq K A G H (.ref pp) (.lst ds)) (h1 : H pp = some (.lst vs)) (s : St1 A G H) (e : Ext A G H G1 H1) : SqL K H1 pp vs := by
  cases r with
  | of rr => cases rr with | lst a b =>
    have := s.gh _ _ a
    rw [h1] at this
    cases this
    exact SqL.of (e.gh _ _ (e.gg _ _ a))
  | own a b c => rw [h1] at a; cases a; exact SqL.of (e.keep _ _ b h1)
theorem Rp.stayL {ds : List D} {pp : Addr} {vs : List V} (r : Rp K G (.ref pp) (.lst ds)) (h1 : H pp = some (.lst vs)) (g : Ex G H) (e : Ex G H1) : SqL K H1 pp vs := by
  cases r with
  | lst a b =>
    have := g _ _ a
    rw [h1] at this
    cases this
    exact SqL.of (e _ _ a)
theorem i_enumB (hg : Gl X "enumerate") (hm : X.mg "enumerate" = none) (ha : PA X [a] (rdAB X.K A wsl)) (hs : starEach [a] X.env = [(false, eval a X.env)] := by rfl) :
    PI X (.Tuple elts kk tpos) (.Call (.Name "enumerate" p) [a] [] pos) (rdIB X.K A (dC enumOf wsl)) := ((pi_enum hg hm ha hs).hok).imp fun σ H R h => by
  obtain ⟨G, env, Re, h⟩ := h
  refine ⟨G, env, Re, wp_imp (wp_bind.mp h) fun ds q vs G1 H1 e1 r1 => ?_⟩
  unfold enumOf at q
  split at q
  · rename_i l
    obtain ⟨v, rfl, r⟩ := Paired.one r1
    obtain ⟨pp, us, rfl, h1, h2⟩ := r.lst e1.gh
    refine ⟨pp, us, rfl, SqL.of h1, fun ⟨hp, ok, hk⟩ => q _ G1 H1 e1 ⟨_, yld_enum h2, fun G2 H2 e2 => r.stayL (v := .non) h1 e1.refl' e2⟩ ?_⟩
    rw [enumD_length, ← h2.length]
    exact (ok pp _ h1).1
  · exact q.elim
theorem i_zipB (hg : Gl X "zip") (hm : X.mg "zip" = none) (ha : PA X [a, b] (rdAB X.K A wsl)) (hs : starEach [a, b] X.env = (false, eval a X.env) :: starEach [b] X.env := by rfl) (hpl : (backTo pos (starEach [b] X.env)).any (·.1) = false := by rfl) :
    PI X (.Tuple elts kk tpos) (.Call (.Name "zip" p) [a, b] [] pos) (rdIB X.K A (dC zipOf wsl)) := ((pi_zip hg hm ha hs hpl).hok).imp fun σ H R h => by
  obtain ⟨G, env, Re, h⟩ := h
  refine ⟨G, env, Re, wp_imp (wp_bind.mp h) fun ds q vs G1 H1 e1 r1 => ?_⟩
  unfold zipOf at q
  split at q
  · rename_i l m
    obtain ⟨v, u, rfl, r, r2⟩ := Paired.two r1
    obtain ⟨pp, us, rfl, h1, h2⟩ := r.lst e1.gh
    obtain ⟨pq, us2, rfl, h3, h4⟩ := r2.lst e1.gh
    refine ⟨pp, pq, us, us2, rfl, SqL.of h1, SqL.of h3, fun ⟨hp, ok, hk⟩ => q _ G1 H1 e1 ⟨_, yld_zip h2 h4, fun G2 H2 e2 => ⟨r.stayL (v := .non) h1 e1.refl' e2, r2.stayL (v := .non) h3 e1.refl' e2⟩⟩ ?_⟩
    rw [zipD_length, ← h2.length]
    exact Nat.le_trans (Nat.min_le_left _ _) (ok pp _ h1).1
  · exact q.elim
theorem i_enum {n : Nat} (hg : Gl X "enumerate") (hm : X.mg "enumerate" = none) (ha : PA X [a] (rdA X.K A n wsl)) (hs : starEach [a] X.env = [(false, eval a X.env)] := by rfl) :
    PI X (.Tuple elts kk tpos) (.Call (.Name "enumerate" p) [a] [] pos) (rdI X.K A (dC enumOf wsl)) := ((pi_enum hg hm ha hs).hok).imp fun σ H R h => by
  obtain ⟨G, env, Re, h⟩ := h
  refine ⟨G, env, Re, wp_imp (wp_bind.mp h) fun ds q vs G1 H1 e1 r1 l1 => ?_⟩
  unfold enumOf at q
  split at q
  · rename_i l
    cases r1 with
    | cons r rr =>
      cases rr
      have r' := r
      cases r with
      | @lst pp us _ a b =>
        have h1 := e1.gh _ _ a
        refine ⟨pp, us, rfl, SqL.of h1, fun ⟨hp, ok, hk⟩ => q _ G1 H1 e1 ⟨_, yld_enum b, fun H2 e2 => r'.stayL h1 e1.gh e2⟩ ?_⟩
        rw [enumD_length, ← b.length]
        exact (ok pp _ h1).1
  · exact q.elim
theorem i_zip {n : Nat} (hg : Gl X "zip") (hm : X.mg "zip" = none) (ha : PA X [a, b] (rdA X.K A n wsl)) (hs : starEach [a, b] X.env = (false, eval a X.env) :: starEach [b] X.env := by rfl) (hpl : (backTo pos (starEach [b] X.env)).any (·.1) = false := by rfl) :
    PI X (.Tuple elts kk tpos) (.Call (.Name "zip" p) [a, b] [] pos) (rdI X.K A (dC zipOf wsl)) := ((pi_zip hg hm ha hs hpl).hok).imp fun σ H R h => by
  obtain ⟨G, env, Re, h⟩ := h
  refine ⟨G, env, Re, wp_imp (wp_bind.mp h) fun ds q vs G1 H1 e1 r1 l1 => ?_⟩
  unfold zipOf at q
  split at q
  · rename_i l m
    cases r1 with
    | cons r rr =>
      cases rr with
      | cons r2 rr =>
        cases rr
        have r' := r
        have r2' := r2
        cases r with
        | @lst pp us _ a b =>
          cases r2 with
          | @lst pq us2 _ a2 b2 =>
            have h1 := e1.gh _ _ a
            have h2 := e1.gh _ _ a2
            refine ⟨pp, pq, us, us2, rfl, SqL.of h1, SqL.of h2, fun ⟨hp, ok, hk⟩ => q _ G1 H1 e1 ⟨_, yld_zip b b2, fun H2 e2 => ⟨r'.stayL h1 e1.gh e2, r2'.stayL h2 e1.gh e2⟩⟩ ?_⟩
            rw [zipD_length, ← b.length]
            exact Nat.le_trans (Nat.min_le_left _ _) (ok pp _ h1).1
  · exact q.elim

def forT (f : D → Env → Option Env) (body : Env → T Out) : List D → Env → T Out
  | [], env => T.ret (.nx env)
  | d :: r, env => match f d env with
    | none => T.fail
    | some env1 => body env1 >>= fun o => match o with
      | .nx env2 => forT f body r env2
      | .ct env2 => forT f body r env2
      | .bk env2 => T.ret (.nx env2)
      | .rt d => T.ret (.rt d)
def dFor (wi : Env → T (List D)) (f : D → Env → Option Env) (body : Env → T Out) : Env → T Out := fun env => wi env >>= fun ds => forT f body ds env
theorem s_for {iter : Expr} {wi : Env → T (List D)} {ts : List Nat} {f : D → Env → Option Env} (hp : PassesOwn (model X.prog X.w) X.A X.env X.xe) (hc : X.calm = true) (hi : PI X tg iter (rdI X.K A wi)) (hg : PG X tg (rdG X.K A ts f)) (hb : PSs X s1 (rdS X.K A ws1))
    (hs : ∀ x, foldedSetIterable iter X.env x = pure x := by intro _; rfl) : PS X (.For tg iter s1 [] pos) (rdS X.K A (dFor wi f ws1)) := (ps_for hp hc hi hg hb hs).imp fun Dn σ H h => by
  obtain ⟨G, env, Re, h⟩ := h
  refine ⟨G, env, Re, wp_imp (wp_bind.mp h) fun ds q J G1 H1 e1 ⟨Sr, y, st⟩ hz => ?_⟩
  refine ⟨fun i m σ' H' => m = ds.length - i ∧ i ≤ ds.length ∧ ∃ G' env', Ex G1 G' ∧ Rel X.K A G' σ' env' H' ∧ wp (forT f ws1 (ds.drop i) env') (EndOk X.K A G' Dn) A.E,
    ⟨ds.length, rfl, Nat.zero_le _, G1, env, Ex.refl _, Re.ext e1, wp_imp q fun o q => q.mono e1.gg⟩, ?_⟩
  rintro i m σ' H' ⟨rfl, hi, G', env', ex, R', h'⟩
  have sr : Sr H' := st H' (ex.trans R'.st.gh)
  by_cases hlt : i < ds.length
  · have ed : ds.drop i = ds[i] :: ds.drop (i + 1) := List.drop_eq_getElem_cons hlt
    rw [ed] at h'
    refine .inr ⟨y.go i H' sr hlt, fun σ2 H2 => ∃ G2 env2, Ex G1 G2 ∧ Rel X.K A G2 σ2 env2 H2 ∧ wp (forT f ws1 (ds.drop (i + 1)) env2) (EndOk X.K A G2 Dn) A.E,
      fun σ2 H2 hN => ⟨ds.length - (i + 1), by omega, rfl, hlt, hN⟩, fun x H2 hy => ?_⟩
    obtain ⟨G2, e2, r2⟩ := y.item i ds[i] G' H' x H2 ex R'.st sr (by simp) hy
    have R2 := R'.ext e2
    have h' : wp (match f ds[i] env' with
      | none => T.fail
      | some env1 => ws1 env1 >>= fun o => match o with
        | .nx env2 => forT f ws1 (ds.drop (i + 1)) env2
        | .ct env2 => forT f ws1 (ds.drop (i + 1)) env2
        | .bk env2 => T.ret (.nx env2)
        | .rt d => T.ret (.rt d)) (EndOk X.K A G' Dn) A.E := h'
    split at h'
    · exact h'.elim
    · rename_i env1 ef
      refine ⟨G2, env', ds[i], env1, R2, r2, ef, fun σ3 _ _ R3 => ⟨G2, env1, R3, wp_imp (wp_bind.mp h') fun o q => ?_⟩⟩
      cases o with
      | nx env2 => exact fun σ4 G4 H4 e4 R4 => ⟨G4, env2, (ex.trans e2.gg).trans e4, R4, wp_imp q fun o q => q.mono (e2.gg.trans e4)⟩
      | ct env2 => exact fun σ4 G4 H4 e4 R4 => ⟨G4, env2, (ex.trans e2.gg).trans e4, R4, wp_imp q fun o q => q.mono (e2.gg.trans e4)⟩
      | bk env2 => exact fun σ4 G4 H4 e4 R4 => q σ4 G4 H4 (e2.gg.trans e4) R4
      | rt d => exact q
  · have ei : i = ds.length := by omega
    subst ei
    rw [List.drop_length] at h'
    exact .inl ⟨y.stop _ H' sr (Nat.le_refl _), h' σ' G' H' (Ex.refl _) R'⟩

def whileT (t : Env → T Bool) (body : Env → T Out) : Nat → Env → T Out
  | 0, _ => T.fail
  | n + 1, env => t env >>= fun b => if b = true then body env >>= fun o => match o with
      | .nx env2 => whileT t body n env2
      | .ct env2 => whileT t body n env2
      | .bk env2 => T.ret (.nx env2)
      | .rt d => T.ret (.rt d)
    else T.ret (.nx env)
theorem s_while (n : Nat) (hp : PassesOwn (model X.prog X.w) X.A X.env X.xe) (hc : PT X c (rdT X.K A tc)) (hb : PSs X s1 (rdS X.K A ws1)) : PS X (.While c s1 [] pos) (rdS X.K A (whileT tc ws1 n)) := (ps_while hp hc hb).imp fun Dn σ H h => by
  obtain ⟨G, env, Re, h⟩ := h
  refine ⟨fun m σ' H' => ∃ G' env', Ex G G' ∧ Rel X.K A G' σ' env' H' ∧ wp (whileT tc ws1 m env') (EndOk X.K A G' Dn) A.E, ⟨n, G, env, Ex.refl _, Re, h⟩, ?_⟩
  rintro m σ' H' ⟨G', env', ex, R', h'⟩
  cases m with
  | zero => exact h'.elim
  | succ m =>
    refine ⟨G', env', R', wp_imp (wp_bind.mp h') fun b q G1 H1 e1 => ?_⟩
    cases b with
    | true =>
      refine ⟨fun σ2 H2 => ∃ G2 env2, Ex G G2 ∧ Rel X.K A G2 σ2 env2 H2 ∧ wp (whileT tc ws1 m env2) (EndOk X.K A G2 Dn) A.E, fun σ2 H2 hN => ⟨m, Nat.lt_succ_self m, hN⟩, G1, env', R'.ext e1, ?_⟩
      refine wp_imp (wp_bind.mp (show wp (ws1 env' >>= fun o => match o with
        | .nx env2 => whileT tc ws1 m env2
        | .ct env2 => whileT tc ws1 m env2
        | .bk env2 => T.ret (.nx env2)
        | .rt d => T.ret (.rt d)) (EndOk X.K A G' Dn) A.E from q)) fun o q => ?_
      cases o with
      | nx env2 => exact fun σ4 G4 H4 e4 R4 => ⟨G4, env2, (ex.trans e1.gg).trans e4, R4, wp_imp q fun o q => q.mono (e1.gg.trans e4)⟩
      | ct env2 => exact fun σ4 G4 H4 e4 R4 => ⟨G4, env2, (ex.trans e1.gg).trans e4, R4, wp_imp q fun o q => q.mono (e1.gg.trans e4)⟩
      | bk env2 => exact fun σ4 G4 H4 e4 R4 => q σ4 G4 H4 (e1.gg.trans e4) R4
      | rt d => exact q
    | false => exact q σ' G1 H1 e1.gg (R'.ext e1)
end
end Eng

namespace Eng
open PySem PySem.Spec PyProof.Rows L2
open Evl (Ex)
variable {K : PySem.W.Frag} {A : Act} {G H G' H' G1 H1 G2 H2 : Hp}

def wipeE (env : Env) : List Nat → Env
  | [] => env
  | v :: vs => (wipeE env vs).set v .un
theorem Rel.un {σ : L2.St} {env : Env} (R : Rel K A G σ env H) (i : Nat) : Rel K A G (σ.set i none) (env.set i .un) H where
  e0 := R.e0
  gf := R.gf
  len := by rw [List.length_set, List.length_set]; exact R.len
  sl := fun j s hj => by
    by_cases e : i = j
    · subst e
      rw [List.getElem?_set_self'] at hj
      cases q : env[i]? with
      | none => rw [q] at hj; cases hj
      | some u => rw [q] at hj; cases hj; trivial
    · rw [List.getElem?_set_ne e] at hj
      have z := R.sl j s hj
      cases s with
      | un => trivial
      | val d' => obtain ⟨u, h1, h2⟩ := z; exact ⟨u, by rw [List.getElem?_set_ne e]; exact h1, h2⟩
      | own d' => obtain ⟨u, h1, h2⟩ := z; exact ⟨u, by rw [List.getElem?_set_ne e]; exact h1, h2⟩
  ap := fun j k p d' e' hj hk h1 h2 => by
    have nj : i ≠ j := fun e => by
      subst e
      rw [List.getElem?_set_self'] at hj
      cases q : env[i]? with
      | none => rw [q] at hj; cases hj
      | some u => rw [q] at hj; cases hj
    have nk : i ≠ k := fun e => by
      subst e
      rw [List.getElem?_set_self'] at hk
      cases q : env[i]? with
      | none => rw [q] at hk; cases hk
      | some u => rw [q] at hk; cases hk
    rw [List.getElem?_set_ne nj] at hj h1
    rw [List.getElem?_set_ne nk] at hk h2
    exact R.ap j k p d' e' hj hk h1 h2
theorem Rel.wipe {σ : L2.St} {env : Env} (R : Rel K A G σ env H) : ∀ vs : List Nat, Rel K A G (L2.wipe σ vs) (wipeE env vs) H
  | [] => R
  | v :: vs => (Rel.wipe R vs).un v
theorem wipe_get (σ : L2.St) (j : Nat) : ∀ vs : List Nat, (L2.wipe σ vs)[j]? = if j ∈ vs then (if j < σ.length then some none else none) else σ[j]?
  | [] => by simp [L2.wipe]
  | v :: vs => by
    unfold L2.wipe
    have l := wipe_length σ vs
    by_cases e : v = j
    · subst e
      rw [if_pos List.mem_cons_self]
      by_cases hl : v < σ.length
      · rw [if_pos hl, List.getElem?_set_self (by rw [l]; exact hl)]
      · rw [if_neg hl, List.getElem?_eq_none (by rw [List.length_set, l]; omega)]
    · rw [List.getElem?_set_ne e, wipe_get σ j vs]
      by_cases hm : j ∈ vs
      · rw [if_pos hm, if_pos (List.mem_cons_of_mem _ hm)]
      · rw [if_neg hm, if_neg (fun z => (List.mem_cons.mp z).elim (fun z => e z.symm) hm)]
theorem wipe_eq {σ τ : L2.St} {ts vs : List Nat} (hl : σ.length = τ.length) (h : ∀ j, j ∉ ts → σ[j]? = (L2.wipe τ vs)[j]?) (hs : ∀ j ∈ ts, j ∈ vs) : L2.wipe σ vs = L2.wipe τ vs := by
  apply List.ext_getElem?
  intro j
  rw [wipe_get, wipe_get]
  by_cases hj : j ∈ vs
  · rw [if_pos hj, if_pos hj, hl]
  · rw [if_neg hj, if_neg hj, h j fun z => hj (hs j z), wipe_get, if_neg hj]

def compT {α : Type} (f : D → Env → Option Env) (t : Env → T Bool) (w : Env → T α) (env : Env) : List D → T (List α)
  | [] => T.ret []
  | d :: r => match f d env with
    | none => T.fail
    | some env1 => t env1 >>= fun b => if b = true then (w env1 >>= fun y => compT f t w env r >>= fun ys => T.ret (y :: ys)) else compT f t w env r
def dComp (wi : Env → T (List D)) (f : D → Env → Option Env) (t : Env → T Bool) (w : Env → T D) (vs : List Nat) : Env → T (List D) := fun env => wi env >>= fun ds => compT f t w (wipeE env vs) ds
theorem tLc_N {wi : Env → T (List D)} {f : D → Env → Option Env} {t : Env → T Bool} {w : Env → T D} {ts vs : List Nat} {σ : L2.St} {Q : VK} (hs : ∀ j ∈ ts, j ∈ vs) (h : rdN K A (dComp wi f t w vs) σ H Q) :
    tLc (rdIB K A wi) (rdG K A ts f) (rdT K A t) (rd K A w) vs σ H Q := by
  obtain ⟨G, env, Re, h⟩ := h
  refine ⟨G, env, Re, wp_imp (wp_bind.mp h) fun ds q J G1 H1 e1 ⟨Sr, y, st⟩ hz Dl hD => ?_⟩
  have nfD : ¬ A.F Dl := e1.refl'.nf hD
  refine ⟨fun i m H' => m = ds.length - i ∧ i ≤ ds.length ∧ ∃ G' accV accD, Ext A G1 H1 G' H' ∧ G' Dl = none ∧ H' Dl = some (.lst accV) ∧ RpAll K G' accV accD ∧ accD.length ≤ i ∧
      wp (compT f t w (wipeE env vs) (ds.drop i)) (fun rest => ∀ p vs G'' H'', Ext A G H G'' H'' → H p = none → G'' p = none → H'' p = some (.lst vs) → RpAll K G'' vs (accD ++ rest) → Q (.ref p) H'') A.E,
    ⟨ds.length, rfl, Nat.zero_le _, G1, [], [], e1.refl'.allocO hD, e1.refl'.gnone hD, upd_same, .nil, Nat.zero_le _, wp_imp q fun rest q => q⟩, ?_⟩
  rintro i m H' ⟨rfl, hi, G', accV, accD, e', gD, hDl, ra, la, h'⟩
  have sr : Sr H' := st G' H' e'
  have R' : Rel K A G' σ env H' := (Re.ext e1).ext e'
  by_cases hlt : i < ds.length
  · have ed : ds.drop i = ds[i] :: ds.drop (i + 1) := List.drop_eq_getElem_cons hlt
    rw [ed] at h'
    refine .inr ⟨y.go i H' sr hlt, fun H2 => ∃ G' accV accD, Ext A G1 H1 G' H2 ∧ G' Dl = none ∧ H2 Dl = some (.lst accV) ∧ RpAll K G' accV accD ∧ accD.length ≤ i + 1 ∧
      wp (compT f t w (wipeE env vs) (ds.drop (i + 1))) (fun rest => ∀ p vs G'' H'', Ext A G H G'' H'' → H p = none → G'' p = none → H'' p = some (.lst vs) → RpAll K G'' vs (accD ++ rest) → Q (.ref p) H'') A.E,
      fun H2 hN => ⟨ds.length - (i + 1), by omega, rfl, hlt, hN⟩, fun x H2 hy => ?_⟩
    obtain ⟨G2, e2, r2⟩ := y.item i ds[i] G' H' x H2 e'.gg R'.st sr (by simp) hy
    have R2 := (R'.ext e2).wipe vs
    have h' : wp (match f ds[i] (wipeE env vs) with
      | none => T.fail
      | some env1 => t env1 >>= fun b => if b = true then (w env1 >>= fun y => compT f t w (wipeE env vs) (ds.drop (i + 1)) >>= fun ys => T.ret (y :: ys)) else compT f t w (wipeE env vs) (ds.drop (i + 1))) _ A.E := h'
    have stay : ∀ {G3 H3}, Ext A G' H' G3 H3 → G3 Dl = none ∧ H3 Dl = some (.lst accV) := fun {G3 H3} e3 => by
      refine ⟨?_, e3.keep _ _ nfD hDl⟩
      cases q : G3 Dl with
      | none => rfl
      | some u =>
        rcases e3.new _ _ q with z | z
        · rw [gD] at z; cases z
        · rw [hDl] at z; cases z
    split at h'
    · exact h'.elim
    · rename_i env1 ef
      refine ⟨G2, _, ds[i], env1, R2, r2, ef, fun σ3 k3 l3 R3 => ⟨wipe_eq (by rw [l3, wipe_length]) k3 hs, G2, env1, R3, wp_imp (wp_bind.mp h') fun b q G3 H3 e3 => ?_⟩⟩
      cases b with
      | true =>
        refine ⟨G3, env1, R3.ext e3, wp_imp (wp_bind.mp (show wp (w env1 >>= fun y => compT f t w (wipeE env vs) (ds.drop (i + 1)) >>= fun ys => T.ret (y :: ys)) _ A.E from q)) fun d q v G4 H4 e4 r4 => ?_⟩
        have e5 := (e2.trans e3).trans e4
        obtain ⟨s1, s2⟩ := stay e5
        refine ⟨accV, s2, by rw [ra.length]; omega, G4, accV ++ [v], accD ++ [d], ?_, s1, upd_same, (ra.mono e5.gg).append (.cons r4 .nil), by rw [List.length_append]; simpa using la, wp_imp (wp_bind.mp q) fun rest q p us G5 H5 a1 a2 a3 a4 a5 => q p us G5 H5 a1 a2 a3 a4 (by rw [List.append_assoc] at a5; exact a5)⟩
        have e6 := e'.trans e5
        refine ⟨e6.gg, fun a u hu => ?_, fun a u hf hu => ?_, e6.new, e6.si0, Ext.si_upd e6.si nfD⟩
        · rw [upd_ne (ne_of_none hu s1)]; exact e6.gh a u hu
        · rw [upd_ne (ne_of_none hu hD)]; exact e6.keep a u hf hu
      | false =>
        have e5 := e2.trans e3
        obtain ⟨s1, s2⟩ := stay e5
        exact ⟨G3, accV, accD, e'.trans e5, s1, s2, ra.mono e5.gg, Nat.le_succ_of_le la, q⟩
  · have ei : i = ds.length := by omega
    subst ei
    rw [List.drop_length] at h'
    refine .inl ⟨y.stop _ H' sr (Nat.le_refl _), ?_⟩
    exact h' Dl accV G' H' (e1.trans e') (e1.dn hD) gD hDl (by rw [List.append_nil]; exact ra)
section
variable {X : Cx} {a b c e : Expr} {w : Env → T D} {pos pos' : Pos} {x : Str}
theorem _root_.L2.PTs.imp {ifs : List Expr} {t t' : TT} (h : PTs X ifs t) (i : ∀ σ H Q, t' σ H Q → t σ H Q) : PTs X ifs t' := ⟨fun pins s σ H Q I q => h.run pins s σ H Q I (i σ H Q q)⟩
theorem ts_nil : PTs X [] (rdT X.K A fun _ => T.ret true) := pts_nil.imp fun σ H Q h => by
  obtain ⟨G, env, R, h⟩ := h
  exact h G H R.st
theorem ts_one {t : Env → T Bool} (h : PT X c (rdT X.K A t)) : PTs X [c] (rdT X.K A t) := pts_one h
theorem r_lc {elt tg iter : Expr} {ifs : List Expr} {scope : Scope} {own : List (Str × Nat)} {wi : Env → T (List D)} {f : D → Env → Option Env} {t : Env → T Bool} {ts : List Nat} (hc : X.calm = true) (hN : X.N.Nodup) (ok : BlkOk X.N X.env.scope scope own) (hi : PI X tg iter (rdIB X.K A wi)) (hts : ∀ j ∈ ts, j ∈ own.map (·.2))
    (hg : ∀ (s : Shared) (H : Hp) (C : Addr) (cl : List (Str × Addr)) (fp : List Addr), PG (X.blk s H scope (compEnvC scope cl C X.env) fp) tg (rdG X.K A ts f)) (ht : ∀ (s : Shared) (H : Hp) (C : Addr) (cl : List (Str × Addr)) (fp : List Addr), PTs (X.blk s H scope (compEnvC scope cl C X.env) fp) ifs (rdT X.K A t))
    (he : ∀ (s : Shared) (H : Hp) (C : Addr) (cl : List (Str × Addr)) (fp : List Addr), PE (X.blk s H scope (compEnvC scope cl C X.env) fp) elt (rd X.K A w)) (hs : ∀ x, foldedSetIterable iter X.env x = pure x := by intro _; rfl) :
    PE X (.ListComp elt [⟨tg, iter, ifs, 0⟩] scope pos) (rdN X.K A (dComp wi f t w (own.map (·.2)))) := (pe_lc hc hN hi ok hg ht he hs).imp fun _ _ _ => tLc_N hts
/-- y = [..] on one line, y a local name -/
theorem s_ownLc (i : Nat) {y : Str} {py : Pos} {spos : Pos} {elt tg iter : Expr} {ifs : List Expr} {scope : Scope} {own : List (Str × Nat)} {wi : Env → T (List D)} {f : D → Env → Option Env} {t : Env → T Bool} {ts : List Nat} (hc : X.calm = true) (hN : X.N.Nodup) (hy : X.N[i]? = some y) (hyl : X.env.scope.names.lookup y = some .local)
    (hsw : swapsWith (.ListComp elt [⟨tg, iter, ifs, 0⟩] scope pos) (some (.Name y py)) spos.line X.env = pure true) (ok : BlkOk X.N X.env.scope scope own) (hi : PI X tg iter (rdIB X.K A wi)) (hts : ∀ j ∈ ts, j ∈ own.map (·.2))
    (hg : ∀ (s : Shared) (H : Hp) (C : Addr) (cl : List (Str × Addr)) (fp : List Addr), PG (X.blk s H scope (compEnvC scope cl C X.env) fp) tg (rdG X.K A ts f)) (ht : ∀ (s : Shared) (H : Hp) (C : Addr) (cl : List (Str × Addr)) (fp : List Addr), PTs (X.blk s H scope (compEnvC scope cl C X.env) fp) ifs (rdT X.K A t))
    (he : ∀ (s : Shared) (H : Hp) (C : Addr) (cl : List (Str × Addr)) (fp : List Addr), PE (X.blk s H scope (compEnvC scope cl C X.env) fp) elt (rd X.K A w)) (hs : ∀ x, foldedSetIterable iter X.env x = pure x := by intro _; rfl) :
    PS X (.Assign [.Name y py] (.ListComp elt [⟨tg, iter, ifs, 0⟩] scope pos) spos) (rdS X.K A (dOwn i (dComp wi f t w (own.map (·.2))))) := (ps_setLc hc hN hy hyl hsw hi ok hg ht he hs).imp fun Dn σ H h => tLc_N (Q := fun x H1 => gName i x σ H1 Dn.nx) hts (by
  obtain ⟨G, env, R, h⟩ := h
  refine ⟨G, env, R, wp_imp (wp_bind.mp h) fun ds h1 p vs G1 H1 e1 hp hg hl r1 => ?_⟩
  exact h1 _ G1 H1 e1.gg ((R.ext e1).setO ⟨⟨_, hl, .lst r1⟩, hg, R.h0 hp, R.st.nf hp⟩ (R.fresh hp)))
end
end Eng

namespace Eng
open PySem PySem.Spec PyProof.Rows L2
open Evl (Ex)
/-- FnOk where no guarded built-in runs around -/
structure FnG (P : Program) (w : World) (K : PySem.W.Frag) (mg : Str → Option Value) (base : Heap) (k : Nat) (f : Addr) (fd : FuncData) (ps : List Str) (sp : Sp) : Prop where
  len : ∀ vs H Q E, sp vs H Q E → vs.length = ps.length
  run : ∀ (A : Around) (outer : List PySem.Env) (s : Shared) (H : Hp) (args : Args) (us : List Value) (vs : List V) (Q : VK) (E : XK), Room k A → A.guards = some [] → Env0 P w K mg base A outer s H → BindsTo s fd args (ps.zip us) → Vals vs us → sp vs H Q E →
    codeAny (model P w) A (.call (.ref f) args) (CR CX0 outer P w H s Q E) s
theorem FnG.mono {P : Program} {w : World} {K : PySem.W.Frag} {mg : Str → Option Value} {base : Heap} {j k : Nat} {f : Addr} {fd : FuncData} {ps : List Str} {sp : Sp} (F : FnG P w K mg base j f fd ps sp) (h : j ≤ k) : FnG P w K mg base k f fd ps sp :=
  ⟨F.len, fun A outer s H args us vs Q E hr => F.run A outer s H args us vs Q E (hr.mono h)⟩
theorem fnG_of {P : Program} {w : World} {K : PySem.W.Frag} {mg : Str → Option Value} {base : Heap} {k : Nat} {f : Addr} {name qual : Str} {params : Arguments} {body : List Stmt} {scope : Scope} {dV kV doc pm cdv ct oc : Value} {an od : Option Addr}
    {osl : Array (Option Value)} {N ps : List Str} {sp : Sp} (lk : K.lookup f = some ⟨oc, od, .func (PySem.W.fnOf name qual params body scope dV kV doc pm an cdv ct), osl⟩) (hcd : PySem.W.codeIn K cdv qual = true) (S : FnScope N ps scope)
    (len : ∀ vs H Q E, sp vs H Q E → vs.length = ps.length)
    (hbody : ∀ (A : Around) (outer : List PySem.Env) (s : Shared) (H : Hp) (vs : List V) (Q : VK) (E : XK), Room k (A.deeper (envOfC qual scope s.heap.objs.size f cdv)) → A.guards = some [] → sp vs H Q E →
      ∃ t, PSs (cxOf CX0 P w K mg base N qual scope f cdv A outer s H E).nox body t ∧ t { nx := fun _ H' => Q .non H', rt := Q } (L2.start N vs) H) :
    FnG P w K mg base (k + 1) f (PySem.W.fnOf name qual params body scope dV kV doc pm an cdv ct) ps sp := by
  refine ⟨len, fun A outer s H args us vs Q E hr hgd e0 hb r hsp => ?_⟩
  have hl := len _ _ _ _ hsp
  have KX : K.In s.heap := e0.mod.kin.keeps fun b o e => (e0.bs b o e).1
  have lim : s.heap.NoLimit := e0.mod.nolimit.keeps fun b o e => (e0.bs b o e).1
  have hkind : ∀ y ∈ ps.zip us, scope.names.lookup y.1 = some .local ∨ (scope.names.lookup y.1 = some .cell ∧ ((cellsFrom (s.heap.objs.size + 1) scope.names []).lookup y.1).isSome = true) := fun ⟨n, v⟩ hy => by
    rcases S.par n (List.of_mem_zip hy).1 with q | q
    · exact .inl q
    · exact .inr ⟨q, PySem.W.cellsFrom_some _ _ _ (.inl q)⟩
  refine codeAny_call_function hr.depth (KX _ _ lk) rfl S.co S.gen rfl (PySem.W.codeRec_of KX hcd) (hb _ _ _ _ ?_)
  refine wpAny_newFunctionEnv_cells S.kind hkind fun env he s1 x => ?_
  subst he
  refine ⟨lim.keeps x.toInCall.keep, codeAny_func ?_⟩
  obtain ⟨t, ht, hq⟩ := hbody A outer s H vs Q E (hr.deeper _) hgd hsp
  have I : Inv (cxOf CX0 P w K mg base N qual scope f cdv A outer s H E) [] (L2.start N vs) H s1 := inv_start S hr.hd e0 hl r x
  refine wpAny_mono (ht.nox.run [] s1 (L2.start N vs) H _ I hq) (fun fl s' hs => ?_) fun e s' hs => hs
  have fin : ∀ {σ' : L2.St} {H' : Hp} {v : V} {u : Value}, Inv (cxOf CX0 P w K mg base N qual scope f cdv A outer s H E) [] σ' H' s' → RelV v u → Q v H' → CE outer P w H s Q u s' :=
    fun {σ' H' v u} J rv q => ⟨v, H', J.os, J.bare, J.base, J.hok, rv, q⟩
  cases fl with
  | ret u =>
    obtain ⟨v, σ', H', J, rv, q⟩ := hs
    exact fin J rv q
  | next =>
    obtain ⟨σ', H', J, q⟩ := hs
    exact fin (v := V.non) (u := Value.none) J rfl q
  | brk =>
    obtain ⟨_, _, _, q⟩ := hs
    exact False.elim q
  | cont =>
    obtain ⟨_, _, _, q⟩ := hs
    exact False.elim q

abbrev APr := (Addr → Prop) → (Hp → Prop) → Prop
def spG (K : PySem.W.Frag) (PX : APr) (np : Nat) (fT : List D → T D) : Sp := fun vs H Q _ => vs.length = np ∧ ∃ (A : Act) (G : Hp) (ds : List D), PX A.F A.SI ∧ St1 A G H ∧ (∀ a, A.F a → G a = none) ∧ RpAll K G vs ds ∧
  wp (fT ds) (fun d => ∀ v G' H', Ext A G H G' H' → Rp K G' v d → Q v H') (fun _ _ => False)
/-- a def of the text, its function upon data -/
structure DefG (P : Program) (w : World) (K : PySem.W.Frag) (mg : Str → Option Value) (base : Heap) (PX : APr) (k : Nat) (x : Str) (st : Stmt) (ps : List Str) (fT : List D → T D) : Prop where
  ex : ∃ f fd, mg x = some (.ref f) ∧ FunD K x x (defArgs st) (defBody st) (defScope st) [] [] f fd ∧ FnG P w K mg base k f fd ps (spG K PX ps.length fT)
  bn : ∀ (kV doc pm : Value) (an : Option Addr) (cdv ct : Value) (us : List Value), us.length = ps.length → bindArgs (PySem.W.fnOf x x (defArgs st) (defBody st) (defScope st) .none kV doc pm an cdv ct) ⟨us, []⟩ = pure (ps.zip us)
theorem DefG.mono {P : Program} {w : World} {K : PySem.W.Frag} {mg : Str → Option Value} {base : Heap} {PX : APr} {j k : Nat} {x : Str} {st : Stmt} {ps : List Str} {fT : List D → T D} (F : DefG P w K mg base PX j x st ps fT) (h : j ≤ k) : DefG P w K mg base PX k x st ps fT := by
  obtain ⟨f, fd, h1, h2, h3⟩ := F.ex
  exact ⟨⟨f, fd, h1, h2, h3.mono h⟩, F.bn⟩
/-- where a def stands: a fact of the head -/
structure At (K : PySem.W.Frag) (mg : Str → Option Value) (x : Str) (st : Stmt) : Prop where
  ex : ∃ f fd, mg x = some (.ref f) ∧ FunD K x x (defArgs st) (defBody st) (defScope st) [] [] f fd
def startE (n : Nat) (ds : List D) : Env := ds.map Sl.val ++ List.replicate (n - ds.length) Sl.un
def bodyT (n : Nat) (w : Env → T Out) (ds : List D) : T D := w (startE n ds) >>= fun o => match o with
  | .nx _ => T.ret .non
  | .rt d => T.ret d
  | _ => T.fail
section
variable {P : Program} {w : World} {K : PySem.W.Frag} {mg : Str → Option Value} {base : Heap} {PX : APr}
theorem rel_start {A : Act} {G H : Hp} {N : List Str} {vs : List V} {ds : List D} (s : St1 A G H) (e0 : A.G0 = G) (e1 : A.H0 = H) (hf : ∀ a, A.F a → G a = none) (r : RpAll K G vs ds) (hl : vs.length ≤ N.length) : Rel K A G (L2.start N vs) (startE N.length ds) H where
  e0 := by rw [e0, e1]; exact s
  gf := hf
  len := by
    unfold startE L2.start
    rw [List.length_append, List.length_append, List.length_map, List.length_map, List.length_replicate, List.length_replicate, r.length]
  sl := fun i sl h => by
    unfold startE at h
    unfold L2.start
    by_cases hi : i < ds.length
    · rw [List.getElem?_append_left (by simpa using hi), List.getElem?_map] at h
      cases q : ds[i]? with
      | none => rw [q] at h; cases h
      | some d =>
        rw [q] at h
        cases h
        obtain ⟨v, h1, h2⟩ := r.get q
        exact ⟨v, by rw [List.getElem?_append_left (by rw [List.length_map, r.length]; exact hi), List.getElem?_map, h1] <;> rfl, h2⟩
    · rw [List.getElem?_append_right (by simpa using hi), List.getElem?_replicate] at h
      split at h
      · cases h; trivial
      · cases h
  ap := fun i j p d e hi => by
    exfalso
    unfold startE at hi
    by_cases hl : i < ds.length
    · rw [List.getElem?_append_left (by simpa using hl), List.getElem?_map] at hi
      cases q : ds[i]? with
      | none => rw [q] at hi; cases hi
      | some d => rw [q] at hi; cases hi
    · rw [List.getElem?_append_right (by simpa using hl), List.getElem?_replicate] at hi
      split at hi <;> cases hi
/-- THE RULE for a def -/
theorem DefG.mk' {k : Nat} {x : Str} {st : Stmt} {N ps : List Str} {wb : Env → T Out} (at_ : At K mg x st) (S : FnScope N ps (defScope st))
    (bn : ∀ (kV doc pm : Value) (an : Option Addr) (cdv ct : Value) (us : List Value), us.length = ps.length → bindArgs (PySem.W.fnOf x x (defArgs st) (defBody st) (defScope st) .none kV doc pm an cdv ct) ⟨us, []⟩ = pure (ps.zip us))
    (hbody : ∀ (f : Addr) (cdv : Value) (Ar : Around) (outer : List PySem.Env) (s : Shared) (H : Hp) (E : XK), Room k (Ar.deeper (envOfC x (defScope st) s.heap.objs.size f cdv)) → (Ar.deeper (envOfC x (defScope st) s.heap.objs.size f cdv)).guards = some [] →
      ∀ A : Act, PX A.F A.SI → (∀ c d, ¬ A.E c d) → PSs (cxOf CX0 P w K mg base N x (defScope st) f cdv Ar outer s H E).nox (defBody st) (rdS K A wb)) :
    DefG P w K mg base PX (k + 1) x st ps (bodyT N.length wb) := by
  obtain ⟨f, fd, h1, F⟩ := at_.ex
  refine ⟨⟨f, fd, h1, F, ?_⟩, bn⟩
  obtain ⟨oc, od, dV, kV, doc, pm, an, cdv, ct, osl, rfl, lk, hcd, _, _⟩ := F.ex
  refine fnG_of lk hcd S (fun vs H Q E h => h.1) fun Ar outer s H vs Q E hr hg h => ?_
  obtain ⟨hl, A, G, ds, pa, s1, hf, r, hw⟩ := h
  have hpl : ps.length ≤ N.length := by have := congrArg List.length S.pre; rw [List.length_take] at this; omega
  refine ⟨_, hbody f cdv Ar outer s H E hr hg ⟨A.F, A.SI, A.loc, A.dom, G, H, fun _ _ => False⟩ pa (fun _ _ h => h), G, startE N.length ds,
    rel_start ⟨s1.gg, s1.gh, s1.keep, s1.new, s1.si0, s1.si⟩ rfl rfl hf r (by rw [hl]; exact hpl), ?_⟩
  refine wp_mono (wp_bind.mp hw) (fun o q => ?_) fun _ _ h => h
  cases o with
  | nx env => exact fun σ' G' H' e R => q .non G' H' ⟨R.e0.gg, R.e0.gh, R.e0.keep, R.e0.new, R.e0.si0, R.e0.si⟩ .non
  | rt d => exact fun v G' H' e r => q v G' H' ⟨e.gg, e.gh, e.keep, e.new, e.si0, e.si⟩ r
  | bk env => exact q.elim
  | ct env => exact q.elim
/-- nothing is promised -/
theorem DefG.zero {x : Str} {st : Stmt} {ps : List Str} (at_ : At K mg x st)
    (bn : ∀ (kV doc pm : Value) (an : Option Addr) (cdv ct : Value) (us : List Value), us.length = ps.length → bindArgs (PySem.W.fnOf x x (defArgs st) (defBody st) (defScope st) .none kV doc pm an cdv ct) ⟨us, []⟩ = pure (ps.zip us)) :
    DefG P w K mg base PX 0 x st ps (fun _ => T.fail) := by
  obtain ⟨f, fd, h1, F⟩ := at_.ex
  refine ⟨⟨f, fd, h1, F, ⟨fun vs H Q E h => h.1, fun A outer s H args us vs Q E hr hg e0 hb r hsp => ?_⟩⟩, bn⟩
  obtain ⟨_, _, _, _, _, _, _, _, h⟩ := hsp
  exact h.elim
/-- another function upon data with the same ends -/
theorem DefG.as {k : Nat} {x : Str} {st : Stmt} {ps : List Str} {fT gT : List D → T D} (F : DefG P w K mg base PX k x st ps fT) (h : ∀ ds (Q : D → Prop), wp (gT ds) Q (fun _ _ => False) → wp (fT ds) Q (fun _ _ => False)) : DefG P w K mg base PX k x st ps gT := by
  obtain ⟨f, fd, h1, h2, h3⟩ := F.ex
  refine ⟨⟨f, fd, h1, h2, ⟨fun vs H Q E h => h.1, fun A outer s H args us vs Q E hr hg e0 hb r hsp => h3.run A outer s H args us vs Q E hr hg e0 hb r ?_⟩⟩, F.bn⟩
  obtain ⟨a, A, G, ds, b, c, d, e, f⟩ := hsp
  exact ⟨a, A, G, ds, b, c, d, e, h _ _ f⟩
end

/-- the parameters' values, of the written ones and the keywords' -/
def pick {α : Type} (o : List Nat) (l : List α) : List α := o.filterMap (l[·]?)
theorem Vals.pick {vs : List V} {us : List Value} (r : Vals vs us) : ∀ o : List Nat, Vals (Eng.pick o vs) (Eng.pick o us)
  | [] => .nil
  | i :: o => by
    unfold Eng.pick
    rw [List.filterMap_cons, List.filterMap_cons]
    cases q : vs[i]? with
    | none => rw [r.none_of q]; exact Vals.pick r o
    | some v =>
      obtain ⟨u, h1, h2⟩ := r.get q
      rw [h1]
      exact .cons h2 (Vals.pick r o)
theorem RpAll.pick {K : PySem.W.Frag} {G : Hp} {vs : List V} {ds : List D} (r : RpAll K G vs ds) : ∀ o : List Nat, RpAll K G (Eng.pick o vs) (Eng.pick o ds)
  | [] => .nil
  | i :: o => by
    unfold Eng.pick
    rw [List.filterMap_cons, List.filterMap_cons]
    cases q : vs[i]? with
    | none =>
      have : ds[i]? = none := by
        rw [List.getElem?_eq_none_iff] at q ⊢
        rw [← r.length]; exact q
      rw [this]
      exact RpAll.pick r o
    | some v =>
      obtain ⟨d, h1, h2⟩ := r.getV q
      rw [h1]
      exact .cons h2 (RpAll.pick r o)
structure KwB (x : Str) (st : Stmt) (ps : List Str) (n : Nat) (ks : List Str) (o : List Nat) : Prop where
  to : ∀ (kV doc pm : Value) (an : Option Addr) (cdv ct : Value) (us ws : List Value), us.length = n → ws.length = ks.length →
    bindArgs (PySem.W.fnOf x x (defArgs st) (defBody st) (defScope st) .none kV doc pm an cdv ct) ⟨us, ks.zip ws⟩ = pure (ps.zip (pick o (us ++ ws)))
section
variable {X : Cx} {A : Act} {PX : APr} {k m n : Nat} {x : Str} {st : Stmt} {ps ks : List Str} {fT : List D → T D} {p pos apos : Pos} {e : Expr} {es : List Expr} {kws : List Keyword} {ws zs : Env → T (List D)} {o : List Nat}
theorem run_fnG {f : Addr} {fd : FuncData} {sp : Sp} {args : Args} {pins : List (Addr × Obj)} {σ : L2.St} {H : Hp} {s : Shared} {Q : VK} {us : List Value} {vs : List V} {E : XK} (F : FnG X.prog X.w X.K X.mg X.base k f fd ps sp) (hr : Room k X.A) (hg : X.A.guards = some [])
    (I : Inv X pins σ H s) (hb : BindsTo s fd args (ps.zip us)) (r : Vals vs us) (h : sp vs H Q E) : wpAny (model X.prog X.w) X.A (call (.ref f) args.pos args.kw) (EP X pins σ Q) X.xe s := by
  refine wpAny_call (codeAny_mono (F.run X.A X.stack s H args us vs Q E hr hg I.env0 hb r h) fun r s' hq => ?_)
  cases r with
  | error e => exact hq.elim
  | ok fl =>
    cases fl with
    | ret u => exact I.after hq
    | next => exact False.elim hq
    | brk => exact False.elim hq
    | cont => exact False.elim hq
theorem spG_of {G H : Hp} {vs : List V} {ds : List D} {Q : VK} {E : XK} (hA : PX A.F A.SI) (hE : ∀ c d, ¬ A.E c d) (s : St1 A G H) (hf : ∀ a, A.F a → G a = none) (r : RpAll X.K G vs ds) (hl : vs.length = n)
    (h : wp (fT ds) (fun d => ∀ v G' H', Ext A G H G' H' → Rp X.K G' v d → Q v H') A.E) : spG X.K PX n fT vs H Q E :=
  ⟨hl, A, G, ds, hA, s, hf, r, wp_mono h (fun _ q => q) fun c d z => hE c d z⟩
theorem r_call (F : DefG X.prog X.w X.K X.mg X.base PX k x st ps fT) (hr : Room k X.A) (hgd : X.A.guards = some []) (hA : PX A.F A.SI) (hE : ∀ c d, ¬ A.E c d) (hg : Gl X x) (ha : PA X (e :: es) (rdA X.K A ps.length ws)) (hdb : (x == ("__debug__" : Str)) = false := by decide)
    (he : starEach (e :: es) X.env = (false, eval e X.env) :: starEach es X.env := by rfl) (hpl : (backTo pos (starEach es X.env)).any (·.1) = false := by rfl) : PE X (.Call (.Name x p) (e :: es) [] pos) (rd X.K A (dC fT ws)) := by
  obtain ⟨f, fd, hm, FD, FG⟩ := F.ex
  refine ⟨fun pins s σ H Q I h => ?_⟩
  obtain ⟨G, env, R, h⟩ := h
  refine wpAny_Call_Name_kw (ld_glob I hg hm ?_ hdb)
  refine PySem.W.callWith_K (h₀ := X.base) I.ok.mod.kin FD.kp (thn (ha.run pos pins s σ H _ I ⟨G, env, R, wp_imp (wp_bind.mp h) fun ds q vs G1 H1 e1 r1 l1 => (⟨ds, G1, R.ext e1, r1, l1, wp_imp q fun d q v G2 H2 e2 => q v G2 H2 (e1.trans e2)⟩ :
    ∃ ds G1, Rel X.K A G1 σ env H1 ∧ RpAll X.K G1 vs ds ∧ vs.length = ps.length ∧ wp (fT ds) (fun d => ∀ v G2 H2, Ext A G1 H1 G2 H2 → Rp X.K G2 v d → Q v H2) A.E)⟩) fun us s1 ⟨vs, H1, I1, r, ds, G1, R1, r1, l1, q⟩ => ⟨I1.kIn, ?_⟩) he hpl
  refine run_fnG (E := fun _ _ _ => False) (args := ⟨us, []⟩) FG hr hgd I1 ?_ r (spG_of hA hE R1.st R1.gf r1 l1 q)
  exact (FD.bindsN F.bn) s1 us I1.kIn (by rw [List.append_nil, ← r.length, l1]) |> fun z => by simpa using z
theorem r_call0 (F : DefG X.prog X.w X.K X.mg X.base PX k x st ps fT) (hr : Room k X.A) (hgd : X.A.guards = some []) (hA : PX A.F A.SI) (hE : ∀ c d, ¬ A.E c d) (hg : Gl X x) (hp : ps = []) (hdb : (x == ("__debug__" : Str)) = false := by decide) :
    PE X (.Call (.Name x p) [] [] pos) (rd X.K A (fun _ => fT [])) := by
  subst hp
  obtain ⟨f, fd, hm, FD, FG⟩ := F.ex
  refine ⟨fun pins s σ H Q I h => ?_⟩
  obtain ⟨G, env, R, h⟩ := h
  refine wpAny_Call_Name_kw (ld_glob I hg hm ?_ hdb)
  refine PySem.W.callWith_K0 I.kIn FD.kp (run_fnG (E := fun _ _ _ => False) (args := ⟨[], []⟩) (us := []) FG hr hgd I ?_ .nil (spG_of hA hE R.st R.gf .nil rfl h))
  exact (FD.bindsN F.bn) s [] I.kIn rfl |> fun z => by simpa using z
/-- f(e, .., k = v, ..) -/
def dCK (f : List D → T D) (o : List Nat) (ws zs : Env → T (List D)) : Env → T D := fun env => ws env >>= fun us => zs env >>= fun vs => f (pick o (us ++ vs))
theorem bindsK {x : Str} {st : Stmt} {f : Addr} {fd : FuncData} {K : PySem.W.Frag} (FD : FunD K x x (defArgs st) (defBody st) (defScope st) [] [] f fd) (B : KwB x st ps n ks o) (s : Shared) (us ws : List Value) (h1 : us.length = n) (h2 : ws.length = ks.length) : BindsTo s fd ⟨us, ks.zip ws⟩ (ps.zip (pick o (us ++ ws))) := by
  obtain ⟨oc, od, dV, kV, doc, pm, an, cdv, ct, osl, rfl, lk, hcd, hD, hK⟩ := FD.ex
  rcases hD with ⟨_, rfl⟩ | ⟨e, _⟩
  · exact .of_eq (B.to kV doc pm an cdv ct us ws h1 h2)
  · exact absurd rfl e
theorem r_callK (F : DefG X.prog X.w X.K X.mg X.base PX k x st ps fT) (B : KwB x st ps n ks o) (hr : Room k X.A) (hgd : X.A.guards = some []) (hA : PX A.F A.SI) (hE : ∀ c d, ¬ A.E c d) (hg : Gl X x) (ha : PA X (e :: es) (rdA X.K A n ws)) (hk : PK X kws (rdA X.K A m zs)) (hm0 : m = ks.length) (ho : ∀ l : List V, l.length = n + m → (pick o l).length = ps.length)
    (hall : (backToKw pos (keywordEach kws X.env)).all (·.1.isSome) = true := by rfl) (hks : (backToKw pos (keywordEach kws X.env)).filterMap (·.1) = ks := by rfl)
    (hdb : (x == ("__debug__" : Str)) = false := by decide) (he : starEach (e :: es) X.env = (false, eval e X.env) :: starEach es X.env := by rfl)
    (hpl : ((backTo pos (starEach (e :: es) X.env)).any (·.1) || (backToKw pos (keywordEach kws X.env)).any (·.1.isNone)) = false := by rfl) : PE X (.Call (.Name x p) (e :: es) kws pos) (rd X.K A (dCK fT o ws zs)) := by
  obtain ⟨f, fd, hm, FD, FG⟩ := F.ex
  refine ⟨fun pins s σ H Q I h => ?_⟩
  obtain ⟨G, env, R, h⟩ := h
  refine wpAny_Call_Name_kw (ld_glob I hg hm ?_ hdb)
  refine PySem.W.callWith_KW (h₀ := X.base) I.ok.mod.kin FD.kp hall (thn (ha.run pos pins s σ H _ I ⟨G, env, R, wp_imp (wp_bind.mp h) fun ds q vs G1 H1 e1 r1 l1 => (⟨ds, G1, R.ext e1, r1, l1, wp_imp (wp_bind.mp q) fun es q => wp_imp q fun d q v G2 H2 e2 => q v G2 H2 (e1.trans e2)⟩ :
    ∃ ds G1, Rel X.K A G1 σ env H1 ∧ RpAll X.K G1 vs ds ∧ vs.length = n ∧ wp (zs env) (fun es => wp (fT (pick o (ds ++ es))) (fun d => ∀ v G2 H2, Ext A G1 H1 G2 H2 → Rp X.K G2 v d → Q v H2) A.E) A.E)⟩) fun us s1 ⟨vs, H1, I1, r, ds, G1, R1, r1, l1, q⟩ => ?_) hpl he
  refine thn (hk.run pos pins s1 σ H1 _ I1 ⟨G1, env, R1, wp_imp q fun es q us G2 H2 e2 r2 l2 => (⟨es, G2, R1.ext e2, r1.mono e2.gg, r2, l2, wp_imp q fun d q v G3 H3 e3 => q v G3 H3 (e2.trans e3)⟩ :
    ∃ es G2, Rel X.K A G2 σ env H2 ∧ RpAll X.K G2 vs ds ∧ RpAll X.K G2 us es ∧ us.length = m ∧ wp (fT (pick o (ds ++ es))) (fun d => ∀ v G3 H3, Ext A G2 H2 G3 H3 → Rp X.K G3 v d → Q v H3) A.E)⟩) fun wsv s2 ⟨zv, H2, I2, rz, es, G2, R2, r2, r3, l2, q⟩ => ⟨I2.kIn, ?_⟩
  rw [hks]
  refine run_fnG (E := fun _ _ _ => False) (args := ⟨us, ks.zip wsv⟩) (us := pick o (us ++ wsv)) (vs := pick o (vs ++ zv)) FG hr hgd I2 ?_ (Eng.Vals.pick (Vals.append r rz) o) (spG_of hA hE R2.st R2.gf ((r2.append r3).pick o) (ho _ (by rw [List.length_append, l1, l2])) q)
  exact bindsK FD B s2 us wsv (by rw [← r.length, l1]) (by rw [← rz.length, l2, hm0])
theorem r_callK0 (F : DefG X.prog X.w X.K X.mg X.base PX k x st ps fT) (B : KwB x st ps 0 ks o) (hr : Room k X.A) (hgd : X.A.guards = some []) (hA : PX A.F A.SI) (hE : ∀ c d, ¬ A.E c d) (hg : Gl X x) (hk : PK X kws (rdA X.K A m zs)) (hm0 : m = ks.length) (ho : ∀ l : List V, l.length = 0 + m → (pick o l).length = ps.length)
    (hall : (backToKw pos (keywordEach kws X.env)).all (·.1.isSome) = true := by rfl) (hks : (backToKw pos (keywordEach kws X.env)).filterMap (·.1) = ks := by rfl)
    (hdb : (x == ("__debug__" : Str)) = false := by decide)
    (hpl : ((backTo pos (starEach [] X.env)).any (·.1) || (backToKw pos (keywordEach kws X.env)).any (·.1.isNone)) = false := by rfl) : PE X (.Call (.Name x p) [] kws pos) (rd X.K A (dCK fT o dNil zs)) := by
  obtain ⟨f, fd, hm, FD, FG⟩ := F.ex
  refine ⟨fun pins s σ H Q I h => ?_⟩
  obtain ⟨G, env, R, h⟩ := h
  refine wpAny_Call_Name_kw (ld_glob I hg hm ?_ hdb)
  have h := wp_bind.mp (show wp (zs env >>= fun vs => fT (pick o ([] ++ vs))) _ _ from h)
  refine PySem.W.callWith_KW0 (h₀ := X.base) I.ok.mod.kin FD.kp hall (thn (hk.run pos pins s σ H _ I ⟨G, env, R, wp_imp h fun es q us G2 H2 e2 r2 l2 => (⟨es, G2, R.ext e2, r2, l2, wp_imp q fun d q v G3 H3 e3 => q v G3 H3 (e2.trans e3)⟩ :
    ∃ es G2, Rel X.K A G2 σ env H2 ∧ RpAll X.K G2 us es ∧ us.length = m ∧ wp (fT (pick o ([] ++ es))) (fun d => ∀ v G3 H3, Ext A G2 H2 G3 H3 → Rp X.K G3 v d → Q v H3) A.E)⟩) fun wsv s2 ⟨zv, H2, I2, rz, es, G2, R2, r3, l2, q⟩ => ⟨I2.kIn, ?_⟩) hpl
  rw [hks]
  refine run_fnG (E := fun _ _ _ => False) (args := ⟨[], ks.zip wsv⟩) (us := pick o ([] ++ wsv)) (vs := pick o ([] ++ zv)) FG hr hgd I2 ?_ (Vals.pick rz o) (spG_of hA hE R2.st R2.gf (RpAll.pick r3 o) (ho _ (by show zv.length = 0 + m; omega)) q)
  exact bindsK FD B s2 [] wsv rfl (by rw [← rz.length, l2, hm0])
end
end Eng

namespace Eng
open PySem PySem.Spec PyProof.Rows L2
open Evl (Ex)
section
variable {P : Program} {w : World} {K : PySem.W.Frag} {mg : Str → Option Value} {base : Heap} {PX : APr}
/-- a def walked by hand -/
theorem DefG.mkRaw {k : Nat} {x : Str} {st : Stmt} {N ps : List Str} {fT : List D → T D} (at_ : At K mg x st) (S : FnScope N ps (defScope st))
    (bn : ∀ (kV doc pm : Value) (an : Option Addr) (cdv ct : Value) (us : List Value), us.length = ps.length → bindArgs (PySem.W.fnOf x x (defArgs st) (defBody st) (defScope st) .none kV doc pm an cdv ct) ⟨us, []⟩ = pure (ps.zip us))
    (hbody : ∀ (f : Addr) (cdv : Value) (Ar : Around) (outer : List PySem.Env) (s : Shared) (H : Hp) (E : XK), Room k (Ar.deeper (envOfC x (defScope st) s.heap.objs.size f cdv)) → (Ar.deeper (envOfC x (defScope st) s.heap.objs.size f cdv)).guards = some [] →
      ∀ (A : Act) (G : Hp) (vs : List V) (ds : List D) (Q : VK), PX A.F A.SI → St1 A G H → (∀ a, A.F a → G a = none) → RpAll K G vs ds → vs.length = ps.length →
        wp (fT ds) (fun d => ∀ v G' H', Ext A G H G' H' → Rp K G' v d → Q v H') (fun _ _ => False) →
        ∃ t, PSs (cxOf CX0 P w K mg base N x (defScope st) f cdv Ar outer s H E).nox (defBody st) t ∧ t { nx := fun _ H' => Q .non H', rt := Q } (L2.start N vs) H) :
    DefG P w K mg base PX (k + 1) x st ps fT := by
  obtain ⟨f, fd, h1, F⟩ := at_.ex
  refine ⟨⟨f, fd, h1, F, ?_⟩, bn⟩
  obtain ⟨oc, od, dV, kV, doc, pm, an, cdv, ct, osl, rfl, lk, hcd, _, _⟩ := F.ex
  refine fnG_of lk hcd S (fun vs H Q E h => h.1) fun Ar outer s H vs Q E hr hg h => ?_
  obtain ⟨hl, A, G, ds, pa, s1, hf, r, hw⟩ := h
  exact hbody f cdv Ar outer s H E hr hg A G vs ds Q pa s1 hf r hl hw
end
variable {K : PySem.W.Frag} {A : Act} {G H G' H' : Hp}
/-- only what the draws own has changed, or is new -/
theorem Ext.upF (s : St1 A G H) (hf : ∀ a, A.F a → G a = none) (hk : ∀ a o, ¬ A.F a → H a = some o → H' a = some o) (si : A.SI H') : Ext A G H G H' where
  gg := Ex.refl _
  gh := fun a o h => hk a o (fun f => by rw [hf a f] at h; cases h) (s.gh a o h)
  keep := hk
  new := fun _ _ h => .inl h
  si0 := s.si
  si := si
def drawT (a0 : Addr) : List D → T D
  | [.obj a, .int n] => if a = a0 ∧ 0 < n ∧ n < 1073741824 then .draw n.toNat fun i => .ret (.int i) else .fail
  | _ => .fail
theorem drawT_wp {a0 : Addr} {ds : List D} {Q : D → Prop} {E : Str → List D → Prop} (h : wp (drawT a0 ds) Q E) : ∃ n : Int, ds = [.obj a0, .int n] ∧ 0 < n ∧ n < 1073741824 ∧ ∀ i : Int, 0 ≤ i → i < n → Q (.int i) := by
  unfold drawT at h
  split at h
  · split at h
    · rename_i a n c
      obtain ⟨rfl, c1, c2⟩ := c
      refine ⟨n, rfl, c1, c2, fun i h0 h1 => ?_⟩
      have : Q (.int ((i.toNat : Nat) : Int)) := h.2 i.toNat (by omega)
      rw [Int.toNat_of_nonneg h0] at this
      exact this
    · exact h.elim
  · exact h.elim
theorem RpAll.two {vs : List V} {a : Addr} {n : Int} (r : RpAll K G vs [.obj a, .int n]) : vs = [.ref a, .int n] := by
  cases r with
  | cons h r =>
    cases r with
    | cons h2 r =>
      cases r
      cases h
      cases h2
      rfl

def Spr1 (a0 a1 a2 : Addr) (H : Hp) : Prop := ∃ (ds cs : List Int) (st tn : Int), H a0 = some (.dK [(.inr "deep", .ref a1), (.inr "cells", .ref a2), (.inr "stir", .int st), (.inr "turn", .int tn)]) ∧ H a1 = some (.lst (ds.map V.int)) ∧ H a2 = some (.lst (cs.map V.int)) ∧ cs ≠ [] ∧ st.natAbs < 2 ^ 64
def F3 (a0 a1 a2 : Addr) : Addr → Prop := fun a => a = a0 ∨ a = a1 ∨ a = a2
def PX1 (a0 a1 a2 : Addr) : APr := fun F SI => (F = F3 a0 a1 a2 ∧ SI = Spr1 a0 a1 a2) ∧ a1 ≠ a2
theorem dp_ints (ds : List Int) : DpAll K H (ds.map V.int) (ds.map PyData.int) := by
  induction ds with
  | nil => exact .nil
  | cons d r ih => exact .cons (.int d) ih
theorem shaped_ints (ds : List Int) : SeqAt.shaped (.list (ds.map PyData.int)) = true := by
  have h1 : PyData.canLayAll0 (ds.map PyData.int) = true := by
    induction ds with
    | nil => rfl
    | cons d r ih => rw [List.map_cons, PyData.canLayAll0.eq_def]; exact Bool.and_eq_true_iff.mpr ⟨rfl, ih⟩
  have h2 : PyData.depthAll (ds.map PyData.int) = 0 := by
    clear h1
    induction ds with
    | nil => rfl
    | cons d r ih => rw [List.map_cons, PyData.depthAll.eq_def]; show max 0 _ = 0; rw [ih]; rfl
  unfold SeqAt.shaped
  rw [PyData.canLay0.eq_def, PyData.depth.eq_def]
  show (PyData.canLayAll0 _ && decide (PyData.depthAll _ + 1 ≤ 64)) = true
  rw [h1, h2]; rfl
theorem eqv_nil (ds : List PyData) : PyData.eqv (.list ds) (.list []) = ds.isEmpty := by cases ds <;> rfl
theorem upd_keep {F : Addr → Prop} {p : Addr} {o : HO} (hp : F p) : ∀ a u, ¬ F a → H a = some u → upd H p o a = some u := fun a u f h => by
  rw [upd_ne (by rintro rfl; exact f hp)]; exact h
theorem new_keep {F : Addr → Prop} {p : Addr} {o : HO} (hp : H p = none) : ∀ a u, ¬ F a → H a = some u → upd H p o a = some u := fun a u f h => by
  rw [upd_ne (ne_of_none h hp)]; exact h
theorem keep_tr {F : Addr → Prop} {H1 H2 : Hp} (h1 : ∀ a u, ¬ F a → H a = some u → H1 a = some u) (h2 : ∀ a u, ¬ F a → H1 a = some u → H2 a = some u) : ∀ a u, ¬ F a → H a = some u → H2 a = some u := fun a u f h => h2 a u f (h1 a u f h)
theorem last_int {ds : List Int} (h : ds ≠ []) : ∃ l c, ds = l ++ [c] := ⟨ds.dropLast, ds.getLast h, (List.dropLast_concat_getLast h).symm⟩
theorem atI_last (l : List Int) (c : Int) : atI ((l ++ [c]).map V.int) (-1) = some (.int c) := by
  unfold atI ixN
  rw [List.length_map, List.length_append, List.length_singleton, if_neg (by omega), if_pos (by omega)]
  show ((l ++ [c]).map V.int)[(-1 + ((l.length + 1 : Nat) : Int)).toNat]? = _
  rw [show (-1 + ((l.length + 1 : Nat) : Int)).toNat = l.length by omega, List.getElem?_map, List.getElem?_append_right (Nat.le_refl _), Nat.sub_self]
  rfl
theorem ixN_last (l : List Int) (c : Int) : ixN ((l ++ [c]).map V.int).length (-1) = some l.length := by
  unfold ixN
  rw [List.length_map, List.length_append, List.length_singleton, if_neg (by omega), if_pos (by omega)]
  exact congrArg some (by omega)
theorem set_last (l : List Int) (c e : Int) : ((l ++ [c]).map V.int).set l.length (.int e) = (l ++ [e]).map V.int := by
  rw [List.map_append, List.map_append, List.set_append_right _ _ (by rw [List.length_map]; exact Nat.le_refl _), List.length_map, Nat.sub_self]
  rfl
theorem pop_last (l : List Int) (c : Int) : ((l ++ [c]).map V.int)[((l ++ [c]).map V.int).length - 1]? = some (.int c) := by
  rw [List.length_map, List.length_append, List.length_singleton, Nat.add_sub_cancel, List.getElem?_map, List.getElem?_append_right (Nat.le_refl _), Nat.sub_self]
  rfl
theorem drop_last (l : List Int) (c : Int) : ((l ++ [c]).map V.int).dropLast = l.map V.int := by
  rw [List.map_append]; exact List.dropLast_concat
theorem at_mod {cs : List Int} (t : Int) (h : cs ≠ []) : ∃ c : Int, atI (cs.map V.int) (t % ((cs.map V.int).length : Int)) = some (.int c) := by
  have hl : 0 < (cs.length : Int) := by
    have := List.length_pos_iff.mpr h
    omega
  have h0 := Int.emod_nonneg t (show (cs.length : Int) ≠ 0 by omega)
  have h1 := Int.emod_lt_of_pos t hl
  rw [List.length_map]
  have hb : (t % (cs.length : Int)).toNat < cs.length := by omega
  refine ⟨cs[(t % (cs.length : Int)).toNat], ?_⟩
  unfold atI ixN
  rw [List.length_map, if_pos h0, if_pos h1]
  show (cs.map V.int)[(t % (cs.length : Int)).toNat]? = _
  rw [List.getElem?_map, List.getElem?_eq_getElem hb]
  rfl
theorem mod_small (x : Int) {m : Int} (h : 0 < m) (h2 : m ≤ 2 ^ 64) : -2 ^ 64 < x % m ∧ x % m < 2 ^ 64 := by
  have h0 := Int.emod_nonneg x (show m ≠ 0 by omega)
  have h1 := Int.emod_lt_of_pos x h
  exact ⟨by omega, by omega⟩
end Eng

namespace Eng
open PySem PySem.Spec PyProof.Rows L2
open Evl (Ex)
def asObj (a : Addr) (l : List D) : D → T (List D)
  | .obj b => if b = a then .ret l else .fail
  | _ => .fail
section
variable {X : Cx} {A : Act} {asc : Addr} {ns : List Int} {a : Expr} {wa : Env → T D} {p2 pos : Pos}
theorem r_script {j : Nat} {pj : Pos} (hA : ∀ H, A.SI H → SqL X.K H asc (ns.map V.int)) (ha : PE X a (rd X.K A wa)) : PE X (.Subscript a (.Slice none (some (.Constant (.int 63) j pj)) none p2) pos) (rdN X.K A (dU (asObj asc ((ns.take 63).map D.int)) wa)) := (pe_slice sl_list ha po_none (po_some pe_int)).imp fun σ H Q h => by
  obtain ⟨G, env, R, h⟩ := h
  refine ⟨G, env, R, wp_imp (wp_bind.mp h) fun d q v G1 H1 e1 r1 => ?_⟩
  cases d with
  | obj b =>
    have q2 : wp (if b = asc then T.ret ((ns.take 63).map D.int) else T.fail) _ _ := q
    split at q2
    · rename_i hb
      subst hb
      cases r1
      refine ⟨63, rfl, b, _, rfl, hA _ e1.si, fun r hr => ?_⟩
      refine q2 r _ _ _ (e1.trans (e1.refl'.allocO hr)) (e1.dn hr) (e1.refl'.gnone hr) upd_same ?_
      have e : cutV (ns.map V.int) none (some 63) = ((ns.take 63).map V.int) := by
        unfold cutV
        rw [HT.sIx_none, show HT.sIx (ns.map V.int).length (ns.map V.int).length (some 63) = min 63 (ns.map V.int).length from HT.sIx_nat _ _ 63]
        rw [List.drop_zero, Nat.sub_zero, List.map_take, ← List.take_take, List.take_length]
      rw [e]
      clear q2 q h
      induction ns.take 63 with
      | nil => exact .nil
      | cons x l ih => exact .cons (.int x) ih
    · exact q2.elim
  | _ => exact q.elim
end
section
variable {X : Cx} {A : Act}
abbrev KW := List (Key × (Env → T D))
def trsOf (K : PySem.W.Frag) (A : Act) (l : KW) : List (TE × TE) := l.map fun kw => (tC (kV kw.1), rd K A kw.2)
def dAll : List (Env → T D) → Env → T (List D)
  | [] => dNil
  | w :: r => dCons w (dAll r)
theorem tPairs_of {K : PySem.W.Frag} : ∀ (l : KW) (σ : L2.St) (H : Hp) (Q : List (V × V) → Hp → Prop) (G : Hp) (env : Env), Rel K A G σ env H →
    wp (dAll (l.map (·.2)) env) (fun ds => ∀ vs G' H', Ext A G H G' H' → RpAll K G' vs ds → vs.length = l.length → Q ((l.map fun kw => kV kw.1).zip vs) H') A.E → tPairs (trsOf K A l) σ H Q
  | [], σ, H, Q, G, env, R, h => h [] G H R.st .nil rfl
  | (k, w) :: l, σ, H, Q, G, env, R, h => by
    refine ⟨G, env, R, wp_imp (wp_bind.mp h) fun d h1 v G1 H1 e1 r1 => ?_⟩
    refine tPairs_of l σ H1 _ G1 env (R.ext e1) (wp_imp (wp_bind.mp h1) fun ds h2 vs G2 H2 e2 r2 l2 => ?_)
    exact h2 (v :: vs) G2 H2 (e1.trans e2) (.cons (r1.mono e2.gg) r2) (congrArg Nat.succ l2)
theorem dd_nil {pos : Pos} : PPs X pos [] [] (trsOf X.K A []) := pps_nil
theorem dd_str {pos : Pos} {k : Str} {j : Nat} {pk : Pos} {v : Expr} {w : Env → T D} {ks : List (Option Expr)} {vs : List Expr} {l : KW} (hv : PE X v (rd X.K A w)) (h : PPs X pos ks vs (trsOf X.K A l)) : PPs X pos (some (.Constant (.str k) j pk) :: ks) (v :: vs) (trsOf X.K A ((.inr k, w) :: l)) :=
  pps_cons pe_str hv h
theorem dd_int {pos : Pos} {k : Int} {j : Nat} {pk : Pos} {v : Expr} {w : Env → T D} {ks : List (Option Expr)} {vs : List Expr} {l : KW} (hv : PE X v (rd X.K A w)) (h : PPs X pos ks vs (trsOf X.K A l)) : PPs X pos (some (.Constant (.int k) j pk) :: ks) (v :: vs) (trsOf X.K A ((.inl k, w) :: l)) :=
  pps_cons pe_int hv h
theorem putK_new (kvs : List (Key × V)) (k : Key) (v : V) (h : k ∉ kvs.map (·.1)) : putK kvs k v = kvs ++ [(k, v)] := by
  unfold putK
  rw [if_neg]
  intro z
  rw [List.any_eq_true] at z
  obtain ⟨x, h1, h2⟩ := z
  exact h (List.mem_map.mpr ⟨x, h1, of_decide_eq_true h2⟩)
theorem mergeK_nd : ∀ (more kvs : List (Key × V)), ((kvs ++ more).map (·.1)).Nodup → mergeK kvs more = kvs ++ more
  | [], kvs, _ => by rw [List.append_nil]; rfl
  | (k, v) :: more, kvs, h => by
    have e : mergeK kvs ((k, v) :: more) = mergeK (putK kvs k v) more := rfl
    rw [e, putK_new kvs k v, mergeK_nd more]
    · rw [List.append_assoc]; rfl
    · rw [List.append_assoc]; exact h
    · intro z
      rw [List.map_append, List.nodup_append] at h
      exact h.2.2 k z k (by simp) rfl
theorem zip_fst {α β : Type} : ∀ (l : List α) (m : List β), l.length = m.length → (l.zip m).map (·.1) = l
  | [], _, _ => rfl
  | _ :: _, [], h => by cases h
  | a :: l, b :: m, h => by rw [List.zip_cons_cons, List.map_cons, zip_fst l m (Nat.succ.inj h)]
theorem zip_map1 {α β γ : Type} (f : α → γ) : ∀ (l : List α) (m : List β), (l.zip m).map (fun p => (f p.1, p.2)) = (l.map f).zip m
  | [], _ => rfl
  | _ :: _, [] => rfl
  | a :: l, b :: m => by rw [List.zip_cons_cons, List.map_cons, List.map_cons, List.zip_cons_cons, zip_map1 f l m]
/-- {k: v, ..} -/
def dDct (l : KW) : Env → T D := fun env => dAll (l.map (·.2)) env >>= fun ds => T.ret (.dct (l.map (·.1)) ds)
theorem r_dct {pos : Pos} {keys : List (Option Expr)} {values : List Expr} (l : KW) (h : PPs X pos keys values (trsOf X.K A l)) (h1 : (keys.all fun x => x.isSome) = true) (h2 : keys.length = values.length) (h3 : keys ≠ []) (h4 : keys.length ≤ 15) (h5 : l.length ≤ 15) (h6 : (l.map (·.1)).Nodup) :
    PE X (.Dict keys values pos) (rd X.K A (dDct l)) := (pe_disp h h1 h2 h3 h4).imp fun σ H Q q => by
  obtain ⟨G, env, R, q⟩ := q
  intro p hp
  have e1 : Ext A G H G (upd H p (.dK [])) := R.st.allocO hp
  refine tPairs_of l σ _ _ G env (R.ext e1) (wp_imp (wp_bind.mp q) fun ds h vs G2 H2 e2 r2 l2 => ?_)
  have nf := R.st.nf hp
  have gp : G2 p = none := by
    cases z : G2 p with
    | none => rfl
    | some o =>
      rcases e2.new p o z with y | y
      · rw [R.st.gnone hp] at y; cases y
      · rw [upd_same] at y; cases y
  have hp2 : H2 p = some (.dK []) := e2.keep p _ nf upd_same
  refine ⟨hp2, (l.map (·.1)).zip vs, ?_, ?_, ?_⟩
  · rw [zip_map1, List.map_map]; rfl
  · rw [List.length_zip, List.length_map]; omega
  rw [mergeK_nd _ [] (by rw [List.nil_append, zip_fst _ _ (by rw [List.length_map, l2])]; exact h6), List.nil_append]
  have gu : ∀ u, Ex G2 (upd G2 p u) := fun u => Ex.new gp
  refine h (.ref p) (upd G2 p (.dK ((l.map (·.1)).zip vs))) _ ⟨e2.gg.trans (gu _), fun b o hb => ?_, fun b o f hb => ?_, fun b o hb => ?_, R.st.si, Ext.si_upd e2.si nf⟩ (.dct upd_same (by rw [List.length_map, l2]) (r2.mono (gu _)))
  · by_cases z : b = p
    · subst z; rw [upd_same] at hb ⊢; exact hb
    · rw [upd_ne z] at hb ⊢; exact e2.gh b o hb
  · rw [upd_ne (ne_of_none hb hp)]
    exact (e1.trans e2).keep b o f hb
  · by_cases z : b = p
    · subst z; exact .inr hp
    · rw [upd_ne z] at hb; exact (e1.trans e2).new b o hb
end
end Eng

namespace Eng
open PySem PySem.Spec PyProof.Rows L2
open Evl (Ex)
def cst (d : D) : Env → T D := fun _ => T.ret d
def gV (i : Nat) : Env → T D := fun env => getV env i
def gB (i : Nat) : Env → T D := fun env => getB env i
def dLst (w : Env → T (List D)) : Env → T D := fun env => w env >>= fun ds => T.ret (D.lst ds)
theorem pickLen {α : Type} (o : List Nat) {n m : Nat} (h : (o.length == m && o.all fun i => decide (i < n)) = true) : ∀ l : List α, l.length = n → (pick o l).length = m := fun l hl => by
  obtain ⟨h2, h3⟩ := Bool.and_eq_true_iff.mp h
  rw [← eq_of_beq h2]
  have key : ∀ i ∈ o, i < l.length := fun i hi => by rw [hl]; exact of_decide_eq_true (List.all_eq_true.mp h3 i hi)
  clear h h2 h3
  unfold pick
  induction o with
  | nil => rfl
  | cons i r ih =>
    rw [List.filterMap_cons, List.getElem?_eq_getElem (key i (by simp))]
    exact congrArg Nat.succ (ih fun j hj => key j (by simp [hj]))
section
variable {X : Cx} {A : Act} {e a : Expr} {wa wb : Env → T D} {pos p : Pos}
theorem toD {w : Env → T (List D)} (h : PE X e (rdN X.K A w)) : PE X e (rd X.K A (dLst w)) := toL h
theorem locT {N : List Str} {s : Shared} {H : Hp} {scope : Scope} {env : PySem.Env} {fp : List Addr} {x : Str} (h : scope.names.lookup x = some .local ∨ scope.names.lookup x = some .cell := by first | exact .inl rfl | exact .inr rfl) (he : env.scope = scope := by rfl) : Loc env.scope x := by
  rw [he]; exact h
def D.tyN : D → Option String
  | .non => some "NoneType"
  | .bl _ => some "bool"
  | .int _ => some "int"
  | .str _ => some "str"
  | .tup _ => some "tuple"
  | .lst _ => some "list"
  | .dct _ _ => some "dict"
  | .obj _ => none
def isiD (t : String) : D → T D := fun d => match d.tyN with
  | some s => (match kitB s t with
    | some r => T.ret (.bl r)
    | none => T.fail)
  | none => T.fail
theorem sqT_ty {K : PySem.W.Frag} {H : Hp} {a : Addr} {xs : List V} (h : SqT K H a xs) : TyX K H (.ref a) (.type "tuple") := by
  rcases h with h | ⟨o, its, n, h1, h2, _⟩
  · rcases h with h | ⟨o, h⟩
    · exact .base (.tup h)
    · exact .fTuple h
  · exact .kTuple h1 h2
theorem Rq.ty {K : PySem.W.Frag} {G H : Hp} {v : V} {d : D} {s : String} (h : Rq K A G H v d) (g : Ex G H) (e : d.tyN = some s) : TyX K H v (.type s) := by
  cases d with
  | non => cases e; rw [h.non]; exact .base .non
  | bl b => cases e; rw [h.bl]; exact .base (.bl b)
  | int i => cases e; rw [h.int]; exact .base (.int i)
  | str z => cases e; rw [h.str]; exact .base (.str z)
  | tup l => cases e; obtain ⟨p, vs, rfl, h1, _⟩ := h.tup g; exact sqT_ty h1
  | lst l => cases e; obtain ⟨p, vs, rfl, h1, _⟩ := h.lst g; exact .base (.lst h1)
  | dct ks l => cases e; obtain ⟨p, vs, rfl, h1, _⟩ := h.dct g; exact .base (.dK h1)
  | obj b => cases e
theorem r_isi {x : Str} {t : String} {px : Pos} (hg : Gl X "isinstance") (hm : X.mg "isinstance" = none) (hg2 : Gl X x) (hm2 : X.mg x = none) (hv2 : bootBuiltins x = some (.type t)) (ha : PE X a (rdB X.K A wa)) (hn : x ≠ "__name__" := by decide) (hd : (x == ("__debug__" : Str)) = false := by decide)
    (he : starEach [a, .Name x px] X.env = (false, eval a X.env) :: starEach [.Name x px] X.env := by rfl) (he2 : starEach [.Name x px] X.env = (false, eval (.Name x px) X.env) :: starEach [] X.env := by rfl) (hpl : (backTo pos (starEach [.Name x px] X.env)).any (·.1) = false := by rfl) :
    PE X (.Call (.Name "isinstance" p) [a, .Name x px] [] pos) (rd X.K A (dU (isiD t) wa)) :=
  (pe_callB call_isi hg hm (by decide +kernel) (pa_cons ha (pa_cons (pe_bltn hg2 hm2 hv2 (v := .ty t) rfl hn hd) pa_nil he2) he) (by decide) (by decide) he hpl).imp fun σ H Q h => by
  obtain ⟨G, env, R, h⟩ := h
  refine ⟨G, env, R, wp_imp (wp_bind.mp h) fun d q v G1 H1 e1 r1 => ?_⟩
  unfold isiD at q
  split at q
  · rename_i s hs
    split at q
    · rename_i r hr
      exact ⟨_, _, _, _, r, rfl, .ty t, r1.ty e1.gh hs, kit_ty hr, q _ G1 H1 e1 (.bl r)⟩
    · exact q.elim
  · exact q.elim
end
mutual
def chkV (K : PySem.W.Frag) : Value → D → Bool
  | .none, .non => true
  | .bool b, .bl c => b == c
  | .int i _, .int j => decide (i = j)
  | .str x _, .str y => decide (x = y)
  | .ref a, .tup ds => (match K.lookup a with
    | some ⟨.type c, _, .seq its _, _⟩ => decide (c = "tuple") && (decide (its.size ≤ sizeLine) && chkVs K its.toList ds)
    | _ => false)
  | _, _ => false
def chkVs (K : PySem.W.Frag) : List Value → List D → Bool
  | [], [] => true
  | u :: us, d :: ds => chkV K u d && chkVs K us ds
  | _, _ => false
end
mutual
theorem chkV_ok {K : PySem.W.Frag} : ∀ (d : D) {u : Value}, chkV K u d = true → ∃ v, RelV v u ∧ ∀ G, Rp K G v d
  | .non, u, h => by
    cases u <;> first | exact ⟨.non, rfl, fun _ => .non⟩ | (unfold chkV at h; cases h)
  | .bl c, u, h => by
    cases u <;> first | (rename_i b; unfold chkV at h; have e : b = c := eq_of_beq h; subst e; exact ⟨.bl b, rfl, fun _ => .bl b⟩) | (unfold chkV at h; cases h)
  | .int j, u, h => by
    cases u <;> first | (rename_i i t; unfold chkV at h; have e : i = j := of_decide_eq_true h; subst e; exact ⟨.int i, ⟨t, rfl⟩, fun _ => .int i⟩) | (unfold chkV at h; cases h)
  | .str j, u, h => by
    cases u <;> first | (rename_i i t; unfold chkV at h; have e : i = j := of_decide_eq_true h; subst e; exact ⟨.str i, ⟨t, rfl⟩, fun _ => .str i⟩) | (unfold chkV at h; cases h)
  | .tup ds, u, h => by
    cases u with
    | ref a =>
      unfold chkV at h
      cases q : K.lookup a with
      | none => rw [q] at h; cases h
      | some o =>
        obtain ⟨oc, od, dt, sl⟩ := o
        rw [q] at h
        cases oc with
        | type c =>
          cases dt with
          | seq its n =>
            obtain ⟨h1, h2⟩ := He.ba (show (decide (c = "tuple") && (decide (its.size ≤ sizeLine) && chkVs K its.toList ds)) = true from h)
            obtain ⟨h3, h4⟩ := He.ba h2
            obtain ⟨vs, r1, r2⟩ := chkVs_ok ds h4
            exact ⟨.ref a, rfl, fun G => .tup (.inr ⟨_, its, n, q, congrArg Value.type (of_decide_eq_true h1), rfl, of_decide_eq_true h3, r1⟩) (r2 G)⟩
          | _ => cases h
        | _ => cases dt <;> cases h
    | _ => unfold chkV at h; cases h
  | .lst _, u, h => by cases u <;> (unfold chkV at h; cases h)
  | .dct _ _, u, h => by cases u <;> (unfold chkV at h; cases h)
  | .obj _, u, h => by cases u <;> (unfold chkV at h; cases h)
theorem chkVs_ok {K : PySem.W.Frag} : ∀ (ds : List D) {us : List Value}, chkVs K us ds = true → ∃ vs, Vals vs us ∧ ∀ G, RpAll K G vs ds
  | [], us, h => by
    cases us with
    | nil => exact ⟨[], .nil, fun _ => .nil⟩
    | cons u us => unfold chkVs at h; cases h
  | d :: ds, us, h => by
    cases us with
    | nil => unfold chkVs at h; cases h
    | cons u us =>
      unfold chkVs at h
      obtain ⟨h1, h2⟩ := He.ba h
      obtain ⟨v, r1, r2⟩ := chkV_ok d h1
      obtain ⟨vs, r3, r4⟩ := chkVs_ok ds h2
      exact ⟨v :: vs, .cons r1 r3, fun G => .cons (r2 G) (r4 G)⟩
end
/-- the module's name x stands for d -/
def chkG (K : PySem.W.Frag) (x : Str) (d : D) : Bool := match PySem.W.nsIn K mainGlobals x with
  | some (some u) => chkV K u d
  | _ => false
theorem chkG_ok {K : PySem.W.Frag} {h : Heap} {mg : Str → Option Value} {x : Str} {d : D} (X : K.In h) (G : h.Ns mainGlobals mg) (c : chkG K x d = true) : Gc K mg x d := by
  unfold chkG at c
  split at c
  · rename_i u e
    obtain ⟨v, r1, r2⟩ := chkV_ok d c
    exact ⟨v, u, PySem.W.mg_of X G e, r1, r2⟩
  · cases c
/-- a dict of the module with text keys -/
def chkEs (K : PySem.W.Frag) : List DictEntry → List (Str × D) → Bool
  | [], [] => true
  | e :: es, t :: ts => (match e.key with
    | .str x _ => decide (x = t.1)
    | _ => false) && (chkV K e.val t.2 && chkEs K es ts)
  | _, _ => false
theorem chkEs_ok {K : PySem.W.Frag} : ∀ (ts : List (Str × D)) {es : List DictEntry}, chkEs K es ts = true → ∀ z : Str,
    (∃ e v d, es.find? (·.key.isStr z) = some e ∧ ts.lookup z = some d ∧ RelV v e.val ∧ ∀ G, Rp K G v d) ∨ (es.find? (·.key.isStr z) = none ∧ ts.lookup z = none ∧ es.any (·.refKey) = false)
  | [], es, h, z => by
    cases es with
    | nil => exact .inr ⟨rfl, rfl, rfl⟩
    | cons e es => unfold chkEs at h; cases h
  | t :: ts, es, h, z => by
    cases es with
    | nil => unfold chkEs at h; cases h
    | cons e es =>
      unfold chkEs at h
      obtain ⟨h1, h2⟩ := He.ba h
      obtain ⟨h3, h4⟩ := He.ba h2
      cases ek : e.key with
      | str x tk =>
        rw [ek] at h1
        have ex : x = t.1 := of_decide_eq_true h1
        obtain ⟨tx, td⟩ := t
        subst ex
        have fe : (e :: es).find? (·.key.isStr z) = if x == z then some e else es.find? (·.key.isStr z) := by
          rw [List.find?_cons, ek]
          show (match x == z with | true => some e | false => _) = _
          cases x == z <;> rfl
        have le : ((x, td) :: ts).lookup z = if z == x then some td else ts.lookup z := by
          rw [List.lookup_cons]
          cases z == x <;> rfl
        by_cases hz : x = z
        · subst hz
          obtain ⟨v, r1, r2⟩ := chkV_ok td h3
          refine .inl ⟨e, v, td, ?_, ?_, r1, r2⟩
          · rw [fe, if_pos (beq_self_eq_true x)]
          · rw [le, if_pos (beq_self_eq_true x)]
        · have n1 : ¬ (x == z) = true := fun q => hz (eq_of_beq q)
          have n2 : ¬ (z == x) = true := fun q => hz (eq_of_beq q).symm
          rw [fe, le, if_neg n1, if_neg n2]
          rcases chkEs_ok ts h4 z with q | ⟨q1, q2, q3⟩
          · exact .inl q
          · refine .inr ⟨q1, q2, ?_⟩
            rw [List.any_cons, q3]
            unfold DictEntry.refKey
            rw [ek]; rfl
      | _ => rw [ek] at h1; cases h1
def chkD (K : PySem.W.Frag) (x : Str) (ts : List (Str × D)) : Bool := match PySem.W.nsIn K mainGlobals x with
  | some (some (.ref a)) => (match K.lookup a with
    | some ⟨_, _, .dict es _, _⟩ => chkEs K es.toList ts && decide (a = He.ga K x)
    | _ => false)
  | _ => false
/-- a dict of the module: what it holds -/
structure Kd (K : PySem.W.Frag) (w : World) (mg : Str → Option Value) (x : Str) (ts : List (Str × D)) : Prop where
  ex : ∃ a es n, mg x = some (.ref a) ∧ KDict K w a es n ∧ ∀ z : Str, (∃ u v d, PySem.W.nsIn K a z = some (some u) ∧ ts.lookup z = some d ∧ RelV v u ∧ ∀ G, Rp K G v d) ∨ (PySem.W.nsIn K a z = some none ∧ ts.lookup z = none)
theorem chkD_ok {K : PySem.W.Frag} {w : World} {h : Heap} {mg : Str → Option Value} {x : Str} {ts : List (Str × D)} (X : K.In h) (G : h.Ns mainGlobals mg) (t : ∃ es n, KDict K w (He.ga K x) es n) (c : chkD K x ts = true) : Kd K w mg x ts := by
  unfold chkD at c
  split at c
  · rename_i a e
    split at c
    · rename_i oc od es0 n0 sl q
      obtain ⟨c1, c2⟩ := He.ba c
      obtain rfl : a = He.ga K x := of_decide_eq_true c2
      obtain ⟨es, n, kd⟩ := t
      have q2 := kd.at_
      rw [q] at q2
      cases q2
      refine ⟨_, es0, n0, PySem.W.mg_of X G e, kd, fun z => ?_⟩
      have hn : PySem.W.nsIn K (He.ga K x) z = (match es0.toList.find? (·.key.isStr z) with
        | some e => some (some e.val)
        | none => if es0.toList.any (·.refKey) then none else some none) := by
        unfold PySem.W.nsIn
        rw [kd.at_]
        dsimp only
        cases es0.toList.find? (·.key.isStr z) <;> rfl
      rcases chkEs_ok ts c1 z with ⟨e2, v, d, h1, h2, h3, h4⟩ | ⟨h1, h2, h3⟩
      · exact .inl ⟨e2.val, v, d, by rw [hn, h1], h2, h3, h4⟩
      · exact .inr ⟨by rw [hn, h1, h3]; rfl, h2⟩
    · cases c
  · cases c
def kget (ts : List (Str × D)) (x y : D) : T D := match x with
  | .str z => T.ret ((ts.lookup z).getD y)
  | _ => T.fail
section
variable {X : Cx} {A : Act} {e f : Expr} {we wf : Env → T D} {p apos cpos : Pos} {x : Str} {ts : List (Str × D)}
/-- D.get(k, y) of such a dict -/
theorem r_kget2 (kd : Kd X.K X.w X.mg x ts) (hg : Gl X x) (he : PE X e (rd X.K A we)) (hf : PE X f (rd X.K A wf)) (m : M2 X (.Name x p) "get" apos e f cpos := by exact ⟨rfl, rfl, rfl, rfl⟩) (hd : (x == ("__debug__" : Str)) = false := by decide) :
    PE X (.Call (.Attribute (.Name x p) "get" apos) [e, f] [] cpos) (rd X.K A (dB (kget ts) we wf)) := by
  obtain ⟨a, es, n, h1, h2, h3⟩ := kd.ex
  refine ⟨fun pins s σ H Q I h => ?_⟩
  obtain ⟨G, env, R, h⟩ := h
  refine wpAny_Call_method m.base m.few m.line PySem.F.plainAttrs_dict PySem.F.slot_dict_get PySem.F.type_dict_get (ld_glob I hg h1 ⟨kd_type h2 I, (PySem.W.mapOf_K (prog := X.prog) (w := X.w) I.kIn h2.at_ h2.lit).noDict, ?_⟩ hd)
  rw [m.trees]
  refine Calls.callWith_builtin rfl (Calls.evalArgs_plain (Calls.spliced_cons (thn (he.run pins s σ H _ I ⟨G, env, R, wp_imp (wp_bind.mp h) fun d q v G1 H1 e1 r1 => (⟨d, G1, e1, r1, q⟩ : ∃ d G1, Ext A G H G1 H1 ∧ Rp X.K G1 v d ∧ wp (wf env >>= fun y => kget ts d y) (fun d => ∀ v G' H', Ext A G H G' H' → Rp X.K G' v d → Q v H') A.E)⟩) fun u1 s1 ⟨v, H1, I1, rv, d, G1, e1, r1, q⟩ =>
    Calls.spliced_cons (thn (hf.run pins s1 σ H1 _ I1 ⟨G1, env, R.ext e1, wp_imp (wp_bind.mp q) fun d2 q v2 G2 H2 e2 r2 => (⟨d2, G2, e2, r2, q⟩ : ∃ d2 G2, Ext A G1 H1 G2 H2 ∧ Rp X.K G2 v2 d2 ∧ wp (kget ts d d2) (fun d => ∀ v G' H', Ext A G H G' H' → Rp X.K G' v d → Q v H') A.E)⟩) fun u2 s2 ⟨v2, H2, I2, rv2, d2, G2, e2, r2, q⟩ => Calls.spliced_nil ?_))))
  cases d with
  | str z =>
    have q : ∀ v G' H', Ext A G H G' H' → Rp X.K G' v ((ts.lookup z).getD d2) → Q v H' := q
    cases r1
    obtain ⟨tk, rfl⟩ := rv
    refine call_meetsIn PySem.F.slot_dict_get (kd_type h2 I2) PySem.F.entry_dict_get (PySem.F.args_dict_get_3 _ _ _) (meets_dict_get_default (strKind X.prog X.w) a (strKind_is X.prog X.w z tk) h2.low u2) ⟨_, PySem.W.mapOf_K (prog := X.prog) I2.kIn h2.at_ h2.lit, ?_⟩
    rcases h3 z with ⟨u, v0, d0, g1, g2, g3, g4⟩ | ⟨g1, g2⟩
    · rw [PySem.W.find_K h2.at_ g1]
      rw [g2] at q
      exact ⟨v0, H2, I2.tok _, g3, q v0 G2 H2 (e1.trans e2) (g4 G2)⟩
    · rw [PySem.W.find_K h2.at_ g1]
      rw [g2] at q
      exact ⟨v2, H2, I2.tok _, rv2, q v2 G2 H2 (e1.trans e2) r2⟩
  | _ => exact q.elim
end
end Eng

namespace Eng
open PySem PySem.Spec PyProof.Rows L2
open Evl (Ex)
theorem hr64 {k : Nat} {A : Around} (h : Room k A) : A.units + 64 < cLine := by have := h.un; omega
theorem hr65 {k : Nat} {A : Around} (h : Room k A) : A.units + 65 < cLine := by have := h.un; omega
theorem hr66 {k : Nat} {A : Around} (h : Room k A) : A.units + 66 < cLine := by have := h.un; omega
/-- the heap that tracks the script alone, or nothing -/
structure Start (P : Program) (w : World) (K : PySem.W.Frag) (s : Shared) (a : Addr) (ns : List Int) (H : Hp) : Prop where
  only : Only H
  seq : SqL K H a (ns.map V.int)
  ok : HOk P w H s.heap
  at_ : ∀ b, H b ≠ none → b = a
  out : H a ≠ none → K.lookup a = none
theorem start_ex {P : Program} {w : World} {K : PySem.W.Frag} {s : Shared} {a : Addr} {vs : List Value} {ns : List Int} (KX : K.In s.heap) (ha : s.heap.get? a = some { cls := .type "list", data := .seq vs.toArray }) (hi : IntsAre vs ns) (hl : ns.length ≤ sizeLine) : ∃ H, Start P w K s a ns H := by
  have rv := vals_ints hi
  have ln : vs.toArray.size ≤ sizeLine := by rw [List.size_toArray, hi.length]; exact hl
  cases hk : K.lookup a with
  | some o =>
    obtain rfl := Option.some.inj (ha.symm.trans (KX a o hk))
    exact ⟨fun _ => none, fun _ => .inl rfl, .inr ⟨_, vs.toArray, _, hk, rfl, rfl, rfl, ln, rv⟩, (fun _ _ z => nomatch z), fun _ z => (z rfl).elim, fun z => (z rfl).elim⟩
  | none =>
    refine ⟨fun b => if b = a then some (.frz { cls := .type "list", data := .seq vs.toArray } (.lst (ns.map V.int))) else none, fun b => ?_, .inl (.inr ⟨_, if_pos rfl⟩), fun b u z => ?_, fun b z => Classical.byContradiction fun q => z (if_neg q), fun _ => hk⟩
    · by_cases q : b = a
      · exact .inr ⟨_, _, if_pos q⟩
      · exact .inl (if_neg q)
    · by_cases q : b = a
      · subst q
        obtain rfl := Option.some.inj ((if_pos rfl).symm.trans z)
        exact ⟨ha, by rw [List.length_map]; exact hl, vs, _, rv, ha⟩
      · have z' := (if_neg q).symm.trans z
        cases z'
theorem law_callG {P : Program} {w : World} {K : PySem.W.Frag} {mg mb : Str → Option Value} {k : Nat} {fa a : Addr} {fd : FuncData} {x : Str} {sp : Sp} {s : Shared} {vs : List Value} {ns : List Int}
    (KX : K.In s.heap) (hns : s.heap.Ns mainGlobals mg) (hb : s.heap.Ns builtinsNs mb) (hbb : ∀ x : Str, x ≠ "__name__" → mb x = bootBuiltins x) (hlim : s.heap.NoLimit) (hg : s.gens = #[])
    (ha : s.heap.get? a = some { cls := .type "list", data := .seq vs.toArray }) (hi : IntsAre vs ns) (hl : ns.length ≤ sizeLine) (hr : Room k callerA)
    (F : ∀ base : Heap, FnG P w K mg base k fa fd [x] sp) (hbind : ∀ (s : Shared) (u : Value), BindsTo s fd ⟨[u], []⟩ [(x, u)])
    (hsp : ∀ H : Hp, SqL K H a (ns.map V.int) → sp [.ref a] H (fun v _ => v = .bl true) fun _ _ _ => False) :
    codeAny (model P w) callerA (.call (.ref fa) ⟨[.ref a], []⟩) (fun r s' => r = .ok (.ret (.bool true)) ∧ OldK s.heap s'.heap ∧ s'.os = s.os ∧ AllBare s'.gens) s := by
  obtain ⟨H, S⟩ := start_ex (P := P) (w := w) KX ha hi hl
  have free : ∀ {b : Addr} {o : Obj}, s.heap.get? b = some o → b ≠ a → (hidT s.heap H).get? b = some o := fun {b o} e n => hidT_get e (Classical.byContradiction fun z => n (S.at_ b z))
  have notA : ∀ {b : Addr} {o : Obj} {es : Array DictEntry} {ep : Nat}, s.heap.get? b = some o → o.data = .dict es ep → b ≠ a := fun {b o es ep} e d z => by
    subst z
    obtain rfl := Option.some.inj (ha.symm.trans e)
    cases d
  have ns' : ∀ {b : Addr} {m : Str → Option Value}, s.heap.Ns b m → (hidT s.heap H).Ns b m := fun {b m} q => by
    obtain ⟨o, es, ep, e, d, r⟩ := q
    exact ⟨o, es, ep, free e (notA e d), d, r⟩
  have kin : K.In (hidT s.heap H) := fun b o e => by
    cases q : H b with
    | none => exact hidT_get (KX b o e) q
    | some u =>
      obtain rfl := S.at_ b (by rw [q]; exact fun z => nomatch z)
      rw [S.out (by rw [q]; exact fun z => nomatch z)] at e
      cases e
  obtain ⟨mc, l1, l2⟩ := hlim
  have env0 : Env0 P w K mg (hidT s.heap H) callerA [] s H := ⟨rfl, ⟨kin, ns' hns, ⟨mb, ns' hb, hbb⟩, ⟨mc, ns' l1, l2⟩⟩, fun b o e => of_hidT e, Nat.le_of_eq (hidT_size _ _), trivial, (fun b q => nomatch q), S.ok, .of_eq hg⟩
  refine codeAny_mono ((F (hidT s.heap H)).run callerA [] s H ⟨[.ref a], []⟩ [.ref a] [.ref a] _ _ hr rfl env0 (hbind s (.ref a)) (.cons rfl .nil) (hsp H S.seq)) fun r s' h => ?_
  match r, h with
  | .error e, h => exact False.elim h
  | .ok .next, h => exact False.elim h
  | .ok .brk, h => exact False.elim h
  | .ok .cont, h => exact False.elim h
  | .ok (.ret u), h =>
    obtain ⟨v, H', os, bare, un, ok', rv, q⟩ := h
    obtain rfl : v = .bl true := q
    obtain rfl : u = Value.bool true := rv
    refine ⟨rfl, OldK.of_keep fun b o e => ?_, os, bare⟩
    rcases S.only b with z | ⟨ob, xs, z⟩
    · exact un.keep b o e z (fun q => nomatch q) (fun q => nomatch q)
    · have z2 := un.frzs b ob _ z
      have e1 := (S.ok b _ z).1
      rw [e] at e1
      cases e1
      exact (ok' b _ z2).1
def spLaw (K : PySem.W.Frag) (n : Nat) : Sp := fun vs H Q _ => ∃ (a : Addr) (ns : List Int), vs = [.ref a] ∧ ns.length ≤ n ∧ SqL K H a (ns.map V.int) ∧ ∀ H', Q (.bl true) H'
def PXc (K : PySem.W.Frag) (asc : Addr) (ns : List Int) : APr := fun _ SI => ∀ H, SI H → SqL K H asc (ns.map V.int)
/-- the state in which the creator is called -/
theorem actC {K : PySem.W.Frag} {H : Hp} {asc : Addr} {ns : List Int} (h : SqL K H asc (ns.map V.int)) : ∃ A : Act, PXc K asc ns A.F A.SI ∧ (∀ c d, ¬ A.E c d) ∧ A.G0 = (fun _ => none) ∧ A.H0 = H ∧ A.SI H := by
  rcases h with h | h
  · refine ⟨⟨fun a => a = asc, fun H => Rd H asc (.lst (ns.map V.int)), fun H1 H2 e s => ?_, fun H1 s a f => ?_, fun _ => none, H, fun _ _ => False⟩, fun H1 s => .inl s, fun _ _ z => z, rfl, rfl, h⟩
    · unfold Rd at *
      rw [e asc rfl]; exact s
    · have f : a = asc := f
      subst f
      intro z
      rcases s with s | ⟨o, s⟩ <;> (rw [z] at s; cases s)
  · exact ⟨⟨fun _ => False, fun _ => SqL K H asc (ns.map V.int), fun _ _ _ s => s, fun _ _ _ f => f.elim, fun _ => none, H, fun _ _ => False⟩, fun H1 s => .inr h, fun _ _ z => z, rfl, rfl, .inr h⟩
section
variable {X : Cx}
theorem pe_ex {ι : Type} {e : Expr} {C : ι → Prop} {t : ι → TE} (h : ∀ i, C i → PE X e (t i)) : PE X e (fun σ H Q => ∃ i, C i ∧ t i σ H Q) := ⟨fun pins s σ H Q I q => by
  obtain ⟨i, c, q⟩ := q
  exact (h i c).run pins s σ H Q I q⟩
theorem pss_ex {ι : Type} {e : List Stmt} {C : ι → Prop} {t : ι → TS} (h : ∀ i, C i → PSs X e (t i)) : PSs X e (fun D σ H => ∃ i, C i ∧ t i D σ H) := ⟨fun pins s σ H D I q => by
  obtain ⟨i, c, q⟩ := q
  exact (h i c).run pins s σ H D I q⟩
end
section
variable {K : PySem.W.Frag} {J : Type} {PX : J → APr} {hd : J → Addr}
/-- from the creator's answer the draws' own -/
def MadeOf (K : PySem.W.Frag) (PX : J → APr) (hd : J → Addr) (d : D) : Prop := ∀ (G H : Hp) (v : V), Ex G H → Rp K G v d → ∃ (j : J) (F : Addr → Prop) (SI : Hp → Prop), v = .ref (hd j) ∧ PX j F SI ∧ SI H ∧ (∀ H1 H2 : Hp, (∀ a, F a → H2 a = H1 a) → SI H1 → SI H2) ∧ ∀ H1, SI H1 → ∀ a, F a → H1 a ≠ none
def tCr (K : PySem.W.Frag) (cr : Addr → List Int → List D → T D) : TE := fun σ H Q => ∃ p : Act × Addr × List Int, (PXc K p.2.1 p.2.2 p.1.F p.1.SI ∧ ∀ c d, ¬ p.1.E c d) ∧ rd K p.1 (dC (cr p.2.1 p.2.2) (dCons (gV 0) dNil)) σ H Q
def tRest (K : PySem.W.Frag) (PX : J → APr) (hd : J → Addr) (w : Addr → Env → T Out) : TS := fun Dn σ H => ∃ p : Act × J, (PX p.2 p.1.F p.1.SI ∧ ∀ c d, ¬ p.1.E c d) ∧ rdS K p.1 (w (hd p.2)) Dn σ H
def lawE (n : Nat) (a0 : Addr) : Env := (List.replicate n Sl.un).set 1 (.val (.obj a0))
theorem law_sem {N : List Str} {m : Nat} {cr : Addr → List Int → List D → T D} {w : Addr → Env → T Out} {vs : List V} {H : Hp} {Q : VK} {E : XK} (hN : 0 < N.length)
    (hmade : ∀ (a : Addr) (ns : List Int), ns.length ≤ m → wp (cr a ns [.obj a]) (MadeOf K PX hd) (fun _ _ => False)) (fin : ∀ a0 : Addr, wp (w a0 (lawE N.length a0)) (fun o => o = .rt (.bl true)) (fun _ _ => False)) (h : spLaw K m vs H Q E) :
    tSeq (tAsg (tCr K cr) (gName 1)) (tRest K PX hd w) { nx := fun _ H' => Q .non H', rt := Q } (L2.start N vs) H := by
  obtain ⟨a, ns, rfl, hl, hS, q⟩ := h
  obtain ⟨A, h1, h2, h3, h4, h5⟩ := actC hS
  have s0 : St1 A (fun _ => none) H := ⟨Ex.refl _, (fun _ _ z => nomatch z), fun _ _ _ z => z, fun _ _ z => .inl z, h5, h5⟩
  refine ⟨(A, a, ns), ⟨h1, h2⟩, fun _ => none, startE N.length [.obj a], rel_start s0 h3 h4 (fun _ _ => rfl) (.cons (.obj a) .nil) hN, ?_⟩
  show wp (dC (cr a ns) (dCons (gV 0) dNil) (startE N.length [.obj a])) _ A.E
  have e : dC (cr a ns) (dCons (gV 0) dNil) (startE N.length [.obj a]) = cr a ns [.obj a] := by
    unfold dC dCons gV getV startE
    rfl
  rw [e]
  refine wp_mono (hmade a ns hl) (fun d hd v G' H' e1 r => ?_) fun _ _ z => z.elim
  obtain ⟨j, F, SI, rfl, p1, p2, p3, p4⟩ := hd G' H' v e1.gh r
  refine ⟨(⟨F, SI, p3, p4, fun _ => none, H', fun _ _ => False⟩, j), ⟨p1, fun _ _ z => z⟩, fun _ => none, lawE N.length (_), ⟨⟨Ex.refl _, (fun _ _ z => nomatch z), fun _ _ _ z => z, fun _ _ z => .inl z, p2, p2⟩, fun _ _ => rfl, ?_, ?_, ?_⟩, wp_mono (fin _) (fun o ho => ?_) fun _ _ z => z⟩
  · unfold lawE L2.start
    simp only [List.length_set, List.length_replicate, List.length_append, List.length_map, List.length_singleton]
    omega
  · intro i s hi
    unfold lawE at hi
    by_cases h : i = 1
    · subst h
      rw [List.getElem?_set_self'] at hi
      rw [List.getElem?_replicate] at hi
      split at hi
      · rename_i hh
        cases hi
        refine ⟨_, List.getElem?_set_self ?_, .obj _⟩
        unfold L2.start
        simp only [List.length_append, List.length_map, List.length_replicate, List.length_singleton]
        omega
      · cases hi
    · rw [List.getElem?_set_ne (Ne.symm h), List.getElem?_replicate] at hi
      split at hi
      · cases hi; trivial
      · cases hi
  · intro i k p d e hi
    exfalso
    unfold lawE at hi
    by_cases h : i = 1
    · subst h
      rw [List.getElem?_set_self', List.getElem?_replicate] at hi
      split at hi <;> cases hi
    · rw [List.getElem?_set_ne (Ne.symm h), List.getElem?_replicate] at hi
      split at hi <;> cases hi
  · subst ho
    exact fun v G2 H2 e2 r2 => by cases r2; exact q H2
end
section
variable {P : Program} {w : World} {K : PySem.W.Frag} {mg : Str → Option Value} {base : Heap}
/-- THE RULE for the law's def -/
theorem law_fn {J : Type} {PX : J → APr} {hd : J → Addr} {k m : Nat} {f : Addr} {x : Str} {fd : FuncData} {st : Stmt} {N ps : List Str} {cr : Addr → List Int → List D → T D} {wl : Addr → Env → T Out} (hp : ps.length = 1) (F : FunD K x x (defArgs st) (defBody st) (defScope st) [] [] f fd) (S : FnScope N ps (defScope st)) (hN : 0 < N.length)
    (hmade : ∀ (a : Addr) (ns : List Int), ns.length ≤ m → wp (cr a ns [.obj a]) (MadeOf K PX hd) (fun _ _ => False)) (fin : ∀ a0 : Addr, wp (wl a0 (lawE N.length a0)) (fun o => o = .rt (.bl true)) (fun _ _ => False))
    (hbody : ∀ (f : Addr) (cdv : Value) (Ar : Around) (outer : List PySem.Env) (s : Shared) (H : Hp) (E : XK), Room k (Ar.deeper (envOfC x (defScope st) s.heap.objs.size f cdv)) → (Ar.deeper (envOfC x (defScope st) s.heap.objs.size f cdv)).guards = some [] →
      PSs (cxOf CX0 P w K mg base N x (defScope st) f cdv Ar outer s H E).nox (defBody st) (tSeq (tAsg (tCr K cr) (gName 1)) (tRest K PX hd wl))) :
    FnG P w K mg base (k + 1) f fd ps (spLaw K m) := by
  obtain ⟨oc, od, dV, kV, doc, pm, an, cdv, ct, osl, rfl, lk, hcd, _, _⟩ := F.ex
  refine fnG_of lk hcd S (fun vs H Q E h => ?_) fun Ar outer s H vs Q E hr hg h => ⟨_, hbody f cdv Ar outer s H E hr hg, law_sem hN hmade fin h⟩
  obtain ⟨a, ns, rfl, _⟩ := h
  exact hp.symm
end
/-- the end: the goal behind head_any -/
theorem walk_ofG {l : PySem.W.OpenLaw} {n k : Nat} {q : Program} {loose : List Str} {XP : (Str → Option Value) → Heap → Prop} {YP : World → Heap → Prop} {d : DefRec} {x : Str}
    (hn : l.most = some n) (hn2 : n ≤ sizeLine) (hdf : d.params.defaults = []) (hr : Room k callerA)
    (F : ∀ (w : World) (mg : Str → Option Value) (fa : Addr) (h : Heap), YP w h → h.Ns mainGlobals mg → mg d.name = some (.ref fa) →
      ∃ (K : PySem.W.Frag) (fd : FuncData), K.In h ∧ (∀ (s : Shared) (u : Value), BindsTo s fd ⟨[u], []⟩ [(x, u)]) ∧ ∀ base : Heap, FnG l.prog w K mg base k fa fd [x] (spLaw K n)) :
    PySem.W.WalkO q loose XP YP l.row.toRowW d [] (fun f vs => PySem.call f vs) := by
  refine Att.attach_call hn hdf fun w s₀ s₁ mg mb fa o pm cd doc a vs ns G Y ho hd hcd hmg hobj hints hlen hg => ?_
  obtain ⟨K, fd, KX, hb, hF⟩ := F w mg fa _ Y G.T.g hmg
  exact law_callG KX G.T.g G.T.b G.T.builtins G.T.nolimit hg hobj hints (Nat.le_trans hlen hn2) hr hF hb fun H hS => ⟨a, ns, rfl, hlen, hS, fun _ => rfl⟩
/-- the end behind k_head, k_fill -/
theorem walk_ofGK {l : PySem.W.OpenLaw} {n k : Nat} {q : Program} {loose : List Str} {XP : (Str → Option Value) → Heap → Prop} {YP : World → Heap → Prop} {d : DefRec} {K : Params → PySem.W.Frag} {x : Str}
    (hn : l.most = some n) (hn2 : n ≤ sizeLine) (hdf : d.params.defaults = []) (hr : Room k callerA) (hY : ∀ (w : World) (h : Heap), YP w h → (K w.params).In h)
    (F : ∀ (w : World) (mg : Str → Option Value) (fa : Addr) (h : Heap), (K w.params).In h → h.Ns mainGlobals mg → mg d.name = some (.ref fa) →
      ∃ fd : FuncData, (∀ (s : Shared) (u : Value), BindsTo s fd ⟨[u], []⟩ [(x, u)]) ∧ ∀ base : Heap, FnG l.prog w (K w.params) mg base k fa fd [x] (spLaw (K w.params) n)) :
    PySem.W.WalkO q loose XP YP l.row.toRowW d [] (fun f vs => PySem.call f vs) :=
  walk_ofG hn hn2 hdf hr fun w mg fa h Y G e => by
    obtain ⟨fd, h1, h2⟩ := F w mg fa h (hY w h Y) G e
    exact ⟨K w.params, fd, hY w h Y, h1, h2⟩
end Eng

namespace Eng
open PySem PySem.Spec PyProof.Rows L2
section
variable {w w1 w2 : Env → T D} {ws : Env → T (List D)} {u v : Env → T Out} {t t1 t2 : Env → T Bool} {env : Env}
@[simp] theorem ap_cst (d : D) : cst d env = T.ret d := rfl
@[simp] theorem ap_gV (i : Nat) : gV i env = getV env i := rfl
@[simp] theorem ap_gB (i : Nat) : gB i env = getB env i := rfl
@[simp] theorem ap_dLst {w : Env → T (List D)} : dLst w env = w env >>= fun ds => T.ret (D.lst ds) := rfl
@[simp] theorem ap_dNil : dNil env = T.ret [] := rfl
@[simp] theorem ap_dCons : dCons w ws env = w env >>= fun d => ws env >>= fun ds => T.ret (d :: ds) := rfl
@[simp] theorem ap_dTup : dTup ws env = ws env >>= fun ds => T.ret (.tup ds) := rfl
@[simp] theorem ap_dB {α : Type} (f : D → D → T α) : dB f w1 w2 env = w1 env >>= fun x => w2 env >>= fun y => f x y := rfl
@[simp] theorem ap_dBl : dBl t env = t env >>= fun b => T.ret (.bl b) := rfl
@[simp] theorem ap_dU {α : Type} (f : D → T α) : dU f w env = w env >>= f := rfl
@[simp] theorem ap_dC {α : Type} (f : List D → T α) : dC f ws env = ws env >>= f := rfl
@[simp] theorem ap_dCK (f : List D → T D) (o : List Nat) (zs : Env → T (List D)) : dCK f o ws zs env = ws env >>= fun us => zs env >>= fun vs => f (pick o (us ++ vs)) := rfl
@[simp] theorem ap_dNot : dNot t env = t env >>= fun b => T.ret (!b) := rfl
@[simp] theorem ap_dAnd : dAnd t1 t2 env = t1 env >>= fun b => if b = true then t2 env else T.ret false := rfl
@[simp] theorem ap_dOr : dOr t1 t2 env = t1 env >>= fun b => if b = true then T.ret true else t2 env := rfl
@[simp] theorem ap_dAndV : dAndV w1 w2 env = w1 env >>= fun d => truthD d >>= fun b => if b = true then w2 env else T.ret d := rfl
@[simp] theorem ap_dOrV : dOrV w1 w2 env = w1 env >>= fun d => truthD d >>= fun b => if b = true then T.ret d else w2 env := rfl
@[simp] theorem ap_dNotV : dNotV w env = w env >>= fun d => truthD d >>= fun b => T.ret (.bl (!b)) := rfl
@[simp] theorem ap_dIf {α : Type} (a b : Env → T α) : dIf t a b env = t env >>= fun c => if c = true then a env else b env := rfl
@[simp] theorem ap_dSeq : dSeq u v env = u env >>= fun o => match o with
  | .nx env' => v env'
  | o => T.ret o := rfl
@[simp] theorem ap_dSkip : dSkip env = T.ret (.nx env) := rfl
@[simp] theorem ap_dF (is : List Nat) : dF is u env = u (frzs is env) := rfl
@[simp] theorem ap_dRet : dRet w env = w env >>= fun d => T.ret (.rt d) := rfl
@[simp] theorem ap_dRetN : dRetN env = T.ret (.rt .non) := rfl
@[simp] theorem ap_dSet (i : Nat) : dSet i w env = w env >>= fun d => T.ret (.nx (env.set i (.val d))) := rfl
@[simp] theorem ap_dOwn (i : Nat) : dOwn i ws env = ws env >>= fun ds => T.ret (.nx (env.set i (.own (.lst ds)))) := rfl
@[simp] theorem ap_dDrop : dDrop w env = w env >>= fun _ => T.ret (.nx env) := rfl
@[simp] theorem ap_dFor (wi : Env → T (List D)) (f : D → Env → Option Env) : dFor wi f u env = wi env >>= fun ds => forT f u ds env := rfl
@[simp] theorem ap_dComp (wi : Env → T (List D)) (f : D → Env → Option Env) (vs : List Nat) : dComp wi f t w vs env = wi env >>= fun ds => compT f t w (wipeE env vs) ds := rfl
@[simp] theorem ap_dBrk : dBrk env = T.ret (.bk env) := rfl
@[simp] theorem ap_dCnt : dCnt env = T.ret (.ct env) := rfl
end
@[simp] theorem getV_zero (d : D) (r : Env) : getV (.val d :: r) 0 = T.ret d := rfl
@[simp] theorem getV_succ (s : Sl) (r : Env) (i : Nat) : getV (s :: r) (i + 1) = getV r i := rfl
@[simp] theorem getB_zero (d : D) (r : Env) : getB (.val d :: r) 0 = T.ret d := rfl
@[simp] theorem getB_zeroO (d : D) (r : Env) : getB (.own d :: r) 0 = T.ret d := rfl
@[simp] theorem getB_succ (s : Sl) (r : Env) (i : Nat) : getB (s :: r) (i + 1) = getB r i := rfl
@[simp] theorem ownL_zero (l : List D) (r : Env) : ownL (.own (.lst l) :: r) 0 = T.ret l := rfl
@[simp] theorem ownL_succ (s : Sl) (r : Env) (i : Nat) : ownL (s :: r) (i + 1) = ownL r i := rfl
@[simp] theorem tgName_ap (i : Nat) (d : D) (env : Env) : tgName i d env = some (env.set i (.val d)) := rfl
@[simp] theorem forT_nil (f : D → Env → Option Env) (b : Env → T Out) (env : Env) : forT f b [] env = T.ret (.nx env) := rfl
/-- a loop that goes through -/
theorem forT_fold {S : Type} (mk : S → Env) (step : S → D → S) {f : D → Env → Option Env} {b : Env → T Out} : ∀ (ds : List D) (s : S), (∀ s d, d ∈ ds → ∃ e, f d (mk s) = some e ∧ b e = T.ret (.nx (mk (step s d)))) → forT f b ds (mk s) = T.ret (.nx (mk (ds.foldl step s)))
  | [], s, _ => rfl
  | d :: r, s, h => by
    obtain ⟨e, h1, h2⟩ := h s d (by simp)
    show (match f d (mk s) with
      | none => T.fail
      | some env1 => b env1 >>= fun o => match o with
        | .nx env2 => forT f b r env2
        | .ct env2 => forT f b r env2
        | .bk env2 => T.ret (.nx env2)
        | .rt d => T.ret (.rt d)) = _
    rw [h1]
    show (b e >>= _) = _
    rw [h2]
    exact forT_fold mk step r _ fun s d hd => h s d (by simp [hd])
/-- a comprehension that makes a datum of each -/
theorem compT_map {α : Type} (p : D → Bool) (y : D → α) {f : D → Env → Option Env} {t : Env → T Bool} {w : Env → T α} {env : Env} : ∀ (ds : List D), (∀ d, d ∈ ds → ∃ e, f d env = some e ∧ t e = T.ret (p d) ∧ (p d = true → w e = T.ret (y d))) → compT f t w env ds = T.ret ((ds.filter p).map y)
  | [], _ => rfl
  | d :: r, h => by
    obtain ⟨e, h1, h2, h3⟩ := h d (by simp)
    have ih := compT_map p y r fun d hd => h d (by simp [hd])
    show (match f d env with
    | none => T.fail
    | some env1 => t env1 >>= fun b => if b = true then (w env1 >>= fun y => compT f t w env r >>= fun ys => T.ret (y :: ys)) else compT f t w env r) = _
    rw [h1]
    show (t e >>= _) = _
    rw [h2]
    show (if p d = true then _ else _) = _
    cases hp : p d with
    | true => rw [if_pos rfl, h3 hp, ret_bind, ih, ret_bind, List.filter_cons_of_pos hp, List.map_cons]
    | false => rw [if_neg (by simp), ih, List.filter_cons_of_neg (by simp [hp])]
theorem compT_ints {α : Type} (p : Int → Bool) (y : Int → α) {f : D → Env → Option Env} {t : Env → T Bool} {w : Env → T α} {env : Env} : ∀ (ns : List Int), (∀ n, n ∈ ns → ∃ e, f (.int n) env = some e ∧ t e = T.ret (p n) ∧ (p n = true → w e = T.ret (y n))) → compT f t w env (ns.map D.int) = T.ret ((ns.filter p).map y)
  | [], _ => rfl
  | d :: r, h => by
    obtain ⟨e, h1, h2, h3⟩ := h d (by simp)
    have ih := compT_ints p y r fun d hd => h d (by simp [hd])
    show (match f (.int d) env with
    | none => T.fail
    | some env1 => t env1 >>= fun b => if b = true then (w env1 >>= fun y => compT f t w env (r.map D.int) >>= fun ys => T.ret (y :: ys)) else compT f t w env (r.map D.int)) = _
    rw [h1]
    show (t e >>= _) = _
    rw [h2]
    show (if p d = true then _ else _) = _
    cases hp : p d with
    | true => rw [if_pos rfl, h3 hp, ret_bind, ih, ret_bind, List.filter_cons_of_pos hp, List.map_cons]
    | false => rw [if_neg (by simp), ih, List.filter_cons_of_neg (by simp [hp])]
@[simp] theorem add_ii (i j : Int) : addD (.int i) (.int j) = T.ret (.int (i + j)) := rfl
@[simp] theorem sub_ii (i j : Int) : subD (.int i) (.int j) = T.ret (.int (i - j)) := rfl
@[simp] theorem lt_ii (i j : Int) : ltD (.int i) (.int j) = T.ret (decide (i < j)) := rfl
@[simp] theorem le_ii (i j : Int) : leD (.int i) (.int j) = T.ret (decide (i ≤ j)) := rfl
@[simp] theorem gt_ii (i j : Int) : gtD (.int i) (.int j) = T.ret (decide (j < i)) := rfl
@[simp] theorem ge_ii (i j : Int) : geD (.int i) (.int j) = T.ret (decide (j ≤ i)) := rfl
@[simp] theorem eq_ii (i j : Int) : eqD (.int i) (.int j) = T.ret (decide (i = j)) := rfl
@[simp] theorem ne_ii (i j : Int) : neD (.int i) (.int j) = T.ret (!decide (i = j)) := rfl
@[simp] theorem abs_i (i : Int) : absD [.int i] = T.ret (.int (if i < 0 then -i else i)) := rfl
@[simp] theorem int_i (i : Int) : intD [.int i] = T.ret (.int i) := rfl
@[simp] theorem int_b (b : Bool) : intD [.bl b] = T.ret (.int (if b then 1 else 0)) := rfl
@[simp] theorem len_l (l : List D) : lenD [.lst l] = T.ret (.int l.length) := rfl
@[simp] theorem len_t (l : List D) : lenD [.tup l] = T.ret (.int l.length) := rfl
@[simp] theorem items_l (l : List D) : itemsD (.lst l) = T.ret l := rfl
@[simp] theorem items_t (l : List D) : itemsD (.tup l) = T.ret l := rfl
@[simp] theorem truth_b (b : Bool) : truthD (.bl b) = T.ret b := rfl
@[simp] theorem asObj_self (a : Addr) (l : List D) : asObj a l (.obj a) = T.ret l := by
  show (if a = a then _ else _) = _
  rw [if_pos rfl]
theorem mul_small (i j : Int) (h : i.natAbs < 2 ^ 64 ∨ j.natAbs < 2 ^ 64) : mulD (.int i) (.int j) = T.ret (.int (i * j)) := by
  show (if mulOk i j = true then _ else _) = _
  rw [if_pos]
  unfold mulOk
  rcases h with h | h <;> simp [h]
theorem mod_pos (i j : Int) (h : 0 < j) : modD (.int i) (.int j) = T.ret (.int (i % j)) := by
  unfold modD
  simp [h]
theorem rpAll_ints {K : PySem.W.Frag} {G : Hp} {vs : List V} {ns : List Int} (r : RpAll K G vs (ns.map D.int)) : vs = ns.map V.int := r.ints
theorem made1 {K : PySem.W.Frag} {ds cs : List Int} {st tn : Int} (h : ds.length < cs.length) (hs : st.natAbs < 2 ^ 64) : MadeOf K (fun (j : Addr × Addr × Addr) => PX1 j.1 j.2.1 j.2.2) (fun j => j.1) (.dct [.inr "deep", .inr "cells", .inr "stir", .inr "turn"] [.lst (ds.map D.int), .lst (cs.map D.int), .int st, .int tn]) := by
  intro G H v g r
  cases r with
  | dct e l r =>
    cases r with
    | cons r1 r =>
    cases r with
    | cons r2 r =>
    cases r with
    | cons r3 r =>
    cases r with
    | cons r4 r =>
    cases r
    cases r3
    cases r4
    cases r1 with
    | lst e1 q1 =>
    cases r2 with
    | lst e2 q2 =>
    rename_i a0 a1 xs1 a2 xs2
    have x1 := rpAll_ints q1
    have x2 := rpAll_ints q2
    subst x1 x2
    refine ⟨(a0, a1, a2), F3 a0 a1 a2, Spr1 a0 a1 a2, rfl, ⟨⟨rfl, rfl⟩, ?_⟩, ⟨ds, cs, st, tn, g _ _ e, g _ _ e1, g _ _ e2, ?_, hs⟩, ?_, ?_⟩
    · intro z
      have z : a1 = a2 := z
      subst z
      rw [e1] at e2
      have := congrArg List.length (HO.lst.inj (Option.some.inj e2))
      simp only [List.length_map] at this
      omega
    · rintro rfl
      simp at h
    · rintro H1 H2 hf ⟨ds, cs, st, tn, g0, g1, g2, g3, g4⟩
      exact ⟨ds, cs, st, tn, by rw [hf a0 (.inl rfl)]; exact g0, by rw [hf a1 (.inr (.inl rfl))]; exact g1, by rw [hf a2 (.inr (.inr rfl))]; exact g2, g3, g4⟩
    · rintro H1 ⟨ds, cs, st, tn, g0, g1, g2, g3, g4⟩ a (rfl | rfl | rfl)
      · rw [g0]; exact fun z => nomatch z
      · rw [g1]; exact fun z => nomatch z
      · rw [g2]; exact fun z => nomatch z
end Eng

namespace Eng
open PySem PySem.Spec PyProof.Rows L2
mutual
/-- fit to be shown -/
def D.fit : D → Bool
  | .non | .bl _ => true
  | .int i => decide (i.natAbs.log2 < 1920)
  | .str x => x.cps.toList.all fun c => decide (c < 16 ^ 8)
  | .tup l | .lst l => fitAll l
  | .dct _ _ | .obj _ => false
def fitAll : List D → Bool
  | [] => true
  | d :: r => d.fit && fitAll r
end
mutual
def D.rz : D → Nat
  | .non => 4
  | .bl _ => 5
  | .int _ => 1921
  | .str x => 10 * x.length + 2
  | .tup l | .lst l => rzAll l + 4
  | .dct _ _ | .obj _ => 0
def rzAll : List D → Nat
  | [] => 0
  | d :: r => d.rz + 2 + rzAll r
end
mutual
def D.dep : D → Nat
  | .tup l | .lst l => depAll l + 1
  | _ => 0
def depAll : List D → Nat
  | [] => 0
  | d :: r => max d.dep (depAll r)
end
theorem reprText_le (x : Str) (h : x.cps.toList.all (fun c => decide (c < 16 ^ 8)) = true) : (reprText x).length ≤ 10 * x.length + 2 := by
  show ((x.cps.foldl (fun out c => out ++ (Builtin.Str.reprChar (reprQuote x) c).toArray) #[reprQuote x]).push (reprQuote x)).size ≤ 10 * x.cps.size + 2
  rw [Array.size_push, ← Array.foldl_toList, show x.cps.size = x.cps.toList.length from Array.length_toList.symm]
  have key : ∀ (l : List Nat) (acc : Array Nat), l.all (fun c => decide (c < 16 ^ 8)) = true → (l.foldl (fun out c => out ++ (Builtin.Str.reprChar (reprQuote x) c).toArray) acc).size ≤ acc.size + 10 * l.length := by
    intro l
    induction l with
    | nil => intro acc _; exact Nat.le_refl _
    | cons c r ih =>
      intro acc hl
      rw [List.all_cons, Bool.and_eq_true] at hl
      have h1 := ih (acc ++ (Builtin.Str.reprChar (reprQuote x) c).toArray) hl.2
      have h2 := PySem.StrLaws.reprChar_len (reprQuote x) c (of_decide_eq_true hl.1)
      rw [List.foldl_cons]
      simp only [Array.size_append, List.size_toArray] at h1
      rw [List.length_cons]
      omega
  have := key x.cps.toList #[reprQuote x] h
  have e : (#[reprQuote x] : Array Nat).size = 1 := rfl
  rw [e] at this
  omega
theorem listText_le (ts : List Str) : (listText ts).length ≤ piled ts + 4 := by
  unfold listText
  rw [strLen_append]
  have e : ((("]" : String) : Str)).length = 1 := rfl
  rw [e]
  cases ts with
  | nil => show 1 + 1 ≤ _; omega
  | cons t r =>
    have h := textFrom_length_pos r 1 (("[" : Str) ++ (if (0 : Nat) > 0 then ", " else "" : String) ++ t) (Nat.succ_pos 0)
    have e2 : (textFrom 0 "[" (t :: r)) = textFrom 1 (("[" : Str) ++ (if (0 : Nat) > 0 then ", " else "" : String) ++ t) r := rfl
    rw [e2, h, strLen_append, strLen_append, piled_cons]
    have e3 : ((("[" : String) : Str)).length = 1 := rfl
    have e4 : (((if (0 : Nat) > 0 then ", " else "" : String) : Str)).length = 0 := rfl
    rw [e3, e4]
    omega
theorem tupleText_le (ts : List Str) : (tupleText ts).length ≤ piled ts + 4 := by
  unfold tupleText
  rw [strLen_append, strLen_append]
  have e : ((("(" : String) : Str)).length = 1 := rfl
  have e2 : (((if ts.length == 1 then ",)" else ")" : String) : Str)).length ≤ 2 := by
    split <;> decide
  rw [e]
  cases ts with
  | nil => have : (Str.join ", " []).length = 0 := rfl; rw [this]; omega
  | cons t r =>
    have := join_length_add (t :: r) (by simp)
    omega
mutual
theorem shown_le : ∀ d : D, d.fit = true → d.py.shown.length ≤ d.rz
  | .non, _ => by decide
  | .bl b, _ => by cases b <;> decide
  | .int i, h => by
    have h' : i.natAbs.log2 < 1920 := of_decide_eq_true h
    have := int_text_length_le (k := 1920) (by decide) h'
    show (Str.ofString (toString i)).length ≤ 1921
    rw [PySem.ofString_length]
    exact this
  | .str x, h => reprText_le x h
  | .tup l, h => by
    have := shownAll_le l h
    exact Nat.le_trans (tupleText_le _) (by show _ ≤ rzAll l + 4; omega)
  | .lst l, h => by
    have := shownAll_le l h
    exact Nat.le_trans (listText_le _) (by show _ ≤ rzAll l + 4; omega)
  | .dct _ _, h => by cases h
  | .obj _, h => by cases h
theorem shownAll_le : ∀ l : List D, fitAll l = true → piled (PyData.shownAll (pyAll l)) ≤ rzAll l
  | [], _ => Nat.zero_le _
  | d :: r, h => by
    obtain ⟨h1, h2⟩ := Bool.and_eq_true_iff.mp (show (d.fit && fitAll r) = true from h)
    have a := shown_le d h1
    have b := shownAll_le r h2
    show piled (d.py.shown :: PyData.shownAll (pyAll r)) ≤ d.rz + 2 + rzAll r
    rw [piled_cons]
    omega
end
mutual
theorem fit_pure : ∀ d : D, d.fit = true → d.pure = true ∧ d.py.showable = true ∧ d.py.depth = d.dep
  | .non, _ => ⟨rfl, rfl, rfl⟩
  | .bl b, _ => ⟨rfl, rfl, rfl⟩
  | .int i, h => ⟨rfl, h, rfl⟩
  | .str x, _ => ⟨rfl, rfl, rfl⟩
  | .tup l, h => by
    obtain ⟨a, b, c⟩ := fitAll_pure l h
    exact ⟨a, b, by show PyData.depth (.tuple (pyAll l)) = depAll l + 1; rw [PyData.depth.eq_def]; exact congrArg (· + 1) c⟩
  | .lst l, h => by
    obtain ⟨a, b, c⟩ := fitAll_pure l h
    exact ⟨a, b, by show PyData.depth (.list (pyAll l)) = depAll l + 1; rw [PyData.depth.eq_def]; exact congrArg (· + 1) c⟩
  | .dct _ _, h => by cases h
  | .obj _, h => by cases h
theorem fitAll_pure : ∀ l : List D, fitAll l = true → pureAll l = true ∧ PyData.showableAll (pyAll l) = true ∧ PyData.depthAll (pyAll l) = depAll l
  | [], _ => ⟨rfl, rfl, rfl⟩
  | d :: r, h => by
    obtain ⟨h1, h2⟩ := Bool.and_eq_true_iff.mp (show (d.fit && fitAll r) = true from h)
    obtain ⟨a1, b1, c1⟩ := fit_pure d h1
    obtain ⟨a2, b2, c2⟩ := fitAll_pure r h2
    exact ⟨by show (d.pure && pureAll r) = true; rw [a1, a2]; rfl, by show (d.py.showable && PyData.showableAll (pyAll r)) = true; rw [b1, b2]; rfl, by
      show PyData.depthAll (d.py :: pyAll r) = max d.dep (depAll r)
      rw [PyData.depthAll.eq_def]
      show max d.py.depth _ = _
      rw [c1, c2]⟩
end
theorem repr_fit {d : D} (h : d.fit = true) (hz : d.rz ≤ 16777216) (hd : d.dep ≤ 64) : reprD [d] = T.ret (.str d.py.shown) := by
  obtain ⟨a, b, c⟩ := fit_pure d h
  show (if d.showOk = true then _ else _) = _
  rw [if_pos]
  unfold D.showOk
  rw [a, b, c, decide_eq_true hd, decide_eq_true (Nat.le_trans (shown_le d h) (by rw [sizeLine_eq]; exact hz))]
  rfl
theorem eq_ss (x y : Str) : eqD (.str x) (.str y) = T.ret (decide (x = y)) := rfl
theorem ne_ss (x y : Str) : neD (.str x) (.str y) = T.ret (!decide (x = y)) := rfl
theorem wp_draw {a0 : Addr} {n : Int} {Q : D → Prop} {E : Str → List D → Prop} (h0 : 0 < n) (h1 : n < 1073741824) (h : ∀ i : Nat, (i : Int) < n → Q (.int i)) : wp (drawT a0 [.obj a0, .int n]) Q E := by
  show wp (if _ then _ else _) Q E
  rw [if_pos ⟨rfl, h0, h1⟩]
  exact ⟨by omega, fun i hi => h i (by omega)⟩
theorem wp_forT {Q : Out → Prop} {E : Str → List D → Prop} (Inv : Env → Prop) {f : D → Env → Option Env} {b : Env → T Out} : ∀ (ds : List D), (∀ d, d ∈ ds → ∀ env, Inv env → ∃ e, f d env = some e ∧ wp (b e) (fun o => match o with
    | .nx e' => Inv e'
    | .ct e' => Inv e'
    | .bk e' => Q (.nx e')
    | .rt d => Q (.rt d)) E) → (∀ env, Inv env → Q (.nx env)) → ∀ env, Inv env → wp (forT f b ds env) Q E
  | [], _, hq, env, hi => hq env hi
  | d :: r, h, hq, env, hi => by
    obtain ⟨e, h1, h2⟩ := h d (by simp) env hi
    have ih := wp_forT Inv r (fun d hd => h d (by simp [hd])) hq
    show wp (match f d env with
      | none => T.fail
      | some env1 => b env1 >>= fun o => match o with
        | .nx env2 => forT f b r env2
        | .ct env2 => forT f b r env2
        | .bk env2 => T.ret (.nx env2)
        | .rt d => T.ret (.rt d)) Q E
    rw [h1]
    refine wp_bind.mpr (wp_imp h2 fun o ho => ?_)
    cases o with
    | nx e' => exact ih e' ho
    | ct e' => exact ih e' ho
    | bk e' => exact ho
    | rt d => exact ho
/-- a loop that goes through, by what holds -/
theorem forT_inv (Inv : Env → Prop) {f : D → Env → Option Env} {b : Env → T Out} : ∀ (ds : List D), (∀ d, d ∈ ds → ∀ env, Inv env → ∃ e e', f d env = some e ∧ b e = T.ret (.nx e') ∧ Inv e') → ∀ env, Inv env → ∃ e', forT f b ds env = T.ret (.nx e') ∧ Inv e'
  | [], _, env, hi => ⟨env, rfl, hi⟩
  | d :: r, h, env, hi => by
    obtain ⟨e, e', h1, h2, h3⟩ := h d (by simp) env hi
    obtain ⟨e2, h4, h5⟩ := forT_inv Inv r (fun d hd => h d (by simp [hd])) e' h3
    refine ⟨e2, ?_, h5⟩
    show (match f d env with
      | none => T.fail
      | some env1 => b env1 >>= fun o => match o with
        | .nx env2 => forT f b r env2
        | .ct env2 => forT f b r env2
        | .bk env2 => T.ret (.nx env2)
        | .rt d => T.ret (.rt d)) = _
    rw [h1]
    show (b e >>= _) = _
    rw [h2]
    exact h4
theorem mem_rangeD {d : D} {lo : Int} {n : Nat} (h : d ∈ rangeD lo n) : ∃ i : Nat, i < n ∧ d = .int (lo + (i : Int)) := by
  unfold rangeD at h
  obtain ⟨i, h1, h2⟩ := List.mem_map.mp h
  exact ⟨i, List.mem_range.mp h1, h2.symm⟩
theorem wp_eq {α : Type} {t : T α} {x : α} {Q : α → Prop} {E : Str → List D → Prop} (h : t = T.ret x) (q : Q x) : wp t Q E := by rw [h]; exact q
@[irreducible] def wq {α : Type} (t : T α) (Q : α → Prop) (E : Str → List D → Prop) : Prop := wp t Q E
theorem wq_wp {α : Type} {t : T α} {Q : α → Prop} {E : Str → List D → Prop} : wq t Q E ↔ wp t Q E := by unfold wq; exact Iff.rfl
@[simp] theorem wq_ret {α : Type} {a : α} {Q : α → Prop} {E : Str → List D → Prop} : wq (T.ret a) Q E ↔ Q a := wq_wp
theorem wq_bind {α β : Type} {t : T α} {f : α → T β} {Q : β → Prop} {E : Str → List D → Prop} : wq (t >>= f) Q E ↔ wq t (fun a => wq (f a) Q E) E := by
  rw [wq_wp, wp_bind, wq_wp]
  exact ⟨fun h => wp_imp h fun _ q => wq_wp.mpr q, fun h => wp_imp h fun _ q => wq_wp.mp q⟩
theorem wq_imp {α : Type} {t : T α} {Q Q' : α → Prop} {E : Str → List D → Prop} (h : wq t Q E) (hq : ∀ a, Q a → Q' a) : wq t Q' E := wq_wp.mpr (wp_imp (wq_wp.mp h) hq)
theorem wq_draw {a0 : Addr} {n : Int} {Q : D → Prop} {E : Str → List D → Prop} (h0 : 0 < n) (h1 : n < 1073741824) (h : ∀ i : Nat, (i : Int) < n → Q (.int i)) : wq (drawT a0 [.obj a0, .int n]) Q E := wq_wp.mpr (wp_draw h0 h1 h)
theorem wq_forT {Q : Out → Prop} {E : Str → List D → Prop} (Inv : Env → Prop) {f : D → Env → Option Env} {b : Env → T Out} (ds : List D) (h : ∀ d, d ∈ ds → ∀ env, Inv env → ∃ e, f d env = some e ∧ wq (b e) (fun o => match o with
    | .nx e' => Inv e'
    | .ct e' => Inv e'
    | .bk e' => Q (.nx e')
    | .rt d => Q (.rt d)) E) (hq : ∀ env, Inv env → Q (.nx env)) (env : Env) (hi : Inv env) : wq (forT f b ds env) Q E :=
  wq_wp.mpr (wp_forT Inv ds (fun d hd env hi => by
    obtain ⟨e, h1, h2⟩ := h d hd env hi
    exact ⟨e, h1, wq_wp.mp h2⟩) hq env hi)
theorem wq_eq {α : Type} {t : T α} {x : α} {Q : α → Prop} {E : Str → List D → Prop} (h : t = T.ret x) (q : Q x) : wq t Q E := by rw [h]; exact wq_ret.mpr q
def dfOf (x : Str) (st : Stmt) : He.DefD := ⟨(x, none), x, x, defArgs st, defBody st, defScope st, [], []⟩
theorem at_of {K : PySem.W.Frag} {h : Heap} {mg : Str → Option Value} {fa : List He.Fa} {fn : List He.DefD} {x : Str} {st : Stmt} (X : K.In h) (G : h.Ns mainGlobals mg) (c : He.SaysD fa fn K) (i j : Nat) (h1 : fa[i]? = some (.glo x)) (h2 : fn[j]? = some (dfOf x st)) : At K mg x st := by
  obtain ⟨fd, F⟩ := c.def_ j (d := dfOf x st) h2
  exact ⟨⟨_, fd, He.glo_ok X G (c.fact i h1), F⟩⟩
end Eng

namespace Law
open PySem PySem.Spec PyProof.Rows L2 Eng
def topS (i : Nat) : Stmt := PySem.Challenge.pw_boxlaws_k62_sort_count.main.body.getD i (.Pass ⟨0, 0, 0, 0⟩)
abbrev s_l_spring : Stmt := topS 19
abbrev n_l_spring : List Str := ["_law_script", "_law_cells", "_law_cell", "_law_stir"]
abbrev p_l_spring : List Str := ["_law_script"]
theorem sc_l_spring : FnScope n_l_spring p_l_spring (defScope s_l_spring) := ⟨rfl, rfl, rfl, by decide +kernel, rfl, by decide +kernel, by decide +kernel⟩
theorem bn_l_spring (kV doc pm : Value) (an : Option Addr) (cdv ct : Value) (us : List Value) (h : us.length = p_l_spring.length) : bindArgs (PySem.W.fnOf "_law_spring" "_law_spring" (defArgs s_l_spring) (defBody s_l_spring) (defScope s_l_spring) .none kV doc pm an cdv ct) ⟨us, []⟩ = pure (p_l_spring.zip us) := match us, h with | [a0], _ => rfl
abbrev s_l_draw : Stmt := topS 20
abbrev n_l_draw : List Str := ["_law_spring_here", "_law_many_here", "_law_deep", "_law_cell", "_law_turn", "_law_cells", "_law_blend"]
abbrev p_l_draw : List Str := ["_law_spring_here", "_law_many_here"]
theorem sc_l_draw : FnScope n_l_draw p_l_draw (defScope s_l_draw) := ⟨rfl, rfl, rfl, by decide +kernel, rfl, by decide +kernel, by decide +kernel⟩
theorem bn_l_draw (kV doc pm : Value) (an : Option Addr) (cdv ct : Value) (us : List Value) (h : us.length = p_l_draw.length) : bindArgs (PySem.W.fnOf "_law_draw" "_law_draw" (defArgs s_l_draw) (defBody s_l_draw) (defScope s_l_draw) .none kV doc pm an cdv ct) ⟨us, []⟩ = pure (p_l_draw.zip us) := match us, h with | [a0, a1], _ => rfl
abbrev s_l_pick : Stmt := topS 21
abbrev n_l_pick : List Str := ["_law_spring_here", "_law_items"]
abbrev p_l_pick : List Str := ["_law_spring_here", "_law_items"]
theorem sc_l_pick : FnScope n_l_pick p_l_pick (defScope s_l_pick) := ⟨rfl, rfl, rfl, by decide +kernel, rfl, by decide +kernel, by decide +kernel⟩
theorem bn_l_pick (kV doc pm : Value) (an : Option Addr) (cdv ct : Value) (us : List Value) (h : us.length = p_l_pick.length) : bindArgs (PySem.W.fnOf "_law_pick" "_law_pick" (defArgs s_l_pick) (defBody s_l_pick) (defScope s_l_pick) .none kV doc pm an cdv ct) ⟨us, []⟩ = pure (p_l_pick.zip us) := match us, h with | [a0, a1], _ => rfl
abbrev s_l_stands : Stmt := topS 22
abbrev n_l_stands : List Str := ["_law_wide", "_law_loose", "_law_table"]
abbrev p_l_stands : List Str := []
theorem sc_l_stands : FnScope n_l_stands p_l_stands (defScope s_l_stands) := ⟨rfl, rfl, rfl, by decide +kernel, rfl, by decide +kernel, by decide +kernel⟩
theorem bn_l_stands (kV doc pm : Value) (an : Option Addr) (cdv ct : Value) (us : List Value) (h : us.length = p_l_stands.length) : bindArgs (PySem.W.fnOf "_law_stands" "_law_stands" (defArgs s_l_stands) (defBody s_l_stands) (defScope s_l_stands) .none kV doc pm an cdv ct) ⟨us, []⟩ = pure (p_l_stands.zip us) := match us, h with | [], _ => rfl
abbrev s_need_sort : Stmt := topS 14
abbrev n_need_sort : List Str := ["value"]
abbrev p_need_sort : List Str := ["value"]
theorem sc_need_sort : FnScope n_need_sort p_need_sort (defScope s_need_sort) := ⟨rfl, rfl, rfl, by decide +kernel, rfl, by decide +kernel, by decide +kernel⟩
theorem bn_need_sort (kV doc pm : Value) (an : Option Addr) (cdv ct : Value) (us : List Value) (h : us.length = p_need_sort.length) : bindArgs (PySem.W.fnOf "need_sort" "need_sort" (defArgs s_need_sort) (defBody s_need_sort) (defScope s_need_sort) .none kV doc pm an cdv ct) ⟨us, []⟩ = pure (p_need_sort.zip us) := match us, h with | [a0], _ => rfl
abbrev s_power : Stmt := topS 4
abbrev n_power : List Str := ["base", "many", "found", "turn"]
abbrev p_power : List Str := ["base", "many"]
theorem sc_power : FnScope n_power p_power (defScope s_power) := ⟨rfl, rfl, rfl, by decide +kernel, rfl, by decide +kernel, by decide +kernel⟩
theorem bn_power (kV doc pm : Value) (an : Option Addr) (cdv ct : Value) (us : List Value) (h : us.length = p_power.length) : bindArgs (PySem.W.fnOf "power" "power" (defArgs s_power) (defBody s_power) (defScope s_power) .none kV doc pm an cdv ct) ⟨us, []⟩ = pure (p_power.zip us) := match us, h with | [a0, a1], _ => rfl
abbrev s_flat_count : Stmt := topS 7
abbrev n_flat_count : List Str := ["prime", "ends", "many", "row", "turn", "place"]
abbrev p_flat_count : List Str := ["prime", "ends", "many"]
theorem sc_flat_count : FnScope n_flat_count p_flat_count (defScope s_flat_count) := ⟨rfl, rfl, rfl, by decide +kernel, rfl, by decide +kernel, by decide +kernel⟩
theorem bn_flat_count (kV doc pm : Value) (an : Option Addr) (cdv ct : Value) (us : List Value) (h : us.length = p_flat_count.length) : bindArgs (PySem.W.fnOf "flat_count" "flat_count" (defArgs s_flat_count) (defBody s_flat_count) (defScope s_flat_count) .none kV doc pm an cdv ct) ⟨us, []⟩ = pure (p_flat_count.zip us) := match us, h with | [a0, a1, a2], _ => rfl
abbrev s_table_count : Stmt := topS 11
abbrev n_table_count : List Str := ["sort", "prime", "left", "right", "many"]
abbrev p_table_count : List Str := ["sort", "prime", "left", "right"]
theorem sc_table_count : FnScope n_table_count p_table_count (defScope s_table_count) := ⟨rfl, rfl, rfl, by decide +kernel, rfl, by decide +kernel, by decide +kernel⟩
theorem bn_table_count (kV doc pm : Value) (an : Option Addr) (cdv ct : Value) (us : List Value) (h : us.length = p_table_count.length) : bindArgs (PySem.W.fnOf "table_count" "table_count" (defArgs s_table_count) (defBody s_table_count) (defScope s_table_count) .none kV doc pm an cdv ct) ⟨us, []⟩ = pure (p_table_count.zip us) := match us, h with | [a0, a1, a2, a3], _ => rfl
abbrev s_ways_onto : Stmt := topS 5
abbrev n_ways_onto : List Str := ["many", "few", "rows", "turn", "place"]
abbrev p_ways_onto : List Str := ["many", "few"]
theorem sc_ways_onto : FnScope n_ways_onto p_ways_onto (defScope s_ways_onto) := ⟨rfl, rfl, rfl, by decide +kernel, rfl, by decide +kernel, by decide +kernel⟩
theorem bn_ways_onto (kV doc pm : Value) (an : Option Addr) (cdv ct : Value) (us : List Value) (h : us.length = p_ways_onto.length) : bindArgs (PySem.W.fnOf "ways_onto" "ways_onto" (defArgs s_ways_onto) (defBody s_ways_onto) (defScope s_ways_onto) .none kV doc pm an cdv ct) ⟨us, []⟩ = pure (p_ways_onto.zip us) := match us, h with | [a0, a1], _ => rfl
abbrev s_orders_of : Stmt := topS 6
abbrev n_orders_of : List Str := ["many", "found", "factor"]
abbrev p_orders_of : List Str := ["many"]
theorem sc_orders_of : FnScope n_orders_of p_orders_of (defScope s_orders_of) := ⟨rfl, rfl, rfl, by decide +kernel, rfl, by decide +kernel, by decide +kernel⟩
theorem bn_orders_of (kV doc pm : Value) (an : Option Addr) (cdv ct : Value) (us : List Value) (h : us.length = p_orders_of.length) : bindArgs (PySem.W.fnOf "orders_of" "orders_of" (defArgs s_orders_of) (defBody s_orders_of) (defScope s_orders_of) .none kV doc pm an cdv ct) ⟨us, []⟩ = pure (p_orders_of.zip us) := match us, h with | [a0], _ => rfl
abbrev s_parted_count : Stmt := topS 8
abbrev n_parted_count : List Str := ["left", "right", "found", "many"]
abbrev p_parted_count : List Str := ["left", "right"]
theorem sc_parted_count : FnScope n_parted_count p_parted_count (defScope s_parted_count) := ⟨rfl, rfl, rfl, by decide +kernel, rfl, by decide +kernel, by decide +kernel⟩
theorem bn_parted_count (kV doc pm : Value) (an : Option Addr) (cdv ct : Value) (us : List Value) (h : us.length = p_parted_count.length) : bindArgs (PySem.W.fnOf "parted_count" "parted_count" (defArgs s_parted_count) (defBody s_parted_count) (defScope s_parted_count) .none kV doc pm an cdv ct) ⟨us, []⟩ = pure (p_parted_count.zip us) := match us, h with | [a0, a1], _ => rfl
abbrev s_bell_count : Stmt := topS 9
abbrev n_bell_count : List Str := ["ends", "many"]
abbrev p_bell_count : List Str := ["ends"]
theorem sc_bell_count : FnScope n_bell_count p_bell_count (defScope s_bell_count) := ⟨rfl, rfl, rfl, by decide +kernel, rfl, by decide +kernel, by decide +kernel⟩
theorem bn_bell_count (kV doc pm : Value) (an : Option Addr) (cdv ct : Value) (us : List Value) (h : us.length = p_bell_count.length) : bindArgs (PySem.W.fnOf "bell_count" "bell_count" (defArgs s_bell_count) (defBody s_bell_count) (defScope s_bell_count) .none kV doc pm an cdv ct) ⟨us, []⟩ = pure (p_bell_count.zip us) := match us, h with | [a0], _ => rfl
abbrev s_times_count : Stmt := topS 10
abbrev n_times_count : List Str := ["prime", "left", "found", "chosen", "many"]
abbrev p_times_count : List Str := ["prime", "left"]
theorem sc_times_count : FnScope n_times_count p_times_count (defScope s_times_count) := ⟨rfl, rfl, rfl, by decide +kernel, rfl, by decide +kernel, by decide +kernel⟩
theorem bn_times_count (kV doc pm : Value) (an : Option Addr) (cdv ct : Value) (us : List Value) (h : us.length = p_times_count.length) : bindArgs (PySem.W.fnOf "times_count" "times_count" (defArgs s_times_count) (defBody s_times_count) (defScope s_times_count) .none kV doc pm an cdv ct) ⟨us, []⟩ = pure (p_times_count.zip us) := match us, h with | [a0, a1], _ => rfl
abbrev s_sort_count : Stmt := topS 17
abbrev n_sort_count : List Str := ["sort", "prime", "left", "right", "other", "way"]
abbrev p_sort_count : List Str := ["sort", "prime", "left", "right"]
theorem sc_sort_count : FnScope n_sort_count p_sort_count (defScope s_sort_count) := ⟨rfl, rfl, rfl, by decide +kernel, rfl, by decide +kernel, by decide +kernel⟩
theorem bn_sort_count (kV doc pm : Value) (an : Option Addr) (cdv ct : Value) (us : List Value) (h : us.length = p_sort_count.length) : bindArgs (PySem.W.fnOf "sort_count" "sort_count" (defArgs s_sort_count) (defBody s_sort_count) (defScope s_sort_count) .none kV doc pm an cdv ct) ⟨us, []⟩ = pure (p_sort_count.zip us) := match us, h with | [a0, a1, a2, a3], _ => rfl
abbrev s_l_power : Stmt := topS 25
abbrev n_l_power : List Str := ["_law_base", "_law_many_here", "_law_found", "_law_turn"]
abbrev p_l_power : List Str := ["_law_base", "_law_many_here"]
theorem sc_l_power : FnScope n_l_power p_l_power (defScope s_l_power) := ⟨rfl, rfl, rfl, by decide +kernel, rfl, by decide +kernel, by decide +kernel⟩
theorem bn_l_power (kV doc pm : Value) (an : Option Addr) (cdv ct : Value) (us : List Value) (h : us.length = p_l_power.length) : bindArgs (PySem.W.fnOf "_law_power" "_law_power" (defArgs s_l_power) (defBody s_l_power) (defScope s_l_power) .none kV doc pm an cdv ct) ⟨us, []⟩ = pure (p_l_power.zip us) := match us, h with | [a0, a1], _ => rfl
abbrev s_l_stairs : Stmt := topS 26
abbrev n_l_stairs : List Str := ["_law_base", "_law_marks", "_law_ways", "_law_mark", "_law_fresh", "_law_leads", "_law_own"]
abbrev p_l_stairs : List Str := ["_law_base", "_law_marks"]
theorem sc_l_stairs : FnScope n_l_stairs p_l_stairs (defScope s_l_stairs) := ⟨rfl, rfl, rfl, by decide +kernel, rfl, by decide +kernel, by decide +kernel⟩
theorem bn_l_stairs (kV doc pm : Value) (an : Option Addr) (cdv ct : Value) (us : List Value) (h : us.length = p_l_stairs.length) : bindArgs (PySem.W.fnOf "_law_stairs" "_law_stairs" (defArgs s_l_stairs) (defBody s_l_stairs) (defScope s_l_stairs) .none kV doc pm an cdv ct) ⟨us, []⟩ = pure (p_l_stairs.zip us) := match us, h with | [a0, a1], _ => rfl
abbrev s_l_onto : Stmt := topS 23
abbrev n_l_onto : List Str := ["_law_many_here", "_law_goal", "_law_ways", "_law_turn", "_law_fresh", "_law_taken", "_law_own"]
abbrev p_l_onto : List Str := ["_law_many_here", "_law_goal"]
theorem sc_l_onto : FnScope n_l_onto p_l_onto (defScope s_l_onto) := ⟨rfl, rfl, rfl, by decide +kernel, rfl, by decide +kernel, by decide +kernel⟩
theorem bn_l_onto (kV doc pm : Value) (an : Option Addr) (cdv ct : Value) (us : List Value) (h : us.length = p_l_onto.length) : bindArgs (PySem.W.fnOf "_law_onto" "_law_onto" (defArgs s_l_onto) (defBody s_l_onto) (defScope s_l_onto) .none kV doc pm an cdv ct) ⟨us, []⟩ = pure (p_l_onto.zip us) := match us, h with | [a0, a1], _ => rfl
abbrev s_l_partings : Stmt := topS 24
abbrev n_l_partings : List Str := ["_law_many_here", "_law_ways", "_law_turn", "_law_fresh", "_law_lots", "_law_own"]
abbrev p_l_partings : List Str := ["_law_many_here"]
theorem sc_l_partings : FnScope n_l_partings p_l_partings (defScope s_l_partings) := ⟨rfl, rfl, rfl, by decide +kernel, rfl, by decide +kernel, by decide +kernel⟩
theorem bn_l_partings (kV doc pm : Value) (an : Option Addr) (cdv ct : Value) (us : List Value) (h : us.length = p_l_partings.length) : bindArgs (PySem.W.fnOf "_law_partings" "_law_partings" (defArgs s_l_partings) (defBody s_l_partings) (defScope s_l_partings) .none kV doc pm an cdv ct) ⟨us, []⟩ = pure (p_l_partings.zip us) := match us, h with | [a0], _ => rfl
abbrev s_l_factors : Stmt := topS 27
abbrev n_l_factors : List Str := ["_law_base", "_law_many_here", "_law_ways", "_law_turn", "_law_fresh", "_law_taken", "_law_own"]
abbrev p_l_factors : List Str := ["_law_base", "_law_many_here"]
theorem sc_l_factors : FnScope n_l_factors p_l_factors (defScope s_l_factors) := ⟨rfl, rfl, rfl, by decide +kernel, rfl, by decide +kernel, by decide +kernel⟩
theorem bn_l_factors (kV doc pm : Value) (an : Option Addr) (cdv ct : Value) (us : List Value) (h : us.length = p_l_factors.length) : bindArgs (PySem.W.fnOf "_law_factors" "_law_factors" (defArgs s_l_factors) (defBody s_l_factors) (defScope s_l_factors) .none kV doc pm an cdv ct) ⟨us, []⟩ = pure (p_l_factors.zip us) := match us, h with | [a0, a1], _ => rfl
abbrev s_l_many : Stmt := topS 28
abbrev n_l_many : List Str := ["_law_name", "_law_base", "_law_ins", "_law_outs", "_law_lots", "_law_own", "_law_ahead", "_law_further"]
abbrev p_l_many : List Str := ["_law_name", "_law_base", "_law_ins", "_law_outs"]
theorem sc_l_many : FnScope n_l_many p_l_many (defScope s_l_many) := ⟨rfl, rfl, rfl, by decide +kernel, rfl, by decide +kernel, by decide +kernel⟩
theorem bn_l_many (kV doc pm : Value) (an : Option Addr) (cdv ct : Value) (us : List Value) (h : us.length = p_l_many.length) : bindArgs (PySem.W.fnOf "_law_many" "_law_many" (defArgs s_l_many) (defBody s_l_many) (defScope s_l_many) .none kV doc pm an cdv ct) ⟨us, []⟩ = pure (p_l_many.zip us) := match us, h with | [a0, a1, a2, a3], _ => rfl
abbrev s_l_count : Stmt := topS 29
abbrev n_l_count : List Str := ["_law_row", "_law_base", "_law_ins", "_law_outs"]
abbrev p_l_count : List Str := ["_law_row", "_law_base", "_law_ins", "_law_outs"]
theorem sc_l_count : FnScope n_l_count p_l_count (defScope s_l_count) := ⟨rfl, rfl, rfl, by decide +kernel, rfl, by decide +kernel, by decide +kernel⟩
theorem bn_l_count (kV doc pm : Value) (an : Option Addr) (cdv ct : Value) (us : List Value) (h : us.length = p_l_count.length) : bindArgs (PySem.W.fnOf "_law_count" "_law_count" (defArgs s_l_count) (defBody s_l_count) (defScope s_l_count) .none kV doc pm an cdv ct) ⟨us, []⟩ = pure (p_l_count.zip us) := match us, h with | [a0, a1, a2, a3], _ => rfl
abbrev s_l_is_counted : Stmt := topS 30
abbrev n_l_is_counted : List Str := ["_law_base", "_law_ins", "_law_outs", "_law_row", "_law_due", "_law_told"]
abbrev p_l_is_counted : List Str := ["_law_base", "_law_ins", "_law_outs"]
theorem sc_l_is_counted : FnScope n_l_is_counted p_l_is_counted (defScope s_l_is_counted) := ⟨rfl, rfl, rfl, by decide +kernel, rfl, by decide +kernel, by decide +kernel⟩
theorem bn_l_is_counted (kV doc pm : Value) (an : Option Addr) (cdv ct : Value) (us : List Value) (h : us.length = p_l_is_counted.length) : bindArgs (PySem.W.fnOf "_law_is_counted" "_law_is_counted" (defArgs s_l_is_counted) (defBody s_l_is_counted) (defScope s_l_is_counted) .none kV doc pm an cdv ct) ⟨us, []⟩ = pure (p_l_is_counted.zip us) := match us, h with | [a0, a1, a2], _ => rfl
abbrev s_law : Stmt := topS 31
abbrev n_law : List Str := ["_law_script", "_law_spring_here", "_law_turn", "_law_ins", "_law_outs", "_law_base", "_law_wide", "_law_row", "_law_told"]
abbrev p_law : List Str := ["_law_script"]
theorem sc_law : FnScope n_law p_law (defScope s_law) := ⟨rfl, rfl, rfl, by decide +kernel, rfl, by decide +kernel, by decide +kernel⟩
def c_SORTS : D := (.tup [(.str "cross"), (.str "copy"), (.str "copy drop"), (.str "uncopy"), (.str "uncopy undrop"), (.str "copy uncopy"), (.str "copy drop uncopy undrop"), (.str "add"), (.str "add nought"), (.str "unadd"), (.str "unadd unnought"), (.str "add unadd"), (.str "add nought unadd unnought"), (.str "copy drop add nought"), (.str "uncopy undrop unadd unnought"), (.str "copy drop add nought unnought"), (.str "nought uncopy undrop unadd unnought"), (.str "copy drop add nought undrop"), (.str "drop uncopy undrop unadd unnought"), (.str "copy drop add nought undrop unnought"), (.str "drop nought uncopy undrop unadd unnought"), (.str "times"), (.str "untimes"), (.str "all")])
def k_OTHERS : List (Str × D) := [("uncopy", (.tup [(.str "copy"), (.str "turned")])), ("uncopy undrop", (.tup [(.str "copy drop"), (.str "turned")])), ("add", (.tup [(.str "copy"), (.str "both")])), ("add nought", (.tup [(.str "copy drop"), (.str "both")])), ("unadd", (.tup [(.str "copy"), (.str "exchanged")])), ("unadd unnought", (.tup [(.str "copy drop"), (.str "exchanged")])), ("add unadd", (.tup [(.str "copy uncopy"), (.str "exchanged")])), ("add nought unadd unnought", (.tup [(.str "copy drop uncopy undrop"), (.str "exchanged")])), ("uncopy undrop unadd unnought", (.tup [(.str "copy drop add nought"), (.str "turned")])), ("nought uncopy undrop unadd unnought", (.tup [(.str "copy drop add nought unnought"), (.str "turned")])), ("drop uncopy undrop unadd unnought", (.tup [(.str "copy drop add nought undrop"), (.str "turned")])), ("drop nought uncopy undrop unadd unnought", (.tup [(.str "copy drop add nought undrop unnought"), (.str "turned")])), ("untimes", (.tup [(.str "times"), (.str "turned")]))]
theorem kw_sort_count_0 : KwB "sort_count" s_sort_count p_sort_count 0 ["left", "right", "prime", "sort"] [3, 2, 0, 1] := ⟨fun _ _ _ _ _ _ us ws h1 h2 => match us, ws, h1, h2 with | [], [w0, w1, w2, w3], _, _ => rfl⟩
structure Hd (K : PySem.W.Frag) (w : World) (mg : Str → Option Value) : Prop where
  at_l_spring : At K mg "_law_spring" s_l_spring
  at_l_draw : At K mg "_law_draw" s_l_draw
  at_l_pick : At K mg "_law_pick" s_l_pick
  at_l_stands : At K mg "_law_stands" s_l_stands
  at_need_sort : At K mg "need_sort" s_need_sort
  at_power : At K mg "power" s_power
  at_flat_count : At K mg "flat_count" s_flat_count
  at_table_count : At K mg "table_count" s_table_count
  at_ways_onto : At K mg "ways_onto" s_ways_onto
  at_orders_of : At K mg "orders_of" s_orders_of
  at_parted_count : At K mg "parted_count" s_parted_count
  at_bell_count : At K mg "bell_count" s_bell_count
  at_times_count : At K mg "times_count" s_times_count
  at_sort_count : At K mg "sort_count" s_sort_count
  at_l_power : At K mg "_law_power" s_l_power
  at_l_stairs : At K mg "_law_stairs" s_l_stairs
  at_l_onto : At K mg "_law_onto" s_l_onto
  at_l_partings : At K mg "_law_partings" s_l_partings
  at_l_factors : At K mg "_law_factors" s_l_factors
  at_l_many : At K mg "_law_many" s_l_many
  at_l_count : At K mg "_law_count" s_l_count
  at_l_is_counted : At K mg "_law_is_counted" s_l_is_counted
  b_abs : mg "abs" = none
  b_enumerate : mg "enumerate" = none
  b_int : mg "int" = none
  b_isinstance : mg "isinstance" = none
  b_len : mg "len" = none
  b_min : mg "min" = none
  b_range : mg "range" = none
  b_repr : mg "repr" = none
  b_str : mg "str" = none
  b_sum : mg "sum" = none
  c_SORTS : Gc K mg "SORTS" c_SORTS
  k_OTHERS : Kd K w mg "OTHERS" k_OTHERS
def b_l_spring (asc : Addr) (ns : List Int) : Eng.Env → T Out :=
  (dSeq (dOwn 1 (dComp (dU itemsD (dLst (dU (asObj asc ((ns.take 63).map D.int)) (gV 0)))) (tgName 2) (fun _ => T.ret true) (dB addD (dB mulD (cst (.int 2)) (dC absD (dCons (gV 2) dNil))) (dC intD (dCons (dBl (dB ltD (gV 2) (cst (.int 0)))) dNil))) [2]))
  (dSeq (dSet 3 (dB addD (cst (.int 40961)) (dC lenD (dCons (gB 1) dNil))))
  (dSeq (dF [1] (dFor (dU itemsD (gV 1)) (tgName 2) (dSet 3 (dB modD (dC intD (dCons (dB addD (dB addD (dB mulD (gV 3) (cst (.int 1000003))) (gV 2)) (cst (.int 17))) dNil)) (cst (.int 2305843009213693951))))))
  (dRet (dDct [(.inr "deep", (dLst (dComp (dU itemsD (gB 1)) (tgName 2) (dB geD (gV 2) (dB powD (cst (.int 10)) (cst (.int 18)))) (gV 2) [2]))), (.inr "cells", (dB addD (gB 1) (dLst (dCons (gV 3) dNil)))), (.inr "stir", (gV 3)), (.inr "turn", (cst (.int 0)))])))))
def t_l_spring (asc : Addr) (ns : List Int) : List D → T D := bodyT 4 (b_l_spring asc ns)
def b_l_pick (a0 : Addr) : Eng.Env → T Out :=
  (dRet (dB ixD (gV 1) (dC (drawT a0) (dCons (gV 0) (dCons (dC lenD (dCons (gV 1) dNil)) dNil)))))
def t_l_pick (a0 : Addr) : List D → T D := bodyT 2 (b_l_pick a0)
def b_l_stands : Eng.Env → T Out :=
  (dSeq (dAsg (tgTup (tgCons (tgName 0) (tgCons (tgName 1) tgNil)) 2) (dTup (dCons (cst (.str "copy drop uncopy undrop")) (dCons (cst (.str "copy drop add nought")) dNil))))
  (dSeq (dOwn 2 (dCons (dLst (dCons (cst (.str "cross")) (dCons (cst (.str "cross")) (dCons (cst (.int 0)) (dCons (cst (.int 0)) dNil))))) (dCons (dLst (dCons (cst (.str "copy")) (dCons (cst (.str "copy")) (dCons (cst (.int 0)) (dCons (cst (.int 0)) dNil))))) (dCons (dLst (dCons (cst (.str "copy drop")) (dCons (cst (.str "copy drop")) (dCons (cst (.int 0)) (dCons (cst (.int 0)) dNil))))) dNil))))
  (dSeq (dOwn 2 (dB addN (gB 2) (dLst (dCons (dLst (dCons (cst (.str "uncopy")) (dCons (cst (.str "copy")) (dCons (cst (.int 0)) (dCons (cst (.int 1)) dNil))))) (dCons (dLst (dCons (cst (.str "uncopy undrop")) (dCons (cst (.str "copy drop")) (dCons (cst (.int 0)) (dCons (cst (.int 1)) dNil))))) dNil)))))
  (dSeq (dOwn 2 (dB addN (gB 2) (dLst (dCons (dLst (dCons (cst (.str "copy uncopy")) (dCons (cst (.str "copy uncopy")) (dCons (cst (.int 0)) (dCons (cst (.int 0)) dNil))))) (dCons (dLst (dCons (gV 0) (dCons (gV 0) (dCons (cst (.int 0)) (dCons (cst (.int 0)) dNil))))) (dCons (dLst (dCons (cst (.str "add")) (dCons (cst (.str "copy")) (dCons (cst (.int 1)) (dCons (cst (.int 1)) dNil))))) dNil))))))
  (dSeq (dOwn 2 (dB addN (gB 2) (dLst (dCons (dLst (dCons (cst (.str "add nought")) (dCons (cst (.str "copy drop")) (dCons (cst (.int 1)) (dCons (cst (.int 1)) dNil))))) (dCons (dLst (dCons (cst (.str "unadd")) (dCons (cst (.str "copy")) (dCons (cst (.int 1)) (dCons (cst (.int 0)) dNil))))) (dCons (dLst (dCons (cst (.str "unadd unnought")) (dCons (cst (.str "copy drop")) (dCons (cst (.int 1)) (dCons (cst (.int 0)) dNil))))) dNil))))))
  (dSeq (dApp 2 (dLst (dCons (cst (.str "add unadd")) (dCons (cst (.str "copy uncopy")) (dCons (cst (.int 1)) (dCons (cst (.int 0)) dNil))))))
  (dSeq (dOwn 2 (dB addN (gB 2) (dLst (dCons (dLst (dCons (cst (.str "add nought unadd unnought")) (dCons (gV 0) (dCons (cst (.int 1)) (dCons (cst (.int 0)) dNil))))) (dCons (dLst (dCons (gV 1) (dCons (gV 1) (dCons (cst (.int 0)) (dCons (cst (.int 0)) dNil))))) dNil)))))
  (dSeq (dApp 2 (dLst (dCons (cst (.str "uncopy undrop unadd unnought")) (dCons (gV 1) (dCons (cst (.int 0)) (dCons (cst (.int 1)) dNil))))))
  (dSeq (dApp 2 (dLst (dCons (dB addD (gV 1) (cst (.str " unnought"))) (dCons (dB addD (gV 1) (cst (.str " unnought"))) (dCons (cst (.int 0)) (dCons (cst (.int 0)) dNil))))))
  (dSeq (dApp 2 (dLst (dCons (cst (.str "nought uncopy undrop unadd unnought")) (dCons (dB addD (gV 1) (cst (.str " unnought"))) (dCons (cst (.int 0)) (dCons (cst (.int 1)) dNil))))))
  (dSeq (dApp 2 (dLst (dCons (dB addD (gV 1) (cst (.str " undrop"))) (dCons (dB addD (gV 1) (cst (.str " undrop"))) (dCons (cst (.int 0)) (dCons (cst (.int 0)) dNil))))))
  (dSeq (dApp 2 (dLst (dCons (cst (.str "drop uncopy undrop unadd unnought")) (dCons (dB addD (gV 1) (cst (.str " undrop"))) (dCons (cst (.int 0)) (dCons (cst (.int 1)) dNil))))))
  (dSeq (dApp 2 (dLst (dCons (dB addD (gV 1) (cst (.str " undrop unnought"))) (dCons (cst (.str "all")) (dCons (cst (.int 0)) (dCons (cst (.int 0)) dNil))))))
  (dSeq (dApp 2 (dLst (dCons (cst (.str "drop nought uncopy undrop unadd unnought")) (dCons (cst (.str "all")) (dCons (cst (.int 0)) (dCons (cst (.int 1)) dNil))))))
  (dRet (dB addD (gB 2) (dLst (dCons (dLst (dCons (cst (.str "times")) (dCons (cst (.str "times")) (dCons (cst (.int 0)) (dCons (cst (.int 0)) dNil))))) (dCons (dLst (dCons (cst (.str "untimes")) (dCons (cst (.str "times")) (dCons (cst (.int 0)) (dCons (cst (.int 1)) dNil))))) (dCons (dLst (dCons (cst (.str "all")) (dCons (cst (.str "all")) (dCons (cst (.int 0)) (dCons (cst (.int 0)) dNil))))) dNil))))))))))))))))))))
def t_l_stands : List D → T D := bodyT 3 (b_l_stands)
def b_need_sort : Eng.Env → T Out :=
  (dIf (dOr (dNot (dU truthD (dU (isiD "str") (gV 0)))) (dB notInD (gV 0) (cst c_SORTS))) (fun _ => T.fail) dSkip)
def t_need_sort : List D → T D := bodyT 1 (b_need_sort)
def b_power : Eng.Env → T Out :=
  (dSeq (dSet 2 (cst (.int 1)))
  (dSeq (dFor (dC range1 (dCons (gV 1) dNil)) (tgName 3) (dSet 2 (dB mulD (gV 2) (gV 0))))
  (dRet (gV 2))))
def t_power : List D → T D := bodyT 4 (b_power)
def b_flat_count : Eng.Env → T Out :=
  (dSeq (dSet 3 (dB addD (dLst (dCons (cst (.int 1)) dNil)) (dB mulD (dLst (dCons (cst (.int 0)) dNil)) (gV 2))))
  (dSeq (dFor (dC range1 (dCons (gV 1) dNil)) (tgName 4) (dSet 3 (dB addD (dLst (dCons (cst (.int 1)) dNil)) (dLst (dComp (dC range2 (dCons (cst (.int 1)) (dCons (dB addD (gV 2) (cst (.int 1))) dNil))) (tgName 5) (fun _ => T.ret true) (dB addD (dB ixD (gV 3) (dB subD (gV 5) (cst (.int 1)))) (dB mulD (dC t_power (dCons (gV 0) (dCons (gV 5) dNil))) (dB ixD (gV 3) (gV 5)))) [5])))))
  (dRet (dB ixD (gV 3) (gV 2)))))
def t_flat_count : List D → T D := bodyT 6 (b_flat_count)
def b_table_count : Eng.Env → T Out :=
  (dSeq (dIf (dB eqD (gV 0) (cst (.str "copy drop add nought"))) (dRet (dC t_power (dCons (gV 1) (dCons (dB mulD (gV 2) (gV 3)) dNil)))) dSkip)
  (dSeq (dIf (dB eqD (gV 0) (cst (.str "copy drop add nought unnought"))) (dRet (dC sumD (dCons (dLst (dComp (dC range1 (dCons (dB addD (gV 2) (cst (.int 1))) dNil)) (tgName 4) (fun _ => T.ret true) (dB mulD (dC t_flat_count (dCons (gV 1) (dCons (gV 2) (dCons (gV 4) dNil)))) (dC t_power (dCons (gV 1) (dCons (dB mulD (gV 4) (gV 3)) dNil)))) [4])) dNil))) dSkip)
  (dSeq (dIf (dB eqD (gV 0) (cst (.str "copy drop add nought undrop"))) (dRet (dC sumD (dCons (dLst (dComp (dC range1 (dCons (dB addD (gV 3) (cst (.int 1))) dNil)) (tgName 4) (fun _ => T.ret true) (dB mulD (dC t_flat_count (dCons (gV 1) (dCons (gV 3) (dCons (gV 4) dNil)))) (dC t_power (dCons (gV 1) (dCons (dB mulD (gV 2) (dB subD (gV 3) (gV 4))) dNil)))) [4])) dNil))) dSkip)
  (dRet (dC sumD (dCons (dLst (dComp (dC range1 (dCons (dB addD (dB addD (gV 2) (gV 3)) (cst (.int 1))) dNil)) (tgName 4) (fun _ => T.ret true) (dC t_flat_count (dCons (gV 1) (dCons (dB addD (gV 2) (gV 3)) (dCons (gV 4) dNil)))) [4])) dNil))))))
def t_table_count : List D → T D := bodyT 5 (b_table_count)
def b_ways_onto : Eng.Env → T Out :=
  (dSeq (dSet 2 (dB addD (dLst (dCons (cst (.int 1)) dNil)) (dB mulD (dLst (dCons (cst (.int 0)) dNil)) (gV 1))))
  (dSeq (dFor (dC range1 (dCons (gV 0) dNil)) (tgName 3) (dSet 2 (dB addD (dLst (dCons (cst (.int 0)) dNil)) (dLst (dComp (dC range2 (dCons (cst (.int 1)) (dCons (dB addD (gV 1) (cst (.int 1))) dNil))) (tgName 4) (fun _ => T.ret true) (dB mulD (gV 4) (dB addD (dB ixD (gV 2) (gV 4)) (dB ixD (gV 2) (dB subD (gV 4) (cst (.int 1)))))) [4])))))
  (dRet (dB ixD (gV 2) (gV 1)))))
def t_ways_onto : List D → T D := bodyT 5 (b_ways_onto)
def b_orders_of : Eng.Env → T Out :=
  (dSeq (dSet 1 (cst (.int 1)))
  (dSeq (dFor (dC range2 (dCons (cst (.int 2)) (dCons (dB addD (gV 0) (cst (.int 1))) dNil))) (tgName 2) (dSet 1 (dB mulD (gV 1) (gV 2))))
  (dRet (gV 1))))
def t_orders_of : List D → T D := bodyT 3 (b_orders_of)
def b_parted_count : Eng.Env → T Out :=
  (dSeq (dSet 2 (cst (.int 0)))
  (dSeq (dFor (dC range1 (dCons (dB addD (dC min2D (dCons (gV 0) (dCons (gV 1) dNil))) (cst (.int 1))) dNil)) (tgName 3) (dSet 2 (dB addD (gV 2) (dB fdivD (dB mulD (dC t_ways_onto (dCons (gV 0) (dCons (gV 3) dNil))) (dC t_ways_onto (dCons (gV 1) (dCons (gV 3) dNil)))) (dC t_orders_of (dCons (gV 3) dNil))))))
  (dRet (gV 2))))
def t_parted_count : List D → T D := bodyT 4 (b_parted_count)
def b_bell_count : Eng.Env → T Out :=
  (dRet (dC sumD (dCons (dLst (dComp (dC range1 (dCons (dB addD (gV 0) (cst (.int 1))) dNil)) (tgName 1) (fun _ => T.ret true) (dB fdivD (dC t_ways_onto (dCons (gV 0) (dCons (gV 1) dNil))) (dC t_orders_of (dCons (gV 1) dNil))) [1])) dNil)))
def t_bell_count : List D → T D := bodyT 2 (b_bell_count)
def b_times_count : Eng.Env → T Out :=
  (dSeq (dAsg (tgTup (tgCons (tgName 2) (tgCons (tgName 3) tgNil)) 2) (dTup (dCons (cst (.int 0)) (dCons (cst (.int 1)) dNil))))
  (dSeq (dFor (dC range1 (dCons (dB addD (gV 1) (cst (.int 1))) dNil)) (tgName 4) (dSeq (dSet 2 (dB addD (gV 2) (dB mulD (dB mulD (dB mulD (gV 3) (gV 3)) (dC t_orders_of (dCons (gV 4) dNil))) (dC t_power (dCons (dB subD (gV 0) (cst (.int 1))) (dCons (gV 4) dNil))))))
    (dSet 3 (dB fdivD (dB mulD (gV 3) (dB subD (gV 1) (gV 4))) (dB addD (gV 4) (cst (.int 1)))))))
  (dRet (gV 2))))
def t_times_count : List D → T D := bodyT 5 (b_times_count)
def b_sort_count : Eng.Env → T Out :=
  (dSeq (dDrop (dC t_need_sort (dCons (gV 0) dNil)))
  (dSeq (dAsg (tgTup (tgCons (tgName 4) (tgCons (tgName 5) tgNil)) 2) (dB (kget k_OTHERS) (gV 0) (dTup (dCons (gV 0) (dCons (cst (.str "same")) dNil)))))
  (dSeq (dIf (dB inD (gV 5) (dTup (dCons (cst (.str "turned")) (dCons (cst (.str "both")) dNil)))) (dPar 2 3 (dCons (gV 3) (dCons (gV 2) dNil))) dSkip)
  (dSeq (dIf (dB eqD (gV 4) (cst (.str "cross"))) (dRet (dIf (dB eqD (gV 2) (gV 3)) (dC t_orders_of (dCons (gV 2) dNil)) (cst (.int 0)))) dSkip)
  (dSeq (dIf (dB eqD (gV 4) (cst (.str "copy"))) (dRet (dC t_ways_onto (dCons (gV 3) (dCons (gV 2) dNil)))) dSkip)
  (dSeq (dIf (dB eqD (gV 4) (cst (.str "copy drop"))) (dRet (dC t_power (dCons (gV 2) (dCons (gV 3) dNil)))) dSkip)
  (dSeq (dIf (dB eqD (gV 4) (cst (.str "copy uncopy"))) (dRet (dC t_parted_count (dCons (gV 2) (dCons (gV 3) dNil)))) dSkip)
  (dSeq (dIf (dB eqD (gV 4) (cst (.str "copy drop uncopy undrop"))) (dRet (dC t_bell_count (dCons (dB addD (gV 2) (gV 3)) dNil))) dSkip)
  (dSeq (dIf (dB eqD (gV 4) (cst (.str "times"))) (dRet (dIf (dB eqD (gV 2) (gV 3)) (dC t_times_count (dCons (gV 1) (dCons (gV 2) dNil))) (cst (.int 0)))) dSkip)
  (dRet (dC t_table_count (dCons (gV 4) (dCons (gV 1) (dCons (gV 2) (dCons (gV 3) dNil)))))))))))))))
def t_sort_count : List D → T D := bodyT 6 (b_sort_count)
def b_l_power : Eng.Env → T Out :=
  (dSeq (dSet 2 (cst (.int 1)))
  (dSeq (dFor (dC range1 (dCons (gV 1) dNil)) (tgName 3) (dSet 2 (dB mulD (gV 2) (gV 0))))
  (dRet (gV 2))))
def t_l_power : List D → T D := bodyT 4 (b_l_power)
def b_l_stairs : Eng.Env → T Out :=
  (dSeq (dSet 2 (dB addD (dLst (dCons (cst (.int 1)) dNil)) (dB mulD (dLst (dCons (cst (.int 0)) dNil)) (dC lenD (dCons (gV 1) dNil)))))
  (dSeq (dFor (dU itemsD (gV 1)) (tgName 3) (dSeq (dOwn 4 (dB mulN (dLst (dCons (cst (.int 0)) dNil)) (dC lenD (dCons (gV 2) dNil))))
    (dSeq (dFor (dC enumOf (dCons (gV 2) dNil)) (tgTup (tgCons (tgName 5) (tgCons (tgName 6) tgNil)) 2) (dSeq (dIf (dB neD (gV 3) (cst (.str "lead"))) (dSetIx 4 (dB addD (dB ixD (gB 4) (gV 5)) (dB mulD (gV 6) (dC t_l_power (dCons (gV 0) (dCons (gV 5) dNil))))) (gV 5)) dSkip)
      (dIf (dAnd (dB neD (gV 3) (cst (.str "loose"))) (dB ltD (dB addD (gV 5) (cst (.int 1))) (dC lenD (dCons (gV 2) dNil)))) (dSetIx 4 (dB addD (dB ixD (gB 4) (dB addD (gV 5) (cst (.int 1)))) (gV 6)) (dB addD (gV 5) (cst (.int 1)))) dSkip)))
    (dF [4] (dSet 2 (gV 4))))))
  (dRet (dC sumD (dCons (gV 2) dNil)))))
def t_l_stairs : List D → T D := bodyT 7 (b_l_stairs)
def b_l_onto : Eng.Env → T Out :=
  (dSeq (dSet 2 (dB addD (dLst (dCons (cst (.int 1)) dNil)) (dB mulD (dLst (dCons (cst (.int 0)) dNil)) (gV 1))))
  (dSeq (dFor (dC range1 (dCons (gV 0) dNil)) (tgName 3) (dSeq (dOwn 4 (dB mulN (dLst (dCons (cst (.int 0)) dNil)) (dB addD (gV 1) (cst (.int 1)))))
    (dSeq (dFor (dC enumOf (dCons (gV 2) dNil)) (tgTup (tgCons (tgName 5) (tgCons (tgName 6) tgNil)) 2) (dSeq (dSetIx 4 (dB addD (dB ixD (gB 4) (gV 5)) (dB mulD (gV 6) (gV 5))) (gV 5))
      (dIf (dB ltD (gV 5) (gV 1)) (dSetIx 4 (dB addD (dB ixD (gB 4) (dB addD (gV 5) (cst (.int 1)))) (dB mulD (gV 6) (dB subD (gV 1) (gV 5)))) (dB addD (gV 5) (cst (.int 1)))) dSkip)))
    (dF [4] (dSet 2 (gV 4))))))
  (dRet (dB ixD (gV 2) (gV 1)))))
def t_l_onto : List D → T D := bodyT 7 (b_l_onto)
def b_l_partings : Eng.Env → T Out :=
  (dSeq (dSet 1 (dB addD (dLst (dCons (cst (.int 1)) dNil)) (dB mulD (dLst (dCons (cst (.int 0)) dNil)) (gV 0))))
  (dSeq (dFor (dC range1 (dCons (gV 0) dNil)) (tgName 2) (dSeq (dOwn 3 (dB mulN (dLst (dCons (cst (.int 0)) dNil)) (dB addD (gV 0) (cst (.int 1)))))
    (dSeq (dFor (dC enumOf (dCons (gV 1) dNil)) (tgTup (tgCons (tgName 4) (tgCons (tgName 5) tgNil)) 2) (dSeq (dSetIx 3 (dB addD (dB ixD (gB 3) (gV 4)) (dB mulD (gV 5) (gV 4))) (gV 4))
      (dIf (dB ltD (gV 4) (gV 0)) (dSetIx 3 (dB addD (dB ixD (gB 3) (dB addD (gV 4) (cst (.int 1)))) (gV 5)) (dB addD (gV 4) (cst (.int 1)))) dSkip)))
    (dF [3] (dSet 1 (gV 3))))))
  (dRet (gV 1))))
def t_l_partings : List D → T D := bodyT 6 (b_l_partings)
def b_l_factors : Eng.Env → T Out :=
  (dSeq (dSet 2 (dB addD (dLst (dCons (cst (.int 1)) dNil)) (dB mulD (dLst (dCons (cst (.int 0)) dNil)) (gV 1))))
  (dSeq (dFor (dC range1 (dCons (gV 1) dNil)) (tgName 3) (dSeq (dOwn 4 (dB mulN (dLst (dCons (cst (.int 0)) dNil)) (dB addD (gV 1) (cst (.int 1)))))
    (dSeq (dFor (dC enumOf (dCons (gV 2) dNil)) (tgTup (tgCons (tgName 5) (tgCons (tgName 6) tgNil)) 2) (dSeq (dSetIx 4 (dB addD (dB ixD (gB 4) (gV 5)) (gV 6)) (gV 5))
      (dIf (dB ltD (gV 5) (gV 1)) (dSetIx 4 (dB addD (dB ixD (gB 4) (dB addD (gV 5) (cst (.int 1)))) (dB mulD (dB mulD (gV 6) (dB subD (gV 1) (gV 5))) (dB subD (gV 0) (cst (.int 1))))) (dB addD (gV 5) (cst (.int 1)))) dSkip)))
    (dF [4] (dSet 2 (gV 4))))))
  (dRet (dC sumD (dCons (gV 2) dNil)))))
def t_l_factors : List D → T D := bodyT 7 (b_l_factors)
def b_l_many : Eng.Env → T Out :=
  (dSeq (dIf (dB eqD (gV 0) (cst (.str "cross"))) (dRet (dIf (dB eqD (gV 2) (gV 3)) (dC t_l_onto (dCons (gV 3) (dCons (gV 2) dNil))) (cst (.int 0)))) dSkip)
  (dSeq (dIf (dB eqD (gV 0) (cst (.str "copy"))) (dRet (dC t_l_onto (dCons (gV 3) (dCons (gV 2) dNil)))) dSkip)
  (dSeq (dIf (dB eqD (gV 0) (cst (.str "copy drop"))) (dRet (dC t_l_power (dCons (gV 2) (dCons (gV 3) dNil)))) dSkip)
  (dSeq (dIf (dB eqD (gV 0) (cst (.str "copy uncopy"))) (dRet (dC sumD (dCons (dLst (dComp (dC enumOf (dCons (dC t_l_partings (dCons (gV 2) dNil)) dNil)) (tgTup (tgCons (tgName 4) (tgCons (tgName 5) tgNil)) 2) (fun _ => T.ret true) (dB mulD (gV 5) (dC t_l_onto (dCons (gV 3) (dCons (gV 4) dNil)))) [4, 5])) dNil))) dSkip)
  (dSeq (dIf (dB eqD (gV 0) (cst (.str "copy drop uncopy undrop"))) (dRet (dC sumD (dCons (dC t_l_partings (dCons (dB addD (gV 2) (gV 3)) dNil)) dNil))) dSkip)
  (dSeq (dIf (dB eqD (gV 0) (cst (.str "times"))) (dRet (dIf (dB eqD (gV 2) (gV 3)) (dC t_l_factors (dCons (gV 1) (dCons (gV 2) dNil))) (cst (.int 0)))) dSkip)
  (dSeq (dSet 6 (dIf (dB inD (gV 0) (dLst (dCons (cst (.str "copy drop add nought")) (dCons (cst (.str "copy drop add nought undrop")) dNil)))) (cst (.str "lead")) (cst (.str "any"))))
  (dSeq (dSet 7 (dIf (dB inD (gV 0) (dLst (dCons (cst (.str "copy drop add nought")) (dCons (cst (.str "copy drop add nought unnought")) dNil)))) (cst (.str "loose")) (cst (.str "any"))))
  (dRet (dC t_l_stairs (dCons (gV 1) (dCons (dB addD (dB mulD (dLst (dCons (gV 6) dNil)) (gV 2)) (dB mulD (dLst (dCons (gV 7) dNil)) (gV 3))) dNil))))))))))))
def t_l_many : List D → T D := bodyT 8 (b_l_many)
def b_l_count : Eng.Env → T Out :=
  (dRet (dIf (dB eqD (dB ixD (gV 0) (cst (.int 3))) (cst (.int 1))) (dC t_l_many (dCons (dB ixD (gV 0) (cst (.int 1))) (dCons (gV 1) (dCons (gV 3) (dCons (gV 2) dNil))))) (dC t_l_many (dCons (dB ixD (gV 0) (cst (.int 1))) (dCons (gV 1) (dCons (gV 2) (dCons (gV 3) dNil)))))))
def t_l_count : List D → T D := bodyT 4 (b_l_count)
def b_l_is_counted : Eng.Env → T Out :=
  (dSeq (dFor (dU itemsD (fun _ => t_l_stands [])) (tgName 3) (dSeq (dSet 4 (dC t_l_count (dCons (gV 3) (dCons (gV 0) (dCons (gV 1) (dCons (gV 2) dNil))))))
    (dSeq (dSet 5 (dLst (dCons (dC t_sort_count (dCons (dB ixD (gV 3) (cst (.int 0))) (dCons (gV 0) (dCons (gV 1) (dCons (gV 2) dNil))))) (dCons (dCK t_sort_count [3, 2, 0, 1] dNil (dCons (gV 1) (dCons (gV 2) (dCons (gV 0) (dCons (dB ixD (gV 3) (cst (.int 0))) dNil))))) dNil))))
    (dIf (dB neD (dC reprD (dCons (gV 5) dNil)) (dC reprD (dCons (dLst (dCons (gV 4) (dCons (gV 4) dNil))) dNil))) (dRet (cst (.bl false))) dSkip))))
  (dRet (cst (.bl true))))
def t_l_is_counted : List D → T D := bodyT 6 (b_l_is_counted)
def b_law (a0 : Addr) : Eng.Env → T Out :=
  (dSeq (dFor (dC range1 (dCons (cst (.int 4)) dNil)) (tgName 2) (dSeq (dPar 5 6 (dCons (dC (t_l_pick a0) (dCons (gV 1) (dCons (dLst (dCons (cst (.int 2)) (dCons (cst (.int 3)) (dCons (cst (.int 5)) (dCons (cst (.int 7)) dNil))))) dNil))) (dCons (dC (t_l_pick a0) (dCons (gV 1) (dCons (dLst (dCons (cst (.int 8)) (dCons (cst (.int 8)) (dCons (cst (.int 8)) (dCons (cst (.int 7)) (dCons (cst (.int 6)) (dCons (cst (.int 5)) (dCons (cst (.int 4)) (dCons (cst (.int 3)) (dCons (cst (.int 2)) (dCons (cst (.int 1)) (dCons (cst (.int 0)) dNil)))))))))))) dNil))) dNil)))
    (dSeq (dSet 3 (dC (t_l_pick a0) (dCons (gV 1) (dCons (dLst (dCons (dC (drawT a0) (dCons (gV 1) (dCons (dB addD (gV 6) (cst (.int 1))) dNil))) (dCons (dC (drawT a0) (dCons (gV 1) (dCons (dB addD (gV 6) (cst (.int 1))) dNil))) (dCons (dB fdivD (gV 6) (cst (.int 2))) dNil)))) dNil))))
    (dSeq (dSet 4 (dB subD (gV 6) (gV 3)))
    (dSeq (dIf (dNot (dU truthD (dC t_l_is_counted (dCons (gV 5) (dCons (gV 3) (dCons (gV 4) dNil)))))) (dRet (cst (.bl false))) dSkip)
    (dIf (dAnd (dB eqD (gV 2) (cst (.int 0))) (dNot (dU truthD (dC t_l_is_counted (dCons (gV 5) (dCons (gV 4) (dCons (gV 3) dNil))))))) (dRet (cst (.bl false))) dSkip))))))
  (dSeq (dSet 7 (dC (t_l_pick a0) (dCons (gV 1) (dCons (fun _ => t_l_stands []) dNil))))
  (dSeq (dFor (dU itemsD (dLst (dCons (cst (.int 2)) (dCons (cst (.int 3)) (dCons (cst (.int 5)) (dCons (cst (.int 7)) dNil)))))) (tgName 5) (dSeq (dSet 3 (dC (drawT a0) (dCons (gV 1) (dCons (cst (.int 5)) dNil))))
    (dSeq (dSet 4 (dC (t_l_pick a0) (dCons (gV 1) (dCons (dLst (dCons (gV 3) (dCons (dC (drawT a0) (dCons (gV 1) (dCons (cst (.int 5)) dNil))) dNil))) dNil))))
    (dIf (dB neD (dC reprD (dCons (dC t_sort_count (dCons (dB ixD (gV 7) (cst (.int 0))) (dCons (gV 5) (dCons (gV 3) (dCons (gV 4) dNil))))) dNil)) (dC reprD (dCons (dC t_l_count (dCons (gV 7) (dCons (gV 5) (dCons (gV 3) (dCons (gV 4) dNil))))) dNil))) (dRet (cst (.bl false))) dSkip))))
  (dSeq (dSet 8 (dLst (dCons (dC t_sort_count (dCons (cst (.str "copy drop")) (dCons (cst (.int 3)) (dCons (cst (.int 2)) (dCons (cst (.int 3)) dNil))))) (dCons (dC t_sort_count (dCons (cst (.str "copy uncopy")) (dCons (cst (.int 2)) (dCons (cst (.int 2)) (dCons (cst (.int 2)) dNil))))) (dCons (dC t_sort_count (dCons (cst (.str "times")) (dCons (cst (.int 3)) (dCons (cst (.int 2)) (dCons (cst (.int 2)) dNil))))) dNil)))))
  (dRet (dBl (dB eqD (dC reprD (dCons (dB addD (gV 8) (dLst (dCons (dC t_sort_count (dCons (cst (.str "copy drop add nought unnought")) (dCons (cst (.int 2)) (dCons (cst (.int 1)) (dCons (cst (.int 1)) dNil))))) dNil))) dNil)) (dC reprD (dCons (dLst (dCons (cst (.int 8)) (dCons (cst (.int 3)) (dCons (cst (.int 17)) (dCons (cst (.int 3)) dNil))))) dNil)))))))))
section
variable {P : Program} {w : World} {K : PySem.W.Frag} {mg : Str → Option Value} {base : Heap} {PX : APr} {a0 a1 a2 : Addr} {asc : Addr} {ns : List Int}
theorem d_l_spring (hd : Hd K w mg) : DefG P w K mg base (PXc K asc ns) 1 "_law_spring" s_l_spring p_l_spring (t_l_spring asc ns) :=
  .mk' (N := n_l_spring) hd.at_l_spring sc_l_spring bn_l_spring fun f cdv Ar outer s H E hr hgd A hA hE => by
    have hu64 := hr64 hr
    have hu65 := hr65 hr
    have hu66 := hr66 hr
    exact (ss_cons (s_ownLc 1 rfl sc_l_spring.nd rfl rfl (sw_true rfl rfl rfl (by decide +kernel)) (own := [("_law_cell", 2)]) (blkOk_by (by rfl)) (i_seqB (toB (toD (r_script hA (r_var 0))))) (by decide) (fun _ _ _ _ _ => (g_name 2 sc_l_spring.nd rfl (by first | exact Or.inl rfl | exact Or.inr rfl))) (fun _ _ _ _ _ => ts_nil) (fun _ _ _ _ _ => (r_bin op_addAll opD_add (toB (r_bin op_mulAll opD_mul (toB r_int) (toB (r_callB call_abs ca_abs (by rfl) hd.b_abs (by decide +kernel) (b_cons (toB (r_var 2)) b_nil))))) (toB (r_callT call_int1 ca_int (by rfl) hd.b_int (by decide +kernel) (b_cons (toB (r_cmp op_lt opC_lt (toB (r_var 2)) (toB r_int) (nomark _))) b_nil))))))
  (ss_cons (s_set 3 sc_l_spring.nd rfl (.inl rfl) (r_bin op_addAll opD_add (toB r_int) (toB (r_callB call_len ca_len (by rfl) hd.b_len PySem.boot_len (b_cons (r_varB 1) b_nil)))))
  (ss_cons (s_frz [1] (s_for PassesOwn.never rfl (i_seq (r_var 1)) (g_name 2 sc_l_spring.nd rfl (.inl rfl)) (ss_one (s_set 3 sc_l_spring.nd rfl (.inl rfl) (r_bin op_mod opD_mod (toB (r_callT call_int1 ca_int (by rfl) hd.b_int (by decide +kernel) (b_cons (toB (r_bin op_addAll opD_add (toB (r_bin op_addAll opD_add (toB (r_bin op_mulAll opD_mul (toB (r_var 3)) (toB r_int))) (toB (r_var 2)))) (toB r_int))) b_nil))) (toB r_int))))))
  (ss_one (s_ret (r_dct _ (dd_str (toD (r_lc rfl sc_l_spring.nd (own := [("_law_cell", 2)]) (blkOk_by (by rfl)) (i_seqB (r_varB 1)) (by decide) (fun _ _ _ _ _ => (g_name 2 sc_l_spring.nd rfl (by first | exact Or.inl rfl | exact Or.inr rfl))) (fun _ _ _ _ _ => (ts_one (t_cmp op_ge opC_ge (toB (r_var 2)) (toB (r_bin op_pow opD_pow (toB r_int) (toB r_int))) (nomark _)))) (fun _ _ _ _ _ => (r_var 2)))) (dd_str (r_bin op_addAll opD_add (r_varB 1) (toB (toD (r_lst (a_cons (r_var 3) a_nil))))) (dd_str (r_var 3) (dd_str r_int dd_nil)))) (by rfl) (by rfl) (by simp) (by decide) (by decide) (by decide)))))))
--DRAW l_draw
theorem d_l_draw (hd : Hd K w mg) : DefG P w K mg base (PX1 a0 a1 a2) 1 "_law_draw" s_l_draw p_l_draw (drawT a0) := by
  have at_ := hd.at_l_draw
  have mint := hd.b_int
  have mlen := hd.b_len
  refine .mkRaw (N := n_l_draw) at_ sc_l_draw (fun _ _ _ _ _ _ us h => ?_) fun f cdv Ar outer s H E hr hg A G vs ds Q pa s1 hf r hl hw => ?_
  · match us, h with
    | [u, v], _ => rfl
  obtain ⟨⟨hF, hS⟩, h12⟩ := pa
  have hu := hu_of hr
  have hu64 : (Ar.deeper (envOfC "_law_draw" (defScope s_l_draw) s.heap.objs.size f cdv)).units + 64 < cLine := by have := hr.un; omega
  obtain ⟨n, rfl, n0, n1, hq⟩ := drawT_wp hw
  have rv := RpAll.two r
  subst rv
  refine ⟨_, pss_cons (ps_set (i := 2) sc_l_draw.nd rfl (.inl rfl) (pe_dget hu (pv 0) pe_str (fun _ _ => rfl)))
    (pss_cons (ps_if (pt_cmpR (op_neD hu64) (pv 2) (pe_lst pa_nil) (nomark _))
      (pss_cons (ps_set (i := 3) sc_l_draw.nd rfl (.inl rfl) (pe_ix ix_list (pv 2) (pe_un un_neg pe_int) (fun _ _ => rfl)))
      (pss_cons (ps_asg (pe_op op_fdiv (pv 3) (pv 1)) (pg_sub (pv 2) (pe_un un_neg pe_int) set_list))
      (pss_cons (ps_if (pt_cmpR op_lt (pv 3) (pv 1) (nomark _)) (pss_one (ps_expr (pe_bm0 PySem.F.plainAttrs_list PySem.F.slot_list_pop PySem.F.type_list_pop mt_pop (pv 2)))) pss_nil)
      (pss_one (ps_ret (pe_op op_mod (pe_callTy call_int1 (by rfl) mint (by decide +kernel) (pa_cons (pv 3) pa_nil)) (pv 1))))))) pss_nil)
    (pss_cons (ps_dput hu (pv 0) pe_str (pe_op op_add (pe_dget hu (pv 0) pe_str (fun _ _ => rfl)) pe_int) rfl)
    (pss_cons (ps_par (i := 4) (j := 5) rfl sc_l_draw.nd rfl rfl (by decide) rfl rfl (pa_cons (pe_dget hu (pv 0) pe_str (fun _ _ => rfl)) (pa_cons (pe_dget hu (pv 0) pe_str (fun _ _ => rfl)) pa_nil)) rfl)
    (pss_cons (ps_set (i := 6) sc_l_draw.nd rfl (.inl rfl) (pe_op op_mod (pe_callTy call_int1 (by rfl) mint (by decide +kernel) (pa_cons (pe_op op_add (pe_ix ix_list (pv 5) (pe_op op_mod (pe_callTy call_int1 (by rfl) mint (by decide +kernel) (pa_cons (pv 4) pa_nil)) (pe_callB call_len_seq (by rfl) mlen PySem.boot_len (pa_cons (pv 5) pa_nil))) (fun _ _ => rfl))
        (pe_op op_mul (pe_dget hu (pv 0) pe_str (fun _ _ => rfl)) (pe_op op_add (pv 4) pe_int))) pa_nil)) pe_int))
    (pss_cons (ps_set (i := 6) sc_l_draw.nd rfl (.inl rfl) (pe_op op_mod (pe_callTy call_int1 (by rfl) mint (by decide +kernel) (pa_cons (pe_op op_add (pe_op op_add (pe_op op_mul (pv 6) (pv 6)) (pe_op op_mul pe_int (pv 4))) pe_int) pa_nil)) pe_int))
    (pss_cons (ps_set (i := 6) sc_l_draw.nd rfl (.inl rfl) (pe_op op_mod (pe_callTy call_int1 (by rfl) mint (by decide +kernel) (pa_cons (pe_op op_add (pe_op op_add (pe_op op_mul (pv 6) (pv 6)) (pe_op op_mul pe_int (pv 6))) (pv 4)) pa_nil)) pe_int))
    (pss_one (ps_ret (pe_op op_mod (pe_callTy call_int1 (by rfl) mint (by decide +kernel) (pa_cons (pe_op op_fdiv (pv 6) pe_int) pa_nil)) (pv 1)))))))))), ?_⟩
  have hSI := s1.si
  rw [hS] at hSI
  obtain ⟨es, cs, st, tn, h0, h1, h2, hc, hst⟩ := hSI
  have F0 : A.F a0 := by rw [hF]; exact .inl rfl
  have F1 : A.F a1 := by rw [hF]; exact .inr (.inl rfl)
  have n01 : a0 ≠ a1 := ne_of h0 h1 (by intro z; cases z)
  have n02 : a0 ≠ a2 := ne_of h0 h2 (by intro z; cases z)
  have fin : ∀ (x : Int) (H' : Hp), (∀ a o, ¬ A.F a → H a = some o → H' a = some o) → Spr1 a0 a1 a2 H' → Q (.int (x % n)) H' := fun x H' hk si =>
    hq (x % n) (Int.emod_nonneg x (by omega)) (Int.emod_lt_of_pos x n0) _ G H' (.upF s1 hf hk (by rw [hS]; exact si)) (.int _)
  refine ⟨.ref a0, rfl, a0, .ref a1, rfl, .inl ⟨_, .inr "deep", .inl h0, rfl, rfl⟩, ?_⟩
  refine ⟨.ref a1, rfl, Nat.zero_le _, fun q hq0 => ?_⟩
  have q1 : q ≠ a1 := fun z => by rw [z, h1] at hq0; cases hq0
  refine ⟨_, .list [], .lst (.inl (.inl (by rw [upd_ne q1.symm]; exact h1))) (dp_ints es), .lst (.inl (.inl upd_same)) .nil, shaped_ints es, rfl, _, rfl, ?_⟩
  rw [eqv_nil]
  have hb : (!(es.map PyData.int).isEmpty) = !es.isEmpty := by cases es <;> rfl
  rw [hb]
  cases he : es with
  | cons e0 er =>
    obtain ⟨l, c, hlc⟩ := last_int (ds := es) (by rw [he]; exact List.cons_ne_nil _ _)
    rw [hlc] at h1
    refine iteT ?_
    have h1q : (upd H q (.lst [])) a1 = some (.lst ((l ++ [c]).map V.int)) := by rw [upd_ne q1.symm]; exact h1
    refine ⟨_, rfl, ⟨1, rfl, a1, _, _, _, rfl, rfl, .inl (.inl h1q), atI_last l c, ?_⟩⟩
    refine ⟨.int c, rfl, _, rfl, c, n, rfl, rfl, ⟨n0, n1⟩, .ref a1, rfl, ⟨1, rfl, a1, _, _, _, rfl, rfl, h1q, ixN_last l c, ?_⟩⟩
    rw [set_last]
    refine ⟨.int c, rfl, .int n, rfl, c, n, rfl, rfl, _, rfl, ?_⟩
    have e0q : a0 ≠ q := ne_of_none h0 hq0
    have e2q : a2 ≠ q := ne_of_none h2 hq0
    have k1 : ∀ a u, ¬ A.F a → H a = some u → (upd (upd H q (.lst [])) a1 (.lst ((l ++ [c / n]).map V.int))) a = some u := keep_tr (new_keep hq0) (upd_keep F1)
    refine ite2 (fun _ => ?_) (fun _ => ?_)
    · refine ⟨.ref a1, rfl, .inl ⟨rfl, _, .inl (.inl upd_same)⟩, a1, _, .int (c / n), rfl, rfl, upd_same, pop_last l _, ?_⟩
      refine ⟨.int c, rfl, .inl ⟨c, rfl, .int n, rfl, c, n, rfl, rfl, n0, fin c _ (keep_tr k1 (upd_keep F1)) ⟨l, cs, st, tn, ?_, ?_, ?_, hc, hst⟩⟩⟩
      · rw [upd_ne n01, upd_ne n01, upd_ne e0q]; exact h0
      · rw [upd_same, drop_last]
      · rw [upd_ne h12.symm, upd_ne h12.symm, upd_ne e2q]; exact h2
    · refine ⟨.int c, rfl, .inl ⟨c, rfl, .int n, rfl, c, n, rfl, rfl, n0, fin c _ k1 ⟨l ++ [c / n], cs, st, tn, ?_, ?_, ?_, hc, hst⟩⟩⟩
      · rw [upd_ne n01, upd_ne e0q]; exact h0
      · rw [upd_same]
      · rw [upd_ne h12.symm, upd_ne e2q]; exact h2
  | nil =>
    refine iteF ?_
    have e0q : a0 ≠ q := ne_of_none h0 hq0
    have e2q : a2 ≠ q := ne_of_none h2 hq0
    have h0q : (upd H q (.lst [])) a0 = _ := (upd_ne e0q).trans h0
    refine ⟨.ref a0, rfl, a0, .int tn, rfl, .inl ⟨_, .inr "turn", .inl h0q, rfl, rfl⟩, tn, 1, rfl, rfl, .ref a0, rfl, a0, _, rfl, .inl ⟨_, .inr "turn", h0q, rfl, by show 4 < sizeLine; decide, rfl⟩, ?_⟩
    have hp : putK [((.inr "deep" : Key), V.ref a1), (.inr "cells", V.ref a2), (.inr "stir", V.int st), (.inr "turn", V.int tn)] (.inr "turn") (.int (tn + 1)) = [(.inr "deep", .ref a1), (.inr "cells", .ref a2), (.inr "stir", .int st), (.inr "turn", .int (tn + 1))] := rfl
    rw [hp]
    have hk : ∀ a u, ¬ A.F a → H a = some u → (upd (upd H q (.lst [])) a0 (.dK [(.inr "deep", .ref a1), (.inr "cells", .ref a2), (.inr "stir", .int st), (.inr "turn", .int (tn + 1))])) a = some u := keep_tr (new_keep hq0) (upd_keep F0)
    have hsp : Spr1 a0 a1 a2 (upd (upd H q (.lst [])) a0 (.dK [(.inr "deep", .ref a1), (.inr "cells", .ref a2), (.inr "stir", .int st), (.inr "turn", .int (tn + 1))])) := ⟨es, cs, st, tn + 1, upd_same, by rw [upd_ne n01.symm, upd_ne q1.symm]; exact h1, by rw [upd_ne n02.symm, upd_ne e2q]; exact h2, hc, hst⟩
    obtain ⟨es', cs', st', tn', g0, g1, g2, gc, gst⟩ := hsp
    refine ⟨.ref a0, rfl, a0, .int tn', rfl, .inl ⟨_, .inr "turn", .inl g0, rfl, rfl⟩, .ref a0, rfl, a0, .ref a2, rfl, .inl ⟨_, .inr "cells", .inl g0, rfl, rfl⟩, _, _, rfl, ?_⟩
    have hsp : Spr1 a0 a1 a2 (upd (upd H q (.lst [])) a0 (.dK [(.inr "deep", .ref a1), (.inr "cells", .ref a2), (.inr "stir", .int st), (.inr "turn", .int (tn + 1))])) := ⟨es', cs', st', tn', g0, g1, g2, gc, gst⟩
    obtain ⟨z, hz⟩ := at_mod tn' gc
    refine ⟨.ref a2, rfl, .int tn', rfl, .inl ⟨tn', rfl, .ref a2, rfl, a2, _, rfl, .inl (.inl (.inl g2)), tn', _, rfl, rfl, ?_, a2, _, _, _, rfl, rfl, .inl (.inl g2), hz, ?_⟩⟩
    · rw [List.length_map]
      have := List.length_pos_iff.mpr gc
      show (0 : Int) < _
      omega
    refine ⟨.ref a0, rfl, a0, .int st', rfl, .inl ⟨_, .inr "stir", .inl g0, rfl, rfl⟩, .int tn', rfl, tn', 7, rfl, rfl, st', tn' + 7, rfl, rfl, .inl (by omega), z, _, rfl, rfl, .inl ⟨_, rfl, _, _, rfl, rfl, (show (0 : Int) < 2147483647 by decide), ?_⟩⟩
    refine ⟨_, rfl, _, rfl, _, _, rfl, rfl, .inl (mod_small _ (by decide) (by decide)), .int tn', rfl, 69621, tn', rfl, rfl, .inl (by decide), _, 69621 * tn', rfl, rfl, _, 11, rfl, rfl, .inl ⟨_, rfl, _, _, rfl, rfl, (show (0 : Int) < 2147483629 by decide), ?_⟩⟩
    refine ⟨_, rfl, _, rfl, _, _, rfl, rfl, .inl (mod_small _ (by decide) (by decide)), _, rfl, 48271, _, rfl, rfl, .inl (by decide), _, _, rfl, rfl, .int tn', rfl, _, tn', rfl, rfl, .inl ⟨_, rfl, _, _, rfl, rfl, (show (0 : Int) < 2147483587 by decide), ?_⟩⟩
    exact ⟨_, rfl, _, 64, rfl, rfl, ⟨by decide, by decide⟩, .inl ⟨_, rfl, .int n, rfl, _, n, rfl, rfl, n0, fin _ _ hk hsp⟩⟩

theorem d_l_pick (hd : Hd K w mg) : DefG P w K mg base (PX1 a0 a1 a2) 2 "_law_pick" s_l_pick p_l_pick (t_l_pick a0) :=
  .mk' (N := n_l_pick) hd.at_l_pick sc_l_pick bn_l_pick fun f cdv Ar outer s H E hr hgd A hA hE => by
    have hu64 := hr64 hr
    have hu65 := hr65 hr
    have hu66 := hr66 hr
    exact (ss_one (s_ret (r_ix (toB (r_var 1)) (toB (r_call ((d_l_draw hd).mono (k := 1) (by decide)) hr hgd hA hE (by rfl) (a_cons (r_var 0) (a_cons (r_callB call_len ca_len (by rfl) hd.b_len PySem.boot_len (b_cons (toB (r_var 1)) b_nil)) a_nil)))))))
theorem d_l_stands (hd : Hd K w mg) : DefG P w K mg base PX 1 "_law_stands" s_l_stands p_l_stands t_l_stands :=
  .mk' (N := n_l_stands) hd.at_l_stands sc_l_stands bn_l_stands fun f cdv Ar outer s H E hr hgd A hA hE => by
    have hu64 := hr64 hr
    have hu65 := hr65 hr
    have hu66 := hr66 hr
    exact (ss_cons (s_asg (r_tup (a_cons r_str (a_cons r_str a_nil))) (g_tup rfl (gs_cons (g_name 0 sc_l_stands.nd rfl (.inl rfl)) (gs_cons (g_name 1 sc_l_stands.nd rfl (.inl rfl)) gs_nil))))
  (ss_cons (s_own 2 sc_l_stands.nd rfl (.inl rfl) (r_lst (a_cons (toD (r_lst (a_cons r_str (a_cons r_str (a_cons r_int (a_cons r_int a_nil)))))) (a_cons (toD (r_lst (a_cons r_str (a_cons r_str (a_cons r_int (a_cons r_int a_nil)))))) (a_cons (toD (r_lst (a_cons r_str (a_cons r_str (a_cons r_int (a_cons r_int a_nil)))))) a_nil)))))
  (ss_cons (s_own 2 sc_l_stands.nd rfl (.inl rfl) (r_binN op_cat opN_cat (r_varB 2) (toB (toD (r_lst (a_cons (toD (r_lst (a_cons r_str (a_cons r_str (a_cons r_int (a_cons r_int a_nil)))))) (a_cons (toD (r_lst (a_cons r_str (a_cons r_str (a_cons r_int (a_cons r_int a_nil)))))) a_nil)))))))
  (ss_cons (s_own 2 sc_l_stands.nd rfl (.inl rfl) (r_binN op_cat opN_cat (r_varB 2) (toB (toD (r_lst (a_cons (toD (r_lst (a_cons r_str (a_cons r_str (a_cons r_int (a_cons r_int a_nil)))))) (a_cons (toD (r_lst (a_cons (r_var 0) (a_cons (r_var 0) (a_cons r_int (a_cons r_int a_nil)))))) (a_cons (toD (r_lst (a_cons r_str (a_cons r_str (a_cons r_int (a_cons r_int a_nil)))))) a_nil))))))))
  (ss_cons (s_own 2 sc_l_stands.nd rfl (.inl rfl) (r_binN op_cat opN_cat (r_varB 2) (toB (toD (r_lst (a_cons (toD (r_lst (a_cons r_str (a_cons r_str (a_cons r_int (a_cons r_int a_nil)))))) (a_cons (toD (r_lst (a_cons r_str (a_cons r_str (a_cons r_int (a_cons r_int a_nil)))))) (a_cons (toD (r_lst (a_cons r_str (a_cons r_str (a_cons r_int (a_cons r_int a_nil)))))) a_nil))))))))
  (ss_cons (s_app 2 rfl (.inl rfl) (toD (r_lst (a_cons r_str (a_cons r_str (a_cons r_int (a_cons r_int a_nil)))))))
  (ss_cons (s_own 2 sc_l_stands.nd rfl (.inl rfl) (r_binN op_cat opN_cat (r_varB 2) (toB (toD (r_lst (a_cons (toD (r_lst (a_cons r_str (a_cons (r_var 0) (a_cons r_int (a_cons r_int a_nil)))))) (a_cons (toD (r_lst (a_cons (r_var 1) (a_cons (r_var 1) (a_cons r_int (a_cons r_int a_nil)))))) a_nil)))))))
  (ss_cons (s_app 2 rfl (.inl rfl) (toD (r_lst (a_cons r_str (a_cons (r_var 1) (a_cons r_int (a_cons r_int a_nil)))))))
  (ss_cons (s_app 2 rfl (.inl rfl) (toD (r_lst (a_cons (r_bin op_addAll opD_add (toB (r_var 1)) (toB r_str)) (a_cons (r_bin op_addAll opD_add (toB (r_var 1)) (toB r_str)) (a_cons r_int (a_cons r_int a_nil)))))))
  (ss_cons (s_app 2 rfl (.inl rfl) (toD (r_lst (a_cons r_str (a_cons (r_bin op_addAll opD_add (toB (r_var 1)) (toB r_str)) (a_cons r_int (a_cons r_int a_nil)))))))
  (ss_cons (s_app 2 rfl (.inl rfl) (toD (r_lst (a_cons (r_bin op_addAll opD_add (toB (r_var 1)) (toB r_str)) (a_cons (r_bin op_addAll opD_add (toB (r_var 1)) (toB r_str)) (a_cons r_int (a_cons r_int a_nil)))))))
  (ss_cons (s_app 2 rfl (.inl rfl) (toD (r_lst (a_cons r_str (a_cons (r_bin op_addAll opD_add (toB (r_var 1)) (toB r_str)) (a_cons r_int (a_cons r_int a_nil)))))))
  (ss_cons (s_app 2 rfl (.inl rfl) (toD (r_lst (a_cons (r_bin op_addAll opD_add (toB (r_var 1)) (toB r_str)) (a_cons r_str (a_cons r_int (a_cons r_int a_nil)))))))
  (ss_cons (s_app 2 rfl (.inl rfl) (toD (r_lst (a_cons r_str (a_cons r_str (a_cons r_int (a_cons r_int a_nil)))))))
  (ss_one (s_ret (r_bin op_addAll opD_add (r_varB 2) (toB (toD (r_lst (a_cons (toD (r_lst (a_cons r_str (a_cons r_str (a_cons r_int (a_cons r_int a_nil)))))) (a_cons (toD (r_lst (a_cons r_str (a_cons r_str (a_cons r_int (a_cons r_int a_nil)))))) (a_cons (toD (r_lst (a_cons r_str (a_cons r_str (a_cons r_int (a_cons r_int a_nil)))))) a_nil)))))))))))))))))))))))
theorem d_need_sort (hd : Hd K w mg) : DefG P w K mg base PX 1 "need_sort" s_need_sort p_need_sort t_need_sort :=
  .mk' (N := n_need_sort) hd.at_need_sort sc_need_sort bn_need_sort fun f cdv Ar outer s H E hr hgd A hA hE => by
    have hu64 := hr64 hr
    have hu65 := hr65 hr
    have hu66 := hr66 hr
    exact (ss_one (s_if (t_pw (t_or (t_not (t_truth (toB (r_isi (t := "str") (by rfl) hd.b_isinstance (by rfl) hd.b_str (by decide +kernel) (toB (r_var 0)))))) (t_or1 (t_cmp (op_notInAll hu65) opC_notIn (toB (r_var 0)) (toB (r_glob (by rfl) hd.c_SORTS)) rfl)))) (ss_one s_never) ss_nil))
theorem d_power (hd : Hd K w mg) : DefG P w K mg base PX 1 "power" s_power p_power t_power :=
  .mk' (N := n_power) hd.at_power sc_power bn_power fun f cdv Ar outer s H E hr hgd A hA hE => by
    have hu64 := hr64 hr
    have hu65 := hr65 hr
    have hu66 := hr66 hr
    exact (ss_cons (s_set 2 sc_power.nd rfl (.inl rfl) r_int)
  (ss_cons (s_for PassesOwn.never rfl (i_range1 (by rfl) hd.b_range (b_cons (toB (r_var 1)) b_nil)) (g_name 3 sc_power.nd rfl (.inl rfl)) (ss_one (s_set 2 sc_power.nd rfl (.inl rfl) (r_bin op_mulAll opD_mul (toB (r_var 2)) (toB (r_var 0))))))
  (ss_one (s_ret (r_var 2)))))
theorem d_flat_count (hd : Hd K w mg) : DefG P w K mg base PX 2 "flat_count" s_flat_count p_flat_count t_flat_count :=
  .mk' (N := n_flat_count) hd.at_flat_count sc_flat_count bn_flat_count fun f cdv Ar outer s H E hr hgd A hA hE => by
    have hu64 := hr64 hr
    have hu65 := hr65 hr
    have hu66 := hr66 hr
    exact (ss_cons (s_set 3 sc_flat_count.nd rfl (.inr rfl) (r_bin op_addAll opD_add (toB (toD (r_lst (a_cons r_int a_nil)))) (toB (r_bin op_mulAll opD_mul (toB (toD (r_lst (a_cons r_int a_nil)))) (toB (r_var 2))))))
  (ss_cons (s_for PassesOwn.never rfl (i_range1 (by rfl) hd.b_range (b_cons (toB (r_var 1)) b_nil)) (g_name 4 sc_flat_count.nd rfl (.inl rfl)) (ss_one (s_set 3 sc_flat_count.nd rfl (.inr rfl) (r_bin op_addAll opD_add (toB (toD (r_lst (a_cons r_int a_nil)))) (toB (toD (r_lc rfl sc_flat_count.nd (own := [("place", 5)]) (blkOk_by (by rfl)) (toIB (i_range2 (by rfl) hd.b_range (b_cons (toB r_int) (b_cons (toB (r_bin op_addAll opD_add (toB (r_var 2)) (toB r_int))) b_nil)))) (by decide) (fun _ _ _ _ _ => (g_name 5 sc_flat_count.nd rfl (by first | exact Or.inl rfl | exact Or.inr rfl))) (fun _ _ _ _ _ => ts_nil) (fun _ _ _ _ _ => (r_bin op_addAll opD_add (toB (r_ix (toB (r_var 3)) (toB (r_bin op_sub opD_sub (toB (r_var 5)) (toB r_int))))) (toB (r_bin op_mulAll opD_mul (toB (r_call ((d_power hd).mono (k := 1) (by decide)) hr hgd hA hE (by rfl) (a_cons (r_var 0) (a_cons (r_var 5) a_nil)))) (toB (r_ix (toB (r_var 3)) (toB (r_var 5)))))))))))))))
  (ss_one (s_ret (r_ix (toB (r_var 3)) (toB (r_var 2)))))))
theorem d_table_count (hd : Hd K w mg) : DefG P w K mg base PX 3 "table_count" s_table_count p_table_count t_table_count :=
  .mk' (N := n_table_count) hd.at_table_count sc_table_count bn_table_count fun f cdv Ar outer s H E hr hgd A hA hE => by
    have hu64 := hr64 hr
    have hu65 := hr65 hr
    have hu66 := hr66 hr
    exact (ss_cons (s_if (t_cmp (op_eqAll hu64) opC_eq (toB (r_var 0)) (toB r_str) (nomark _)) (ss_one (s_ret (r_call ((d_power hd).mono (k := 2) (by decide)) hr hgd hA hE (by rfl) (a_cons (r_var 1) (a_cons (r_bin op_mulAll opD_mul (toB (r_var 2)) (toB (r_var 3))) a_nil))))) ss_nil)
  (ss_cons (s_if (t_cmp (op_eqAll hu64) opC_eq (toB (r_var 0)) (toB r_str) (nomark _)) (ss_one (s_ret (r_callB (cr_sum rfl) ca_sum (by rfl) hd.b_sum (by decide +kernel) (b_cons (toB (toD (r_lc rfl sc_table_count.nd (own := [("many", 4)]) (blkOk_by (by rfl)) (toIB (i_range1 (by rfl) hd.b_range (b_cons (toB (r_bin op_addAll opD_add (toB (r_var 2)) (toB r_int))) b_nil))) (by decide) (fun _ _ _ _ _ => (g_name 4 sc_table_count.nd rfl (by first | exact Or.inl rfl | exact Or.inr rfl))) (fun _ _ _ _ _ => ts_nil) (fun _ _ _ _ _ => (r_bin op_mulAll opD_mul (toB (r_call ((d_flat_count hd).mono (k := 2) (by decide)) hr hgd hA hE (by rfl) (a_cons (r_var 1) (a_cons (r_var 2) (a_cons (r_var 4) a_nil))))) (toB (r_call ((d_power hd).mono (k := 2) (by decide)) hr hgd hA hE (by rfl) (a_cons (r_var 1) (a_cons (r_bin op_mulAll opD_mul (toB (r_var 4)) (toB (r_var 3))) a_nil))))))))) b_nil)))) ss_nil)
  (ss_cons (s_if (t_cmp (op_eqAll hu64) opC_eq (toB (r_var 0)) (toB r_str) (nomark _)) (ss_one (s_ret (r_callB (cr_sum rfl) ca_sum (by rfl) hd.b_sum (by decide +kernel) (b_cons (toB (toD (r_lc rfl sc_table_count.nd (own := [("many", 4)]) (blkOk_by (by rfl)) (toIB (i_range1 (by rfl) hd.b_range (b_cons (toB (r_bin op_addAll opD_add (toB (r_var 3)) (toB r_int))) b_nil))) (by decide) (fun _ _ _ _ _ => (g_name 4 sc_table_count.nd rfl (by first | exact Or.inl rfl | exact Or.inr rfl))) (fun _ _ _ _ _ => ts_nil) (fun _ _ _ _ _ => (r_bin op_mulAll opD_mul (toB (r_call ((d_flat_count hd).mono (k := 2) (by decide)) hr hgd hA hE (by rfl) (a_cons (r_var 1) (a_cons (r_var 3) (a_cons (r_var 4) a_nil))))) (toB (r_call ((d_power hd).mono (k := 2) (by decide)) hr hgd hA hE (by rfl) (a_cons (r_var 1) (a_cons (r_bin op_mulAll opD_mul (toB (r_var 2)) (toB (r_bin op_sub opD_sub (toB (r_var 3)) (toB (r_var 4))))) a_nil))))))))) b_nil)))) ss_nil)
  (ss_one (s_ret (r_callB (cr_sum rfl) ca_sum (by rfl) hd.b_sum (by decide +kernel) (b_cons (toB (toD (r_lc rfl sc_table_count.nd (own := [("many", 4)]) (blkOk_by (by rfl)) (toIB (i_range1 (by rfl) hd.b_range (b_cons (toB (r_bin op_addAll opD_add (toB (r_bin op_addAll opD_add (toB (r_var 2)) (toB (r_var 3)))) (toB r_int))) b_nil))) (by decide) (fun _ _ _ _ _ => (g_name 4 sc_table_count.nd rfl (by first | exact Or.inl rfl | exact Or.inr rfl))) (fun _ _ _ _ _ => ts_nil) (fun _ _ _ _ _ => (r_call ((d_flat_count hd).mono (k := 2) (by decide)) hr hgd hA hE (by rfl) (a_cons (r_var 1) (a_cons (r_bin op_addAll opD_add (toB (r_var 2)) (toB (r_var 3))) (a_cons (r_var 4) a_nil)))))))) b_nil)))))))
theorem d_ways_onto (hd : Hd K w mg) : DefG P w K mg base PX 1 "ways_onto" s_ways_onto p_ways_onto t_ways_onto :=
  .mk' (N := n_ways_onto) hd.at_ways_onto sc_ways_onto bn_ways_onto fun f cdv Ar outer s H E hr hgd A hA hE => by
    have hu64 := hr64 hr
    have hu65 := hr65 hr
    have hu66 := hr66 hr
    exact (ss_cons (s_set 2 sc_ways_onto.nd rfl (.inr rfl) (r_bin op_addAll opD_add (toB (toD (r_lst (a_cons r_int a_nil)))) (toB (r_bin op_mulAll opD_mul (toB (toD (r_lst (a_cons r_int a_nil)))) (toB (r_var 1))))))
  (ss_cons (s_for PassesOwn.never rfl (i_range1 (by rfl) hd.b_range (b_cons (toB (r_var 0)) b_nil)) (g_name 3 sc_ways_onto.nd rfl (.inl rfl)) (ss_one (s_set 2 sc_ways_onto.nd rfl (.inr rfl) (r_bin op_addAll opD_add (toB (toD (r_lst (a_cons r_int a_nil)))) (toB (toD (r_lc rfl sc_ways_onto.nd (own := [("place", 4)]) (blkOk_by (by rfl)) (toIB (i_range2 (by rfl) hd.b_range (b_cons (toB r_int) (b_cons (toB (r_bin op_addAll opD_add (toB (r_var 1)) (toB r_int))) b_nil)))) (by decide) (fun _ _ _ _ _ => (g_name 4 sc_ways_onto.nd rfl (by first | exact Or.inl rfl | exact Or.inr rfl))) (fun _ _ _ _ _ => ts_nil) (fun _ _ _ _ _ => (r_bin op_mulAll opD_mul (toB (r_var 4)) (toB (r_bin op_addAll opD_add (toB (r_ix (toB (r_var 2)) (toB (r_var 4)))) (toB (r_ix (toB (r_var 2)) (toB (r_bin op_sub opD_sub (toB (r_var 4)) (toB r_int))))))))))))))))
  (ss_one (s_ret (r_ix (toB (r_var 2)) (toB (r_var 1)))))))
theorem d_orders_of (hd : Hd K w mg) : DefG P w K mg base PX 1 "orders_of" s_orders_of p_orders_of t_orders_of :=
  .mk' (N := n_orders_of) hd.at_orders_of sc_orders_of bn_orders_of fun f cdv Ar outer s H E hr hgd A hA hE => by
    have hu64 := hr64 hr
    have hu65 := hr65 hr
    have hu66 := hr66 hr
    exact (ss_cons (s_set 1 sc_orders_of.nd rfl (.inl rfl) r_int)
  (ss_cons (s_for PassesOwn.never rfl (i_range2 (by rfl) hd.b_range (b_cons (toB r_int) (b_cons (toB (r_bin op_addAll opD_add (toB (r_var 0)) (toB r_int))) b_nil))) (g_name 2 sc_orders_of.nd rfl (.inl rfl)) (ss_one (s_set 1 sc_orders_of.nd rfl (.inl rfl) (r_bin op_mulAll opD_mul (toB (r_var 1)) (toB (r_var 2))))))
  (ss_one (s_ret (r_var 1)))))
theorem d_parted_count (hd : Hd K w mg) : DefG P w K mg base PX 2 "parted_count" s_parted_count p_parted_count t_parted_count :=
  .mk' (N := n_parted_count) hd.at_parted_count sc_parted_count bn_parted_count fun f cdv Ar outer s H E hr hgd A hA hE => by
    have hu64 := hr64 hr
    have hu65 := hr65 hr
    have hu66 := hr66 hr
    exact (ss_cons (s_set 2 sc_parted_count.nd rfl (.inl rfl) r_int)
  (ss_cons (s_for PassesOwn.never rfl (i_range1 (by rfl) hd.b_range (b_cons (toB (r_bin op_addAll opD_add (toB (r_callB (call_min2 rfl) ca_min2 (by rfl) hd.b_min (by decide +kernel) (b_cons (toB (r_var 0)) (b_cons (toB (r_var 1)) b_nil)))) (toB r_int))) b_nil)) (g_name 3 sc_parted_count.nd rfl (.inl rfl)) (ss_one (s_set 2 sc_parted_count.nd rfl (.inl rfl) (r_bin op_addAll opD_add (toB (r_var 2)) (toB (r_bin op_fdiv opD_fdiv (toB (r_bin op_mulAll opD_mul (toB (r_call ((d_ways_onto hd).mono (k := 1) (by decide)) hr hgd hA hE (by rfl) (a_cons (r_var 0) (a_cons (r_var 3) a_nil)))) (toB (r_call ((d_ways_onto hd).mono (k := 1) (by decide)) hr hgd hA hE (by rfl) (a_cons (r_var 1) (a_cons (r_var 3) a_nil)))))) (toB (r_call ((d_orders_of hd).mono (k := 1) (by decide)) hr hgd hA hE (by rfl) (a_cons (r_var 3) a_nil)))))))))
  (ss_one (s_ret (r_var 2)))))
theorem d_bell_count (hd : Hd K w mg) : DefG P w K mg base PX 2 "bell_count" s_bell_count p_bell_count t_bell_count :=
  .mk' (N := n_bell_count) hd.at_bell_count sc_bell_count bn_bell_count fun f cdv Ar outer s H E hr hgd A hA hE => by
    have hu64 := hr64 hr
    have hu65 := hr65 hr
    have hu66 := hr66 hr
    exact (ss_one (s_ret (r_callB (cr_sum rfl) ca_sum (by rfl) hd.b_sum (by decide +kernel) (b_cons (toB (toD (r_lc rfl sc_bell_count.nd (own := [("many", 1)]) (blkOk_by (by rfl)) (toIB (i_range1 (by rfl) hd.b_range (b_cons (toB (r_bin op_addAll opD_add (toB (r_var 0)) (toB r_int))) b_nil))) (by decide) (fun _ _ _ _ _ => (g_name 1 sc_bell_count.nd rfl (by first | exact Or.inl rfl | exact Or.inr rfl))) (fun _ _ _ _ _ => ts_nil) (fun _ _ _ _ _ => (r_bin op_fdiv opD_fdiv (toB (r_call ((d_ways_onto hd).mono (k := 1) (by decide)) hr hgd hA hE (by rfl) (a_cons (r_var 0) (a_cons (r_var 1) a_nil)))) (toB (r_call ((d_orders_of hd).mono (k := 1) (by decide)) hr hgd hA hE (by rfl) (a_cons (r_var 1) a_nil)))))))) b_nil))))
theorem d_times_count (hd : Hd K w mg) : DefG P w K mg base PX 2 "times_count" s_times_count p_times_count t_times_count :=
  .mk' (N := n_times_count) hd.at_times_count sc_times_count bn_times_count fun f cdv Ar outer s H E hr hgd A hA hE => by
    have hu64 := hr64 hr
    have hu65 := hr65 hr
    have hu66 := hr66 hr
    exact (ss_cons (s_asg (r_tup (a_cons r_int (a_cons r_int a_nil))) (g_tup rfl (gs_cons (g_name 2 sc_times_count.nd rfl (.inl rfl)) (gs_cons (g_name 3 sc_times_count.nd rfl (.inl rfl)) gs_nil))))
  (ss_cons (s_for PassesOwn.never rfl (i_range1 (by rfl) hd.b_range (b_cons (toB (r_bin op_addAll opD_add (toB (r_var 1)) (toB r_int))) b_nil)) (g_name 4 sc_times_count.nd rfl (.inl rfl)) (ss_cons (s_set 2 sc_times_count.nd rfl (.inl rfl) (r_bin op_addAll opD_add (toB (r_var 2)) (toB (r_bin op_mulAll opD_mul (toB (r_bin op_mulAll opD_mul (toB (r_bin op_mulAll opD_mul (toB (r_var 3)) (toB (r_var 3)))) (toB (r_call ((d_orders_of hd).mono (k := 1) (by decide)) hr hgd hA hE (by rfl) (a_cons (r_var 4) a_nil))))) (toB (r_call ((d_power hd).mono (k := 1) (by decide)) hr hgd hA hE (by rfl) (a_cons (r_bin op_sub opD_sub (toB (r_var 0)) (toB r_int)) (a_cons (r_var 4) a_nil))))))))
    (ss_one (s_set 3 sc_times_count.nd rfl (.inl rfl) (r_bin op_fdiv opD_fdiv (toB (r_bin op_mulAll opD_mul (toB (r_var 3)) (toB (r_bin op_sub opD_sub (toB (r_var 1)) (toB (r_var 4)))))) (toB (r_bin op_addAll opD_add (toB (r_var 4)) (toB r_int))))))))
  (ss_one (s_ret (r_var 2)))))
theorem d_sort_count (hd : Hd K w mg) : DefG P w K mg base PX 4 "sort_count" s_sort_count p_sort_count t_sort_count :=
  .mk' (N := n_sort_count) hd.at_sort_count sc_sort_count bn_sort_count fun f cdv Ar outer s H E hr hgd A hA hE => by
    have hu64 := hr64 hr
    have hu65 := hr65 hr
    have hu66 := hr66 hr
    exact (ss_cons (s_expr (r_call ((d_need_sort hd).mono (k := 3) (by decide)) hr hgd hA hE (by rfl) (a_cons (r_var 0) a_nil)))
  (ss_cons (s_asg (r_kget2 hd.k_OTHERS (by rfl) (r_var 0) (r_tup (a_cons (r_var 0) (a_cons r_str a_nil)))) (g_tup rfl (gs_cons (g_name 4 sc_sort_count.nd rfl (.inl rfl)) (gs_cons (g_name 5 sc_sort_count.nd rfl (.inl rfl)) gs_nil))))
  (ss_cons (s_if (t_cmp (op_inAll hu65) opC_in (toB (r_var 5)) (toB (r_tup (a_cons r_str (a_cons r_str a_nil)))) rfl) (ss_one (s_par 2 3 rfl sc_sort_count.nd rfl rfl (by decide) rfl rfl (a_cons (r_var 3) (a_cons (r_var 2) a_nil)) rfl)) ss_nil)
  (ss_cons (s_if (t_cmp (op_eqAll hu64) opC_eq (toB (r_var 4)) (toB r_str) (nomark _)) (ss_one (s_ret (r_if (t_cmp (op_eqAll hu64) opC_eq (toB (r_var 2)) (toB (r_var 3)) (nomark _)) (r_call ((d_orders_of hd).mono (k := 3) (by decide)) hr hgd hA hE (by rfl) (a_cons (r_var 2) a_nil)) r_int))) ss_nil)
  (ss_cons (s_if (t_cmp (op_eqAll hu64) opC_eq (toB (r_var 4)) (toB r_str) (nomark _)) (ss_one (s_ret (r_call ((d_ways_onto hd).mono (k := 3) (by decide)) hr hgd hA hE (by rfl) (a_cons (r_var 3) (a_cons (r_var 2) a_nil))))) ss_nil)
  (ss_cons (s_if (t_cmp (op_eqAll hu64) opC_eq (toB (r_var 4)) (toB r_str) (nomark _)) (ss_one (s_ret (r_call ((d_power hd).mono (k := 3) (by decide)) hr hgd hA hE (by rfl) (a_cons (r_var 2) (a_cons (r_var 3) a_nil))))) ss_nil)
  (ss_cons (s_if (t_cmp (op_eqAll hu64) opC_eq (toB (r_var 4)) (toB r_str) (nomark _)) (ss_one (s_ret (r_call ((d_parted_count hd).mono (k := 3) (by decide)) hr hgd hA hE (by rfl) (a_cons (r_var 2) (a_cons (r_var 3) a_nil))))) ss_nil)
  (ss_cons (s_if (t_cmp (op_eqAll hu64) opC_eq (toB (r_var 4)) (toB r_str) (nomark _)) (ss_one (s_ret (r_call ((d_bell_count hd).mono (k := 3) (by decide)) hr hgd hA hE (by rfl) (a_cons (r_bin op_addAll opD_add (toB (r_var 2)) (toB (r_var 3))) a_nil)))) ss_nil)
  (ss_cons (s_if (t_cmp (op_eqAll hu64) opC_eq (toB (r_var 4)) (toB r_str) (nomark _)) (ss_one (s_ret (r_if (t_cmp (op_eqAll hu64) opC_eq (toB (r_var 2)) (toB (r_var 3)) (nomark _)) (r_call ((d_times_count hd).mono (k := 3) (by decide)) hr hgd hA hE (by rfl) (a_cons (r_var 1) (a_cons (r_var 2) a_nil))) r_int))) ss_nil)
  (ss_one (s_ret (r_call ((d_table_count hd).mono (k := 3) (by decide)) hr hgd hA hE (by rfl) (a_cons (r_var 4) (a_cons (r_var 1) (a_cons (r_var 2) (a_cons (r_var 3) a_nil))))))))))))))))
theorem d_l_power (hd : Hd K w mg) : DefG P w K mg base PX 1 "_law_power" s_l_power p_l_power t_l_power :=
  .mk' (N := n_l_power) hd.at_l_power sc_l_power bn_l_power fun f cdv Ar outer s H E hr hgd A hA hE => by
    have hu64 := hr64 hr
    have hu65 := hr65 hr
    have hu66 := hr66 hr
    exact (ss_cons (s_set 2 sc_l_power.nd rfl (.inl rfl) r_int)
  (ss_cons (s_for PassesOwn.never rfl (i_range1 (by rfl) hd.b_range (b_cons (toB (r_var 1)) b_nil)) (g_name 3 sc_l_power.nd rfl (.inl rfl)) (ss_one (s_set 2 sc_l_power.nd rfl (.inl rfl) (r_bin op_mulAll opD_mul (toB (r_var 2)) (toB (r_var 0))))))
  (ss_one (s_ret (r_var 2)))))
theorem d_l_stairs (hd : Hd K w mg) : DefG P w K mg base PX 2 "_law_stairs" s_l_stairs p_l_stairs t_l_stairs :=
  .mk' (N := n_l_stairs) hd.at_l_stairs sc_l_stairs bn_l_stairs fun f cdv Ar outer s H E hr hgd A hA hE => by
    have hu64 := hr64 hr
    have hu65 := hr65 hr
    have hu66 := hr66 hr
    exact (ss_cons (s_set 2 sc_l_stairs.nd rfl (.inl rfl) (r_bin op_addAll opD_add (toB (toD (r_lst (a_cons r_int a_nil)))) (toB (r_bin op_mulAll opD_mul (toB (toD (r_lst (a_cons r_int a_nil)))) (toB (r_callB call_len ca_len (by rfl) hd.b_len PySem.boot_len (b_cons (toB (r_var 1)) b_nil)))))))
  (ss_cons (s_for PassesOwn.never rfl (i_seq (r_var 1)) (g_name 3 sc_l_stairs.nd rfl (.inl rfl)) (ss_cons (s_own 4 sc_l_stairs.nd rfl (.inl rfl) (r_binN op_rep opN_rep (toB (toD (r_lst (a_cons r_int a_nil)))) (toB (r_callB call_len ca_len (by rfl) hd.b_len PySem.boot_len (b_cons (toB (r_var 2)) b_nil)))))
    (ss_cons (s_for PassesOwn.never rfl (i_enum (by rfl) hd.b_enumerate (a_cons (r_var 2) a_nil)) (g_tup rfl (gs_cons (g_name 5 sc_l_stairs.nd rfl (.inl rfl)) (gs_cons (g_name 6 sc_l_stairs.nd rfl (.inl rfl)) gs_nil))) (ss_cons (s_if (t_cmp (op_neAll hu64) opC_ne (toB (r_var 3)) (toB r_str) (nomark _)) (ss_one (s_setIx 4 rfl (.inl rfl) (r_bin op_addAll opD_add (toB (r_ix (r_varB 4) (toB (r_var 5)))) (toB (r_bin op_mulAll opD_mul (toB (r_var 6)) (toB (r_call ((d_l_power hd).mono (k := 1) (by decide)) hr hgd hA hE (by rfl) (a_cons (r_var 0) (a_cons (r_var 5) a_nil))))))) (toB (r_var 5)))) ss_nil)
      (ss_one (s_if (t_pw (t_and (t_cmp (op_neAll hu64) opC_ne (toB (r_var 3)) (toB r_str) (nomark _)) (t_and1 (t_cmp op_lt opC_lt (toB (r_bin op_addAll opD_add (toB (r_var 5)) (toB r_int))) (toB (r_callB call_len ca_len (by rfl) hd.b_len PySem.boot_len (b_cons (toB (r_var 2)) b_nil))) (nomark _))))) (ss_one (s_setIx 4 rfl (.inl rfl) (r_bin op_addAll opD_add (toB (r_ix (r_varB 4) (toB (r_bin op_addAll opD_add (toB (r_var 5)) (toB r_int))))) (toB (r_var 6))) (toB (r_bin op_addAll opD_add (toB (r_var 5)) (toB r_int))))) ss_nil))))
    (ss_one (s_frz [4] (s_set 2 sc_l_stairs.nd rfl (.inl rfl) (r_var 4)))))))
  (ss_one (s_ret (r_callB (cr_sum rfl) ca_sum (by rfl) hd.b_sum (by decide +kernel) (b_cons (toB (r_var 2)) b_nil))))))
theorem d_l_onto (hd : Hd K w mg) : DefG P w K mg base PX 1 "_law_onto" s_l_onto p_l_onto t_l_onto :=
  .mk' (N := n_l_onto) hd.at_l_onto sc_l_onto bn_l_onto fun f cdv Ar outer s H E hr hgd A hA hE => by
    have hu64 := hr64 hr
    have hu65 := hr65 hr
    have hu66 := hr66 hr
    exact (ss_cons (s_set 2 sc_l_onto.nd rfl (.inl rfl) (r_bin op_addAll opD_add (toB (toD (r_lst (a_cons r_int a_nil)))) (toB (r_bin op_mulAll opD_mul (toB (toD (r_lst (a_cons r_int a_nil)))) (toB (r_var 1))))))
  (ss_cons (s_for PassesOwn.never rfl (i_range1 (by rfl) hd.b_range (b_cons (toB (r_var 0)) b_nil)) (g_name 3 sc_l_onto.nd rfl (.inl rfl)) (ss_cons (s_own 4 sc_l_onto.nd rfl (.inl rfl) (r_binN op_rep opN_rep (toB (toD (r_lst (a_cons r_int a_nil)))) (toB (r_bin op_addAll opD_add (toB (r_var 1)) (toB r_int)))))
    (ss_cons (s_for PassesOwn.never rfl (i_enum (by rfl) hd.b_enumerate (a_cons (r_var 2) a_nil)) (g_tup rfl (gs_cons (g_name 5 sc_l_onto.nd rfl (.inl rfl)) (gs_cons (g_name 6 sc_l_onto.nd rfl (.inl rfl)) gs_nil))) (ss_cons (s_setIx 4 rfl (.inl rfl) (r_bin op_addAll opD_add (toB (r_ix (r_varB 4) (toB (r_var 5)))) (toB (r_bin op_mulAll opD_mul (toB (r_var 6)) (toB (r_var 5))))) (toB (r_var 5)))
      (ss_one (s_if (t_cmp op_lt opC_lt (toB (r_var 5)) (toB (r_var 1)) (nomark _)) (ss_one (s_setIx 4 rfl (.inl rfl) (r_bin op_addAll opD_add (toB (r_ix (r_varB 4) (toB (r_bin op_addAll opD_add (toB (r_var 5)) (toB r_int))))) (toB (r_bin op_mulAll opD_mul (toB (r_var 6)) (toB (r_bin op_sub opD_sub (toB (r_var 1)) (toB (r_var 5))))))) (toB (r_bin op_addAll opD_add (toB (r_var 5)) (toB r_int))))) ss_nil))))
    (ss_one (s_frz [4] (s_set 2 sc_l_onto.nd rfl (.inl rfl) (r_var 4)))))))
  (ss_one (s_ret (r_ix (toB (r_var 2)) (toB (r_var 1)))))))
theorem d_l_partings (hd : Hd K w mg) : DefG P w K mg base PX 1 "_law_partings" s_l_partings p_l_partings t_l_partings :=
  .mk' (N := n_l_partings) hd.at_l_partings sc_l_partings bn_l_partings fun f cdv Ar outer s H E hr hgd A hA hE => by
    have hu64 := hr64 hr
    have hu65 := hr65 hr
    have hu66 := hr66 hr
    exact (ss_cons (s_set 1 sc_l_partings.nd rfl (.inl rfl) (r_bin op_addAll opD_add (toB (toD (r_lst (a_cons r_int a_nil)))) (toB (r_bin op_mulAll opD_mul (toB (toD (r_lst (a_cons r_int a_nil)))) (toB (r_var 0))))))
  (ss_cons (s_for PassesOwn.never rfl (i_range1 (by rfl) hd.b_range (b_cons (toB (r_var 0)) b_nil)) (g_name 2 sc_l_partings.nd rfl (.inl rfl)) (ss_cons (s_own 3 sc_l_partings.nd rfl (.inl rfl) (r_binN op_rep opN_rep (toB (toD (r_lst (a_cons r_int a_nil)))) (toB (r_bin op_addAll opD_add (toB (r_var 0)) (toB r_int)))))
    (ss_cons (s_for PassesOwn.never rfl (i_enum (by rfl) hd.b_enumerate (a_cons (r_var 1) a_nil)) (g_tup rfl (gs_cons (g_name 4 sc_l_partings.nd rfl (.inl rfl)) (gs_cons (g_name 5 sc_l_partings.nd rfl (.inl rfl)) gs_nil))) (ss_cons (s_setIx 3 rfl (.inl rfl) (r_bin op_addAll opD_add (toB (r_ix (r_varB 3) (toB (r_var 4)))) (toB (r_bin op_mulAll opD_mul (toB (r_var 5)) (toB (r_var 4))))) (toB (r_var 4)))
      (ss_one (s_if (t_cmp op_lt opC_lt (toB (r_var 4)) (toB (r_var 0)) (nomark _)) (ss_one (s_setIx 3 rfl (.inl rfl) (r_bin op_addAll opD_add (toB (r_ix (r_varB 3) (toB (r_bin op_addAll opD_add (toB (r_var 4)) (toB r_int))))) (toB (r_var 5))) (toB (r_bin op_addAll opD_add (toB (r_var 4)) (toB r_int))))) ss_nil))))
    (ss_one (s_frz [3] (s_set 1 sc_l_partings.nd rfl (.inl rfl) (r_var 3)))))))
  (ss_one (s_ret (r_var 1)))))
theorem d_l_factors (hd : Hd K w mg) : DefG P w K mg base PX 1 "_law_factors" s_l_factors p_l_factors t_l_factors :=
  .mk' (N := n_l_factors) hd.at_l_factors sc_l_factors bn_l_factors fun f cdv Ar outer s H E hr hgd A hA hE => by
    have hu64 := hr64 hr
    have hu65 := hr65 hr
    have hu66 := hr66 hr
    exact (ss_cons (s_set 2 sc_l_factors.nd rfl (.inl rfl) (r_bin op_addAll opD_add (toB (toD (r_lst (a_cons r_int a_nil)))) (toB (r_bin op_mulAll opD_mul (toB (toD (r_lst (a_cons r_int a_nil)))) (toB (r_var 1))))))
  (ss_cons (s_for PassesOwn.never rfl (i_range1 (by rfl) hd.b_range (b_cons (toB (r_var 1)) b_nil)) (g_name 3 sc_l_factors.nd rfl (.inl rfl)) (ss_cons (s_own 4 sc_l_factors.nd rfl (.inl rfl) (r_binN op_rep opN_rep (toB (toD (r_lst (a_cons r_int a_nil)))) (toB (r_bin op_addAll opD_add (toB (r_var 1)) (toB r_int)))))
    (ss_cons (s_for PassesOwn.never rfl (i_enum (by rfl) hd.b_enumerate (a_cons (r_var 2) a_nil)) (g_tup rfl (gs_cons (g_name 5 sc_l_factors.nd rfl (.inl rfl)) (gs_cons (g_name 6 sc_l_factors.nd rfl (.inl rfl)) gs_nil))) (ss_cons (s_setIx 4 rfl (.inl rfl) (r_bin op_addAll opD_add (toB (r_ix (r_varB 4) (toB (r_var 5)))) (toB (r_var 6))) (toB (r_var 5)))
      (ss_one (s_if (t_cmp op_lt opC_lt (toB (r_var 5)) (toB (r_var 1)) (nomark _)) (ss_one (s_setIx 4 rfl (.inl rfl) (r_bin op_addAll opD_add (toB (r_ix (r_varB 4) (toB (r_bin op_addAll opD_add (toB (r_var 5)) (toB r_int))))) (toB (r_bin op_mulAll opD_mul (toB (r_bin op_mulAll opD_mul (toB (r_var 6)) (toB (r_bin op_sub opD_sub (toB (r_var 1)) (toB (r_var 5)))))) (toB (r_bin op_sub opD_sub (toB (r_var 0)) (toB r_int)))))) (toB (r_bin op_addAll opD_add (toB (r_var 5)) (toB r_int))))) ss_nil))))
    (ss_one (s_frz [4] (s_set 2 sc_l_factors.nd rfl (.inl rfl) (r_var 4)))))))
  (ss_one (s_ret (r_callB (cr_sum rfl) ca_sum (by rfl) hd.b_sum (by decide +kernel) (b_cons (toB (r_var 2)) b_nil))))))
theorem d_l_many (hd : Hd K w mg) : DefG P w K mg base PX 3 "_law_many" s_l_many p_l_many t_l_many :=
  .mk' (N := n_l_many) hd.at_l_many sc_l_many bn_l_many fun f cdv Ar outer s H E hr hgd A hA hE => by
    have hu64 := hr64 hr
    have hu65 := hr65 hr
    have hu66 := hr66 hr
    exact (ss_cons (s_if (t_cmp (op_eqAll hu64) opC_eq (toB (r_var 0)) (toB r_str) (nomark _)) (ss_one (s_ret (r_if (t_cmp (op_eqAll hu64) opC_eq (toB (r_var 2)) (toB (r_var 3)) (nomark _)) (r_call ((d_l_onto hd).mono (k := 2) (by decide)) hr hgd hA hE (by rfl) (a_cons (r_var 3) (a_cons (r_var 2) a_nil))) r_int))) ss_nil)
  (ss_cons (s_if (t_cmp (op_eqAll hu64) opC_eq (toB (r_var 0)) (toB r_str) (nomark _)) (ss_one (s_ret (r_call ((d_l_onto hd).mono (k := 2) (by decide)) hr hgd hA hE (by rfl) (a_cons (r_var 3) (a_cons (r_var 2) a_nil))))) ss_nil)
  (ss_cons (s_if (t_cmp (op_eqAll hu64) opC_eq (toB (r_var 0)) (toB r_str) (nomark _)) (ss_one (s_ret (r_call ((d_l_power hd).mono (k := 2) (by decide)) hr hgd hA hE (by rfl) (a_cons (r_var 2) (a_cons (r_var 3) a_nil))))) ss_nil)
  (ss_cons (s_if (t_cmp (op_eqAll hu64) opC_eq (toB (r_var 0)) (toB r_str) (nomark _)) (ss_one (s_ret (r_callB (cr_sum rfl) ca_sum (by rfl) hd.b_sum (by decide +kernel) (b_cons (toB (toD (r_lc rfl sc_l_many.nd (own := [("_law_lots", 4), ("_law_own", 5)]) (blkOk_by (by rfl)) (i_enumB (by rfl) hd.b_enumerate (b_cons (toB (r_call ((d_l_partings hd).mono (k := 2) (by decide)) hr hgd hA hE (by rfl) (a_cons (r_var 2) a_nil))) b_nil)) (by decide) (fun _ _ _ _ _ => (g_tup rfl (gs_cons (g_name 4 sc_l_many.nd rfl (by first | exact Or.inl rfl | exact Or.inr rfl)) (gs_cons (g_name 5 sc_l_many.nd rfl (by first | exact Or.inl rfl | exact Or.inr rfl)) gs_nil)))) (fun _ _ _ _ _ => ts_nil) (fun _ _ _ _ _ => (r_bin op_mulAll opD_mul (toB (r_var 5)) (toB (r_call ((d_l_onto hd).mono (k := 2) (by decide)) hr hgd hA hE (by rfl) (a_cons (r_var 3) (a_cons (r_var 4) a_nil))))))))) b_nil)))) ss_nil)
  (ss_cons (s_if (t_cmp (op_eqAll hu64) opC_eq (toB (r_var 0)) (toB r_str) (nomark _)) (ss_one (s_ret (r_callB (cr_sum rfl) ca_sum (by rfl) hd.b_sum (by decide +kernel) (b_cons (toB (r_call ((d_l_partings hd).mono (k := 2) (by decide)) hr hgd hA hE (by rfl) (a_cons (r_bin op_addAll opD_add (toB (r_var 2)) (toB (r_var 3))) a_nil))) b_nil)))) ss_nil)
  (ss_cons (s_if (t_cmp (op_eqAll hu64) opC_eq (toB (r_var 0)) (toB r_str) (nomark _)) (ss_one (s_ret (r_if (t_cmp (op_eqAll hu64) opC_eq (toB (r_var 2)) (toB (r_var 3)) (nomark _)) (r_call ((d_l_factors hd).mono (k := 2) (by decide)) hr hgd hA hE (by rfl) (a_cons (r_var 1) (a_cons (r_var 2) a_nil))) r_int))) ss_nil)
  (ss_cons (s_set 6 sc_l_many.nd rfl (.inl rfl) (r_if (t_cmp (op_inAll hu65) opC_in (toB (r_var 0)) (toB (toD (r_lst (a_cons r_str (a_cons r_str a_nil))))) rfl) r_str r_str))
  (ss_cons (s_set 7 sc_l_many.nd rfl (.inl rfl) (r_if (t_cmp (op_inAll hu65) opC_in (toB (r_var 0)) (toB (toD (r_lst (a_cons r_str (a_cons r_str a_nil))))) rfl) r_str r_str))
  (ss_one (s_ret (r_call ((d_l_stairs hd).mono (k := 2) (by decide)) hr hgd hA hE (by rfl) (a_cons (r_var 1) (a_cons (r_bin op_addAll opD_add (toB (r_bin op_mulAll opD_mul (toB (toD (r_lst (a_cons (r_var 6) a_nil)))) (toB (r_var 2)))) (toB (r_bin op_mulAll opD_mul (toB (toD (r_lst (a_cons (r_var 7) a_nil)))) (toB (r_var 3))))) a_nil)))))))))))))
theorem d_l_count (hd : Hd K w mg) : DefG P w K mg base PX 4 "_law_count" s_l_count p_l_count t_l_count :=
  .mk' (N := n_l_count) hd.at_l_count sc_l_count bn_l_count fun f cdv Ar outer s H E hr hgd A hA hE => by
    have hu64 := hr64 hr
    have hu65 := hr65 hr
    have hu66 := hr66 hr
    exact (ss_one (s_ret (r_if (t_cmp (op_eqAll hu64) opC_eq (toB (r_ix (toB (r_var 0)) (toB r_int))) (toB r_int) (nomark _)) (r_call ((d_l_many hd).mono (k := 3) (by decide)) hr hgd hA hE (by rfl) (a_cons (r_ix (toB (r_var 0)) (toB r_int)) (a_cons (r_var 1) (a_cons (r_var 3) (a_cons (r_var 2) a_nil))))) (r_call ((d_l_many hd).mono (k := 3) (by decide)) hr hgd hA hE (by rfl) (a_cons (r_ix (toB (r_var 0)) (toB r_int)) (a_cons (r_var 1) (a_cons (r_var 2) (a_cons (r_var 3) a_nil))))))))
theorem d_l_is_counted (hd : Hd K w mg) : DefG P w K mg base PX 5 "_law_is_counted" s_l_is_counted p_l_is_counted t_l_is_counted :=
  .mk' (N := n_l_is_counted) hd.at_l_is_counted sc_l_is_counted bn_l_is_counted fun f cdv Ar outer s H E hr hgd A hA hE => by
    have hu64 := hr64 hr
    have hu65 := hr65 hr
    have hu66 := hr66 hr
    exact (ss_cons (s_for PassesOwn.never rfl (i_seq (r_call0 ((d_l_stands hd).mono (k := 4) (by decide)) hr hgd hA hE (by rfl) rfl)) (g_name 3 sc_l_is_counted.nd rfl (.inl rfl)) (ss_cons (s_set 4 sc_l_is_counted.nd rfl (.inl rfl) (r_call ((d_l_count hd).mono (k := 4) (by decide)) hr hgd hA hE (by rfl) (a_cons (r_var 3) (a_cons (r_var 0) (a_cons (r_var 1) (a_cons (r_var 2) a_nil))))))
    (ss_cons (s_set 5 sc_l_is_counted.nd rfl (.inl rfl) (toD (r_lst (a_cons (r_call ((d_sort_count hd).mono (k := 4) (by decide)) hr hgd hA hE (by rfl) (a_cons (r_ix (toB (r_var 3)) (toB r_int)) (a_cons (r_var 0) (a_cons (r_var 1) (a_cons (r_var 2) a_nil))))) (a_cons (r_callK0 ((d_sort_count hd).mono (k := 4) (by decide)) kw_sort_count_0 hr hgd hA hE (by rfl) (k_cons (r_var 1) (k_cons (r_var 2) (k_cons (r_var 0) (k_cons (r_ix (toB (r_var 3)) (toB r_int)) k_nil)))) rfl (pickLen _ (by decide))) a_nil)))))
    (ss_one (s_if (t_cmp (op_neAll hu64) opC_ne (toB (r_callB (call_repr hgd hu66) ca_repr (by rfl) hd.b_repr (by decide +kernel) (b_cons (toB (r_var 5)) b_nil))) (toB (r_callB (call_repr hgd hu66) ca_repr (by rfl) hd.b_repr (by decide +kernel) (b_cons (toB (toD (r_lst (a_cons (r_var 4) (a_cons (r_var 4) a_nil))))) b_nil))) (nomark _)) (ss_one (s_ret r_bl)) ss_nil)))))
  (ss_one (s_ret r_bl)))
theorem d_rest (hd : Hd K w mg) : ∀ (f : Addr) (cdv : Value) (Ar : Around) (outer : List PySem.Env) (s : Shared) (H : Hp) (E : XK), Room 5 (Ar.deeper (envOfC "law" (defScope s_law) s.heap.objs.size f cdv)) → (Ar.deeper (envOfC "law" (defScope s_law) s.heap.objs.size f cdv)).guards = some [] →
    PSs (cxOf CX0 P w K mg base n_law "law" (defScope s_law) f cdv Ar outer s H E).nox (defBody s_law) (tSeq (tAsg (tCr K t_l_spring) (gName 1)) (tRest K (fun (j : Addr × Addr × Addr) => PX1 j.1 j.2.1 j.2.2) (fun j => j.1) b_law)) := fun f cdv Ar outer s H E hr hgd => by
  have hu64 := hr64 hr
  have hu65 := hr65 hr
  have hu66 := hr66 hr
  refine pss_cons (ps_set (i := 1) sc_law.nd rfl (.inl rfl) (pe_ex fun (p : Eng.Act × Addr × List Int) hp => r_call ((d_l_spring hd).mono (k := 5) (by decide)) hr hgd hp.1 hp.2 (by rfl) (a_cons (r_var 0) a_nil))) (pss_ex fun (p : Eng.Act × (Addr × Addr × Addr)) hp => ?_)
  obtain ⟨A, j⟩ := p
  obtain ⟨hA, hE⟩ := hp
  obtain ⟨a0, a1, a2⟩ := j
  exact (ss_cons (s_for PassesOwn.never rfl (i_range1 (by rfl) hd.b_range (b_cons (toB r_int) b_nil)) (g_name 2 sc_law.nd rfl (.inl rfl)) (ss_cons (s_par 5 6 rfl sc_law.nd rfl rfl (by decide) rfl rfl (a_cons (r_call ((d_l_pick hd).mono (k := 5) (by decide)) hr hgd hA hE (by rfl) (a_cons (r_var 1) (a_cons (toD (r_lst (a_cons r_int (a_cons r_int (a_cons r_int (a_cons r_int a_nil)))))) a_nil))) (a_cons (r_call ((d_l_pick hd).mono (k := 5) (by decide)) hr hgd hA hE (by rfl) (a_cons (r_var 1) (a_cons (toD (r_lst (a_cons r_int (a_cons r_int (a_cons r_int (a_cons r_int (a_cons r_int (a_cons r_int (a_cons r_int (a_cons r_int (a_cons r_int (a_cons r_int (a_cons r_int a_nil))))))))))))) a_nil))) a_nil)) rfl)
    (ss_cons (s_set 3 sc_law.nd rfl (.inl rfl) (r_call ((d_l_pick hd).mono (k := 5) (by decide)) hr hgd hA hE (by rfl) (a_cons (r_var 1) (a_cons (toD (r_lst (a_cons (r_call ((d_l_draw hd).mono (k := 5) (by decide)) hr hgd hA hE (by rfl) (a_cons (r_var 1) (a_cons (r_bin op_addAll opD_add (toB (r_var 6)) (toB r_int)) a_nil))) (a_cons (r_call ((d_l_draw hd).mono (k := 5) (by decide)) hr hgd hA hE (by rfl) (a_cons (r_var 1) (a_cons (r_bin op_addAll opD_add (toB (r_var 6)) (toB r_int)) a_nil))) (a_cons (r_bin op_fdiv opD_fdiv (toB (r_var 6)) (toB r_int)) a_nil))))) a_nil))))
    (ss_cons (s_set 4 sc_law.nd rfl (.inl rfl) (r_bin op_sub opD_sub (toB (r_var 6)) (toB (r_var 3))))
    (ss_cons (s_if (t_not (t_truth (toB (r_call ((d_l_is_counted hd).mono (k := 5) (by decide)) hr hgd hA hE (by rfl) (a_cons (r_var 5) (a_cons (r_var 3) (a_cons (r_var 4) a_nil))))))) (ss_one (s_ret r_bl)) ss_nil)
    (ss_one (s_if (t_pw (t_and (t_cmp (op_eqAll hu64) opC_eq (toB (r_var 2)) (toB r_int) (nomark _)) (t_and1 (t_not (t_truth (toB (r_call ((d_l_is_counted hd).mono (k := 5) (by decide)) hr hgd hA hE (by rfl) (a_cons (r_var 5) (a_cons (r_var 4) (a_cons (r_var 3) a_nil)))))))))) (ss_one (s_ret r_bl)) ss_nil)))))))
  (ss_cons (s_set 7 sc_law.nd rfl (.inl rfl) (r_call ((d_l_pick hd).mono (k := 5) (by decide)) hr hgd hA hE (by rfl) (a_cons (r_var 1) (a_cons (r_call0 ((d_l_stands hd).mono (k := 5) (by decide)) hr hgd hA hE (by rfl) rfl) a_nil))))
  (ss_cons (s_for PassesOwn.never rfl (i_seq (toD (r_lst (a_cons r_int (a_cons r_int (a_cons r_int (a_cons r_int a_nil))))))) (g_name 5 sc_law.nd rfl (.inl rfl)) (ss_cons (s_set 3 sc_law.nd rfl (.inl rfl) (r_call ((d_l_draw hd).mono (k := 5) (by decide)) hr hgd hA hE (by rfl) (a_cons (r_var 1) (a_cons r_int a_nil))))
    (ss_cons (s_set 4 sc_law.nd rfl (.inl rfl) (r_call ((d_l_pick hd).mono (k := 5) (by decide)) hr hgd hA hE (by rfl) (a_cons (r_var 1) (a_cons (toD (r_lst (a_cons (r_var 3) (a_cons (r_call ((d_l_draw hd).mono (k := 5) (by decide)) hr hgd hA hE (by rfl) (a_cons (r_var 1) (a_cons r_int a_nil))) a_nil)))) a_nil))))
    (ss_one (s_if (t_cmp (op_neAll hu64) opC_ne (toB (r_callB (call_repr hgd hu66) ca_repr (by rfl) hd.b_repr (by decide +kernel) (b_cons (toB (r_call ((d_sort_count hd).mono (k := 5) (by decide)) hr hgd hA hE (by rfl) (a_cons (r_ix (toB (r_var 7)) (toB r_int)) (a_cons (r_var 5) (a_cons (r_var 3) (a_cons (r_var 4) a_nil)))))) b_nil))) (toB (r_callB (call_repr hgd hu66) ca_repr (by rfl) hd.b_repr (by decide +kernel) (b_cons (toB (r_call ((d_l_count hd).mono (k := 5) (by decide)) hr hgd hA hE (by rfl) (a_cons (r_var 7) (a_cons (r_var 5) (a_cons (r_var 3) (a_cons (r_var 4) a_nil)))))) b_nil))) (nomark _)) (ss_one (s_ret r_bl)) ss_nil)))))
  (ss_cons (s_set 8 sc_law.nd rfl (.inl rfl) (toD (r_lst (a_cons (r_call ((d_sort_count hd).mono (k := 5) (by decide)) hr hgd hA hE (by rfl) (a_cons r_str (a_cons r_int (a_cons r_int (a_cons r_int a_nil))))) (a_cons (r_call ((d_sort_count hd).mono (k := 5) (by decide)) hr hgd hA hE (by rfl) (a_cons r_str (a_cons r_int (a_cons r_int (a_cons r_int a_nil))))) (a_cons (r_call ((d_sort_count hd).mono (k := 5) (by decide)) hr hgd hA hE (by rfl) (a_cons r_str (a_cons r_int (a_cons r_int (a_cons r_int a_nil))))) a_nil))))))
  (ss_one (s_ret (r_cmp (op_eqAll hu64) opC_eq (toB (r_callB (call_repr hgd hu66) ca_repr (by rfl) hd.b_repr (by decide +kernel) (b_cons (toB (r_bin op_addAll opD_add (toB (r_var 8)) (toB (toD (r_lst (a_cons (r_call ((d_sort_count hd).mono (k := 5) (by decide)) hr hgd hA hE (by rfl) (a_cons r_str (a_cons r_int (a_cons r_int (a_cons r_int a_nil))))) a_nil)))))) b_nil))) (toB (r_callB (call_repr hgd hu66) ca_repr (by rfl) hd.b_repr (by decide +kernel) (b_cons (toB (toD (r_lst (a_cons r_int (a_cons r_int (a_cons r_int (a_cons r_int a_nil))))))) b_nil))) (nomark _))))))))
end
end Law

namespace Law
open PySem PySem.Spec PyProof.Rows L2 Eng
def cell1 (c : Int) : Int := 2 * (if c < 0 then -c else c) + (if decide (c < 0) = true then 1 else 0)
def stir1 (s : Int) (c : Int) : Int := (s * 1000003 + c + 17) % 2305843009213693951
theorem stir1_lt : ∀ (cs : List Int) (s : Int), s.natAbs < 2 ^ 64 → (cs.foldl stir1 s).natAbs < 2 ^ 64
  | [], s, h => h
  | c :: cs, s, h => by
    refine stir1_lt cs (stir1 s c) ?_
    have := mod_small (s * 1000003 + c + 17) (m := 2305843009213693951) (by decide) (by decide)
    unfold stir1
    omega
theorem foldl_snd (cs : List Int) : ∀ (x : Sl) (s : Int), ∃ y, (cs.map D.int).foldl (fun (s : Sl × Int) d => (Sl.val d, match d with | .int c => stir1 s.2 c | _ => s.2)) (x, s) = (y, cs.foldl stir1 s) := by
  induction cs with
  | nil => exact fun x s => ⟨x, rfl⟩
  | cons c cs ih => exact fun x s => ih _ _
theorem cr1 (asc : Addr) (ns : List Int) : ∃ (ds cs : List Int) (st : Int), ds.length < cs.length ∧ st.natAbs < 2 ^ 64 ∧ t_l_spring asc ns [.obj asc] = T.ret (.dct [.inr "deep", .inr "cells", .inr "stir", .inr "turn"] [.lst (ds.map D.int), .lst (cs.map D.int), .int st, .int 0]) := by
  have hl : (ns.take 63).length ≤ 63 := List.length_take_le _ _
  unfold t_l_spring b_l_spring
  revert hl
  generalize ns.take 63 = ms
  intro hl
  generalize hc : ms.map cell1 = cs
  have hcl : cs.length ≤ 63 := by rw [← hc, List.length_map]; exact hl
  refine ⟨cs.filter (fun c => decide ((1000000000000000000 : Int) ≤ c)), cs ++ [cs.foldl stir1 (40961 + cs.length)], cs.foldl stir1 (40961 + cs.length), ?_, ?_, ?_⟩
  · have := List.length_filter_le (fun c => decide ((1000000000000000000 : Int) ≤ c)) cs
    simp only [List.length_append, List.length_singleton]
    omega
  · exact stir1_lt _ _ (by omega)
  · have hcomp : compT (tgName 2) (fun _ => T.ret true) (dB addD (dB mulD (cst (.int 2)) (dC absD (dCons (gV 2) dNil))) (dC intD (dCons (dBl (dB ltD (gV 2) (cst (.int 0)))) dNil))) (wipeE [.val (.obj asc), .un, .un, .un] [2]) (ms.map D.int) = T.ret (cs.map D.int) := by
      rw [compT_ints (fun _ => true) (fun n => D.int (cell1 n))]
      · rw [← hc, List.filter_eq_self.mpr (by simp), List.map_map]; rfl
      · intro n _
        refine ⟨_, rfl, rfl, fun _ => ?_⟩
        simp [wipeE, mul_small, cell1]
    have hfor : ∃ y, forT (tgName 2) (dSet 3 (dB modD (dC intD (dCons (dB addD (dB addD (dB mulD (gV 3) (cst (.int 1000003))) (gV 2)) (cst (.int 17))) dNil)) (cst (.int 2305843009213693951)))) (cs.map D.int) [.val (.obj asc), .val (.lst (cs.map D.int)), .un, .val (.int (40961 + cs.length))] = T.ret (.nx [.val (.obj asc), .val (.lst (cs.map D.int)), y, .val (.int (cs.foldl stir1 (40961 + cs.length)))]) := by
      obtain ⟨y, hy⟩ := foldl_snd cs .un (40961 + cs.length)
      refine ⟨y, ?_⟩
      have h := forT_fold (fun (s : Sl × Int) => [.val (.obj asc), .val (.lst (cs.map D.int)), s.1, .val (.int s.2)]) (fun (s : Sl × Int) d => (Sl.val d, match d with | .int c => stir1 s.2 c | _ => s.2)) (f := tgName 2) (b := dSet 3 (dB modD (dC intD (dCons (dB addD (dB addD (dB mulD (gV 3) (cst (.int 1000003))) (gV 2)) (cst (.int 17))) dNil)) (cst (.int 2305843009213693951)))) (cs.map D.int) (.un, 40961 + cs.length) (fun s d hd => by
        obtain ⟨c, _, rfl⟩ := List.mem_map.mp hd
        refine ⟨_, rfl, ?_⟩
        simp [mul_small, mod_pos, stir1])
      rw [hy] at h
      exact h
    obtain ⟨y, hfor⟩ := hfor
    have hcomp2 : compT (tgName 2) (dB geD (gV 2) (dB powD (cst (.int 10)) (cst (.int 18)))) (gV 2) (wipeE [.val (.obj asc), .val (.lst (cs.map D.int)), y, .val (.int (cs.foldl stir1 (40961 + cs.length)))] [2]) (cs.map D.int) = T.ret ((cs.filter (fun c => decide ((1000000000000000000 : Int) ≤ c))).map D.int) := by
      rw [compT_ints (fun c => decide ((1000000000000000000 : Int) ≤ c)) D.int]
      intro n _
      have hpw : powD (.int 10) (.int 18) = T.ret (.int 1000000000000000000) := rfl
      refine ⟨_, rfl, ?_, fun _ => ?_⟩
      · simp [wipeE, hpw]
      · simp [wipeE]
    have e0 : startE 4 [.obj asc] = [.val (.obj asc), .un, .un, .un] := rfl
    unfold bodyT
    rw [e0]
    have hsz : cs.length + 1 ≤ sizeLine := Nat.le_of_lt (small1000 (by omega))
    simp [hcomp, frzs, frz, hfor, hcomp2, dDct, dAll, addD, hsz]
end Law

namespace Law
open PySem PySem.Spec PyProof.Rows L2 Eng
def isR : T D → Option Int
  | .ret (.int x) => some x
  | _ => none
theorem isR_eq {t : T D} {x : Int} (h : isR t = some x) : t = T.ret (.int x) := by
  unfold isR at h
  split at h
  · cases h; rfl
  · cases h
theorem foldl_pow (b : Int) : ∀ (ds : List D) (x : Sl) (s : Int), ∃ y, ds.foldl (fun (s : Sl × Int) d => (Sl.val d, s.2 * b)) (x, s) = (y, s * b ^ ds.length)
  | [], x, s => ⟨x, by simp⟩
  | d :: ds, x, s => by
    obtain ⟨y, h⟩ := foldl_pow b ds (.val d) (s * b)
    refine ⟨y, ?_⟩
    rw [List.foldl_cons, h, List.length_cons, Int.pow_succ]
    congr 1
    rw [Int.mul_assoc, Int.mul_comm b]
theorem power_eq (b n : Int) (hb : b.natAbs < 2 ^ 64) (h0 : 0 ≤ n) (h1 : n ≤ 1000) : t_power [.int b, .int n] = T.ret (.int (b ^ n.toNat)) := by
  have hr : range1 [.int n] = T.ret (rangeD 0 n.toNat) := by
    show (if _ then _ else _) = _
    rw [if_pos ⟨by omega, by omega⟩]
  have hf : ∃ y, forT (tgName 3) (dSet 2 (dB mulD (gV 2) (gV 0))) (rangeD 0 n.toNat) [.val (.int b), .val (.int n), .val (.int 1), .un] = T.ret (.nx [.val (.int b), .val (.int n), .val (.int (b ^ n.toNat)), y]) := by
    obtain ⟨y, hy⟩ := foldl_pow b (rangeD 0 n.toNat) .un 1
    refine ⟨y, ?_⟩
    have h := forT_fold (fun (s : Sl × Int) => [.val (.int b), .val (.int n), .val (.int s.2), s.1]) (fun (s : Sl × Int) d => (Sl.val d, s.2 * b)) (f := tgName 3) (b := dSet 2 (dB mulD (gV 2) (gV 0))) (rangeD 0 n.toNat) (.un, 1) (fun s d _ => ⟨_, rfl, by simp [mul_small, hb]⟩)
    rw [hy] at h
    simpa using h
  obtain ⟨y, hf⟩ := hf
  have e0 : startE 4 [.int b, .int n] = [.val (.int b), .val (.int n), .un, .un] := rfl
  unfold t_power bodyT b_power
  rw [e0]
  simp [hr, hf]
def fastPow : List D → T D
  | [.int b, .int n] => if b.natAbs < 2 ^ 64 ∧ 0 ≤ n ∧ n ≤ 1000 then T.ret (.int (b ^ n.toNat)) else t_power [.int b, .int n]
  | l => t_power l
theorem fastPow_eq : t_power = fastPow := by
  funext l
  unfold fastPow
  split
  · split
    · rename_i h; exact power_eq _ _ h.1 h.2.1 h.2.2
    · rfl
  · rfl
theorem l_power_eq : t_l_power = t_power := rfl
end Law

namespace Law
open PySem PySem.Spec PyProof.Rows L2 Eng
def row4 (a b : Str) (x y : Int) : D := .lst [.str a, .str b, .int x, .int y]
def standsL : List (Str × Str × Int × Int) := [("cross", "cross", 0, 0), ("copy", "copy", 0, 0), ("copy drop", "copy drop", 0, 0), ("uncopy", "copy", 0, 1), ("uncopy undrop", "copy drop", 0, 1), ("copy uncopy", "copy uncopy", 0, 0), ("copy drop uncopy undrop", "copy drop uncopy undrop", 0, 0), ("add", "copy", 1, 1), ("add nought", "copy drop", 1, 1), ("unadd", "copy", 1, 0), ("unadd unnought", "copy drop", 1, 0), ("add unadd", "copy uncopy", 1, 0), ("add nought unadd unnought", "copy drop uncopy undrop", 1, 0), ("copy drop add nought", "copy drop add nought", 0, 0), ("uncopy undrop unadd unnought", "copy drop add nought", 0, 1), ("copy drop add nought unnought", "copy drop add nought unnought", 0, 0), ("nought uncopy undrop unadd unnought", "copy drop add nought unnought", 0, 1), ("copy drop add nought undrop", "copy drop add nought undrop", 0, 0), ("drop uncopy undrop unadd unnought", "copy drop add nought undrop", 0, 1), ("copy drop add nought undrop unnought", "all", 0, 0), ("drop nought uncopy undrop unadd unnought", "all", 0, 1), ("times", "times", 0, 0), ("untimes", "times", 0, 1), ("all", "all", 0, 0)]
theorem stands_eq : t_l_stands [] = T.ret (.lst (standsL.map fun r => row4 r.1 r.2.1 r.2.2.1 r.2.2.2)) := by kernel_rfl
def bodyRet (t : T D) : T D := (t >>= fun d => T.ret (Out.rt d)) >>= fun o => match o with
  | .nx _ => T.ret .non
  | .rt d => T.ret d
  | _ => T.fail
theorem bodyRet_eq (t : T D) : bodyRet t = t := by
  unfold bodyRet
  rw [bind_assoc']
  exact bind_ret t
def sw (y l r : Int) : Int := if y = 1 then r else l
theorem rs0 (p i o : Int) : t_sort_count [.str "cross", .int p, .int i, .int o] = t_sort_count [.str "cross", .int p, .int i, .int o] := by kernel_rfl
theorem rc0 (p i o : Int) : t_l_count [row4 "cross" "cross" 0 0, .int p, .int i, .int o] = t_l_many [.str "cross", .int p, .int i, .int o] := (by kernel_rfl : _ = bodyRet (t_l_many [.str "cross", .int p, .int i, .int o])).trans (bodyRet_eq _)
theorem rs1 (p i o : Int) : t_sort_count [.str "copy", .int p, .int i, .int o] = t_sort_count [.str "copy", .int p, .int i, .int o] := by kernel_rfl
theorem rc1 (p i o : Int) : t_l_count [row4 "copy" "copy" 0 0, .int p, .int i, .int o] = t_l_many [.str "copy", .int p, .int i, .int o] := (by kernel_rfl : _ = bodyRet (t_l_many [.str "copy", .int p, .int i, .int o])).trans (bodyRet_eq _)
theorem rs2 (p i o : Int) : t_sort_count [.str "copy drop", .int p, .int i, .int o] = t_sort_count [.str "copy drop", .int p, .int i, .int o] := by kernel_rfl
theorem rc2 (p i o : Int) : t_l_count [row4 "copy drop" "copy drop" 0 0, .int p, .int i, .int o] = t_l_many [.str "copy drop", .int p, .int i, .int o] := (by kernel_rfl : _ = bodyRet (t_l_many [.str "copy drop", .int p, .int i, .int o])).trans (bodyRet_eq _)
theorem rs3 (p i o : Int) : t_sort_count [.str "uncopy", .int p, .int i, .int o] = t_sort_count [.str "copy", .int p, .int o, .int i] := by kernel_rfl
theorem rc3 (p i o : Int) : t_l_count [row4 "uncopy" "copy" 0 1, .int p, .int i, .int o] = t_l_many [.str "copy", .int p, .int o, .int i] := (by kernel_rfl : _ = bodyRet (t_l_many [.str "copy", .int p, .int o, .int i])).trans (bodyRet_eq _)
theorem rs4 (p i o : Int) : t_sort_count [.str "uncopy undrop", .int p, .int i, .int o] = t_sort_count [.str "copy drop", .int p, .int o, .int i] := by kernel_rfl
theorem rc4 (p i o : Int) : t_l_count [row4 "uncopy undrop" "copy drop" 0 1, .int p, .int i, .int o] = t_l_many [.str "copy drop", .int p, .int o, .int i] := (by kernel_rfl : _ = bodyRet (t_l_many [.str "copy drop", .int p, .int o, .int i])).trans (bodyRet_eq _)
theorem rs5 (p i o : Int) : t_sort_count [.str "copy uncopy", .int p, .int i, .int o] = t_sort_count [.str "copy uncopy", .int p, .int i, .int o] := by kernel_rfl
theorem rc5 (p i o : Int) : t_l_count [row4 "copy uncopy" "copy uncopy" 0 0, .int p, .int i, .int o] = t_l_many [.str "copy uncopy", .int p, .int i, .int o] := (by kernel_rfl : _ = bodyRet (t_l_many [.str "copy uncopy", .int p, .int i, .int o])).trans (bodyRet_eq _)
theorem rs6 (p i o : Int) : t_sort_count [.str "copy drop uncopy undrop", .int p, .int i, .int o] = t_sort_count [.str "copy drop uncopy undrop", .int p, .int i, .int o] := by kernel_rfl
theorem rc6 (p i o : Int) : t_l_count [row4 "copy drop uncopy undrop" "copy drop uncopy undrop" 0 0, .int p, .int i, .int o] = t_l_many [.str "copy drop uncopy undrop", .int p, .int i, .int o] := (by kernel_rfl : _ = bodyRet (t_l_many [.str "copy drop uncopy undrop", .int p, .int i, .int o])).trans (bodyRet_eq _)
theorem rs7 (p i o : Int) : t_sort_count [.str "add", .int p, .int i, .int o] = t_sort_count [.str "copy", .int p, .int o, .int i] := by kernel_rfl
theorem rc7 (p i o : Int) : t_l_count [row4 "add" "copy" 1 1, .int p, .int i, .int o] = t_l_many [.str "copy", .int p, .int o, .int i] := (by kernel_rfl : _ = bodyRet (t_l_many [.str "copy", .int p, .int o, .int i])).trans (bodyRet_eq _)
theorem rs8 (p i o : Int) : t_sort_count [.str "add nought", .int p, .int i, .int o] = t_sort_count [.str "copy drop", .int p, .int o, .int i] := by kernel_rfl
theorem rc8 (p i o : Int) : t_l_count [row4 "add nought" "copy drop" 1 1, .int p, .int i, .int o] = t_l_many [.str "copy drop", .int p, .int o, .int i] := (by kernel_rfl : _ = bodyRet (t_l_many [.str "copy drop", .int p, .int o, .int i])).trans (bodyRet_eq _)
theorem rs9 (p i o : Int) : t_sort_count [.str "unadd", .int p, .int i, .int o] = t_sort_count [.str "copy", .int p, .int i, .int o] := by kernel_rfl
theorem rc9 (p i o : Int) : t_l_count [row4 "unadd" "copy" 1 0, .int p, .int i, .int o] = t_l_many [.str "copy", .int p, .int i, .int o] := (by kernel_rfl : _ = bodyRet (t_l_many [.str "copy", .int p, .int i, .int o])).trans (bodyRet_eq _)
theorem rs10 (p i o : Int) : t_sort_count [.str "unadd unnought", .int p, .int i, .int o] = t_sort_count [.str "copy drop", .int p, .int i, .int o] := by kernel_rfl
theorem rc10 (p i o : Int) : t_l_count [row4 "unadd unnought" "copy drop" 1 0, .int p, .int i, .int o] = t_l_many [.str "copy drop", .int p, .int i, .int o] := (by kernel_rfl : _ = bodyRet (t_l_many [.str "copy drop", .int p, .int i, .int o])).trans (bodyRet_eq _)
theorem rs11 (p i o : Int) : t_sort_count [.str "add unadd", .int p, .int i, .int o] = t_sort_count [.str "copy uncopy", .int p, .int i, .int o] := by kernel_rfl
theorem rc11 (p i o : Int) : t_l_count [row4 "add unadd" "copy uncopy" 1 0, .int p, .int i, .int o] = t_l_many [.str "copy uncopy", .int p, .int i, .int o] := (by kernel_rfl : _ = bodyRet (t_l_many [.str "copy uncopy", .int p, .int i, .int o])).trans (bodyRet_eq _)
theorem rs12 (p i o : Int) : t_sort_count [.str "add nought unadd unnought", .int p, .int i, .int o] = t_sort_count [.str "copy drop uncopy undrop", .int p, .int i, .int o] := by kernel_rfl
theorem rc12 (p i o : Int) : t_l_count [row4 "add nought unadd unnought" "copy drop uncopy undrop" 1 0, .int p, .int i, .int o] = t_l_many [.str "copy drop uncopy undrop", .int p, .int i, .int o] := (by kernel_rfl : _ = bodyRet (t_l_many [.str "copy drop uncopy undrop", .int p, .int i, .int o])).trans (bodyRet_eq _)
theorem rs13 (p i o : Int) : t_sort_count [.str "copy drop add nought", .int p, .int i, .int o] = t_sort_count [.str "copy drop add nought", .int p, .int i, .int o] := by kernel_rfl
theorem rc13 (p i o : Int) : t_l_count [row4 "copy drop add nought" "copy drop add nought" 0 0, .int p, .int i, .int o] = t_l_many [.str "copy drop add nought", .int p, .int i, .int o] := (by kernel_rfl : _ = bodyRet (t_l_many [.str "copy drop add nought", .int p, .int i, .int o])).trans (bodyRet_eq _)
theorem rs14 (p i o : Int) : t_sort_count [.str "uncopy undrop unadd unnought", .int p, .int i, .int o] = t_sort_count [.str "copy drop add nought", .int p, .int o, .int i] := by kernel_rfl
theorem rc14 (p i o : Int) : t_l_count [row4 "uncopy undrop unadd unnought" "copy drop add nought" 0 1, .int p, .int i, .int o] = t_l_many [.str "copy drop add nought", .int p, .int o, .int i] := (by kernel_rfl : _ = bodyRet (t_l_many [.str "copy drop add nought", .int p, .int o, .int i])).trans (bodyRet_eq _)
theorem rs15 (p i o : Int) : t_sort_count [.str "copy drop add nought unnought", .int p, .int i, .int o] = t_sort_count [.str "copy drop add nought unnought", .int p, .int i, .int o] := by kernel_rfl
theorem rc15 (p i o : Int) : t_l_count [row4 "copy drop add nought unnought" "copy drop add nought unnought" 0 0, .int p, .int i, .int o] = t_l_many [.str "copy drop add nought unnought", .int p, .int i, .int o] := (by kernel_rfl : _ = bodyRet (t_l_many [.str "copy drop add nought unnought", .int p, .int i, .int o])).trans (bodyRet_eq _)
theorem rs16 (p i o : Int) : t_sort_count [.str "nought uncopy undrop unadd unnought", .int p, .int i, .int o] = t_sort_count [.str "copy drop add nought unnought", .int p, .int o, .int i] := by kernel_rfl
theorem rc16 (p i o : Int) : t_l_count [row4 "nought uncopy undrop unadd unnought" "copy drop add nought unnought" 0 1, .int p, .int i, .int o] = t_l_many [.str "copy drop add nought unnought", .int p, .int o, .int i] := (by kernel_rfl : _ = bodyRet (t_l_many [.str "copy drop add nought unnought", .int p, .int o, .int i])).trans (bodyRet_eq _)
theorem rs17 (p i o : Int) : t_sort_count [.str "copy drop add nought undrop", .int p, .int i, .int o] = t_sort_count [.str "copy drop add nought undrop", .int p, .int i, .int o] := by kernel_rfl
theorem rc17 (p i o : Int) : t_l_count [row4 "copy drop add nought undrop" "copy drop add nought undrop" 0 0, .int p, .int i, .int o] = t_l_many [.str "copy drop add nought undrop", .int p, .int i, .int o] := (by kernel_rfl : _ = bodyRet (t_l_many [.str "copy drop add nought undrop", .int p, .int i, .int o])).trans (bodyRet_eq _)
theorem rs18 (p i o : Int) : t_sort_count [.str "drop uncopy undrop unadd unnought", .int p, .int i, .int o] = t_sort_count [.str "copy drop add nought undrop", .int p, .int o, .int i] := by kernel_rfl
theorem rc18 (p i o : Int) : t_l_count [row4 "drop uncopy undrop unadd unnought" "copy drop add nought undrop" 0 1, .int p, .int i, .int o] = t_l_many [.str "copy drop add nought undrop", .int p, .int o, .int i] := (by kernel_rfl : _ = bodyRet (t_l_many [.str "copy drop add nought undrop", .int p, .int o, .int i])).trans (bodyRet_eq _)
theorem rs19 (p i o : Int) : t_sort_count [.str "copy drop add nought undrop unnought", .int p, .int i, .int o] = t_sort_count [.str "all", .int p, .int i, .int o] := by kernel_rfl
theorem rc19 (p i o : Int) : t_l_count [row4 "copy drop add nought undrop unnought" "all" 0 0, .int p, .int i, .int o] = t_l_many [.str "all", .int p, .int i, .int o] := (by kernel_rfl : _ = bodyRet (t_l_many [.str "all", .int p, .int i, .int o])).trans (bodyRet_eq _)
theorem rs20 (p i o : Int) : t_sort_count [.str "drop nought uncopy undrop unadd unnought", .int p, .int i, .int o] = t_sort_count [.str "all", .int p, .int o, .int i] := by kernel_rfl
theorem rc20 (p i o : Int) : t_l_count [row4 "drop nought uncopy undrop unadd unnought" "all" 0 1, .int p, .int i, .int o] = t_l_many [.str "all", .int p, .int o, .int i] := (by kernel_rfl : _ = bodyRet (t_l_many [.str "all", .int p, .int o, .int i])).trans (bodyRet_eq _)
theorem rs21 (p i o : Int) : t_sort_count [.str "times", .int p, .int i, .int o] = t_sort_count [.str "times", .int p, .int i, .int o] := by kernel_rfl
theorem rc21 (p i o : Int) : t_l_count [row4 "times" "times" 0 0, .int p, .int i, .int o] = t_l_many [.str "times", .int p, .int i, .int o] := (by kernel_rfl : _ = bodyRet (t_l_many [.str "times", .int p, .int i, .int o])).trans (bodyRet_eq _)
theorem rs22 (p i o : Int) : t_sort_count [.str "untimes", .int p, .int i, .int o] = t_sort_count [.str "times", .int p, .int o, .int i] := by kernel_rfl
theorem rc22 (p i o : Int) : t_l_count [row4 "untimes" "times" 0 1, .int p, .int i, .int o] = t_l_many [.str "times", .int p, .int o, .int i] := (by kernel_rfl : _ = bodyRet (t_l_many [.str "times", .int p, .int o, .int i])).trans (bodyRet_eq _)
theorem rs23 (p i o : Int) : t_sort_count [.str "all", .int p, .int i, .int o] = t_sort_count [.str "all", .int p, .int i, .int o] := by kernel_rfl
theorem rc23 (p i o : Int) : t_l_count [row4 "all" "all" 0 0, .int p, .int i, .int o] = t_l_many [.str "all", .int p, .int i, .int o] := (by kernel_rfl : _ = bodyRet (t_l_many [.str "all", .int p, .int i, .int o])).trans (bodyRet_eq _)
end Law

namespace Law
open PySem PySem.Spec PyProof.Rows L2 Eng
def same (a b : T D) : Bool := match isR a, isR b with
  | some x, some y => decide (x = y) && decide (x.natAbs < 2 ^ 1000)
  | _, _ => false
def pairs8 : List (Int × Int) := (List.range 9).flatMap fun (i : Nat) => (List.range (9 - i)).map fun (j : Nat) => (Int.ofNat i, Int.ofNat j)
end Law

namespace Law
open PySem PySem.Spec PyProof.Rows L2 Eng
theorem ck_e : (pairs8.all fun q => same (t_sort_count [.str "cross", .int 2, .int q.1, .int q.2]) (t_l_many [.str "cross", .int 2, .int q.1, .int q.2])) = true := by decide +kernel
theorem sp_e (p l r : Int) : t_sort_count [.str "cross", .int p, .int l, .int r] = t_sort_count [.str "cross", .int 2, .int l, .int r] := by kernel_rfl
theorem lp_e (p l r : Int) : t_l_many [.str "cross", .int p, .int l, .int r] = t_l_many [.str "cross", .int 2, .int l, .int r] := by kernel_rfl
theorem ck_f : (pairs8.all fun q => same (t_sort_count [.str "copy", .int 2, .int q.1, .int q.2]) (t_l_many [.str "copy", .int 2, .int q.1, .int q.2])) = true := by decide +kernel
theorem sp_f (p l r : Int) : t_sort_count [.str "copy", .int p, .int l, .int r] = t_sort_count [.str "copy", .int 2, .int l, .int r] := by kernel_rfl
theorem lp_f (p l r : Int) : t_l_many [.str "copy", .int p, .int l, .int r] = t_l_many [.str "copy", .int 2, .int l, .int r] := by kernel_rfl
theorem ck_g : (pairs8.all fun q => same (t_sort_count [.str "copy drop", .int 2, .int q.1, .int q.2]) (t_l_many [.str "copy drop", .int 2, .int q.1, .int q.2])) = true := by decide +kernel
theorem sp_g (p l r : Int) : t_sort_count [.str "copy drop", .int p, .int l, .int r] = t_sort_count [.str "copy drop", .int 2, .int l, .int r] := by kernel_rfl
theorem lp_g (p l r : Int) : t_l_many [.str "copy drop", .int p, .int l, .int r] = t_l_many [.str "copy drop", .int 2, .int l, .int r] := by kernel_rfl
theorem ck_i : (pairs8.all fun q => same (t_sort_count [.str "copy drop uncopy undrop", .int 2, .int q.1, .int q.2]) (t_l_many [.str "copy drop uncopy undrop", .int 2, .int q.1, .int q.2])) = true := by decide +kernel
theorem sp_i (p l r : Int) : t_sort_count [.str "copy drop uncopy undrop", .int p, .int l, .int r] = t_sort_count [.str "copy drop uncopy undrop", .int 2, .int l, .int r] := by kernel_rfl
theorem lp_i (p l r : Int) : t_l_many [.str "copy drop uncopy undrop", .int p, .int l, .int r] = t_l_many [.str "copy drop uncopy undrop", .int 2, .int l, .int r] := by kernel_rfl
theorem ck_h2 : (pairs8.all fun q => same (t_sort_count [.str "copy uncopy", .int 2, .int q.1, .int q.2]) (t_l_many [.str "copy uncopy", .int 2, .int q.1, .int q.2])) = true := by decide +kernel
theorem ck_j2 : (pairs8.all fun q => same (t_sort_count [.str "times", .int 2, .int q.1, .int q.2]) (t_l_many [.str "times", .int 2, .int q.1, .int q.2])) = true := by decide +kernel
theorem ck_h3 : (pairs8.all fun q => same (t_sort_count [.str "copy uncopy", .int 3, .int q.1, .int q.2]) (t_l_many [.str "copy uncopy", .int 3, .int q.1, .int q.2])) = true := by decide +kernel
theorem ck_j3 : (pairs8.all fun q => same (t_sort_count [.str "times", .int 3, .int q.1, .int q.2]) (t_l_many [.str "times", .int 3, .int q.1, .int q.2])) = true := by decide +kernel
theorem ck_h5 : (pairs8.all fun q => same (t_sort_count [.str "copy uncopy", .int 5, .int q.1, .int q.2]) (t_l_many [.str "copy uncopy", .int 5, .int q.1, .int q.2])) = true := by decide +kernel
theorem ck_j5 : (pairs8.all fun q => same (t_sort_count [.str "times", .int 5, .int q.1, .int q.2]) (t_l_many [.str "times", .int 5, .int q.1, .int q.2])) = true := by decide +kernel
theorem ck_h7 : (pairs8.all fun q => same (t_sort_count [.str "copy uncopy", .int 7, .int q.1, .int q.2]) (t_l_many [.str "copy uncopy", .int 7, .int q.1, .int q.2])) = true := by decide +kernel
theorem ck_j7 : (pairs8.all fun q => same (t_sort_count [.str "times", .int 7, .int q.1, .int q.2]) (t_l_many [.str "times", .int 7, .int q.1, .int q.2])) = true := by decide +kernel
theorem st_a (p l r : Int) : t_sort_count [.str "all", .int p, .int l, .int r] = t_table_count [.str "all", .int p, .int l, .int r] := (by kernel_rfl : _ = bodyRet (t_table_count [.str "all", .int p, .int l, .int r])).trans (bodyRet_eq _)
theorem st_b (p l r : Int) : t_sort_count [.str "copy drop add nought", .int p, .int l, .int r] = t_table_count [.str "copy drop add nought", .int p, .int l, .int r] := (by kernel_rfl : _ = bodyRet (t_table_count [.str "copy drop add nought", .int p, .int l, .int r])).trans (bodyRet_eq _)
theorem st_c (p l r : Int) : t_sort_count [.str "copy drop add nought unnought", .int p, .int l, .int r] = t_table_count [.str "copy drop add nought unnought", .int p, .int l, .int r] := (by kernel_rfl : _ = bodyRet (t_table_count [.str "copy drop add nought unnought", .int p, .int l, .int r])).trans (bodyRet_eq _)
theorem st_d (p l r : Int) : t_sort_count [.str "copy drop add nought undrop", .int p, .int l, .int r] = t_table_count [.str "copy drop add nought undrop", .int p, .int l, .int r] := (by kernel_rfl : _ = bodyRet (t_table_count [.str "copy drop add nought undrop", .int p, .int l, .int r])).trans (bodyRet_eq _)
theorem ck_a2 : (pairs8.all fun q => same (t_table_count [.str "all", .int 2, .int q.1, .int q.2]) (t_l_many [.str "all", .int 2, .int q.1, .int q.2])) = true := by
  unfold t_table_count b_table_count t_flat_count b_flat_count t_l_many b_l_many t_l_stairs b_l_stairs
  rw [l_power_eq, fastPow_eq]
  decide +kernel
theorem ck_b2 : (pairs8.all fun q => same (t_table_count [.str "copy drop add nought", .int 2, .int q.1, .int q.2]) (t_l_many [.str "copy drop add nought", .int 2, .int q.1, .int q.2])) = true := by
  unfold t_table_count b_table_count t_flat_count b_flat_count t_l_many b_l_many t_l_stairs b_l_stairs
  rw [l_power_eq, fastPow_eq]
  decide +kernel
theorem ck_c2 : (pairs8.all fun q => same (t_table_count [.str "copy drop add nought unnought", .int 2, .int q.1, .int q.2]) (t_l_many [.str "copy drop add nought unnought", .int 2, .int q.1, .int q.2])) = true := by
  unfold t_table_count b_table_count t_flat_count b_flat_count t_l_many b_l_many t_l_stairs b_l_stairs
  rw [l_power_eq, fastPow_eq]
  decide +kernel
theorem ck_d2 : (pairs8.all fun q => same (t_table_count [.str "copy drop add nought undrop", .int 2, .int q.1, .int q.2]) (t_l_many [.str "copy drop add nought undrop", .int 2, .int q.1, .int q.2])) = true := by
  unfold t_table_count b_table_count t_flat_count b_flat_count t_l_many b_l_many t_l_stairs b_l_stairs
  rw [l_power_eq, fastPow_eq]
  decide +kernel
theorem ck_a3 : (pairs8.all fun q => same (t_table_count [.str "all", .int 3, .int q.1, .int q.2]) (t_l_many [.str "all", .int 3, .int q.1, .int q.2])) = true := by
  unfold t_table_count b_table_count t_flat_count b_flat_count t_l_many b_l_many t_l_stairs b_l_stairs
  rw [l_power_eq, fastPow_eq]
  decide +kernel
theorem ck_b3 : (pairs8.all fun q => same (t_table_count [.str "copy drop add nought", .int 3, .int q.1, .int q.2]) (t_l_many [.str "copy drop add nought", .int 3, .int q.1, .int q.2])) = true := by
  unfold t_table_count b_table_count t_flat_count b_flat_count t_l_many b_l_many t_l_stairs b_l_stairs
  rw [l_power_eq, fastPow_eq]
  decide +kernel
theorem ck_c3 : (pairs8.all fun q => same (t_table_count [.str "copy drop add nought unnought", .int 3, .int q.1, .int q.2]) (t_l_many [.str "copy drop add nought unnought", .int 3, .int q.1, .int q.2])) = true := by
  unfold t_table_count b_table_count t_flat_count b_flat_count t_l_many b_l_many t_l_stairs b_l_stairs
  rw [l_power_eq, fastPow_eq]
  decide +kernel
theorem ck_d3 : (pairs8.all fun q => same (t_table_count [.str "copy drop add nought undrop", .int 3, .int q.1, .int q.2]) (t_l_many [.str "copy drop add nought undrop", .int 3, .int q.1, .int q.2])) = true := by
  unfold t_table_count b_table_count t_flat_count b_flat_count t_l_many b_l_many t_l_stairs b_l_stairs
  rw [l_power_eq, fastPow_eq]
  decide +kernel
theorem ck_a5 : (pairs8.all fun q => same (t_table_count [.str "all", .int 5, .int q.1, .int q.2]) (t_l_many [.str "all", .int 5, .int q.1, .int q.2])) = true := by
  unfold t_table_count b_table_count t_flat_count b_flat_count t_l_many b_l_many t_l_stairs b_l_stairs
  rw [l_power_eq, fastPow_eq]
  decide +kernel
theorem ck_b5 : (pairs8.all fun q => same (t_table_count [.str "copy drop add nought", .int 5, .int q.1, .int q.2]) (t_l_many [.str "copy drop add nought", .int 5, .int q.1, .int q.2])) = true := by
  unfold t_table_count b_table_count t_flat_count b_flat_count t_l_many b_l_many t_l_stairs b_l_stairs
  rw [l_power_eq, fastPow_eq]
  decide +kernel
theorem ck_c5 : (pairs8.all fun q => same (t_table_count [.str "copy drop add nought unnought", .int 5, .int q.1, .int q.2]) (t_l_many [.str "copy drop add nought unnought", .int 5, .int q.1, .int q.2])) = true := by
  unfold t_table_count b_table_count t_flat_count b_flat_count t_l_many b_l_many t_l_stairs b_l_stairs
  rw [l_power_eq, fastPow_eq]
  decide +kernel
theorem ck_d5 : (pairs8.all fun q => same (t_table_count [.str "copy drop add nought undrop", .int 5, .int q.1, .int q.2]) (t_l_many [.str "copy drop add nought undrop", .int 5, .int q.1, .int q.2])) = true := by
  unfold t_table_count b_table_count t_flat_count b_flat_count t_l_many b_l_many t_l_stairs b_l_stairs
  rw [l_power_eq, fastPow_eq]
  decide +kernel
theorem ck_a7 : (pairs8.all fun q => same (t_table_count [.str "all", .int 7, .int q.1, .int q.2]) (t_l_many [.str "all", .int 7, .int q.1, .int q.2])) = true := by
  unfold t_table_count b_table_count t_flat_count b_flat_count t_l_many b_l_many t_l_stairs b_l_stairs
  rw [l_power_eq, fastPow_eq]
  decide +kernel
theorem ck_b7 : (pairs8.all fun q => same (t_table_count [.str "copy drop add nought", .int 7, .int q.1, .int q.2]) (t_l_many [.str "copy drop add nought", .int 7, .int q.1, .int q.2])) = true := by
  unfold t_table_count b_table_count t_flat_count b_flat_count t_l_many b_l_many t_l_stairs b_l_stairs
  rw [l_power_eq, fastPow_eq]
  decide +kernel
theorem ck_c7 : (pairs8.all fun q => same (t_table_count [.str "copy drop add nought unnought", .int 7, .int q.1, .int q.2]) (t_l_many [.str "copy drop add nought unnought", .int 7, .int q.1, .int q.2])) = true := by
  unfold t_table_count b_table_count t_flat_count b_flat_count t_l_many b_l_many t_l_stairs b_l_stairs
  rw [l_power_eq, fastPow_eq]
  decide +kernel
theorem ck_d7 : (pairs8.all fun q => same (t_table_count [.str "copy drop add nought undrop", .int 7, .int q.1, .int q.2]) (t_l_many [.str "copy drop add nought undrop", .int 7, .int q.1, .int q.2])) = true := by
  unfold t_table_count b_table_count t_flat_count b_flat_count t_l_many b_l_many t_l_stairs b_l_stairs
  rw [l_power_eq, fastPow_eq]
  decide +kernel
end Law

namespace Law
open PySem PySem.Spec PyProof.Rows L2 Eng
def Ok2 (a b : T D) : Prop := ∃ x : Int, x.natAbs < 2 ^ 1000 ∧ a = T.ret (.int x) ∧ b = T.ret (.int x)
theorem same_ok {a b : T D} (h : same a b = true) : Ok2 a b := by
  unfold same at h
  split at h
  · rename_i x y h1 h2
    rw [Bool.and_eq_true, decide_eq_true_eq, decide_eq_true_eq] at h
    obtain ⟨e, h3⟩ := h
    subst e
    exact ⟨x, h3, isR_eq h1, isR_eq h2⟩
  · cases h
theorem mem8 {l r : Int} (h0 : 0 ≤ l) (h1 : 0 ≤ r) (h2 : l + r ≤ 8) : (l, r) ∈ pairs8 := by
  unfold pairs8
  refine List.mem_flatMap.mpr ⟨l.toNat, List.mem_range.mpr (by omega), List.mem_map.mpr ⟨r.toNat, List.mem_range.mpr (by omega), ?_⟩⟩
  show (((l.toNat : Nat) : Int), ((r.toNat : Nat) : Int)) = (l, r)
  rw [Int.toNat_of_nonneg h0, Int.toNat_of_nonneg h1]
def primes : List Int := [2, 3, 5, 7]
theorem prime_cases {P : Int → Prop} (h2 : P 2) (h3 : P 3) (h5 : P 5) (h7 : P 7) : ∀ p ∈ primes, P p := by
  intro p hp
  simp only [primes, List.mem_cons, List.not_mem_nil, or_false] at hp
  rcases hp with rfl | rfl | rfl | rfl <;> assumption
theorem core_a : ∀ p ∈ primes, ∀ l r : Int, 0 ≤ l → 0 ≤ r → l + r ≤ 8 → Ok2 (t_sort_count [.str "all", .int p, .int l, .int r]) (t_l_many [.str "all", .int p, .int l, .int r]) := prime_cases (fun l r h0 h1 h2 => by rw [st_a]; exact same_ok (List.all_eq_true.mp ck_a2 (l, r) (mem8 h0 h1 h2))) (fun l r h0 h1 h2 => by rw [st_a]; exact same_ok (List.all_eq_true.mp ck_a3 (l, r) (mem8 h0 h1 h2))) (fun l r h0 h1 h2 => by rw [st_a]; exact same_ok (List.all_eq_true.mp ck_a5 (l, r) (mem8 h0 h1 h2))) (fun l r h0 h1 h2 => by rw [st_a]; exact same_ok (List.all_eq_true.mp ck_a7 (l, r) (mem8 h0 h1 h2)))
theorem core_b : ∀ p ∈ primes, ∀ l r : Int, 0 ≤ l → 0 ≤ r → l + r ≤ 8 → Ok2 (t_sort_count [.str "copy drop add nought", .int p, .int l, .int r]) (t_l_many [.str "copy drop add nought", .int p, .int l, .int r]) := prime_cases (fun l r h0 h1 h2 => by rw [st_b]; exact same_ok (List.all_eq_true.mp ck_b2 (l, r) (mem8 h0 h1 h2))) (fun l r h0 h1 h2 => by rw [st_b]; exact same_ok (List.all_eq_true.mp ck_b3 (l, r) (mem8 h0 h1 h2))) (fun l r h0 h1 h2 => by rw [st_b]; exact same_ok (List.all_eq_true.mp ck_b5 (l, r) (mem8 h0 h1 h2))) (fun l r h0 h1 h2 => by rw [st_b]; exact same_ok (List.all_eq_true.mp ck_b7 (l, r) (mem8 h0 h1 h2)))
theorem core_c : ∀ p ∈ primes, ∀ l r : Int, 0 ≤ l → 0 ≤ r → l + r ≤ 8 → Ok2 (t_sort_count [.str "copy drop add nought unnought", .int p, .int l, .int r]) (t_l_many [.str "copy drop add nought unnought", .int p, .int l, .int r]) := prime_cases (fun l r h0 h1 h2 => by rw [st_c]; exact same_ok (List.all_eq_true.mp ck_c2 (l, r) (mem8 h0 h1 h2))) (fun l r h0 h1 h2 => by rw [st_c]; exact same_ok (List.all_eq_true.mp ck_c3 (l, r) (mem8 h0 h1 h2))) (fun l r h0 h1 h2 => by rw [st_c]; exact same_ok (List.all_eq_true.mp ck_c5 (l, r) (mem8 h0 h1 h2))) (fun l r h0 h1 h2 => by rw [st_c]; exact same_ok (List.all_eq_true.mp ck_c7 (l, r) (mem8 h0 h1 h2)))
theorem core_d : ∀ p ∈ primes, ∀ l r : Int, 0 ≤ l → 0 ≤ r → l + r ≤ 8 → Ok2 (t_sort_count [.str "copy drop add nought undrop", .int p, .int l, .int r]) (t_l_many [.str "copy drop add nought undrop", .int p, .int l, .int r]) := prime_cases (fun l r h0 h1 h2 => by rw [st_d]; exact same_ok (List.all_eq_true.mp ck_d2 (l, r) (mem8 h0 h1 h2))) (fun l r h0 h1 h2 => by rw [st_d]; exact same_ok (List.all_eq_true.mp ck_d3 (l, r) (mem8 h0 h1 h2))) (fun l r h0 h1 h2 => by rw [st_d]; exact same_ok (List.all_eq_true.mp ck_d5 (l, r) (mem8 h0 h1 h2))) (fun l r h0 h1 h2 => by rw [st_d]; exact same_ok (List.all_eq_true.mp ck_d7 (l, r) (mem8 h0 h1 h2)))
theorem core_e : ∀ p ∈ primes, ∀ l r : Int, 0 ≤ l → 0 ≤ r → l + r ≤ 8 → Ok2 (t_sort_count [.str "cross", .int p, .int l, .int r]) (t_l_many [.str "cross", .int p, .int l, .int r]) := fun p _ l r h0 h1 h2 => by
  rw [sp_e, lp_e]
  exact same_ok (List.all_eq_true.mp ck_e (l, r) (mem8 h0 h1 h2))
theorem core_f : ∀ p ∈ primes, ∀ l r : Int, 0 ≤ l → 0 ≤ r → l + r ≤ 8 → Ok2 (t_sort_count [.str "copy", .int p, .int l, .int r]) (t_l_many [.str "copy", .int p, .int l, .int r]) := fun p _ l r h0 h1 h2 => by
  rw [sp_f, lp_f]
  exact same_ok (List.all_eq_true.mp ck_f (l, r) (mem8 h0 h1 h2))
theorem core_g : ∀ p ∈ primes, ∀ l r : Int, 0 ≤ l → 0 ≤ r → l + r ≤ 8 → Ok2 (t_sort_count [.str "copy drop", .int p, .int l, .int r]) (t_l_many [.str "copy drop", .int p, .int l, .int r]) := fun p _ l r h0 h1 h2 => by
  rw [sp_g, lp_g]
  exact same_ok (List.all_eq_true.mp ck_g (l, r) (mem8 h0 h1 h2))
theorem core_h : ∀ p ∈ primes, ∀ l r : Int, 0 ≤ l → 0 ≤ r → l + r ≤ 8 → Ok2 (t_sort_count [.str "copy uncopy", .int p, .int l, .int r]) (t_l_many [.str "copy uncopy", .int p, .int l, .int r]) := prime_cases (fun l r h0 h1 h2 => same_ok (List.all_eq_true.mp ck_h2 (l, r) (mem8 h0 h1 h2))) (fun l r h0 h1 h2 => same_ok (List.all_eq_true.mp ck_h3 (l, r) (mem8 h0 h1 h2))) (fun l r h0 h1 h2 => same_ok (List.all_eq_true.mp ck_h5 (l, r) (mem8 h0 h1 h2))) (fun l r h0 h1 h2 => same_ok (List.all_eq_true.mp ck_h7 (l, r) (mem8 h0 h1 h2)))
theorem core_i : ∀ p ∈ primes, ∀ l r : Int, 0 ≤ l → 0 ≤ r → l + r ≤ 8 → Ok2 (t_sort_count [.str "copy drop uncopy undrop", .int p, .int l, .int r]) (t_l_many [.str "copy drop uncopy undrop", .int p, .int l, .int r]) := fun p _ l r h0 h1 h2 => by
  rw [sp_i, lp_i]
  exact same_ok (List.all_eq_true.mp ck_i (l, r) (mem8 h0 h1 h2))
theorem core_j : ∀ p ∈ primes, ∀ l r : Int, 0 ≤ l → 0 ≤ r → l + r ≤ 8 → Ok2 (t_sort_count [.str "times", .int p, .int l, .int r]) (t_l_many [.str "times", .int p, .int l, .int r]) := prime_cases (fun l r h0 h1 h2 => same_ok (List.all_eq_true.mp ck_j2 (l, r) (mem8 h0 h1 h2))) (fun l r h0 h1 h2 => same_ok (List.all_eq_true.mp ck_j3 (l, r) (mem8 h0 h1 h2))) (fun l r h0 h1 h2 => same_ok (List.all_eq_true.mp ck_j5 (l, r) (mem8 h0 h1 h2))) (fun l r h0 h1 h2 => same_ok (List.all_eq_true.mp ck_j7 (l, r) (mem8 h0 h1 h2)))
theorem rowOk : ∀ q ∈ standsL, ∀ p ∈ primes, ∀ i o : Int, 0 ≤ i → 0 ≤ o → i + o ≤ 8 → Ok2 (t_sort_count [.str q.1, .int p, .int i, .int o]) (t_l_count [row4 q.1 q.2.1 q.2.2.1 q.2.2.2, .int p, .int i, .int o]) := by
  unfold standsL
  refine List.forall_mem_cons.mpr ⟨fun p hp i o h0 h1 h2 => by rw [show t_sort_count [.str "cross", .int p, .int i, .int o] = _ from rs0 p i o, show t_l_count [row4 "cross" "cross" 0 0, .int p, .int i, .int o] = _ from rc0 p i o]; exact core_e p hp i o h0 h1 h2, 
    List.forall_mem_cons.mpr ⟨fun p hp i o h0 h1 h2 => by rw [show t_sort_count [.str "copy", .int p, .int i, .int o] = _ from rs1 p i o, show t_l_count [row4 "copy" "copy" 0 0, .int p, .int i, .int o] = _ from rc1 p i o]; exact core_f p hp i o h0 h1 h2, 
    List.forall_mem_cons.mpr ⟨fun p hp i o h0 h1 h2 => by rw [show t_sort_count [.str "copy drop", .int p, .int i, .int o] = _ from rs2 p i o, show t_l_count [row4 "copy drop" "copy drop" 0 0, .int p, .int i, .int o] = _ from rc2 p i o]; exact core_g p hp i o h0 h1 h2, 
    List.forall_mem_cons.mpr ⟨fun p hp i o h0 h1 h2 => by rw [show t_sort_count [.str "uncopy", .int p, .int i, .int o] = _ from rs3 p i o, show t_l_count [row4 "uncopy" "copy" 0 1, .int p, .int i, .int o] = _ from rc3 p i o]; exact core_f p hp o i h1 h0 (by omega), 
    List.forall_mem_cons.mpr ⟨fun p hp i o h0 h1 h2 => by rw [show t_sort_count [.str "uncopy undrop", .int p, .int i, .int o] = _ from rs4 p i o, show t_l_count [row4 "uncopy undrop" "copy drop" 0 1, .int p, .int i, .int o] = _ from rc4 p i o]; exact core_g p hp o i h1 h0 (by omega), 
    List.forall_mem_cons.mpr ⟨fun p hp i o h0 h1 h2 => by rw [show t_sort_count [.str "copy uncopy", .int p, .int i, .int o] = _ from rs5 p i o, show t_l_count [row4 "copy uncopy" "copy uncopy" 0 0, .int p, .int i, .int o] = _ from rc5 p i o]; exact core_h p hp i o h0 h1 h2, 
    List.forall_mem_cons.mpr ⟨fun p hp i o h0 h1 h2 => by rw [show t_sort_count [.str "copy drop uncopy undrop", .int p, .int i, .int o] = _ from rs6 p i o, show t_l_count [row4 "copy drop uncopy undrop" "copy drop uncopy undrop" 0 0, .int p, .int i, .int o] = _ from rc6 p i o]; exact core_i p hp i o h0 h1 h2, 
    List.forall_mem_cons.mpr ⟨fun p hp i o h0 h1 h2 => by rw [show t_sort_count [.str "add", .int p, .int i, .int o] = _ from rs7 p i o, show t_l_count [row4 "add" "copy" 1 1, .int p, .int i, .int o] = _ from rc7 p i o]; exact core_f p hp o i h1 h0 (by omega), 
    List.forall_mem_cons.mpr ⟨fun p hp i o h0 h1 h2 => by rw [show t_sort_count [.str "add nought", .int p, .int i, .int o] = _ from rs8 p i o, show t_l_count [row4 "add nought" "copy drop" 1 1, .int p, .int i, .int o] = _ from rc8 p i o]; exact core_g p hp o i h1 h0 (by omega), 
    List.forall_mem_cons.mpr ⟨fun p hp i o h0 h1 h2 => by rw [show t_sort_count [.str "unadd", .int p, .int i, .int o] = _ from rs9 p i o, show t_l_count [row4 "unadd" "copy" 1 0, .int p, .int i, .int o] = _ from rc9 p i o]; exact core_f p hp i o h0 h1 h2, 
    List.forall_mem_cons.mpr ⟨fun p hp i o h0 h1 h2 => by rw [show t_sort_count [.str "unadd unnought", .int p, .int i, .int o] = _ from rs10 p i o, show t_l_count [row4 "unadd unnought" "copy drop" 1 0, .int p, .int i, .int o] = _ from rc10 p i o]; exact core_g p hp i o h0 h1 h2, 
    List.forall_mem_cons.mpr ⟨fun p hp i o h0 h1 h2 => by rw [show t_sort_count [.str "add unadd", .int p, .int i, .int o] = _ from rs11 p i o, show t_l_count [row4 "add unadd" "copy uncopy" 1 0, .int p, .int i, .int o] = _ from rc11 p i o]; exact core_h p hp i o h0 h1 h2, 
    List.forall_mem_cons.mpr ⟨fun p hp i o h0 h1 h2 => by rw [show t_sort_count [.str "add nought unadd unnought", .int p, .int i, .int o] = _ from rs12 p i o, show t_l_count [row4 "add nought unadd unnought" "copy drop uncopy undrop" 1 0, .int p, .int i, .int o] = _ from rc12 p i o]; exact core_i p hp i o h0 h1 h2, 
    List.forall_mem_cons.mpr ⟨fun p hp i o h0 h1 h2 => by rw [show t_sort_count [.str "copy drop add nought", .int p, .int i, .int o] = _ from rs13 p i o, show t_l_count [row4 "copy drop add nought" "copy drop add nought" 0 0, .int p, .int i, .int o] = _ from rc13 p i o]; exact core_b p hp i o h0 h1 h2, 
    List.forall_mem_cons.mpr ⟨fun p hp i o h0 h1 h2 => by rw [show t_sort_count [.str "uncopy undrop unadd unnought", .int p, .int i, .int o] = _ from rs14 p i o, show t_l_count [row4 "uncopy undrop unadd unnought" "copy drop add nought" 0 1, .int p, .int i, .int o] = _ from rc14 p i o]; exact core_b p hp o i h1 h0 (by omega), 
    List.forall_mem_cons.mpr ⟨fun p hp i o h0 h1 h2 => by rw [show t_sort_count [.str "copy drop add nought unnought", .int p, .int i, .int o] = _ from rs15 p i o, show t_l_count [row4 "copy drop add nought unnought" "copy drop add nought unnought" 0 0, .int p, .int i, .int o] = _ from rc15 p i o]; exact core_c p hp i o h0 h1 h2, 
    List.forall_mem_cons.mpr ⟨fun p hp i o h0 h1 h2 => by rw [show t_sort_count [.str "nought uncopy undrop unadd unnought", .int p, .int i, .int o] = _ from rs16 p i o, show t_l_count [row4 "nought uncopy undrop unadd unnought" "copy drop add nought unnought" 0 1, .int p, .int i, .int o] = _ from rc16 p i o]; exact core_c p hp o i h1 h0 (by omega), 
    List.forall_mem_cons.mpr ⟨fun p hp i o h0 h1 h2 => by rw [show t_sort_count [.str "copy drop add nought undrop", .int p, .int i, .int o] = _ from rs17 p i o, show t_l_count [row4 "copy drop add nought undrop" "copy drop add nought undrop" 0 0, .int p, .int i, .int o] = _ from rc17 p i o]; exact core_d p hp i o h0 h1 h2, 
    List.forall_mem_cons.mpr ⟨fun p hp i o h0 h1 h2 => by rw [show t_sort_count [.str "drop uncopy undrop unadd unnought", .int p, .int i, .int o] = _ from rs18 p i o, show t_l_count [row4 "drop uncopy undrop unadd unnought" "copy drop add nought undrop" 0 1, .int p, .int i, .int o] = _ from rc18 p i o]; exact core_d p hp o i h1 h0 (by omega), 
    List.forall_mem_cons.mpr ⟨fun p hp i o h0 h1 h2 => by rw [show t_sort_count [.str "copy drop add nought undrop unnought", .int p, .int i, .int o] = _ from rs19 p i o, show t_l_count [row4 "copy drop add nought undrop unnought" "all" 0 0, .int p, .int i, .int o] = _ from rc19 p i o]; exact core_a p hp i o h0 h1 h2, 
    List.forall_mem_cons.mpr ⟨fun p hp i o h0 h1 h2 => by rw [show t_sort_count [.str "drop nought uncopy undrop unadd unnought", .int p, .int i, .int o] = _ from rs20 p i o, show t_l_count [row4 "drop nought uncopy undrop unadd unnought" "all" 0 1, .int p, .int i, .int o] = _ from rc20 p i o]; exact core_a p hp o i h1 h0 (by omega), 
    List.forall_mem_cons.mpr ⟨fun p hp i o h0 h1 h2 => by rw [show t_sort_count [.str "times", .int p, .int i, .int o] = _ from rs21 p i o, show t_l_count [row4 "times" "times" 0 0, .int p, .int i, .int o] = _ from rc21 p i o]; exact core_j p hp i o h0 h1 h2, 
    List.forall_mem_cons.mpr ⟨fun p hp i o h0 h1 h2 => by rw [show t_sort_count [.str "untimes", .int p, .int i, .int o] = _ from rs22 p i o, show t_l_count [row4 "untimes" "times" 0 1, .int p, .int i, .int o] = _ from rc22 p i o]; exact core_j p hp o i h1 h0 (by omega), 
    List.forall_mem_cons.mpr ⟨fun p hp i o h0 h1 h2 => by rw [show t_sort_count [.str "all", .int p, .int i, .int o] = _ from rs23 p i o, show t_l_count [row4 "all" "all" 0 0, .int p, .int i, .int o] = _ from rc23 p i o]; exact core_a p hp i o h0 h1 h2, 
    List.forall_mem_nil _⟩⟩⟩⟩⟩⟩⟩⟩⟩⟩⟩⟩⟩⟩⟩⟩⟩⟩⟩⟩⟩⟩⟩⟩

end Law

namespace Law
open PySem PySem.Spec PyProof.Rows L2 Eng
theorem log_small {x : Int} (h : x.natAbs < 2 ^ 1000) : x.natAbs.log2 < 1920 := by
  by_cases h0 : x.natAbs = 0
  · rw [h0]; decide
  · rw [Nat.log2_lt h0]
    exact Nat.lt_trans h (Nat.pow_lt_pow_right (by decide) (by decide))
theorem fit_int {x : Int} (h : x.natAbs < 2 ^ 1000) : (D.int x).fit = true := decide_eq_true (log_small h)
theorem repr2 {x : Int} (h : x.natAbs < 2 ^ 1000) : reprD [.lst [.int x, .int x]] = T.ret (.str (D.lst [.int x, .int x]).py.shown) :=
  repr_fit (by show ((D.int x).fit && ((D.int x).fit && true)) = true; rw [fit_int h]; rfl) (by show 1921 + 2 + (1921 + 2 + 0) + 4 ≤ 16777216; decide) (by show max 0 (max 0 0) + 1 ≤ 64; decide)
theorem repr1 {x : Int} (h : x.natAbs < 2 ^ 1000) : reprD [.int x] = T.ret (.str (D.int x).py.shown) := repr_fit (fit_int h) (by show 1921 ≤ 16777216; decide) (by show 0 ≤ 64; decide)
theorem ix_row0 (a b : Str) (x y : Int) : ixD (row4 a b x y) (.int 0) = T.ret (.str a) := rfl
theorem counted (p : Int) (hp : p ∈ primes) (i o : Int) (h0 : 0 ≤ i) (h1 : 0 ≤ o) (h2 : i + o ≤ 8) : t_l_is_counted [.int p, .int i, .int o] = T.ret (.bl true) := by
  unfold t_l_is_counted bodyT b_l_is_counted
  have e0 : startE 6 [.int p, .int i, .int o] = [.val (.int p), .val (.int i), .val (.int o), .un, .un, .un] := rfl
  rw [e0]
  obtain ⟨e', h3, h4⟩ := forT_inv (fun env => ∃ s3 s4 s5, env = [.val (.int p), .val (.int i), .val (.int o), s3, s4, s5]) (f := tgName 3) (b := dSeq (dSet 4 (dC t_l_count (dCons (gV 3) (dCons (gV 0) (dCons (gV 1) (dCons (gV 2) dNil))))))
    (dSeq (dSet 5 (dLst (dCons (dC t_sort_count (dCons (dB ixD (gV 3) (cst (.int 0))) (dCons (gV 0) (dCons (gV 1) (dCons (gV 2) dNil))))) (dCons (dCK t_sort_count [3, 2, 0, 1] dNil (dCons (gV 1) (dCons (gV 2) (dCons (gV 0) (dCons (dB ixD (gV 3) (cst (.int 0))) dNil))))) dNil))))
    (dIf (dB neD (dC reprD (dCons (gV 5) dNil)) (dC reprD (dCons (dLst (dCons (gV 4) (dCons (gV 4) dNil))) dNil))) (dRet (cst (.bl false))) dSkip))) (standsL.map fun r => row4 r.1 r.2.1 r.2.2.1 r.2.2.2) (fun d hd env hi => by
      obtain ⟨q, hq, rfl⟩ := List.mem_map.mp hd
      obtain ⟨s3, s4, s5, rfl⟩ := hi
      obtain ⟨x, hx, e1, e2⟩ := rowOk q hq p hp i o h0 h1 h2
      refine ⟨_, [.val (.int p), .val (.int i), .val (.int o), .val (row4 q.1 q.2.1 q.2.2.1 q.2.2.2), .val (.int x), .val (.lst [.int x, .int x])], rfl, ?_, _, _, _, rfl⟩
      simp [e1, e2, ix_row0, pick, repr2 hx, ne_ss]) [.val (.int p), .val (.int i), .val (.int o), .un, .un, .un] ⟨_, _, _, rfl⟩
  simp [stands_eq, h3]
theorem pick_wp {a0 : Addr} {l : List D} {Q : D → Prop} {E : Str → List D → Prop} (h0 : l ≠ []) (h1 : l.length < 1000000) (h : ∀ d ∈ l, Q d) : wq (t_l_pick a0 [.obj a0, .lst l]) Q E := by
  unfold t_l_pick bodyT b_l_pick
  have e0 : startE 2 [.obj a0, .lst l] = [.val (.obj a0), .val (.lst l)] := rfl
  rw [e0]
  simp only [ap_dRet, ap_dB, ap_gV, ap_dC, ap_dCons, ap_dNil, getV_zero, getV_succ, ret_bind, len_l, bind_assoc']
  refine wq_bind.mpr (wq_draw ?_ ?_ fun i hi => ?_)
  · have := List.length_pos_iff.mpr h0; omega
  · omega
  · have hi' : i < l.length := by omega
    have e : ixD (.lst l) (.int (i : Int)) = T.ret l[i] := by
      show (match atI l i with | some d => T.ret d | none => T.fail) = _
      unfold atI ixN
      rw [if_pos (by omega), if_pos hi]
      show (match l[i]? with | some d => T.ret d | none => T.fail) = _
      rw [List.getElem?_eq_getElem hi']
    simp [e]
    exact h _ (List.getElem_mem hi')
theorem pick_int {a0 : Addr} {l : List D} {Q : D → Prop} {E : Str → List D → Prop} (P : Int → Prop) (h0 : l ≠ []) (h1 : l.length < 1000000) (hl : ∀ d ∈ l, ∃ i, P i ∧ d = .int i) (h : ∀ i, P i → Q (.int i)) : wq (t_l_pick a0 [.obj a0, .lst l]) Q E :=
  pick_wp h0 h1 fun d hd => by
    obtain ⟨i, hi, e⟩ := hl d hd
    rw [e]; exact h i hi
theorem fin (a0 : Addr) : wp (b_law a0 (lawE 9 a0)) (fun o => o = .rt (.bl true)) (fun _ _ => False) := by
  rw [← wq_wp]
  have e0 : lawE 9 a0 = [.un, .val (.obj a0), .un, .un, .un, .un, .un, .un, .un] := rfl
  rw [e0]
  unfold b_law
  have hr4 : range1 [.int 4] = T.ret (rangeD 0 4) := rfl
  rw [ap_dSeq, wq_bind]
  simp only [ap_dFor, ap_dC, ap_dCons, ap_cst, ap_dNil, ret_bind, hr4]
  refine wq_forT (fun env => ∃ s2 s3 s4 s5 s6, env = [.un, .val (.obj a0), s2, s3, s4, s5, s6, .un, .un]) _ (fun d hd env hi => ?_) (fun env hi => ?_) _ ⟨_, _, _, _, _, rfl⟩
  · obtain ⟨s2, s3, s4, s5, s6, rfl⟩ := hi
    refine ⟨_, rfl, ?_⟩
    simp only [ap_dSeq, dPar, ap_dCons, ap_dC, ap_dNil, ap_dLst, ap_cst, ap_gV, ret_bind, getV_zero, getV_succ, List.set_cons_succ, List.set_cons_zero, wq_bind, wq_ret]
    refine pick_int (fun p => p ∈ primes) (by simp) (by decide) (fun d hd => by
      simp only [List.mem_cons, List.not_mem_nil, or_false] at hd
      rcases hd with rfl | rfl | rfl | rfl <;> exact ⟨_, by decide, rfl⟩) fun p hp => ?_
    refine pick_int (fun w => 0 ≤ w ∧ w ≤ 8) (by simp) (by decide) (fun d hd => by
      simp only [List.mem_cons, List.not_mem_nil, or_false] at hd
      rcases hd with rfl | rfl | rfl | rfl | rfl | rfl | rfl | rfl | rfl | rfl | rfl <;> exact ⟨_, by decide, rfl⟩) fun w hw => ?_
    have hw0 := hw.1
    have hw1 := hw.2
    have hfd : fdivD (.int w) (.int 2) = T.ret (.int (w / 2)) := rfl
    simp only [ap_dSet, ap_dC, ap_dCons, ap_dNil, ap_dLst, ap_dB, ap_cst, ap_gV, ret_bind, getV_zero, getV_succ, add_ii, hfd, wq_bind, wq_ret, bind_assoc']
    refine wq_draw (by omega) (by omega) fun i1 hi1 => ?_
    refine wq_draw (by omega) (by omega) fun i2 hi2 => ?_
    refine pick_int (fun i => 0 ≤ i ∧ i ≤ w) (by simp) (by simp) (fun d hd => by
      simp only [List.mem_cons, List.not_mem_nil, or_false] at hd
      rcases hd with rfl | rfl | rfl
      · exact ⟨_, ⟨by omega, by omega⟩, rfl⟩
      · exact ⟨_, ⟨by omega, by omega⟩, rfl⟩
      · exact ⟨_, ⟨by omega, by omega⟩, rfl⟩) fun i hi => ?_
    have hi0 := hi.1
    have hi1' := hi.2
    obtain ⟨t, ht, ed⟩ := mem_rangeD hd
    subst ed
    have c1 := counted p hp i (w - i) hi0 (by omega) (by omega)
    have c2 := counted p hp (w - i) i (by omega) hi0 (by omega)
    have eq0 : eqD (.int (0 + (t : Int))) (.int 0) = T.ret (decide ((0 + (t : Int)) = 0)) := rfl
    by_cases h0 : (0 + (t : Int)) = 0
    · simp [c1, c2, h0]
    · simp [c1, c2, h0]
  · obtain ⟨s2, s3, s4, s5, s6, rfl⟩ := hi
    simp only [ap_dSeq, ap_dSet, ap_dC, ap_dCons, ap_dNil, ap_dLst, ap_dB, ap_cst, ap_gV, ret_bind, getV_zero, getV_succ, stands_eq, wq_bind, wq_ret, bind_assoc', List.set_cons_succ, List.set_cons_zero]
    refine pick_wp (by simp [standsL]) (by decide) fun dr hdr => ?_
    obtain ⟨q, hq, rfl⟩ := List.mem_map.mp hdr
    simp only [ap_dFor, ap_dU, ap_dLst, ap_dCons, ap_dNil, ap_cst, ret_bind, items_l]
    refine wq_forT (fun env => ∃ s3 s4 s5, env = [.un, .val (.obj a0), s2, s3, s4, s5, s6, .val (row4 q.1 q.2.1 q.2.2.1 q.2.2.2), .un]) _ (fun d hd env hi => ?_) (fun env hi => ?_) _ ⟨_, _, _, rfl⟩
    · obtain ⟨s3, s4, s5, rfl⟩ := hi
      refine ⟨_, rfl, ?_⟩
      obtain ⟨p, hp, rfl⟩ : ∃ p ∈ primes, d = .int p := by
        simp only [List.mem_cons, List.not_mem_nil, or_false] at hd
        rcases hd with rfl | rfl | rfl | rfl <;> exact ⟨_, by decide, rfl⟩
      simp only [ap_dSeq, ap_dSet, ap_dC, ap_dCons, ap_dNil, ap_dLst, ap_cst, ap_gV, ret_bind, getV_zero, getV_succ, List.set_cons_succ, List.set_cons_zero, wq_bind, wq_ret]
      refine wq_draw (by decide) (by decide) fun i1 hi1 => ?_
      refine wq_draw (by decide) (by decide) fun i2 hi2 => ?_
      refine pick_int (fun i => 0 ≤ i ∧ i ≤ 4) (by simp) (by simp) (fun d hd => by
        simp only [List.mem_cons, List.not_mem_nil, or_false] at hd
        rcases hd with rfl | rfl
        · exact ⟨_, ⟨by omega, by omega⟩, rfl⟩
        · exact ⟨_, ⟨by omega, by omega⟩, rfl⟩) fun o ho => ?_
      have ho0 := ho.1
      have ho1 := ho.2
      obtain ⟨x, hx, e1, e2⟩ := rowOk q hq p hp (i1 : Int) o (by omega) ho0 (by omega)
      simp [ix_row0, e1, e2, repr1 hx, ne_ss]
    · obtain ⟨s3, s4, s5, rfl⟩ := hi
      have k1 : t_sort_count [.str "copy drop", .int 3, .int 2, .int 3] = T.ret (.int 8) := isR_eq (by decide +kernel)
      have k2 : t_sort_count [.str "copy uncopy", .int 2, .int 2, .int 2] = T.ret (.int 3) := isR_eq (by decide +kernel)
      have k3 : t_sort_count [.str "times", .int 3, .int 2, .int 2] = T.ret (.int 17) := isR_eq (by decide +kernel)
      have k4 : t_sort_count [.str "copy drop add nought unnought", .int 2, .int 1, .int 1] = T.ret (.int 3) := isR_eq (by decide +kernel)
      have r : reprD [.lst [.int 8, .int 3, .int 17, .int 3]] = T.ret (.str (D.lst [.int 8, .int 3, .int 17, .int 3]).py.shown) := repr_fit (by decide) (by decide) (by decide)
      have a : addD (.lst [.int 8, .int 3, .int 17]) (.lst [.int 3]) = T.ret (.lst [.int 8, .int 3, .int 17, .int 3]) := by
        have h4 : (3 + 1 : Nat) ≤ sizeLine := by decide
        simp [addD, h4]
      simp [k1, k2, k3, k4, r, a, eq_ss]
end Law

namespace Law
open PySem PySem.Spec PyProof.Rows L2 Eng
theorem made {K : PySem.W.Frag} (a : Addr) (ns : List Int) (h : ns.length ≤ 63) : wp (t_l_spring a ns [.obj a]) (MadeOf K (fun (j : Addr × Addr × Addr) => PX1 j.1 j.2.1 j.2.2) (fun j => j.1)) (fun _ _ => False) := by
  obtain ⟨ds, cs, st, h1, h2, h3⟩ := cr1 a ns
  exact wp_eq h3 (made1 h1 h2)
def fn : List He.DefD := ([dfOf "_law_spring" s_l_spring, dfOf "_law_draw" s_l_draw, dfOf "_law_pick" s_l_pick, dfOf "_law_stands" s_l_stands, dfOf "need_sort" s_need_sort, dfOf "power" s_power, dfOf "flat_count" s_flat_count, dfOf "table_count" s_table_count, dfOf "ways_onto" s_ways_onto, dfOf "orders_of" s_orders_of, dfOf "parted_count" s_parted_count, dfOf "bell_count" s_bell_count, dfOf "times_count" s_times_count, dfOf "sort_count" s_sort_count, dfOf "_law_power" s_l_power, dfOf "_law_stairs" s_l_stairs, dfOf "_law_onto" s_l_onto, dfOf "_law_partings" s_l_partings, dfOf "_law_factors" s_l_factors, dfOf "_law_many" s_l_many, dfOf "_law_count" s_l_count, dfOf "_law_is_counted" s_l_is_counted, dfOf "law" s_law] : List He.DefD)
def fa : List He.Fa := ([.glo "_law_spring", .glo "_law_draw", .glo "_law_pick", .glo "_law_stands", .glo "need_sort", .glo "power", .glo "flat_count", .glo "table_count", .glo "ways_onto", .glo "orders_of", .glo "parted_count", .glo "bell_count", .glo "times_count", .glo "sort_count", .glo "_law_power", .glo "_law_stairs", .glo "_law_onto", .glo "_law_partings", .glo "_law_factors", .glo "_law_many", .glo "_law_count", .glo "_law_is_counted", .glo "law", .free "abs", .free "enumerate", .free "int", .free "isinstance", .free "len", .free "min", .free "range"] : List He.Fa) ++ ([.free "repr", .free "str", .free "sum"] : List He.Fa)
theorem facts {P : Program} {w : World} {K : PySem.W.Frag} {h : Heap} {mg : Str → Option Value} {f : Addr} (X : K.In h) (G : h.Ns mainGlobals mg) (hfa : mg ("law" : Str) = some (.ref f)) (c : He.SaysD fa fn K) (g_SORTS : chkG K "SORTS" c_SORTS = true) (t_OTHERS : He.dicW K (He.ga K "OTHERS") = some (He.keysIn w.params ["uncopy", "uncopy undrop", "add", "add nought", "unadd", "unadd unnought", "add unadd", "add nought unadd unnought", "uncopy undrop unadd unnought", "nought uncopy undrop unadd unnought", "drop uncopy undrop unadd unnought", "drop nought uncopy undrop unadd unnought", "untimes"])) (u_OTHERS : chkD K "OTHERS" k_OTHERS = true) :
    ∃ fd : FuncData, (∀ (s : Shared) (u : Value), BindsTo s fd ⟨[u], []⟩ [("_law_script", u)]) ∧ ∀ base : Heap, FnG P w K mg base 6 f fd p_law (spLaw K 63) := by
  have hd : Hd K w mg := ⟨at_of X G c 0 0 rfl rfl, at_of X G c 1 1 rfl rfl, at_of X G c 2 2 rfl rfl, at_of X G c 3 3 rfl rfl, at_of X G c 4 4 rfl rfl, at_of X G c 5 5 rfl rfl, at_of X G c 6 6 rfl rfl, at_of X G c 7 7 rfl rfl, at_of X G c 8 8 rfl rfl, at_of X G c 9 9 rfl rfl, at_of X G c 10 10 rfl rfl, at_of X G c 11 11 rfl rfl, at_of X G c 12 12 rfl rfl, at_of X G c 13 13 rfl rfl, at_of X G c 14 14 rfl rfl, at_of X G c 15 15 rfl rfl, at_of X G c 16 16 rfl rfl, at_of X G c 17 17 rfl rfl, at_of X G c 18 18 rfl rfl, at_of X G c 19 19 rfl rfl, at_of X G c 20 20 rfl rfl, at_of X G c 21 21 rfl rfl, He.free_ok X G (c.fact 23 (f := .free "abs") rfl), He.free_ok X G (c.fact 24 (f := .free "enumerate") rfl), He.free_ok X G (c.fact 25 (f := .free "int") rfl), He.free_ok X G (c.fact 26 (f := .free "isinstance") rfl), He.free_ok X G (c.fact 27 (f := .free "len") rfl), He.free_ok X G (c.fact 28 (f := .free "min") rfl), He.free_ok X G (c.fact 29 (f := .free "range") rfl), He.free_ok X G (c.fact 30 (f := .free "repr") rfl), He.free_ok X G (c.fact 31 (f := .free "str") rfl), He.free_ok X G (c.fact 32 (f := .free "sum") rfl), chkG_ok X G g_SORTS, chkD_ok X G (He.dicW_ok t_OTHERS) u_OTHERS⟩
  obtain ⟨fd, F⟩ := c.def_ 22 (d := dfOf "law" s_law) rfl
  have e := hfa.symm.trans (He.glo_ok X G (c.fact 22 (f := .glo "law") rfl))
  cases e
  have b := FunD.bindsA (ps := p_law) F fun _ _ _ _ _ _ us hl => match us, hl with | [_], _ => rfl
  refine ⟨fd, fun s v => b s [v] rfl, fun base => law_fn (hd := fun (j : (Addr × Addr × Addr)) => j.1) (PX := (fun (j : Addr × Addr × Addr) => PX1 j.1 j.2.1 j.2.2)) (cr := t_l_spring) (wl := b_law) rfl F sc_law (by decide) made (fin) (d_rest hd)⟩
end Law
open PySem PySem.W PyProof.Rows
set_option maxHeartbeats 0 in
theorem PySem.Challenge.cw_boxlaws_k62_sort_count_holds : PySem.Challenge.rw_boxlaws_k62_sort_count.Holds := by
  w_on; o_law; k_head; (case hw => w_witness2)
  k_fill
  refine Eng.walk_ofGK (l := PySem.Challenge.rw_boxlaws_k62_sort_count) (n := 63) (k := 6) (x := "_law_script") rfl (by decide) rfl ⟨rfl, by decide, by decide⟩ (fun w h Y => PySem.W.kIn_of Y) ?F
  case F =>
    intro w mg fa h KX G hmg
    refine Law.facts KX G hmg (by unfold He.SaysD; kernel_rfl) ?_ ?_ ?_ <;> kernel_rfl
