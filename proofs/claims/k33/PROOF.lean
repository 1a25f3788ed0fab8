import PyProof.Rows.All
import Wide.All
import OpenK.AllK
import Wide.FinOn
import HandS.Base
import HandS.Call
import HandS.List
import HandS.Comp
import HandS.Ends
import HandS.Exc
import HandS.TryOnly
import HandS.ExcOwn
import HandS.Words
import HandS.TupAny
import HandS.TupLe
import HandS.Deep
import HandS.Text
import HandS.Wide
import HandS.IsInst
import HandS.SortInts
import HandS.Iter
import HandS.WordsExc
import PySem.Challenge.RW_unmovedways_k33_whole_best_chain
set_option Elab.async false
set_option linter.all false
set_option maxRecDepth 99999
set_option maxHeartbeats 4444444
namespace Um
open L2 PySem PySem.Spec PyProof.Rows

/-! ## Values as trees; what stands for them in the heap -/
inductive D where
  | non | bl (b : Bool) | int (i : Int) | str (s : Str) | ty (n : String) | cl (c : Str)
  | lst (xs : List D) | scr (xs : List D) | tup (xs : List D)
  | ins (c : Str) (ns : List Str) (xs : List D)
  | dic (ks : List Key) (xs : List D)

mutual
inductive Rep (K : PySem.W.Frag) (ca : Str → Addr) (F : Hp) : V → D → Prop
  | non : Rep K ca F .non .non
  | bl (b : Bool) : Rep K ca F (.bl b) (.bl b)
  | int (i : Int) : Rep K ca F (.int i) (.int i)
  | str (s : Str) : Rep K ca F (.str s) (.str s)
  | ty (n : String) : Rep K ca F (.ty n) (.ty n)
  | cl (c : Str) : Rep K ca F (.ref (ca c)) (.cl c)
  | lst {p : Addr} {vs : List V} {ds : List D} (h : F p = some (.lst vs)) (r : Reps K ca F vs ds) : Rep K ca F (.ref p) (.lst ds)
  | scr {p : Addr} {vs : List V} {ds : List D} (h : SqL K F p vs) (r : Reps K ca F vs ds) : Rep K ca F (.ref p) (.scr ds)
  | tup {p : Addr} {vs : List V} {ds : List D} (h : SqT K F p vs) (r : Reps K ca F vs ds) : Rep K ca F (.ref p) (.tup ds)
  | ins {p dx : Addr} {c : Str} {ns : List Str} {fs : List (Str × V)} {ds : List D} (h : F p = some (.ins (ca c) dx fs)) (hn : fs.map (·.1) = ns) (r : Reps K ca F (fs.map (·.2)) ds) : Rep K ca F (.ref p) (.ins c ns ds)
  | dic {p : Addr} {ks : List Key} {kvs : List (Key × V)} {ds : List D} (h : F p = some (.dK kvs)) (hn : kvs.map (·.1) = ks) (r : Reps K ca F (kvs.map (·.2)) ds) : Rep K ca F (.ref p) (.dic ks ds)
inductive Reps (K : PySem.W.Frag) (ca : Str → Addr) (F : Hp) : List V → List D → Prop
  | nil : Reps K ca F [] []
  | cons {v : V} {d : D} {vs : List V} {ds : List D} (h : Rep K ca F v d) (r : Reps K ca F vs ds) : Reps K ca F (v :: vs) (d :: ds)
end

def Le (F H : Hp) : Prop := ∀ a o, F a = some o → H a = some o
theorem Le.refl (H : Hp) : Le H H := fun _ _ h => h
theorem Le.trans {A B C : Hp} (a : Le A B) (b : Le B C) : Le A C := fun x o h => b x o (a x o h)
theorem Le.rd {F H : Hp} (e : Le F H) {a : Addr} {u : HO} (h : Rd F a u) : Rd H a u := by
  rcases h with h | ⟨o, h⟩
  · exact Or.inl (e a _ h)
  · exact Or.inr ⟨o, e a _ h⟩
theorem Le.l {K : PySem.W.Frag} {F H : Hp} (e : Le F H) {a : Addr} {xs : List V} (h : SqL K F a xs) : SqL K H a xs := by
  rcases h with h | h
  · exact Or.inl (e.rd h)
  · exact Or.inr h
theorem Le.t {K : PySem.W.Frag} {F H : Hp} (e : Le F H) {a : Addr} {xs : List V} (h : SqT K F a xs) : SqT K H a xs := by
  rcases h with h | h
  · exact Or.inl (e.rd h)
  · exact Or.inr h
theorem Le.new {H : Hp} {p : Addr} {o : HO} (h : H p = none) : Le H (upd H p o) := fun a u e => by
  rw [upd_ne (ne_of_none e h)]; exact e
theorem Le.free {F H : Hp} (e : Le F H) {p : Addr} (h : H p = none) : F p = none := by
  cases h1 : F p with
  | none => rfl
  | some o => rw [e p o h1] at h; cases h

section
variable {K : PySem.W.Frag} {ca : Str → Addr} {F F' : Hp}
mutual
theorem Rep.mono (e : Le F F') : ∀ {v : V} {d : D}, Rep K ca F v d → Rep K ca F' v d
  | _, _, .non => .non
  | _, _, .bl b => .bl b
  | _, _, .int i => .int i
  | _, _, .str s => .str s
  | _, _, .ty s => .ty s
  | _, _, .cl s => .cl s
  | _, _, .lst h r => .lst (e _ _ h) (Reps.mono e r)
  | _, _, .scr h r => .scr (e.l h) (Reps.mono e r)
  | _, _, .tup h r => .tup (e.t h) (Reps.mono e r)
  | _, _, .ins h hn r => .ins (e _ _ h) hn (Reps.mono e r)
  | _, _, .dic h hn r => .dic (e _ _ h) hn (Reps.mono e r)
theorem Reps.mono (e : Le F F') : ∀ {vs : List V} {ds : List D}, Reps K ca F vs ds → Reps K ca F' vs ds
  | _, _, .nil => .nil
  | _, _, .cons h r => .cons (Rep.mono e h) (Reps.mono e r)
end
theorem Reps.length {vs : List V} {ds : List D} (r : Reps K ca F vs ds) : vs.length = ds.length := by
  induction vs generalizing ds with
  | nil => cases r; rfl
  | cons v vs ih => cases r with | cons h r => rw [List.length_cons, List.length_cons, ih r]
theorem Reps.get {vs : List V} {ds : List D} (r : Reps K ca F vs ds) {i : Nat} {d : D} (h : ds[i]? = some d) : ∃ v, vs[i]? = some v ∧ Rep K ca F v d := by
  induction vs generalizing ds i with
  | nil => cases r; simp at h
  | cons v vs ih =>
    cases r with
    | cons q r =>
      cases i with
      | zero => simp at h; subst h; exact ⟨v, rfl, q⟩
      | succ i => simpa using ih r (by simpa using h)
theorem Reps.get' {vs : List V} {ds : List D} (r : Reps K ca F vs ds) {i : Nat} {v : V} (h : vs[i]? = some v) : ∃ d, ds[i]? = some d ∧ Rep K ca F v d := by
  induction vs generalizing ds i with
  | nil => simp at h
  | cons v vs ih =>
    cases r with
    | cons q r =>
      cases i with
      | zero => simp at h; subst h; exact ⟨_, rfl, q⟩
      | succ i => simpa using ih r (by simpa using h)
theorem Reps.append {vs ws : List V} {ds es : List D} (r : Reps K ca F vs ds) (q : Reps K ca F ws es) : Reps K ca F (vs ++ ws) (ds ++ es) := by
  induction vs generalizing ds with
  | nil => cases r; exact q
  | cons v vs ih => cases r with | cons h r => exact .cons h (ih r)
theorem Reps.snoc {vs : List V} {v : V} {ds : List D} {d : D} (r : Reps K ca F vs ds) (q : Rep K ca F v d) : Reps K ca F (vs ++ [v]) (ds ++ [d]) := r.append (.cons q .nil)
theorem Reps.take {vs : List V} {ds : List D} (r : Reps K ca F vs ds) (n : Nat) : Reps K ca F (vs.take n) (ds.take n) := by
  induction vs generalizing ds n with
  | nil => cases r; simpa using Reps.nil
  | cons v vs ih =>
    cases r with
    | cons h r =>
      cases n with
      | zero => exact .nil
      | succ n => exact .cons h (ih r n)
theorem Reps.drop {vs : List V} {ds : List D} (r : Reps K ca F vs ds) (n : Nat) : Reps K ca F (vs.drop n) (ds.drop n) := by
  induction vs generalizing ds n with
  | nil => cases r; simpa using Reps.nil
  | cons v vs ih =>
    cases r with
    | cons h r =>
      cases n with
      | zero => exact .cons h r
      | succ n => exact ih r n
theorem Reps.set {vs : List V} {ds : List D} (r : Reps K ca F vs ds) {v : V} {d : D} (q : Rep K ca F v d) (n : Nat) : Reps K ca F (vs.set n v) (ds.set n d) := by
  induction vs generalizing ds n with
  | nil => cases r; simpa using Reps.nil
  | cons w vs ih =>
    cases r with
    | cons h r =>
      cases n with
      | zero => exact .cons q r
      | succ n => exact .cons h (ih r n)
theorem Reps.ints (ns : List Int) : Reps K ca F (ns.map V.int) (ns.map D.int) := by
  induction ns with
  | nil => exact .nil
  | cons n ns ih => exact .cons (.int n) ih
theorem Reps.ints_inv {vs : List V} {ns : List Int} (r : Reps K ca F vs (ns.map D.int)) : vs = ns.map V.int := by
  induction ns generalizing vs with
  | nil => cases r; rfl
  | cons n ns ih =>
    cases r with
    | cons h r => cases h; rw [ih r]; rfl
theorem Reps.strs_inv {vs : List V} {ns : List Str} (r : Reps K ca F vs (ns.map D.str)) : vs = ns.map V.str := by
  induction ns generalizing vs with
  | nil => cases r; rfl
  | cons n ns ih =>
    cases r with
    | cons h r => cases h; rw [ih r]; rfl
end

/-! ## Growth: F is what is known and stays, H the heap -/
structure Go (F H F' H' : Hp) : Prop where
  f : Le F F'
  h : Le H H'
  fh : Le F' H'
  fr : ∀ p o, H p = some o → F p = none → F' p = none
theorem Go.refl {F H : Hp} (e : Le F H) : Go F H F H := ⟨Le.refl F, Le.refl H, e, fun _ _ _ h => h⟩
theorem Go.trans {F H F1 H1 F2 H2 : Hp} (a : Go F H F1 H1) (b : Go F1 H1 F2 H2) : Go F H F2 H2 :=
  ⟨a.f.trans b.f, a.h.trans b.h, b.fh, fun p o h n => b.fr p o (a.h p o h) (a.fr p o h n)⟩
/-- a new thing that is known from then on -/
theorem Go.new {F H : Hp} (e : Le F H) {p : Addr} (hp : H p = none) (o : HO) : Go F H (upd F p o) (upd H p o) := by
  refine ⟨Le.new (e.free hp), Le.new hp, fun a u q => ?_, fun q u hq n => ?_⟩
  · by_cases h : a = p
    · subst h; rw [upd_same] at q ⊢; exact q
    · rw [upd_ne h] at q ⊢; exact e a u q
  · rw [upd_ne (ne_of_none hq hp)]; exact n
/-- a new thing that is not (yet) known -/
theorem Go.hid {F H : Hp} (e : Le F H) {p : Addr} (hp : H p = none) (o : HO) : Go F H F (upd H p o) :=
  ⟨Le.refl F, Le.new hp, e.trans (Le.new hp), fun _ _ _ n => n⟩

/-! ## Results -/
structure Exc where
  cls : Str
  ns : List Str
  ds : List D
inductive R (α : Type) where
  | ok (a : α) | er (x : Exc) | bad
def R.bind {α β : Type} (r : R α) (k : α → R β) : R β := match r with
  | .ok a => k a
  | .er x => .er x
  | .bad => .bad
def R.map {α β : Type} (f : α → β) (r : R α) : R β := r.bind fun a => .ok (f a)
@[simp] theorem R.bind_ok {α β : Type} (a : α) (k : α → R β) : (R.ok a).bind k = k a := rfl
@[simp] theorem R.bind_er {α β : Type} (x : Exc) (k : α → R β) : (R.er x : R α).bind k = .er x := rfl
@[simp] theorem R.bind_bad {α β : Type} (k : α → R β) : (R.bad : R α).bind k = .bad := rfl
@[simp] theorem R.map_ok {α β : Type} (f : α → β) (a : α) : R.map f (.ok a) = .ok (f a) := rfl
end Um

namespace Um
open L2 PySem PySem.Spec PyProof.Rows

/-! ## Weakest readings of the syntax -/
def WE (X : Cx) (e : Expr) : TE := fun σ H Q => ∃ t, PE X e t ∧ t σ H Q
def WT (X : Cx) (e : Expr) : TT := fun σ H Q => ∃ t, PT X e t ∧ t σ H Q
def WA (X : Cx) (es : List Expr) : TA := fun σ H Q => ∃ t, PA X es t ∧ t σ H Q
def WS (X : Cx) (st : Stmt) : TS := fun D σ H => ∃ t, PS X st t ∧ t D σ H
def WSs (X : Cx) (ss : List Stmt) : TS := fun D σ H => ∃ t, PSs X ss t ∧ t D σ H
def WI (X : Cx) (tg it : Expr) : TI := fun σ H R => ∃ t, PI X tg it t ∧ t σ H R
def WO (X : Cx) (e : Option Expr) : TO := fun σ H Q => ∃ t, PO X e t ∧ t σ H Q
section
variable {X : Cx}
theorem pe_W {e : Expr} : PE X e (WE X e) := ⟨fun pins s σ H Q I ⟨_, p, h⟩ => p.run pins s σ H Q I h⟩
theorem pt_W {e : Expr} : PT X e (WT X e) := ⟨fun pins s σ H Q I ⟨_, p, h⟩ => p.run pins s σ H Q I h⟩
theorem pa_W {es : List Expr} : PA X es (WA X es) := ⟨fun pos pins s σ H Q I ⟨_, p, h⟩ => p.run pos pins s σ H Q I h⟩
theorem ps_W {st : Stmt} : PS X st (WS X st) := ⟨fun pins s σ H D I ⟨_, p, h⟩ => p.run pins s σ H D I h⟩
theorem pss_W {ss : List Stmt} : PSs X ss (WSs X ss) := ⟨fun pins s σ H D I ⟨_, p, h⟩ => p.run pins s σ H D I h⟩
theorem pi_W {tg it : Expr} : PI X tg it (WI X tg it) := ⟨fun pins s σ H R I ⟨_, p, h⟩ => p.run pins s σ H R I h⟩
end

/-! ## Modes of a result: data (v), to be read (r), a new thing of one's own (o) -/
/-- shapes of trees of one's own: data, a list, a tuple of such -/
inductive Sh where | v | o | t (s : Sh) | n | c (h s : Sh) deriving DecidableEq
inductive Md where | v | r | o | q (s : Sh) deriving DecidableEq
section
variable (K : PySem.W.Frag) (ca : Str → Addr)
def OwnAt (F H : Hp) (p : Addr) (d : D) : Prop :=
  (∃ (vs : List V) (ds : List D), d = .lst ds ∧ H p = some (.lst vs) ∧ Reps K ca F vs ds) ∨
  (∃ (kvs : List (Key × V)) (ks : List Key) (ds : List D), d = .dic ks ds ∧ H p = some (.dK kvs) ∧ kvs.map (·.1) = ks ∧ Reps K ca F (kvs.map (·.2)) ds)
mutual
/-- a tree of one's own; its cells -/
inductive Own (F H : Hp) : Sh → List Addr → V → D → Prop
  | leaf {v : V} {d : D} (h : Rep K ca F v d) : Own F H .v [] v d
  | lst {p : Addr} {d : D} (o : OwnAt K ca F H p d) : Own F H .o [p] (.ref p) d
  | tup {p : Addr} {vs : List V} {ds : List D} {s : Sh} {cs : List Addr} (h : H p = some (.tup vs)) (r : Owns F H s cs vs ds) : Own F H (.t s) (p :: cs) (.ref p) (.tup ds)
inductive Owns (F H : Hp) : Sh → List Addr → List V → List D → Prop
  | nil : Owns F H .n [] [] []
  | cons {v : V} {d : D} {vs : List V} {ds : List D} {h s : Sh} {c cs : List Addr} (a : Own F H h c v d) (r : Owns F H s cs vs ds) : Owns F H (.c h s) (c ++ cs) (v :: vs) (d :: ds)
end
def AR (F H : Hp) (v : V) (d : D) : Prop := Rep K ca F v d ∨ ∃ p, v = .ref p ∧ OwnAt K ca F H p d
def Res (m : Md) (H F' H' : Hp) (v : V) (d : D) : Prop := match m with
  | .v => Rep K ca F' v d
  | .r => AR K ca F' H' v d
  | .o => ∃ p, v = .ref p ∧ H p = none ∧ F' p = none ∧ OwnAt K ca F' H' p d
  | .q s => ∃ cs : List Addr, cs.Nodup ∧ (∀ p, p ∈ cs → H p = none ∧ F' p = none) ∧ Own K ca F' H' s cs v d
abbrev Ek := Exc → Hp → Hp → Prop
def Post (m : Md) (E : Ek) (F H : Hp) (r : R D) (Q : VK) : Prop := match r with
  | .ok d => ∀ v F' H', Go F H F' H' → Res K ca m H F' H' v d → Q v H'
  | .er x => ∀ F' H', Go F H F' H' → E x F' H'
  | .bad => False
/-- an exception that stands -/
def ExcRep (F : Hp) (c : Value) (d : Option Addr) (x : Exc) : Prop :=
  c = .ref (ca x.cls) ∧ ((x.ns = [] ∧ x.ds = [] ∧ d = none) ∨ ∃ p fs, d = some p ∧ F p = some (.xd fs) ∧ fs.map (·.1) = x.ns ∧ Reps K ca F (fs.map (·.2)) x.ds)
def ekOf (W : WX) (σ : L2.St) : Ek := fun x F' H' => ∀ c d, ExcRep K ca F' c d x → W c d σ H'
/-! ## Slots -/
inductive Sl where
  | d (x : D) | b (x : D) | o (x : D)
abbrev En := List (Option Sl)
def SlOk (H0 F H : Hp) (v : V) : Sl → Prop
  | .d x => Rep K ca F v x
  | .b x => Rep K ca F v x ∨ ∃ p, v = .ref p ∧ OwnAt K ca F H0 p x
  | .o x => ∃ p, v = .ref p ∧ H0 p = none ∧ F p = none ∧ OwnAt K ca F H p x
structure EnOk (H0 F H : Hp) (σ : L2.St) (env : En) : Prop where
  h0 : Le H0 H
  len : σ.length = env.length
  at_ : ∀ (i : Nat) s, env[i]? = some (some s) → ∃ v, σ[i]? = some (some v) ∧ SlOk K ca H0 F H v s
  own : ∀ (i j : Nat) (x y : D), env[i]? = some (some (.o x)) → env[j]? = some (some (.o y)) → σ[i]? = σ[j]? → i = j
end
section
variable {K : PySem.W.Frag} {ca : Str → Addr} {H0 F H F' H' : Hp}
theorem OwnAt.mono {p : Addr} {d : D} (g : Go F H F' H') (h : OwnAt K ca F H p d) : OwnAt K ca F' H' p d := by
  rcases h with ⟨vs, ds, e, h, r⟩ | ⟨kvs, ks, ds, e, h, q, r⟩
  · exact .inl ⟨vs, ds, e, g.h _ _ h, r.mono g.f⟩
  · exact .inr ⟨kvs, ks, ds, e, g.h _ _ h, q, r.mono g.f⟩
theorem OwnAt.monoF {p : Addr} {d : D} (g : Le F F') (h : OwnAt K ca F H p d) : OwnAt K ca F' H p d := by
  rcases h with ⟨vs, ds, e, h, r⟩ | ⟨kvs, ks, ds, e, h, q, r⟩
  · exact .inl ⟨vs, ds, e, h, r.mono g⟩
  · exact .inr ⟨kvs, ks, ds, e, h, q, r.mono g⟩
theorem OwnAt.monoH {p : Addr} {d : D} (g : Le H H') (h : OwnAt K ca F H p d) : OwnAt K ca F H' p d := by
  rcases h with ⟨vs, ds, e, h, r⟩ | ⟨kvs, ks, ds, e, h, q, r⟩
  · exact .inl ⟨vs, ds, e, g _ _ h, r⟩
  · exact .inr ⟨kvs, ks, ds, e, g _ _ h, q, r⟩
theorem OwnAt.some {p : Addr} {d : D} (h : OwnAt K ca F H p d) : ∃ o, H p = some o := by
  rcases h with ⟨vs, ds, e, h, r⟩ | ⟨kvs, ks, ds, e, h, q, r⟩
  · exact ⟨_, h⟩
  · exact ⟨_, h⟩
theorem AR.mono {v : V} {d : D} (g : Go F H F' H') (h : AR K ca F H v d) : AR K ca F' H' v d := by
  rcases h with h | ⟨p, e, h⟩
  · exact .inl (h.mono g.f)
  · exact .inr ⟨p, e, h.mono g⟩
theorem SlOk.mono {v : V} {s : Sl} (g : Go F H F' H') (h : SlOk K ca H0 F H v s) : SlOk K ca H0 F' H' v s := by
  cases s with
  | d x => exact Rep.mono g.f h
  | b x =>
    rcases h with h | ⟨p, e, h⟩
    · exact .inl (h.mono g.f)
    · exact .inr ⟨p, e, h.monoF g.f⟩
  | o x =>
    obtain ⟨p, e, n, f, h⟩ := h
    obtain ⟨u, hu⟩ := h.some
    exact ⟨p, e, n, g.fr p u hu f, h.mono g⟩
theorem EnOk.mono {σ : L2.St} {env : En} (g : Go F H F' H') (h : EnOk K ca H0 F H σ env) : EnOk K ca H0 F' H' σ env :=
  ⟨h.h0.trans g.h, h.len, fun i s e => by obtain ⟨v, h1, h2⟩ := h.at_ i s e; exact ⟨v, h1, h2.mono g⟩, h.own⟩
theorem Post.mono {m : Md} {E : Ek} {r : R D} {Q : VK} (g : Go F H F' H') (h : Post K ca m E F H r Q) : Post K ca m E F' H' r Q := by
  cases r with
  | ok d =>
    intro v F2 H2 g2 q
    refine h v F2 H2 (g.trans g2) ?_
    cases m with
    | v => exact q
    | r => exact q
    | o =>
      obtain ⟨p, e, n, f, o⟩ := q
      exact ⟨p, e, g.h.free n, f, o⟩
    | q s =>
      obtain ⟨cs, nd, n, o⟩ := q
      exact ⟨cs, nd, fun p hp => ⟨g.h.free (n p hp).1, (n p hp).2⟩, o⟩
  | er x => exact fun F2 H2 g2 => h F2 H2 (g.trans g2)
  | bad => exact h
end

/-! ## Judgements -/
section
variable (ca : Str → Addr) (X : Cx) (W : WX) (H0 : Hp)
/-- an expression's -/
def SE (m : Md) (env : En) (e : Expr) (r : R D) : Prop := ∀ F H σ Q, Le F H → EnOk X.K ca H0 F H σ env → Post X.K ca m (ekOf X.K ca W σ) F H r Q → WE X e σ H Q
def PostB (E : Ek) (F H : Hp) (r : R Bool) (Q : Bool → Hp → Prop) : Prop := match r with
  | .ok b => ∀ F' H', Go F H F' H' → Q b H'
  | .er x => ∀ F' H', Go F H F' H' → E x F' H'
  | .bad => False
/-- a test's -/
def ST (env : En) (e : Expr) (r : R Bool) : Prop := ∀ F H σ Q, Le F H → EnOk X.K ca H0 F H σ env → PostB (ekOf X.K ca W σ) F H r Q → WT X e σ H Q
inductive ARs (K : PySem.W.Frag) (ca : Str → Addr) (F H : Hp) : List Md → List V → List D → Prop
  | nil : ARs K ca F H [] [] []
  | consR {ms vs ds v d} (h : AR K ca F H v d) (r : ARs K ca F H ms vs ds) : ARs K ca F H (.r :: ms) (v :: vs) (d :: ds)
  | consV {ms vs ds v d} (h : Rep K ca F v d) (r : ARs K ca F H ms vs ds) : ARs K ca F H (.v :: ms) (v :: vs) (d :: ds)
def PostA (ms : List Md) (E : Ek) (F H : Hp) (r : R (List D)) (Q : List V → Hp → Prop) : Prop := match r with
  | .ok ds => ∀ vs F' H', Go F H F' H' → ARs X.K ca F' H' ms vs ds → Q vs H'
  | .er x => ∀ F' H', Go F H F' H' → E x F' H'
  | .bad => False
/-- an argument list's -/
def SA (ms : List Md) (env : En) (es : List Expr) (r : R (List D)) : Prop := ∀ F H σ Q, Le F H → EnOk X.K ca H0 F H σ env → PostA ca X ms (ekOf X.K ca W σ) F H r Q → WA X es σ H Q
end
section
variable {K : PySem.W.Frag} {ca : Str → Addr} {X : Cx} {W : WX} {H0 F H F' H' : Hp}
theorem ARs.mono {ms : List Md} {vs : List V} {ds : List D} (g : Go F H F' H') (h : ARs K ca F H ms vs ds) : ARs K ca F' H' ms vs ds := by
  induction h with
  | nil => exact .nil
  | consR h _ ih => exact .consR (h.mono g) ih
  | consV h _ ih => exact .consV (h.mono g.f) ih
theorem ARs.length {ms : List Md} {vs : List V} {ds : List D} (h : ARs K ca F H ms vs ds) : vs.length = ds.length := by
  induction h with
  | nil => rfl
  | consR h _ ih => rw [List.length_cons, List.length_cons, ih]
  | consV h _ ih => rw [List.length_cons, List.length_cons, ih]
theorem PostB.mono {E : Ek} {r : R Bool} {Q : Bool → Hp → Prop} (g : Go F H F' H') (h : PostB E F H r Q) : PostB E F' H' r Q := by
  cases r with
  | ok b => exact fun F2 H2 g2 => h F2 H2 (g.trans g2)
  | er x => exact fun F2 H2 g2 => h F2 H2 (g.trans g2)
  | bad => exact h
theorem PostA.mono {ms : List Md} {E : Ek} {r : R (List D)} {Q : List V → Hp → Prop} (g : Go F H F' H') (h : PostA ca X ms E F H r Q) : PostA ca X ms E F' H' r Q := by
  cases r with
  | ok b => exact fun vs F2 H2 g2 => h vs F2 H2 (g.trans g2)
  | er x => exact fun F2 H2 g2 => h F2 H2 (g.trans g2)
  | bad => exact h
/-- one step, then the rest -/
theorem SE.then {m m' : Md} {env : En} {e : Expr} {r : R D} {k : D → R D} {σ : L2.St} {Q : VK} {G : VK} (h : SE ca X W H0 m env e r) (le : Le F H) (ok : EnOk X.K ca H0 F H σ env)
    (hp : Post X.K ca m' (ekOf X.K ca W σ) F H (r.bind k) Q)
    (hg : ∀ d v F' H', r = .ok d → Go F H F' H' → Res X.K ca m H F' H' v d → EnOk X.K ca H0 F' H' σ env → Post X.K ca m' (ekOf X.K ca W σ) F' H' (k d) Q → G v H') : WE X e σ H G := by
  refine h F H σ G le ok ?_
  cases r with
  | ok d => exact fun v F' H' g q => hg d v F' H' rfl g q (ok.mono g) (hp.mono g)
  | er x => exact hp
  | bad => exact hp
theorem SE.thenB {m : Md} {env : En} {e : Expr} {r : R D} {k : D → R Bool} {σ : L2.St} {Q : Bool → Hp → Prop} {G : VK} (h : SE ca X W H0 m env e r) (le : Le F H) (ok : EnOk X.K ca H0 F H σ env)
    (hp : PostB (ekOf X.K ca W σ) F H (r.bind k) Q)
    (hg : ∀ d v F' H', r = .ok d → Go F H F' H' → Res X.K ca m H F' H' v d → EnOk X.K ca H0 F' H' σ env → PostB (ekOf X.K ca W σ) F' H' (k d) Q → G v H') : WE X e σ H G := by
  refine h F H σ G le ok ?_
  cases r with
  | ok d => exact fun v F' H' g q => hg d v F' H' rfl g q (ok.mono g) (hp.mono g)
  | er x => exact hp
  | bad => exact hp
theorem SE.thenA {m : Md} {ms : List Md} {env : En} {e : Expr} {r : R D} {k : D → R (List D)} {σ : L2.St} {Q : List V → Hp → Prop} {G : VK} (h : SE ca X W H0 m env e r) (le : Le F H) (ok : EnOk X.K ca H0 F H σ env)
    (hp : PostA ca X ms (ekOf X.K ca W σ) F H (r.bind k) Q)
    (hg : ∀ d v F' H', r = .ok d → Go F H F' H' → Res X.K ca m H F' H' v d → EnOk X.K ca H0 F' H' σ env → PostA ca X ms (ekOf X.K ca W σ) F' H' (k d) Q → G v H') : WE X e σ H G := by
  refine h F H σ G le ok ?_
  cases r with
  | ok d => exact fun v F' H' g q => hg d v F' H' rfl g q (ok.mono g) (hp.mono g)
  | er x => exact hp
  | bad => exact hp
theorem SA.then {ms : List Md} {m' : Md} {env : En} {es : List Expr} {r : R (List D)} {k : List D → R D} {σ : L2.St} {Q : VK} {G : List V → Hp → Prop} (h : SA ca X W H0 ms env es r) (le : Le F H) (ok : EnOk X.K ca H0 F H σ env)
    (hp : Post X.K ca m' (ekOf X.K ca W σ) F H (r.bind k) Q)
    (hg : ∀ ds vs F' H', r = .ok ds → Go F H F' H' → ARs X.K ca F' H' ms vs ds → EnOk X.K ca H0 F' H' σ env → Post X.K ca m' (ekOf X.K ca W σ) F' H' (k ds) Q → G vs H') : WA X es σ H G := by
  refine h F H σ G le ok ?_
  cases r with
  | ok d => exact fun v F' H' g q => hg d v F' H' rfl g q (ok.mono g) (hp.mono g)
  | er x => exact hp
  | bad => exact hp
theorem ST.thenB {env : En} {e : Expr} {r : R Bool} {k : Bool → R Bool} {σ : L2.St} {Q : Bool → Hp → Prop} {G : Bool → Hp → Prop} (h : ST ca X W H0 env e r) (le : Le F H) (ok : EnOk X.K ca H0 F H σ env)
    (hp : PostB (ekOf X.K ca W σ) F H (r.bind k) Q)
    (hg : ∀ b F' H', r = .ok b → Go F H F' H' → EnOk X.K ca H0 F' H' σ env → PostB (ekOf X.K ca W σ) F' H' (k b) Q → G b H') : WT X e σ H G := by
  refine h F H σ G le ok ?_
  cases r with
  | ok d => exact fun F' H' g => hg d F' H' rfl g (ok.mono g) (hp.mono g)
  | er x => exact hp
  | bad => exact hp
theorem ST.thenE {m' : Md} {env : En} {e : Expr} {r : R Bool} {k : Bool → R D} {σ : L2.St} {Q : VK} {G : Bool → Hp → Prop} (h : ST ca X W H0 env e r) (le : Le F H) (ok : EnOk X.K ca H0 F H σ env)
    (hp : Post X.K ca m' (ekOf X.K ca W σ) F H (r.bind k) Q)
    (hg : ∀ b F' H', r = .ok b → Go F H F' H' → EnOk X.K ca H0 F' H' σ env → Post X.K ca m' (ekOf X.K ca W σ) F' H' (k b) Q → G b H') : WT X e σ H G := by
  refine h F H σ G le ok ?_
  cases r with
  | ok d => exact fun F' H' g => hg d F' H' rfl g (ok.mono g) (hp.mono g)
  | er x => exact hp
  | bad => exact hp

/-! ### changes of mode -/
/-- what is new becomes data -/
theorem OwnAt.freeze {p : Addr} {d : D} (g : Go F H F' H') (h : OwnAt K ca F' H' p d) (hn : F' p = none) (hz : H p = none) : ∃ F2, Go F H F2 H' ∧ Rep K ca F2 (.ref p) d := by
  obtain ⟨u, hu⟩ := h.some
  refine ⟨upd F' p u, ⟨g.f.trans (Le.new hn), g.h, fun a o e => ?_, fun q o hq n => ?_⟩, ?_⟩
  · by_cases ha : a = p
    · subst ha; rw [upd_same] at e; cases e; exact hu
    · rw [upd_ne ha] at e; exact g.fh a o e
  · rw [upd_ne (ne_of_none hq hz)]; exact g.fr q o hq n
  · rcases h with ⟨vs, ds, e, h, r⟩ | ⟨kvs, ks, ds, e, h, q, r⟩
    · rw [h] at hu; cases hu; subst e
      exact .lst upd_same (r.mono (Le.new hn))
    · rw [h] at hu; cases hu; subst e
      exact .dic upd_same q (r.mono (Le.new hn))
theorem se_o2v {env : En} {e : Expr} {r : R D} (h : SE ca X W H0 .o env e r) : SE ca X W H0 .v env e r := fun F H σ Q le ok hp => by
  refine h F H σ Q le ok ?_
  cases r with
  | ok d =>
    intro v F' H' g ⟨p, e, n, f, o⟩
    obtain ⟨F2, g2, q⟩ := o.freeze g f n
    rw [e]
    exact hp _ F2 H' g2 q
  | er x => exact hp
  | bad => exact hp
theorem se_v2r {env : En} {e : Expr} {r : R D} (h : SE ca X W H0 .v env e r) : SE ca X W H0 .r env e r := fun F H σ Q le ok hp => by
  refine h F H σ Q le ok ?_
  cases r with
  | ok d => exact fun v F' H' g q => hp v F' H' g (.inl q)
  | er x => exact hp
  | bad => exact hp
theorem se_o2r {env : En} {e : Expr} {r : R D} (h : SE ca X W H0 .o env e r) : SE ca X W H0 .r env e r := se_v2r (se_o2v h)
/-- no list and no dict -/
def plain (d : D) : R D := match d with
  | .lst _ => .bad
  | .dic _ _ => .bad
  | d => .ok d
theorem se_r2v {env : En} {e : Expr} {r : R D} (h : SE ca X W H0 .r env e r) : SE ca X W H0 .v env e (r.bind plain) := fun F H σ Q le ok hp => by
  refine h.then le ok hp fun d v F' H' _ g q _ hp' => ?_
  rcases q with q | ⟨p, e, o⟩
  · cases d with
    | lst xs => exact hp'.elim
    | dic ks xs => exact hp'.elim
    | _ => exact hp' v F' H' (Go.refl g.fh) q
  · rcases o with ⟨vs, ds, e, _⟩ | ⟨kvs, ks, ds, e, _⟩
    · subst e; exact hp'.elim
    · subst e; exact hp'.elim

/-! ### names, constants -/
theorem se_d {env : En} {i : Nat} {x : Str} {pos : Pos} {d : D} (he : env[i]? = some (some (.d d)) := by rfl) (hN : X.N[i]? = some x := by rfl)
    (hv : Vis X.env.scope x := by first | exact Or.inl rfl | exact Or.inr (Or.inl rfl) | exact Or.inr (Or.inr rfl)) (hd : (x == ("__debug__" : Str)) = false := by decide) (hcd : (x == ("__classdict__" : Str)) = false := by decide) :
    SE ca X W H0 .v env (.Name x pos) (.ok d) := fun F H σ Q le ok hp => by
  obtain ⟨v, h1, h2⟩ := ok.at_ i _ he
  exact ⟨_, pe_var hN hv hd hcd, v, h1, hp v F H (Go.refl le) h2⟩
theorem se_b {env : En} {i : Nat} {x : Str} {pos : Pos} {d : D} (he : env[i]? = some (some (.b d)) := by rfl) (hN : X.N[i]? = some x := by rfl)
    (hv : Vis X.env.scope x := by first | exact Or.inl rfl | exact Or.inr (Or.inl rfl) | exact Or.inr (Or.inr rfl)) (hd : (x == ("__debug__" : Str)) = false := by decide) (hcd : (x == ("__classdict__" : Str)) = false := by decide) :
    SE ca X W H0 .r env (.Name x pos) (.ok d) := fun F H σ Q le ok hp => by
  obtain ⟨v, h1, h2⟩ := ok.at_ i _ he
  refine ⟨_, pe_var hN hv hd hcd, v, h1, hp v F H (Go.refl le) ?_⟩
  rcases h2 with h | ⟨p, e, h⟩
  · exact .inl h
  · exact .inr ⟨p, e, h.monoH ok.h0⟩
theorem se_ow {env : En} {i : Nat} {x : Str} {pos : Pos} {d : D} (he : env[i]? = some (some (.o d)) := by rfl) (hN : X.N[i]? = some x := by rfl)
    (hv : Vis X.env.scope x := by first | exact Or.inl rfl | exact Or.inr (Or.inl rfl) | exact Or.inr (Or.inr rfl)) (hd : (x == ("__debug__" : Str)) = false := by decide) (hcd : (x == ("__classdict__" : Str)) = false := by decide) :
    SE ca X W H0 .r env (.Name x pos) (.ok d) := fun F H σ Q le ok hp => by
  obtain ⟨v, h1, h2⟩ := ok.at_ i _ he
  obtain ⟨p, e, _, _, h⟩ := h2
  exact ⟨_, pe_var hN hv hd hcd, v, h1, hp v F H (Go.refl le) (.inr ⟨p, e, h⟩)⟩
theorem se_int {env : En} {i : Int} {j pos} : SE ca X W H0 .v env (.Constant (.int i) j pos) (.ok (.int i)) := fun F H σ Q le ok hp => ⟨_, pe_int, hp _ F H (Go.refl le) (.int i)⟩
theorem se_bl {env : En} {b : Bool} {j pos} : SE ca X W H0 .v env (.Constant (.bool b) j pos) (.ok (.bl b)) := fun F H σ Q le ok hp => ⟨_, pe_bl, hp _ F H (Go.refl le) (.bl b)⟩
theorem se_non {env : En} {j pos} : SE ca X W H0 .v env (.Constant .none j pos) (.ok .non) := fun F H σ Q le ok hp => ⟨_, pe_non, hp _ F H (Go.refl le) .non⟩
theorem se_str {env : En} {x : Str} {j pos} : SE ca X W H0 .v env (.Constant (.str x) j pos) (.ok (.str x)) := fun F H σ Q le ok hp => ⟨_, pe_str, hp _ F H (Go.refl le) (.str x)⟩
/-- a constant of the module -/
def Glb (K : PySem.W.Frag) (ca : Str → Addr) (mg : Str → Option Value) (x : Str) (d : D) : Prop := ∃ u v, mg x = some u ∧ RelV v u ∧ ∀ F, Rep K ca F v d
theorem se_glb {env : En} {x : Str} {pos : Pos} {d : D} (h : Glb X.K ca X.mg x d) (hg : Gl X x := by rfl) (hd : (x == ("__debug__" : Str)) = false := by decide) : SE ca X W H0 .v env (.Name x pos) (.ok d) := fun F H σ Q le ok hp => by
  obtain ⟨u, v, hm, r, q⟩ := h
  exact ⟨_, pe_glob hg hm r hd, hp v F H (Go.refl le) (q F)⟩

/-! ### argument lists -/
def R.cons (a : R D) (b : R (List D)) : R (List D) := a.bind fun d => b.bind fun ds => .ok (d :: ds)
theorem sa_nil {env : En} : SA ca X W H0 [] env [] (.ok []) := fun F H σ Q le ok hp => ⟨_, pa_nil, hp [] F H (Go.refl le) .nil⟩
theorem sa_r {ms : List Md} {env : En} {e : Expr} {es : List Expr} {a : R D} {b : R (List D)} (h : SE ca X W H0 .r env e a) (hr : SA ca X W H0 ms env es b)
    (hs : starEach (e :: es) X.env = (false, eval e X.env) :: starEach es X.env := by rfl) : SA ca X W H0 (.r :: ms) env (e :: es) (R.cons a b) := fun F H σ Q le ok hp => by
  refine ⟨_, pa_cons pe_W pa_W hs, h.thenA le ok hp fun d v F' H' _ g q ok' hp' => ?_⟩
  refine hr F' H' σ _ g.fh ok' ?_
  cases b with
  | ok ds => exact fun vs F2 H2 g2 q2 => hp' _ F2 H2 g2 (.consR (AR.mono g2 q) q2)
  | er x => exact hp'
  | bad => exact hp'
theorem sa_v {ms : List Md} {env : En} {e : Expr} {es : List Expr} {a : R D} {b : R (List D)} (h : SE ca X W H0 .v env e a) (hr : SA ca X W H0 ms env es b)
    (hs : starEach (e :: es) X.env = (false, eval e X.env) :: starEach es X.env := by rfl) : SA ca X W H0 (.v :: ms) env (e :: es) (R.cons a b) := fun F H σ Q le ok hp => by
  refine ⟨_, pa_cons pe_W pa_W hs, h.thenA le ok hp fun d v F' H' _ g q ok' hp' => ?_⟩
  refine hr F' H' σ _ g.fh ok' ?_
  cases b with
  | ok ds => exact fun vs F2 H2 g2 q2 => hp' _ F2 H2 g2 (.consV (Rep.mono g2.f q) q2)
  | er x => exact hp'
  | bad => exact hp'
theorem ARs.reps {ms : List Md} {vs : List V} {ds : List D} (h : ARs K ca F H ms vs ds) (hm : ∀ m ∈ ms, m = Md.v) : Reps K ca F vs ds := by
  induction h with
  | nil => exact .nil
  | consR h _ ih => exact absurd (hm _ List.mem_cons_self) (by intro z; cases z)
  | consV h _ ih => exact .cons h (ih fun m hm' => hm m (List.mem_cons_of_mem _ hm'))

/-! ### displays -/
def short (ds : List D) : Prop := ds.length ≤ sizeLine
instance (ds : List D) : Decidable (short ds) := inferInstanceAs (Decidable (_ ≤ _))
def dTup (ds : List D) : R D := if short ds then .ok (.tup ds) else .bad
def dLst (ds : List D) : R D := if short ds then .ok (.lst ds) else .bad
theorem se_tup {ms : List Md} {env : En} {es : List Expr} {b : R (List D)} {x1 : _} {pos : Pos} (h : SA ca X W H0 ms env es b) (hm : ∀ m ∈ ms, m = Md.v := by decide) : SE ca X W H0 .v env (.Tuple es x1 pos) (b.bind dTup) := fun F H σ Q le ok hp => by
  refine ⟨_, pe_tup pa_W, h.then le ok hp fun ds vs F' H' _ g q ok' hp' => ?_⟩
  have r := q.reps hm
  unfold dTup at hp'
  split at hp'
  · rename_i hs
    refine ⟨by rw [r.length]; exact hs, fun p hpn => hp' _ _ _ (Go.new g.fh hpn _) (.tup (.inl (.inl upd_same)) (r.mono (Le.new (g.fh.free hpn))))⟩
  · exact hp'.elim
theorem se_lst {ms : List Md} {env : En} {es : List Expr} {b : R (List D)} {pos : Pos} (h : SA ca X W H0 ms env es b) (hm : ∀ m ∈ ms, m = Md.v := by decide) : SE ca X W H0 .o env (.List es pos) (b.bind dLst) := fun F H σ Q le ok hp => by
  refine ⟨_, pe_lst pa_W, h.then le ok hp fun ds vs F' H' _ g q ok' hp' => ?_⟩
  have r := q.reps hm
  unfold dLst at hp'
  split at hp'
  · rename_i hs
    refine ⟨by rw [r.length]; exact hs, fun p hpn => hp' _ _ _ (Go.hid g.fh hpn _) ⟨p, rfl, hpn, g.fh.free hpn, .inl ⟨vs, ds, rfl, upd_same, r⟩⟩⟩
  · exact hp'.elim
end
end Um

namespace Um
open L2 PySem PySem.Spec PyProof.Rows

/-! ## Operators by values -/
def WOp (X : Cx) (f : Value → Value → Sem Value) : R2 := fun x y H Q => ∃ r, OpR X f r ∧ r x y H Q
theorem op_W {X : Cx} {f : Value → Value → Sem Value} : OpR X f (WOp X f) := fun pins s σ H x y v u Q I rx ry ⟨_, h, q⟩ => h pins s σ H x y v u Q I rx ry q
def WCall (X : Cx) (f : Value) : List V → Hp → VK → Prop := fun xs H Q => ∃ r, CallR X f r ∧ r xs H Q
theorem call_W {X : Cx} {f : Value} : CallR X f (WCall X f) := fun pins s σ H xs us Q I r ⟨_, h, q⟩ => h pins s σ H xs us Q I r q
def WIx (X : Cx) : R2 := fun x y H Q => ∃ r, IxR X r ∧ r x y H Q
theorem ix_W {X : Cx} : IxR X (WIx X) := fun a b pins s σ H x y v u Q I rx ry ⟨_, h, q⟩ e => h a b pins s σ H x y v u Q I rx ry q e
def WSl (X : Cx) : V → Option Int → Option Int → Hp → VK → Prop := fun x lo hi H Q => ∃ r, SlR X r ∧ r x lo hi H Q
theorem sl_W {X : Cx} : SlR X (WSl X) := fun pins s σ H x v vl vu lo hi sl Q I rx hs h1 h2 ⟨_, h, q⟩ => h pins s σ H x v vl vu lo hi sl Q I rx hs h1 h2 q

def R.op2 {α : Type} (g : D → D → R α) (a b : R D) : R α := a.bind fun x => b.bind fun y => g x y
@[simp] theorem R.op2_ok {α : Type} (g : D → D → R α) (a b : D) : R.op2 g (.ok a) (.ok b) = g a b := rfl

section
variable (K : PySem.W.Frag) (ca : Str → Addr) (X : Cx)
/-- what g tells of a two-place operation -/
def OV (m : Md) (f : Value → Value → Sem Value) (g : D → D → R D) : Prop := ∀ (E : Ek) F H x y dx dy Q, Le F H → AR X.K ca F H x dx → AR X.K ca F H y dy → Post X.K ca m E F H (g dx dy) Q → WOp X f x y H Q
def OB (f : Value → Value → Sem Value) (g : D → D → R Bool) : Prop := ∀ (E : Ek) F H x y dx dy (Q : VK), Le F H → AR X.K ca F H x dx → AR X.K ca F H y dy → PostB E F H (g dx dy) (fun b H' => Q (.bl b) H') → WOp X f x y H Q
end
section
variable {ca : Str → Addr} {X : Cx} {W : WX} {H0 F H F' H' : Hp} {env : En} {a b c : Expr} {ra rb rc : R D} {pos : Pos}
theorem se_op {m : Md} {op : Operator} {g : D → D → R D} (ho : OV ca X m (binaryOp op) g) (ha : SE ca X W H0 .r env a ra) (hb : SE ca X W H0 .r env b rb) : SE ca X W H0 m env (.BinOp a op b pos) (R.op2 g ra rb) := fun F H σ Q le ok hp => by
  refine ⟨_, pe_op op_W pe_W pe_W, ha.then le ok hp fun d v F1 H1 _ g1 q1 ok1 hp1 => hb.then g1.fh ok1 hp1 fun e u F2 H2 _ g2 q2 ok2 hp2 => ?_⟩
  exact ho _ F2 H2 v u d e Q g2.fh (AR.mono g2 q1) q2 hp2
/-- a Bool as a value -/
def R.bool (r : R Bool) : R D := r.bind fun b => .ok (.bl b)
@[simp] theorem R.bool_ok (b : Bool) : R.bool (.ok b) = .ok (.bl b) := rfl
theorem Post.bool {m : Md} {E : Ek} {r : R Bool} {Q : VK} (hm : m = .v) (h : Post X.K ca m E F H (R.bool r) Q) : PostB E F H r (fun b H' => Q (.bl b) H') := by
  subst hm
  cases r with
  | ok b => exact fun F' H' g => h (.bl b) F' H' g (.bl b)
  | er x => exact h
  | bad => exact h
theorem Post.op2b {m : Md} {E : Ek} {g : D → D → R Bool} {Q : VK} {ra rb : R D} (h : Post X.K ca m E F H (R.bool (R.op2 g ra rb)) Q) : Post X.K ca m E F H (ra.bind fun x => rb.bind fun y => R.bool (g x y)) Q := by
  cases ra <;> cases rb <;> exact h
theorem se_cmp {op : CmpOp} {g : D → D → R Bool} (ho : OB ca X (compareOp op) g) (ha : SE ca X W H0 .r env a ra) (hb : SE ca X W H0 .r env b rb) (hm : behindInMarks op b = false := by first | exact nomark _ | rfl) :
    SE ca X W H0 .v env (.Compare a [op] [b] pos) (R.bool (R.op2 g ra rb)) := fun F H σ Q le ok hp => by
  refine ⟨_, pe_cmpR op_W pe_W pe_W hm, ha.then le ok hp.op2b fun d v F1 H1 _ g1 q1 ok1 hp1 => hb.then g1.fh ok1 hp1 fun e u F2 H2 _ g2 q2 ok2 hp2 => ?_⟩
  exact ho _ F2 H2 v u d e Q g2.fh (AR.mono g2 q1) q2 (Post.bool rfl hp2)
theorem st_cmp {op : CmpOp} {g : D → D → R Bool} (ho : OB ca X (compareOp op) g) (ha : SE ca X W H0 .r env a ra) (hb : SE ca X W H0 .r env b rb) (hm : behindInMarks op b = false := by first | exact nomark _ | rfl) :
    ST ca X W H0 env (.Compare a [op] [b] pos) (R.op2 g ra rb) := fun F H σ Q le ok hp => by
  refine ⟨_, pt_cmpR op_W pe_W pe_W hm, ha.thenB le ok hp fun d v F1 H1 _ g1 q1 ok1 hp1 => hb.thenB g1.fh ok1 hp1 fun e u F2 H2 _ g2 q2 ok2 hp2 => ?_⟩
  refine ho (ekOf X.K ca W σ) F2 H2 v u d e _ g2.fh (AR.mono g2 q1) q2 ?_
  revert hp2
  cases g d e with
  | ok b => exact fun hp2 F3 H3 g3 => ⟨b, rfl, hp2 F3 H3 g3⟩
  | er x => exact id
  | bad => exact id
/-- a op b op' c -/
def R.chain (g g' : D → D → R Bool) (a b c : R D) : R Bool := a.bind fun x => b.bind fun y => (g x y).bind fun k => if k = true then c.bind fun z => g' y z else .ok false
theorem st_chain {op op' : CmpOp} {g g' : D → D → R Bool} (ho : OB ca X (compareOp op) g) (ho' : OB ca X (compareOp op') g') (ha : SE ca X W H0 .r env a ra) (hb : SE ca X W H0 .r env b rb) (hc : SE ca X W H0 .r env c rc)
    (hm : lastMarks [op, op'] [b, c] = false := by with_unfolding_all rfl) : ST ca X W H0 env (.Compare a [op, op'] [b, c] pos) (R.chain g g' ra rb rc) := fun F H σ Q le ok hp => by
  refine ⟨_, pt_chain op_W op_W pe_W pe_W pe_W hm, ha.thenB le ok hp fun d v F1 H1 _ g1 q1 ok1 hp1 => hb.thenB g1.fh ok1 hp1 fun e u F2 H2 _ g2 q2 ok2 hp2 => ?_⟩
  refine ho (ekOf X.K ca W σ) F2 H2 v u d e _ g2.fh (AR.mono g2 q1) q2 ?_
  revert hp2
  cases g d e with
  | er x => exact id
  | bad => exact id
  | ok k =>
    intro hp2 F3 H3 g3
    refine ⟨k, rfl, ?_⟩
    cases k with
    | false => exact ⟨false, rfl, hp2 F3 H3 g3⟩
    | true =>
      show WE X c σ H3 _
      refine hc.thenB g3.fh (ok2.mono g3) (PostB.mono g3 hp2) fun f w F4 H4 _ g4 q4 _ hp4 => ?_
      refine ho' (ekOf X.K ca W σ) F4 H4 u w e f _ g4.fh (AR.mono (g3.trans g4) q2) q4 ?_
      revert hp4
      cases g' e f with
      | ok b => exact fun hp4 F5 H5 g5 => ⟨b, rfl, hp4 F5 H5 g5⟩
      | er x => exact id
      | bad => exact id
theorem se_chain {op op' : CmpOp} {g g' : D → D → R Bool} (ho : OB ca X (compareOp op) g) (ho' : OB ca X (compareOp op') g') (ha : SE ca X W H0 .r env a ra) (hb : SE ca X W H0 .r env b rb) (hc : SE ca X W H0 .r env c rc)
    (hm : lastMarks [op, op'] [b, c] = false := by with_unfolding_all rfl) : SE ca X W H0 .v env (.Compare a [op, op'] [b, c] pos) (R.bool (R.chain g g' ra rb rc)) := fun F H σ Q le ok hp => by
  have hp' := Post.bool rfl hp
  refine ⟨_, pe_chain op_W op_W pe_W pe_W pe_W hm, ha.thenB le ok hp' fun d v F1 H1 _ g1 q1 ok1 hp1 => hb.thenB g1.fh ok1 hp1 fun e u F2 H2 _ g2 q2 ok2 hp2 => ?_⟩
  refine ho (ekOf X.K ca W σ) F2 H2 v u d e _ g2.fh (AR.mono g2 q1) q2 ?_
  revert hp2
  cases g d e with
  | er x => exact id
  | bad => exact id
  | ok k =>
    intro hp2 F3 H3 g3
    refine ⟨k, rfl, ?_⟩
    cases k with
    | false => exact hp2 F3 H3 g3
    | true =>
      show WE X c σ H3 _
      refine hc.thenB g3.fh (ok2.mono g3) (PostB.mono g3 hp2) fun f w F4 H4 _ g4 q4 _ hp4 => ?_
      exact ho' (ekOf X.K ca W σ) F4 H4 u w e f _ g4.fh (AR.mono (g3.trans g4) q2) q4 hp4

/-! ### what a readable value is -/
theorem ar_int {K : PySem.W.Frag} {v : V} {i : Int} (h : AR K ca F H v (.int i)) : v = .int i := by
  rcases h with h | ⟨p, _, ⟨vs, ds, e, _⟩ | ⟨kvs, ks, ds, e, _⟩⟩
  · cases h; rfl
  · cases e
  · cases e
theorem ar_bl {K : PySem.W.Frag} {v : V} {i : Bool} (h : AR K ca F H v (.bl i)) : v = .bl i := by
  rcases h with h | ⟨p, _, ⟨vs, ds, e, _⟩ | ⟨kvs, ks, ds, e, _⟩⟩
  · cases h; rfl
  · cases e
  · cases e
theorem ar_str {K : PySem.W.Frag} {v : V} {i : Str} (h : AR K ca F H v (.str i)) : v = .str i := by
  rcases h with h | ⟨p, _, ⟨vs, ds, e, _⟩ | ⟨kvs, ks, ds, e, _⟩⟩
  · cases h; rfl
  · cases e
  · cases e
theorem ar_non {K : PySem.W.Frag} {v : V} (h : AR K ca F H v .non) : v = .non := by
  rcases h with h | ⟨p, _, ⟨vs, ds, e, _⟩ | ⟨kvs, ks, ds, e, _⟩⟩
  · cases h; rfl
  · cases e
  · cases e
theorem ar_rep {K : PySem.W.Frag} {v : V} {d : D} (h : AR K ca F H v d) (h1 : ∀ ds, d ≠ .lst ds) (h2 : ∀ ks ds, d ≠ .dic ks ds) : Rep K ca F v d := by
  rcases h with h | ⟨p, _, ⟨vs, ds, e, _⟩ | ⟨kvs, ks, ds, e, _⟩⟩
  · exact h
  · exact absurd e (h1 _)
  · exact absurd e (h2 _ _)
theorem ar_lst {K : PySem.W.Frag} {v : V} {ds : List D} (le : Le F H) (h : AR K ca F H v (.lst ds)) : ∃ p vs, v = .ref p ∧ H p = some (.lst vs) ∧ Reps K ca F vs ds := by
  rcases h with h | ⟨p, e1, ⟨vs, ds, e, h, r⟩ | ⟨kvs, ks, ds, e, _⟩⟩
  · cases h with | lst h r => exact ⟨_, _, rfl, le _ _ h, r⟩
  · cases e; exact ⟨p, vs, e1, h, r⟩
  · cases e
theorem ar_scr {K : PySem.W.Frag} {v : V} {ds : List D} (le : Le F H) (h : AR K ca F H v (.scr ds)) : ∃ p vs, v = .ref p ∧ SqL K H p vs ∧ Reps K ca F vs ds := by
  rcases h with h | ⟨p, e1, ⟨vs, ds, e, h, r⟩ | ⟨kvs, ks, ds, e, _⟩⟩
  · cases h with | scr h r => exact ⟨_, _, rfl, le.l h, r⟩
  · cases e
  · cases e
theorem ar_tup {K : PySem.W.Frag} {v : V} {ds : List D} (h : AR K ca F H v (.tup ds)) : ∃ p vs, v = .ref p ∧ SqT K F p vs ∧ Reps K ca F vs ds := by
  rcases h with h | ⟨p, e1, ⟨vs, ds, e, h, r⟩ | ⟨kvs, ks, ds, e, _⟩⟩
  · cases h with | tup h r => exact ⟨_, _, rfl, h, r⟩
  · cases e
  · cases e
theorem ar_dic {K : PySem.W.Frag} {v : V} {ks : List Key} {ds : List D} (le : Le F H) (h : AR K ca F H v (.dic ks ds)) : ∃ p kvs, v = .ref p ∧ H p = some (.dK kvs) ∧ kvs.map (·.1) = ks ∧ Reps K ca F (kvs.map (·.2)) ds := by
  rcases h with h | ⟨p, e1, ⟨vs, ds, e, h, r⟩ | ⟨kvs, ks', ds', e, h, q, r⟩⟩
  · cases h with | dic h hn r => exact ⟨_, _, rfl, le _ _ h, hn, r⟩
  · cases e
  · cases e; exact ⟨p, kvs, e1, h, q, r⟩

/-! ### arithmetic -/
def dSub : D → D → R D
  | .int a, .int b => .ok (.int (a - b))
  | _, _ => .bad
def dMul : D → D → R D
  | .int a, .int b => if (-(2 ^ 64) < a ∧ a < 2 ^ 64) ∨ (-(2 ^ 64) < b ∧ b < 2 ^ 64) then .ok (.int (a * b)) else .bad
  | _, _ => .bad
def dFdiv : D → D → R D
  | .int a, .int b => if b ≠ 0 ∧ b.natAbs < 1073741824 then .ok (.int (a.fdiv b)) else .bad
  | _, _ => .bad
def dMod : D → D → R D
  | .int a, .int b => if b ≠ 0 then .ok (.int (a.fmod b)) else .bad
  | _, _ => .bad
def dPow : D → D → R D
  | .int a, .int b => if 0 ≤ b ∧ b ≤ 1000000 ∧ a.natAbs < 2 ^ 64 then .ok (.int (a ^ b.toNat)) else .bad
  | _, _ => .bad
theorem ov_int {m : Md} {f : Value → Value → Sem Value} {C : Int → Int → Prop} {h : Int → Int → Int} {g : D → D → R D} (ho : OpR X f (rI C fun i j => .int (h i j))) (hm : m = .v)
    (hg : ∀ x y r, g x y = r → r = .bad ∨ ∃ i j, x = .int i ∧ y = .int j ∧ C i j ∧ r = .ok (.int (h i j))) : OV ca X m f g := fun E F H x y dx dy Q le hx hy hp => by
  subst hm
  rcases hg dx dy _ rfl with e | ⟨i, j, rfl, rfl, hc, e⟩
  · rw [e] at hp; exact hp.elim
  · rw [e] at hp
    exact ⟨_, ho, i, j, ar_int hx, ar_int hy, hc, hp _ F H (Go.refl le) (.int _)⟩
theorem ov_sub : OV ca X .v (binaryOp .Sub) dSub := fun E F H x y dx dy Q le hx hy hp => by
  unfold dSub at hp
  split at hp
  · rename_i i j
    exact ⟨_, op_sub, i, j, ar_int hx, ar_int hy, hp _ F H (Go.refl le) (.int _)⟩
  · exact hp.elim
theorem ov_mul : OV ca X .v (binaryOp .Mult) dMul := fun E F H x y dx dy Q le hx hy hp => by
  unfold dMul at hp
  split at hp
  · rename_i i j
    split at hp
    · rename_i hc
      exact ⟨_, op_mul, i, j, ar_int hx, ar_int hy, hc, hp _ F H (Go.refl le) (.int _)⟩
    · exact hp.elim
  · exact hp.elim
theorem ov_fdiv : OV ca X .v (binaryOp .FloorDiv) dFdiv := fun E F H x y dx dy Q le hx hy hp => by
  unfold dFdiv at hp
  split at hp
  · rename_i i j
    split at hp
    · rename_i hc
      exact ⟨_, op_fdivN, i, j, ar_int hx, ar_int hy, hc, hp _ F H (Go.refl le) (.int _)⟩
    · exact hp.elim
  · exact hp.elim
theorem ov_mod : OV ca X .v (binaryOp .Mod) dMod := fun E F H x y dx dy Q le hx hy hp => by
  unfold dMod at hp
  split at hp
  · rename_i i j
    split at hp
    · rename_i hc
      exact ⟨_, op_modN, i, j, ar_int hx, ar_int hy, hc, hp _ F H (Go.refl le) (.int _)⟩
    · exact hp.elim
  · exact hp.elim
theorem ov_pow : OV ca X .v (binaryOp .Pow) dPow := fun E F H x y dx dy Q le hx hy hp => by
  unfold dPow at hp
  split at hp
  · rename_i i j
    split at hp
    · rename_i hc
      exact ⟨_, op_pow, i, j, ar_int hx, ar_int hy, hc, hp _ F H (Go.refl le) (.int _)⟩
    · exact hp.elim
  · exact hp.elim
def dNeg : D → R D
  | .int a => .ok (.int (-a))
  | _ => .bad
theorem se_neg (ha : SE ca X W H0 .r env a ra) : SE ca X W H0 .v env (.UnaryOp .USub a pos) (ra.bind dNeg) := fun F H σ Q le ok hp => by
  refine ⟨_, pe_un un_neg pe_W, ha.then le ok hp fun d v F1 H1 _ g1 q1 ok1 hp1 => ?_⟩
  cases d with
  | int i => exact ⟨i, ar_int q1, hp1 _ F1 H1 (Go.refl g1.fh) (.int _)⟩
  | _ => exact hp1.elim
/-- + : ints, texts, tuples, lists -/
def dAdd : D → D → R D
  | .int a, .int b => .ok (.int (a + b))
  | .str a, .str b => if a.length + b.length ≤ sizeLine then .ok (.str (a ++ b)) else .bad
  | .tup a, .tup b => if a.length + b.length ≤ sizeLine then .ok (.tup (a ++ b)) else .bad
  | .lst a, .lst b => if a.length + b.length ≤ sizeLine then .ok (.lst (a ++ b)) else .bad
  | _, _ => .bad
def dCat : D → D → R D
  | .lst a, .lst b => if a.length + b.length ≤ sizeLine then .ok (.lst (a ++ b)) else .bad
  | _, _ => .bad
theorem ov_cat : OV ca X .o (binaryOp .Add) dCat := fun E F H x y dx dy Q le hx hy hp => by
  unfold dCat at hp
  split at hp
  · rename_i i j
    split at hp
    · rename_i hc
      obtain ⟨p, vs, rfl, h1, r1⟩ := ar_lst le hx
      obtain ⟨q, ws, rfl, h2, r2⟩ := ar_lst le hy
      refine ⟨_, op_cat, p, q, vs, ws, rfl, rfl, h1, h2, by rw [r1.length, r2.length]; exact hc, fun n hn => hp _ F _ (Go.hid le hn _) ⟨n, rfl, hn, le.free hn, .inl ⟨_, _, rfl, upd_same, r1.append r2⟩⟩⟩
    · exact hp.elim
  · exact hp.elim
theorem ov_add : OV ca X .v (binaryOp .Add) dAdd := fun E F H x y dx dy Q le hx hy hp => by
  unfold dAdd at hp
  split at hp
  · rename_i i j
    exact ⟨_, op_add, i, j, ar_int hx, ar_int hy, hp _ F H (Go.refl le) (.int _)⟩
  · rename_i i j
    split at hp
    · rename_i hc
      exact ⟨_, op_add_str, i, j, ar_str hx, ar_str hy, hc, hp _ F H (Go.refl le) (.str _)⟩
    · exact hp.elim
  · rename_i i j
    split at hp
    · rename_i hc
      obtain ⟨p, vs, rfl, h1, r1⟩ := ar_tup hx
      obtain ⟨q, ws, rfl, h2, r2⟩ := ar_tup hy
      refine ⟨_, op_catA, p, q, vs, ws, rfl, rfl, le.t h1, le.t h2, by rw [r1.length, r2.length]; exact hc, fun e => ?_, fun _ e => ?_, fun _ _ n hn => ?_⟩
      · subst e; cases r1
        exact hp _ F H (Go.refl le) (.tup h2 (by simpa using r2))
      · subst e; cases r2
        exact hp _ F H (Go.refl le) (.tup h1 (by simpa using r1))
      · exact hp _ _ _ (Go.new le hn _) (.tup (.inl (.inl upd_same)) ((r1.append r2).mono (Le.new (le.free hn))))
    · exact hp.elim
  · rename_i i j
    split at hp
    · rename_i hc
      obtain ⟨p, vs, rfl, h1, r1⟩ := ar_lst le hx
      obtain ⟨q, ws, rfl, h2, r2⟩ := ar_lst le hy
      exact ⟨_, op_cat, p, q, vs, ws, rfl, rfl, h1, h2, by rw [r1.length, r2.length]; exact hc, fun n hn => hp _ _ _ (Go.new le hn _) (.lst upd_same ((r1.append r2).mono (Le.new (le.free hn))))⟩
    · exact hp.elim
  · exact hp.elim

/-! ### comparisons -/
def dLt : D → D → R Bool
  | .int a, .int b => .ok (decide (a < b))
  | _, _ => .bad
def dGt : D → D → R Bool
  | .int a, .int b => .ok (decide (b < a))
  | _, _ => .bad
def dGe : D → D → R Bool
  | .int a, .int b => .ok (decide (b ≤ a))
  | _, _ => .bad
def dLe : D → D → R Bool
  | .int a, .int b => .ok (decide (a ≤ b))
  | _, _ => .bad
theorem ob_lt : OB ca X (compareOp .Lt) dLt := fun E F H x y dx dy Q le hx hy hp => by
  unfold dLt at hp
  split at hp
  · rename_i i j; exact ⟨_, op_lt, i, j, ar_int hx, ar_int hy, hp F H (Go.refl le)⟩
  · exact hp.elim
theorem ob_gt : OB ca X (compareOp .Gt) dGt := fun E F H x y dx dy Q le hx hy hp => by
  unfold dGt at hp
  split at hp
  · rename_i i j; exact ⟨_, op_gt, i, j, ar_int hx, ar_int hy, hp F H (Go.refl le)⟩
  · exact hp.elim
theorem ob_ge : OB ca X (compareOp .GtE) dGe := fun E F H x y dx dy Q le hx hy hp => by
  unfold dGe at hp
  split at hp
  · rename_i i j; exact ⟨_, op_ge, i, j, ar_int hx, ar_int hy, hp F H (Go.refl le)⟩
  · exact hp.elim
theorem ob_le : OB ca X (compareOp .LtE) dLe := fun E F H x y dx dy Q le hx hy hp => by
  unfold dLe at hp
  split at hp
  · rename_i i j; exact ⟨_, op_le, i, j, ar_int hx, ar_int hy, hp F H (Go.refl le)⟩
  · exact hp.elim

/-! ### plain data: ==, in -/
mutual
def toPy : D → Option PyData
  | .non => some .none
  | .bl b => some (.bool b)
  | .int i => some (.int i)
  | .str s => some (.str s)
  | .lst xs => (toPys xs).map .list
  | .scr xs => (toPys xs).map .list
  | .tup xs => (toPys xs).map .tuple
  | _ => none
def toPys : List D → Option (List PyData)
  | [] => some []
  | x :: xs => (toPy x).bind fun y => (toPys xs).map fun ys => y :: ys
end
mutual
theorem rep_dp {K : PySem.W.Frag} (le : Le F H) : ∀ {v : V} {d : D} {p : PyData}, Rep K ca F v d → toPy d = some p → Dp K H v p
  | _, _, _, .non, e => by cases e; exact .non
  | _, _, _, .bl b, e => by cases e; exact .bl b
  | _, _, _, .int b, e => by cases e; exact .int b
  | _, _, _, .str b, e => by cases e; exact .str b
  | _, _, _, .ty b, e => by cases e
  | _, _, _, .lst h r, e => by
    unfold toPy at e
    obtain ⟨ys, e1, rfl⟩ := Option.map_eq_some_iff.mp e
    exact .lst (.inl (.inl (le _ _ h))) (reps_dp le r e1)
  | _, _, _, .scr h r, e => by
    unfold toPy at e
    obtain ⟨ys, e1, rfl⟩ := Option.map_eq_some_iff.mp e
    exact .lst (le.l h) (reps_dp le r e1)
  | _, _, _, .tup h r, e => by
    unfold toPy at e
    obtain ⟨ys, e1, rfl⟩ := Option.map_eq_some_iff.mp e
    exact .tup (le.t h) (reps_dp le r e1)
  | _, _, _, .ins h hn r, e => by cases e
  | _, _, _, .dic h hn r, e => by cases e
theorem reps_dp {K : PySem.W.Frag} (le : Le F H) : ∀ {vs : List V} {ds : List D} {ps : List PyData}, Reps K ca F vs ds → toPys ds = some ps → DpAll K H vs ps
  | _, _, _, .nil, e => by unfold toPys at e; cases e; exact .nil
  | _, _, _, .cons h r, e => by
    unfold toPys at e
    obtain ⟨y, e1, e2⟩ := Option.bind_eq_some_iff.mp e
    obtain ⟨ys, e3, rfl⟩ := Option.map_eq_some_iff.mp e2
    exact .cons (rep_dp le h e1) (reps_dp le r e3)
end
theorem ar_dp {K : PySem.W.Frag} {v : V} {d : D} {p : PyData} (le : Le F H) (h : AR K ca F H v d) (e : toPy d = some p) : Dp K H v p := by
  rcases h with h | ⟨q, rfl, ⟨vs, ds, rfl, h, r⟩ | ⟨kvs, ks, ds, rfl, _⟩⟩
  · exact rep_dp le h e
  · unfold toPy at e
    obtain ⟨ys, e1, rfl⟩ := Option.map_eq_some_iff.mp e
    exact .lst (.inl (.inl h)) (reps_dp le r e1)
  · cases e
/-- == of plain data -/
def dEq (x y : D) : R Bool := match toPy x, toPy y with
  | some a, some b => if SeqAt.shaped a = true ∧ SeqAt.shaped b = true then .ok (PyData.eqv a b) else .bad
  | _, _ => .bad
def dNe (x y : D) : R Bool := (dEq x y).bind fun b => .ok (!b)
theorem ob_eq (hu : X.A.units + 64 < cLine) : OB ca X (compareOp .Eq) dEq := fun E F H x y dx dy Q le hx hy hp => by
  unfold dEq at hp
  split at hp
  · rename_i a b ea eb
    split at hp
    · rename_i hs
      exact ⟨_, op_eqD hu, a, b, ar_dp le hx ea, ar_dp le hy eb, hs.1, hs.2, hp F H (Go.refl le)⟩
    · exact hp.elim
  · exact hp.elim
theorem ob_ne (hu : X.A.units + 64 < cLine) : OB ca X (compareOp .NotEq) dNe := fun E F H x y dx dy Q le hx hy hp => by
  unfold dNe dEq at hp
  split at hp
  · rename_i a b ea eb
    split at hp
    · rename_i hs
      exact ⟨_, op_neD hu, a, b, ar_dp le hx ea, ar_dp le hy eb, hs.1, hs.2, hp F H (Go.refl le)⟩
    · exact hp.elim
  · exact hp.elim
/-- a number in a list or a tuple of numbers -/
def isInt : D → Option Int
  | .int i => some i
  | _ => none
def intsOf : List D → Option (List Int)
  | [] => some []
  | d :: ds => match isInt d, intsOf ds with
    | some i, some is => some (i :: is)
    | _, _ => none
theorem intsOf_eq : ∀ {ds : List D} {is : List Int}, intsOf ds = some is → ds = is.map D.int
  | [], is, h => by cases h; rfl
  | d :: ds, is, h => by
    unfold intsOf at h
    split at h
    · rename_i i js h1 h2
      cases h
      cases d <;> cases h1
      rw [intsOf_eq h2]; rfl
    · cases h
@[simp] theorem intsOf_map (is : List Int) : intsOf (is.map D.int) = some is := by
  induction is with
  | nil => rfl
  | cons i is ih => simp [intsOf, isInt, ih]
def itemsOf : D → Option (List D)
  | .lst xs => some xs
  | .scr xs => some xs
  | .tup xs => some xs
  | _ => none
theorem inV_ints (i : Int) (is : List Int) : inV (.int i) (is.map V.int) = decide (i ∈ is) := by
  unfold inV
  induction is with
  | nil => rfl
  | cons j is ih =>
    rw [List.map_cons, List.any_cons, ih]
    show (decide (j = i) || decide (i ∈ is)) = decide (i ∈ j :: is)
    simp only [List.mem_cons, Bool.decide_or]
    congr 1
    exact decide_eq_decide.mpr eq_comm
theorem ar_items {K : PySem.W.Frag} {v : V} {d : D} {xs : List D} (le : Le F H) (h : AR K ca F H v d) (e : itemsOf d = some xs) : ∃ p vs, v = .ref p ∧ (SqL K H p vs ∨ SqT K H p vs) ∧ Reps K ca F vs xs := by
  cases d with
  | lst ys => cases e; obtain ⟨p, vs, e1, h1, r⟩ := ar_lst le h; exact ⟨p, vs, e1, .inl (.inl (.inl h1)), r⟩
  | scr ys => cases e; obtain ⟨p, vs, e1, h1, r⟩ := ar_scr le h; exact ⟨p, vs, e1, .inl h1, r⟩
  | tup ys => cases e; obtain ⟨p, vs, e1, h1, r⟩ := ar_tup h; exact ⟨p, vs, e1, .inr (le.t h1), r⟩
  | _ => cases e
theorem flat_ints (is : List Int) : (is.map V.int).all flatV = true := by
  rw [List.all_eq_true]
  intro x hx
  obtain ⟨i, _, rfl⟩ := List.mem_map.mp hx
  rfl
def anyEq (d : PyData) : List PyData → Bool := fun ds => ds.any fun z => PyData.eqv z d
def dIn (x y : D) : R Bool := match isInt x, (itemsOf y).bind intsOf with
  | some i, some is => .ok (decide (i ∈ is))
  | _, _ => match y with
    | .tup _ => .bad
    | _ => match toPy x, toPy y with
      | some a, some (.list bs) => if SeqAt.shaped a = true ∧ SeqAt.shaped (.list bs) = true then .ok (bs.any fun z => PyData.eqv z a) else .bad
      | _, _ => .bad
def dNotIn (x y : D) : R Bool := (dIn x y).bind fun b => .ok (!b)
theorem ob_in (hu : X.A.units + 65 < cLine) : OB ca X (compareOp .In) dIn := fun E F H x y dx dy Q le hx hy hp => by
  unfold dIn at hp
  split at hp
  · rename_i i is e1 e2
    obtain ⟨xs, e3, e4⟩ := Option.bind_eq_some_iff.mp e2
    obtain ⟨p, vs, rfl, h1, r⟩ := ar_items le hy e3
    rw [intsOf_eq e4] at r
    rw [r.ints_inv] at h1
    cases dx <;> cases e1
    rw [ar_int hx]
    refine ⟨_, op_in_seq, p, _, rfl, h1, rfl, flat_ints is, ?_⟩
    show Q (.bl (inV _ _)) H
    rw [inV_ints]
    exact hp F H (Go.refl le)
  · split at hp
    · exact hp.elim
    · split at hp
      · rename_i a bs ea eb
        split at hp
        · rename_i hs
          exact ⟨_, op_inD hu, a, bs, ar_dp le hx ea, ar_dp le hy eb, hs.1, hs.2, hp F H (Go.refl le)⟩
        · exact hp.elim
      · exact hp.elim
theorem ob_notIn (hu : X.A.units + 65 < cLine) : OB ca X (compareOp .NotIn) dNotIn := fun E F H x y dx dy Q le hx hy hp => by
  unfold dNotIn dIn at hp
  split at hp
  · rename_i i is e1 e2
    obtain ⟨xs, e3, e4⟩ := Option.bind_eq_some_iff.mp e2
    obtain ⟨p, vs, rfl, h1, r⟩ := ar_items le hy e3
    rw [intsOf_eq e4] at r
    rw [r.ints_inv] at h1
    cases dx <;> cases e1
    rw [ar_int hx]
    refine ⟨_, op_notIn_seq, p, _, rfl, h1, rfl, flat_ints is, ?_⟩
    show Q (.bl (!inV _ _)) H
    rw [inV_ints]
    exact hp F H (Go.refl le)
  · split at hp
    · exact hp.elim
    · split at hp
      · rename_i a bs ea eb
        split at hp
        · rename_i hs
          exact ⟨_, op_notInD hu, a, bs, ar_dp le hx ea, ar_dp le hy eb, hs.1, hs.2, hp F H (Go.refl le)⟩
        · exact hp.elim
      · exact hp.elim
/-! ### is None -/
def dIsNone : D → Bool
  | .non => true
  | _ => false
theorem ar_isNone {K : PySem.W.Frag} {v : V} {d : D} (h : AR K ca F H v d) : decide (v = .non) = dIsNone d := by
  rcases h with h | ⟨q, rfl, h⟩
  · cases h <;> rfl
  · rcases h with ⟨vs, ds, rfl, _⟩ | ⟨kvs, ks, ds, rfl, _⟩ <;> rfl
theorem ob_isNone : OB ca X (compareOp .Is) (fun x y => if dIsNone y = true then .ok (dIsNone x) else .bad) := fun E F H x y dx dy Q le hx hy hp => by
  dsimp only at hp
  split at hp
  · rename_i h
    cases dy <;> cases h
    refine ⟨_, op_isN, ar_non hy, ?_⟩
    rw [ar_isNone hx]
    exact hp F H (Go.refl le)
  · exact hp.elim
theorem ob_notNone : OB ca X (compareOp .IsNot) (fun x y => if dIsNone y = true then .ok (!dIsNone x) else .bad) := fun E F H x y dx dy Q le hx hy hp => by
  dsimp only at hp
  split at hp
  · rename_i h
    cases dy <;> cases h
    refine ⟨_, op_notN, ar_non hy, ?_⟩
    rw [ar_isNone hx]
    exact hp F H (Go.refl le)
  · exact hp.elim
end
end Um

namespace Um
open L2 PySem PySem.Spec PyProof.Rows

def WW (X : Cx) (e : Expr) : TT := fun σ H Q => ∃ t, PW X e t ∧ t σ H Q
theorem pw_W {X : Cx} {e : Expr} : PW X e (WW X e) := ⟨fun wh pins s σ H Q I ⟨_, p, h⟩ => p.run wh pins s σ H Q I h⟩
section
variable (ca : Str → Addr) (X : Cx) (W : WX) (H0 : Hp)
def SW (env : En) (e : Expr) (r : R Bool) : Prop := ∀ F H σ Q, Le F H → EnOk X.K ca H0 F H σ env → PostB (ekOf X.K ca W σ) F H r Q → WW X e σ H Q
end
section
variable {ca : Str → Addr} {X : Cx} {W : WX} {H0 F H F' H' : Hp} {env : En} {a b c e : Expr} {rest : List Expr} {ra rb rc : R D} {ta tb tc : R Bool} {pos : Pos} {m : Md}
/-! ### truth -/
def dTruth : D → R Bool
  | .non => .ok false
  | .bl b => .ok b
  | .int i => .ok (i != 0)
  | .str s => if s.length ≤ sizeLine then .ok ((s.length : Int) != 0) else .bad
  | .lst xs => .ok (!xs.isEmpty)
  | .scr xs => .ok (!xs.isEmpty)
  | .tup xs => .ok (!xs.isEmpty)
  | .dic ks _ => .ok (!ks.isEmpty)
  | _ => .bad
theorem Reps.isEmpty {K : PySem.W.Frag} {vs : List V} {ds : List D} (r : Reps K ca F vs ds) : vs.isEmpty = ds.isEmpty := by cases r <;> rfl
theorem truth_ok {K : PySem.W.Frag} {v : V} {d : D} {k : Bool} (le : Le F H) (h : AR K ca F H v d) (e : dTruth d = .ok k) : TruV K v H k := by
  cases d with
  | non => cases e; rw [ar_non h]; exact rfl
  | bl b => cases e; rw [ar_bl h]; exact rfl
  | int i => cases e; rw [ar_int h]; exact rfl
  | str s =>
    unfold dTruth at e
    dsimp only at e
    split at e
    · rename_i hs; cases e; rw [ar_str h]; exact ⟨hs, rfl⟩
    · cases e
  | ty n => cases e
  | cl n => cases e
  | lst xs => cases e; obtain ⟨p, vs, rfl, h1, r⟩ := ar_lst le h; exact .inl ⟨vs, .inl (.inl h1), by rw [r.isEmpty]⟩
  | scr xs => cases e; obtain ⟨p, vs, rfl, h1, r⟩ := ar_scr le h; exact .inl ⟨vs, h1, by rw [r.isEmpty]⟩
  | tup xs => cases e; obtain ⟨p, vs, rfl, h1, r⟩ := ar_tup h; exact .inr (.inl ⟨vs, le.t h1, by rw [r.isEmpty]⟩)
  | ins c ns xs => cases e
  | dic ks xs =>
    cases e
    obtain ⟨p, kvs, rfl, h1, hk, r⟩ := ar_dic le h
    refine .inr (.inr ⟨kvs, h1, ?_⟩)
    rw [← hk]
    cases kvs <;> rfl
theorem st_val (h : SE ca X W H0 .r env e ra) (he : ∀ whole, isTrue e X.env whole = (do let v ← whole; standAt e.pos; holding [v] (truthy v)) := by intro _; rfl) : ST ca X W H0 env e (ra.bind dTruth) := fun F H σ Q le ok hp => by
  refine ⟨_, pt_truth pe_W he, h.thenB le ok hp fun d v F1 H1 _ g q _ hp1 => ?_⟩
  cases hd : dTruth d with
  | ok k => rw [hd] at hp1; exact ⟨k, truth_ok g.fh q hd, hp1 F1 H1 (Go.refl g.fh)⟩
  | er x => cases d <;> simp [dTruth] at hd; split at hd <;> cases hd
  | bad => rw [hd] at hp1; exact hp1.elim
theorem st_not (h : ST ca X W H0 env a ta) : ST ca X W H0 env (.UnaryOp .Not a pos) (ta.bind fun k => .ok (!k)) := fun F H σ Q le ok hp =>
  ⟨_, pt_not pt_W, h.thenB le ok hp fun k F1 H1 _ g _ hp1 => hp1 F1 H1 (Go.refl g.fh)⟩
theorem se_not (h : SE ca X W H0 .r env a ra) : SE ca X W H0 .v env (.UnaryOp .Not a pos) (ra.bind fun d => match d with | .bl k => .ok (.bl (!k)) | _ => .bad) := fun F H σ Q le ok hp => by
  refine ⟨_, pe_not pe_W, h.then le ok hp fun d v F1 H1 _ g q _ hp1 => ?_⟩
  cases d with
  | bl k => exact ⟨k, ar_bl q, hp1 _ F1 H1 (Go.refl g.fh) (.bl _)⟩
  | _ => exact hp1.elim
def R.and (a b : R Bool) : R Bool := a.bind fun k => if k = true then b else .ok false
def R.or (a b : R Bool) : R Bool := a.bind fun k => if k = true then .ok true else b
@[simp] theorem R.and_true (b : R Bool) : R.and (.ok true) b = b := rfl
@[simp] theorem R.and_false (b : R Bool) : R.and (.ok false) b = .ok false := rfl
@[simp] theorem R.or_true (b : R Bool) : R.or (.ok true) b = .ok true := rfl
@[simp] theorem R.or_false (b : R Bool) : R.or (.ok false) b = b := rfl
theorem sw_and1 (h : ST ca X W H0 env a ta) : SW ca X W H0 env (.BoolOp .And [a] pos) ta := fun F H σ Q le ok hp => ⟨_, pw_and1 pt_W, h F H σ Q le ok hp⟩
theorem sw_or1 (h : ST ca X W H0 env a ta) : SW ca X W H0 env (.BoolOp .Or [a] pos) ta := fun F H σ Q le ok hp => ⟨_, pw_or1 pt_W, h F H σ Q le ok hp⟩
theorem sw_and (h : ST ca X W H0 env a ta) (hb : SW ca X W H0 env (.BoolOp .And (b :: rest) pos) tb) : SW ca X W H0 env (.BoolOp .And (a :: b :: rest) pos) (R.and ta tb) := fun F H σ Q le ok hp => by
  refine ⟨_, pw_and pt_W pw_W, h.thenB le ok hp fun k F1 H1 _ g ok1 hp1 => ?_⟩
  cases k with
  | true => exact hb F1 H1 σ Q g.fh ok1 hp1
  | false => exact hp1 F1 H1 (Go.refl g.fh)
theorem sw_or (h : ST ca X W H0 env a ta) (hb : SW ca X W H0 env (.BoolOp .Or (b :: rest) pos) tb) : SW ca X W H0 env (.BoolOp .Or (a :: b :: rest) pos) (R.or ta tb) := fun F H σ Q le ok hp => by
  refine ⟨_, pw_or pt_W pw_W, h.thenB le ok hp fun k F1 H1 _ g ok1 hp1 => ?_⟩
  cases k with
  | true => exact hp1 F1 H1 (Go.refl g.fh)
  | false => exact hb F1 H1 σ Q g.fh ok1 hp1
theorem st_bool {op} {es : List Expr} (h : SW ca X W H0 env (.BoolOp op es pos) ta) : ST ca X W H0 env (.BoolOp op es pos) ta := fun F H σ Q le ok hp => ⟨_, PW.pt pw_W, h F H σ Q le ok hp⟩
/-- and, or as values, all but the last True or False -/
def R.andV (a b : R D) : R D := a.bind fun d => match d with | .bl true => b | .bl false => .ok (.bl false) | _ => .bad
def R.orV (a b : R D) : R D := a.bind fun d => match d with | .bl true => .ok (.bl true) | .bl false => b | _ => .bad
@[simp] theorem R.andV_true (b : R D) : R.andV (.ok (.bl true)) b = b := rfl
@[simp] theorem R.andV_false (b : R D) : R.andV (.ok (.bl false)) b = .ok (.bl false) := rfl
@[simp] theorem R.orV_true (b : R D) : R.orV (.ok (.bl true)) b = .ok (.bl true) := rfl
@[simp] theorem R.orV_false (b : R D) : R.orV (.ok (.bl false)) b = b := rfl
theorem se_one {op} (h : SE ca X W H0 m env a ra) : SE ca X W H0 m env (.BoolOp op [a] pos) ra := fun F H σ Q le ok hp => ⟨_, pe_one pe_W, h F H σ Q le ok hp⟩
theorem se_and (h : SE ca X W H0 .r env a ra) (hb : SE ca X W H0 .v env (.BoolOp .And (b :: rest) pos) rb) : SE ca X W H0 .v env (.BoolOp .And (a :: b :: rest) pos) (R.andV ra rb) := fun F H σ Q le ok hp => by
  refine ⟨_, pe_and pe_W pe_W, h.then le ok hp fun d v F1 H1 _ g q ok1 hp1 => ?_⟩
  cases d with
  | bl k =>
    refine ⟨k, ar_bl q, ?_⟩
    cases k with
    | true => exact hb F1 H1 σ Q g.fh ok1 hp1
    | false => exact hp1 _ F1 H1 (Go.refl g.fh) (.bl false)
  | _ => exact hp1.elim
theorem se_or (h : SE ca X W H0 .r env a ra) (hb : SE ca X W H0 .v env (.BoolOp .Or (b :: rest) pos) rb) : SE ca X W H0 .v env (.BoolOp .Or (a :: b :: rest) pos) (R.orV ra rb) := fun F H σ Q le ok hp => by
  refine ⟨_, pe_or pe_W pe_W, h.then le ok hp fun d v F1 H1 _ g q ok1 hp1 => ?_⟩
  cases d with
  | bl k =>
    refine ⟨k, ar_bl q, ?_⟩
    cases k with
    | true => exact hp1 _ F1 H1 (Go.refl g.fh) (.bl true)
    | false => exact hb F1 H1 σ Q g.fh ok1 hp1
  | _ => exact hp1.elim
theorem se_ifx (h : ST ca X W H0 env c tc) (ha : SE ca X W H0 m env a ra) (hb : SE ca X W H0 m env b rb) : SE ca X W H0 m env (.IfExp c a b pos) (tc.bind fun k => if k = true then ra else rb) := fun F H σ Q le ok hp => by
  refine ⟨_, pe_ifExp pt_W pe_W pe_W, ?_⟩
  refine h F H σ _ le ok ?_
  cases tc with
  | er x => exact hp
  | bad => exact hp
  | ok k =>
    intro F1 H1 g
    cases k with
    | true => exact ha F1 H1 σ Q g.fh (ok.mono g) (Post.mono g hp)
    | false => exact hb F1 H1 σ Q g.fh (ok.mono g) (Post.mono g hp)

/-! ### subscripts, slices -/
def dIx : D → D → R D
  | .lst xs, .int i => match atI xs i with | some d => .ok d | none => .bad
  | .scr xs, .int i => match atI xs i with | some d => .ok d | none => .bad
  | .tup xs, .int i => match atI xs i with | some d => .ok d | none => .bad
  | .str z, .int i => if z.length ≤ sizeLine then (match atI z.cps.toList i with | some c => .ok (.str ⟨#[c]⟩) | none => .bad) else .bad
  | _, _ => .bad
theorem Reps.atI {K : PySem.W.Frag} {vs : List V} {ds : List D} {i : Int} {d : D} (r : Reps K ca F vs ds) (h : L2.atI ds i = some d) : ∃ v, L2.atI vs i = some v ∧ Rep K ca F v d := by
  unfold L2.atI at h ⊢
  obtain ⟨j, h1, h2⟩ := Option.bind_eq_some_iff.mp h
  obtain ⟨v, h3, h4⟩ := r.get h2
  exact ⟨v, by rw [r.length, h1]; exact h3, h4⟩
theorem se_ix (ha : SE ca X W H0 .r env a ra) (hb : SE ca X W H0 .r env b rb) (hs : PlainIx b := by exact fun _ _ => rfl) : SE ca X W H0 .v env (.Subscript a b pos) (R.op2 dIx ra rb) := fun F H σ Q le ok hp => by
  refine ⟨_, pe_ix ix_W pe_W pe_W hs, ha.then le ok hp fun d v F1 H1 _ g1 q1 ok1 hp1 => hb.then g1.fh ok1 hp1 fun e u F2 H2 _ g2 q2 ok2 hp2 => ?_⟩
  have q1 := AR.mono g2 q1
  unfold dIx at hp2
  split at hp2
  · split at hp2
    · rename_i d' hd
      obtain ⟨p, vs, rfl, h1, r⟩ := ar_lst g2.fh q1
      obtain ⟨w, h3, h4⟩ := r.atI hd
      exact ⟨_, ix_list, p, vs, _, w, rfl, ar_int q2, .inl (.inl h1), h3, hp2 _ F2 H2 (Go.refl g2.fh) h4⟩
    · exact hp2.elim
  · split at hp2
    · rename_i d' hd
      obtain ⟨p, vs, rfl, h1, r⟩ := ar_scr g2.fh q1
      obtain ⟨w, h3, h4⟩ := r.atI hd
      exact ⟨_, ix_list, p, vs, _, w, rfl, ar_int q2, h1, h3, hp2 _ F2 H2 (Go.refl g2.fh) h4⟩
    · exact hp2.elim
  · split at hp2
    · rename_i d' hd
      obtain ⟨p, vs, rfl, h1, r⟩ := ar_tup q1
      obtain ⟨w, h3, h4⟩ := r.atI hd
      exact ⟨_, ix_tup, p, vs, _, w, rfl, ar_int q2, g2.fh.t h1, h3, hp2 _ F2 H2 (Go.refl g2.fh) h4⟩
    · exact hp2.elim
  · split at hp2
    · rename_i hz
      split at hp2
      · rename_i c hc
        rw [ar_str q1, ar_int q2]
        exact ⟨_, ix_str, _, _, c, rfl, rfl, hz, hc, hp2 _ F2 H2 (Go.refl g2.fh) (.str _)⟩
      · exact hp2.elim
    · exact hp2.elim
  · exact hp2.elim
/-- a part of a slice -/
def SO (ca : Str → Addr) (X : Cx) (W : WX) (H0 : Hp) (env : En) (e : Option Expr) (r : R (Option Int)) : Prop := ∀ F H σ (Q : Option Int → Hp → Prop), Le F H → EnOk X.K ca H0 F H σ env →
  (match r with | .ok o => ∀ F' H', Go F H F' H' → Q o H' | .er x => ∀ F' H', Go F H F' H' → ekOf X.K ca W σ x F' H' | .bad => False) → WO X e σ H Q
def dPart : D → R (Option Int)
  | .int i => .ok (some i)
  | _ => .bad
theorem so_none : SO ca X W H0 env none (.ok none) := fun F H σ Q le ok hp => ⟨_, po_none, hp F H (Go.refl le)⟩
theorem so_some (h : SE ca X W H0 .r env a ra) : SO ca X W H0 env (some a) (ra.bind dPart) := fun F H σ Q le ok hp => by
  refine ⟨_, po_some pe_W, h F H σ _ le ok ?_⟩
  cases ra with
  | er x => exact hp
  | bad => exact hp
  | ok d =>
    intro v F1 H1 g q
    cases d with
    | int i => exact ⟨i, ar_int q, hp F1 H1 g⟩
    | _ => exact hp.elim
theorem po_W {e : Option Expr} : PO X e (WO X e) := ⟨fun pins s σ H Q I ⟨_, p, h⟩ => p.run pins s σ H Q I h⟩
def cutD (xs : List D) (lo hi : Option Int) : List D := (xs.drop (HT.sIx xs.length 0 lo)).take (HT.sIx xs.length xs.length hi - HT.sIx xs.length 0 lo)
theorem Reps.cut {K : PySem.W.Frag} {vs : List V} {ds : List D} (r : Reps K ca F vs ds) (lo hi : Option Int) : Reps K ca F (cutV vs lo hi) (cutD ds lo hi) := by
  unfold cutV cutD
  rw [r.length]
  exact (r.drop _).take _
def dSlL (lo hi : Option Int) : D → R D
  | .lst xs => .ok (.lst (cutD xs lo hi))
  | .scr xs => .ok (.lst (cutD xs lo hi))
  | _ => .bad
def dSl (lo hi : Option Int) : D → R D
  | .lst xs => .ok (.lst (cutD xs lo hi))
  | .scr xs => .ok (.lst (cutD xs lo hi))
  | .tup xs => .ok (.tup (cutD xs lo hi))
  | .str z => if z.length ≤ sizeLine then .ok (.str (cutS z lo hi)) else .bad
  | _ => .bad
def R.sl (g : Option Int → Option Int → D → R D) (a : R D) (lo hi : R (Option Int)) : R D := a.bind fun d => lo.bind fun l => hi.bind fun h => g l h d
theorem se_sl_core {m : Md} {g : Option Int → Option Int → D → R D} {lo hi : Option Expr} {rl rh : R (Option Int)} {p2 : Pos} (ha : SE ca X W H0 .r env a ra) (hl : SO ca X W H0 env lo rl) (hh : SO ca X W H0 env hi rh)
    (hg : ∀ (E : Ek) F H v d l h Q, Le F H → AR X.K ca F H v d → Post X.K ca m E F H (g l h d) Q → WSl X v l h H Q) :
    SE ca X W H0 m env (.Subscript a (.Slice lo hi none p2) pos) (R.sl g ra rl rh) := fun F H σ Q le ok hp => by
  refine ⟨_, pe_slice sl_W pe_W po_W po_W, ha.then le ok hp fun d v F1 H1 _ g1 q1 ok1 hp1 => ?_⟩
  refine hl F1 H1 σ _ g1.fh ok1 ?_
  cases rl with
  | er x => exact hp1
  | bad => exact hp1
  | ok l =>
    intro F2 H2 g2
    refine hh F2 H2 σ _ g2.fh (ok1.mono g2) ?_
    have hp2 := Post.mono g2 hp1
    cases rh with
    | er x => exact hp2
    | bad => exact hp2
    | ok h => exact fun F3 H3 g3 => hg (ekOf X.K ca W σ) F3 H3 v d l h Q g3.fh (AR.mono (g2.trans g3) q1) (Post.mono g3 hp2)
theorem se_slL {lo hi : Option Expr} {rl rh : R (Option Int)} {p2 : Pos} (ha : SE ca X W H0 .r env a ra) (hl : SO ca X W H0 env lo rl) (hh : SO ca X W H0 env hi rh) :
    SE ca X W H0 .o env (.Subscript a (.Slice lo hi none p2) pos) (R.sl dSlL ra rl rh) := se_sl_core ha hl hh fun E F H v d l h Q le q hp => by
  cases d with
  | lst xs =>
    obtain ⟨p, vs, rfl, h1, r⟩ := ar_lst le q
    exact ⟨_, sl_list, p, vs, rfl, .inl (.inl h1), fun n hn => hp _ F _ (Go.hid le hn _) ⟨n, rfl, hn, le.free hn, .inl ⟨_, _, rfl, upd_same, r.cut _ _⟩⟩⟩
  | scr xs =>
    obtain ⟨p, vs, rfl, h1, r⟩ := ar_scr le q
    exact ⟨_, sl_list, p, vs, rfl, h1, fun n hn => hp _ F _ (Go.hid le hn _) ⟨n, rfl, hn, le.free hn, .inl ⟨_, _, rfl, upd_same, r.cut _ _⟩⟩⟩
  | _ => exact hp.elim
theorem se_sl {lo hi : Option Expr} {rl rh : R (Option Int)} {p2 : Pos} (ha : SE ca X W H0 .r env a ra) (hl : SO ca X W H0 env lo rl) (hh : SO ca X W H0 env hi rh) :
    SE ca X W H0 .v env (.Subscript a (.Slice lo hi none p2) pos) (R.sl dSl ra rl rh) := se_sl_core ha hl hh fun E F H v d l h Q le q hp => by
  cases d with
  | lst xs =>
    obtain ⟨p, vs, rfl, h1, r⟩ := ar_lst le q
    exact ⟨_, sl_list, p, vs, rfl, .inl (.inl h1), fun n hn => hp _ _ _ (Go.new le hn _) (.lst upd_same ((r.cut _ _).mono (Le.new (le.free hn))))⟩
  | scr xs =>
    obtain ⟨p, vs, rfl, h1, r⟩ := ar_scr le q
    exact ⟨_, sl_list, p, vs, rfl, h1, fun n hn => hp _ _ _ (Go.new le hn _) (.lst upd_same ((r.cut _ _).mono (Le.new (le.free hn))))⟩
  | tup xs =>
    obtain ⟨p, vs, rfl, h1, r⟩ := ar_tup q
    refine ⟨_, sl_tupA, p, vs, rfl, le.t h1, fun ⟨e1, e2⟩ => ?_, fun _ n hn => hp _ _ _ (Go.new le hn _) (.tup (.inl (.inl upd_same)) ((r.cut _ _).mono (Le.new (le.free hn))))⟩
    refine hp _ F H (Go.refl le) (.tup h1 ?_)
    have e3 : cutD xs l h = xs := by
      unfold cutD
      rw [r.length] at e1 e2
      rw [e1, e2, List.drop_zero, Nat.sub_zero, List.take_length]
    rw [e3]; exact r
  | str z =>
    unfold dSl at hp
    dsimp only at hp
    split at hp
    · rename_i hz
      rw [ar_str q]
      exact ⟨_, sl_str, z, rfl, hz, hp _ F H (Go.refl le) (.str _)⟩
    · exact hp.elim
  | _ => exact hp.elim

/-! ### calls of builtins -/
def CV (ca : Str → Addr) (X : Cx) (ms : List Md) (m : Md) (f : Value) (g : List D → R D) : Prop := ∀ (E : Ek) F H vs ds Q, Le F H → ARs X.K ca F H ms vs ds → Post X.K ca m E F H (g ds) Q → WCall X f vs H Q
theorem se_callB {id : String} {x : Str} {p : Pos} {es : List Expr} {ms : List Md} {g : List D → R D} {rs : R (List D)} (hc : CV ca X ms m (.builtin id) g) (ha : SA ca X W H0 ms env (e :: es) rs) (hm : X.mg x = none) (hg : Gl X x := by rfl) (hv : bootBuiltins x = some (.builtin id) := by decide +kernel)
    (hn : x ≠ "__name__" := by decide) (hdb : (x == ("__debug__" : Str)) = false := by decide)
    (he : starEach (e :: es) X.env = (false, eval e X.env) :: starEach es X.env := by rfl) (hpl : (backTo pos (starEach es X.env)).any (·.1) = false := by rfl) :
    SE ca X W H0 m env (.Call (.Name x p) (e :: es) [] pos) (rs.bind g) := fun F H σ Q le ok hp =>
  ⟨_, pe_callB call_W hg hm hv pa_W hn hdb he hpl, ha.then le ok hp fun ds vs F1 H1 _ g1 q1 ok1 hp1 => hc (ekOf X.K ca W σ) F1 H1 vs ds Q g1.fh q1 hp1⟩
theorem se_callT {T : String} {x : Str} {p : Pos} {es : List Expr} {ms : List Md} {g : List D → R D} {rs : R (List D)} (hc : CV ca X ms m (.type T) g) (ha : SA ca X W H0 ms env (e :: es) rs) (hm : X.mg x = none) (hg : Gl X x := by rfl) (hv : bootBuiltins x = some (.type T) := by decide +kernel)
    (hn : x ≠ "__name__" := by decide) (hdb : (x == ("__debug__" : Str)) = false := by decide)
    (he : starEach (e :: es) X.env = (false, eval e X.env) :: starEach es X.env := by rfl) (hpl : (backTo pos (starEach es X.env)).any (·.1) = false := by rfl) :
    SE ca X W H0 m env (.Call (.Name x p) (e :: es) [] pos) (rs.bind g) := fun F H σ Q le ok hp =>
  ⟨_, pe_callTy call_W hg hm hv pa_W hn hdb he hpl, ha.then le ok hp fun ds vs F1 H1 _ g1 q1 ok1 hp1 => hc (ekOf X.K ca W σ) F1 H1 vs ds Q g1.fh q1 hp1⟩
def fn1 (g : D → R D) : List D → R D
  | [d] => g d
  | _ => .bad
def fn2 (g : D → D → R D) : List D → R D
  | [d, e] => g d e
  | _ => .bad
theorem cv1 {f : Value} {g : D → R D} (h : ∀ (E : Ek) F H v d Q, Le F H → AR X.K ca F H v d → Post X.K ca m E F H (g d) Q → WCall X f [v] H Q) : CV ca X [.r] m f (fn1 g) := fun E F H vs ds Q le q hp => by
  cases q with
  | consR h1 h2 => cases h2; exact h E F H _ _ Q le h1 hp
theorem cv2 {f : Value} {g : D → D → R D} (h : ∀ (E : Ek) F H v w d e Q, Le F H → AR X.K ca F H v d → AR X.K ca F H w e → Post X.K ca m E F H (g d e) Q → WCall X f [v, w] H Q) : CV ca X [.r, .r] m f (fn2 g) := fun E F H vs ds Q le q hp => by
  cases q with
  | consR h1 h2 => cases h2 with | consR h3 h4 => cases h4; exact h E F H _ _ _ _ Q le h1 h3 hp
def dLen : D → R D
  | .lst xs => .ok (.int xs.length)
  | .scr xs => .ok (.int xs.length)
  | .tup xs => .ok (.int xs.length)
  | .str z => if z.length ≤ sizeLine then .ok (.int z.length) else .bad
  | _ => .bad
theorem cv_len : CV ca X [.r] .v (.builtin "len") (fn1 dLen) := cv1 fun E F H v d Q le q hp => by
  cases d with
  | lst xs =>
    obtain ⟨p, vs, rfl, h1, r⟩ := ar_lst le q
    exact ⟨_, call_len_seq, p, vs, rfl, .inl (.inl (.inl h1)), by rw [r.length]; exact hp _ F H (Go.refl le) (.int _)⟩
  | scr xs =>
    obtain ⟨p, vs, rfl, h1, r⟩ := ar_scr le q
    exact ⟨_, call_len_seq, p, vs, rfl, .inl h1, by rw [r.length]; exact hp _ F H (Go.refl le) (.int _)⟩
  | tup xs =>
    obtain ⟨p, vs, rfl, h1, r⟩ := ar_tup q
    exact ⟨_, call_len_seq, p, vs, rfl, .inr (le.t h1), by rw [r.length]; exact hp _ F H (Go.refl le) (.int _)⟩
  | str z =>
    unfold dLen at hp
    dsimp only at hp
    split at hp
    · rename_i hz
      rw [ar_str q]
      exact ⟨_, call_len_str, z, rfl, hz, hp _ F H (Go.refl le) (.int _)⟩
    · exact hp.elim
  | _ => exact hp.elim
def dList : D → R D
  | .lst xs => .ok (.lst xs)
  | .scr xs => .ok (.lst xs)
  | .tup xs => .ok (.lst xs)
  | _ => .bad
theorem cv_list : CV ca X [.r] .o (.type "list") (fn1 dList) := cv1 fun E F H v d Q le q hp => by
  cases d with
  | lst xs =>
    obtain ⟨p, vs, rfl, h1, r⟩ := ar_lst le q
    exact ⟨_, call_list_of, p, vs, rfl, .inl (.inl (.inl h1)), fun n hn => hp _ F _ (Go.hid le hn _) ⟨n, rfl, hn, le.free hn, .inl ⟨_, _, rfl, upd_same, r⟩⟩⟩
  | scr xs =>
    obtain ⟨p, vs, rfl, h1, r⟩ := ar_scr le q
    exact ⟨_, call_list_of, p, vs, rfl, .inl h1, fun n hn => hp _ F _ (Go.hid le hn _) ⟨n, rfl, hn, le.free hn, .inl ⟨_, _, rfl, upd_same, r⟩⟩⟩
  | tup xs =>
    obtain ⟨p, vs, rfl, h1, r⟩ := ar_tup q
    exact ⟨_, call_list_of, p, vs, rfl, .inr (le.t h1), fun n hn => hp _ F _ (Go.hid le hn _) ⟨n, rfl, hn, le.free hn, .inl ⟨_, _, rfl, upd_same, r⟩⟩⟩
  | _ => exact hp.elim
def dTuple : D → R D
  | .lst xs => .ok (.tup xs)
  | .scr xs => .ok (.tup xs)
  | .tup xs => .ok (.tup xs)
  | _ => .bad
theorem cv_tuple : CV ca X [.r] .v (.type "tuple") (fn1 dTuple) := cv1 fun E F H v d Q le q hp => by
  cases d with
  | lst xs =>
    obtain ⟨p, vs, rfl, h1, r⟩ := ar_lst le q
    exact ⟨_, call_tuple_of, p, vs, rfl, .inl ⟨.inl (.inl h1), fun n hn => hp _ _ _ (Go.new le hn _) (.tup (.inl (.inl upd_same)) (r.mono (Le.new (le.free hn))))⟩⟩
  | scr xs =>
    obtain ⟨p, vs, rfl, h1, r⟩ := ar_scr le q
    exact ⟨_, call_tuple_of, p, vs, rfl, .inl ⟨h1, fun n hn => hp _ _ _ (Go.new le hn _) (.tup (.inl (.inl upd_same)) (r.mono (Le.new (le.free hn))))⟩⟩
  | tup xs =>
    obtain ⟨p, vs, rfl, h1, r⟩ := ar_tup q
    exact ⟨_, call_tuple_of, p, vs, rfl, .inr ⟨le.t h1, hp _ F H (Go.refl le) (.tup h1 r)⟩⟩
  | _ => exact hp.elim
def dInt : D → R D
  | .int i => .ok (.int i)
  | .bl b => .ok (.int (if b then 1 else 0))
  | _ => .bad
theorem cv_int : CV ca X [.r] .v (.type "int") (fn1 dInt) := cv1 fun E F H v d Q le q hp => by
  cases d with
  | int i => rw [ar_int q]; exact ⟨_, call_int1, .inl ⟨i, rfl, hp _ F H (Go.refl le) (.int _)⟩⟩
  | bl i => rw [ar_bl q]; exact ⟨_, call_int1, .inr ⟨i, rfl, hp _ F H (Go.refl le) (.int _)⟩⟩
  | _ => exact hp.elim
def dMax2 : D → D → R D
  | .int i, .int j => .ok (.int (if j > i then j else i))
  | _, _ => .bad
def dMin2 : D → D → R D
  | .int i, .int j => .ok (.int (if j < i then j else i))
  | _, _ => .bad
theorem cv_max2 (hc : X.calm = true) : CV ca X [.r, .r] .v (.builtin "max") (fn2 dMax2) := cv2 fun E F H v w d e Q le q1 q2 hp => by
  unfold dMax2 at hp
  split at hp
  · rw [ar_int q1, ar_int q2]; exact ⟨_, call_max2 hc, _, _, rfl, hp _ F H (Go.refl le) (.int _)⟩
  · exact hp.elim
theorem cv_min2 (hc : X.calm = true) : CV ca X [.r, .r] .v (.builtin "min") (fn2 dMin2) := cv2 fun E F H v w d e Q le q1 q2 hp => by
  unfold dMin2 at hp
  split at hp
  · rw [ar_int q1, ar_int q2]; exact ⟨_, call_min2 hc, _, _, rfl, hp _ F H (Go.refl le) (.int _)⟩
  · exact hp.elim
/-! ### isinstance -/
def tyName : D → String
  | .non => "NoneType"
  | .bl _ => "bool"
  | .int _ => "int"
  | .str _ => "str"
  | .lst _ => "list"
  | .scr _ => "list"
  | .tup _ => "tuple"
  | .dic _ _ => "dict"
  | _ => ""
def okTy (a b : String) : Option Bool :=
  if a ∈ ["NoneType", "bool", "int", "str", "list", "tuple", "dict"] ∧ b ∈ ["bool", "int", "str", "list", "tuple", "dict"] then some (a == b || (a == "bool" && b == "int")) else none
theorem okTy_kit {K : PySem.W.Frag} {a b : String} {k : Bool} (h : okTy a b = some k) : PySem.W.kitOne K (.type a) (.type b) = some k := by
  unfold okTy at h
  split at h
  · rename_i hm
    obtain ⟨h1, h2⟩ := hm
    simp only [List.mem_cons, List.not_mem_nil, or_false] at h1 h2
    rcases h1 with rfl | rfl | rfl | rfl | rfl | rfl | rfl <;> rcases h2 with rfl | rfl | rfl | rfl | rfl | rfl <;> cases h <;> exact kit_ty (by decide +kernel)
  · cases h
/-- isinstance(x, T), T a built-in class -/
def dIsT (T : String) (d : D) : R D := match okTy (tyName d) T with
  | some k => .ok (.bl k)
  | none => .bad
def dIsI (cs : List Str) : D → D → R D
  | x, .ty T => dIsT T x
  | .ins c _ _, .cl c' => if c = c' ∧ c ∈ cs then .ok (.bl true) else .bad
  | _, _ => .bad
structure InsK (K : PySem.W.Frag) (C : Addr) : Prop where
  cls : Cls K C
  fc : PySem.W.findIn K (.ref C) (Str.ofString "__class__") = some (some (Value.builtin "object.__class__"))
  sp : PySem.W.specialIn K (Value.builtin "object.__class__") (Str.ofString "__get__") = some (some (Value.builtin "getset_descriptor.__get__"))
  tk : PySem.W.takesIn K (Value.builtin "object.__class__") = some true
  mr : PySem.W.mroIn K C (Value.type "object") = some true
theorem kit_same {K : PySem.W.Frag} {t : Value} (h : (t == t) = true := by first | rfl | simp) : PySem.W.kitOne K t t = some true := by
  unfold PySem.W.kitOne; rw [if_pos h]
theorem ar_ty {K : PySem.W.Frag} {v : V} {d : D} (le : Le F H) (h : AR K ca F H v d) (hn : tyName d ≠ "") : TyX K H v (.type (tyName d)) := by
  cases d with
  | non => rw [ar_non h]; exact .base .non
  | bl b => rw [ar_bl h]; exact .base (.bl b)
  | int b => rw [ar_int h]; exact .base (.int b)
  | str b => rw [ar_str h]; exact .base (.str b)
  | lst xs => obtain ⟨p, vs, rfl, h1, r⟩ := ar_lst le h; exact .base (.lst h1)
  | scr xs =>
    obtain ⟨p, vs, rfl, h1, r⟩ := ar_scr le h
    rcases h1 with (h1 | ⟨o, h1⟩) | ⟨o, its, n, k, c, _⟩
    · exact .base (.lst h1)
    · exact .base (.frz h1)
    · exact .kList k c
  | tup xs =>
    obtain ⟨p, vs, rfl, h1, r⟩ := ar_tup h
    rcases le.t h1 with (h1 | ⟨o, h1⟩) | ⟨o, its, n, k, c, _⟩
    · exact .base (.tup h1)
    · exact .fTuple h1
    · exact .kTuple k c
  | dic ks xs => obtain ⟨p, kvs, rfl, h1, _⟩ := ar_dic le h; exact .base (.dK h1)
  | _ => exact absurd rfl hn
theorem cv_isi (cs : List Str) (hI : ∀ c ∈ cs, InsK X.K (ca c)) : CV ca X [.r, .v] .v (.builtin "isinstance") (fn2 (dIsI cs)) := fun E F H vs ds Q le q hp => by
  cases q with
  | consR h1 h2 => cases h2 with | consV h3 h4 =>
  cases h4
  rename_i v d w e
  cases h3 with
  | ty T =>
    have hp' : Post X.K ca .v E F H (dIsT T d) Q := by cases d <;> exact hp
    unfold dIsT at hp'
    split at hp'
    · rename_i k hk
      have hn : tyName d ≠ "" := by
        intro z
        rw [z] at hk
        unfold okTy at hk
        simp at hk
      exact ⟨_, call_isi, v, _, _, _, k, rfl, .ty T, ar_ty le h1 hn, okTy_kit hk, hp' _ F H (Go.refl le) (.bl k)⟩
    · exact hp'.elim
  | cl c =>
    cases d with
    | ins c' ns xs =>
      have hp' : Post X.K ca .v E F H (if c' = c ∧ c' ∈ cs then .ok (.bl true) else .bad) Q := hp
      split at hp'
      · rename_i hc
        obtain ⟨hc, hm⟩ := hc
        subst hc
        have h5 := ar_rep h1 (fun _ => by intro z; cases z) (fun _ _ => by intro z; cases z)
        cases h5 with
        | ins h6 hn r =>
          have k := hI c' hm
          exact ⟨_, call_isi, _, _, _, _, true, rfl, .own _, .base (.ins (le _ _ h6) k.cls k.fc k.sp k.tk k.mr), kit_same, hp' _ F H (Go.refl le) (.bl true)⟩
      · exact hp'.elim
    | _ => exact hp.elim
  | _ => cases d <;> exact hp.elim
theorem se_ty {T : String} {x : Str} {p : Pos} (hm : X.mg x = none) (hg : Gl X x := by rfl) (hv : bootBuiltins x = some (.type T) := by decide +kernel) (hn : x ≠ "__name__" := by decide) (hdb : (x == ("__debug__" : Str)) = false := by decide) :
    SE ca X W H0 .v env (.Name x p) (.ok (.ty T)) := fun F H σ Q le ok hp => ⟨_, pe_bltn (v := .ty T) hg hm hv rfl hn hdb, hp _ F H (Go.refl le) (.ty T)⟩
theorem se_cls {c x : Str} {p : Pos} (hm : X.mg x = some (.ref (ca c))) (hg : Gl X x := by rfl) (hdb : (x == ("__debug__" : Str)) = false := by decide) :
    SE ca X W H0 .v env (.Name x p) (.ok (.cl c)) := fun F H σ Q le ok hp => ⟨_, pe_glob (v := .ref (ca c)) hg hm rfl hdb, hp _ F H (Go.refl le) (.cl c)⟩
end
end Um

namespace Um
open L2 PySem PySem.Spec PyProof.Rows

/-! ## Statements -/
/-- what is fixed through a body: res is what the body comes to; ret says what a returned value is in it; envH what a handler leans on -/
structure Pt (α : Type) where
  ca : Str → Addr
  X : Cx
  W : WX
  F0 : Hp
  H0 : Hp
  envH : En
  res : R α
  ret : D → R α
  m : Md
  Q : VK
/-- the handler leans on data alone -/
def SlH (K : PySem.W.Frag) (ca : Str → Addr) (H0 F : Hp) (v : V) : Sl → Prop
  | .d x => Rep K ca F v x
  | .b x => Rep K ca F v x ∨ ∃ p, v = .ref p ∧ OwnAt K ca F H0 p x
  | .o _ => True
theorem SlH.mono {K : PySem.W.Frag} {ca : Str → Addr} {H0 F F' : Hp} {v : V} {s : Sl} (g : Le F F') (h : SlH K ca H0 F v s) : SlH K ca H0 F' v s := by
  cases s with
  | d x => exact Rep.mono g h
  | b x =>
    rcases h with h | ⟨p, e, h⟩
    · exact .inl (h.mono g)
    · exact .inr ⟨p, e, h.monoF g⟩
  | o x => trivial
def HOk {α : Type} (P : Pt α) (F H : Hp) (σ : L2.St) : Prop := ∀ (i : Nat) s, P.envH[i]? = some (some s) → ∃ v, σ[i]? = some (some v) ∧ SlH P.X.K P.ca P.H0 F v s
structure Pt.Good {α : Type} (P : Pt α) : Prop where
  nd : P.X.N.Nodup
  calm : P.X.calm = true
  hp : PassesOwn (model P.X.prog P.X.w) P.X.A P.X.env P.X.xe
  rt : ∀ d v F H, P.res = P.ret d → Go P.F0 P.H0 F H → Res P.X.K P.ca P.m P.H0 F H v d → P.Q v H
  er : ∀ x F H σ, P.res = .er x → Go P.F0 P.H0 F H → HOk P F H σ → ekOf P.X.K P.ca P.W σ x F H
  nb : P.res ≠ .bad
  rb : ∀ d, P.ret d ≠ .bad
structure AtF {α : Type} (P : Pt α) (F : Hp) (env : En) (r : R α) (σ : L2.St) (H : Hp) : Prop where
  go : Go P.F0 P.H0 F H
  en : EnOk P.X.K P.ca P.H0 F H σ env
  ho : HOk P F H σ
  eq : r = P.res
def At {α : Type} (P : Pt α) (env : En) (r : R α) : L2.St → Hp → Prop := fun σ H => ∃ F, AtF P F env r σ H
abbrev Jp (α : Type) := En → R α → Prop
def SSs {α : Type} (P : Pt α) (nx bk ct : Jp α) (env : En) (ss : List Stmt) (r : R α) : Prop := ∀ D : Ends, D.rt = P.Q →
  (∀ e' r', nx e' r' → ∀ σ H, At P e' r' σ H → D.nx σ H) → (∀ e' r', bk e' r' → ∀ σ H, At P e' r' σ H → D.bk σ H) → (∀ e' r', ct e' r' → ∀ σ H, At P e' r' σ H → D.ct σ H) →
  ∀ σ H, At P env r σ H → WSs P.X ss D σ H
def jNo {α : Type} : Jp α := fun _ _ => False
/-- e' knows what e knows -/
inductive EnLe : En → En → Prop
  | nil : EnLe [] []
  | s {x : Option Sl} {e e' : En} (h : EnLe e e') : EnLe (x :: e) (x :: e')
  | n {x : Option Sl} {e e' : En} (h : EnLe e e') : EnLe (none :: e) (x :: e')
theorem EnLe.length {e e' : En} (h : EnLe e e') : e.length = e'.length := by
  induction h with
  | nil => rfl
  | s _ ih => rw [List.length_cons, List.length_cons, ih]
  | n _ ih => rw [List.length_cons, List.length_cons, ih]
theorem EnLe.get {e e' : En} (h : EnLe e e') : ∀ (i : Nat) s, e[i]? = some (some s) → e'[i]? = some (some s) := by
  induction h with
  | nil => intro i s q; simp at q
  | s h ih =>
    intro i s q
    cases i with
    | zero => exact q
    | succ i => exact ih i s (by simpa using q)
  | n h ih =>
    intro i s q
    cases i with
    | zero => simp at q
    | succ i => exact ih i s (by simpa using q)
theorem EnOk.weak {K : PySem.W.Frag} {ca : Str → Addr} {H0 F H : Hp} {σ : L2.St} {e e' : En} (h : EnLe e e') (q : EnOk K ca H0 F H σ e') : EnOk K ca H0 F H σ e :=
  ⟨q.h0, q.len.trans h.length.symm, fun i s hs => q.at_ i s (h.get i s hs), fun i j x y h1 h2 => q.own i j x y (h.get _ _ h1) (h.get _ _ h2)⟩
theorem EnLe.refl : ∀ e : En, EnLe e e
  | [] => .nil
  | _ :: e => .s (EnLe.refl e)
/-- slot i may be stored -/
def noH (envH : En) (i : Nat) : Bool := match envH[i]? with
  | some (some _) => false
  | _ => true
section
variable {α : Type} {P : Pt α} {nx bk ct : Jp α} {env : En} {rest : List Stmt} {F H F' H' : Hp} {σ : L2.St}
theorem HOk.mono (g : Go F H F' H') (h : HOk P F H σ) : HOk P F' H' σ := fun i s q => by
  obtain ⟨v, h1, h2⟩ := h i s q
  exact ⟨v, h1, h2.mono g.f⟩
theorem HOk.set {i : Nat} {x : Option V} (h : HOk P F H σ) (n : noH P.envH i = true) : HOk P F H (σ.set i x) := fun j s q => by
  obtain ⟨v, h1, h2⟩ := h j s q
  refine ⟨v, ?_, h2⟩
  have hij : i ≠ j := by
    rintro rfl
    unfold noH at n
    rw [q] at n
    cases n
  rw [List.getElem?_set_ne hij]; exact h1
theorem AtF.mono {r : R α} (h : AtF P F env r σ H) (g : Go F H F' H') : AtF P F' env r σ H' := ⟨h.go.trans g, h.en.mono g, h.ho.mono g, h.eq⟩
theorem AtF.weak {r : R α} {e : En} (h : AtF P F env r σ H) (l : EnLe e env) : AtF P F e r σ H := ⟨h.go, h.en.weak l, h.ho, h.eq⟩
/-- an expression in a statement -/
theorem AtF.ev (G : P.Good) {m : Md} {e : Expr} {re : R D} {k : D → R α} {Q : VK} (h : SE P.ca P.X P.W P.H0 m env e re) (a : AtF P F env (re.bind k) σ H)
    (hg : ∀ d v F' H', re = .ok d → Go F H F' H' → Res P.X.K P.ca m H F' H' v d → AtF P F' env (k d) σ H' → Q v H') : Um.WE P.X e σ H Q := by
  refine h F H σ Q a.go.fh a.en ?_
  have ae := a.eq
  cases re with
  | ok d => exact fun v F' H' g q => hg d v F' H' rfl g q ((⟨a.go, a.en, a.ho, ae⟩ : AtF P F env (k d) σ H).mono g)
  | er x => exact fun F' H' g => G.er x F' H' σ ae.symm (a.go.trans g) (a.ho.mono g)
  | bad => exact G.nb ae.symm
theorem AtF.evT (G : P.Good) {e : Expr} {re : R Bool} {k : Bool → R α} {Q : Bool → Hp → Prop} (h : ST P.ca P.X P.W P.H0 env e re) (a : AtF P F env (re.bind k) σ H)
    (hg : ∀ b F' H', re = .ok b → Go F H F' H' → AtF P F' env (k b) σ H' → Q b H') : WT P.X e σ H Q := by
  refine h F H σ Q a.go.fh a.en ?_
  have ae := a.eq
  cases re with
  | ok d => exact fun F' H' g => hg d F' H' rfl g ((⟨a.go, a.en, a.ho, ae⟩ : AtF P F env (k d) σ H).mono g)
  | er x => exact fun F' H' g => G.er x F' H' σ ae.symm (a.go.trans g) (a.ho.mono g)
  | bad => exact G.nb ae.symm
theorem set_some {β : Type} {l : List (Option β)} {i j : Nat} {x : Option β} {s : β} (h : (l.set i x)[j]? = some (some s)) : (i = j ∧ x = some s) ∨ (i ≠ j ∧ l[j]? = some (some s)) := by
  by_cases e : i = j
  · subst e
    rw [List.getElem?_set_self'] at h
    cases q : l[i]? with
    | none => rw [q] at h; simp at h
    | some u => rw [q] at h; exact .inl ⟨rfl, by simpa using h⟩
  · rw [List.getElem?_set_ne e] at h
    exact .inr ⟨e, h⟩
theorem lt_of_set {β : Type} {l : List (Option β)} {i : Nat} {x : Option β} {s : Option β} (h : (l.set i x)[i]? = some s) : i < l.length := by
  have := (List.getElem?_eq_some_iff.mp h).1
  rwa [List.length_set] at this
/-- a slot is stored with data -/
theorem EnOk.setD {K : PySem.W.Frag} {ca : Str → Addr} {H0 : Hp} {i : Nat} {v : V} {d : D} (h : EnOk K ca H0 F H σ env) (q : Rep K ca F v d) : EnOk K ca H0 F H (σ.set i (some v)) (env.set i (some (.d d))) := by
  refine ⟨h.h0, by rw [List.length_set, List.length_set, h.len], fun j s hj => ?_, fun j k x y hj hk e => ?_⟩
  · have hl : (env.set i (some (Sl.d d))).length = env.length := List.length_set ..
    rcases set_some hj with ⟨rfl, e⟩ | ⟨ne, hj'⟩
    · cases e
      refine ⟨v, ?_, q⟩
      rw [List.getElem?_set_self (by rw [h.len]; exact lt_of_set hj)]
    · obtain ⟨u, h1, h2⟩ := h.at_ j s hj'
      exact ⟨u, by rw [List.getElem?_set_ne ne]; exact h1, h2⟩
  · rcases set_some hj with ⟨_, e1⟩ | ⟨n1, hj'⟩
    · cases e1
    · rcases set_some hk with ⟨_, e2⟩ | ⟨n2, hk'⟩
      · cases e2
      · rw [List.getElem?_set_ne n1, List.getElem?_set_ne n2] at e
        exact h.own j k x y hj' hk' e
/-- .. with a new thing -/
theorem EnOk.setO {K : PySem.W.Frag} {ca : Str → Addr} {H0 Hb : Hp} {i : Nat} {p : Addr} {d : D} (h : EnOk K ca H0 F H σ env) (hb : ∀ (j : Nat) q, σ[j]? = some (some (.ref q)) → (∃ x, env[j]? = some (some (.o x))) → q ≠ p) (n : H0 p = none) (f : F p = none) (o : OwnAt K ca F H p d) :
    EnOk K ca H0 F H (σ.set i (some (.ref p))) (env.set i (some (.o d))) := by
  refine ⟨h.h0, by rw [List.length_set, List.length_set, h.len], fun j s hj => ?_, fun j k x y hj hk e => ?_⟩
  · rcases set_some hj with ⟨rfl, e⟩ | ⟨ne, hj'⟩
    · cases e
      refine ⟨.ref p, ?_, ⟨p, rfl, n, f, o⟩⟩
      rw [List.getElem?_set_self (by rw [h.len]; exact lt_of_set hj)]
    · obtain ⟨u, h1, h2⟩ := h.at_ j s hj'
      exact ⟨u, by rw [List.getElem?_set_ne ne]; exact h1, h2⟩
  · rcases set_some hj with ⟨e0, e1⟩ | ⟨n1, hj'⟩
    · rcases set_some hk with ⟨e2, e3⟩ | ⟨n2, hk'⟩
      · exact e0.symm.trans e2
      · subst e0
        rw [List.getElem?_set_self (by rw [h.len]; exact lt_of_set hj), List.getElem?_set_ne n2] at e
        exact absurd rfl (hb k p e.symm ⟨_, hk'⟩)
    · rcases set_some hk with ⟨e2, e3⟩ | ⟨n2, hk'⟩
      · subst e2
        rw [List.getElem?_set_self (by rw [h.len]; exact lt_of_set hk), List.getElem?_set_ne n1] at e
        exact absurd rfl (hb j p e ⟨_, hj'⟩)
      · rw [List.getElem?_set_ne n1, List.getElem?_set_ne n2] at e
        exact h.own j k x y hj' hk' e
theorem own_ne {K : PySem.W.Frag} {ca : Str → Addr} {H0 : Hp} {p : Addr} {Hb Fb : Hp} (h : EnOk K ca H0 Fb Hb σ env) (hp : Hb p = none) : ∀ (j : Nat) q, σ[j]? = some (some (.ref q)) → (∃ x, env[j]? = some (some (.o x))) → q ≠ p := fun j q hj ⟨x, hx⟩ e => by
  obtain ⟨v, h1, p', e1, _, _, o⟩ := h.at_ j _ hx
  rw [hj] at h1
  cases h1
  cases e1
  obtain ⟨u, hu⟩ := o.some
  rw [e, hp] at hu
  cases hu
/-- a thing of one's own changes -/
theorem EnOk.mut {K : PySem.W.Frag} {ca : Str → Addr} {H0 : Hp} {i : Nat} {p : Addr} {x d : D} {ob : HO} (h : EnOk K ca H0 F H σ env) (he : env[i]? = some (some (.o x))) (hs : σ[i]? = some (some (.ref p))) (n : H0 p = none) (f : F p = none) (o : OwnAt K ca F (upd H p ob) p d) :
    EnOk K ca H0 F (upd H p ob) σ (env.set i (some (.o d))) := by
  refine ⟨fun a u q => ?_, by rw [List.length_set, h.len], fun j s hj => ?_, fun j k x y hj hk e => ?_⟩
  · rw [upd_ne (ne_of_none q n)]; exact h.h0 a u q
  · rcases set_some hj with ⟨rfl, e⟩ | ⟨ne, hj'⟩
    · cases e
      exact ⟨.ref p, hs, p, rfl, n, f, o⟩
    · obtain ⟨u, h1, h2⟩ := h.at_ j s hj'
      refine ⟨u, h1, ?_⟩
      cases s with
      | d y => exact h2
      | b y => exact h2
      | o y =>
        obtain ⟨p', e1, n', f', o'⟩ := h2
        refine ⟨p', e1, n', f', ?_⟩
        have hne : p' ≠ p := by
          rintro rfl
          exact ne (h.own i j _ _ he hj' (by rw [hs, h1, e1]))
        rcases o' with ⟨vs, ds, e2, h3, r⟩ | ⟨kvs, ks, ds, e2, h3, q, r⟩
        · exact .inl ⟨vs, ds, e2, by rw [upd_ne hne]; exact h3, r⟩
        · exact .inr ⟨kvs, ks, ds, e2, by rw [upd_ne hne]; exact h3, q, r⟩
  · rcases set_some hj with ⟨e0, e1⟩ | ⟨n1, hj'⟩
    · rcases set_some hk with ⟨e2, e3⟩ | ⟨n2, hk'⟩
      · exact e0.symm.trans e2
      · exact e0.symm.trans (h.own i k _ _ he hk' (e0 ▸ e))
    · rcases set_some hk with ⟨e2, e3⟩ | ⟨n2, hk'⟩
      · exact (h.own j i _ _ hj' he (e2 ▸ e)).trans e2
      · exact h.own j k _ _ hj' hk' e
end

section
variable {α : Type} {P : Pt α} {nx bk ct : Jp α} {env : En} {rest : List Stmt}
theorem WSs.cons {X : Cx} {st : Stmt} {rest : List Stmt} {D : Ends} {σ : L2.St} {H : Hp} {t : TS} (h : PS X st t) (q : t { D with nx := fun σ' H' => WSs X rest D σ' H' } σ H) : WSs X (st :: rest) D σ H := ⟨_, pss_cons h pss_W, q⟩
theorem ss_nil {r : R α} (h : nx env r) : SSs P nx bk ct env [] r := fun D _ hn _ _ σ H a => ⟨_, pss_nil, hn env r h σ H a⟩
theorem ss_pass {r : R α} {pos : Pos} (h : SSs P nx bk ct env rest r) : SSs P nx bk ct env (.Pass pos :: rest) r := fun D hr hn hb hc σ H a => .cons ps_pass (h D hr hn hb hc σ H a)
theorem ss_break {r : R α} {pos : Pos} (h : bk env r) : SSs P nx bk ct env (.Break pos :: rest) r := fun D _ _ hb _ σ H a => .cons ps_break (hb env r h σ H a)
theorem ss_cont {r : R α} {pos : Pos} (h : ct env r) : SSs P nx bk ct env (.Continue pos :: rest) r := fun D _ _ _ hc σ H a => .cons ps_continue (hc env r h σ H a)
theorem ss_weak {r : R α} {e : En} {ss : List Stmt} (l : EnLe e env) (h : SSs P nx bk ct e ss r) : SSs P nx bk ct env ss r := fun D hr hn hb hc σ H ⟨F, a⟩ => h D hr hn hb hc σ H ⟨F, a.weak l⟩
theorem ss_ret (G : P.Good) {e : Expr} {re : R D} {pos : Pos} (h : SE P.ca P.X P.W P.H0 P.m env e re) : SSs P nx bk ct env (.Return (some e) pos :: rest) (re.bind P.ret) := fun D hr hn hb hc σ H ⟨F, a⟩ => by
  refine .cons (ps_ret pe_W) ?_
  show Um.WE P.X e σ H D.rt
  rw [hr]
  refine a.ev G h fun d v F' H' _ g q a' => G.rt d v F' H' a'.eq.symm a'.go ?_
  cases hm : P.m with
  | v => rw [hm] at q; exact q
  | r => rw [hm] at q; exact q
  | o =>
    rw [hm] at q
    obtain ⟨p, e1, n, f, o⟩ := q
    exact ⟨p, e1, a.en.h0.free n, f, o⟩
  | q s =>
    rw [hm] at q
    obtain ⟨cs, nd, n, o⟩ := q
    exact ⟨cs, nd, fun p hp => ⟨a.en.h0.free (n p hp).1, (n p hp).2⟩, o⟩
theorem ss_retN (G : P.Good) {pos : Pos} (hm : P.m = .v := by rfl) : SSs P nx bk ct env (.Return none pos :: rest) (P.ret .non) := fun D hr hn hb hc σ H ⟨F, a⟩ => by
  refine .cons ps_retN ?_
  show D.rt .non H
  rw [hr]
  refine G.rt .non .non F H a.eq.symm a.go ?_
  rw [hm]; exact Rep.non
/-- return x, x of one's own -/
theorem ss_retO (G : P.Good) {i : Nat} {x : Str} {pos pos' : Pos} {d : D} (he : env[i]? = some (some (.o d)) := by rfl) (hm : P.m = .o := by rfl) (hN : P.X.N[i]? = some x := by rfl)
    (hv : Vis P.X.env.scope x := by first | exact Or.inl rfl | exact Or.inr (Or.inl rfl) | exact Or.inr (Or.inr rfl)) (hd : (x == ("__debug__" : Str)) = false := by decide) (hcd : (x == ("__classdict__" : Str)) = false := by decide) :
    SSs P nx bk ct env (.Return (some (.Name x pos')) pos :: rest) (P.ret d) := fun D hr hn hb hc σ H ⟨F, a⟩ => by
  obtain ⟨v, h1, p, e, n, f, o⟩ := a.en.at_ i _ he
  refine .cons (ps_ret (pe_var hN hv hd hcd)) ⟨v, h1, ?_⟩
  show D.rt v H
  rw [hr, e]
  refine G.rt d (.ref p) F H a.eq.symm a.go ?_
  rw [hm]
  exact ⟨p, rfl, n, f, o⟩
/-- what is of one's own becomes data -/
theorem ss_freeze {i : Nat} {d : D} {ss : List Stmt} {r : R α} (he : env[i]? = some (some (.o d)) := by rfl) (hh : noH P.envH i = true := by rfl) (h : SSs P nx bk ct (env.set i (some (.d d))) ss r) : SSs P nx bk ct env ss r := fun D hr hn hb hc σ H ⟨F, a⟩ => by
  refine h D hr hn hb hc σ H ?_
  obtain ⟨v, h1, p, e, n, f, o⟩ := a.en.at_ i _ he
  subst e
  obtain ⟨u, hu⟩ := o.some
  refine ⟨upd F p u, ⟨a.go.f.trans (Le.new f), a.go.h, fun b w hb => ?_, fun b w hb hn' => ?_⟩, ?_, ?_, a.eq⟩
  · by_cases hbp : b = p
    · subst hbp; rw [upd_same] at hb; cases hb; exact hu
    · rw [upd_ne hbp] at hb; exact a.go.fh b w hb
  · rw [upd_ne (ne_of_none hb n)]; exact a.go.fr b w hb hn'
  · have le : Le F (upd F p u) := Le.new f
    refine ⟨a.en.h0, by rw [List.length_set, a.en.len], fun j s hj => ?_, fun j k x y hj hk e => ?_⟩
    · rcases set_some hj with ⟨rfl, e⟩ | ⟨ne, hj'⟩
      · cases e
        refine ⟨.ref p, h1, ?_⟩
        rcases o with ⟨vs, ds, e, h, r⟩ | ⟨kvs, ks, ds, e, h, q, r⟩
        · rw [h] at hu; cases hu; subst e
          exact Rep.lst upd_same (r.mono le)
        · rw [h] at hu; cases hu; subst e
          exact Rep.dic upd_same q (r.mono le)
      · obtain ⟨w, h2, h3⟩ := a.en.at_ j s hj'
        refine ⟨w, h2, ?_⟩
        cases s with
        | d y => exact Rep.mono le h3
        | b y =>
          rcases h3 with h3 | ⟨q, e, h3⟩
          · exact .inl (h3.mono le)
          · exact .inr ⟨q, e, h3.monoF le⟩
        | o y =>
          obtain ⟨p', e1, n', f', o'⟩ := h3
          have hne : p' ≠ p := by
            rintro rfl
            exact ne (a.en.own i j _ _ he hj' (by rw [h1, h2, e1]))
          exact ⟨p', e1, n', by rw [upd_ne hne]; exact f', o'.monoF le⟩
    · rcases set_some hj with ⟨_, e1⟩ | ⟨n1, hj'⟩
      · cases e1
      · rcases set_some hk with ⟨_, e2⟩ | ⟨n2, hk'⟩
        · cases e2
        · exact a.en.own j k x y hj' hk' e
  · intro j s hj
    obtain ⟨w, h2, h3⟩ := a.ho j s hj
    exact ⟨w, h2, h3.mono (Le.new f)⟩
end
end Um

namespace Um
open L2 PySem PySem.Spec PyProof.Rows

def joinC {S β : Type} (f : (S → β) → β) (k : S → β) : β := f k
def jOf {S α : Type} (envL : S → En) (k : S → R α) : Jp α := fun e r => ∃ s, EnLe (envL s) e ∧ r = k s
theorem jOf.mk {S α : Type} {envL : S → En} {k : S → R α} (s : S) {e : En} (l : EnLe (envL s) e) : jOf envL k e (k s) := ⟨s, l, rfl⟩

section
variable {α : Type} {P : Pt α} {nx bk ct : Jp α} {env : En} {rest : List Stmt}
/-! ### x = e -/
theorem ss_set (G : P.Good) {i : Nat} {x : Str} {e : Expr} {re : R D} {k : D → R α} {pos pos' : Pos} (h : SE P.ca P.X P.W P.H0 .v env e re) (hk : ∀ d, SSs P nx bk ct (env.set i (some (.d d))) rest (k d))
    (hi : P.X.N[i]? = some x := by rfl) (hx : Loc P.X.env.scope x := by first | exact .inl rfl | exact .inr rfl) (hh : noH P.envH i = true := by rfl)
    (hs : swapsWith e (some (.Name x pos')) pos.line P.X.env = pure false := by rfl) (hf : P.X.fn x = true ∨ P.X.env.scope.names.lookup x = some .local := by first | exact .inl rfl | exact .inr rfl) :
    SSs P nx bk ct env (.Assign [.Name x pos'] e pos :: rest) (re.bind k) := fun D hr hn hb hc σ H ⟨F, a⟩ => by
  refine .cons (ps_set G.nd hi hx pe_W hs hf) ?_
  refine a.ev G h fun d v F' H' _ g q a' => hk d D hr hn hb hc _ _ ⟨F', a'.go, a'.en.setD q, a'.ho.set hh, a'.eq⟩
theorem ss_setO (G : P.Good) {i : Nat} {x : Str} {e : Expr} {re : R D} {k : D → R α} {pos pos' : Pos} (h : SE P.ca P.X P.W P.H0 .o env e re) (hk : ∀ d, SSs P nx bk ct (env.set i (some (.o d))) rest (k d))
    (hi : P.X.N[i]? = some x := by rfl) (hx : Loc P.X.env.scope x := by first | exact .inl rfl | exact .inr rfl) (hh : noH P.envH i = true := by rfl)
    (hs : swapsWith e (some (.Name x pos')) pos.line P.X.env = pure false := by rfl) (hf : P.X.fn x = true ∨ P.X.env.scope.names.lookup x = some .local := by first | exact .inl rfl | exact .inr rfl) :
    SSs P nx bk ct env (.Assign [.Name x pos'] e pos :: rest) (re.bind k) := fun D hr hn hb hc σ H ⟨F, a⟩ => by
  refine .cons (ps_set G.nd hi hx pe_W hs hf) ?_
  refine a.ev G h fun d v F' H' _ g q a' => ?_
  obtain ⟨p, e1, n, f, o⟩ := q
  subst e1
  exact hk d D hr hn hb hc _ _ ⟨F', a'.go, a'.en.setO (Hb := H) (own_ne a.en n) (a.en.h0.free n) f o, a'.ho.set hh, a'.eq⟩
/-- x += e -/
theorem ss_aug (G : P.Good) {i : Nat} {x : Str} {e : Expr} {re : R D} {k : D → R α} {pos pos' : Pos} {d0 : D} (h : SE P.ca P.X P.W P.H0 .r env e re) (he : env[i]? = some (some (.d d0)) := by rfl) (hk : ∀ d, SSs P nx bk ct (env.set i (some (.d d))) rest (k d))
    (hi : P.X.N[i]? = some x := by rfl) (hx : Loc P.X.env.scope x := by first | exact .inl rfl | exact .inr rfl) (hh : noH P.envH i = true := by rfl)
    (hf : P.X.fn x = true ∨ P.X.env.scope.names.lookup x = some .local := by first | exact .inl rfl | exact .inr rfl)
    {op : Operator} {f : Int → Int → Int} (ho : PIp P.X op (ipI f)) :
    SSs P nx bk ct env (.AugAssign (.Name x pos') op e pos :: rest) (re.bind fun d => (match d0, d with | .int a, .int b => .ok (.int (f a b)) | _, _ => .bad : R D).bind k) := fun D hr hn hb hc σ H ⟨F, a⟩ => by
  obtain ⟨v, h1, h2⟩ := a.en.at_ i _ he
  refine .cons (ps_aug G.nd hi hx pe_W ho) ⟨v, h1, ?_⟩
  refine a.ev G h fun d w F' H' _ g q a' => ?_
  have ae := a'.eq
  cases d0 with
  | int x0 =>
    cases d with
    | int y0 =>
      cases h2
      rw [ar_int q]
      exact ⟨x0, y0, rfl, rfl, hk _ D hr hn hb hc _ _ ⟨F', a'.go, a'.en.setD (.int _), a'.ho.set hh, ae⟩⟩
    | _ => exact absurd ae.symm G.nb
  | _ => exact absurd ae.symm G.nb
/-! ### if -/
theorem ss_if (G : P.Good) {S : Type} {c : Expr} {A B : List Stmt} {tc : R Bool} {rA rB : (S → R α) → R α} {k : S → R α} {pos : Pos} (envJ : S → En) (h : ST P.ca P.X P.W P.H0 env c tc)
    (hA : SSs P (jOf envJ k) bk ct env A (rA k)) (hB : SSs P (jOf envJ k) bk ct env B (rB k)) (hk : ∀ s, SSs P nx bk ct (envJ s) rest (k s)) :
    SSs P nx bk ct env (.If c A B pos :: rest) (joinC (fun k => tc.bind fun b => if b = true then rA k else rB k) k) := fun D hr hn hb hc σ H ⟨F, a⟩ => by
  refine .cons (ps_if pt_W pss_W pss_W) ?_
  refine a.evT G h fun b F' H' _ g a' => ?_
  have hj : ∀ e' r', jOf envJ k e' r' → ∀ σ H, At P e' r' σ H → WSs P.X rest D σ H := fun e' r' ⟨s, l, e⟩ σ H ⟨F, a⟩ => by
    subst e
    exact hk s D hr hn hb hc σ H ⟨F, a.weak l⟩
  cases b with
  | true => exact hA { D with nx := fun σ' H' => WSs P.X rest D σ' H' } hr hj hb hc σ H' ⟨F', a'⟩
  | false => exact hB { D with nx := fun σ' H' => WSs P.X rest D σ' H' } hr hj hb hc σ H' ⟨F', a'⟩
/-- an if whose first branch never goes on, without else -/
theorem ss_if1 (G : P.Good) {c : Expr} {A : List Stmt} {tc : R Bool} {rA rB : R α} {pos : Pos} (h : ST P.ca P.X P.W P.H0 env c tc)
    (hA : SSs P jNo bk ct env A rA) (hB : SSs P nx bk ct env rest rB) :
    SSs P nx bk ct env (.If c A [] pos :: rest) (tc.bind fun b => if b = true then rA else rB) := fun D hr hn hb hc σ H ⟨F, a⟩ => by
  refine .cons (ps_if pt_W pss_W pss_W) ?_
  refine a.evT G h fun b F' H' _ g a' => ?_
  cases b with
  | true => exact hA { D with nx := fun σ' H' => WSs P.X rest D σ' H' } hr (fun _ _ z => z.elim) hb hc σ H' ⟨F', a'⟩
  | false => exact ⟨_, pss_nil, hB D hr hn hb hc σ H' ⟨F', a'⟩⟩
/-- both branches end for themselves (the last statement) -/
theorem ss_if2 (G : P.Good) {c : Expr} {A B : List Stmt} {tc : R Bool} {rA rB : R α} {pos : Pos} (h : ST P.ca P.X P.W P.H0 env c tc)
    (hA : SSs P nx bk ct env A rA) (hB : SSs P nx bk ct env B rB) :
    SSs P nx bk ct env [.If c A B pos] (tc.bind fun b => if b = true then rA else rB) := fun D hr hn hb hc σ H ⟨F, a⟩ => by
  refine ⟨_, pss_one (ps_if pt_W pss_W pss_W), ?_⟩
  refine a.evT G h fun b F' H' _ g a' => ?_
  cases b with
  | true => exact hA D hr hn hb hc σ H' ⟨F', a'⟩
  | false => exact hB D hr hn hb hc σ H' ⟨F', a'⟩

/-! ### what is walked -/
def ItOk (K : PySem.W.Frag) (ca : Str → Addr) (H0 F : Hp) (J : It) (ds : List D) : Prop := ∀ F' H', Le F F' → Le F' H' → Le H0 H' →
  (∀ (i : Nat) d, ds[i]? = some d → J.go i H' ∧ ∀ x H'', J.yld i H' x H'' → ∃ F'', Go F' H' F'' H'' ∧ Rep K ca F'' x d) ∧ J.stop ds.length H'
end
def PostI (ca : Str → Addr) (X : Cx) (H0 : Hp) (E : Ek) (F H : Hp) (r : R (List D)) (Q : It → Hp → Prop) : Prop := match r with
  | .ok ds => ∀ J F' H', Go F H F' H' → ItOk X.K ca H0 F' J ds → Q J H'
  | .er x => ∀ F' H', Go F H F' H' → E x F' H'
  | .bad => False
def SI (ca : Str → Addr) (X : Cx) (W : WX) (H0 : Hp) (env : En) (tg it : Expr) (r : R (List D)) : Prop := ∀ F H σ (Q : It → Hp → Prop), Le F H → EnOk X.K ca H0 F H σ env →
  PostI ca X H0 (ekOf X.K ca W σ) F H r Q → WI X tg it σ H Q
section
variable {ca : Str → Addr} {X : Cx} {W : WX} {H0 : Hp} {env : En} {tg it a b c : Expr} {ra rb rc : R D} {p pos : Pos}
theorem PostI.mono {E : Ek} {F H F' H' : Hp} {r : R (List D)} {Q : It → Hp → Prop} (g : Go F H F' H') (h : PostI ca X H0 E F H r Q) : PostI ca X H0 E F' H' r Q := by
  cases r with
  | ok b => exact fun J F2 H2 g2 => h J F2 H2 (g.trans g2)
  | er x => exact fun F2 H2 g2 => h F2 H2 (g.trans g2)
  | bad => exact h
theorem itok_list {F : Hp} {q : Addr} {vs : List V} {ds : List D} (hs : ∀ F' H', Le F F' → Le F' H' → Le H0 H' → SqL X.K H' q vs) (r : Reps X.K ca F vs ds) : ItOk X.K ca H0 F (Itl X.K q) ds := fun F' H' l1 l2 l3 => by
  have h := hs F' H' l1 l2 l3
  refine ⟨fun i d hd => ?_, ⟨vs, h, by rw [r.length]; exact Nat.le_refl _⟩⟩
  obtain ⟨v, h1, h2⟩ := r.get hd
  refine ⟨⟨vs, v, h, h1⟩, fun x H'' ⟨e, f⟩ => ?_⟩
  subst e
  have e2 : x = v := Option.some.inj ((f _ h).symm.trans h1)
  subst e2
  exact ⟨F', Go.refl l2, h2.mono l1⟩
theorem itok_tup {F : Hp} {q : Addr} {vs : List V} {ds : List D} (hs : SqT X.K F q vs) (r : Reps X.K ca F vs ds) : ItOk X.K ca H0 F (Itt X.K q) ds := fun F' H' l1 l2 l3 => by
  have h := l2.t (l1.t hs)
  refine ⟨fun i d hd => ?_, ⟨vs, h, by rw [r.length]; exact Nat.le_refl _⟩⟩
  obtain ⟨v, h1, h2⟩ := r.get hd
  refine ⟨⟨vs, v, h, h1⟩, fun x H'' ⟨e, f⟩ => ?_⟩
  subst e
  have e2 : x = v := Option.some.inj ((f _ h).symm.trans h1)
  subst e2
  exact ⟨F', Go.refl l2, h2.mono l1⟩
def dItems : D → R (List D)
  | .lst xs => .ok xs
  | .scr xs => .ok xs
  | .tup xs => .ok xs
  | _ => .bad
/-- a list or a tuple that is data -/
theorem si_v (h : SE ca X W H0 .v env a ra) : SI ca X W H0 env tg a (ra.bind dItems) := fun F H σ Q le ok hp => by
  cases ra with
  | er x => exact ⟨_, pi_list pe_W, h F H σ _ le ok hp⟩
  | bad => exact hp.elim
  | ok d =>
    cases d with
    | lst xs =>
      refine ⟨_, pi_list pe_W, h F H σ _ le ok fun v F' H' g q => ?_⟩
      cases q with
      | lst h1 r => exact ⟨_, rfl, ⟨_, .inl (.inl (g.fh _ _ h1))⟩, hp _ F' H' g (itok_list (fun F2 H2 l1 l2 _ => .inl (.inl (l2 _ _ (l1 _ _ h1)))) r)⟩
    | scr xs =>
      refine ⟨_, pi_list pe_W, h F H σ _ le ok fun v F' H' g q => ?_⟩
      cases q with
      | scr h1 r => exact ⟨_, rfl, ⟨_, g.fh.l h1⟩, hp _ F' H' g (itok_list (fun F2 H2 l1 l2 _ => l2.l (l1.l h1)) r)⟩
    | tup xs =>
      refine ⟨_, pi_tup pe_W, h F H σ _ le ok fun v F' H' g q => ?_⟩
      cases q with
      | tup h1 r => exact ⟨_, rfl, ⟨_, g.fh.t h1⟩, hp _ F' H' g (itok_tup h1 r)⟩
    | _ => exact hp.elim
/-- a parameter -/
theorem si_b {i : Nat} {x : Str} {d : D} (he : env[i]? = some (some (.b d)) := by rfl) (hN : X.N[i]? = some x := by rfl)
    (hv : Vis X.env.scope x := by first | exact Or.inl rfl | exact Or.inr (Or.inl rfl) | exact Or.inr (Or.inr rfl)) (hd : (x == ("__debug__" : Str)) = false := by decide) (hcd : (x == ("__classdict__" : Str)) = false := by decide) :
    SI ca X W H0 env tg (.Name x pos) (dItems d) := fun F H σ Q le ok hp => by
  obtain ⟨v, h1, h2⟩ := ok.at_ i _ he
  cases d with
  | lst xs =>
    rcases h2 with h | ⟨q, e, ⟨vs, ds, e2, h, r⟩ | ⟨kvs, ks, ds, e2, _⟩⟩
    · cases h with
      | lst h3 r => exact ⟨_, pi_list (pe_var hN hv hd hcd), _, h1, _, rfl, ⟨_, .inl (.inl (le _ _ h3))⟩, hp _ F H (Go.refl le) (itok_list (fun F2 H2 l1 l2 _ => .inl (.inl (l2 _ _ (l1 _ _ h3)))) r)⟩
    · cases e2
      exact ⟨_, pi_list (pe_var hN hv hd hcd), _, h1, _, e, ⟨_, .inl (.inl (ok.h0 _ _ h))⟩, hp _ F H (Go.refl le) (itok_list (fun F2 H2 l1 l2 l3 => .inl (.inl (l3 _ _ h))) r)⟩
    · cases e2
  | scr xs =>
    rcases h2 with h | ⟨q, e, ⟨vs, ds, e2, h, r⟩ | ⟨kvs, ks, ds, e2, _⟩⟩
    · cases h with
      | scr h3 r => exact ⟨_, pi_list (pe_var hN hv hd hcd), _, h1, _, rfl, ⟨_, le.l h3⟩, hp _ F H (Go.refl le) (itok_list (fun F2 H2 l1 l2 _ => l2.l (l1.l h3)) r)⟩
    · cases e2
    · cases e2
  | tup xs =>
    rcases h2 with h | ⟨q, e, ⟨vs, ds, e2, h, r⟩ | ⟨kvs, ks, ds, e2, _⟩⟩
    · cases h with
      | tup h3 r => exact ⟨_, pi_tup (pe_var hN hv hd hcd), _, h1, _, rfl, ⟨_, le.t h3⟩, hp _ F H (Go.refl le) (itok_tup h3 r)⟩
    · cases e2
    · cases e2
  | _ => exact hp.elim
/-! ranges -/
def inR (i : Int) : Prop := -(2 ^ 62) ≤ i ∧ i < 2 ^ 62
instance (i : Int) : Decidable (inR i) := inferInstanceAs (Decidable (_ ∧ _))
def rngD (lo c : Int) (n : Nat) : List D := (List.range n).map fun (i : Nat) => D.int (lo + (i : Int) * c)
theorem rngD_length (lo c : Int) (n : Nat) : (rngD lo c n).length = n := by unfold rngD; rw [List.length_map, List.length_range]
theorem rngD_get {lo c : Int} {n i : Nat} {d : D} (h : (rngD lo c n)[i]? = some d) : i < n ∧ d = .int (lo + (i : Int) * c) := by
  unfold rngD at h
  rw [List.getElem?_map] at h
  obtain ⟨j, h1, h2⟩ := Option.map_eq_some_iff.mp h
  obtain ⟨hl, e⟩ := List.getElem?_eq_some_iff.mp h1
  rw [List.getElem_range] at e
  rw [List.length_range] at hl
  subst e
  exact ⟨hl, h2.symm⟩
theorem itok_rng {F : Hp} {lo : Int} {n : Nat} : ItOk X.K ca H0 F (Itr lo n) (rngD lo 1 n) := fun F' H' l1 l2 l3 => by
  refine ⟨fun i d hd => ?_, by rw [rngD_length]; exact Nat.le_refl n⟩
  obtain ⟨h1, h2⟩ := rngD_get hd
  subst h2
  refine ⟨h1, fun x H'' ⟨e1, e2⟩ => ?_⟩
  subst e1 e2
  rw [Int.mul_one]
  exact ⟨F', Go.refl l2, .int _⟩
theorem itok_rngC {F : Hp} {lo c : Int} {n : Nat} : ItOk X.K ca H0 F (Itc lo c n) (rngD lo c n) := fun F' H' l1 l2 l3 => by
  refine ⟨fun i d hd => ?_, by rw [rngD_length]; exact Nat.le_refl n⟩
  obtain ⟨h1, h2⟩ := rngD_get hd
  subst h2
  refine ⟨h1, fun x H'' ⟨e1, e2⟩ => ?_⟩
  subst e1 e2
  exact ⟨F', Go.refl l2, .int _⟩
def dRng1 : List D → R (List D)
  | [.int n] => if inR n then .ok (rngD 0 1 n.toNat) else .bad
  | _ => .bad
def dRng2 : List D → R (List D)
  | [.int m, .int n] => if inR m ∧ inR n then .ok (rngD m 1 (n - m).toNat) else .bad
  | _ => .bad
def dRng3 : List D → R (List D)
  | [.int m, .int n, .int c] => if inR m ∧ inR n ∧ c = -1 then .ok (rngD m (-1) (m - n).toNat) else .bad
  | _ => .bad
theorem SA.thenI {ms : List Md} {es : List Expr} {r : R (List D)} {k : List D → R (List D)} {F H : Hp} {σ : L2.St} {Q : It → Hp → Prop} {G : List V → Hp → Prop} (h : SA ca X W H0 ms env es r) (le : Le F H) (ok : EnOk X.K ca H0 F H σ env)
    (hp : PostI ca X H0 (ekOf X.K ca W σ) F H (r.bind k) Q)
    (hg : ∀ ds vs F' H', r = .ok ds → Go F H F' H' → ARs X.K ca F' H' ms vs ds → EnOk X.K ca H0 F' H' σ env → PostI ca X H0 (ekOf X.K ca W σ) F' H' (k ds) Q → G vs H') : WA X es σ H G := by
  refine h F H σ G le ok ?_
  cases r with
  | ok d => exact fun v F' H' g q => hg d v F' H' rfl g q (ok.mono g) (hp.mono g)
  | er x => exact hp
  | bad => exact hp
theorem si_r1 {rs : R (List D)} (h : SA ca X W H0 [.r] env [a] rs) (hm : X.mg "range" = none) (hg : Gl X "range" := by rfl)
    (hs : starEach [a] X.env = [(false, eval a X.env)] := by rfl) : SI ca X W H0 env tg (.Call (.Name "range" p) [a] [] pos) (rs.bind dRng1) := fun F H σ Q le ok hp => by
  refine ⟨_, pi_range1 hg hm pa_W hs, h.thenI le ok hp fun ds vs F' H' _ g q _ hp' => ?_⟩
  unfold dRng1 at hp'
  split at hp'
  · split at hp'
    · rename_i hr
      cases q with
      | consR q1 q2 => cases q2; rw [ar_int q1]; exact ⟨_, rfl, hr.1, hr.2, hp' _ F' H' (Go.refl g.fh) itok_rng⟩
    · exact hp'.elim
  · exact hp'.elim
theorem si_r2 {rs : R (List D)} (h : SA ca X W H0 [.r, .r] env [a, b] rs) (hm : X.mg "range" = none) (hg : Gl X "range" := by rfl)
    (hs : starEach [a, b] X.env = [(false, eval a X.env), (false, eval b X.env)] := by rfl) (hs2 : starEach [b] X.env = [(false, eval b X.env)] := by rfl) :
    SI ca X W H0 env tg (.Call (.Name "range" p) [a, b] [] pos) (rs.bind dRng2) := fun F H σ Q le ok hp => by
  refine ⟨_, pi_range2 hg hm pa_W hs hs2, h.thenI le ok hp fun ds vs F' H' _ g q _ hp' => ?_⟩
  unfold dRng2 at hp'
  split at hp'
  · split at hp'
    · rename_i hr
      cases q with
      | consR q1 q2 => cases q2 with | consR q3 q4 => cases q4; rw [ar_int q1, ar_int q3]; exact ⟨_, _, rfl, ⟨hr.1.1, hr.1.2, hr.2.1, hr.2.2⟩, hp' _ F' H' (Go.refl g.fh) itok_rng⟩
    · exact hp'.elim
  · exact hp'.elim
theorem si_r3 {rs : R (List D)} (h : SA ca X W H0 [.r, .r, .r] env [a, b, c] rs) (hm : X.mg "range" = none) (hg : Gl X "range" := by rfl)
    (hs : starEach [a, b, c] X.env = (false, eval a X.env) :: starEach [b, c] X.env := by rfl) (hpl : (backTo pos (starEach [b, c] X.env)).any (·.1) = false := by rfl) :
    SI ca X W H0 env tg (.Call (.Name "range" p) [a, b, c] [] pos) (rs.bind dRng3) := fun F H σ Q le ok hp => by
  refine ⟨_, pi_range3 hg hm pa_W hs hpl, h.thenI le ok hp fun ds vs F' H' _ g q _ hp' => ?_⟩
  unfold dRng3 at hp'
  split at hp'
  · split at hp'
    · rename_i hr
      obtain ⟨h1, h2, rfl⟩ := hr
      cases q with
      | consR q1 q2 => cases q2 with | consR q3 q4 => cases q4 with | consR q5 q6 => cases q6; rw [ar_int q1, ar_int q3, ar_int q5]; exact ⟨_, _, -1, _, rfl, RgC.neg h1.1 h1.2 h2.1 h2.2, hp' _ F' H' (Go.refl g.fh) itok_rngC⟩
    · exact hp'.elim
  · exact hp'.elim
end

/-! ### for -/
def forC {S α : Type} : List D → S → (D → S → (S → R α) → (S → R α) → R α) → (S → R α) → R α
  | [], s, _, after => after s
  | d :: ds, s, body, after => body d s (fun s' => forC ds s' body after) after
def Pt.at {α : Type} (P : Pt α) (F : Hp) : Pt α := { P with F0 := F }
section
variable {α : Type} {P : Pt α} {nx bk ct : Jp α} {env : En} {rest : List Stmt}
theorem go_at {F0 H0 F1 H1 F H : Hp} (a : Go F0 H0 F1 H1) (b : Go F1 H0 F H) : Go F0 H0 F H := ⟨a.f.trans b.f, b.h, b.fh, fun p o h n => b.fr p o h (a.fr p o h n)⟩
theorem Pt.Good.at {F1 H1 : Hp} (G : P.Good) (g : Go P.F0 P.H0 F1 H1) : (P.at F1).Good :=
  ⟨G.nd, G.calm, G.hp, fun d v F H e g2 q => G.rt d v F H e (go_at g g2) q, fun x F H σ e g2 h => G.er x F H σ e (go_at g g2) h, G.nb, G.rb⟩
theorem AtF.up {F1 H1 F H : Hp} {σ : L2.St} {r : R α} (g : Go P.F0 P.H0 F1 H1) (a : AtF (P.at F1) F env r σ H) : AtF P F env r σ H := ⟨go_at g a.go, a.en, a.ho, a.eq⟩
theorem AtF.at {F H : Hp} {σ : L2.St} {r : R α} (a : AtF P F env r σ H) : AtF (P.at F) F env r σ H :=
  ⟨⟨Le.refl F, a.go.h, a.go.fh, fun _ _ _ n => n⟩, a.en, a.ho, a.eq⟩
/-- the core: g stores the item -/
theorem ss_forG (G : P.Good) {S : Type} {tg it : Expr} {body : List Stmt} {ri : R (List D)} {bodyM : D → S → (S → R α) → (S → R α) → R α} {after : S → R α} {pos : Pos} {g : TG} (envL : S → En) (s0 : S)
    (hi : SI P.ca P.X P.W P.H0 env tg it ri) (hg : PG P.X tg g)
    (hst : ∀ F1, (P.at F1).Good → ∀ d s nxt brk, ∀ (D : Ends) σ H F v, D.rt = P.Q → (∀ e' r', jOf envL nxt e' r' → ∀ σ H, At (P.at F1) e' r' σ H → D.nx σ H) → (∀ e' r', jOf envL brk e' r' → ∀ σ H, At (P.at F1) e' r' σ H → D.bk σ H) →
      (∀ e' r', jOf envL nxt e' r' → ∀ σ H, At (P.at F1) e' r' σ H → D.ct σ H) → Rep P.X.K P.ca F v d → AtF (P.at F1) F (envL s) (bodyM d s nxt brk) σ H → g v σ H (fun σ2 H2 => WSs P.X body D σ2 H2))
    (h0 : EnLe (envL s0) env) (hk : ∀ s, SSs P nx bk ct (envL s) rest (after s)) (hs : ∀ x, foldedSetIterable it P.X.env x = pure x := by intro _; rfl) :
    SSs P nx bk ct env (.For tg it body [] pos :: rest) (ri.bind fun ds => forC ds s0 bodyM after) := fun D hr hn hb hc σ H ⟨F, a⟩ => by
  refine .cons (ps_for G.hp G.calm pi_W hg pss_W hs) ?_
  have ae := a.eq
  refine hi F H σ _ a.go.fh a.en ?_
  cases ri with
  | er x => exact fun F' H' g => G.er x F' H' σ ae.symm (a.go.trans g) (a.ho.mono g)
  | bad => exact G.nb ae.symm
  | ok ds =>
    intro J F1 H1 g1 io
    have a1 : AtF P F env (forC ds s0 bodyM after) σ H := ⟨a.go, a.en, a.ho, ae⟩
    have a1 := (a1.mono g1).weak h0
    have g01 := a1.go
    have G1 := G.at g01
    refine ⟨fun i m σ H => m = ds.length - i ∧ i ≤ ds.length ∧ ∃ s, ∃ F2, AtF (P.at F1) F2 (envL s) (forC (ds.drop i) s bodyM after) σ H, ⟨ds.length, by omega, Nat.zero_le _, s0, F1, a1.at⟩, ?_⟩
    rintro i m σ2 H2 ⟨rfl, hi2, s, F2, a2⟩
    have io2 := io F2 H2 a2.go.f a2.go.fh a2.en.h0
    by_cases hlt : i < ds.length
    · refine .inr ?_
      have hd : ds[i]? = some ds[i] := List.getElem?_eq_getElem hlt
      obtain ⟨hgo, hy⟩ := io2.1 i _ hd
      refine ⟨hgo, fun σ' H' => i + 1 ≤ ds.length ∧ ∃ s, ∃ F2, AtF (P.at F1) F2 (envL s) (forC (ds.drop (i + 1)) s bodyM after) σ' H', fun σ' H' ⟨h1, h2⟩ => ⟨_, by omega, rfl, h1, h2⟩, fun x H3 hyd => ?_⟩
      obtain ⟨F3, g3, q3⟩ := hy x H3 hyd
      have a3 := a2.mono g3
      have e3 : forC (ds.drop i) s bodyM after = bodyM ds[i] s (fun s' => forC (ds.drop (i + 1)) s' bodyM after) after := by
        rw [List.drop_eq_getElem_cons hlt]; rfl
      rw [e3] at a3
      refine hst F1 G1 ds[i] s (fun s' => forC (ds.drop (i + 1)) s' bodyM after) after _ σ2 H3 F3 x hr ?_ ?_ ?_ q3 a3
      · rintro e' r' ⟨s', l, rfl⟩ σ4 H4 ⟨F4, a4⟩
        exact ⟨hlt, s', F4, a4.weak l⟩
      · rintro e' r' ⟨s', l, rfl⟩ σ4 H4 ⟨F4, a4⟩
        exact hk s' D hr hn hb hc σ4 H4 ⟨F4, (a4.weak l).up g01⟩
      · rintro e' r' ⟨s', l, rfl⟩ σ4 H4 ⟨F4, a4⟩
        exact ⟨hlt, s', F4, a4.weak l⟩
    · have e : i = ds.length := by omega
      subst e
      refine .inl ⟨io2.2, ?_⟩
      rw [List.drop_length] at a2
      exact hk s D hr hn hb hc σ2 H2 ⟨F2, a2.up g01⟩
theorem ss_for (G : P.Good) {S : Type} {x : Str} {it : Expr} {body : List Stmt} {ri : R (List D)} {bodyM : D → S → (S → R α) → (S → R α) → R α} {after : S → R α} {pos pos' : Pos} {j : Nat} (envL : S → En) (s0 : S)
    (hi : SI P.ca P.X P.W P.H0 env (.Name x pos') it ri)
    (hb : ∀ F1, (P.at F1).Good → ∀ d s nxt brk, SSs (P.at F1) (jOf envL nxt) (jOf envL brk) (jOf envL nxt) ((envL s).set j (some (.d d))) body (bodyM d s nxt brk))
    (h0 : EnLe (envL s0) env) (hk : ∀ s, SSs P nx bk ct (envL s) rest (after s)) (hs : ∀ x, foldedSetIterable it P.X.env x = pure x := by intro _; rfl)
    (hj : P.X.N[j]? = some x := by rfl) (hx : Loc P.X.env.scope x := by first | exact .inl rfl | exact .inr rfl) (hh : noH P.envH j = true := by rfl)
    (hf : P.X.fn x = true ∨ P.X.env.scope.names.lookup x = some .local := by first | exact .inl rfl | exact .inr rfl) :
    SSs P nx bk ct env (.For (.Name x pos') it body [] pos :: rest) (ri.bind fun ds => forC ds s0 bodyM after) :=
  ss_forG G envL s0 hi (pg_name G.nd hj hx hf) (fun F1 G1 d s nxt brk D σ H F v hr hn hbk hc q a => hb F1 G1 d s nxt brk D hr hn hbk hc _ _ ⟨F, a.go, a.en.setD q, a.ho.set hh, a.eq⟩) h0 hk hs
def unp2 {β : Type} (d : D) (k : D → D → R β) : R β := match d with
  | .tup [a, b] => k a b
  | _ => .bad
def unp3 {β : Type} (d : D) (k : D → D → D → R β) : R β := match d with
  | .tup [a, b, c] => k a b c
  | _ => .bad

/-! ### while -/
def whileC {S α : Type} : Nat → S → (S → R Bool) → (S → (S → R α) → (S → R α) → R α) → (S → R α) → R α
  | 0, _, _, _, _ => .bad
  | n + 1, s, c, body, after => (c s).bind fun b => if b = true then body s (fun s' => whileC n s' c body after) after else after s
theorem ss_while (G : P.Good) {S : Type} {c : Expr} {body : List Stmt} {cM : S → R Bool} {bodyM : S → (S → R α) → (S → R α) → R α} {after : S → R α} {pos : Pos} {n : Nat} (envL : S → En) (s0 : S)
    (hc : ∀ s, ST P.ca P.X P.W P.H0 (envL s) c (cM s))
    (hb : ∀ s nxt brk, SSs P (jOf envL nxt) (jOf envL brk) (jOf envL nxt) (envL s) body (bodyM s nxt brk))
    (h0 : EnLe (envL s0) env) (hk : ∀ s, SSs P nx bk ct (envL s) rest (after s)) :
    SSs P nx bk ct env (.While c body [] pos :: rest) (whileC n s0 cM bodyM after) := fun D hr hn hbk hct σ H ⟨F, a⟩ => by
  refine .cons (ps_while G.hp pt_W pss_W) ?_
  refine ⟨fun m σ H => ∃ s F, AtF P F (envL s) (whileC m s cM bodyM after) σ H, ⟨n, s0, F, a.weak h0⟩, ?_⟩
  rintro m σ2 H2 ⟨s, F2, a2⟩
  cases m with
  | zero => exact absurd a2.eq.symm G.nb
  | succ m =>
    have a3 : AtF P F2 (envL s) ((cM s).bind fun b => if b = true then bodyM s (fun s' => whileC m s' cM bodyM after) after else after s) σ2 H2 := ⟨a2.go, a2.en, a2.ho, a2.eq⟩
    refine a3.evT G (hc s) fun b F' H' _ g a' => ?_
    cases b with
    | false => exact hk s D hr hn hbk hct σ2 H' ⟨F', a'⟩
    | true =>
      refine ⟨fun σ' H' => ∃ s F, AtF P F (envL s) (whileC m s cM bodyM after) σ' H', fun σ' H' h => ⟨m, Nat.lt_succ_self m, h⟩, ?_⟩
      refine hb s (fun s' => whileC m s' cM bodyM after) after { nx := fun σ' H' => ∃ s F, AtF P F (envL s) (whileC m s cM bodyM after) σ' H', rt := D.rt, bk := fun σ' H' => WSs P.X rest D σ' H', ct := fun σ' H' => ∃ s F, AtF P F (envL s) (whileC m s cM bodyM after) σ' H' } hr ?_ ?_ ?_ σ2 H' ⟨F', a'⟩
      · rintro e' r' ⟨s', l, rfl⟩ σ4 H4 ⟨F4, a4⟩
        exact ⟨s', F4, a4.weak l⟩
      · rintro e' r' ⟨s', l, rfl⟩ σ4 H4 ⟨F4, a4⟩
        exact hk s' D hr hn hbk hct σ4 H4 ⟨F4, a4.weak l⟩
      · rintro e' r' ⟨s', l, rfl⟩ σ4 H4 ⟨F4, a4⟩
        exact ⟨s', F4, a4.weak l⟩
end
end Um

namespace Um
open L2 PySem PySem.Spec PyProof.Rows

/-! ## Comprehensions -/
def noEr {β : Type} : R β → R β
  | .er _ => .bad
  | r => r
@[simp] theorem noEr_ok {β : Type} (a : β) : noEr (.ok a) = .ok a := rfl
def compC : List D → (D → R Bool) → (D → R D) → R (List D)
  | [], _, _ => .ok []
  | d :: ds, c, e => (noEr (c d)).bind fun b => if b = true then (noEr (e d)).bind fun x => (compC ds c e).bind fun xs => .ok (x :: xs) else compC ds c e
def yes : D → R Bool := fun _ => .ok true
abbrev W0 : WX := fun _ _ _ _ => False
abbrev BX (X : Cx) (s : Shared) (H : Hp) (scope : Scope) (C : Addr) (cl : List (Str × Addr)) (fp : List Addr) : Cx := X.blk s H scope (compEnvC scope cl C X.env) fp
def wipeE (env : En) : List Nat → En
  | [] => env
  | v :: vs => (wipeE env vs).set v none
section
variable {K : PySem.W.Frag} {ca : Str → Addr} {X : Cx} {W : WX} {H0 F H : Hp} {env : En} {σ : L2.St}
theorem EnOk.setN {i : Nat} (h : EnOk K ca H0 F H σ env) : EnOk K ca H0 F H (σ.set i none) (env.set i none) := by
  refine ⟨h.h0, by rw [List.length_set, List.length_set, h.len], fun j s hj => ?_, fun j k x y hj hk e => ?_⟩
  · rcases set_some hj with ⟨_, e⟩ | ⟨ne, hj'⟩
    · cases e
    · obtain ⟨u, h1, h2⟩ := h.at_ j s hj'
      exact ⟨u, by rw [List.getElem?_set_ne ne]; exact h1, h2⟩
  · rcases set_some hj with ⟨_, e1⟩ | ⟨n1, hj'⟩
    · cases e1
    · rcases set_some hk with ⟨_, e2⟩ | ⟨n2, hk'⟩
      · cases e2
      · rw [List.getElem?_set_ne n1, List.getElem?_set_ne n2] at e
        exact h.own j k x y hj' hk' e
theorem EnOk.wipe (h : EnOk K ca H0 F H σ env) : ∀ vs : List Nat, EnOk K ca H0 F H (L2.wipe σ vs) (wipeE env vs)
  | [] => h
  | v :: vs => (EnOk.wipe h vs).setN
/-- the tests of a comprehension -/
def WTs (X : Cx) (ifs : List Expr) : TT := fun σ H Q => ∃ t, PTs X ifs t ∧ t σ H Q
def STs (ca : Str → Addr) (X : Cx) (W : WX) (H0 : Hp) (env : En) (ifs : List Expr) (r : R Bool) : Prop := ∀ F H σ Q, Le F H → EnOk X.K ca H0 F H σ env → PostB (ekOf X.K ca W σ) F H r Q → WTs X ifs σ H Q
theorem sts_nil : STs ca X W H0 env [] (.ok true) := fun F H σ Q le ok hp => ⟨_, pts_nil, hp F H (Go.refl le)⟩
theorem sts_one {c : Expr} {tc : R Bool} (h : ST ca X W H0 env c tc) : STs ca X W H0 env [c] tc := fun F H σ Q le ok hp => ⟨_, pts_one pt_W, h F H σ Q le ok hp⟩
/-- a comprehension's reading -/
def lcT (X : Cx) (scope : Scope) (elt : Expr) : TE := fun σ H Q => ∀ (s : Shared) (Hb : Hp) (C : Addr) (cl : List (Str × Addr)) (fp : List Addr), Um.WE (BX X s Hb scope C cl fp) elt σ H Q
def lcTT (X : Cx) (scope : Scope) (ifs : List Expr) : TT := fun σ H Q => ∀ (s : Shared) (Hb : Hp) (C : Addr) (cl : List (Str × Addr)) (fp : List Addr), WTs (BX X s Hb scope C cl fp) ifs σ H Q
theorem lcT_ok {scope : Scope} {elt : Expr} (s : Shared) (Hb : Hp) (C : Addr) (cl : List (Str × Addr)) (fp : List Addr) : PE (BX X s Hb scope C cl fp) elt (lcT X scope elt) := ⟨fun pins s1 σ H Q I h => by
  obtain ⟨t, p, q⟩ := h s Hb C cl fp
  exact p.run pins s1 σ H Q I q⟩
theorem lcTT_ok {scope : Scope} {ifs : List Expr} (s : Shared) (Hb : Hp) (C : Addr) (cl : List (Str × Addr)) (fp : List Addr) : PTs (BX X s Hb scope C cl fp) ifs (lcTT X scope ifs) := ⟨fun pins s1 σ H Q I h => by
  obtain ⟨t, p, q⟩ := h s Hb C cl fp
  exact p.run pins s1 σ H Q I q⟩
theorem compC_noer {c : D → R Bool} {e : D → R D} {z : Exc} : ∀ {ds : List D}, compC ds c e = .er z → False
  | [], h => by cases h
  | d :: ds, h => by
    unfold compC at h
    cases hc : c d with
    | er y => rw [hc] at h; cases h
    | bad => rw [hc] at h; cases h
    | ok b =>
      rw [hc] at h
      cases b with
      | false => exact compC_noer h
      | true =>
        have h' : ((noEr (e d)).bind fun x => (compC ds c e).bind fun xs => .ok (x :: xs)) = .er z := h
        cases he : e d with
        | er y => rw [he] at h'; cases h'
        | bad => rw [he] at h'; cases h'
        | ok x =>
          rw [he] at h'
          cases hq : compC ds c e with
          | er y => exact compC_noer hq
          | bad => rw [hq] at h'; cases h'
          | ok xs => rw [hq] at h'; cases h'
def finC (xs : List D) : R D := if short xs then .ok (.lst xs) else .bad
/-- the item goes to one name -/
theorem lc_reading {x : Str} {px : Pos} {j : Nat} {it elt : Expr} {ifs : List Expr} {scope : Scope} {ri : R (List D)} {cM : D → R Bool} {eM : D → R D}
    (hi : SI ca X W H0 env (.Name x px) it ri)
    (hc : ∀ d s Hb C cl fp, STs ca (BX X s Hb scope C cl fp) W0 H0 ((env.set j none).set j (some (.d d))) ifs (cM d))
    (he : ∀ d s Hb C cl fp, SE ca (BX X s Hb scope C cl fp) W0 H0 .v ((env.set j none).set j (some (.d d))) elt (eM d)) :
    ∀ F H σ Q, Le F H → EnOk X.K ca H0 F H σ env → Post X.K ca .o (ekOf X.K ca W σ) F H (ri.bind fun ds => (compC ds cM eM).bind finC) Q →
      tLc (WI X (.Name x px) it) (gName j) (lcTT X scope ifs) (lcT X scope elt) [j] σ H Q := fun F H σ Q le ok hp => by
  refine hi F H σ _ le ok ?_
  cases ri with
  | er x => exact hp
  | bad => exact hp.elim
  | ok ds =>
    intro J F1 H1 g1 io Dl hD
    have hp1 : Post X.K ca .o (ekOf X.K ca W σ) F1 H1 ((compC ds cM eM).bind finC) Q := Post.mono g1 hp
    have ok1 := ok.mono g1
    have nb : (compC ds cM eM).bind finC ≠ .bad := fun z => by rw [z] at hp1; exact hp1
    have hF1 : F1 Dl = none := g1.fh.free hD
    refine ⟨fun i m H' => m = ds.length - i ∧ i ≤ ds.length ∧ ∃ F2 vs acc, Go F1 H1 F2 H' ∧ F2 Dl = none ∧ H' Dl = some (.lst vs) ∧ Reps X.K ca F2 vs acc ∧ (((compC (ds.drop i) cM eM).bind fun xs => finC (acc ++ xs)) = (compC ds cM eM).bind finC), ?_, ?_⟩
    · refine ⟨ds.length, by omega, Nat.zero_le _, F1, [], [], ⟨Le.refl F1, Le.new hD, g1.fh.trans (Le.new hD), fun _ _ _ n => n⟩, hF1, upd_same, .nil, rfl⟩
    · rintro i m H' ⟨rfl, hil, F2, ws, acc, g2, hn, hl, r, eq⟩
      have io2 := io F2 H' g2.f g2.fh (ok1.h0.trans g2.h)
      by_cases hlt : i < ds.length
      · refine .inr ?_
        have hd : ds[i]? = some ds[i] := List.getElem?_eq_getElem hlt
        obtain ⟨hgo, hy⟩ := io2.1 i _ hd
        refine ⟨hgo, fun H' => i + 1 ≤ ds.length ∧ ∃ F2 vs acc, Go F1 H1 F2 H' ∧ F2 Dl = none ∧ H' Dl = some (.lst vs) ∧ Reps X.K ca F2 vs acc ∧ (((compC (ds.drop (i + 1)) cM eM).bind fun xs => finC (acc ++ xs)) = (compC ds cM eM).bind finC), fun H' ⟨a, b⟩ => ⟨_, by omega, rfl, a, b⟩, fun v H3 hyd => ?_⟩
        obtain ⟨F3, g3, q3⟩ := hy v H3 hyd
        have g13 := g2.trans g3
        have hn3 : F3 Dl = none := g3.fr Dl _ hl hn
        have hl3 := g3.h _ _ hl
        have r3 := r.mono g3.f
        have ok3 : EnOk X.K ca H0 F3 H3 ((L2.wipe σ [j]).set j (some v)) ((env.set j none).set j (some (.d ds[i]))) := ((ok1.mono g13).wipe [j]).setD q3
        show L2.wipe ((L2.wipe σ [j]).set j (some v)) [j] = L2.wipe σ [j] ∧ lcTT X scope ifs ((L2.wipe σ [j]).set j (some v)) H3 _
        refine ⟨by show (((σ.set j none).set j (some v)).set j none) = σ.set j none; rw [List.set_set, List.set_set], fun s Hb C cl fp => ?_⟩
        rw [List.drop_eq_getElem_cons hlt] at eq
        have eq' : ((noEr (cM ds[i])).bind fun b => if b = true then (noEr (eM ds[i])).bind fun x => (compC (ds.drop (i + 1)) cM eM).bind fun xs => finC (acc ++ (x :: xs)) else (compC (ds.drop (i + 1)) cM eM).bind fun xs => finC (acc ++ xs)) = (compC ds cM eM).bind finC := by
          rw [← eq]
          show _ = (((noEr (cM ds[i])).bind fun b => if b = true then (noEr (eM ds[i])).bind fun x => (compC (ds.drop (i + 1)) cM eM).bind fun xs => .ok (x :: xs) else compC (ds.drop (i + 1)) cM eM).bind fun xs => finC (acc ++ xs))
          cases noEr (cM ds[i]) with
          | ok b =>
            cases b with
            | true =>
              show (noEr (eM ds[i])).bind _ = ((noEr (eM ds[i])).bind _).bind _
              cases noEr (eM ds[i]) with
              | ok x =>
                show (compC _ cM eM).bind _ = ((compC _ cM eM).bind _).bind _
                cases compC (ds.drop (i + 1)) cM eM <;> rfl
              | er x => rfl
              | bad => rfl
            | false => rfl
          | er x => rfl
          | bad => rfl
        refine hc ds[i] s Hb C cl fp F3 H3 _ _ g13.fh ok3 ?_
        cases hcd : cM ds[i] with
        | er z => rw [hcd] at eq'; exact absurd eq'.symm nb
        | bad => rw [hcd] at eq'; exact absurd eq'.symm nb
        | ok b =>
          rw [hcd] at eq'
          intro F4 H4 g4
          have hn4 : F4 Dl = none := g4.fr Dl _ hl3 hn3
          cases b with
          | false => exact ⟨hlt, F4, ws, acc, g13.trans g4, hn4, g4.h _ _ hl3, r3.mono g4.f, eq'⟩
          | true =>
            intro s Hb C cl fp
            refine he ds[i] s Hb C cl fp F4 H4 _ _ g4.fh (ok3.mono g4) ?_
            cases hed : eM ds[i] with
            | er z => rw [hed] at eq'; exact absurd eq'.symm nb
            | bad => rw [hed] at eq'; exact absurd eq'.symm nb
            | ok y =>
              rw [hed] at eq'
              intro w F5 H5 g5 q5
              have hn5 : F5 Dl = none := g5.fr Dl _ (g4.h _ _ hl3) hn4
              have g15 := (g13.trans g4).trans g5
              have eq2 : ((compC (ds.drop (i + 1)) cM eM).bind fun xs => finC (acc ++ [y] ++ xs)) = (compC ds cM eM).bind finC := by
                rw [← eq']
                show _ = (compC (ds.drop (i + 1)) cM eM).bind fun xs => finC (acc ++ (y :: xs))
                simp only [List.append_assoc, List.singleton_append]
              refine ⟨ws, g5.h _ _ (g4.h _ _ hl3), ?_, hlt, F5, ws ++ [w], acc ++ [y], ⟨g15.f, fun a u e => ?_, fun a u e => ?_, g15.fr⟩, hn5, upd_same, (r3.mono (g4.f.trans g5.f)).snoc q5, eq2⟩
              · rw [r.length]
                cases hq : compC (ds.drop (i + 1)) cM eM with
                | er z =>
                  -- no error comes out of a comprehension
                  rw [hq] at eq2
                  exact absurd eq2.symm (fun z2 => by rw [z2] at hp1; exact (compC_noer (z := z) hq).elim)
                | bad => rw [hq] at eq2; exact absurd eq2.symm nb
                | ok xs =>
                  rw [hq] at eq2
                  have e3 : finC (acc ++ [y] ++ xs) = (compC ds cM eM).bind finC := eq2
                  unfold finC at e3
                  split at e3
                  · rename_i hs
                    unfold short at hs
                    rw [List.length_append, List.length_append, List.length_singleton] at hs
                    omega
                  · exact absurd e3.symm nb
              · rw [upd_ne (ne_of_none e hD)]; exact g15.h a u e
              · rw [upd_ne (ne_of_none e hn5)]; exact g15.fh a u e
      · have e : i = ds.length := by omega
        subst e
        refine .inl ⟨io2.2, ?_⟩
        rw [List.drop_length] at eq
        have e2 : finC acc = (compC ds cM eM).bind finC := by rw [← eq]; show _ = finC (acc ++ []); rw [List.append_nil]
        rw [← e2] at hp1 nb
        unfold finC at hp1 nb
        split at hp1
        · exact hp1 _ F2 H' g2 ⟨Dl, rfl, hD, hn, .inl ⟨ws, acc, rfl, hl, r⟩⟩
        · exact hp1.elim
end
end Um

namespace Um
open L2 PySem PySem.Spec PyProof.Rows
section
variable {ca : Str → Addr} {X : Cx} {W : WX} {H0 : Hp} {env : En}
theorem se_comp {x : Str} {px pos : Pos} {j : Nat} {it elt : Expr} {ifs : List Expr} {scope : Scope} {ri : R (List D)} {cM : D → R Bool} {eM : D → R D} (hN : X.N.Nodup) (hcm : X.calm = true)
    (ok : BlkOk X.N X.env.scope scope [(x, j)]) (hi : SI ca X W H0 env (.Name x px) it ri)
    (hc : ∀ d s Hb C cl fp, STs ca (BX X s Hb scope C cl fp) W0 H0 ((env.set j none).set j (some (.d d))) ifs (cM d))
    (he : ∀ d s Hb C cl fp, SE ca (BX X s Hb scope C cl fp) W0 H0 .v ((env.set j none).set j (some (.d d))) elt (eM d))
    (hj : X.N[j]? = some x := by rfl) (hx : ∀ s Hb C cl fp, Loc (BX X s Hb scope C cl fp).env.scope x := by intro s Hb C cl fp; first | exact .inl rfl | exact .inr rfl) (hf : ∀ s Hb C cl fp, (BX X s Hb scope C cl fp).fn x = true ∨ (BX X s Hb scope C cl fp).env.scope.names.lookup x = some .local := by intro s Hb C cl fp; first | exact .inr rfl | exact .inl rfl)
    (hs : ∀ x, foldedSetIterable it X.env x = pure x := by intro _; rfl) :
    SE ca X W H0 .o env (.ListComp elt [⟨.Name x px, it, ifs, 0⟩] scope pos) (ri.bind fun ds => (compC ds cM eM).bind finC) := fun F H σ Q le okE hp =>
  ⟨_, pe_lc (own := [(x, j)]) hcm hN pi_W ok (fun s H C cl fp => pg_name (X := BX X s H scope C cl fp) hN hj (hx s H C cl fp) (hf s H C cl fp)) (fun s H C cl fp => lcTT_ok s H C cl fp) (fun s H C cl fp => lcT_ok s H C cl fp) hs, lc_reading hi hc he F H σ Q le okE hp⟩
end
section
variable {α : Type} {P : Pt α} {nx bk ct : Jp α} {env : En} {rest : List Stmt}
/-- y = [e for x in it if ..], y a local of the frame -/
theorem ss_setLcO (G : P.Good) {i : Nat} {y x : Str} {py px pos spos : Pos} {j : Nat} {it elt : Expr} {ifs : List Expr} {scope : Scope} {ri : R (List D)} {cM : D → R Bool} {eM : D → R D} {k : D → R α}
    (ok : BlkOk P.X.N P.X.env.scope scope [(x, j)]) (hi : SI P.ca P.X P.W P.H0 env (.Name x px) it ri)
    (hc : ∀ d s Hb C cl fp, STs P.ca (BX P.X s Hb scope C cl fp) W0 P.H0 ((env.set j none).set j (some (.d d))) ifs (cM d))
    (he : ∀ d s Hb C cl fp, SE P.ca (BX P.X s Hb scope C cl fp) W0 P.H0 .v ((env.set j none).set j (some (.d d))) elt (eM d))
    (hk : ∀ d, SSs P nx bk ct (env.set i (some (.o d))) rest (k d))
    (hy : P.X.N[i]? = some y := by rfl) (hyl : P.X.env.scope.names.lookup y = some .local := by rfl) (hh : noH P.envH i = true := by rfl)
    (hsw : swapsWith (.ListComp elt [⟨.Name x px, it, ifs, 0⟩] scope pos) (some (.Name y py)) spos.line P.X.env = pure true := by exact sw_true rfl rfl rfl (by decide +kernel))
    (hj : P.X.N[j]? = some x := by rfl) (hx : ∀ s Hb C cl fp, Loc (BX P.X s Hb scope C cl fp).env.scope x := by intro s Hb C cl fp; first | exact .inl rfl | exact .inr rfl) (hf : ∀ s Hb C cl fp, (BX P.X s Hb scope C cl fp).fn x = true ∨ (BX P.X s Hb scope C cl fp).env.scope.names.lookup x = some .local := by intro s Hb C cl fp; first | exact .inr rfl | exact .inl rfl)
    (hs : ∀ x, foldedSetIterable it P.X.env x = pure x := by intro _; rfl) :
    SSs P nx bk ct env (.Assign [.Name y py] (.ListComp elt [⟨.Name x px, it, ifs, 0⟩] scope pos) spos :: rest) ((ri.bind fun ds => (compC ds cM eM).bind finC).bind k) := fun D hr hn hb hct σ H ⟨F, a⟩ => by
  refine .cons (ps_setLc (own := [(x, j)]) G.calm G.nd hy hyl hsw pi_W ok (fun s H C cl fp => pg_name (X := BX P.X s H scope C cl fp) G.nd hj (hx s H C cl fp) (hf s H C cl fp)) (fun s H C cl fp => lcTT_ok s H C cl fp) (fun s H C cl fp => lcT_ok s H C cl fp) hs) ?_
  refine lc_reading (W := P.W) (Q := fun v H' => WSs P.X rest D (σ.set i (some v)) H') hi hc he F H σ a.go.fh a.en ?_
  have ae := a.eq
  cases hq : (ri.bind fun ds => (compC ds cM eM).bind finC) with
  | er z =>
    rw [hq] at ae
    exact fun F' H' g => G.er z F' H' σ ae.symm (a.go.trans g) (a.ho.mono g)
  | bad => rw [hq] at ae; exact G.nb ae.symm
  | ok d =>
    rw [hq] at ae
    intro v F' H' g q
    obtain ⟨p, e1, n, f, o⟩ := q
    subst e1
    have a' := (⟨a.go, a.en, a.ho, ae⟩ : AtF P F env (k d) σ H).mono g
    exact hk d D hr hn hb hct _ _ ⟨F', a'.go, a'.en.setO (Hb := H) (own_ne a.en n) (a.en.h0.free n) f o, a'.ho.set hh, a'.eq⟩
/-! ### a list of one's own changes -/
def lstOf (x : D) : R (List D) := match x with
  | .lst xs => .ok xs
  | _ => .bad
@[simp] theorem lstOf_lst (xs : List D) : lstOf (.lst xs) = .ok xs := rfl
def dApp (xs : List D) (d : D) : R D := if xs.length < sizeLine then .ok (.lst (xs ++ [d])) else .bad
theorem ownLst {K : PySem.W.Frag} {ca : Str → Addr} {F H : Hp} {p : Addr} {xs : List D} (o : OwnAt K ca F H p (.lst xs)) : ∃ vs, H p = some (.lst vs) ∧ Reps K ca F vs xs := by
  rcases o with ⟨vs, ds, e, h, r⟩ | ⟨kvs, ks, ds, e, h, q, r⟩
  · cases e; exact ⟨vs, h, r⟩
  · cases e
theorem lstOf_ok {x : D} {k : List D → R α} (h : (lstOf x).bind k ≠ .bad) : ∃ xs, x = .lst xs := by
  cases x with
  | lst xs => exact ⟨xs, rfl⟩
  | _ => exact absurd rfl h
/-- behind e, the list changes -/
theorem AtF.mut {F H : Hp} {σ : L2.St} {i : Nat} {p : Addr} {x d : D} {ob : HO} {r : R α} (a : AtF P F env r σ H) (he : env[i]? = some (some (.o x))) (hs : σ[i]? = some (some (.ref p))) (n : P.H0 p = none) (f : F p = none) (o : OwnAt P.X.K P.ca F (upd H p ob) p d) :
    AtF P F (env.set i (some (.o d))) r σ (upd H p ob) := by
  refine ⟨⟨a.go.f, fun b u e => ?_, fun b u e => ?_, a.go.fr⟩, a.en.mut he hs n f o, a.ho, a.eq⟩
  · rw [upd_ne (ne_of_none e n)]; exact a.go.h b u e
  · rw [upd_ne (ne_of_none e f)]; exact a.go.fh b u e
theorem ss_app (G : P.Good) {i : Nat} {x : Str} {e : Expr} {re : R D} {k : D → R α} {d0 : D} {px apos cpos pos : Pos} (h : SE P.ca P.X P.W P.H0 .v env e re) (he : env[i]? = some (some (.o d0)) := by rfl)
    (hk : ∀ d, SSs P nx bk ct (env.set i (some (.o d))) rest (k d)) (hN : P.X.N[i]? = some x := by rfl)
    (hv : Vis P.X.env.scope x := by first | exact Or.inl rfl | exact Or.inr (Or.inl rfl) | exact Or.inr (Or.inr rfl)) (hd : (x == ("__debug__" : Str)) = false := by decide) (hcd : (x == ("__classdict__" : Str)) = false := by decide)
    (hs : starEach [e] P.X.env = (false, eval e P.X.env) :: starEach [] P.X.env := by rfl)
    (hbase : attributeBase (.Name x px) "append" P.X.env (eval (.Name x px) P.X.env) = eval (.Name x px) P.X.env := by rfl)
    (hfew : ((backTo cpos (starEach [e] P.X.env)).all (fun x => !x.1) && (backToKw cpos (keywordEach [] P.X.env)).all (fun x => x.1.isSome)
      && decide ([e].length + ([] : List Keyword).length + (if ([] : List Keyword).isEmpty then 0 else 1) < 30)) = true := by rfl)
    (hline : (apos.endLine == cpos.line) = true := by rfl) (hplain : (backTo cpos (starEach [] P.X.env)).any (·.1) = false := by rfl) :
    SSs P nx bk ct env (.Expr (.Call (.Attribute (.Name x px) "append" apos) [e] [] cpos) pos :: rest) ((lstOf d0).bind fun xs => re.bind fun d => (dApp xs d).bind k) := fun D hr hn hb hct σ H ⟨F, a⟩ => by
  obtain ⟨v, h1, p, e1, n, f, o⟩ := a.en.at_ i _ he
  subst e1
  obtain ⟨xs, rfl⟩ := lstOf_ok (by rw [a.eq]; exact G.nb)
  refine .cons (ps_expr (pe_bm PySem.F.plainAttrs_list PySem.F.slot_list_append PySem.F.type_list_append mt_append (pe_var hN hv hd hcd) (pa_cons pe_W pa_nil hs) hbase hfew hline hs hplain)) ?_
  obtain ⟨vs, hl, r⟩ := ownLst o
  refine ⟨_, h1, .inl ⟨rfl, vs, .inl (.inl hl)⟩, ?_⟩
  have a0 : AtF P F env (re.bind fun d => (dApp xs d).bind k) σ H := ⟨a.go, a.en, a.ho, a.eq⟩
  refine a0.ev G h fun d w F' H' _ g q a' => ?_
  have ae := a'.eq
  unfold dApp at ae
  split at ae
  · rename_i hz
    refine ⟨p, vs, w, rfl, rfl, g.h _ _ hl, by rw [r.length]; exact hz, ?_⟩
    exact hk _ D hr hn hb hct σ _ ⟨F', (⟨a'.go, a'.en, a'.ho, ae⟩ : AtF P F' env (k (.lst (xs ++ [d]))) σ H').mut he h1 n (g.fr p _ hl f) (.inl ⟨_, _, rfl, upd_same, (r.mono g.f).snoc q⟩)⟩
  · exact absurd ae.symm G.nb
/-- x[i] = e -/
def dSet (xs : List D) (i d : D) : R D := match i with
  | .int k => match ixN xs.length k with
    | some j => .ok (.lst (xs.set j d))
    | none => .bad
  | _ => .bad
theorem ss_setIx (G : P.Good) {i : Nat} {x : Str} {e ix : Expr} {re ri : R D} {k : D → R α} {d0 : D} {px tpos pos : Pos} (h : SE P.ca P.X P.W P.H0 .v env e re) (hi : SE P.ca P.X P.W P.H0 .r env ix ri) (he : env[i]? = some (some (.o d0)) := by rfl)
    (hk : ∀ d, SSs P nx bk ct (env.set i (some (.o d))) rest (k d)) (hN : P.X.N[i]? = some x := by rfl)
    (hv : Vis P.X.env.scope x := by first | exact Or.inl rfl | exact Or.inr (Or.inl rfl) | exact Or.inr (Or.inr rfl)) (hd : (x == ("__debug__" : Str)) = false := by decide) (hcd : (x == ("__classdict__" : Str)) = false := by decide)
    (ha : ∀ v, assign (.Subscript (.Name x px) ix tpos) P.X.env v = (do
      let ov ← holding [v] (eval (.Name x px) P.X.env)
      let iv ← holding [v, ov] (eval ix P.X.env)
      PySem.standAt tpos
      holding [v, ov, iv] (setItem ov iv v)
      release [v, ov, iv] []) := by intro _; rfl)
    (hs1 : swapsWithSole [.Subscript (.Name x px) ix tpos] e pos.line P.X.env = pure false := by rfl) (hw : swappedStores [.Subscript (.Name x px) ix tpos] e P.X.env = pure none := by rfl)
    (h1 : (assignEach [.Subscript (.Name x px) ix tpos] P.X.env).map (·.2) = [assign (.Subscript (.Name x px) ix tpos) P.X.env] := by rfl) :
    SSs P nx bk ct env (.Assign [.Subscript (.Name x px) ix tpos] e pos :: rest) ((lstOf d0).bind fun xs => re.bind fun d => ri.bind fun j => (dSet xs j d).bind k) := fun D hr hn hb hct σ H ⟨F, a⟩ => by
  obtain ⟨v, hs, p, e1, n, f, o⟩ := a.en.at_ i _ he
  subst e1
  obtain ⟨xs, rfl⟩ := lstOf_ok (by rw [a.eq]; exact G.nb)
  refine .cons (ps_asg pe_W (pg_sub (pe_var hN hv hd hcd) pe_W set_list ha) hs1 hw h1) ?_
  obtain ⟨vs, hl, r⟩ := ownLst o
  have a0 : AtF P F env (re.bind fun d => ri.bind fun j => (dSet xs j d).bind k) σ H := ⟨a.go, a.en, a.ho, a.eq⟩
  refine a0.ev G h fun d w F' H' _ g q a' => ⟨_, hs, ?_⟩
  refine a'.ev G hi fun j u F2 H2 _ g2 q2 a2 => ?_
  have ae := a2.eq
  have g3 := g.trans g2
  unfold dSet at ae
  split at ae
  · split at ae
    · rename_i jj hj
      refine ⟨p, vs, _, jj, rfl, ar_int q2, g3.h _ _ hl, by rw [r.length]; exact hj, ?_⟩
      exact hk _ D hr hn hb hct σ _ ⟨F2, (⟨a2.go, a2.en, a2.ho, ae⟩ : AtF P F2 env (k (.lst (xs.set jj d))) σ H2).mut he hs n (g3.fr p _ hl f) (.inl ⟨_, _, rfl, upd_same, (r.mono g3.f).set (Rep.mono g2.f q) jj⟩)⟩
    · exact absurd ae.symm G.nb
  · exact absurd ae.symm G.nb
end

/-! ## Defs -/
def spOf (K : PySem.W.Frag) (ca : Str → Addr) (ms : List Md) (m : Md) (f : List D → R D) : Sp := fun vs H Q E =>
  ∃ F ds, Le F H ∧ ARs K ca F H ms vs ds ∧ Post K ca m (fun x F' H' => ∀ c d, ExcRep K ca F' c d x → E c d H') F H (f ds) Q
def argSl : Md → D → Option Sl
  | .r, d => some (.b d)
  | _, d => some (.d d)
def argEnv : List Md → List D → Nat → En
  | m :: ms, d :: ds, n + 1 => argSl m d :: argEnv ms ds n
  | _, _, n => List.replicate n none
theorem argEnv_length : ∀ (ms : List Md) (ds : List D) (n : Nat), (argEnv ms ds n).length = n
  | [], _, n => by simp [argEnv]
  | _ :: _, [], n => by simp [argEnv]
  | m :: ms, d :: ds, 0 => by simp [argEnv]
  | m :: ms, d :: ds, n + 1 => by simp [argEnv, argEnv_length ms ds n]
structure Def (P : Program) (w : World) (K : PySem.W.Frag) (mg : Str → Option Value) (base : Heap) (ca : Str → Addr) (x : Str) (n : Nat) (ms : List Md) (m : Md) (f : List D → R D) : Prop where
  ex : ∃ (a : Addr) (fd : FuncData) (ps : List Str), FnOk P w K mg base (L2.CX P w) n a fd ps (spOf K ca ms m f) ∧ mg x = some (.ref a) ∧ PySem.W.keepIn K (.ref a) = true ∧ Binds K fd ps []
section
variable {ca : Str → Addr} {X : Cx} {W : WX} {H0 : Hp} {env : En}
theorem se_call {x : Str} {n k : Nat} {ms : List Md} {m : Md} {f : List D → R D} {e : Expr} {es : List Expr} {rs : R (List D)} {p pos : Pos} (Df : Def X.prog X.w X.K X.mg X.base ca x n ms m f) (hr : Room k X.A) (tk : Takes X W) (ha : SA ca X W H0 ms env (e :: es) rs)
    (hnk : n ≤ k := by decide) (hg : Gl X x := by rfl) (hdb : (x == ("__debug__" : Str)) = false := by decide)
    (he : starEach (e :: es) X.env = (false, eval e X.env) :: starEach es X.env := by rfl) (hpl : (backTo pos (starEach es X.env)).any (·.1) = false := by rfl) :
    SE ca X W H0 m env (.Call (.Name x p) (e :: es) [] pos) (rs.bind f) := fun F H σ Q le ok hp => by
  obtain ⟨a, fd, ps, G, gm, kp, b⟩ := Df.ex
  refine ⟨_, pe_callS G (hr.mono hnk) hg gm kp b (fun σ => passAt tk σ) pa_W hdb he hpl, ?_⟩
  refine ha.then le ok hp fun ds vs F1 H1 _ g1 q1 ok1 hp1 => ?_
  exact ⟨F1, ds, g1.fh, q1, hp1⟩
end
def jEnd (m : Md) : Jp D := fun _ r => r = .ok .non ∧ m = .v
theorem getElem_argEnv : ∀ {ms : List Md} {ds : List D} {n i : Nat} {s : Sl}, (argEnv ms ds n)[i]? = some (some s) → ∃ m d, ms[i]? = some m ∧ ds[i]? = some d ∧ argSl m d = some s
  | [], ds, n, i, s, h => by
    have : (List.replicate n (none : Option Sl))[i]? = some (some s) := by cases n <;> exact h
    rw [List.getElem?_replicate] at this
    split at this <;> cases this
  | m :: ms, [], n, i, s, h => by
    have : (List.replicate n (none : Option Sl))[i]? = some (some s) := by cases n <;> exact h
    rw [List.getElem?_replicate] at this
    split at this <;> cases this
  | m :: ms, d :: ds, 0, i, s, h => by simp [argEnv] at h
  | m :: ms, d :: ds, n + 1, 0, s, h => by simp [argEnv] at h; exact ⟨m, d, rfl, rfl, h⟩
  | m :: ms, d :: ds, n + 1, i + 1, s, h => by simpa using getElem_argEnv (n := n) (i := i) (by simpa [argEnv] using h)
theorem ARs.get {K : PySem.W.Frag} {ca : Str → Addr} {F H : Hp} {ms : List Md} {vs : List V} {ds : List D} (q : ARs K ca F H ms vs ds) : ∀ {i : Nat} {m : Md} {d : D}, ms[i]? = some m → ds[i]? = some d → ∃ v, vs[i]? = some v ∧ ((m = .r ∧ AR K ca F H v d) ∨ (m = .v ∧ Rep K ca F v d)) := by
  induction q with
  | nil => intro i m d h; simp at h
  | consR h r ih =>
    intro i m d h1 h2
    cases i with
    | zero => simp at h1 h2; subst h1 h2; exact ⟨_, rfl, .inl ⟨rfl, h⟩⟩
    | succ i => simpa using ih (by simpa using h1) (by simpa using h2)
  | consV h r ih =>
    intro i m d h1 h2
    cases i with
    | zero => simp at h1 h2; subst h1 h2; exact ⟨_, rfl, .inr ⟨rfl, h⟩⟩
    | succ i => simpa using ih (by simpa using h1) (by simpa using h2)
theorem en_start {K : PySem.W.Frag} {ca : Str → Addr} {F H : Hp} {ms : List Md} {vs : List V} {ds : List D} {N : List Str} (q : ARs K ca F H ms vs ds) (hl : vs.length ≤ N.length) : EnOk K ca H F H (L2.start N vs) (argEnv ms ds N.length) := by
  have hno : ∀ (i : Nat) x, (argEnv ms ds N.length)[i]? ≠ some (some (Sl.o x)) := fun i x h => by
    obtain ⟨m, d, _, _, e⟩ := getElem_argEnv h
    cases m <;> cases e
  refine ⟨Le.refl H, ?_, fun i s h => ?_, fun i j x y h => absurd h (hno i x)⟩
  · rw [argEnv_length]
    unfold L2.start
    rw [List.length_append, List.length_map, List.length_replicate]
    omega
  · obtain ⟨m, d, h1, h2, e⟩ := getElem_argEnv h
    obtain ⟨v, h3, h4⟩ := q.get h1 h2
    refine ⟨v, ?_, ?_⟩
    · unfold L2.start
      rw [List.getElem?_append_left (by rw [List.length_map]; exact (List.getElem?_eq_some_iff.mp h3).1), List.getElem?_map, h3]
      rfl
    · rcases h4 with ⟨rfl, h4⟩ | ⟨rfl, h4⟩
      · cases e; exact h4
      · cases e; exact h4
/-- a def keeps its promise -/
theorem def_okF {P : Program} {w : World} {K : PySem.W.Frag} {mg : Str → Option Value} {base : Heap} {ca : Str → Addr} {x qual : Str} {st : Stmt} {a : Addr} {fd : FuncData} {N ps : List Str} {k : Nat} {ms : List Md} {m : Md} {f : List D → R D}
    (F : Fun K x qual st a fd) (S : FnScope N ps (defScope st)) (hm : ms.length = ps.length) (hN : ps.length ≤ N.length)
    (body : ∀ (cdv : Value) (A : Around) (outer : List Env) (s : Shared) (H : Hp) (Q : VK) (E : XK) (F0 : Hp) (ds : List D), ds.length = ps.length → Room k (A.deeper (envOfC qual (defScope st) s.heap.objs.size a cdv)) →
      (Pt.mk ca (cxOf (L2.CX P w) P w K mg base N qual (defScope st) a cdv A outer s H E) (fun c d _ H' => E c d H') F0 H [] (f ds) R.ok m Q).Good →
      SSs (Pt.mk ca (cxOf (L2.CX P w) P w K mg base N qual (defScope st) a cdv A outer s H E) (fun c d _ H' => E c d H') F0 H [] (f ds) R.ok m Q) (jEnd m) jNo jNo (argEnv ms ds N.length) (defBody st) (f ds)) :
    FnOk P w K mg base (L2.CX P w) (k + 1) a fd ps (spOf K ca ms m f) := by
  have lenA : ∀ {F H : Hp} {ms : List Md} {vs : List V} {ds : List D}, ARs K ca F H ms vs ds → ms.length = vs.length := fun q => by
    induction q with
    | nil => rfl
    | consR _ _ ih => rw [List.length_cons, List.length_cons, ih]
    | consV _ _ ih => rw [List.length_cons, List.length_cons, ih]
  refine F.okX S (fun vs H Q E h => ?_) (fun cdv A outer s H vs Q E hr h => ?_)
  · obtain ⟨F0, ds, _, q, _⟩ := h
    rw [← hm, lenA q]
  · obtain ⟨F0, ds, le, q, hp⟩ := h
    have hl : ds.length = ps.length := by rw [← q.length, ← lenA q, hm]
    refine ⟨_, pss_W, ?_⟩
    have G : (Pt.mk ca (cxOf (L2.CX P w) P w K mg base N qual (defScope st) a cdv A outer s H E) (fun c d _ H' => E c d H') F0 H [] (f ds) R.ok m Q).Good := by
      refine ⟨S.nd, rfl, passes_of rfl, fun d v F1 H1 e g r => ?_, fun z F1 H1 σ e g _ => ?_, fun e => ?_, fun d e => nomatch e⟩
      · have e' : f ds = .ok d := e
        rw [e'] at hp
        exact hp v F1 H1 g r
      · have e' : f ds = .er z := e
        rw [e'] at hp
        exact hp F1 H1 g
      · have e' : f ds = .bad := e
        rw [e'] at hp
        exact hp
    refine body cdv A outer s H Q E F0 ds hl hr G _ rfl ?_ (fun _ _ z => z.elim) (fun _ _ z => z.elim) _ _ ⟨F0, Go.refl le, en_start q (by rw [q.length, hl]; exact hN), fun i s h => by simp at h, rfl⟩
    rintro e' r' ⟨rfl, rfl⟩ σ H1 ⟨F1, a1⟩
    exact G.rt .non .non F1 H1 a1.eq.symm a1.go Rep.non
theorem def_ok {P : Program} {w : World} {K : PySem.W.Frag} {mg : Str → Option Value} {base : Heap} {ca : Str → Addr} {x qual : Str} {st : Stmt} {a : Addr} {fd : FuncData} {N ps : List Str} {k : Nat} {ms : List Md} {m : Md} {f : List D → R D}
    (F : Fun K x qual st a fd) (S : FnScope N ps (defScope st)) (hm : ms.length = ps.length) (hN : ps.length ≤ N.length)
    (gm : mg x = some (.ref a)) (b : Binds K fd ps [])
    (body : ∀ (cdv : Value) (A : Around) (outer : List Env) (s : Shared) (H : Hp) (Q : VK) (E : XK) (F0 : Hp) (ds : List D), ds.length = ps.length → Room k (A.deeper (envOfC qual (defScope st) s.heap.objs.size a cdv)) →
      (Pt.mk ca (cxOf (L2.CX P w) P w K mg base N qual (defScope st) a cdv A outer s H E) (fun c d _ H' => E c d H') F0 H [] (f ds) R.ok m Q).Good →
      SSs (Pt.mk ca (cxOf (L2.CX P w) P w K mg base N qual (defScope st) a cdv A outer s H E) (fun c d _ H' => E c d H') F0 H [] (f ds) R.ok m Q) (jEnd m) jNo jNo (argEnv ms ds N.length) (defBody st) (f ds)) :
    Def P w K mg base ca x (k + 1) ms m f := ⟨a, fd, ps, def_okF F S hm hN body, gm, F.kp, b⟩
end Um

namespace Um
open L2 PySem PySem.Spec PyProof.Rows

def bNot (k : Bool) : R Bool := .ok (!k)
@[simp] theorem bNot_def (k : Bool) : bNot k = .ok (!k) := rfl
def dNot : D → R D
  | .bl k => .ok (.bl (!k))
  | _ => .bad
theorem room64 {k : Nat} {A : Around} (h : Room k A) : A.units + 64 < cLine := h.units
section
variable {ca : Str → Addr} {X : Cx} {W : WX} {H0 F H F' H' : Hp} {env : En} {a b c e : Expr} {ra rb rc : R D} {ta tb tc : R Bool} {pos : Pos} {m : Md}
theorem st_notD (h : ST ca X W H0 env a ta) : ST ca X W H0 env (.UnaryOp .Not a pos) (ta.bind bNot) := st_not h
theorem se_notD (h : SE ca X W H0 .r env a ra) : SE ca X W H0 .v env (.UnaryOp .Not a pos) (ra.bind dNot) := fun F H σ Q le ok hp => by
  refine ⟨_, pe_not pe_W, h.then le ok hp fun d v F1 H1 _ g q _ hp1 => ?_⟩
  cases d with
  | bl k => exact ⟨k, ar_bl q, hp1 _ F1 H1 (Go.refl g.fh) (.bl _)⟩
  | _ => exact hp1.elim
def dSum : D → R D
  | .lst xs => (match intsOf xs with | some ns => .ok (.int ns.sum) | none => .bad)
  | .scr xs => (match intsOf xs with | some ns => .ok (.int ns.sum) | none => .bad)
  | _ => .bad
theorem cv_sum (hc : X.calm = true) : CV ca X [.r] .v (.builtin "sum") (fn1 dSum) := cv1 fun E F H v d Q le q hp => by
  cases d with
  | lst xs =>
    simp only [dSum] at hp
    split at hp
    · rename_i ns hn
      obtain ⟨p, vs, rfl, h1, r⟩ := ar_lst le q
      rw [intsOf_eq hn] at r
      rw [r.ints_inv] at h1
      exact ⟨_, cr_sum hc, p, ns, rfl, .inl (.inl h1), hp _ F H (Go.refl le) (.int _)⟩
    · exact hp.elim
  | scr xs =>
    simp only [dSum] at hp
    split at hp
    · rename_i ns hn
      obtain ⟨p, vs, rfl, h1, r⟩ := ar_scr le q
      rw [intsOf_eq hn] at r
      rw [r.ints_inv] at h1
      exact ⟨_, cr_sum hc, p, ns, rfl, h1, hp _ F H (Go.refl le) (.int _)⟩
    · exact hp.elim
  | _ => exact hp.elim
end
def fn3 (g : D → D → D → R D) : List D → R D
  | [a, b, c] => g a b c
  | _ => .bad
def fn4 (g : D → D → D → D → R D) : List D → R D
  | [a, b, c, d] => g a b c d
  | _ => .bad
def fn5 (g : D → D → D → D → D → R D) : List D → R D
  | [a, b, c, d, e] => g a b c d e
  | _ => .bad
def fn6 (g : D → D → D → D → D → D → R D) : List D → R D
  | [a, b, c, d, e, f] => g a b c d e f
  | _ => .bad
def fn0 (g : R D) : List D → R D
  | [] => g
  | _ => .bad
end Um
namespace Um
open L2 PySem PySem.Spec PyProof.Rows
theorem room65 {k : Nat} {A : Around} (h : Room k A) : A.units + 65 < cLine := by have := h.un; omega
end Um

namespace Um
open L2 PySem PySem.Spec PyProof.Rows

section
variable {K : PySem.W.Frag} {ca : Str → Addr} {F H F' H' : Hp}
mutual
theorem Own.mono (e : Le F F') : ∀ {s : Sh} {cs : List Addr} {v : V} {d : D}, (∀ p, p ∈ cs → ∀ o, H p = some o → H' p = some o) → Own K ca F H s cs v d → Own K ca F' H' s cs v d
  | _, _, _, _, _, .leaf h => .leaf (h.mono e)
  | _, _, _, _, hc, .lst o => .lst (by
      rcases o with ⟨vs, ds, e2, h, r⟩ | ⟨kvs, ks, ds, e2, h, q, r⟩
      · exact .inl ⟨vs, ds, e2, hc _ List.mem_cons_self _ h, r.mono e⟩
      · exact .inr ⟨kvs, ks, ds, e2, hc _ List.mem_cons_self _ h, q, r.mono e⟩)
  | _, _, _, _, hc, .tup h r => .tup (hc _ List.mem_cons_self _ h) (Owns.mono e (fun p hp => hc p (List.mem_cons_of_mem _ hp)) r)
theorem Owns.mono (e : Le F F') : ∀ {s : Sh} {cs : List Addr} {vs : List V} {ds : List D}, (∀ p, p ∈ cs → ∀ o, H p = some o → H' p = some o) → Owns K ca F H s cs vs ds → Owns K ca F' H' s cs vs ds
  | _, _, _, _, _, .nil => .nil
  | _, _, _, _, hc, .cons a r => .cons (Own.mono e (fun p hp => hc p (List.mem_append_left _ hp)) a) (Owns.mono e (fun p hp => hc p (List.mem_append_right _ hp)) r)
end
mutual
theorem Own.here : ∀ {s : Sh} {cs : List Addr} {v : V} {d : D}, Own K ca F H s cs v d → ∀ p, p ∈ cs → ∃ o, H p = some o
  | _, _, _, _, .leaf _, p, hp => by cases hp
  | _, _, _, _, .lst o, p, hp => by
      rw [List.mem_singleton] at hp; subst hp; exact OwnAt.some o
  | _, _, _, _, .tup h r, p, hp => by
      rcases List.mem_cons.mp hp with e | hp
      · subst e; exact ⟨_, h⟩
      · exact Owns.here r p hp
theorem Owns.here : ∀ {s : Sh} {cs : List Addr} {vs : List V} {ds : List D}, Owns K ca F H s cs vs ds → ∀ p, p ∈ cs → ∃ o, H p = some o
  | _, _, _, _, .nil, p, hp => by cases hp
  | _, _, _, _, .cons a r, p, hp => by
      rcases List.mem_append.mp hp with hp | hp
      · exact Own.here a p hp
      · exact Owns.here r p hp
end
theorem Owns.length {s : Sh} {cs : List Addr} {vs : List V} {ds : List D} (h : Owns K ca F H s cs vs ds) : vs.length = ds.length := by
  induction vs generalizing ds s cs with
  | nil => cases h; rfl
  | cons v vs ih => cases h with | cons a r => rw [List.length_cons, List.length_cons, ih r]
/-- F with the cells S of H -/
noncomputable def lent (F H : Hp) (S : List Addr) : Hp := open Classical in fun a => if a ∈ S then H a else F a
theorem lent_in {S : List Addr} {a : Addr} (h : a ∈ S) : lent F H S a = H a := by unfold lent; rw [if_pos h]
theorem lent_out {S : List Addr} {a : Addr} (h : ¬ a ∈ S) : lent F H S a = F a := by unfold lent; rw [if_neg h]
theorem lent_le {S : List Addr} (hs : ∀ p, p ∈ S → F p = none) : Le F (lent F H S) := fun a o e => by
  have : ¬ a ∈ S := fun h => by rw [hs a h] at e; cases e
  rw [lent_out this]; exact e
theorem lent_leH {S : List Addr} (le : Le F H) : Le (lent F H S) H := fun a o e => by
  by_cases h : a ∈ S
  · rw [lent_in h] at e; exact e
  · rw [lent_out h] at e; exact le a o e
mutual
theorem Own.rep {S : List Addr} (hs : ∀ p, p ∈ S → F p = none) : ∀ {s : Sh} {cs : List Addr} {v : V} {d : D}, (∀ p, p ∈ cs → p ∈ S) → Own K ca F H s cs v d → Rep K ca (lent F H S) v d
  | _, _, _, _, _, .leaf h => h.mono (lent_le hs)
  | _, [p], _, _, hc, .lst o => by
      have hp : p ∈ S := hc _ List.mem_cons_self
      rcases o with ⟨vs, ds, e2, h, r⟩ | ⟨kvs, ks, ds, e2, h, q, r⟩
      · subst e2; exact .lst (by rw [lent_in hp]; exact h) (r.mono (lent_le hs))
      · subst e2; exact .dic (by rw [lent_in hp]; exact h) q (r.mono (lent_le hs))
  | _, _, _, _, hc, .tup h r => .tup (.inl (.inl (by rw [lent_in (hc _ List.mem_cons_self)]; exact h))) (Owns.rep hs (fun p hp => hc p (List.mem_cons_of_mem _ hp)) r)
theorem Owns.rep {S : List Addr} (hs : ∀ p, p ∈ S → F p = none) : ∀ {s : Sh} {cs : List Addr} {vs : List V} {ds : List D}, (∀ p, p ∈ cs → p ∈ S) → Owns K ca F H s cs vs ds → Reps K ca (lent F H S) vs ds
  | _, _, _, _, _, .nil => .nil
  | _, _, _, _, hc, .cons a r => .cons (Own.rep hs (fun p hp => hc p (List.mem_append_left _ hp)) a) (Owns.rep hs (fun p hp => hc p (List.mem_append_right _ hp)) r)
end
end

/-! ## what is handed back: a tree of one's own -/
section
variable (ca : Str → Addr) (X : Cx) (W : WX) (H0 : Hp)
def PostQ (us : List Nat) (s : Sh) (env : En) (σ : L2.St) (E : Ek) (F H : Hp) (r : R D) (Q : VK) : Prop := match r with
  | .ok d => ∀ v F' H' cs, Go F H F' H' → cs.Nodup → (∀ p, p ∈ cs → H0 p = none ∧ F' p = none ∧ (H p = none ∨ ∃ i x, i ∈ us ∧ σ[i]? = some (some (.ref p)) ∧ env[i]? = some (some (Sl.o x)))) → Own X.K ca F' H' s cs v d → Q v H'
  | .er x => ∀ F' H', Go F H F' H' → E x F' H'
  | .bad => False
def PostQA (us : List Nat) (s : Sh) (env : En) (σ : L2.St) (E : Ek) (F H : Hp) (r : R (List D)) (Q : List V → Hp → Prop) : Prop := match r with
  | .ok d => ∀ v F' H' cs, Go F H F' H' → cs.Nodup → (∀ p, p ∈ cs → H0 p = none ∧ F' p = none ∧ (H p = none ∨ ∃ i x, i ∈ us ∧ σ[i]? = some (some (.ref p)) ∧ env[i]? = some (some (Sl.o x)))) → Owns X.K ca F' H' s cs v d → Q v H'
  | .er x => ∀ F' H', Go F H F' H' → E x F' H'
  | .bad => False
def SQ (env : En) (e : Expr) (us : List Nat) (s : Sh) (r : R D) : Prop := ∀ F H σ Q, Le F H → EnOk X.K ca H0 F H σ env → PostQ ca X H0 us s env σ (ekOf X.K ca W σ) F H r Q → WE X e σ H Q
def SQA (env : En) (es : List Expr) (us : List Nat) (s : Sh) (r : R (List D)) : Prop := ∀ F H σ Q, Le F H → EnOk X.K ca H0 F H σ env → PostQA ca X H0 us s env σ (ekOf X.K ca W σ) F H r Q → WA X es σ H Q
end
section
variable {ca : Str → Addr} {X : Cx} {W : WX} {H0 F H F' H' : Hp} {env : En} {e : Expr} {es : List Expr} {r : R D} {rs : R (List D)} {us us' : List Nat} {s s' : Sh}
theorem sq_o (h : SE ca X W H0 .o env e r) : SQ ca X W H0 env e [] .o r := fun F H σ Q le ok hp => by
  refine h F H σ Q le ok ?_
  cases r with
  | ok d =>
    rintro v F' H' g ⟨p, rfl, n, f, o⟩
    refine hp _ F' H' [p] g (List.nodup_cons.mpr ⟨by simp, List.nodup_nil⟩) (fun q hq => ?_) (.lst o)
    rw [List.mem_singleton] at hq; subst hq
    exact ⟨ok.h0.free n, f, .inl n⟩
  | er x => exact hp
  | bad => exact hp
theorem sq_v (h : SE ca X W H0 .v env e r) : SQ ca X W H0 env e [] .v r := fun F H σ Q le ok hp => by
  refine h F H σ Q le ok ?_
  cases r with
  | ok d => exact fun v F' H' g q => hp _ F' H' [] g List.nodup_nil (fun q hq => by cases hq) (.leaf q)
  | er x => exact hp
  | bad => exact hp
theorem sq_q (h : SE ca X W H0 (.q s) env e r) : SQ ca X W H0 env e [] s r := fun F H σ Q le ok hp => by
  refine h F H σ Q le ok ?_
  cases r with
  | ok d =>
    rintro v F' H' g ⟨cs, nd, n, o⟩
    exact hp _ F' H' cs g nd (fun q hq => ⟨ok.h0.free (n q hq).1, (n q hq).2, .inl (n q hq).1⟩) o
  | er x => exact hp
  | bad => exact hp
theorem sq_n {i : Nat} {x : Str} {pos : Pos} {d : D} (he : env[i]? = some (some (.o d)) := by rfl) (hN : X.N[i]? = some x := by rfl)
    (hv : Vis X.env.scope x := by first | exact Or.inl rfl | exact Or.inr (Or.inl rfl) | exact Or.inr (Or.inr rfl)) (hd : (x == ("__debug__" : Str)) = false := by decide) (hcd : (x == ("__classdict__" : Str)) = false := by decide) :
    SQ ca X W H0 env (.Name x pos) [i] .o (.ok d) := fun F H σ Q le ok hp => by
  obtain ⟨v, h1, h2⟩ := ok.at_ i _ he
  obtain ⟨p, e, n, f, h⟩ := h2
  subst e
  refine ⟨_, pe_var hN hv hd hcd, _, h1, hp _ F H [p] (Go.refl le) (List.nodup_cons.mpr ⟨by simp, List.nodup_nil⟩) (fun q hq => ?_) (.lst h)⟩
  rw [List.mem_singleton] at hq; subst hq
  exact ⟨n, f, .inr ⟨i, d, List.mem_singleton.mpr rfl, h1, he⟩⟩
theorem sqa_nil : SQA ca X W H0 env [] [] .n (.ok []) := fun F H σ Q le ok hp => ⟨_, pa_nil, hp [] F H [] (Go.refl le) List.nodup_nil (fun q hq => by cases hq) .nil⟩
theorem sqa_cons (h : SQ ca X W H0 env e us s r) (hr : SQA ca X W H0 env es us' s' rs) (hd : ∀ i, i ∈ us → ¬ i ∈ us' := by decide)
    (hs : starEach (e :: es) X.env = (false, eval e X.env) :: starEach es X.env := by rfl) : SQA ca X W H0 env (e :: es) (us ++ us') (.c s s') (R.cons r rs) := fun F H σ Q le ok hp => by
  refine ⟨_, pa_cons pe_W pa_W hs, h F H σ _ le ok ?_⟩
  cases r with
  | er x => exact hp
  | bad => exact hp
  | ok d =>
    intro v F1 H1 cs g nd hc o
    refine hr F1 H1 σ _ g.fh (ok.mono g) ?_
    cases rs with
    | er x => exact fun F2 H2 g2 => hp F2 H2 (g.trans g2)
    | bad => exact hp
    | ok ds =>
      intro vs F2 H2 cs2 g2 nd2 hc2 o2
      refine hp (v :: vs) F2 H2 (cs ++ cs2) (g.trans g2) (List.nodup_append.mpr ⟨nd, nd2, fun a ha b hb e => ?_⟩) (fun p hp' => ?_) (.cons (o.mono g2.f fun p _ o e => g2.h p o e) o2)
      · subst e
        obtain ⟨u, hu⟩ := o.here a ha
        obtain ⟨_, _, h4⟩ := hc a ha
        rcases (hc2 a hb).2.2 with h3 | ⟨j, y, hj, h3, h5⟩
        · rw [h3] at hu; cases hu
        · obtain ⟨w, h6, p', h7, _, _, ow⟩ := ok.at_ j _ h5
          rw [h3] at h6; cases h6; cases h7
          obtain ⟨u', hu'⟩ := ow.some
          rcases h4 with h4 | ⟨i, x, hi, h8, h9⟩
          · rw [h4] at hu'; cases hu'
          · have := ok.own i j x y h9 h5 (by rw [h8, h3])
            subst this
            exact hd i hi hj
      · rcases List.mem_append.mp hp' with hp' | hp'
        · obtain ⟨a1, a2, a3⟩ := hc p hp'
          obtain ⟨u, hu⟩ := o.here p hp'
          refine ⟨a1, g2.fr p u hu a2, ?_⟩
          rcases a3 with a3 | ⟨i, x, a3, a4, a5⟩
          · exact .inl a3
          · exact .inr ⟨i, x, List.mem_append_left _ a3, a4, a5⟩
        · obtain ⟨a1, a2, a3⟩ := hc2 p hp'
          refine ⟨a1, a2, ?_⟩
          rcases a3 with a3 | ⟨i, x, a3, a4, a5⟩
          · exact .inl (g.h.free a3)
          · exact .inr ⟨i, x, List.mem_append_right _ a3, a4, a5⟩
theorem sq_tup {x1 : _} {pos : Pos} (h : SQA ca X W H0 env es us s rs) : SQ ca X W H0 env (.Tuple es x1 pos) us (.t s) (rs.bind dTup) := fun F H σ Q le ok hp => by
  refine ⟨_, pe_tup pa_W, h F H σ _ le ok ?_⟩
  cases rs with
  | er x => exact hp
  | bad => exact hp
  | ok ds =>
    intro vs F1 H1 cs g nd hc o
    have hp' : PostQ ca X H0 us (.t s) env σ (ekOf X.K ca W σ) F H (dTup ds) Q := hp
    unfold dTup at hp'
    split at hp'
    · rename_i hs
      refine ⟨by rw [o.length]; exact hs, fun p hpn => ?_⟩
      have hnp : ∀ q, q ∈ cs → q ≠ p := fun q hq e => by
        obtain ⟨u, hu⟩ := o.here q hq
        rw [e, hpn] at hu; cases hu
      refine hp' _ F1 _ (p :: cs) (g.trans (Go.hid g.fh hpn _)) (List.nodup_cons.mpr ⟨fun hm => hnp p hm rfl, nd⟩) (fun q hq => ?_) (.tup upd_same (o.mono (Le.refl _) fun q hq u hu => by rw [upd_ne (hnp q hq)]; exact hu))
      rcases List.mem_cons.mp hq with e | hq
      · subst e; exact ⟨ok.h0.free (g.h.free hpn), g.fh.free hpn, .inl (g.h.free hpn)⟩
      · exact hc q hq
    · exact hp'.elim
end
section
variable {α : Type} {P : Pt α} {nx bk ct : Jp α} {env : En} {rest : List Stmt}
theorem ss_retQ (G : P.Good) {e : Expr} {re : R D} {pos : Pos} {us : List Nat} {s : Sh} (h : SQ P.ca P.X P.W P.H0 env e us s re) (hm : P.m = .q s := by rfl) : SSs P nx bk ct env (.Return (some e) pos :: rest) (re.bind P.ret) := fun D hr hn hb hc σ H ⟨F, a⟩ => by
  refine .cons (ps_ret pe_W) ?_
  show Um.WE P.X e σ H D.rt
  rw [hr]
  refine h F H σ _ a.go.fh a.en ?_
  have ae := a.eq
  cases re with
  | er x => exact fun F' H' g => G.er x F' H' σ ae.symm (a.go.trans g) (a.ho.mono g)
  | bad => exact G.nb ae.symm
  | ok d =>
    intro v F' H' cs g nd hc o
    refine G.rt d v F' H' ae.symm (a.go.trans g) ?_
    rw [hm]
    exact ⟨cs, nd, fun p hp => ⟨(hc p hp).1, (hc p hp).2.1⟩, o⟩

/-! ## a name that holds a tree of one's own -/
structure AtQF (P : Pt α) (F : Hp) (env : En) (i : Nat) (s : Sh) (d : D) (r : R α) (σ : L2.St) (H : Hp) : Prop where
  at_ : AtF P F env r σ H
  no : ∀ (j : Nat) x, env[j]? ≠ some (some (.o x))
  ow : ∃ cs v, σ[i]? = some (some v) ∧ cs.Nodup ∧ (∀ p, p ∈ cs → F p = none ∧ P.H0 p = none) ∧ Own P.X.K P.ca F H s cs v d
def AtQ (P : Pt α) (env : En) (i : Nat) (s : Sh) (d : D) (r : R α) : L2.St → Hp → Prop := fun σ H => ∃ F, AtQF P F env i s d r σ H
def SSsQ (P : Pt α) (nx bk ct : Jp α) (env : En) (i : Nat) (s : Sh) (d : D) (ss : List Stmt) (r : R α) : Prop := ∀ D : Ends, D.rt = P.Q →
  (∀ e' r', nx e' r' → ∀ σ H, At P e' r' σ H → D.nx σ H) → (∀ e' r', bk e' r' → ∀ σ H, At P e' r' σ H → D.bk σ H) → (∀ e' r', ct e' r' → ∀ σ H, At P e' r' σ H → D.ct σ H) →
  ∀ σ H, AtQ P env i s d r σ H → WSs P.X ss D σ H
def noO : En → Bool
  | [] => true
  | some (.o _) :: _ => false
  | _ :: e => noO e
theorem noO_at : ∀ {e : En}, noO e = true → ∀ (j : Nat) x, e[j]? ≠ some (some (.o x))
  | [], _, j, x => by simp
  | some (.o _) :: _, h, _, _ => by cases h
  | none :: e, h, 0, x => by simp
  | none :: e, h, j + 1, x => by simpa using noO_at (e := e) h j x
  | some (.d y) :: e, h, 0, x => by simp
  | some (.d y) :: e, h, j + 1, x => by simpa using noO_at (e := e) h j x
  | some (.b y) :: e, h, 0, x => by simp
  | some (.b y) :: e, h, j + 1, x => by simpa using noO_at (e := e) h j x
theorem EnOk.setNx {K : PySem.W.Frag} {ca : Str → Addr} {H0 F H : Hp} {σ : L2.St} {i : Nat} {x : Option V} (h : EnOk K ca H0 F H σ env) : EnOk K ca H0 F H (σ.set i x) (env.set i none) := by
  refine ⟨h.h0, by rw [List.length_set, List.length_set, h.len], fun j s hj => ?_, fun j k x y hj hk e => ?_⟩
  · rcases set_some hj with ⟨_, e⟩ | ⟨ne, hj'⟩
    · cases e
    · obtain ⟨u, h1, h2⟩ := h.at_ j s hj'
      exact ⟨u, by rw [List.getElem?_set_ne ne]; exact h1, h2⟩
  · rcases set_some hj with ⟨_, e1⟩ | ⟨n1, hj'⟩
    · cases e1
    · rcases set_some hk with ⟨_, e2⟩ | ⟨n2, hk'⟩
      · cases e2
      · rw [List.getElem?_set_ne n1, List.getElem?_set_ne n2] at e
        exact h.own j k x y hj' hk' e
/-- with no own slots, the heap may shrink -/
theorem EnOk.shrink {K : PySem.W.Frag} {ca : Str → Addr} {H0 F H F' H' : Hp} {σ : L2.St} (h : EnOk K ca H0 F H σ env) (no : ∀ (j : Nat) x, env[j]? ≠ some (some (.o x))) (le : Le F F') (h0 : Le H0 H') : EnOk K ca H0 F' H' σ env :=
  ⟨h0, h.len, fun j s hj => by
    obtain ⟨v, h1, h2⟩ := h.at_ j s hj
    refine ⟨v, h1, ?_⟩
    cases s with
    | d x => exact Rep.mono le h2
    | b x =>
      rcases h2 with h2 | ⟨p, e, h2⟩
      · exact .inl (h2.mono le)
      · exact .inr ⟨p, e, h2.monoF le⟩
    | o x => exact absurd hj (no j x), h.own⟩
theorem sq_drop {i : Nat} {s : Sh} {d : D} {ss : List Stmt} {r : R α} (h : SSs P nx bk ct env ss r) : SSsQ P nx bk ct env i s d ss r := fun D hr hn hb hc σ H ⟨F, a⟩ => h D hr hn hb hc σ H ⟨F, a.at_⟩
theorem sq_enter (G : P.Good) {i : Nat} {s : Sh} {x : Str} {e : Expr} {re : R D} {k : D → R α} {pos pos' : Pos} (h : SE P.ca P.X P.W P.H0 (.q s) env e re) (hk : ∀ d, SSsQ P nx bk ct (env.set i none) i s d rest (k d)) (hno : noO env = true := by rfl)
    (hi : P.X.N[i]? = some x := by rfl) (hx : Loc P.X.env.scope x := by first | exact .inl rfl | exact .inr rfl) (hh : noH P.envH i = true := by rfl)
    (hl : decide (i < env.length) = true := by rfl)
    (hs : swapsWith e (some (.Name x pos')) pos.line P.X.env = pure false := by rfl) (hf : P.X.fn x = true ∨ P.X.env.scope.names.lookup x = some .local := by first | exact .inl rfl | exact .inr rfl) :
    SSs P nx bk ct env (.Assign [.Name x pos'] e pos :: rest) (re.bind k) := fun D hr hn hb hc σ H ⟨F, a⟩ => by
  refine .cons (ps_set G.nd hi hx pe_W hs hf) ?_
  refine a.ev G h fun d v F' H' _ g q a' => ?_
  obtain ⟨cs, nd, n, o⟩ := q
  refine hk d D hr hn hb hc _ _ ⟨F', ⟨a'.go, a'.en.setNx, a'.ho.set hh, a'.eq⟩, fun j x hj => ?_, cs, v, ?_, nd, fun p hp => ⟨(n p hp).2, a.en.h0.free (n p hp).1⟩, o⟩
  · rcases set_some hj with ⟨_, e⟩ | ⟨_, hj'⟩
    · cases e
    · exact noO_at hno j x hj'
  · rw [List.getElem?_set_self (by rw [a.en.len]; exact of_decide_eq_true hl)]
/-- the tree is lent while e is evaluated -/
theorem AtQF.lend {F H : Hp} {σ : L2.St} {i : Nat} {s : Sh} {d : D} {r : R α} (a : AtQF P F env i s d r σ H) (hn : env[i]? = some none) :
    ∃ F1, Le F F1 ∧ AtF P F1 (env.set i (some (.d d))) r σ H ∧ (∀ F' H', Go F1 H F' H' → AtQF P F env i s d r σ H') := by
  obtain ⟨cs, v, hv, nd, hc, o⟩ := a.ow
  have hF : ∀ p, p ∈ cs → F p = none := fun p hp => (hc p hp).1
  refine ⟨lent F H cs, lent_le hF, ⟨⟨a.at_.go.f.trans (lent_le hF), a.at_.go.h, lent_leH a.at_.go.fh, fun p u hu hn' => ?_⟩, ?_, ?_, a.at_.eq⟩, fun F' H' g => ⟨⟨⟨a.at_.go.f, a.at_.go.h.trans g.h, a.at_.go.fh.trans g.h, a.at_.go.fr⟩, a.at_.en.shrink a.no (Le.refl _) (a.at_.en.h0.trans g.h), a.at_.ho, a.at_.eq⟩, a.no, cs, v, hv, nd, hc, o.mono (Le.refl _) fun p _ u hu => g.h p u hu⟩⟩
  · have : ¬ p ∈ cs := fun hp => by rw [(hc p hp).2] at hu; cases hu
    rw [lent_out this]
    exact a.at_.go.fr p u hu hn'
  · have e1 := a.at_.en.shrink a.no (lent_le (H := H) hF) a.at_.en.h0
    have e2 := e1.setD (i := i) (o.rep hF fun p hp => hp)
    have hσ : σ.set i (some v) = σ := by
      obtain ⟨h1, h2⟩ := List.getElem?_eq_some_iff.mp hv
      rw [← h2]; exact List.set_getElem_self h1
    rw [hσ] at e2
    exact e2
  · exact fun j t hj => by
      obtain ⟨w, h1, h2⟩ := a.at_.ho j t hj
      exact ⟨w, h1, h2.mono (lent_le hF)⟩
theorem sq_if1 (G : P.Good) {i : Nat} {s : Sh} {d : D} {c : Expr} {A : List Stmt} {tc : R Bool} {rA rB : R α} {pos : Pos} (h : ST P.ca P.X P.W P.H0 (env.set i (some (.d d))) c tc)
    (hA : SSs P jNo bk ct env A rA) (hB : SSsQ P nx bk ct env i s d rest rB) (hn : env[i]? = some none := by rfl) :
    SSsQ P nx bk ct env i s d (.If c A [] pos :: rest) (tc.bind fun b => if b = true then rA else rB) := fun D hr hn' hb hc σ H ⟨F, a⟩ => by
  refine .cons (ps_if pt_W pss_W pss_W) ?_
  obtain ⟨F1, _, a1, back⟩ := a.lend hn
  refine a1.evT G h fun b F' H' _ g a' => ?_
  have a2 := back F' H' g
  have ae := a'.eq
  cases b with
  | true => exact hA { D with nx := fun σ' H' => WSs P.X rest D σ' H' } hr (fun _ _ z => z.elim) hb hc σ H' ⟨F, a2.at_.go, a2.at_.en, a2.at_.ho, ae⟩
  | false => exact ⟨_, pss_nil, hB D hr hn' hb hc σ H' ⟨F, ⟨a2.at_.go, a2.at_.en, a2.at_.ho, ae⟩, a2.no, a2.ow⟩⟩
/-- y = e, e a new list of ints -/
def flat : D → R D
  | .lst xs => (match intsOf xs with | some _ => .ok (.lst xs) | none => .bad)
  | _ => .bad
theorem sq_set (G : P.Good) {i j : Nat} {s : Sh} {d : D} {x : Str} {e : Expr} {re : R D} {k : D → R α} {pos pos' : Pos} (h : SE P.ca P.X P.W P.H0 .o (env.set i (some (.d d))) e re) (hk : ∀ y, SSsQ P nx bk ct (env.set j (some (.d y))) i s d rest (k y)) (hn : env[i]? = some none := by rfl) (hij : j ≠ i := by decide)
    (hi : P.X.N[j]? = some x := by rfl) (hx : Loc P.X.env.scope x := by first | exact .inl rfl | exact .inr rfl) (hh : noH P.envH j = true := by rfl)
    (hs : swapsWith e (some (.Name x pos')) pos.line P.X.env = pure false := by rfl) (hf : P.X.fn x = true ∨ P.X.env.scope.names.lookup x = some .local := by first | exact .inl rfl | exact .inr rfl) :
    SSsQ P nx bk ct env i s d (.Assign [.Name x pos'] e pos :: rest) ((re.bind flat).bind k) := fun D hr hn' hb hc σ H ⟨F, a⟩ => by
  refine .cons (ps_set G.nd hi hx pe_W hs hf) ?_
  obtain ⟨F1, lF, a1, back⟩ := a.lend hn
  have a1' : AtF P F1 (env.set i (some (.d d))) (re.bind fun y => (flat y).bind k) σ H := ⟨a1.go, a1.en, a1.ho, by
    have := a1.eq
    rw [← this]; cases re <;> rfl⟩
  refine a1'.ev G h fun y v F' H' _ g q a' => ?_
  have ae := a'.eq
  obtain ⟨p, e1, pn, pf, o⟩ := q
  subst e1
  unfold flat at ae
  split at ae
  · split at ae
    · rename_i ys _ ns hys
      rw [intsOf_eq hys] at o ae
      obtain ⟨vs, hv, rr⟩ := ownLst o
      have hvs := rr.ints_inv
      subst hvs
      have hpF : F p = none := a.at_.go.fh.free pn
      have b2 := back F' H' g
      refine hk _ D hr hn' hb hc _ _ ⟨upd F p (.lst (ns.map V.int)), ⟨⟨b2.at_.go.f.trans (Le.new hpF), b2.at_.go.h, fun b u hb => ?_, fun b u hb hbn => ?_⟩, ?_, ?_, ae⟩, fun jj xx hjj => ?_, ?_⟩
      · by_cases hbp : b = p
        · subst hbp; rw [upd_same] at hb; cases hb; exact hv
        · rw [upd_ne hbp] at hb; exact b2.at_.go.fh b u hb
      · rw [upd_ne (ne_of_none hb (a.at_.en.h0.free pn))]; exact b2.at_.go.fr b u hb hbn
      · exact (b2.at_.en.shrink b2.no (Le.new hpF) b2.at_.en.h0).setD (.lst upd_same (Reps.ints ns))
      · exact HOk.set (fun jj t hjj => by
          obtain ⟨w, h1, h2⟩ := b2.at_.ho jj t hjj
          exact ⟨w, h1, h2.mono (Le.new hpF)⟩) hh
      · rcases set_some hjj with ⟨_, e⟩ | ⟨_, hj'⟩
        · cases e
        · exact b2.no jj xx hj'
      · obtain ⟨cs, w, h1, nd, h2, o2⟩ := b2.ow
        obtain ⟨cs0, w0, k1, k0, k2, o0⟩ := a.ow
        refine ⟨cs0, w0, by rw [List.getElem?_set_ne hij]; exact k1, k0, fun q hq => ⟨?_, (k2 q hq).2⟩, o0.mono (Le.new hpF) fun q _ u hu => g.h q u hu⟩
        obtain ⟨u, hu⟩ := o0.here q hq
        rw [upd_ne (ne_of_none hu pn)]
        exact (k2 q hq).1
    · exact absurd ae.symm G.nb
  · exact absurd ae.symm G.nb
end
end Um
namespace Um
open L2 PySem PySem.Spec PyProof.Rows
theorem se_q2v {ca : Str → Addr} {X : Cx} {W : WX} {H0 : Hp} {env : En} {e : Expr} {r : R D} {s : Sh} (h : SE ca X W H0 (.q s) env e r) : SE ca X W H0 .v env e r := fun F H σ Q le ok hp => by
  refine h F H σ Q le ok ?_
  cases r with
  | ok d =>
    rintro v F' H' g ⟨cs, nd, n, o⟩
    have hF : ∀ p, p ∈ cs → F' p = none := fun p hp => (n p hp).2
    refine hp v (lent F' H' cs) H' ⟨g.f.trans (lent_le hF), g.h, lent_leH g.fh, fun p u hu hn => ?_⟩ (o.rep hF fun p hp => hp)
    have : ¬ p ∈ cs := fun hp => by rw [(n p hp).1] at hu; cases hu
    rw [lent_out this]
    exact g.fr p u hu hn
  | er x => exact hp
  | bad => exact hp
theorem se_q2r {ca : Str → Addr} {X : Cx} {W : WX} {H0 : Hp} {env : En} {e : Expr} {r : R D} {s : Sh} (h : SE ca X W H0 (.q s) env e r) : SE ca X W H0 .r env e r := se_v2r (se_q2v h)
end Um

namespace Um
open L2 PySem PySem.Spec PyProof.Rows

def shAt : Sh → Nat → Option Sh
  | .c h _, 0 => some h
  | .c _ s, k + 1 => shAt s k
  | _, _ => none
section
variable {K : PySem.W.Frag} {ca : Str → Addr} {F H F' H' : Hp}
theorem owns_at : ∀ {s : Sh} {cs : List Addr} {vs : List V} {ds : List D} {k : Nat}, Owns K ca F H s cs vs ds → shAt s k = some .o → ∃ p d, vs[k]? = some (.ref p) ∧ ds[k]? = some d ∧ p ∈ cs ∧ OwnAt K ca F H p d
  | _, _, _, _, k, .nil, h => by cases k <;> cases h
  | _, _, _, _, 0, .cons a r, h => by
      cases h
      cases a with
      | lst o => exact ⟨_, _, rfl, rfl, List.mem_append_left _ List.mem_cons_self, o⟩
  | _, _, _, _, k + 1, .cons a r, h => by
      obtain ⟨p, d, h1, h2, h3, h4⟩ := owns_at r (k := k) h
      exact ⟨p, d, by simpa using h1, by simpa using h2, List.mem_append_right _ h3, h4⟩
theorem owns_set {ob : HO} : ∀ {s : Sh} {cs : List Addr} {vs : List V} {ds : List D} {k : Nat} {p : Addr} {d : D}, Owns K ca F H s cs vs ds → cs.Nodup → shAt s k = some .o → vs[k]? = some (.ref p) → OwnAt K ca F (upd H p ob) p d → Owns K ca F (upd H p ob) s cs vs (ds.set k d)
  | _, _, _, _, k, p, d, .nil, _, h, _, _ => by cases k <;> cases h
  | _, _, _, _, 0, p, d, .cons a r, nd, h, hv, o => by
      cases h
      cases a with
      | lst o0 =>
        have e := Option.some.inj hv
        cases e
        have nd' : (p :: _).Nodup := nd
        rw [List.nodup_cons] at nd'
        exact .cons (.lst o) (r.mono (Le.refl _) fun q hq u hu => by
          have : q ≠ p := fun e => nd'.1 (e ▸ hq)
          rw [upd_ne this]; exact hu)
  | _, _, _, _, k + 1, p, d, .cons a r, nd, h, hv, o => by
      have hv' := (by simpa using hv : _ = some (V.ref p))
      obtain ⟨nd1, nd2, nd3⟩ := List.nodup_append.mp nd
      obtain ⟨p', d', h1, _, h3, _⟩ := owns_at r (k := k) h
      rw [hv'] at h1
      cases h1
      have := owns_set (k := k) r nd2 h hv' o
      simpa using Owns.cons (a.mono (Le.refl _) fun q hq u hu => by
        have : q ≠ p := fun e => nd3 q hq p h3 e
        rw [upd_ne this]; exact hu) this
end
def qAt (d : D) (k : Nat) : R (List D) := match d with
  | .tup ds => (match ds[k]? with | some (.lst xs) => .ok xs | _ => .bad)
  | _ => .bad
def qSet (d : D) (k : Nat) (z : D) : D := match d with
  | .tup ds => .tup (ds.set k z)
  | d => d
section
variable {α : Type} {P : Pt α} {nx bk ct : Jp α} {env : En} {rest : List Stmt}
/-- x[k].append(e) -/
theorem sq_app (G : P.Good) {i k : Nat} {s : Sh} {d : D} {x : Str} {e : Expr} {re : R D} {kk : D → R α} {px apos cpos pos spos ipos : Pos} {jj : Nat} (h : SE P.ca P.X P.W P.H0 .v env e re)
    (hk : ∀ y, SSsQ P nx bk ct env i (.t s) (qSet d k y) rest (kk y)) (hsh : shAt s k = some .o := by rfl) (hn : env[i]? = some none := by rfl) (hN : P.X.N[i]? = some x := by rfl)
    (hv : Vis P.X.env.scope x := by first | exact Or.inl rfl | exact Or.inr (Or.inl rfl) | exact Or.inr (Or.inr rfl)) (hd : (x == ("__debug__" : Str)) = false := by decide) (hcd : (x == ("__classdict__" : Str)) = false := by decide)
    (hpi : PlainIx (.Constant (.int (k : Int)) jj ipos) := by exact fun _ _ => rfl)
    (hs : starEach [e] P.X.env = (false, eval e P.X.env) :: starEach [] P.X.env := by rfl)
    (hbase : attributeBase (.Subscript (.Name x px) (.Constant (.int (k : Int)) jj ipos) spos) "append" P.X.env (eval (.Subscript (.Name x px) (.Constant (.int (k : Int)) jj ipos) spos) P.X.env) = eval (.Subscript (.Name x px) (.Constant (.int (k : Int)) jj ipos) spos) P.X.env := by rfl)
    (hfew : ((backTo cpos (starEach [e] P.X.env)).all (fun x => !x.1) && (backToKw cpos (keywordEach [] P.X.env)).all (fun x => x.1.isSome)
      && decide ([e].length + ([] : List Keyword).length + (if ([] : List Keyword).isEmpty then 0 else 1) < 30)) = true := by rfl)
    (hline : (apos.endLine == cpos.line) = true := by rfl) (hplain : (backTo cpos (starEach [] P.X.env)).any (·.1) = false := by rfl) :
    SSsQ P nx bk ct env i (.t s) d (.Expr (.Call (.Attribute (.Subscript (.Name x px) (.Constant (.int (k : Int)) jj ipos) spos) "append" apos) [e] [] cpos) pos :: rest) ((qAt d k).bind fun xs => re.bind fun y => (dApp xs y).bind kk) := fun D hr hn' hb hct σ H ⟨F, a⟩ => by
  obtain ⟨cs, v, h1, nd, hc, o⟩ := a.ow
  obtain ⟨p, vs, ds, cs, rfl, rfl, rfl, ht, r⟩ : ∃ (p : Addr) (vs : List V) (ds : List Um.D) (cs' : List Addr), v = .ref p ∧ d = .tup ds ∧ cs = p :: cs' ∧ H p = some (.tup vs) ∧ Owns P.X.K P.ca F H s cs' vs ds := by
    cases o with
    | tup ht r => exact ⟨_, _, _, _, rfl, rfl, rfl, ht, r⟩
  obtain ⟨p', d0, h2, h3, h4, h5⟩ := owns_at r hsh
  have hq : ∃ xs, d0 = .lst xs := by
    have ae := a.at_.eq
    simp only [qAt, h3] at ae
    split at ae
    · rename_i xs hxs
      exact ⟨xs, Option.some.inj hxs⟩
    · exact absurd ae.symm G.nb
  obtain ⟨xs, rfl⟩ := hq
  refine .cons (ps_expr (pe_bm PySem.F.plainAttrs_list PySem.F.slot_list_append PySem.F.type_list_append mt_append (pe_ix ix_tup (pe_var hN hv hd hcd) pe_int hpi) (pa_cons pe_W pa_nil hs) hbase hfew hline hs hplain)) ?_
  obtain ⟨ws, hl, rr⟩ := ownLst h5
  refine ⟨_, h1, ⟨p, vs, (k : Int), .ref p', rfl, rfl, .inl (.inl ht), atI_nat h2, .inl ⟨rfl, ws, .inl (.inl hl)⟩, ?_⟩⟩
  have a0 : AtF P F env (re.bind fun y => (dApp xs y).bind kk) σ H := ⟨a.at_.go, a.at_.en, a.at_.ho, by
    have ae := a.at_.eq
    simp only [qAt, h3, R.bind_ok] at ae
    exact ae⟩
  refine a0.ev G h fun y w F' H' _ g q a' => ?_
  have ae := a'.eq
  unfold dApp at ae
  split at ae
  · rename_i hz
    refine ⟨p', ws, w, rfl, rfl, g.h _ _ hl, by rw [rr.length]; exact hz, ?_⟩
    have hcp := hc p' (List.mem_cons_of_mem _ h4)
    have hF' : F' p' = none := g.fr p' _ hl hcp.1
    have go' : Go P.F0 P.H0 F' (upd H' p' (.lst (ws ++ [w]))) := ⟨a'.go.f, fun b u e => by rw [upd_ne (ne_of_none e hcp.2)]; exact a'.go.h b u e, fun b u e => by rw [upd_ne (ne_of_none e hF')]; exact a'.go.fh b u e, a'.go.fr⟩
    refine hk _ D hr hn' hb hct σ _ ⟨F', ⟨go', a'.en.shrink a.no (Le.refl _) go'.h, a'.ho, ae⟩, a.no, p :: cs, .ref p, h1, nd, fun q hq => ?_, ?_⟩
    · obtain ⟨u, hu⟩ := (Own.tup ht r).here q hq
      exact ⟨g.fr q u hu (hc q hq).1, (hc q hq).2⟩
    · have hpp : p ≠ p' := fun e => by
        have := (List.nodup_cons.mp nd).1
        exact this (e ▸ h4)
      have r' := r.mono (H' := H') g.f fun q _ u hu => g.h q u hu
      exact .tup (by rw [upd_ne hpp]; exact g.h _ _ ht) (owns_set r' (List.nodup_cons.mp nd).2 hsh h2 (.inl ⟨_, _, rfl, upd_same, (rr.mono g.f).snoc q⟩))
  · exact absurd ae.symm G.nb
end

/-! ## a def that uses up the tree that it gets -/
def spE (K : PySem.W.Frag) (ca : Str → Addr) (s : Sh) (f : D → R D) : Sp := fun vs H Q E =>
  ∃ F Hs cs v d, vs = [v] ∧ Le F Hs ∧ Le Hs H ∧ cs.Nodup ∧ (∀ p, p ∈ cs → Hs p = none) ∧ Own K ca F H s cs v d ∧ Post K ca .v (fun x F' H' => ∀ c d, ExcRep K ca F' c d x → E c d H') F Hs (f d) Q
structure DefE (P : Program) (w : World) (K : PySem.W.Frag) (mg : Str → Option Value) (base : Heap) (ca : Str → Addr) (x : Str) (n : Nat) (s : Sh) (f : D → R D) : Prop where
  ex : ∃ (a : Addr) (fd : FuncData) (ps : List Str), FnOk P w K mg base (L2.CX P w) n a fd ps (spE K ca s f) ∧ mg x = some (.ref a) ∧ PySem.W.keepIn K (.ref a) = true ∧ Binds K fd ps []
theorem def_okE {P : Program} {w : World} {K : PySem.W.Frag} {mg : Str → Option Value} {base : Heap} {ca : Str → Addr} {x qual : Str} {st : Stmt} {a : Addr} {fd : FuncData} {N ps : List Str} {k : Nat} {sh : Sh} {f : D → R D}
    (F : Fun K x qual st a fd) (S : FnScope N ps (defScope st)) (hm : ps.length = 1) (hN : ps.length ≤ N.length)
    (gm : mg x = some (.ref a)) (b : Binds K fd ps [])
    (body : ∀ (cdv : Value) (A : Around) (outer : List Env) (s : Shared) (H Hs : Hp) (Q : VK) (E : XK) (F0 : Hp) (d : D), Room k (A.deeper (envOfC qual (defScope st) s.heap.objs.size a cdv)) →
      (Pt.mk ca (cxOf (L2.CX P w) P w K mg base N qual (defScope st) a cdv A outer s H E) (fun c d _ H' => E c d H') F0 Hs [] (f d) R.ok .v Q).Good →
      SSsQ (Pt.mk ca (cxOf (L2.CX P w) P w K mg base N qual (defScope st) a cdv A outer s H E) (fun c d _ H' => E c d H') F0 Hs [] (f d) R.ok .v Q) (jEnd .v) jNo jNo (List.replicate N.length none) 0 sh d (defBody st) (f d)) :
    DefE P w K mg base ca x (k + 1) sh f := by
  refine ⟨a, fd, ps, F.okX S (fun vs H Q E h => ?_) (fun cdv A outer s H vs Q E hr h => ?_), gm, F.kp, b⟩
  · obtain ⟨F0, Hs, cs, v, d, rfl, _⟩ := h
    rw [hm]; rfl
  · obtain ⟨F0, Hs, cs, v, d, rfl, le, le2, nd, hc, o, hp⟩ := h
    refine ⟨_, pss_W, ?_⟩
    have G : (Pt.mk ca (cxOf (L2.CX P w) P w K mg base N qual (defScope st) a cdv A outer s H E) (fun c d _ H' => E c d H') F0 Hs [] (f d) R.ok .v Q).Good := by
      refine ⟨S.nd, rfl, passes_of rfl, fun d' v F1 H1 e g r => ?_, fun z F1 H1 σ e g _ => ?_, fun e => ?_, fun d e => nomatch e⟩
      · have e' : f d = .ok d' := e
        rw [e'] at hp
        exact hp v F1 H1 g r
      · have e' : f d = .er z := e
        rw [e'] at hp
        exact hp F1 H1 g
      · have e' : f d = .bad := e
        rw [e'] at hp
        exact hp
    have h1N : 1 ≤ N.length := by rw [hm] at hN; exact hN
    refine body cdv A outer s H Hs Q E F0 d hr G _ rfl ?_ (fun _ _ z => z.elim) (fun _ _ z => z.elim) _ _ ⟨F0, ⟨⟨Le.refl _, le2, le.trans le2, fun _ _ _ n => n⟩, ⟨le2, ?_, fun i s h => ?_, fun i j x y h => ?_⟩, fun i s h => by simp at h, rfl⟩, fun j y hj => ?_, cs, v, ?_, nd, fun p hp => ⟨le.free (hc p hp), hc p hp⟩, o⟩
    · rintro e' r' ⟨rfl, -⟩ σ H1 ⟨F1, a1⟩
      exact G.rt .non .non F1 H1 a1.eq.symm a1.go Rep.non
    · show (L2.start N [v]).length = _
      unfold L2.start
      rw [List.length_append, List.length_map, List.length_replicate, List.length_replicate]
      simp; omega
    · rw [List.getElem?_replicate] at h; split at h <;> cases h
    · rw [List.getElem?_replicate] at h; split at h <;> cases h
    · rw [List.getElem?_replicate] at hj; split at hj <;> cases hj
    · rfl
section
variable {α : Type} {P : Pt α} {nx bk ct : Jp α} {env : En} {rest : List Stmt}
/-- tests that use the tree up -/
structure StP (P : Pt α) (F : Hp) (env : En) (σ : L2.St) (H : Hp) : Prop where
  go : Go P.F0 P.H0 F H
  en : EnOk P.X.K P.ca P.H0 F H σ env
  ho : HOk P F H σ
structure StQ (P : Pt α) (F : Hp) (env : En) (i : Nat) (s : Sh) (d : D) (σ : L2.St) (H : Hp) : Prop where
  st : StP P F env σ H
  no : ∀ (j : Nat) x, env[j]? ≠ some (some (.o x))
  ow : ∃ cs v, σ[i]? = some (some v) ∧ cs.Nodup ∧ (∀ p, p ∈ cs → F p = none ∧ P.H0 p = none) ∧ Own P.X.K P.ca F H s cs v d
def PostT (P : Pt α) (env : En) (σ : L2.St) (r : R Bool) (Q : Bool → Hp → Prop) : Prop := match r with
  | .ok b => ∀ F' H', StP P F' env σ H' → Q b H'
  | .er x => ∀ F' H', StP P F' env σ H' → ekOf P.X.K P.ca P.W σ x F' H'
  | .bad => False
def SQT (P : Pt α) (env : En) (i : Nat) (s : Sh) (d : D) (e : Expr) (r : R Bool) : Prop := ∀ F σ H Q, StQ P F env i s d σ H → PostT P env σ r Q → WT P.X e σ H Q
def SQW (P : Pt α) (env : En) (i : Nat) (s : Sh) (d : D) (e : Expr) (r : R Bool) : Prop := ∀ F σ H Q, StQ P F env i s d σ H → PostT P env σ r Q → WW P.X e σ H Q
theorem StQ.aq {F H : Hp} {i : Nat} {s : Sh} {d : D} {σ : L2.St} (a : StQ P F env i s d σ H) : AtQF P F env i s d P.res σ H := ⟨⟨a.st.go, a.st.en, a.st.ho, rfl⟩, a.no, a.ow⟩
theorem AtQF.sq {F H : Hp} {i : Nat} {s : Sh} {d : D} {r : R α} {σ : L2.St} (a : AtQF P F env i s d r σ H) : StQ P F env i s d σ H := ⟨⟨a.at_.go, a.at_.en, a.at_.ho⟩, a.no, a.ow⟩
theorem StQ.ev {F H : Hp} {i : Nat} {s : Sh} {d : D} {σ : L2.St} {e : Expr} {r : R Bool} {k : Bool → R Bool} {Q G : Bool → Hp → Prop} (a : StQ P F env i s d σ H) (hn : env[i]? = some none) (h : ST P.ca P.X P.W P.H0 (env.set i (some (.d d))) e r) (hp : PostT P env σ (r.bind k) Q)
    (hg : ∀ b H', StQ P F env i s d σ H' → PostT P env σ (k b) Q → G b H') : WT P.X e σ H G := by
  obtain ⟨F1, _, a1, back⟩ := a.aq.lend hn
  refine h F1 H σ G a1.go.fh a1.en ?_
  cases r with
  | ok b => exact fun F' H' g => hg b H' (back F' H' g).sq hp
  | er x => exact fun F' H' g => hp F' H' ⟨(a1.go.trans g), (back F' H' g).at_.en.shrink a.no (show Le F F' from fun p o e => g.f p o (by
      obtain ⟨cs, v, _, _, hc, _⟩ := a.ow
      exact ‹Le F F1› p o e)) (back F' H' g).at_.en.h0, fun j t hj => by
        obtain ⟨w, h1, h2⟩ := a.st.ho j t hj
        exact ⟨w, h1, h2.mono (Le.trans ‹Le F F1› g.f)⟩⟩
  | bad => exact hp
theorem sqw_or {i : Nat} {s : Sh} {d : D} {a b : Expr} {es : List Expr} {pos : Pos} {ta tb : R Bool} (h : ST P.ca P.X P.W P.H0 (env.set i (some (.d d))) a ta) (hb : SQW P env i s d (.BoolOp .Or (b :: es) pos) tb) (hn : env[i]? = some none := by rfl) : SQW P env i s d (.BoolOp .Or (a :: b :: es) pos) (R.or ta tb) := fun F σ H Q st hp => by
  refine ⟨_, pw_or pt_W pw_W, st.ev hn h hp fun k H1 st1 hp1 => ?_⟩
  cases k with
  | true => exact hp1 F H1 st1.st
  | false => exact hb F σ H1 Q st1 hp1
theorem sqw_or1 {i : Nat} {s : Sh} {d : D} {a : Expr} {pos : Pos} {ta : R Bool} (h : SQT P env i s d a ta) : SQW P env i s d (.BoolOp .Or [a] pos) ta := fun F σ H Q st hp => ⟨_, pw_or1 pt_W, h F σ H Q st hp⟩
theorem sqt_bool {i : Nat} {s : Sh} {d : D} {op} {es : List Expr} {pos : Pos} {ta : R Bool} (h : SQW P env i s d (.BoolOp op es pos) ta) : SQT P env i s d (.BoolOp op es pos) ta := fun F σ H Q st hp => ⟨_, PW.pt pw_W, h F σ H Q st hp⟩
theorem sqt_not {i : Nat} {s : Sh} {d : D} {a : Expr} {pos : Pos} {ta : R Bool} (h : SQT P env i s d a ta) : SQT P env i s d (.UnaryOp .Not a pos) (ta.bind bNot) := fun F σ H Q st hp => by
  refine ⟨_, pt_not pt_W, h F σ H _ st ?_⟩
  cases ta with
  | ok b => exact hp
  | er x => exact hp
  | bad => exact hp
/-- f(x) as a test -/
theorem sqt_call {i : Nat} {s : Sh} {d : D} {f x : Str} {n k : Nat} {m : D → R D} {p p' pos : Pos} (Df : DefE P.X.prog P.X.w P.X.K P.X.mg P.X.base P.ca f n s m) (hr : Room k P.X.A) (tk : Takes P.X P.W)
    (hnk : n ≤ k := by decide) (hg : Gl P.X f := by rfl) (hdb : (f == ("__debug__" : Str)) = false := by decide)
    (hN : P.X.N[i]? = some x := by rfl)
    (hv : Vis P.X.env.scope x := by first | exact Or.inl rfl | exact Or.inr (Or.inl rfl) | exact Or.inr (Or.inr rfl)) (hd : (x == ("__debug__" : Str)) = false := by decide) (hcd : (x == ("__classdict__" : Str)) = false := by decide)
    (hs : starEach [.Name x p'] P.X.env = (false, eval (.Name x p') P.X.env) :: starEach [] P.X.env := by rfl) (hpl : (backTo pos (starEach [] P.X.env)).any (·.1) = false := by rfl)
    (he : ∀ whole, isTrue (.Call (.Name f p) [.Name x p'] [] pos) P.X.env whole = (do let v ← whole; standAt (Expr.Call (.Name f p) [.Name x p'] [] pos).pos; holding [v] (truthy v)) := by intro _; rfl) :
    SQT P env i s d (.Call (.Name f p) [.Name x p'] [] pos) ((m d).bind dTruth) := fun F σ H Q st hp => by
  obtain ⟨a, fd, ps, G, gm, kp, b⟩ := Df.ex
  refine ⟨_, pt_truth (pe_callS G (hr.mono hnk) hg gm kp b (fun σ => passAt tk σ) (pa_cons (pe_var hN hv hd hcd) pa_nil hs) hdb hs hpl) he, ?_⟩
  obtain ⟨cs, v, h1, nd, hc, o⟩ := st.ow
  refine ⟨v, h1, ?_⟩
  let Hs : Hp := lent H (fun _ => none) cs
  have hin : ∀ q, q ∈ cs → Hs q = none := fun q hq => lent_in (F := H) (H := fun _ => none) hq
  have hout : ∀ q, ¬ q ∈ cs → Hs q = H q := fun q hq => lent_out (F := H) (H := fun _ => none) hq
  have le1 : Le F Hs := fun q u hu => by
    have : ¬ q ∈ cs := fun h => by rw [(hc q h).1] at hu; cases hu
    rw [hout q this]; exact st.st.go.fh q u hu
  have le0 : Le P.H0 Hs := fun q u hu => by
    have : ¬ q ∈ cs := fun h => by rw [(hc q h).2] at hu; cases hu
    rw [hout q this]; exact st.st.go.h q u hu
  have le2 : Le Hs H := fun q u hu => by
    by_cases h : q ∈ cs
    · rw [hin q h] at hu; cases hu
    · rw [hout q h] at hu; exact hu
  have back : ∀ F' H', Go F Hs F' H' → StP P F' env σ H' := fun F' H' g =>
    ⟨⟨st.st.go.f.trans g.f, le0.trans g.h, g.fh, fun q u hu hn => g.fr q u (le0 q u hu) (st.st.go.fr q u hu hn)⟩, st.st.en.shrink st.no g.f (le0.trans g.h), fun j t hj => by
      obtain ⟨w, h1, h2⟩ := st.st.ho j t hj
      exact ⟨w, h1, h2.mono g.f⟩⟩
  refine ⟨F, Hs, cs, v, d, rfl, le1, le2, nd, hin, o, ?_⟩
  cases hm : m d with
  | er z => rw [hm] at hp; exact fun F' H' g => hp F' H' (back F' H' g)
  | bad => rw [hm] at hp; exact hp
  | ok y =>
    rw [hm] at hp
    intro w F' H' g q
    have hp' : PostT P env σ (dTruth y) Q := hp
    cases hy : dTruth y with
    | ok t => rw [hy] at hp'; exact ⟨t, truth_ok g.fh (.inl q) hy, hp' F' H' (back F' H' g)⟩
    | er z => cases y <;> simp [dTruth] at hy; split at hy <;> cases hy
    | bad => rw [hy] at hp'; exact hp'.elim
theorem sq_eat (G : P.Good) {i : Nat} {s : Sh} {d : D} {c : Expr} {A : List Stmt} {tc : R Bool} {rA rB : R α} {pos : Pos} (h : SQT P env i s d c tc)
    (hA : SSs P jNo bk ct env A rA) (hB : SSs P nx bk ct env rest rB) :
    SSsQ P nx bk ct env i s d (.If c A [] pos :: rest) (tc.bind fun b => if b = true then rA else rB) := fun D hr hn' hb hc σ H ⟨F, a⟩ => by
  refine .cons (ps_if pt_W pss_W pss_W) ?_
  have ae := a.at_.eq
  refine h F σ H _ a.sq ?_
  cases tc with
  | er x => exact fun F' H' st => G.er x F' H' σ ae.symm st.go st.ho
  | bad => exact G.nb ae.symm
  | ok b =>
    intro F' H' st
    cases b with
    | true => exact hA { D with nx := fun σ' H' => WSs P.X rest D σ' H' } hr (fun _ _ z => z.elim) hb hc σ H' ⟨F', st.go, st.en, st.ho, ae⟩
    | false => exact ⟨_, pss_nil, hB D hr hn' hb hc σ H' ⟨F', st.go, st.en, st.ho, ae⟩⟩
end
end Um
namespace Um
open L2 PySem PySem.Spec PyProof.Rows
theorem law_sp {K : PySem.W.Frag} {ca : Str → Addr} {f : D → R D} {H : Hp} {a : Addr} {ns : List Int} (h : f (.scr (ns.map D.int)) = .ok (.bl true)) (hS : L2.SqL K H a (ns.map V.int)) : spOf K ca [.r] .v (fn1 f) [.ref a] H (fun v _ => v = .bl true) fun _ _ _ => False := by
  refine ⟨H, [.scr (ns.map D.int)], Le.refl H, .consR (.inl (.scr hS (Reps.ints ns))) .nil, ?_⟩
  show Post K ca .v _ H H (f (.scr (ns.map D.int))) _
  rw [h]
  intro v F' H' _ r
  cases r
  rfl
end Um

namespace Um
open L2 PySem PySem.Spec PyProof.Rows

/-! ## Reckoning with the mirrors -/
abbrev il (ns : List Int) : List D := ns.map D.int
@[simp] theorem rcons_ok (a : D) (b : List D) : R.cons (.ok a) (.ok b) = .ok (a :: b) := rfl
@[simp] theorem fn1_s (g : D → R D) (a : D) : fn1 g [a] = g a := rfl
@[simp] theorem fn2_s (g : D → D → R D) (a b : D) : fn2 g [a, b] = g a b := rfl
@[simp] theorem fn3_s (g : D → D → D → R D) (a b c : D) : fn3 g [a, b, c] = g a b c := rfl
@[simp] theorem fn4_s (g : D → D → D → D → R D) (a b c d : D) : fn4 g [a, b, c, d] = g a b c d := rfl
@[simp] theorem fn5_s (g : D → D → D → D → D → R D) (a b c d e : D) : fn5 g [a, b, c, d, e] = g a b c d e := rfl
@[simp] theorem fn6_s (g : D → D → D → D → D → D → R D) (a b c d e f : D) : fn6 g [a, b, c, d, e, f] = g a b c d e f := rfl
@[simp] theorem joinC_s {S β : Type} (f : (S → β) → β) (k : S → β) : joinC f k = f k := rfl
@[simp] theorem dSub_s (a b : Int) : dSub (.int a) (.int b) = .ok (.int (a - b)) := rfl
@[simp] theorem dAdd_s (a b : Int) : dAdd (.int a) (.int b) = .ok (.int (a + b)) := rfl
@[simp] theorem dNeg_s (a : Int) : dNeg (.int a) = .ok (.int (-a)) := rfl
@[simp] theorem dLt_s (a b : Int) : dLt (.int a) (.int b) = .ok (decide (a < b)) := rfl
@[simp] theorem dGt_s (a b : Int) : dGt (.int a) (.int b) = .ok (decide (b < a)) := rfl
@[simp] theorem dLe_s (a b : Int) : dLe (.int a) (.int b) = .ok (decide (a ≤ b)) := rfl
@[simp] theorem dGe_s (a b : Int) : dGe (.int a) (.int b) = .ok (decide (b ≤ a)) := rfl
@[simp] theorem dTruth_bl (b : Bool) : dTruth (.bl b) = .ok b := rfl
@[simp] theorem dTruth_int (i : Int) : dTruth (.int i) = .ok (i != 0) := rfl
@[simp] theorem dNot_s (b : Bool) : dNot (.bl b) = .ok (.bl (!b)) := rfl
@[simp] theorem dInt_s (i : Int) : dInt (.int i) = .ok (.int i) := rfl
@[simp] theorem dLen_l (xs : List D) : dLen (.lst xs) = .ok (.int xs.length) := rfl
@[simp] theorem dLen_sc (xs : List D) : dLen (.scr xs) = .ok (.int xs.length) := rfl
@[simp] theorem dLen_t (xs : List D) : dLen (.tup xs) = .ok (.int xs.length) := rfl
@[simp] theorem dList_l (xs : List D) : dList (.lst xs) = .ok (.lst xs) := rfl
@[simp] theorem dList_t (xs : List D) : dList (.tup xs) = .ok (.lst xs) := rfl
@[simp] theorem dTuple_l (xs : List D) : dTuple (.lst xs) = .ok (.tup xs) := rfl
@[simp] theorem dTuple_t (xs : List D) : dTuple (.tup xs) = .ok (.tup xs) := rfl
@[simp] theorem dItems_l (xs : List D) : dItems (.lst xs) = .ok xs := rfl
@[simp] theorem dItems_t (xs : List D) : dItems (.tup xs) = .ok xs := rfl
@[simp] theorem dMax2_s (a b : Int) : dMax2 (.int a) (.int b) = .ok (.int (max a b)) := by
  show R.ok (D.int (if b > a then b else a)) = _
  by_cases h : b > a
  · rw [if_pos h, Int.max_eq_right (by omega)]
  · rw [if_neg h, Int.max_eq_left (by omega)]
@[simp] theorem dMin2_s (a b : Int) : dMin2 (.int a) (.int b) = .ok (.int (min a b)) := by
  show R.ok (D.int (if b < a then b else a)) = _
  by_cases h : b < a
  · rw [if_pos h, Int.min_eq_right (by omega)]
  · rw [if_neg h, Int.min_eq_left (by omega)]
@[simp] theorem dPart_s (i : Int) : dPart (.int i) = .ok (some i) := rfl
theorem short_of {xs : List D} (h : xs.length ≤ 1000) : short xs := by
  unfold short; rw [sizeLine_eq]; omega
theorem dLst_s {xs : List D} (h : xs.length ≤ 1000) : dLst xs = .ok (.lst xs) := if_pos (short_of h)
theorem dTup_s {xs : List D} (h : xs.length ≤ 1000) : dTup xs = .ok (.tup xs) := if_pos (short_of h)
theorem finC_s {xs : List D} (h : xs.length ≤ 1000) : finC xs = .ok (.lst xs) := if_pos (short_of h)
theorem dApp_s {xs : List D} (d : D) (h : xs.length < 1000) : dApp xs d = .ok (.lst (xs ++ [d])) := if_pos (by rw [sizeLine_eq]; omega)
@[simp] theorem dLst_0 : dLst [] = .ok (.lst []) := dLst_s (by simp)
@[simp] theorem dLst_1 (a : D) : dLst [a] = .ok (.lst [a]) := dLst_s (by simp)
@[simp] theorem dTup_0 : dTup [] = .ok (.tup []) := dTup_s (by simp)
@[simp] theorem dTup_1 (a : D) : dTup [a] = .ok (.tup [a]) := dTup_s (by simp)
@[simp] theorem dTup_2 (a b : D) : dTup [a, b] = .ok (.tup [a, b]) := dTup_s (by simp)
@[simp] theorem dTup_3 (a b c : D) : dTup [a, b, c] = .ok (.tup [a, b, c]) := dTup_s (by simp)
theorem dCat_s {a b : List D} (h : a.length + b.length ≤ 1000) : dCat (.lst a) (.lst b) = .ok (.lst (a ++ b)) := if_pos (by rw [sizeLine_eq]; omega)
theorem dMul_l {a b : Int} (h1 : -18446744073709551616 < a) (h2 : a < 18446744073709551616) : dMul (.int a) (.int b) = .ok (.int (a * b)) := if_pos (.inl ⟨by simpa using h1, by simpa using h2⟩)
theorem dMod_s {a b : Int} (h : 0 < b) : dMod (.int a) (.int b) = .ok (.int (a % b)) := by
  show (if b ≠ 0 then R.ok (D.int (a.fmod b)) else R.bad) = _
  rw [if_pos (by omega), Int.fmod_eq_emod_of_nonneg a (by omega)]
theorem dFdiv_s {a b : Int} (h : 0 < b) (h2 : b < 1073741824) : dFdiv (.int a) (.int b) = .ok (.int (a / b)) := by
  show (if b ≠ 0 ∧ b.natAbs < 1073741824 then R.ok (D.int (a.fdiv b)) else R.bad) = _
  rw [if_pos (by omega), Int.fdiv_eq_ediv_of_nonneg a (by omega)]
theorem dPow_s {a b : Int} (h : 0 ≤ b) (h2 : b ≤ 1000000) (h3 : a.natAbs < 18446744073709551616) : dPow (.int a) (.int b) = .ok (.int (a ^ b.toNat)) := if_pos ⟨h, h2, by simpa using h3⟩
/-! ### == -/
theorem eqv_int (a b : Int) : PyData.eqv (.int a) (.int b) = decide (a = b) := by
  unfold PyData.eqv
  by_cases h : a = b <;> simp [h]
theorem shaped_int (a : Int) : SeqAt.shaped (.int a) = true := by
  simp [SeqAt.shaped, PyData.canLay0, PyData.depth]
@[simp] theorem dEq_s (a b : Int) : dEq (.int a) (.int b) = .ok (decide (a = b)) := by
  unfold dEq
  simp only [toPy, shaped_int, eqv_int, and_self, if_true]
@[simp] theorem dNe_s (a b : Int) : dNe (.int a) (.int b) = .ok (!decide (a = b)) := by
  unfold dNe; rw [dEq_s]; rfl
theorem toPys_il : ∀ ns : List Int, toPys (il ns) = some (ns.map PyData.int)
  | [] => by simp [toPys]
  | n :: ns => by
    show toPys (D.int n :: il ns) = _
    rw [toPys, toPy, toPys_il ns]; rfl
theorem canLayAll_il : ∀ ns : List Int, PyData.canLayAll0 (ns.map PyData.int) = true
  | [] => by simp [PyData.canLayAll0]
  | n :: ns => by simp [PyData.canLayAll0, PyData.canLay0, canLayAll_il ns]
theorem depthAll_il : ∀ ns : List Int, PyData.depthAll (ns.map PyData.int) = 0
  | [] => by simp [PyData.depthAll]
  | n :: ns => by simp [PyData.depthAll, PyData.depth, depthAll_il ns]
theorem shaped_il (ns : List Int) : SeqAt.shaped (.list (ns.map PyData.int)) = true := by
  simp [SeqAt.shaped, PyData.canLay0, PyData.depth, canLayAll_il, depthAll_il]
theorem shaped_it (ns : List Int) : SeqAt.shaped (.tuple (ns.map PyData.int)) = true := by
  simp [SeqAt.shaped, PyData.canLay0, PyData.depth, canLayAll_il, depthAll_il]
theorem eqvAll_il : ∀ a b : List Int, PyData.eqvAll (a.map PyData.int) (b.map PyData.int) = decide (a = b)
  | [], [] => by simp [PyData.eqvAll]
  | [], b :: bs => by simp [PyData.eqvAll]
  | a :: as, [] => by simp [PyData.eqvAll]
  | a :: as, b :: bs => by
    simp only [List.map_cons, PyData.eqvAll, eqv_int, eqvAll_il as bs]
    by_cases h : a = b <;> by_cases h2 : as = bs <;> simp [h, h2]
theorem dEq_il (a b : List Int) : dEq (.lst (il a)) (.lst (il b)) = .ok (decide (a = b)) := by
  unfold dEq
  simp only [toPy, toPys_il, Option.map_some, shaped_il, and_self, if_true, PyData.eqv, eqvAll_il]
theorem dEq_it (a b : List Int) : dEq (.tup (il a)) (.tup (il b)) = .ok (decide (a = b)) := by
  unfold dEq
  simp only [toPy, toPys_il, Option.map_some, shaped_it, and_self, if_true, PyData.eqv, eqvAll_il]
theorem dNe_il (a b : List Int) : dNe (.lst (il a)) (.lst (il b)) = .ok (!decide (a = b)) := by
  unfold dNe; rw [dEq_il]; rfl
theorem dNe_it (a b : List Int) : dNe (.tup (il a)) (.tup (il b)) = .ok (!decide (a = b)) := by
  unfold dNe; rw [dEq_it]; rfl
theorem intsOf_il (ns : List Int) : intsOf (il ns) = some ns := intsOf_map ns
theorem dIn_il (i : Int) (ns : List Int) : dIn (.int i) (.lst (il ns)) = .ok (decide (i ∈ ns)) := by
  unfold dIn
  simp only [isInt, itemsOf, Option.bind_some, intsOf_il]
theorem dNotIn_il (i : Int) (ns : List Int) : dNotIn (.int i) (.lst (il ns)) = .ok (!decide (i ∈ ns)) := by
  unfold dNotIn; rw [dIn_il]; rfl
theorem dIn_it (i : Int) (ns : List Int) : dIn (.int i) (.tup (il ns)) = .ok (decide (i ∈ ns)) := by
  unfold dIn
  simp only [isInt, itemsOf, Option.bind_some, intsOf_il]
theorem dNotIn_it (i : Int) (ns : List Int) : dNotIn (.int i) (.tup (il ns)) = .ok (!decide (i ∈ ns)) := by
  unfold dNotIn; rw [dIn_it]; rfl
@[simp] theorem dSum_il (ns : List Int) : dSum (.lst (il ns)) = .ok (.int ns.sum) := by
  unfold dSum; simp only [intsOf_il]
@[simp] theorem flat_il (ns : List Int) : flat (.lst (il ns)) = .ok (.lst (il ns)) := by
  unfold flat; simp only [intsOf_il]
/-! ### subscripts -/
theorem dIx_get {xs : List D} {i : Int} {d : D} (h0 : 0 ≤ i) (h : xs[i.toNat]? = some d) : dIx (.lst xs) (.int i) = .ok d := by
  have e : atI xs i = some d := by
    have := L2.atI_nat h
    rwa [Int.toNat_of_nonneg h0] at this
  unfold dIx; simp only [e]
theorem dIx_getT {xs : List D} {i : Int} {d : D} (h0 : 0 ≤ i) (h : xs[i.toNat]? = some d) : dIx (.tup xs) (.int i) = .ok d := by
  have e : atI xs i = some d := by
    have := L2.atI_nat h
    rwa [Int.toNat_of_nonneg h0] at this
  unfold dIx; simp only [e]
theorem dIx_getS {xs : List D} {i : Int} {d : D} (h0 : 0 ≤ i) (h : xs[i.toNat]? = some d) : dIx (.scr xs) (.int i) = .ok d := by
  have e : atI xs i = some d := by
    have := L2.atI_nat h
    rwa [Int.toNat_of_nonneg h0] at this
  unfold dIx; simp only [e]
theorem dIx_il {ns : List Int} {i : Int} (h0 : 0 ≤ i) (h : i < ns.length) : dIx (.lst (il ns)) (.int i) = .ok (.int (ns[i.toNat]?.getD 0)) := by
  have hl : i.toNat < ns.length := by omega
  refine dIx_get h0 ?_
  rw [List.getElem?_map, List.getElem?_eq_getElem hl]; rfl
theorem dIx_it {ns : List Int} {i : Int} (h0 : 0 ≤ i) (h : i < ns.length) : dIx (.tup (il ns)) (.int i) = .ok (.int (ns[i.toNat]?.getD 0)) := by
  have hl : i.toNat < ns.length := by omega
  refine dIx_getT h0 ?_
  rw [List.getElem?_map, List.getElem?_eq_getElem hl]; rfl
/-! ### ranges, loops -/
theorem dRng1_s {n : Int} (h0 : 0 ≤ n) (h : n < 4611686018427387904) : dRng1 [.int n] = .ok (rngD 0 1 n.toNat) := if_pos ⟨by omega, by simpa using h⟩
theorem rngD_0 (lo c : Int) : rngD lo c 0 = [] := rfl
theorem rngD_succ (lo c : Int) (n : Nat) : rngD lo c (n + 1) = .int lo :: rngD (lo + c) c n := by
  unfold rngD
  rw [List.range_succ_eq_map, List.map_cons, List.map_map]
  congr 1
  · simp
  · refine List.map_congr_left fun i _ => ?_
    simp only [Function.comp]
    congr 1
    have : ((i.succ : Nat) : Int) * c = (i : Int) * c + c := by
      rw [Nat.succ_eq_add_one, Int.natCast_add, Int.add_mul]; simp
    rw [this]; omega
/-- a loop that always goes on -/
theorem forC_inv {S α : Type} (I : Nat → S → Prop) {ds : List D} {s : S} {body : D → S → (S → R α) → (S → R α) → R α} {after : S → R α}
    (h0 : I 0 s) (hb : ∀ i d s, ds[i]? = some d → I i s → ∃ s', I (i + 1) s' ∧ ∀ nx bk, body d s nx bk = nx s') : ∃ s', I ds.length s' ∧ forC ds s body after = after s' := by
  induction ds generalizing s I with
  | nil => exact ⟨s, h0, rfl⟩
  | cons d ds ih =>
    obtain ⟨s1, i1, e1⟩ := hb 0 d s rfl h0
    obtain ⟨s2, i2, e2⟩ := ih (fun i => I (i + 1)) i1 fun i d s hd hi => hb (i + 1) d s (by simpa using hd) hi
    refine ⟨s2, i2, ?_⟩
    show body d s (fun s' => forC ds s' body after) after = _
    rw [e1, e2]
theorem forC_P {S α : Type} (P : R α → Prop) (I : Nat → S → Prop) {ds : List D} {s : S} {body : D → S → (S → R α) → (S → R α) → R α} {after : S → R α}
    (h0 : I 0 s) (hb : ∀ i d s, ds[i]? = some d → I i s → ∃ s', I (i + 1) s' ∧ ∀ nx bk, body d s nx bk = nx s') (ha : ∀ s, I ds.length s → P (after s)) : P (forC ds s body after) := by
  obtain ⟨s', i, e⟩ := forC_inv I h0 hb
  rw [e]; exact ha s' i
theorem joinC_ex {f : (Unit → R D) → R D} {K : Unit → R D} {P : Int → Prop} (hK : ∃ r : Int, K () = .ok (.int r) ∧ P r) (hf : ∀ K' : Unit → R D, (∃ r : Int, K' () = .ok (.int r) ∧ P r) → ∃ r : Int, f K' = .ok (.int r) ∧ P r) : ∃ r : Int, joinC f K = .ok (.int r) ∧ P r := hf K hK
/-- a loop over ints that always goes on, as a fold -/
theorem forC_fold {S T α : Type} (st : T → S) (step : T → Int → T) (I : Nat → T → Prop) {ws : List Int} {s : T} {body : D → S → (S → R α) → (S → R α) → R α} {after : S → R α}
    (h0 : I ws.length s) (hb : ∀ k w s, w ∈ ws → I (k + 1) s → I k (step s w) ∧ ∀ nx bk, body (.int w) (st s) nx bk = nx (st (step s w))) : forC (il ws) (st s) body after = after (st (ws.foldl step s)) := by
  induction ws generalizing s with
  | nil => rfl
  | cons w ws ih =>
    obtain ⟨i1, e1⟩ := hb ws.length w s List.mem_cons_self h0
    show body (.int w) (st s) (fun s' => forC (il ws) s' body after) after = _
    rw [e1]
    exact ih i1 fun k w' s' hw' => hb k w' s' (List.mem_cons_of_mem _ hw')
/-- down to 0 -/
def downF {T : Type} (step : T → Nat → T) : Nat → T → T
  | 0, s => s
  | n + 1, s => downF step n (step s n)
theorem forC_down {S T α : Type} (st : T → S) (step : T → Nat → T) (I : Nat → T → Prop) {n : Nat} {s : T} {body : D → S → (S → R α) → (S → R α) → R α} {after : S → R α}
    (h0 : I n s) (hb : ∀ k s, k < n → I (k + 1) s → I k (step s k) ∧ ∀ nx bk, body (.int (k : Int)) (st s) nx bk = nx (st (step s k))) : forC (rngD ((n : Int) - 1) (-1) n) (st s) body after = after (st (downF step n s)) := by
  induction n generalizing s with
  | zero => rfl
  | succ n ih =>
    rw [rngD_succ]
    have e : ((n + 1 : Nat) : Int) - 1 = (n : Int) := by omega
    obtain ⟨i1, e1⟩ := hb n s (by omega) h0
    show body (.int (((n + 1 : Nat) : Int) - 1)) (st s) (fun s' => forC (rngD (((n + 1 : Nat) : Int) - 1 + -1) (-1) n) s' body after) after = _
    rw [e, e1]
    exact ih i1 fun k s hk => hb k s (by omega)
theorem compC_ints {lo c : Int} {n : Nat} {e : D → R D} (h : ∀ i : Nat, i < n → ∃ v : Int, e (.int (lo + (i : Int) * c)) = .ok (.int v)) : ∃ bs : List Int, compC (rngD lo c n) yes e = .ok (il bs) ∧ bs.length = n := by
  induction n generalizing lo with
  | zero => exact ⟨[], rfl, rfl⟩
  | succ n ih =>
    obtain ⟨v, hv⟩ := h 0 (by omega)
    obtain ⟨bs, h1, h2⟩ := ih (lo := lo + c) fun i hi => by
      obtain ⟨u, hu⟩ := h (i + 1) (by omega)
      refine ⟨u, ?_⟩
      rw [← hu]
      congr 2
      have : ((i + 1 : Nat) : Int) * c = (i : Int) * c + c := by rw [Int.natCast_add, Int.add_mul]; simp
      rw [this]; omega
    refine ⟨v :: bs, ?_, by rw [List.length_cons, h2]⟩
    rw [rngD_succ]
    have hv' : e (.int lo) = .ok (.int v) := by rw [← hv]; simp
    simp only [compC, yes, noEr_ok, R.bind_ok, if_true, hv', h1]
    rfl
theorem compC_il {ns : List Int} {e : D → R D} {f : Int → Int} (h : ∀ i, i ∈ ns → e (.int i) = .ok (.int (f i))) : compC (il ns) yes e = .ok (il (ns.map f)) := by
  induction ns with
  | nil => rfl
  | cons n ns ih =>
    have ih := ih fun i hi => h i (List.mem_cons_of_mem _ hi)
    show compC (.int n :: il ns) yes e = _
    simp only [compC, yes, noEr_ok, R.bind_ok, if_true, h n List.mem_cons_self, ih]
    rfl
theorem compC_map {ds : List D} {e : D → R D} {f : D → D} (h : ∀ d, d ∈ ds → e d = .ok (f d)) : compC ds yes e = .ok (ds.map f) := by
  induction ds with
  | nil => rfl
  | cons d ds ih =>
    simp only [compC, yes, noEr, R.bind_ok, if_true, h d List.mem_cons_self, List.map_cons]
    have := ih fun d hd => h d (List.mem_cons_of_mem _ hd)
    simp only [this, R.bind_ok]
theorem compC_filter {ds : List D} {c : D → R Bool} {e : D → R D} {p : D → Bool} {f : D → D} (hc : ∀ d, d ∈ ds → c d = .ok (p d)) (h : ∀ d, d ∈ ds → p d = true → e d = .ok (f d)) : compC ds c e = .ok ((ds.filter p).map f) := by
  induction ds with
  | nil => rfl
  | cons d ds ih =>
    have ih := ih (fun d hd => hc d (List.mem_cons_of_mem _ hd)) fun d hd => h d (List.mem_cons_of_mem _ hd)
    simp only [compC, hc d List.mem_cons_self, noEr_ok, R.bind_ok]
    cases hp : p d with
    | true => simp only [if_true, h d List.mem_cons_self hp, noEr_ok, R.bind_ok, ih, List.filter_cons, hp, List.map_cons]
    | false => simp [ih, List.filter_cons, hp]
/-! ### slices -/
theorem cutD_all (xs : List D) : cutD xs none none = xs := by
  unfold cutD
  rw [HT.sIx_none, HT.sIx_none]; simp
theorem cutD_to1 (xs : List D) : cutD xs none (some (-1)) = xs.take (xs.length - 1) := by
  unfold cutD
  have e : HT.sIx xs.length xs.length (some (-1)) = xs.length - 1 := by
    show (if (-1 : Int) < 0 then ((-1 : Int) + (xs.length : Int)).toNat else min (-1 : Int).toNat xs.length) = _
    rw [if_pos (by decide)]; omega
  rw [HT.sIx_none, e]; simp
theorem cutD_from1 (xs : List D) : cutD xs (some (-1)) none = xs.drop (xs.length - 1) := by
  unfold cutD
  have e : HT.sIx xs.length 0 (some (-1)) = xs.length - 1 := by
    show (if (-1 : Int) < 0 then ((-1 : Int) + (xs.length : Int)).toNat else min (-1 : Int).toNat xs.length) = _
    rw [if_pos (by decide)]; omega
  rw [HT.sIx_none, e, List.take_of_length_le (by rw [List.length_drop]; omega)]
theorem il_take (ns : List Int) (n : Nat) : (il ns).take n = il (ns.take n) := (List.map_take ..).symm
theorem il_drop (ns : List Int) (n : Nat) : (il ns).drop n = il (ns.drop n) := (List.map_drop ..).symm
theorem il_len (ns : List Int) : (il ns).length = ns.length := List.length_map ..
theorem il_app (a b : List Int) : il a ++ il b = il (a ++ b) := (List.map_append ..).symm
theorem il_snoc (a : List Int) (b : Int) : il a ++ [D.int b] = il (a ++ [b]) := by simp [il]
end Um

namespace Um
open L2 PySem PySem.Spec PyProof.Rows
/-! ### mirrors -/
def m_remainders (a0 : D) : R D :=
  (R.bind (R.bind (R.ok []) dLst) fun d1 => (R.bind (R.ok (D.int 0)) fun d2 => (R.bind (dItems a0) fun ds => forC ds ((d1, d2) : (D × D)) (fun (x4 : D) (s3 : (D × D)) (nx5 bk6 : (D × D) → R D) => (R.bind (R.bind (R.cons (R.ok (D.int 0)) (R.cons (R.op2 dSub (R.ok x4) (R.ok s3.2)) (R.ok []))) (fn2 dMax2)) fun d8 => (R.bind (lstOf s3.1) fun xs => R.bind (R.ok d8) fun dv => R.bind (dApp xs dv) fun d9 => (nx5 (d9, d8))))) (fun (s3 : (D × D)) => (R.ok s3.1)))))
def m_best_chain (a0 : D) : R D :=
  (R.bind (R.bind (R.cons (R.ok a0) (R.ok [])) (fn1 m_remainders)) fun d1 => (R.bind (R.bind (R.ok []) dLst) fun d2 => (R.bind (R.bind (R.cons (R.op2 dSub (R.bind (R.cons (R.ok d1) (R.ok [])) (fn1 dLen)) (R.ok (D.int 1))) (R.cons (R.bind (R.ok (D.int 1)) dNeg) (R.cons (R.bind (R.ok (D.int 1)) dNeg) (R.ok [])))) dRng3) fun ds => forC ds (d2 : D) (fun (x4 : D) (s3 : D) (nx5 bk6 : D → R D) => (R.bind (R.and (R.op2 dGt (R.op2 dIx (R.ok d1) (R.ok x4)) (R.ok (D.int 0))) (R.op2 dNotIn (R.op2 dAdd (R.ok x4) (R.ok (D.int 1))) (R.ok s3))) fun b => if b = true then (R.bind (R.op2 dCat (R.bind (R.cons (R.ok x4) (R.ok [])) dLst) (R.ok s3)) fun d8 => (nx5 d8)) else (nx5 s3))) (fun (s3 : D) => (R.bind (R.op2 dCat (R.bind (R.bind (R.sl dSl (R.ok d1) (R.ok none) (R.bind (R.bind (R.ok (D.int 1)) dNeg) dPart)) dItems) fun ds => (compC ds yes (fun x10 => (R.ok (D.int 0)))).bind finC) (R.sl dSl (R.ok d1) (R.bind (R.bind (R.ok (D.int 1)) dNeg) dPart) (R.ok none))) fun d9 => (R.bind (R.bind (R.cons (R.ok s3) (R.cons (R.ok d9) (R.cons (R.sl dSlL (R.ok d1) (R.ok none) (R.bind (R.bind (R.ok (D.int 1)) dNeg) dPart)) (R.ok [])))) dTup) R.ok))))))
def m_law_int (a0 : D) : R D :=
  (R.bind (R.andV (R.bind (R.cons (R.ok a0) (R.cons (R.ok (D.ty "int")) (R.ok []))) (fn2 (dIsI []))) (R.bind (R.bind (R.cons (R.ok a0) (R.cons (R.ok (D.ty "bool")) (R.ok []))) (fn2 (dIsI []))) dNot)) R.ok)
def m_law_cell (a0 : D) (a1 : D) : R D :=
  (R.bind (R.op2 dLt (R.ok a1) (R.bind (R.cons (R.ok a0) (R.ok [])) (fn1 dLen))) fun b => if b = true then (R.bind (R.op2 dIx (R.ok a0) (R.ok a1)) R.ok) else (R.bind (R.ok (D.int 0)) R.ok))
def m_law_draw (a0 : D) (a1 : D) (a2 : D) : R D :=
  (joinC (fun (k2 : Unit → R D) => R.bind (R.op2 dGe (R.ok a0) (R.op2 dPow (R.ok (D.int 10)) (R.ok (D.int 18)))) fun b => if b = true then (R.bind (R.bind (R.cons (R.ok a0) (R.ok [])) (fn1 dInt)) fun d3 => (R.bind (R.bind (R.cons (R.ok a1) (R.ok [])) dRng1) fun ds => forC ds (d3 : D) (fun (x5 : D) (s4 : D) (nx6 bk7 : D → R D) => (R.bind (R.op2 dFdiv (R.ok s4) (R.ok (D.int 64))) fun d9 => (nx6 d9))) (fun (s4 : D) => (R.bind (R.op2 dGt (R.ok s4) (R.ok (D.int 0))) fun b => if b = true then (R.bind (R.op2 dMod (R.op2 dMod (R.bind (R.cons (R.ok s4) (R.ok [])) (fn1 dInt)) (R.ok (D.int 64))) (R.ok a2)) R.ok) else (k2 ()))))) else (k2 ())) (fun (s1 : Unit) => (R.bind (R.op2 dMod (R.bind (R.cons (R.op2 dAdd (R.op2 dAdd (R.ok a0) (R.op2 dMul (R.ok (D.int 7919)) (R.ok a1))) (R.ok (D.int 13))) (R.ok [])) (fn1 dInt)) (R.ok (D.int 2147483647))) fun d10 => (R.bind (R.op2 dMod (R.bind (R.cons (R.op2 dMul (R.ok d10) (R.op2 dAdd (R.ok d10) (R.ok (D.int 48271)))) (R.ok [])) (fn1 dInt)) (R.ok (D.int 2147483629))) fun d11 => (R.bind (R.op2 dMod (R.bind (R.cons (R.op2 dAdd (R.op2 dMul (R.ok d11) (R.op2 dAdd (R.ok d11) (R.ok (D.int 69621)))) (R.op2 dMul (R.ok (D.int 31)) (R.ok a1))) (R.ok [])) (fn1 dInt)) (R.ok (D.int 2147483647))) fun d12 => (R.bind (R.op2 dMod (R.bind (R.cons (R.op2 dFdiv (R.ok d12) (R.ok (D.int 9))) (R.ok [])) (fn1 dInt)) (R.ok a2)) R.ok))))))
def m_law_worths (a0 : D) (a1 : D) (a2 : D) : R D :=
  (R.bind (R.bind (R.ok []) dLst) fun d1 => (R.bind (R.bind (R.cons (R.ok a2) (R.ok [])) dRng1) fun ds => forC ds (d1 : D) (fun (x3 : D) (s2 : D) (nx4 bk5 : D → R D) => (R.bind (R.op2 dMod (R.bind (R.cons (R.op2 dAdd (R.op2 dMul (R.ok (D.int 32)) (R.bind (R.cons (R.ok a0) (R.cons (R.op2 dMul (R.ok (D.int 2)) (R.ok x3)) (R.cons (R.ok (D.int 32)) (R.ok [])))) (fn3 m_law_draw))) (R.bind (R.cons (R.ok a0) (R.cons (R.op2 dAdd (R.op2 dMul (R.ok (D.int 2)) (R.ok x3)) (R.ok (D.int 1))) (R.cons (R.ok (D.int 32)) (R.ok [])))) (fn3 m_law_draw))) (R.ok [])) (fn1 dInt)) (R.ok (D.int 1001))) fun d7 => (joinC (fun (k9 : D → R D) => R.bind (R.and (R.op2 dEq (R.ok a1) (R.ok (D.int 1))) (R.op2 dGt (R.ok x3) (R.ok (D.int 0)))) fun b => if b = true then (R.bind (R.op2 dIx (R.ok s2) (R.ok (D.int 0))) fun d10 => (k9 d10)) else (k9 d7)) (fun (s8 : D) => (joinC (fun (k12 : D → R D) => R.bind (R.or (R.op2 dEq (R.ok a1) (R.ok (D.int 3))) (R.and (R.op2 dEq (R.ok a1) (R.ok (D.int 2))) (R.op2 dEq (R.op2 dMod (R.bind (R.cons (R.ok x3) (R.ok [])) (fn1 dInt)) (R.ok (D.int 2))) (R.ok (D.int 1))))) fun b => if b = true then (R.bind (R.op2 dMod (R.bind (R.cons (R.ok s8) (R.ok [])) (fn1 dInt)) (R.ok (D.int 4))) fun d13 => (k12 d13)) else (k12 s8)) (fun (s11 : D) => (R.bind (lstOf s2) fun xs => R.bind (R.ok s11) fun dv => R.bind (dApp xs dv) fun d14 => (nx4 d14)))))))) (fun (s2 : D) => (R.ok s2))))
def m_law_numbers (a0 : D) (a1 : D) : R D :=
  (R.bind (R.or (R.bind (R.bind (R.bind (R.cons (R.ok a0) (R.cons (R.ok (D.ty "list")) (R.ok []))) (fn2 (dIsI []))) dTruth) bNot) (R.op2 dNe (R.bind (R.cons (R.ok a0) (R.ok [])) (fn1 dLen)) (R.ok a1))) fun b => if b = true then (R.bind (R.ok (D.bl false)) R.ok) else (R.bind (dItems a0) fun ds => forC ds (() : Unit) (fun (x2 : D) (s1 : Unit) (nx3 bk4 : Unit → R D) => (R.bind (R.or (R.bind (R.bind (R.bind (R.cons (R.ok x2) (R.ok [])) (fn1 m_law_int)) dTruth) bNot) (R.op2 dLt (R.ok x2) (R.ok (D.int 0)))) fun b => if b = true then (R.bind (R.ok (D.bl false)) R.ok) else (nx3 ()))) (fun (s1 : Unit) => (R.bind (R.ok (D.bl true)) R.ok))))
def m_law_apart (a0 : D) (a1 : D) : R D :=
  (R.bind (R.bind (R.bind (R.bind (R.cons (R.ok a0) (R.cons (R.ok (D.ty "list")) (R.ok []))) (fn2 (dIsI []))) dTruth) bNot) fun b => if b = true then (R.bind (R.ok (D.bl false)) R.ok) else (R.bind (R.bind (R.ok (D.int 2)) dNeg) fun d1 => (R.bind (dItems a0) fun ds => forC ds (d1 : D) (fun (x3 : D) (s2 : D) (nx4 bk5 : D → R D) => (R.bind (R.or (R.bind (R.bind (R.bind (R.cons (R.ok x3) (R.ok [])) (fn1 m_law_int)) dTruth) bNot) (R.or (R.op2 dLt (R.ok x3) (R.op2 dAdd (R.ok s2) (R.ok (D.int 2)))) (R.op2 dGe (R.ok x3) (R.ok a1)))) fun b => if b = true then (R.bind (R.ok (D.bl false)) R.ok) else (R.bind (R.ok x3) fun d7 => (nx4 d7)))) (fun (s2 : D) => (R.bind (R.ok (D.bl true)) R.ok)))))
def m_law_covered (a0 : D) (a1 : D) (a2 : D) : R D :=
  (R.bind (R.bind (R.cons (R.ok a0) (R.ok [])) (fn1 dLen)) fun d1 => (R.bind (R.or (R.bind (R.bind (R.bind (R.cons (R.ok a1) (R.cons (R.ok d1) (R.ok []))) (fn2 m_law_numbers)) dTruth) bNot) (R.bind (R.bind (R.bind (R.cons (R.ok a2) (R.cons (R.bind (R.cons (R.ok (D.int 0)) (R.cons (R.op2 dSub (R.ok d1) (R.ok (D.int 1))) (R.ok []))) (fn2 dMax2)) (R.ok []))) (fn2 m_law_numbers)) dTruth) bNot)) fun b => if b = true then (R.bind (R.ok (D.bl false)) R.ok) else (R.bind (R.bind (R.cons (R.ok d1) (R.ok [])) dRng1) fun ds => forC ds (() : Unit) (fun (x3 : D) (s2 : Unit) (nx4 bk5 : Unit → R D) => (R.bind (R.op2 dIx (R.ok a1) (R.ok x3)) fun d7 => (joinC (fun (k9 : D → R D) => R.bind (R.op2 dGt (R.ok x3) (R.ok (D.int 0))) fun b => if b = true then (R.bind (R.op2 dAdd (R.ok d7) (R.op2 dIx (R.ok a2) (R.op2 dSub (R.ok x3) (R.ok (D.int 1))))) fun d10 => (k9 d10)) else (k9 d7)) (fun (s8 : D) => (joinC (fun (k12 : D → R D) => R.bind (R.op2 dLt (R.ok x3) (R.op2 dSub (R.ok d1) (R.ok (D.int 1)))) fun b => if b = true then (R.bind (R.op2 dAdd (R.ok s8) (R.op2 dIx (R.ok a2) (R.ok x3))) fun d13 => (k12 d13)) else (k12 s8)) (fun (s11 : D) => (R.bind (R.op2 dLt (R.ok s11) (R.op2 dIx (R.ok a0) (R.ok x3))) fun b => if b = true then (R.bind (R.ok (D.bl false)) R.ok) else (nx4 ())))))))) (fun (s2 : Unit) => (R.bind (R.ok (D.bl true)) R.ok)))))
def m_law_judged (a0 : D) (a1 : D) : R D :=
  (R.bind (R.or (R.bind (R.bind (R.bind (R.cons (R.ok a1) (R.cons (R.ok (D.ty "tuple")) (R.ok []))) (fn2 (dIsI []))) dTruth) bNot) (R.op2 dNe (R.bind (R.cons (R.ok a1) (R.ok [])) (fn1 dLen)) (R.ok (D.int 3)))) fun b => if b = true then (R.bind (R.ok (D.bl false)) R.ok) else (R.bind (R.or (R.bind (R.bind (R.bind (R.cons (R.op2 dIx (R.ok a1) (R.ok (D.int 0))) (R.cons (R.bind (R.cons (R.ok a0) (R.ok [])) (fn1 dLen)) (R.ok []))) (fn2 m_law_apart)) dTruth) bNot) (R.bind (R.bind (R.bind (R.cons (R.ok a0) (R.cons (R.op2 dIx (R.ok a1) (R.ok (D.int 1))) (R.cons (R.op2 dIx (R.ok a1) (R.ok (D.int 2))) (R.ok [])))) (fn3 m_law_covered)) dTruth) bNot)) fun b => if b = true then (R.bind (R.ok (D.bl false)) R.ok) else (R.bind (R.bool (R.op2 dEq (R.op2 dAdd (R.bind (R.cons (R.op2 dIx (R.ok a1) (R.ok (D.int 1))) (R.ok [])) (fn1 dSum)) (R.bind (R.cons (R.op2 dIx (R.ok a1) (R.ok (D.int 2))) (R.ok [])) (fn1 dSum))) (R.bind (R.cons (R.bind (R.bind (R.op2 dIx (R.ok a1) (R.ok (D.int 0))) dItems) fun ds => (compC ds yes (fun x1 => (R.op2 dIx (R.ok a0) (R.ok x1)))).bind finC) (R.ok [])) (fn1 dSum)))) R.ok)))
def m_law_lists_differ (a0 : D) : R D :=
  (R.bind (R.bind (R.bind (R.cons (R.op2 dIx (R.ok a0) (R.ok (D.int 1))) (R.ok [])) (fn1 dList)) flat) fun d1 => (R.bind (R.bind (R.bind (R.cons (R.op2 dIx (R.ok a0) (R.ok (D.int 2))) (R.ok [])) (fn1 dList)) flat) fun d2 => (R.bind (qAt a0 0) fun xs => R.bind (R.bind (R.ok (D.int 7)) dNeg) fun dv => R.bind (dApp xs dv) fun d3 => (R.bind (R.or (R.op2 dNe (R.op2 dIx (R.ok (qSet a0 0 d3)) (R.ok (D.int 1))) (R.ok d1)) (R.op2 dNe (R.op2 dIx (R.ok (qSet a0 0 d3)) (R.ok (D.int 2))) (R.ok d2))) fun b => if b = true then (R.bind (R.ok (D.bl false)) R.ok) else (R.bind (qAt (qSet a0 0 d3) 1) fun xs => R.bind (R.bind (R.ok (D.int 7)) dNeg) fun dv => R.bind (dApp xs dv) fun d4 => (R.bind (R.op2 dNe (R.op2 dIx (R.ok (qSet (qSet a0 0 d3) 1 d4)) (R.ok (D.int 2))) (R.ok d2)) fun b => if b = true then (R.bind (R.ok (D.bl false)) R.ok) else (R.bind (qAt (qSet (qSet a0 0 d3) 1 d4) 2) fun xs => R.bind (R.bind (R.ok (D.int 7)) dNeg) fun dv => R.bind (dApp xs dv) fun d5 => (R.bind (R.ok (D.bl true)) R.ok))))))))
def m_law (a0 : D) : R D :=
  (R.bind (R.bind (R.cons (R.ok a0) (R.cons (R.ok (D.int 0)) (R.ok []))) (fn2 m_law_cell)) fun d1 => (R.bind (R.bind (R.cons (R.ok d1) (R.cons (R.ok (D.int 0)) (R.cons (R.ok (D.int 21)) (R.ok [])))) (fn3 m_law_draw)) fun d2 => (R.bind (R.bind (R.cons (R.bind (R.cons (R.ok a0) (R.cons (R.ok (D.int 1)) (R.ok []))) (fn2 m_law_cell)) (R.cons (R.bind (R.cons (R.ok d1) (R.cons (R.ok (D.int 1)) (R.cons (R.ok (D.int 4)) (R.ok [])))) (fn3 m_law_draw)) (R.cons (R.ok d2) (R.ok [])))) (fn3 m_law_worths)) fun d3 => (R.bind (R.bind (R.cons (R.ok d3) (R.ok [])) (fn1 dList)) fun d4 => (R.bind (R.bind (R.cons (R.ok d4) (R.ok [])) (fn1 m_best_chain)) fun d5 => (R.bind (R.or (R.op2 dNe (R.ok d4) (R.ok d3)) (R.or (R.bind (R.bind (R.bind (R.cons (R.ok d3) (R.cons (R.ok d5) (R.ok []))) (fn2 m_law_judged)) dTruth) bNot) (R.bind (R.bind (m_law_lists_differ d5) dTruth) bNot))) fun b => if b = true then (R.bind (R.ok (D.bl false)) R.ok) else (R.bind (R.bind (R.bind (R.cons (R.ok d2) (R.ok [])) dRng1) fun ds => (compC ds yes (fun x7 => (R.op2 dIx (R.ok d3) (R.op2 dSub (R.op2 dSub (R.ok d2) (R.ok (D.int 1))) (R.ok x7))))).bind finC) fun d6 => (R.bind (R.bind (R.bind (R.bind (R.cons (R.ok d6) (R.cons (R.bind (R.cons (R.bind (R.cons (R.ok d6) (R.ok [])) (fn1 dList)) (R.ok [])) (fn1 m_best_chain)) (R.ok []))) (fn2 m_law_judged)) dTruth) bNot) fun b => if b = true then (R.bind (R.ok (D.bl false)) R.ok) else (R.bind (R.andV (R.bind (R.cons (R.ok d3) (R.cons (R.bind (R.cons (R.bind (R.cons (R.ok d3) (R.ok [])) (fn1 dList)) (R.ok [])) (fn1 m_best_chain)) (R.ok []))) (fn2 m_law_judged)) (R.bind (R.cons (R.ok d3) (R.cons (R.bind (R.cons (R.bind (R.cons (R.ok d3) (R.ok [])) (fn1 dTuple)) (R.ok [])) (fn1 m_best_chain)) (R.ok []))) (fn2 m_law_judged))) R.ok)))))))))
/-! ### the text -/
def topS (i : Nat) : Stmt := PySem.Challenge.pw_unmovedways_k33_whole_best_chain.main.body.getD i (.Pass ⟨0, 0, 0, 0⟩)
abbrev s_remainders : Stmt := topS 1
theorem sc_remainders : FnScope ["worths", "rests", "before", "worth"] ["worths"] (defScope s_remainders) := ⟨rfl, rfl, rfl, by decide +kernel, rfl, by decide +kernel, by decide +kernel⟩
abbrev s_best_chain : Stmt := topS 2
theorem sc_best_chain : FnScope ["worths", "rests", "chosen", "at", "own", "rest"] ["worths"] (defScope s_best_chain) := ⟨rfl, rfl, rfl, by decide +kernel, rfl, by decide +kernel, by decide +kernel⟩
abbrev s_law_int : Stmt := topS 4
theorem sc_law_int : FnScope ["value"] ["value"] (defScope s_law_int) := ⟨rfl, rfl, rfl, by decide +kernel, rfl, by decide +kernel, by decide +kernel⟩
abbrev s_law_cell : Stmt := topS 5
theorem sc_law_cell : FnScope ["script", "k"] ["script", "k"] (defScope s_law_cell) := ⟨rfl, rfl, rfl, by decide +kernel, rfl, by decide +kernel, by decide +kernel⟩
abbrev s_law_draw : Stmt := topS 6
theorem sc_law_draw : FnScope ["cell", "k", "size", "rest", "step", "mixed"] ["cell", "k", "size"] (defScope s_law_draw) := ⟨rfl, rfl, rfl, by decide +kernel, rfl, by decide +kernel, by decide +kernel⟩
abbrev s_law_worths : Stmt := topS 7
theorem sc_law_worths : FnScope ["cell", "shape", "many", "worths", "k", "worth"] ["cell", "shape", "many"] (defScope s_law_worths) := ⟨rfl, rfl, rfl, by decide +kernel, rfl, by decide +kernel, by decide +kernel⟩
abbrev s_law_numbers : Stmt := topS 8
theorem sc_law_numbers : FnScope ["value", "many", "number"] ["value", "many"] (defScope s_law_numbers) := ⟨rfl, rfl, rfl, by decide +kernel, rfl, by decide +kernel, by decide +kernel⟩
abbrev s_law_apart : Stmt := topS 9
theorem sc_law_apart : FnScope ["chosen", "many", "last", "place"] ["chosen", "many"] (defScope s_law_apart) := ⟨rfl, rfl, rfl, by decide +kernel, rfl, by decide +kernel, by decide +kernel⟩
abbrev s_law_covered : Stmt := topS 10
theorem sc_law_covered : FnScope ["worths", "own", "joins", "many", "at", "total"] ["worths", "own", "joins"] (defScope s_law_covered) := ⟨rfl, rfl, rfl, by decide +kernel, rfl, by decide +kernel, by decide +kernel⟩
abbrev s_law_judged : Stmt := topS 11
theorem sc_law_judged : FnScope ["worths", "answer", "place"] ["worths", "answer"] (defScope s_law_judged) := ⟨rfl, rfl, rfl, by decide +kernel, rfl, by decide +kernel, by decide +kernel⟩
abbrev s_law_lists_differ : Stmt := topS 12
theorem sc_law_lists_differ : FnScope ["answer", "own", "joins"] ["answer"] (defScope s_law_lists_differ) := ⟨rfl, rfl, rfl, by decide +kernel, rfl, by decide +kernel, by decide +kernel⟩
abbrev s_law : Stmt := topS 13
theorem sc_law : FnScope ["script", "head", "many", "worths", "handed", "answer", "back", "k"] ["script"] (defScope s_law) := ⟨rfl, rfl, rfl, by decide +kernel, rfl, by decide +kernel, by decide +kernel⟩
structure Bl (mg : Str → Option Value) : Prop where
  b_bool : mg "bool" = none
  b_int : mg "int" = none
  b_isinstance : mg "isinstance" = none
  b_len : mg "len" = none
  b_list : mg "list" = none
  b_max : mg "max" = none
  b_range : mg "range" = none
  b_sum : mg "sum" = none
  b_tuple : mg "tuple" = none
section
variable {P : Program} {w : World} {K : PySem.W.Frag} {mg : Str → Option Value} {base : Heap} {ca : Str → Addr}
theorem ok_remainders (B : Bl mg) {a : Addr} {fd : FuncData} (F : Fun K "remainders" "remainders" s_remainders a fd) (gm : mg "remainders" = some (.ref a)) (b : Binds K fd ["worths"] []) :
    Def P w K mg base ca "remainders" 1 [.r] (.o) (fn1 m_remainders) :=
  def_ok (k := 0) F sc_remainders rfl (by decide) gm b (fun cdv A outer s H Q E F0 ds hl hr G => by
    have tk : Takes (cxOf (L2.CX P w) P w K mg base ["worths", "rests", "before", "worth"] "remainders" (defScope s_remainders) a cdv A outer s H E) (fun c d _ H' => E c d H') := takes_of rfl rfl rfl rfl
    have hu := hr.units
    have hu65 := room65 hr
    have hIK : ∀ c ∈ ([] : List Str), InsK K (ca c) := fun c hc => absurd hc (by simp)
    match ds, hl with
    | [a0], _ =>
      conv => arg 6; whnf
      change SSs _ _ _ _ [some (Sl.b a0), none, none, none] _ (m_remainders a0)
      unfold m_remainders
      refine ss_setO G ?_ (i := 1) (hk := ?_)
      · exact (se_lst sa_nil)
      intro d1
      refine ss_set G ?_ (i := 2) (hk := ?_)
      · exact se_int
      intro d2
      refine ss_for G (S := (D × D)) (j := 3) (fun (s3 : (D × D)) => [some (Sl.b a0), some (Sl.o s3.1), some (Sl.d s3.2), none]) (d1, d2) ?_ ?_ ?_ ?_
      · exact (si_b (i := 0))
      · intro F1 G7 x4 s3 nx5 bk6
        refine ss_set G7 ?_ (i := 2) (hk := ?_)
        · exact (se_callB (cv_max2 G7.calm) (sa_r (se_v2r se_int) (sa_r (se_v2r (se_op ov_sub (se_v2r (se_d (i := 3))) (se_v2r (se_d (i := 2))))) sa_nil)) B.b_max)
        intro d8
        refine ss_app G7 ?_ (i := 1) (hk := ?_)
        · exact (se_d (i := 2))
        intro d9
        exact ss_nil ⟨(d9, d8), (EnLe.s (EnLe.s (EnLe.s (EnLe.n EnLe.nil)))), rfl⟩
      · exact (EnLe.s (EnLe.s (EnLe.s (EnLe.n EnLe.nil))))
      intro s3
      exact ss_retO G (i := 1))
theorem ok_best_chain (B : Bl mg) (D_remainders : Def P w K mg base ca "remainders" 1 [.r] (.o) (fn1 m_remainders)) {a : Addr} {fd : FuncData} (F : Fun K "best_chain" "best_chain" s_best_chain a fd) (gm : mg "best_chain" = some (.ref a)) (b : Binds K fd ["worths"] []) :
    Def P w K mg base ca "best_chain" 2 [.r] (.q (.t (.c .o (.c .o (.c .o .n))))) (fn1 m_best_chain) :=
  def_ok (k := 1) F sc_best_chain rfl (by decide) gm b (fun cdv A outer s H Q E F0 ds hl hr G => by
    have tk : Takes (cxOf (L2.CX P w) P w K mg base ["worths", "rests", "chosen", "at", "own", "rest"] "best_chain" (defScope s_best_chain) a cdv A outer s H E) (fun c d _ H' => E c d H') := takes_of rfl rfl rfl rfl
    have hu := hr.units
    have hu65 := room65 hr
    have hIK : ∀ c ∈ ([] : List Str), InsK K (ca c) := fun c hc => absurd hc (by simp)
    match ds, hl with
    | [a0], _ =>
      conv => arg 6; whnf
      change SSs _ _ _ _ [some (Sl.b a0), none, none, none, none, none] _ (m_best_chain a0)
      unfold m_best_chain
      refine ss_set G ?_ (i := 1) (hk := ?_)
      · exact (se_o2v (se_call D_remainders hr tk (sa_r (se_b (i := 0)) sa_nil)))
      intro d1
      refine ss_setO G ?_ (i := 2) (hk := ?_)
      · exact (se_lst sa_nil)
      intro d2
      refine ss_for G (S := D) (j := 3) (fun (s3 : D) => [some (Sl.b a0), some (Sl.d d1), some (Sl.o s3), none, none, none]) d2 ?_ ?_ ?_ ?_
      · exact (si_r3 (sa_r (se_v2r (se_op ov_sub (se_v2r (se_callB cv_len (sa_r (se_v2r (se_d (i := 1))) sa_nil) B.b_len)) (se_v2r se_int))) (sa_r (se_v2r (se_neg (se_v2r se_int))) (sa_r (se_v2r (se_neg (se_v2r se_int))) sa_nil))) B.b_range)
      · intro F1 G7 x4 s3 nx5 bk6
        refine ss_if2 G7 ?_ ?_ ?_
        · exact (st_bool (sw_and (st_cmp ob_gt (se_v2r (se_ix (se_v2r (se_d (i := 1))) (se_v2r (se_d (i := 3))))) (se_v2r se_int)) (sw_and1 (st_cmp (ob_notIn hu65) (se_v2r (se_op ov_add (se_v2r (se_d (i := 3))) (se_v2r se_int))) (se_ow (i := 2))))))
        · refine ss_setO G7 ?_ (i := 2) (hk := ?_)
          · exact (se_op ov_cat (se_o2r (se_lst (sa_v (se_d (i := 3)) sa_nil))) (se_ow (i := 2)))
          intro d8
          exact ss_nil ⟨d8, (EnLe.s (EnLe.s (EnLe.s (EnLe.n (EnLe.n (EnLe.n EnLe.nil)))))), rfl⟩
        · exact ss_nil ⟨s3, (EnLe.s (EnLe.s (EnLe.s (EnLe.n (EnLe.n (EnLe.n EnLe.nil)))))), rfl⟩
      · exact (EnLe.s (EnLe.s (EnLe.s (EnLe.n (EnLe.n (EnLe.n EnLe.nil))))))
      intro s3
      refine ss_setO G ?_ (i := 4) (hk := ?_)
      · exact (se_op ov_cat (se_o2r (se_comp (j := 5) G.nd G.calm (blkOk_by rfl) (si_v (se_sl (se_v2r (se_d (i := 1))) so_none (so_some (se_v2r (se_neg (se_v2r se_int)))))) (fun x10 _ _ _ _ _ => by exact sts_nil) (fun x10 _ _ _ _ _ => by exact se_int))) (se_v2r (se_sl (se_v2r (se_d (i := 1))) (so_some (se_v2r (se_neg (se_v2r se_int)))) so_none)))
      intro d9
      exact ss_retQ G (sq_tup (sqa_cons (sq_n (i := 2)) (sqa_cons (sq_n (i := 4)) (sqa_cons (sq_o (se_slL (se_v2r (se_d (i := 1))) so_none (so_some (se_v2r (se_neg (se_v2r se_int)))))) sqa_nil)))))
theorem ok_law_int (B : Bl mg) {a : Addr} {fd : FuncData} (F : Fun K "_law_int" "_law_int" s_law_int a fd) (gm : mg "_law_int" = some (.ref a)) (b : Binds K fd ["value"] []) :
    Def P w K mg base ca "_law_int" 1 [.r] (.v) (fn1 m_law_int) :=
  def_ok (k := 0) F sc_law_int rfl (by decide) gm b (fun cdv A outer s H Q E F0 ds hl hr G => by
    have tk : Takes (cxOf (L2.CX P w) P w K mg base ["value"] "_law_int" (defScope s_law_int) a cdv A outer s H E) (fun c d _ H' => E c d H') := takes_of rfl rfl rfl rfl
    have hu := hr.units
    have hu65 := room65 hr
    have hIK : ∀ c ∈ ([] : List Str), InsK K (ca c) := fun c hc => absurd hc (by simp)
    match ds, hl with
    | [a0], _ =>
      conv => arg 6; whnf
      change SSs _ _ _ _ [some (Sl.b a0)] _ (m_law_int a0)
      unfold m_law_int
      refine ss_ret G ?_
      exact (se_and (se_v2r (se_callB (cv_isi [] hIK) (sa_r (se_b (i := 0)) (sa_v (se_ty B.b_int) sa_nil)) B.b_isinstance)) (se_one (se_notD (se_v2r (se_callB (cv_isi [] hIK) (sa_r (se_b (i := 0)) (sa_v (se_ty B.b_bool) sa_nil)) B.b_isinstance))))))
theorem ok_law_cell (B : Bl mg) {a : Addr} {fd : FuncData} (F : Fun K "_law_cell" "_law_cell" s_law_cell a fd) (gm : mg "_law_cell" = some (.ref a)) (b : Binds K fd ["script", "k"] []) :
    Def P w K mg base ca "_law_cell" 1 [.r, .r] (.v) (fn2 m_law_cell) :=
  def_ok (k := 0) F sc_law_cell rfl (by decide) gm b (fun cdv A outer s H Q E F0 ds hl hr G => by
    have tk : Takes (cxOf (L2.CX P w) P w K mg base ["script", "k"] "_law_cell" (defScope s_law_cell) a cdv A outer s H E) (fun c d _ H' => E c d H') := takes_of rfl rfl rfl rfl
    have hu := hr.units
    have hu65 := room65 hr
    have hIK : ∀ c ∈ ([] : List Str), InsK K (ca c) := fun c hc => absurd hc (by simp)
    match ds, hl with
    | [a0, a1], _ =>
      conv => arg 6; whnf
      change SSs _ _ _ _ [some (Sl.b a0), some (Sl.b a1)] _ (m_law_cell a0 a1)
      unfold m_law_cell
      refine ss_if1 G ?_ ?_ ?_
      · exact (st_cmp ob_lt (se_b (i := 1)) (se_v2r (se_callB cv_len (sa_r (se_b (i := 0)) sa_nil) B.b_len)))
      · refine ss_ret G ?_
        exact (se_ix (se_b (i := 0)) (se_b (i := 1)))
      refine ss_ret G ?_
      exact se_int)
theorem ok_law_draw (B : Bl mg) {a : Addr} {fd : FuncData} (F : Fun K "_law_draw" "_law_draw" s_law_draw a fd) (gm : mg "_law_draw" = some (.ref a)) (b : Binds K fd ["cell", "k", "size"] []) :
    Def P w K mg base ca "_law_draw" 1 [.r, .r, .r] (.v) (fn3 m_law_draw) :=
  def_ok (k := 0) F sc_law_draw rfl (by decide) gm b (fun cdv A outer s H Q E F0 ds hl hr G => by
    have tk : Takes (cxOf (L2.CX P w) P w K mg base ["cell", "k", "size", "rest", "step", "mixed"] "_law_draw" (defScope s_law_draw) a cdv A outer s H E) (fun c d _ H' => E c d H') := takes_of rfl rfl rfl rfl
    have hu := hr.units
    have hu65 := room65 hr
    have hIK : ∀ c ∈ ([] : List Str), InsK K (ca c) := fun c hc => absurd hc (by simp)
    match ds, hl with
    | [a0, a1, a2], _ =>
      conv => arg 6; whnf
      change SSs _ _ _ _ [some (Sl.b a0), some (Sl.b a1), some (Sl.b a2), none, none, none] _ (m_law_draw a0 a1 a2)
      unfold m_law_draw
      refine ss_if G (S := Unit) (fun (s1 : Unit) => [some (Sl.b a0), some (Sl.b a1), some (Sl.b a2), none, none, none]) ?_ ?_ ?_ ?_
      · exact (st_cmp ob_ge (se_b (i := 0)) (se_v2r (se_op ov_pow (se_v2r se_int) (se_v2r se_int))))
      · refine ss_set G ?_ (i := 3) (hk := ?_)
        · exact (se_callT cv_int (sa_r (se_b (i := 0)) sa_nil) B.b_int)
        intro d3
        refine ss_for G (S := D) (j := 4) (fun (s4 : D) => [some (Sl.b a0), some (Sl.b a1), some (Sl.b a2), some (Sl.d s4), none, none]) d3 ?_ ?_ ?_ ?_
        · exact (si_r1 (sa_r (se_b (i := 1)) sa_nil) B.b_range)
        · intro F1 G8 x5 s4 nx6 bk7
          refine ss_set G8 ?_ (i := 3) (hk := ?_)
          · exact (se_op ov_fdiv (se_v2r (se_d (i := 3))) (se_v2r se_int))
          intro d9
          exact ss_nil ⟨d9, (EnLe.s (EnLe.s (EnLe.s (EnLe.s (EnLe.n (EnLe.n EnLe.nil)))))), rfl⟩
        · exact (EnLe.s (EnLe.s (EnLe.s (EnLe.s (EnLe.n (EnLe.n EnLe.nil))))))
        intro s4
        refine ss_if2 G ?_ ?_ ?_
        · exact (st_cmp ob_gt (se_v2r (se_d (i := 3))) (se_v2r se_int))
        · refine ss_ret G ?_
          exact (se_op ov_mod (se_v2r (se_op ov_mod (se_v2r (se_callT cv_int (sa_r (se_v2r (se_d (i := 3))) sa_nil) B.b_int)) (se_v2r se_int))) (se_b (i := 2)))
        · exact ss_nil ⟨(), (EnLe.s (EnLe.s (EnLe.s (EnLe.n (EnLe.n (EnLe.n EnLe.nil)))))), rfl⟩
      · exact ss_nil ⟨(), (EnLe.s (EnLe.s (EnLe.s (EnLe.n (EnLe.n (EnLe.n EnLe.nil)))))), rfl⟩
      intro s1
      refine ss_set G ?_ (i := 5) (hk := ?_)
      · exact (se_op ov_mod (se_v2r (se_callT cv_int (sa_r (se_v2r (se_op ov_add (se_v2r (se_op ov_add (se_b (i := 0)) (se_v2r (se_op ov_mul (se_v2r se_int) (se_b (i := 1)))))) (se_v2r se_int))) sa_nil) B.b_int)) (se_v2r se_int))
      intro d10
      refine ss_set G ?_ (i := 5) (hk := ?_)
      · exact (se_op ov_mod (se_v2r (se_callT cv_int (sa_r (se_v2r (se_op ov_mul (se_v2r (se_d (i := 5))) (se_v2r (se_op ov_add (se_v2r (se_d (i := 5))) (se_v2r se_int))))) sa_nil) B.b_int)) (se_v2r se_int))
      intro d11
      refine ss_set G ?_ (i := 5) (hk := ?_)
      · exact (se_op ov_mod (se_v2r (se_callT cv_int (sa_r (se_v2r (se_op ov_add (se_v2r (se_op ov_mul (se_v2r (se_d (i := 5))) (se_v2r (se_op ov_add (se_v2r (se_d (i := 5))) (se_v2r se_int))))) (se_v2r (se_op ov_mul (se_v2r se_int) (se_b (i := 1)))))) sa_nil) B.b_int)) (se_v2r se_int))
      intro d12
      refine ss_ret G ?_
      exact (se_op ov_mod (se_v2r (se_callT cv_int (sa_r (se_v2r (se_op ov_fdiv (se_v2r (se_d (i := 5))) (se_v2r se_int))) sa_nil) B.b_int)) (se_b (i := 2))))
theorem ok_law_worths (B : Bl mg) (D_law_draw : Def P w K mg base ca "_law_draw" 1 [.r, .r, .r] (.v) (fn3 m_law_draw)) {a : Addr} {fd : FuncData} (F : Fun K "_law_worths" "_law_worths" s_law_worths a fd) (gm : mg "_law_worths" = some (.ref a)) (b : Binds K fd ["cell", "shape", "many"] []) :
    Def P w K mg base ca "_law_worths" 2 [.r, .r, .r] (.o) (fn3 m_law_worths) :=
  def_ok (k := 1) F sc_law_worths rfl (by decide) gm b (fun cdv A outer s H Q E F0 ds hl hr G => by
    have tk : Takes (cxOf (L2.CX P w) P w K mg base ["cell", "shape", "many", "worths", "k", "worth"] "_law_worths" (defScope s_law_worths) a cdv A outer s H E) (fun c d _ H' => E c d H') := takes_of rfl rfl rfl rfl
    have hu := hr.units
    have hu65 := room65 hr
    have hIK : ∀ c ∈ ([] : List Str), InsK K (ca c) := fun c hc => absurd hc (by simp)
    match ds, hl with
    | [a0, a1, a2], _ =>
      conv => arg 6; whnf
      change SSs _ _ _ _ [some (Sl.b a0), some (Sl.b a1), some (Sl.b a2), none, none, none] _ (m_law_worths a0 a1 a2)
      unfold m_law_worths
      refine ss_setO G ?_ (i := 3) (hk := ?_)
      · exact (se_lst sa_nil)
      intro d1
      refine ss_for G (S := D) (j := 4) (fun (s2 : D) => [some (Sl.b a0), some (Sl.b a1), some (Sl.b a2), some (Sl.o s2), none, none]) d1 ?_ ?_ ?_ ?_
      · exact (si_r1 (sa_r (se_b (i := 2)) sa_nil) B.b_range)
      · intro F1 G6 x3 s2 nx4 bk5
        refine ss_set G6 ?_ (i := 5) (hk := ?_)
        · exact (se_op ov_mod (se_v2r (se_callT cv_int (sa_r (se_v2r (se_op ov_add (se_v2r (se_op ov_mul (se_v2r se_int) (se_v2r (se_call D_law_draw hr tk (sa_r (se_b (i := 0)) (sa_r (se_v2r (se_op ov_mul (se_v2r se_int) (se_v2r (se_d (i := 4))))) (sa_r (se_v2r se_int) sa_nil))))))) (se_v2r (se_call D_law_draw hr tk (sa_r (se_b (i := 0)) (sa_r (se_v2r (se_op ov_add (se_v2r (se_op ov_mul (se_v2r se_int) (se_v2r (se_d (i := 4))))) (se_v2r se_int))) (sa_r (se_v2r se_int) sa_nil))))))) sa_nil) B.b_int)) (se_v2r se_int))
        intro d7
        refine ss_if G6 (S := D) (fun (s8 : D) => [some (Sl.b a0), some (Sl.b a1), some (Sl.b a2), some (Sl.o s2), some (Sl.d x3), some (Sl.d s8)]) ?_ ?_ ?_ ?_
        · exact (st_bool (sw_and (st_cmp (ob_eq hu) (se_b (i := 1)) (se_v2r se_int)) (sw_and1 (st_cmp ob_gt (se_v2r (se_d (i := 4))) (se_v2r se_int)))))
        · refine ss_set G6 ?_ (i := 5) (hk := ?_)
          · exact (se_ix (se_ow (i := 3)) (se_v2r se_int))
          intro d10
          exact ss_nil ⟨d10, (EnLe.s (EnLe.s (EnLe.s (EnLe.s (EnLe.s (EnLe.s EnLe.nil)))))), rfl⟩
        · exact ss_nil ⟨d7, (EnLe.s (EnLe.s (EnLe.s (EnLe.s (EnLe.s (EnLe.s EnLe.nil)))))), rfl⟩
        intro s8
        refine ss_if G6 (S := D) (fun (s11 : D) => [some (Sl.b a0), some (Sl.b a1), some (Sl.b a2), some (Sl.o s2), some (Sl.d x3), some (Sl.d s11)]) ?_ ?_ ?_ ?_
        · exact (st_bool (sw_or (st_cmp (ob_eq hu) (se_b (i := 1)) (se_v2r se_int)) (sw_or1 (st_bool (sw_and (st_cmp (ob_eq hu) (se_b (i := 1)) (se_v2r se_int)) (sw_and1 (st_cmp (ob_eq hu) (se_v2r (se_op ov_mod (se_v2r (se_callT cv_int (sa_r (se_v2r (se_d (i := 4))) sa_nil) B.b_int)) (se_v2r se_int))) (se_v2r se_int))))))))
        · refine ss_set G6 ?_ (i := 5) (hk := ?_)
          · exact (se_op ov_mod (se_v2r (se_callT cv_int (sa_r (se_v2r (se_d (i := 5))) sa_nil) B.b_int)) (se_v2r se_int))
          intro d13
          exact ss_nil ⟨d13, (EnLe.s (EnLe.s (EnLe.s (EnLe.s (EnLe.s (EnLe.s EnLe.nil)))))), rfl⟩
        · exact ss_nil ⟨s8, (EnLe.s (EnLe.s (EnLe.s (EnLe.s (EnLe.s (EnLe.s EnLe.nil)))))), rfl⟩
        intro s11
        refine ss_app G6 ?_ (i := 3) (hk := ?_)
        · exact (se_d (i := 5))
        intro d14
        exact ss_nil ⟨d14, (EnLe.s (EnLe.s (EnLe.s (EnLe.s (EnLe.n (EnLe.n EnLe.nil)))))), rfl⟩
      · exact (EnLe.s (EnLe.s (EnLe.s (EnLe.s (EnLe.n (EnLe.n EnLe.nil))))))
      intro s2
      exact ss_retO G (i := 3))
theorem ok_law_numbers (B : Bl mg) (D_law_int : Def P w K mg base ca "_law_int" 1 [.r] (.v) (fn1 m_law_int)) {a : Addr} {fd : FuncData} (F : Fun K "_law_numbers" "_law_numbers" s_law_numbers a fd) (gm : mg "_law_numbers" = some (.ref a)) (b : Binds K fd ["value", "many"] []) :
    Def P w K mg base ca "_law_numbers" 2 [.r, .r] (.v) (fn2 m_law_numbers) :=
  def_ok (k := 1) F sc_law_numbers rfl (by decide) gm b (fun cdv A outer s H Q E F0 ds hl hr G => by
    have tk : Takes (cxOf (L2.CX P w) P w K mg base ["value", "many", "number"] "_law_numbers" (defScope s_law_numbers) a cdv A outer s H E) (fun c d _ H' => E c d H') := takes_of rfl rfl rfl rfl
    have hu := hr.units
    have hu65 := room65 hr
    have hIK : ∀ c ∈ ([] : List Str), InsK K (ca c) := fun c hc => absurd hc (by simp)
    match ds, hl with
    | [a0, a1], _ =>
      conv => arg 6; whnf
      change SSs _ _ _ _ [some (Sl.b a0), some (Sl.b a1), none] _ (m_law_numbers a0 a1)
      unfold m_law_numbers
      refine ss_if1 G ?_ ?_ ?_
      · exact (st_bool (sw_or (st_notD (st_val (se_v2r (se_callB (cv_isi [] hIK) (sa_r (se_b (i := 0)) (sa_v (se_ty B.b_list) sa_nil)) B.b_isinstance)))) (sw_or1 (st_cmp (ob_ne hu) (se_v2r (se_callB cv_len (sa_r (se_b (i := 0)) sa_nil) B.b_len)) (se_b (i := 1))))))
      · refine ss_ret G ?_
        exact se_bl
      refine ss_for G (S := Unit) (j := 2) (fun (s1 : Unit) => [some (Sl.b a0), some (Sl.b a1), none]) () ?_ ?_ ?_ ?_
      · exact (si_b (i := 0))
      · intro F1 G5 x2 s1 nx3 bk4
        refine ss_if2 G5 ?_ ?_ ?_
        · exact (st_bool (sw_or (st_notD (st_val (se_v2r (se_call D_law_int hr tk (sa_r (se_v2r (se_d (i := 2))) sa_nil))))) (sw_or1 (st_cmp ob_lt (se_v2r (se_d (i := 2))) (se_v2r se_int)))))
        · refine ss_ret G5 ?_
          exact se_bl
        · exact ss_nil ⟨(), (EnLe.s (EnLe.s (EnLe.n EnLe.nil))), rfl⟩
      · exact (EnLe.s (EnLe.s (EnLe.n EnLe.nil)))
      intro s1
      refine ss_ret G ?_
      exact se_bl)
theorem ok_law_apart (B : Bl mg) (D_law_int : Def P w K mg base ca "_law_int" 1 [.r] (.v) (fn1 m_law_int)) {a : Addr} {fd : FuncData} (F : Fun K "_law_apart" "_law_apart" s_law_apart a fd) (gm : mg "_law_apart" = some (.ref a)) (b : Binds K fd ["chosen", "many"] []) :
    Def P w K mg base ca "_law_apart" 2 [.r, .r] (.v) (fn2 m_law_apart) :=
  def_ok (k := 1) F sc_law_apart rfl (by decide) gm b (fun cdv A outer s H Q E F0 ds hl hr G => by
    have tk : Takes (cxOf (L2.CX P w) P w K mg base ["chosen", "many", "last", "place"] "_law_apart" (defScope s_law_apart) a cdv A outer s H E) (fun c d _ H' => E c d H') := takes_of rfl rfl rfl rfl
    have hu := hr.units
    have hu65 := room65 hr
    have hIK : ∀ c ∈ ([] : List Str), InsK K (ca c) := fun c hc => absurd hc (by simp)
    match ds, hl with
    | [a0, a1], _ =>
      conv => arg 6; whnf
      change SSs _ _ _ _ [some (Sl.b a0), some (Sl.b a1), none, none] _ (m_law_apart a0 a1)
      unfold m_law_apart
      refine ss_if1 G ?_ ?_ ?_
      · exact (st_notD (st_val (se_v2r (se_callB (cv_isi [] hIK) (sa_r (se_b (i := 0)) (sa_v (se_ty B.b_list) sa_nil)) B.b_isinstance))))
      · refine ss_ret G ?_
        exact se_bl
      refine ss_set G ?_ (i := 2) (hk := ?_)
      · exact (se_neg (se_v2r se_int))
      intro d1
      refine ss_for G (S := D) (j := 3) (fun (s2 : D) => [some (Sl.b a0), some (Sl.b a1), some (Sl.d s2), none]) d1 ?_ ?_ ?_ ?_
      · exact (si_b (i := 0))
      · intro F1 G6 x3 s2 nx4 bk5
        refine ss_if1 G6 ?_ ?_ ?_
        · exact (st_bool (sw_or (st_notD (st_val (se_v2r (se_call D_law_int hr tk (sa_r (se_v2r (se_d (i := 3))) sa_nil))))) (sw_or (st_cmp ob_lt (se_v2r (se_d (i := 3))) (se_v2r (se_op ov_add (se_v2r (se_d (i := 2))) (se_v2r se_int)))) (sw_or1 (st_cmp ob_ge (se_v2r (se_d (i := 3))) (se_b (i := 1)))))))
        · refine ss_ret G6 ?_
          exact se_bl
        refine ss_set G6 ?_ (i := 2) (hk := ?_)
        · exact (se_d (i := 3))
        intro d7
        exact ss_nil ⟨d7, (EnLe.s (EnLe.s (EnLe.s (EnLe.n EnLe.nil)))), rfl⟩
      · exact (EnLe.s (EnLe.s (EnLe.s (EnLe.n EnLe.nil))))
      intro s2
      refine ss_ret G ?_
      exact se_bl)
theorem ok_law_covered (B : Bl mg) (D_law_numbers : Def P w K mg base ca "_law_numbers" 2 [.r, .r] (.v) (fn2 m_law_numbers)) {a : Addr} {fd : FuncData} (F : Fun K "_law_covered" "_law_covered" s_law_covered a fd) (gm : mg "_law_covered" = some (.ref a)) (b : Binds K fd ["worths", "own", "joins"] []) :
    Def P w K mg base ca "_law_covered" 3 [.r, .r, .r] (.v) (fn3 m_law_covered) :=
  def_ok (k := 2) F sc_law_covered rfl (by decide) gm b (fun cdv A outer s H Q E F0 ds hl hr G => by
    have tk : Takes (cxOf (L2.CX P w) P w K mg base ["worths", "own", "joins", "many", "at", "total"] "_law_covered" (defScope s_law_covered) a cdv A outer s H E) (fun c d _ H' => E c d H') := takes_of rfl rfl rfl rfl
    have hu := hr.units
    have hu65 := room65 hr
    have hIK : ∀ c ∈ ([] : List Str), InsK K (ca c) := fun c hc => absurd hc (by simp)
    match ds, hl with
    | [a0, a1, a2], _ =>
      conv => arg 6; whnf
      change SSs _ _ _ _ [some (Sl.b a0), some (Sl.b a1), some (Sl.b a2), none, none, none] _ (m_law_covered a0 a1 a2)
      unfold m_law_covered
      refine ss_set G ?_ (i := 3) (hk := ?_)
      · exact (se_callB cv_len (sa_r (se_b (i := 0)) sa_nil) B.b_len)
      intro d1
      refine ss_if1 G ?_ ?_ ?_
      · exact (st_bool (sw_or (st_notD (st_val (se_v2r (se_call D_law_numbers hr tk (sa_r (se_b (i := 1)) (sa_r (se_v2r (se_d (i := 3))) sa_nil)))))) (sw_or1 (st_notD (st_val (se_v2r (se_call D_law_numbers hr tk (sa_r (se_b (i := 2)) (sa_r (se_v2r (se_callB (cv_max2 G.calm) (sa_r (se_v2r se_int) (sa_r (se_v2r (se_op ov_sub (se_v2r (se_d (i := 3))) (se_v2r se_int))) sa_nil)) B.b_max)) sa_nil)))))))))
      · refine ss_ret G ?_
        exact se_bl
      refine ss_for G (S := Unit) (j := 4) (fun (s2 : Unit) => [some (Sl.b a0), some (Sl.b a1), some (Sl.b a2), some (Sl.d d1), none, none]) () ?_ ?_ ?_ ?_
      · exact (si_r1 (sa_r (se_v2r (se_d (i := 3))) sa_nil) B.b_range)
      · intro F1 G6 x3 s2 nx4 bk5
        refine ss_set G6 ?_ (i := 5) (hk := ?_)
        · exact (se_ix (se_b (i := 1)) (se_v2r (se_d (i := 4))))
        intro d7
        refine ss_if G6 (S := D) (fun (s8 : D) => [some (Sl.b a0), some (Sl.b a1), some (Sl.b a2), some (Sl.d d1), some (Sl.d x3), some (Sl.d s8)]) ?_ ?_ ?_ ?_
        · exact (st_cmp ob_gt (se_v2r (se_d (i := 4))) (se_v2r se_int))
        · refine ss_set G6 ?_ (i := 5) (hk := ?_)
          · exact (se_op ov_add (se_v2r (se_d (i := 5))) (se_v2r (se_ix (se_b (i := 2)) (se_v2r (se_op ov_sub (se_v2r (se_d (i := 4))) (se_v2r se_int))))))
          intro d10
          exact ss_nil ⟨d10, (EnLe.s (EnLe.s (EnLe.s (EnLe.s (EnLe.s (EnLe.s EnLe.nil)))))), rfl⟩
        · exact ss_nil ⟨d7, (EnLe.s (EnLe.s (EnLe.s (EnLe.s (EnLe.s (EnLe.s EnLe.nil)))))), rfl⟩
        intro s8
        refine ss_if G6 (S := D) (fun (s11 : D) => [some (Sl.b a0), some (Sl.b a1), some (Sl.b a2), some (Sl.d d1), some (Sl.d x3), some (Sl.d s11)]) ?_ ?_ ?_ ?_
        · exact (st_cmp ob_lt (se_v2r (se_d (i := 4))) (se_v2r (se_op ov_sub (se_v2r (se_d (i := 3))) (se_v2r se_int))))
        · refine ss_set G6 ?_ (i := 5) (hk := ?_)
          · exact (se_op ov_add (se_v2r (se_d (i := 5))) (se_v2r (se_ix (se_b (i := 2)) (se_v2r (se_d (i := 4))))))
          intro d13
          exact ss_nil ⟨d13, (EnLe.s (EnLe.s (EnLe.s (EnLe.s (EnLe.s (EnLe.s EnLe.nil)))))), rfl⟩
        · exact ss_nil ⟨s8, (EnLe.s (EnLe.s (EnLe.s (EnLe.s (EnLe.s (EnLe.s EnLe.nil)))))), rfl⟩
        intro s11
        refine ss_if2 G6 ?_ ?_ ?_
        · exact (st_cmp ob_lt (se_v2r (se_d (i := 5))) (se_v2r (se_ix (se_b (i := 0)) (se_v2r (se_d (i := 4))))))
        · refine ss_ret G6 ?_
          exact se_bl
        · exact ss_nil ⟨(), (EnLe.s (EnLe.s (EnLe.s (EnLe.s (EnLe.n (EnLe.n EnLe.nil)))))), rfl⟩
      · exact (EnLe.s (EnLe.s (EnLe.s (EnLe.s (EnLe.n (EnLe.n EnLe.nil))))))
      intro s2
      refine ss_ret G ?_
      exact se_bl)
theorem ok_law_judged (B : Bl mg) (D_law_covered : Def P w K mg base ca "_law_covered" 3 [.r, .r, .r] (.v) (fn3 m_law_covered)) (D_law_apart : Def P w K mg base ca "_law_apart" 2 [.r, .r] (.v) (fn2 m_law_apart)) {a : Addr} {fd : FuncData} (F : Fun K "_law_judged" "_law_judged" s_law_judged a fd) (gm : mg "_law_judged" = some (.ref a)) (b : Binds K fd ["worths", "answer"] []) :
    Def P w K mg base ca "_law_judged" 4 [.r, .r] (.v) (fn2 m_law_judged) :=
  def_ok (k := 3) F sc_law_judged rfl (by decide) gm b (fun cdv A outer s H Q E F0 ds hl hr G => by
    have tk : Takes (cxOf (L2.CX P w) P w K mg base ["worths", "answer", "place"] "_law_judged" (defScope s_law_judged) a cdv A outer s H E) (fun c d _ H' => E c d H') := takes_of rfl rfl rfl rfl
    have hu := hr.units
    have hu65 := room65 hr
    have hIK : ∀ c ∈ ([] : List Str), InsK K (ca c) := fun c hc => absurd hc (by simp)
    match ds, hl with
    | [a0, a1], _ =>
      conv => arg 6; whnf
      change SSs _ _ _ _ [some (Sl.b a0), some (Sl.b a1), none] _ (m_law_judged a0 a1)
      unfold m_law_judged
      refine ss_if1 G ?_ ?_ ?_
      · exact (st_bool (sw_or (st_notD (st_val (se_v2r (se_callB (cv_isi [] hIK) (sa_r (se_b (i := 1)) (sa_v (se_ty B.b_tuple) sa_nil)) B.b_isinstance)))) (sw_or1 (st_cmp (ob_ne hu) (se_v2r (se_callB cv_len (sa_r (se_b (i := 1)) sa_nil) B.b_len)) (se_v2r se_int)))))
      · refine ss_ret G ?_
        exact se_bl
      refine ss_if1 G ?_ ?_ ?_
      · exact (st_bool (sw_or (st_notD (st_val (se_v2r (se_call D_law_apart hr tk (sa_r (se_v2r (se_ix (se_b (i := 1)) (se_v2r se_int))) (sa_r (se_v2r (se_callB cv_len (sa_r (se_b (i := 0)) sa_nil) B.b_len)) sa_nil)))))) (sw_or1 (st_notD (st_val (se_v2r (se_call D_law_covered hr tk (sa_r (se_b (i := 0)) (sa_r (se_v2r (se_ix (se_b (i := 1)) (se_v2r se_int))) (sa_r (se_v2r (se_ix (se_b (i := 1)) (se_v2r se_int))) sa_nil))))))))))
      · refine ss_ret G ?_
        exact se_bl
      refine ss_ret G ?_
      exact (se_cmp (ob_eq hu) (se_v2r (se_op ov_add (se_v2r (se_callB (cv_sum G.calm) (sa_r (se_v2r (se_ix (se_b (i := 1)) (se_v2r se_int))) sa_nil) B.b_sum)) (se_v2r (se_callB (cv_sum G.calm) (sa_r (se_v2r (se_ix (se_b (i := 1)) (se_v2r se_int))) sa_nil) B.b_sum)))) (se_v2r (se_callB (cv_sum G.calm) (sa_r (se_o2r (se_comp (j := 2) G.nd G.calm (blkOk_by rfl) (si_v (se_ix (se_b (i := 1)) (se_v2r se_int))) (fun x1 _ _ _ _ _ => by exact sts_nil) (fun x1 _ _ _ _ _ => by exact (se_ix (se_b (i := 0)) (se_v2r (se_d (i := 2))))))) sa_nil) B.b_sum))))
theorem ok_law_lists_differ (B : Bl mg) {a : Addr} {fd : FuncData} (F : Fun K "_law_lists_differ" "_law_lists_differ" s_law_lists_differ a fd) (gm : mg "_law_lists_differ" = some (.ref a)) (b : Binds K fd ["answer"] []) :
    DefE P w K mg base ca "_law_lists_differ" 1 (.t (.c .o (.c .o (.c .o .n)))) m_law_lists_differ :=
  def_okE (k := 0) F sc_law_lists_differ rfl (by decide) gm b (fun cdv A outer s H Hs Q E F0 a0 hr G => by
    have tk : Takes (cxOf (L2.CX P w) P w K mg base ["answer", "own", "joins"] "_law_lists_differ" (defScope s_law_lists_differ) a cdv A outer s H E) (fun c d _ H' => E c d H') := takes_of rfl rfl rfl rfl
    have hu := hr.units
    have hu65 := room65 hr
    have hIK : ∀ c ∈ ([] : List Str), InsK K (ca c) := fun c hc => absurd hc (by simp)
    conv => arg 8; whnf
    change SSsQ _ _ _ _ [none, none, none] _ _ _ _ (m_law_lists_differ a0)
    unfold m_law_lists_differ
    refine sq_set G (j := 1) ?_ ?_
    · exact (se_callT cv_list (sa_r (se_v2r (se_ix (se_v2r (se_d (i := 0))) (se_v2r se_int))) sa_nil) B.b_list)
    intro d1
    refine sq_set G (j := 2) ?_ ?_
    · exact (se_callT cv_list (sa_r (se_v2r (se_ix (se_v2r (se_d (i := 0))) (se_v2r se_int))) sa_nil) B.b_list)
    intro d2
    refine sq_app G (k := 0) ?_ ?_
    · exact (se_neg (se_v2r se_int))
    intro d3
    refine sq_if1 G ?_ ?_ ?_
    · exact (st_bool (sw_or (st_cmp (ob_ne hu) (se_v2r (se_ix (se_v2r (se_d (i := 0))) (se_v2r se_int))) (se_v2r (se_d (i := 1)))) (sw_or1 (st_cmp (ob_ne hu) (se_v2r (se_ix (se_v2r (se_d (i := 0))) (se_v2r se_int))) (se_v2r (se_d (i := 2)))))))
    · refine ss_ret G ?_
      exact se_bl
    refine sq_app G (k := 1) ?_ ?_
    · exact (se_neg (se_v2r se_int))
    intro d4
    refine sq_if1 G ?_ ?_ ?_
    · exact (st_cmp (ob_ne hu) (se_v2r (se_ix (se_v2r (se_d (i := 0))) (se_v2r se_int))) (se_v2r (se_d (i := 2))))
    · refine ss_ret G ?_
      exact se_bl
    refine sq_app G (k := 2) ?_ ?_
    · exact (se_neg (se_v2r se_int))
    intro d5
    refine sq_drop ?_
    refine ss_ret G ?_
    exact se_bl)
theorem ok_law (B : Bl mg) (D_law_cell : Def P w K mg base ca "_law_cell" 1 [.r, .r] (.v) (fn2 m_law_cell)) (D_law_draw : Def P w K mg base ca "_law_draw" 1 [.r, .r, .r] (.v) (fn3 m_law_draw)) (D_law_worths : Def P w K mg base ca "_law_worths" 2 [.r, .r, .r] (.o) (fn3 m_law_worths)) (D_best_chain : Def P w K mg base ca "best_chain" 2 [.r] (.q (.t (.c .o (.c .o (.c .o .n))))) (fn1 m_best_chain)) (D_law_lists_differ : DefE P w K mg base ca "_law_lists_differ" 1 (.t (.c .o (.c .o (.c .o .n)))) m_law_lists_differ) (D_law_judged : Def P w K mg base ca "_law_judged" 4 [.r, .r] (.v) (fn2 m_law_judged)) {a : Addr} {fd : FuncData} (F : Fun K "law" "law" s_law a fd) :
    FnOk P w K mg base (L2.CX P w) 5 a fd ["script"] (spOf K ca [.r] (.v) (fn1 m_law)) :=
  def_okF (k := 4) F sc_law rfl (by decide) (fun cdv A outer s H Q E F0 ds hl hr G => by
    have tk : Takes (cxOf (L2.CX P w) P w K mg base ["script", "head", "many", "worths", "handed", "answer", "back", "k"] "law" (defScope s_law) a cdv A outer s H E) (fun c d _ H' => E c d H') := takes_of rfl rfl rfl rfl
    have hu := hr.units
    have hu65 := room65 hr
    have hIK : ∀ c ∈ ([] : List Str), InsK K (ca c) := fun c hc => absurd hc (by simp)
    match ds, hl with
    | [a0], _ =>
      conv => arg 6; whnf
      change SSs _ _ _ _ [some (Sl.b a0), none, none, none, none, none, none, none] _ (m_law a0)
      unfold m_law
      refine ss_set G ?_ (i := 1) (hk := ?_)
      · exact (se_call D_law_cell hr tk (sa_r (se_b (i := 0)) (sa_r (se_v2r se_int) sa_nil)))
      intro d1
      refine ss_set G ?_ (i := 2) (hk := ?_)
      · exact (se_call D_law_draw hr tk (sa_r (se_v2r (se_d (i := 1))) (sa_r (se_v2r se_int) (sa_r (se_v2r se_int) sa_nil))))
      intro d2
      refine ss_set G ?_ (i := 3) (hk := ?_)
      · exact (se_o2v (se_call D_law_worths hr tk (sa_r (se_v2r (se_call D_law_cell hr tk (sa_r (se_b (i := 0)) (sa_r (se_v2r se_int) sa_nil)))) (sa_r (se_v2r (se_call D_law_draw hr tk (sa_r (se_v2r (se_d (i := 1))) (sa_r (se_v2r se_int) (sa_r (se_v2r se_int) sa_nil))))) (sa_r (se_v2r (se_d (i := 2))) sa_nil)))))
      intro d3
      refine ss_set G ?_ (i := 4) (hk := ?_)
      · exact (se_o2v (se_callT cv_list (sa_r (se_v2r (se_d (i := 3))) sa_nil) B.b_list))
      intro d4
      refine sq_enter G (i := 5) (s := (.t (.c .o (.c .o (.c .o .n))))) ?_ ?_
      · exact (se_call D_best_chain hr tk (sa_r (se_v2r (se_d (i := 4))) sa_nil))
      intro d5
      refine sq_eat G ?_ ?_ ?_
      · exact (sqt_bool (sqw_or (st_cmp (ob_ne hu) (se_v2r (se_d (i := 4))) (se_v2r (se_d (i := 3)))) (sqw_or (st_notD (st_val (se_v2r (se_call D_law_judged hr tk (sa_r (se_v2r (se_d (i := 3))) (sa_r (se_v2r (se_d (i := 5))) sa_nil)))))) (sqw_or1 (sqt_not (sqt_call D_law_lists_differ hr tk))))))
      · refine ss_ret G ?_
        exact se_bl
      refine ss_setLcO G (i := 6) (j := 7) (blkOk_by rfl) ?_ ?_ ?_ ?_
      · exact (si_r1 (sa_r (se_v2r (se_d (i := 2))) sa_nil) B.b_range)
      · exact (fun x7 _ _ _ _ _ => by exact sts_nil)
      · exact (fun x7 _ _ _ _ _ => by exact (se_ix (se_v2r (se_d (i := 3))) (se_v2r (se_op ov_sub (se_v2r (se_op ov_sub (se_v2r (se_d (i := 2))) (se_v2r se_int))) (se_v2r (se_d (i := 7)))))))
      intro d6
      refine ss_freeze (i := 6) (h := ?_)
      refine ss_if1 G ?_ ?_ ?_
      · exact (st_notD (st_val (se_v2r (se_call D_law_judged hr tk (sa_r (se_v2r (se_d (i := 6))) (sa_r (se_q2r (se_call D_best_chain hr tk (sa_r (se_o2r (se_callT cv_list (sa_r (se_v2r (se_d (i := 6))) sa_nil) B.b_list)) sa_nil))) sa_nil))))))
      · refine ss_ret G ?_
        exact se_bl
      refine ss_ret G ?_
      exact (se_and (se_v2r (se_call D_law_judged hr tk (sa_r (se_v2r (se_d (i := 3))) (sa_r (se_q2r (se_call D_best_chain hr tk (sa_r (se_o2r (se_callT cv_list (sa_r (se_v2r (se_d (i := 3))) sa_nil) B.b_list)) sa_nil))) sa_nil)))) (se_one (se_call D_law_judged hr tk (sa_r (se_v2r (se_d (i := 3))) (sa_r (se_q2r (se_call D_best_chain hr tk (sa_r (se_v2r (se_callT cv_tuple (sa_r (se_v2r (se_d (i := 3))) sa_nil) B.b_tuple)) sa_nil))) sa_nil))))))
def ca0 : Str → Addr := fun _ => 0
theorem all_mk {l : PySem.W.OpenLaw} {w : World} {K : PySem.W.Frag} {h : Heap} {mg : Str → Option Value} {fa f1 f2 f3 f4 f5 f6 f7 f8 f9 f10 f11 f12 : Addr} (X : K.In h) (G : h.Ns mainGlobals mg) (hfa : mg "law" = some (.ref fa))
    {od1 an1 od2 an2 od3 an3 od4 an4 od5 an5 od6 an6 od7 an7 od8 an8 od9 an9 od10 an10 od11 an11 od12 an12 : Option Addr} {sl1 sl2 sl3 sl4 sl5 sl6 sl7 sl8 sl9 sl10 sl11 sl12 : Array (Option Value)} {oc1 kV1 dc1 pm1 cd1 ct1 oc2 kV2 dc2 pm2 cd2 ct2 oc3 kV3 dc3 pm3 cd3 ct3 oc4 kV4 dc4 pm4 cd4 ct4 oc5 kV5 dc5 pm5 cd5 ct5 oc6 kV6 dc6 pm6 cd6 ct6 oc7 kV7 dc7 pm7 cd7 ct7 oc8 kV8 dc8 pm8 cd8 ct8 oc9 kV9 dc9 pm9 cd9 ct9 oc10 kV10 dc10 pm10 cd10 ct10 oc11 kV11 dc11 pm11 cd11 ct11 oc12 kV12 dc12 pm12 cd12 ct12 : Value}
    (a1 : PySem.W.nsIn K mainGlobals "remainders" = some (some (.ref f1))) (l1 : K.lookup f1 = some ⟨oc1, od1, .func (PySem.W.fnOf "remainders" "remainders" (defArgs s_remainders) (defBody s_remainders) (defScope s_remainders) .none kV1 dc1 pm1 an1 cd1 ct1), sl1⟩) (c1 : PySem.W.codeIn K cd1 "remainders" = true) (k1 : PySem.W.keepIn K (.ref f1) = true)
    (a2 : PySem.W.nsIn K mainGlobals "best_chain" = some (some (.ref f2))) (l2 : K.lookup f2 = some ⟨oc2, od2, .func (PySem.W.fnOf "best_chain" "best_chain" (defArgs s_best_chain) (defBody s_best_chain) (defScope s_best_chain) .none kV2 dc2 pm2 an2 cd2 ct2), sl2⟩) (c2 : PySem.W.codeIn K cd2 "best_chain" = true) (k2 : PySem.W.keepIn K (.ref f2) = true)
    (a3 : PySem.W.nsIn K mainGlobals "_law_int" = some (some (.ref f3))) (l3 : K.lookup f3 = some ⟨oc3, od3, .func (PySem.W.fnOf "_law_int" "_law_int" (defArgs s_law_int) (defBody s_law_int) (defScope s_law_int) .none kV3 dc3 pm3 an3 cd3 ct3), sl3⟩) (c3 : PySem.W.codeIn K cd3 "_law_int" = true) (k3 : PySem.W.keepIn K (.ref f3) = true)
    (a4 : PySem.W.nsIn K mainGlobals "_law_cell" = some (some (.ref f4))) (l4 : K.lookup f4 = some ⟨oc4, od4, .func (PySem.W.fnOf "_law_cell" "_law_cell" (defArgs s_law_cell) (defBody s_law_cell) (defScope s_law_cell) .none kV4 dc4 pm4 an4 cd4 ct4), sl4⟩) (c4 : PySem.W.codeIn K cd4 "_law_cell" = true) (k4 : PySem.W.keepIn K (.ref f4) = true)
    (a5 : PySem.W.nsIn K mainGlobals "_law_draw" = some (some (.ref f5))) (l5 : K.lookup f5 = some ⟨oc5, od5, .func (PySem.W.fnOf "_law_draw" "_law_draw" (defArgs s_law_draw) (defBody s_law_draw) (defScope s_law_draw) .none kV5 dc5 pm5 an5 cd5 ct5), sl5⟩) (c5 : PySem.W.codeIn K cd5 "_law_draw" = true) (k5 : PySem.W.keepIn K (.ref f5) = true)
    (a6 : PySem.W.nsIn K mainGlobals "_law_worths" = some (some (.ref f6))) (l6 : K.lookup f6 = some ⟨oc6, od6, .func (PySem.W.fnOf "_law_worths" "_law_worths" (defArgs s_law_worths) (defBody s_law_worths) (defScope s_law_worths) .none kV6 dc6 pm6 an6 cd6 ct6), sl6⟩) (c6 : PySem.W.codeIn K cd6 "_law_worths" = true) (k6 : PySem.W.keepIn K (.ref f6) = true)
    (a7 : PySem.W.nsIn K mainGlobals "_law_numbers" = some (some (.ref f7))) (l7 : K.lookup f7 = some ⟨oc7, od7, .func (PySem.W.fnOf "_law_numbers" "_law_numbers" (defArgs s_law_numbers) (defBody s_law_numbers) (defScope s_law_numbers) .none kV7 dc7 pm7 an7 cd7 ct7), sl7⟩) (c7 : PySem.W.codeIn K cd7 "_law_numbers" = true) (k7 : PySem.W.keepIn K (.ref f7) = true)
    (a8 : PySem.W.nsIn K mainGlobals "_law_apart" = some (some (.ref f8))) (l8 : K.lookup f8 = some ⟨oc8, od8, .func (PySem.W.fnOf "_law_apart" "_law_apart" (defArgs s_law_apart) (defBody s_law_apart) (defScope s_law_apart) .none kV8 dc8 pm8 an8 cd8 ct8), sl8⟩) (c8 : PySem.W.codeIn K cd8 "_law_apart" = true) (k8 : PySem.W.keepIn K (.ref f8) = true)
    (a9 : PySem.W.nsIn K mainGlobals "_law_covered" = some (some (.ref f9))) (l9 : K.lookup f9 = some ⟨oc9, od9, .func (PySem.W.fnOf "_law_covered" "_law_covered" (defArgs s_law_covered) (defBody s_law_covered) (defScope s_law_covered) .none kV9 dc9 pm9 an9 cd9 ct9), sl9⟩) (c9 : PySem.W.codeIn K cd9 "_law_covered" = true) (k9 : PySem.W.keepIn K (.ref f9) = true)
    (a10 : PySem.W.nsIn K mainGlobals "_law_judged" = some (some (.ref f10))) (l10 : K.lookup f10 = some ⟨oc10, od10, .func (PySem.W.fnOf "_law_judged" "_law_judged" (defArgs s_law_judged) (defBody s_law_judged) (defScope s_law_judged) .none kV10 dc10 pm10 an10 cd10 ct10), sl10⟩) (c10 : PySem.W.codeIn K cd10 "_law_judged" = true) (k10 : PySem.W.keepIn K (.ref f10) = true)
    (a11 : PySem.W.nsIn K mainGlobals "_law_lists_differ" = some (some (.ref f11))) (l11 : K.lookup f11 = some ⟨oc11, od11, .func (PySem.W.fnOf "_law_lists_differ" "_law_lists_differ" (defArgs s_law_lists_differ) (defBody s_law_lists_differ) (defScope s_law_lists_differ) .none kV11 dc11 pm11 an11 cd11 ct11), sl11⟩) (c11 : PySem.W.codeIn K cd11 "_law_lists_differ" = true) (k11 : PySem.W.keepIn K (.ref f11) = true)
    (a12 : PySem.W.nsIn K mainGlobals "law" = some (some (.ref f12))) (l12 : K.lookup f12 = some ⟨oc12, od12, .func (PySem.W.fnOf "law" "law" (defArgs s_law) (defBody s_law) (defScope s_law) .none kV12 dc12 pm12 an12 cd12 ct12), sl12⟩) (c12 : PySem.W.codeIn K cd12 "law" = true) (k12 : PySem.W.keepIn K (.ref f12) = true)
    (z0 : PySem.W.nsIn K mainGlobals "bool" = some none)
    (z1 : PySem.W.nsIn K mainGlobals "int" = some none)
    (z2 : PySem.W.nsIn K mainGlobals "isinstance" = some none)
    (z3 : PySem.W.nsIn K mainGlobals "len" = some none)
    (z4 : PySem.W.nsIn K mainGlobals "list" = some none)
    (z5 : PySem.W.nsIn K mainGlobals "max" = some none)
    (z6 : PySem.W.nsIn K mainGlobals "range" = some none)
    (z7 : PySem.W.nsIn K mainGlobals "sum" = some none)
    (z8 : PySem.W.nsIn K mainGlobals "tuple" = some none)
    : ∃ fd : FuncData, (∀ (s : Shared) (v : Value), BindsTo s fd ⟨[v], []⟩ [("script", v)]) ∧ ∀ base : Heap, K.In base → base.Ns mainGlobals mg → FnOk l.prog w K mg base (L2.CX l.prog w) 5 fa fd ["script"] (spOf K ca0 [.r] .v (fn1 m_law)) := by
  have e := hfa.symm.trans (PySem.W.mg_of X G a12)
  cases e
  have F1 := fun_mk (st := s_remainders) l1 c1 k1
  have b1 := F1.binds (ps := ["worths"]) fun _ _ _ _ _ _ us hl => match us, hl with | [_], _ => rfl
  have F2 := fun_mk (st := s_best_chain) l2 c2 k2
  have b2 := F2.binds (ps := ["worths"]) fun _ _ _ _ _ _ us hl => match us, hl with | [_], _ => rfl
  have F3 := fun_mk (st := s_law_int) l3 c3 k3
  have b3 := F3.binds (ps := ["value"]) fun _ _ _ _ _ _ us hl => match us, hl with | [_], _ => rfl
  have F4 := fun_mk (st := s_law_cell) l4 c4 k4
  have b4 := F4.binds (ps := ["script", "k"]) fun _ _ _ _ _ _ us hl => match us, hl with | [_, _], _ => rfl
  have F5 := fun_mk (st := s_law_draw) l5 c5 k5
  have b5 := F5.binds (ps := ["cell", "k", "size"]) fun _ _ _ _ _ _ us hl => match us, hl with | [_, _, _], _ => rfl
  have F6 := fun_mk (st := s_law_worths) l6 c6 k6
  have b6 := F6.binds (ps := ["cell", "shape", "many"]) fun _ _ _ _ _ _ us hl => match us, hl with | [_, _, _], _ => rfl
  have F7 := fun_mk (st := s_law_numbers) l7 c7 k7
  have b7 := F7.binds (ps := ["value", "many"]) fun _ _ _ _ _ _ us hl => match us, hl with | [_, _], _ => rfl
  have F8 := fun_mk (st := s_law_apart) l8 c8 k8
  have b8 := F8.binds (ps := ["chosen", "many"]) fun _ _ _ _ _ _ us hl => match us, hl with | [_, _], _ => rfl
  have F9 := fun_mk (st := s_law_covered) l9 c9 k9
  have b9 := F9.binds (ps := ["worths", "own", "joins"]) fun _ _ _ _ _ _ us hl => match us, hl with | [_, _, _], _ => rfl
  have F10 := fun_mk (st := s_law_judged) l10 c10 k10
  have b10 := F10.binds (ps := ["worths", "answer"]) fun _ _ _ _ _ _ us hl => match us, hl with | [_, _], _ => rfl
  have F11 := fun_mk (st := s_law_lists_differ) l11 c11 k11
  have b11 := F11.binds (ps := ["answer"]) fun _ _ _ _ _ _ us hl => match us, hl with | [_], _ => rfl
  have F12 := fun_mk (st := s_law) l12 c12 k12
  refine ⟨PySem.W.fnOf "law" "law" (defArgs s_law) (defBody s_law) (defScope s_law) .none kV12 dc12 pm12 an12 cd12 ct12, fun s v => .of_eq rfl, fun base _ _ => ?_⟩
  have B : Bl mg := ⟨PySem.W.mg_none_of X G z0, PySem.W.mg_none_of X G z1, PySem.W.mg_none_of X G z2, PySem.W.mg_none_of X G z3, PySem.W.mg_none_of X G z4, PySem.W.mg_none_of X G z5, PySem.W.mg_none_of X G z6, PySem.W.mg_none_of X G z7, PySem.W.mg_none_of X G z8⟩
  have D1 := ok_remainders (P := l.prog) (w := w) (base := base) (ca := ca0) B  F1 (PySem.W.mg_of X G a1) b1
  have D2 := ok_best_chain (P := l.prog) (w := w) (base := base) (ca := ca0) B D1 F2 (PySem.W.mg_of X G a2) b2
  have D3 := ok_law_int (P := l.prog) (w := w) (base := base) (ca := ca0) B  F3 (PySem.W.mg_of X G a3) b3
  have D4 := ok_law_cell (P := l.prog) (w := w) (base := base) (ca := ca0) B  F4 (PySem.W.mg_of X G a4) b4
  have D5 := ok_law_draw (P := l.prog) (w := w) (base := base) (ca := ca0) B  F5 (PySem.W.mg_of X G a5) b5
  have D6 := ok_law_worths (P := l.prog) (w := w) (base := base) (ca := ca0) B D5 F6 (PySem.W.mg_of X G a6) b6
  have D7 := ok_law_numbers (P := l.prog) (w := w) (base := base) (ca := ca0) B D3 F7 (PySem.W.mg_of X G a7) b7
  have D8 := ok_law_apart (P := l.prog) (w := w) (base := base) (ca := ca0) B D3 F8 (PySem.W.mg_of X G a8) b8
  have D9 := ok_law_covered (P := l.prog) (w := w) (base := base) (ca := ca0) B D7 F9 (PySem.W.mg_of X G a9) b9
  have D10 := ok_law_judged (P := l.prog) (w := w) (base := base) (ca := ca0) B D9 D8 F10 (PySem.W.mg_of X G a10) b10
  have D11 := ok_law_lists_differ (P := l.prog) (w := w) (base := base) (ca := ca0) B  F11 (PySem.W.mg_of X G a11) b11
  exact ok_law B D4 D5 D6 D2 D11 D10 F12
end

end Um

namespace Um
open L2 PySem PySem.Spec PyProof.Rows

theorem cell_ok (ns : List Int) (k : Nat) : ∃ c : Int, m_law_cell (.scr (il ns)) (.int k) = .ok (.int c) := by
  unfold m_law_cell
  simp only [rcons_ok, R.bind_ok, fn1_s, dLen_sc, R.op2_ok, dLt_s, il_len]
  by_cases h : (k : Int) < ns.length
  · have hk : k < ns.length := by omega
    refine ⟨ns[k], ?_⟩
    simp only [h, decide_true, if_true]
    rw [dIx_getS (d := .int ns[k]) (by omega) (by rw [Int.toNat_natCast, List.getElem?_map, List.getElem?_eq_getElem hk]; rfl)]
    rfl
  · exact ⟨0, by simp only [h, decide_false]; rfl⟩
theorem draw_ok (c k size : Int) (hk0 : 0 ≤ k) (hk : k < 1000000) (hs : 0 < size) : ∃ r : Int, m_law_draw (.int c) (.int k) (.int size) = .ok (.int r) ∧ 0 ≤ r ∧ r < size := by
  have hm : ∀ x : Int, 0 ≤ x % size ∧ x % size < size := fun x => ⟨Int.emod_nonneg x (by omega), Int.emod_lt_of_pos x hs⟩
  unfold m_law_draw
  refine joinC_ex ?_ fun K hK => ?_
  · skip
    simp only [R.op2_ok, R.bind_ok, rcons_ok, fn1_s]
    rw [dMul_l (by omega) (by omega)]
    simp only [R.op2_ok, dAdd_s, R.bind_ok, rcons_ok, fn1_s, dInt_s]
    rw [dMod_s (by omega)]
    simp only [R.op2_ok, dAdd_s, R.bind_ok, rcons_ok, fn1_s, dInt_s]
    generalize h1 : (c + 7919 * k + 13) % 2147483647 = x1
    have b1 : 0 ≤ x1 ∧ x1 < 2147483647 := by omega
    rw [dMul_l (by omega) (by omega)]
    simp only [R.op2_ok, dAdd_s, R.bind_ok, rcons_ok, fn1_s, dInt_s]
    rw [dMod_s (by omega)]
    simp only [R.op2_ok, dAdd_s, R.bind_ok, rcons_ok, fn1_s, dInt_s]
    generalize h2 : (x1 * (x1 + 48271)) % 2147483629 = x2
    have b2 : 0 ≤ x2 ∧ x2 < 2147483629 := by omega
    rw [dMul_l (by omega) (by omega), dMul_l (by omega) (by omega)]
    simp only [R.op2_ok, dAdd_s, R.bind_ok, rcons_ok, fn1_s, dInt_s]
    rw [dMod_s (by omega)]
    simp only [R.op2_ok, dAdd_s, R.bind_ok, rcons_ok, fn1_s, dInt_s]
    rw [dFdiv_s (by omega) (by omega)]
    simp only [R.op2_ok, dAdd_s, R.bind_ok, rcons_ok, fn1_s, dInt_s]
    rw [dMod_s hs]
    exact ⟨_, rfl, hm _⟩
  · skip
    simp only [R.op2_ok, R.bind_ok, rcons_ok, fn1_s]
    rw [dPow_s (by omega) (by omega) (by decide)]
    simp only [R.op2_ok, dGe_s, R.bind_ok, dInt_s]
    by_cases hb : (10 : Int) ^ (18 : Int).toNat ≤ c
    · simp only [hb, decide_true, if_true]
      rw [dRng1_s hk0 (by omega)]
      simp only [R.bind_ok]
      refine forC_P (fun (x : R D) => ∃ r : Int, x = R.ok (D.int r) ∧ 0 ≤ r ∧ r < size) (fun _ (s : D) => ∃ q : Int, s = D.int q) ⟨c, rfl⟩ (fun i d s _ ⟨q, hq⟩ => ?_) fun s ⟨q, hq⟩ => ?_
      · subst hq
        exact ⟨D.int (q / 64), ⟨_, rfl⟩, fun nx bk => by rw [dFdiv_s (by omega) (by omega)]; rfl⟩
      · subst hq
        simp only [dGt_s, R.bind_ok, dInt_s, R.op2_ok]
        by_cases hq : (0 : Int) < q
        · simp only [hq, decide_true, if_true]
          rw [dMod_s (by omega)]
          simp only [R.op2_ok]
          rw [dMod_s hs]
          exact ⟨_, rfl, hm _⟩
        · simp only [hq, decide_false]
          exact hK
    · simp only [hb, decide_false]
      exact hK
theorem worths_ok (c shape many : Int) (h0 : 0 ≤ many) (h1 : many ≤ 500) : ∃ ws : List Int, m_law_worths (.int c) (.int shape) (.int many) = .ok (.lst (il ws)) ∧ ws.length = many.toNat ∧ ∀ w ∈ ws, 0 ≤ w := by
  unfold m_law_worths
  simp only [R.bind_ok, rcons_ok, dLst_0]
  rw [dRng1_s h0 (by omega)]
  simp only [R.bind_ok]
  refine forC_P (fun (x : R D) => ∃ ws : List Int, x = R.ok (D.lst (il ws)) ∧ ws.length = many.toNat ∧ ∀ w ∈ ws, 0 ≤ w) (fun i (s : D) => ∃ ws : List Int, s = D.lst (il ws) ∧ ws.length = i ∧ ∀ w ∈ ws, 0 ≤ w) ⟨[], rfl, rfl, by simp⟩ (fun i d s hd ⟨ws, hs, hl, hw⟩ => ?_) fun s ⟨ws, hs, hl, hw⟩ => ⟨ws, by rw [hs], by rw [hl, rngD_length], hw⟩
  obtain ⟨hi, rfl⟩ := rngD_get hd
  subst hs
  rw [show (0 : Int) + (i : Int) * 1 = (i : Int) by omega]
  obtain ⟨r1, e1, p1, q1⟩ := draw_ok c (2 * i) 32 (by omega) (by omega) (by omega)
  obtain ⟨r2, e2, p2, q2⟩ := draw_ok c (2 * i + 1) 32 (by omega) (by omega) (by omega)
  have m1 : dMul (.int 2) (.int (i : Int)) = .ok (.int (2 * (i : Int))) := dMul_l (by omega) (by omega)
  have m2 : dMul (.int 32) (.int r1) = .ok (.int (32 * r1)) := dMul_l (by omega) (by omega)
  have m3 : dMod (.int (32 * r1 + r2)) (.int 1001) = .ok (.int ((32 * r1 + r2) % 1001)) := dMod_s (by omega)
  simp only [joinC_s, R.op2_ok, m1, R.bind_ok, rcons_ok, fn1_s, fn3_s, e1, e2, m2, dAdd_s, dInt_s, m3, lstOf_lst, dEq_s, dGt_s]
  generalize hx : (32 * r1 + r2) % 1001 = x
  have hx0 : 0 ≤ x := by omega
  have hA : ∀ w : Int, 0 ≤ w → ∃ s', (∃ ws' : List Int, s' = D.lst (il ws') ∧ ws'.length = i + 1 ∧ ∀ w ∈ ws', 0 ≤ w) ∧ dApp (il ws) (.int w) = .ok s' := fun w hw0 => by
    refine ⟨.lst (il (ws ++ [w])), ⟨_, rfl, by simp [hl], fun u hu => ?_⟩, by rw [dApp_s _ (by rw [il_len]; omega), il_snoc]⟩
    rcases List.mem_append.mp hu with h | h
    · exact hw u h
    · rw [List.mem_singleton] at h; omega
  have hB : ∀ w : Int, 0 ≤ w → ∃ s', (∃ ws' : List Int, s' = D.lst (il ws') ∧ ws'.length = i + 1 ∧ ∀ w ∈ ws', 0 ≤ w) ∧ ∀ nx : D → R D,
      ((R.or (.ok (decide (shape = 3))) (R.and (.ok (decide (shape = 2))) (R.op2 dEq (R.op2 dMod (.ok (.int (i : Int))) (.ok (.int 2))) (.ok (.int 1))))).bind fun b => if b = true then (R.op2 dMod (dInt (.int w)) (.ok (.int 4))).bind fun d13 => (dApp (il ws) d13).bind fun d14 => nx d14 else (dApp (il ws) (.int w)).bind fun d14 => nx d14) = nx s' := fun w hw0 => by
    have m4 : dMod (.int (i : Int)) (.int 2) = .ok (.int ((i : Int) % 2)) := dMod_s (by omega)
    have m5 : dMod (.int w) (.int 4) = .ok (.int (w % 4)) := dMod_s (by omega)
    obtain ⟨s1, i1, a1⟩ := hA w hw0
    obtain ⟨s2, i2, a2⟩ := hA (w % 4) (by omega)
    simp only [R.op2_ok, m4, dEq_s, dInt_s, m5, R.bind_ok]
    by_cases c1 : shape = 3
    · exact ⟨s2, i2, fun nx => by simp only [c1, decide_true, R.or_true, R.bind_ok, if_true, a2]⟩
    · by_cases c2 : shape = 2
      · by_cases c3 : (i : Int) % 2 = 1
        · exact ⟨s2, i2, fun nx => by simp only [c1, c2, c3, decide_false, decide_true, R.or_false, R.and_true, R.bind_ok, if_true, a2]; rfl⟩
        · exact ⟨s1, i1, fun nx => by simp only [c1, c2, c3, decide_false, decide_true, R.or_false, R.and_true, R.bind_ok, a1]; rfl⟩
      · exact ⟨s1, i1, fun nx => by simp only [c1, c2, decide_false, R.or_false, R.and_false, R.bind_ok, a1]; rfl⟩
  obtain ⟨s1, i1, b1⟩ := hB x hx0
  by_cases c1 : shape = 1 ∧ (0 : Int) < i
  · have hn : ∃ w, ws[0]? = some w ∧ 0 ≤ w := by
      have : 0 < ws.length := by omega
      exact ⟨ws[0], List.getElem?_eq_getElem this, hw _ (List.getElem_mem this)⟩
    obtain ⟨w, hw1, hw2⟩ := hn
    have ix : dIx (.lst (il ws)) (.int 0) = .ok (.int w) := dIx_get (by omega) (by
      show (il ws)[0]? = _
      rw [List.getElem?_map, hw1]; rfl)
    obtain ⟨s2, i2, b2⟩ := hB w hw2
    refine ⟨s2, i2, fun nx bk => ?_⟩
    rw [← b2 nx]
    simp only [c1, decide_true, R.and_true, R.bind_ok, if_true, ix, R.op2_ok]
  · refine ⟨s1, i1, fun nx bk => ?_⟩
    rw [← b1 nx]
    by_cases c2 : shape = 1
    · have c3 : ¬ (0 : Int) < i := fun h => c1 ⟨c2, h⟩
      simp only [c2, c3, decide_true, decide_false, R.and_true, R.bind_ok, R.op2_ok]; rfl
    · simp only [c2, decide_false, R.and_false, R.bind_ok, R.op2_ok]; rfl

/-! ### the arithmetic -/
def gd (r : List Int) (i : Nat) : Int := r[i]?.getD 0
def rem : Int → List Int → List Int
  | _, [] => []
  | b, w :: ws => max 0 (w - b) :: rem (max 0 (w - b)) ws
theorem rem_len : ∀ (b : Int) (ws : List Int), (rem b ws).length = ws.length
  | _, [] => rfl
  | b, w :: ws => by rw [rem, List.length_cons, List.length_cons, rem_len]
theorem rem_0 (b w : Int) (ws : List Int) : gd (rem b (w :: ws)) 0 = max 0 (w - b) := rfl
theorem rem_at0 {b : Int} {ws : List Int} (h : 0 < ws.length) : gd (rem b ws) 0 = max 0 (gd ws 0 - b) := by
  cases ws with
  | nil => simp at h
  | cons w ws => rfl
theorem rem_atS : ∀ {b : Int} {ws : List Int} {i : Nat}, i + 1 < ws.length → gd (rem b ws) (i + 1) = max 0 (gd ws (i + 1) - gd (rem b ws) i)
  | _, [], _, h => by simp at h
  | b, w :: ws, 0, h => by
    have h' : 0 < ws.length := by simpa using h
    show gd (rem (max 0 (w - b)) ws) 0 = max 0 (gd ws 0 - max 0 (w - b))
    exact rem_at0 h'
  | b, w :: ws, i + 1, h => by
    have h' : i + 1 < ws.length := by simpa using h
    exact rem_atS (b := max 0 (w - b)) (ws := ws) h'
theorem rem_nn {b : Int} {ws : List Int} : ∀ w ∈ rem b ws, 0 ≤ w := by
  induction ws generalizing b with
  | nil => simp [rem]
  | cons w ws ih =>
    intro x hx
    rcases List.mem_cons.mp hx with e | hx
    · omega
    · exact ih x hx
theorem gd_nn {r : List Int} (h : ∀ w ∈ r, 0 ≤ w) (i : Nat) : 0 ≤ gd r i := by
  unfold gd
  cases e : r[i]? with
  | none => simp
  | some x => exact h x (List.mem_of_getElem? e)
theorem fold_rem : ∀ (ws acc : List Int) (b : Int), (ws.foldl (fun (p : List Int × Int) w => (p.1 ++ [max 0 (w - p.2)], max 0 (w - p.2))) (acc, b)).1 = acc ++ rem b ws
  | [], acc, b => by simp [rem]
  | w :: ws, acc, b => by
    rw [List.foldl_cons, fold_rem ws]
    simp [rem]
def cstep (r : List Int) (acc : List Int) (i : Nat) : List Int := if 0 < gd r i ∧ ((i : Int) + 1) ∉ acc then (i : Int) :: acc else acc
theorem cstep_len (r acc : List Int) (i : Nat) : (cstep r acc i).length ≤ acc.length + 1 := by unfold cstep; split <;> simp
def Ap (N : Int) : Int → List Int → Prop
  | _, [] => True
  | lo, a :: l => lo ≤ a ∧ a < N ∧ Ap N (a + 2) l
theorem Ap.mono {N lo lo' : Int} (h : lo' ≤ lo) : ∀ {l : List Int}, Ap N lo l → Ap N lo' l
  | [], _ => trivial
  | _ :: _, ⟨h1, h2, h3⟩ => ⟨by omega, h2, h3⟩
theorem Ap.ge {N : Int} : ∀ {lo : Int} {l : List Int}, Ap N lo l → ∀ a ∈ l, lo ≤ a ∧ a < N
  | _, [], _, a, h => by cases h
  | lo, b :: l, ⟨h1, h2, h3⟩, a, h => by
    rcases List.mem_cons.mp h with e | h
    · subst e; exact ⟨h1, h2⟩
    · have := Ap.ge h3 a h; omega
def sm (ws : List Int) (acc : List Int) : Int := (acc.map fun a => gd ws a.toNat).sum
def tt (r : List Int) : Nat → Int
  | 0 => 0
  | n + 1 => tt r n + gd r n
theorem tt_take (r : List Int) : ∀ n, n ≤ r.length → tt r n = (r.take n).sum
  | 0, _ => by simp [tt]
  | n + 1, h => by
    have hn : n < r.length := by omega
    rw [tt, tt_take r n (by omega), List.take_add_one, List.sum_append, List.getElem?_eq_getElem hn]
    simp [gd, List.getElem?_eq_getElem hn]
theorem down_ok {ws : List Int} (N : Nat) (hN : N = ws.length) : ∀ (i : Nat) (acc : List Int), i ≤ N → Ap N i acc →
    Ap N 0 (downF (cstep (rem 0 ws)) i acc) ∧ sm ws (downF (cstep (rem 0 ws)) i acc) = sm ws acc + (if (i : Int) ∈ acc then tt (rem 0 ws) (i - 1) else tt (rem 0 ws) i)
  | 0, acc, _, h => ⟨h, by simp [downF, tt]⟩
  | i + 1, acc, hi, h => by
    have hr := gd_nn (rem_nn (b := 0) (ws := ws)) i
    have hw : gd (rem 0 ws) i = max 0 (gd ws i - (if i = 0 then 0 else gd (rem 0 ws) (i - 1))) := by
      cases i with
      | zero => exact rem_at0 (by omega)
      | succ i => simpa using rem_atS (b := 0) (ws := ws) (i := i) (by omega)
    have hni : (i : Int) ∉ acc := fun m => by have := (h.ge _ m).1; omega
    show Ap N 0 (downF (cstep (rem 0 ws)) i (cstep (rem 0 ws) acc i)) ∧ sm ws (downF (cstep (rem 0 ws)) i (cstep (rem 0 ws) acc i)) = _
    have e1 : ((i + 1 : Nat) : Int) = (i : Int) + 1 := by omega
    rw [e1] at h ⊢
    by_cases c : 0 < gd (rem 0 ws) i ∧ ((i : Int) + 1) ∉ acc
    · have es : cstep (rem 0 ws) acc i = (i : Int) :: acc := if_pos c
      rw [es]
      have ha : Ap N i ((i : Int) :: acc) := by
        refine ⟨by omega, by omega, ?_⟩
        cases acc with
        | nil => trivial
        | cons a l =>
          obtain ⟨h1, h2, h3⟩ := h
          have : a ≠ (i : Int) + 1 := fun e => c.2 (e ▸ List.mem_cons_self)
          exact ⟨by omega, h2, h3⟩
      obtain ⟨k1, k2⟩ := down_ok N hN i ((i : Int) :: acc) (by omega) ha
      refine ⟨k1, ?_⟩
      rw [k2, if_pos List.mem_cons_self, if_neg c.2]
      have e2 : sm ws ((i : Int) :: acc) = gd ws i + sm ws acc := by simp [sm]
      rw [e2]
      cases i with
      | zero => simp [tt] at hw ⊢; omega
      | succ i => simp [tt] at hw ⊢; omega
    · have es : cstep (rem 0 ws) acc i = acc := if_neg c
      rw [es]
      obtain ⟨k1, k2⟩ := down_ok N hN i acc (by omega) (h.mono (by omega))
      refine ⟨k1, ?_⟩
      rw [k2, if_neg hni]
      by_cases c2 : (i : Int) + 1 ∈ acc
      · rw [if_pos c2]; simp
      · rw [if_neg c2]
        have : ¬ 0 < gd (rem 0 ws) i := fun x => c ⟨x, c2⟩
        simp only [tt]; omega

/-! ### the defs -/
theorem remainders_ok {a : D} {ws : List Int} (h : dItems a = .ok (il ws)) (hl : ws.length ≤ 500) : m_remainders a = .ok (.lst (il (rem 0 ws))) := by
  unfold m_remainders
  simp only [R.bind_ok, dLst_0, h]
  refine (forC_fold (st := fun p : List Int × Int => (D.lst (il p.1), D.int p.2)) (step := fun p w => (p.1 ++ [max 0 (w - p.2)], max 0 (w - p.2))) (s := (([], 0) : List Int × Int))
    (I := fun k p => p.1.length + k ≤ 500) (by simpa using hl) (fun k w p _ hp => ⟨by simp; omega, fun nx bk => ?_⟩)).trans ?_
  · simp only [R.op2_ok, dSub_s, R.bind_ok, rcons_ok, fn2_s, dMax2_s, lstOf_lst]
    rw [dApp_s _ (by rw [il_len]; omega), il_snoc]
    rfl
  · simp only [fold_rem, List.nil_append]
def chosenOf (ws : List Int) : List Int := downF (cstep (rem 0 ws)) ws.length []
def ownOf (ws : List Int) : List Int := List.replicate (ws.length - 1) 0 ++ (rem 0 ws).drop (ws.length - 1)
def joinsOf (ws : List Int) : List Int := (rem 0 ws).take (ws.length - 1)
theorem best_ok {a : D} {ws : List Int} (h : dItems a = .ok (il ws)) (hl : ws.length ≤ 400) : m_best_chain a = .ok (.tup [.lst (il (chosenOf ws)), .lst (il (ownOf ws)), .lst (il (joinsOf ws))]) := by
  unfold m_best_chain
  simp only [R.bind_ok, rcons_ok, fn1_s, remainders_ok h (by omega), dLst_0, dLen_l, R.op2_ok, dSub_s, dNeg_s, il_len, rem_len]
  have hr : dRng3 [.int ((ws.length : Int) - 1), .int (-1), .int (-1)] = .ok (rngD ((ws.length : Int) - 1) (-1) ws.length) := by
    have : ((ws.length : Int) - 1 - -1).toNat = ws.length := by omega
    unfold dRng3
    simp only [this]
    exact if_pos ⟨by unfold inR; omega, by decide, trivial⟩
  rw [hr]
  simp only [R.bind_ok]
  refine (forC_down (st := fun acc : List Int => D.lst (il acc)) (step := cstep (rem 0 ws)) (s := ([] : List Int)) (n := ws.length)
    (I := fun k acc => acc.length + k ≤ 500) (by simp; omega) (fun k acc hk hp => ⟨?_, fun nx bk => ?_⟩)).trans ?_
  · have h2 := cstep_len (rem 0 ws) acc k
    have hp' : acc.length + (k + 1) ≤ 500 := hp
    show (cstep (rem 0 ws) acc k).length + k ≤ 500
    omega
  · rw [dIx_il (by omega) (by rw [rem_len]; omega)]
    have e1 : (rem 0 ws)[(k : Int).toNat]?.getD 0 = gd (rem 0 ws) k := by rw [Int.toNat_natCast]; rfl
    rw [e1]
    simp only [R.op2_ok, dGt_s, dAdd_s, dNotIn_il]
    unfold cstep
    by_cases c1 : 0 < gd (rem 0 ws) k
    · by_cases c2 : (k : Int) + 1 ∈ acc
      · simp only [c1, c2, decide_true, R.and_true, R.bind_ok, Bool.not_true, not_true_eq_false, and_false, if_false]; rfl
      · simp only [c1, c2, decide_true, decide_false, R.and_true, R.bind_ok, Bool.not_false, not_false_eq_true, and_self, if_true, dLst_1, R.op2_ok]
        rw [dCat_s (by simp; omega)]
        rfl
    · simp only [c1, decide_false, R.and_false, R.bind_ok, false_and, if_false]; rfl
  · have s1 : dSl none (some (-1)) (.lst (il (rem 0 ws))) = .ok (.lst (il (joinsOf ws))) := by
      show R.ok (D.lst (cutD _ _ _)) = _
      rw [cutD_to1, il_len, rem_len, il_take]; rfl
    have s2 : dSl (some (-1)) none (.lst (il (rem 0 ws))) = .ok (.lst (il ((rem 0 ws).drop (ws.length - 1)))) := by
      show R.ok (D.lst (cutD _ _ _)) = _
      rw [cutD_from1, il_len, rem_len, il_drop]
    have s3 : dSlL none (some (-1)) (.lst (il (rem 0 ws))) = .ok (.lst (il (joinsOf ws))) := s1
    have hj : (joinsOf ws).length = ws.length - 1 := by unfold joinsOf; rw [List.length_take, rem_len]; omega
    simp only [R.sl, R.bind_ok, dPart_s, s1, s2, s3, dItems_l]
    rw [compC_il (f := fun _ => 0) (fun _ _ => rfl)]
    simp only [R.bind_ok]
    rw [finC_s (by simp; omega)]
    simp only [R.op2_ok]
    rw [dCat_s (by simp [rem_len]; omega), il_app]
    simp only [R.bind_ok, rcons_ok, dTup_3]
    have : List.map (fun _ => (0 : Int)) (joinsOf ws) = List.replicate (ws.length - 1) 0 := by
      rw [List.map_const', hj]
    rw [this]
    rfl
/-! ### the judge -/
theorem isT_l (xs : List D) : dIsI [] (.lst xs) (.ty "list") = .ok (.bl true) := rfl
theorem isT_t (xs : List D) : dIsI [] (.tup xs) (.ty "tuple") = .ok (.bl true) := rfl
theorem int_ok (i : Int) : m_law_int (.int i) = .ok (.bl true) := rfl
theorem numbers_ok {ns : List Int} {many : Int} (h : many = ns.length) (hn : ∀ w ∈ ns, 0 ≤ w) : m_law_numbers (.lst (il ns)) (.int many) = .ok (.bl true) := by
  subst h
  unfold m_law_numbers
  simp only [rcons_ok, R.bind_ok, fn1_s, fn2_s, isT_l, dTruth_bl, bNot_def, Bool.not_true, R.or_false, dLen_l, il_len, R.op2_ok, dNe_s, decide_true, Bool.false_eq_true, if_false, dItems_l, int_ok]
  refine (forC_fold (st := fun p : Unit => p) (step := fun p _ => p) (s := ()) (I := fun _ _ => True) trivial (fun k w p hw _ => ⟨trivial, fun nx bk => ?_⟩)).trans rfl
  have : ¬ w < 0 := by have := hn w hw; omega
  simp only [int_ok, R.bind_ok, dTruth_bl, bNot_def, Bool.not_true, R.or_false, dLt_s, this, decide_false, Bool.false_eq_true, if_false]
theorem apart_ok {ns : List Int} {many : Int} (h : Ap many 0 ns) : m_law_apart (.lst (il ns)) (.int many) = .ok (.bl true) := by
  unfold m_law_apart
  simp only [rcons_ok, R.bind_ok, fn1_s, fn2_s, isT_l, dTruth_bl, bNot_def, Bool.not_true, Bool.false_eq_true, if_false, dItems_l, dNeg_s]
  have key : ∀ (ns : List Int) (last : Int), Ap many (last + 2) ns → forC (il ns) (D.int last) (fun (x3 : D) (s2 : D) (nx4 bk5 : D → R D) => (R.bind (R.or (R.bind (R.bind (m_law_int x3) dTruth) bNot) (R.or (R.op2 dLt (R.ok x3) (dAdd s2 (D.int 2))) (dGe x3 (D.int many)))) fun b => if b = true then R.ok (D.bl false) else nx4 x3)) (fun (s2 : D) => R.ok (D.bl true)) = .ok (.bl true) := by
    intro ns
    induction ns with
    | nil => intro last _; rfl
    | cons n ns ih =>
      intro last ⟨h1, h2, h3⟩
      show (R.bind (R.or (R.bind (R.bind (m_law_int (.int n)) dTruth) bNot) (R.or (R.op2 dLt (R.ok (.int n)) (dAdd (D.int last) (D.int 2))) (dGe (.int n) (D.int many)))) fun b => if b = true then R.ok (D.bl false) else forC (il ns) (D.int n) _ _) = _
      have c1 : ¬ n < last + 2 := by omega
      have c2 : ¬ many ≤ n := by omega
      simp only [int_ok, R.bind_ok, dTruth_bl, bNot_def, Bool.not_true, R.or_false, R.op2_ok, dAdd_s, dLt_s, dGe_s, c1, c2, decide_false, Bool.false_eq_true, if_false]
      exact ih n h3
  exact key ns (-2) h
theorem gd_ix {ns : List Int} {k : Nat} (h : k < ns.length) : dIx (.lst (il ns)) (.int (k : Int)) = .ok (.int (gd ns k)) := by
  rw [dIx_il (by omega) (by omega), Int.toNat_natCast]; rfl
theorem cov_step (ws own joins : List Int) (i : Nat) (hi : i < ws.length) (ho : own.length = ws.length) (hj : joins.length = ws.length - 1)
    (hc : gd ws i ≤ gd own i + (if 0 < i then gd joins (i - 1) else 0) + (if i < ws.length - 1 then gd joins i else 0)) :
    ∃ a b : Int, a + b + gd own i ≥ gd ws i ∧ (if (0 : Int) < (i : Int) then dIx (.lst (il joins)) (.int ((i : Int) - 1)) = .ok (.int a) else a = 0) ∧ (if (i : Int) < (ws.length : Int) - 1 then dIx (.lst (il joins)) (.int (i : Int)) = .ok (.int b) else b = 0) := by
  refine ⟨if 0 < i then gd joins (i - 1) else 0, if i < ws.length - 1 then gd joins i else 0, by omega, ?_, ?_⟩
  · by_cases c : 0 < i
    · rw [if_pos (by omega), if_pos c, show (i : Int) - 1 = ((i - 1 : Nat) : Int) by omega]
      exact gd_ix (by omega)
    · rw [if_neg (by omega), if_neg c]
  · by_cases c : i < ws.length - 1
    · rw [if_pos (by omega), if_pos c]
      exact gd_ix (by omega)
    · rw [if_neg (by omega), if_neg c]
theorem covered_ok {ws own joins : List Int} (hl : ws.length ≤ 500) (ho : own.length = ws.length) (hj : joins.length = ws.length - 1) (ho0 : ∀ w ∈ own, 0 ≤ w) (hj0 : ∀ w ∈ joins, 0 ≤ w)
    (hc : ∀ i, i < ws.length → gd ws i ≤ gd own i + (if 0 < i then gd joins (i - 1) else 0) + (if i < ws.length - 1 then gd joins i else 0)) : m_law_covered (.lst (il ws)) (.lst (il own)) (.lst (il joins)) = .ok (.bl true) := by
  unfold m_law_covered
  have hm : max 0 ((ws.length : Int) - 1) = (joins.length : Int) := by omega
  have n1 := numbers_ok (show (ws.length : Int) = own.length by omega) ho0
  have n2 := numbers_ok (rfl : (joins.length : Int) = joins.length) hj0
  have r1 : dRng1 [.int (ws.length : Int)] = .ok (rngD 0 1 (ws.length : Int).toNat) := dRng1_s (by omega) (by omega)
  simp only [rcons_ok, R.bind_ok, fn1_s, fn2_s, dLen_l, il_len, n1, dTruth_bl, bNot_def, Bool.not_true, R.or_false, R.op2_ok, dSub_s, dMax2_s, hm, n2, Bool.false_eq_true, if_false, r1]
  refine forC_P (fun (x : R D) => x = R.ok (D.bl true)) (fun _ (_ : Unit) => True) trivial (fun i d s hd _ => ⟨(), trivial, fun nx bk => ?_⟩) fun s _ => rfl
  obtain ⟨hi, rfl⟩ := rngD_get hd
  have hi : i < ws.length := by omega
  have e0 : (0 : Int) + (i : Int) * 1 = (i : Int) := by omega
  have o1 := gd_ix (ns := own) (k := i) (by omega)
  have o2 := gd_ix (ns := ws) (k := i) hi
  obtain ⟨a, b, hab, ha, hb⟩ := cov_step ws own joins i hi ho hj (hc i hi)
  simp only [e0, o1, o2, R.bind_ok, joinC_s, dGt_s, dLt_s, R.op2_ok, dSub_s]
  by_cases c1 : (0 : Int) < (i : Int)
  · rw [if_pos c1] at ha
    by_cases c2 : (i : Int) < (ws.length : Int) - 1
    · rw [if_pos c2] at hb
      have c3 : ¬ gd own i + a + b < gd ws i := by omega
      simp only [c1, c2, decide_true, if_true, ha, hb, R.op2_ok, dAdd_s, R.bind_ok, dLt_s, c3, decide_false, Bool.false_eq_true, if_false]
    · rw [if_neg c2] at hb
      have c3 : ¬ gd own i + a < gd ws i := by omega
      simp only [c1, c2, decide_true, if_true, ha, R.op2_ok, dAdd_s, R.bind_ok, dLt_s, c3, decide_false, Bool.false_eq_true, if_false]
  · rw [if_neg c1] at ha
    by_cases c2 : (i : Int) < (ws.length : Int) - 1
    · rw [if_pos c2] at hb
      have c3 : ¬ gd own i + b < gd ws i := by omega
      simp only [c1, c2, decide_true, if_true, hb, R.op2_ok, dAdd_s, R.bind_ok, dLt_s, c3, decide_false, Bool.false_eq_true, if_false]
    · rw [if_neg c2] at hb
      have c3 : ¬ gd own i < gd ws i := by omega
      simp only [c1, c2, decide_true, if_true, R.op2_ok, dAdd_s, R.bind_ok, dLt_s, c3, decide_false, Bool.false_eq_true, if_false]
theorem gd_app1 {a b : List Int} {i : Nat} (h : i < a.length) : gd (a ++ b) i = gd a i := by
  unfold gd; rw [List.getElem?_append_left h]
theorem gd_take {a : List Int} {n i : Nat} (h : i < n) : gd (a.take n) i = gd a i := by
  unfold gd; rw [List.getElem?_take]; simp [h]
theorem own_last {ws : List Int} (h : 0 < ws.length) : gd (ownOf ws) (ws.length - 1) = gd (rem 0 ws) (ws.length - 1) := by
  unfold gd ownOf
  rw [List.getElem?_append_right (by simp)]
  simp [List.getElem?_drop]
theorem judged_ok {ws : List Int} (hl : ws.length ≤ 300) : m_law_judged (.lst (il ws)) (.tup [.lst (il (chosenOf ws)), .lst (il (ownOf ws)), .lst (il (joinsOf ws))]) = .ok (.bl true) := by
  have hr := rem_nn (b := 0) (ws := ws)
  have hrl := rem_len 0 ws
  obtain ⟨hA, hS⟩ := down_ok (ws := ws) ws.length rfl ws.length [] (by omega) trivial
  have hj : (joinsOf ws).length = ws.length - 1 := by unfold joinsOf; rw [List.length_take, rem_len]; omega
  have ho : (ownOf ws).length = ws.length := by unfold ownOf; rw [List.length_append, List.length_replicate, List.length_drop, rem_len]; omega
  have ho0 : ∀ w ∈ ownOf ws, 0 ≤ w := fun w hw => by
    rcases List.mem_append.mp hw with h | h
    · rw [(List.mem_replicate.mp h).2]; omega
    · exact hr w (List.mem_of_mem_drop h)
  have hj0 : ∀ w ∈ joinsOf ws, 0 ≤ w := fun w hw => hr w (List.mem_of_mem_take hw)
  have hcov : ∀ i, i < ws.length → gd ws i ≤ gd (ownOf ws) i + (if 0 < i then gd (joinsOf ws) (i - 1) else 0) + (if i < ws.length - 1 then gd (joinsOf ws) i else 0) := fun i hi => by
    have hw : gd (rem 0 ws) i = max 0 (gd ws i - (if i = 0 then 0 else gd (rem 0 ws) (i - 1))) := by
      cases i with
      | zero => exact rem_at0 (by omega)
      | succ i => simpa using rem_atS (b := 0) (ws := ws) (i := i) (by omega)
    have hp : (if 0 < i then gd (joinsOf ws) (i - 1) else 0) = (if i = 0 then 0 else gd (rem 0 ws) (i - 1)) := by
      by_cases c : i = 0
      · rw [if_neg (by omega), if_pos c]
      · rw [if_pos (by omega), if_neg c]
        unfold joinsOf
        rw [gd_take (by omega)]
    have hpo := gd_nn ho0 i
    rw [hp]
    by_cases c : i < ws.length - 1
    · rw [if_pos c]
      have : gd (joinsOf ws) i = gd (rem 0 ws) i := by unfold joinsOf; rw [gd_take c]
      rw [this]; omega
    · rw [if_neg c]
      have e : i = ws.length - 1 := by omega
      have : gd (ownOf ws) i = gd (rem 0 ws) i := by rw [e]; exact own_last (by omega)
      rw [this]; omega
  unfold m_law_judged
  have g0 : dIx (.tup [.lst (il (chosenOf ws)), .lst (il (ownOf ws)), .lst (il (joinsOf ws))]) (.int 0) = .ok (.lst (il (chosenOf ws))) := dIx_getT (by omega) rfl
  have g1 : dIx (.tup [.lst (il (chosenOf ws)), .lst (il (ownOf ws)), .lst (il (joinsOf ws))]) (.int 1) = .ok (.lst (il (ownOf ws))) := dIx_getT (by omega) rfl
  have g2 : dIx (.tup [.lst (il (chosenOf ws)), .lst (il (ownOf ws)), .lst (il (joinsOf ws))]) (.int 2) = .ok (.lst (il (joinsOf ws))) := dIx_getT (by omega) rfl
  have h3 : ((3 : Nat) : Int) = 3 := rfl
  simp only [rcons_ok, R.bind_ok, fn1_s, fn2_s, fn3_s, isT_t, dTruth_bl, bNot_def, Bool.not_true, R.or_false, dLen_t, dLen_l, il_len, R.op2_ok, List.length_cons, List.length_nil, dNe_s, g0, g1, g2]
  rw [if_neg (by simp)]
  have hA' : Ap ws.length 0 (chosenOf ws) := hA
  rw [apart_ok hA', covered_ok (by omega) ho hj ho0 hj0 hcov]
  simp only [R.bind_ok, dTruth_bl, bNot_def, Bool.not_true, R.or_false, Bool.false_eq_true, if_false, dSum_il, dAdd_s, dItems_l, R.op2_ok]
  rw [compC_il (f := fun a => gd ws a.toNat) (fun a ha => by
    have := hA.ge a ha
    rw [show a = ((a.toNat : Nat) : Int) by omega]
    rw [gd_ix (by omega), Int.toNat_natCast])]
  have hcl : (chosenOf ws).length ≤ 1000 := by
    have : ∀ (n : Nat) (acc : List Int), (downF (cstep (rem 0 ws)) n acc).length ≤ acc.length + n := by
      intro n
      induction n with
      | zero => intro acc; exact Nat.le_refl _
      | succ n ih =>
        intro acc
        have h1 := ih (cstep (rem 0 ws) acc n)
        have h2 : (cstep (rem 0 ws) acc n).length ≤ acc.length + 1 := by unfold cstep; split <;> simp
        show (downF (cstep (rem 0 ws)) n (cstep (rem 0 ws) acc n)).length ≤ _
        omega
    have := this ws.length []
    unfold chosenOf
    simp at this ⊢
    omega
  simp only [R.bind_ok]
  rw [finC_s (by simpa using hcl)]
  simp only [R.bind_ok, rcons_ok, fn1_s, dSum_il, R.op2_ok, dEq_s, R.bool]
  have hsum : (ownOf ws).sum + (joinsOf ws).sum = ((chosenOf ws).map fun a => gd ws a.toNat).sum := by
    have e1 : ((chosenOf ws).map fun a => gd ws a.toNat).sum = sm ws (chosenOf ws) := rfl
    rw [e1]
    unfold chosenOf
    rw [hS]
    simp [sm]
    rw [tt_take _ _ (by omega)]
    unfold ownOf joinsOf
    have e2 : (rem 0 ws).take ws.length = rem 0 ws := List.take_of_length_le (by omega)
    have e3 := List.take_append_drop (ws.length - 1) (rem 0 ws)
    have e4 : ((rem 0 ws).take (ws.length - 1)).sum + ((rem 0 ws).drop (ws.length - 1)).sum = (rem 0 ws).sum := by rw [← List.sum_append, e3]
    have e5 : (List.replicate (ws.length - 1) (0 : Int)).sum = 0 := by simp
    rw [e2, List.sum_append, e5]
    omega
  rw [hsum]
  simp
theorem differ_ok (a b c : List Int) (h : a.length ≤ 500 ∧ b.length ≤ 500 ∧ c.length ≤ 500) : m_law_lists_differ (.tup [.lst (il a), .lst (il b), .lst (il c)]) = .ok (.bl true) := by
  unfold m_law_lists_differ
  have g1 : dIx (.tup [.lst (il a), .lst (il b), .lst (il c)]) (.int 1) = .ok (.lst (il b)) := dIx_getT (by omega) rfl
  have g2 : dIx (.tup [.lst (il a), .lst (il b), .lst (il c)]) (.int 2) = .ok (.lst (il c)) := dIx_getT (by omega) rfl
  have q0 : qAt (.tup [.lst (il a), .lst (il b), .lst (il c)]) 0 = .ok (il a) := rfl
  simp only [R.op2_ok, g1, g2, rcons_ok, R.bind_ok, fn1_s, dList_l, flat_il, q0, dNeg_s]
  rw [dApp_s _ (by rw [il_len]; omega)]
  simp only [R.bind_ok]
  have k1 : ∀ x, dIx (qSet (.tup [.lst (il a), .lst (il b), .lst (il c)]) 0 x) (.int 1) = .ok (.lst (il b)) := fun x => dIx_getT (by omega) rfl
  have k2 : ∀ x, dIx (qSet (.tup [.lst (il a), .lst (il b), .lst (il c)]) 0 x) (.int 2) = .ok (.lst (il c)) := fun x => dIx_getT (by omega) rfl
  have k3 : ∀ x, qAt (qSet (.tup [.lst (il a), .lst (il b), .lst (il c)]) 0 x) 1 = .ok (il b) := fun x => rfl
  simp only [k1, k2, k3, R.op2_ok, dNe_il, decide_true, Bool.not_true, R.or_false, R.bind_ok, Bool.false_eq_true, if_false]
  rw [dApp_s _ (by rw [il_len]; omega)]
  have k4 : ∀ x y, dIx (qSet (qSet (.tup [.lst (il a), .lst (il b), .lst (il c)]) 0 x) 1 y) (.int 2) = .ok (.lst (il c)) := fun x y => dIx_getT (by omega) rfl
  have k5 : ∀ x y, qAt (qSet (qSet (.tup [.lst (il a), .lst (il b), .lst (il c)]) 0 x) 1 y) 2 = .ok (il c) := fun x y => rfl
  simp only [k4, k5, R.op2_ok, dNe_il, decide_true, Bool.not_true, R.bind_ok, Bool.false_eq_true, if_false]
  rw [dApp_s _ (by rw [il_len]; omega)]
  rfl
theorem law_true (ns : List Int) (hl : ns.length ≤ 63) : m_law (.scr (ns.map D.int)) = .ok (.bl true) := by
  obtain ⟨c0, hc0⟩ := cell_ok ns 0
  obtain ⟨c1, hc1⟩ := cell_ok ns 1
  obtain ⟨many, hm, m0, m1⟩ := draw_ok c0 0 21 (by omega) (by omega) (by omega)
  obtain ⟨shape, hs, s0, s1⟩ := draw_ok c0 1 4 (by omega) (by omega) (by omega)
  obtain ⟨ws, hw, wl, _⟩ := worths_ok c1 shape many m0 (by omega)
  have wl' : ws.length ≤ 20 := by omega
  have hb := best_ok (a := .lst (il ws)) rfl (show ws.length ≤ 400 by omega)
  have hbt := best_ok (a := .tup (il ws)) rfl (show ws.length ≤ 400 by omega)
  have hjd := judged_ok (ws := ws) (by omega)
  have hc0' : m_law_cell (.scr (ns.map D.int)) (.int 0) = .ok (.int c0) := hc0
  have hc1' : m_law_cell (.scr (ns.map D.int)) (.int 1) = .ok (.int c1) := hc1
  unfold m_law
  simp only [rcons_ok, R.bind_ok, fn1_s, fn2_s, fn3_s, hc0', hc1', hm, hs, hw, dList_l, dTuple_l, hb, hbt, hjd, R.op2_ok, dNe_il, decide_true, Bool.not_true, R.or_false, dTruth_bl, bNot_def]
  have hjl : (joinsOf ws).length ≤ 500 := by unfold joinsOf; rw [List.length_take, rem_len]; omega
  have hol : (ownOf ws).length ≤ 500 := by unfold ownOf; simp [rem_len]; omega
  have hcl : (chosenOf ws).length ≤ 500 := by
    have : ∀ (n : Nat) (acc : List Int), (downF (cstep (rem 0 ws)) n acc).length ≤ acc.length + n := by
      intro n
      induction n with
      | zero => intro acc; exact Nat.le_refl _
      | succ n ih =>
        intro acc
        have h1 := ih (cstep (rem 0 ws) acc n)
        have h2 : (cstep (rem 0 ws) acc n).length ≤ acc.length + 1 := by unfold cstep; split <;> simp
        show (downF (cstep (rem 0 ws)) n (cstep (rem 0 ws) acc n)).length ≤ _
        omega
    have := this ws.length []
    unfold chosenOf
    simp at this ⊢
    omega
  rw [differ_ok _ _ _ ⟨hcl, hol, hjl⟩]
  rw [dRng1_s m0 (by omega)]
  simp only [R.bind_ok, dTruth_bl, bNot_def, Bool.not_true, Bool.false_eq_true, if_false, dSub_s, R.op2_ok]
  obtain ⟨bs, hbs, bl⟩ := compC_ints (lo := 0) (c := 1) (n := many.toNat) (e := fun x7 => R.bind (dSub (D.int (many - 1)) x7) fun y => dIx (.lst (il ws)) y) fun i hi => by
    refine ⟨gd ws (many.toNat - 1 - i), ?_⟩
    simp only [dSub_s, R.bind_ok]
    rw [show many - 1 - (0 + (i : Int) * 1) = ((many.toNat - 1 - i : Nat) : Int) by omega]
    exact gd_ix (by omega)
  have hbs' : compC (rngD 0 1 many.toNat) yes (fun x7 => R.op2 dIx (R.ok (.lst (il ws))) (dSub (D.int (many - 1)) x7)) = .ok (il bs) := hbs
  rw [hbs']
  simp only [R.bind_ok]
  rw [finC_s (by simp; omega)]
  have hbb := best_ok (a := .lst (il bs)) rfl (show bs.length ≤ 400 by omega)
  have hjb := judged_ok (ws := bs) (by omega)
  simp only [R.bind_ok, rcons_ok, fn1_s, fn2_s, dList_l, hbb, hjb, dTruth_bl, bNot_def, Bool.not_true, Bool.false_eq_true, if_false, R.andV_true]
end Um

open PySem PySem.W PyProof.Rows
set_option maxHeartbeats 0 in
theorem PySem.Challenge.cw_unmovedways_k33_whole_best_chain_holds : PySem.Challenge.rw_unmovedways_k33_whole_best_chain.Holds := by
  w_on; o_law; k_head; (case hw => w_witness2)
  k_fill
  refine L2.walk_of (l := PySem.Challenge.rw_unmovedways_k33_whole_best_chain) (n := 63) (k := 5) (x := "script") (CX := fun w => L2.CX PySem.Challenge.rw_unmovedways_k33_whole_best_chain.prog w) (sp := fun w => Um.spOf _ Um.ca0 [.r] .v (Um.fn1 Um.m_law)) rfl (by decide) rfl ⟨rfl, by decide, by decide⟩ (fun w h Y => PySem.W.kIn_of Y) ?F (fun w H a ns hl _ hS => Um.law_sp (Um.law_true ns hl) hS) (fun w H s e s' h => by obtain ⟨a, B, H', cls, d, -, -, -, -, -, -, -, hE⟩ := h; exact hE)
  case F =>
    intro w mg fa h KX G hmg
    refine' Um.all_mk KX G hmg ?a1 ?l1 ?c1 ?k1 ?a2 ?l2 ?c2 ?k2 ?a3 ?l3 ?c3 ?k3 ?a4 ?l4 ?c4 ?k4 ?a5 ?l5 ?c5 ?k5 ?a6 ?l6 ?c6 ?k6 ?a7 ?l7 ?c7 ?k7 ?a8 ?l8 ?c8 ?k8 ?a9 ?l9 ?c9 ?k9 ?a10 ?l10 ?c10 ?k10 ?a11 ?l11 ?c11 ?k11 ?a12 ?l12 ?c12 ?k12 ?z0 ?z1 ?z2 ?z3 ?z4 ?z5 ?z6 ?z7 ?z8
    (case a1 => k_is); (case l1 => k_is); (case c1 => k_is); (case k1 => k_is); (case a2 => k_is); (case l2 => k_is); (case c2 => k_is); (case k2 => k_is); (case a3 => k_is); (case l3 => k_is); (case c3 => k_is); (case k3 => k_is); (case a4 => k_is); (case l4 => k_is); (case c4 => k_is); (case k4 => k_is); (case a5 => k_is); (case l5 => k_is); (case c5 => k_is); (case k5 => k_is); (case a6 => k_is); (case l6 => k_is); (case c6 => k_is); (case k6 => k_is); (case a7 => k_is); (case l7 => k_is); (case c7 => k_is); (case k7 => k_is); (case a8 => k_is); (case l8 => k_is); (case c8 => k_is); (case k8 => k_is); (case a9 => k_is); (case l9 => k_is); (case c9 => k_is); (case k9 => k_is); (case a10 => k_is); (case l10 => k_is); (case c10 => k_is); (case k10 => k_is); (case a11 => k_is); (case l11 => k_is); (case c11 => k_is); (case k11 => k_is); (case a12 => k_is); (case l12 => k_is); (case c12 => k_is); (case k12 => k_is); (case z0 => k_is); (case z1 => k_is); (case z2 => k_is); (case z3 => k_is); (case z4 => k_is); (case z5 => k_is); (case z6 => k_is); (case z7 => k_is); (case z8 => k_is)
