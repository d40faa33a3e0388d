import PyProof.Rows.All
import HandS.ForMost
import HandS.Wide
import HandS.TupAny
import HandS.TupMul
import HandS.Style
import HandS.Gcd
import HandS.Deep
import HandS.TupLe
import HandS.SortOrd
import HandS.Flow
import KE.SortData
import KE.DataMinMax
import KE.DataAny
import PyProof.P3In
import HandS.Dict
import HandS.IsInst
import HandS.Comp
import HandS.Words
import HandS.Zip
import HandS.Rev
import HandS.Iter
import Wide.All
import OpenK.AllK
import Wide.FinOn
import PySem.Challenge.RW_stoneward_k75_whole_legs_and_sills
set_option Elab.async false
set_option linter.all false
set_option maxRecDepth 100000
set_option maxHeartbeats 4000000
/-! Sw1: plain data, how a heap bears it, slots. -/
namespace Sw
open PySem L2

/-- plain data: what a Python value of these programs is -/
inductive D where
  | non | bl (b : Bool) | int (i : Int) | str (x : Str)
  | tup (xs : List D) | lst (xs : List D) | dic (t : Bool) (kvs : List (D × D)) | set (xs : List D) | scr (ns : List Int)

/-- may it be changed in place -/
def D.mut : D → Bool
  | .lst _ => true
  | .dic _ _ => true
  | .set _ => true
  | _ => false

def keyD : Key → D
  | .inl i => .int i
  | .inr x => .str x
def keysD (k : List Key) : D := .tup (k.map keyD)

mutual
/-- the value v stands for d, by the frozen heap F alone -/
inductive Rep (F : Hp) : V → D → Prop
  | non : Rep F .non .non
  | bl (b : Bool) : Rep F (.bl b) (.bl b)
  | int (i : Int) : Rep F (.int i) (.int i)
  | str (x : Str) : Rep F (.str x) (.str x)
  | ref {a : Addr} {o : HO} {d : D} : F a = some o → OR F o d → Rep F (.ref a) d
/-- the object o stands for d -/
inductive OR (F : Hp) : HO → D → Prop
  | tup {vs : List V} {ds : List D} : RepL F vs ds → OR F (.tup vs) (.tup ds)
  | lst {vs : List V} {ds : List D} : RepL F vs ds → OR F (.lst vs) (.lst ds)
  | scr {ob : Obj} {ns : List Int} : OR F (.frz ob (.lst (ns.map V.int))) (.scr ns)
  | dK {kvs : List (Key × V)} {es : List (D × D)} : RepK F kvs es → OR F (.dK kvs) (.dic false es)
  | dT {kvs : List (List Key × V)} {es : List (D × D)} : RepT F kvs es → OR F (.dT kvs) (.dic true es)
inductive RepL (F : Hp) : List V → List D → Prop
  | nil : RepL F [] []
  | cons {v : V} {vs : List V} {d : D} {ds : List D} : Rep F v d → RepL F vs ds → RepL F (v :: vs) (d :: ds)
inductive RepK (F : Hp) : List (Key × V) → List (D × D) → Prop
  | nil : RepK F [] []
  | cons {k : Key} {v : V} {kvs : List (Key × V)} {d : D} {es : List (D × D)} : Rep F v d → RepK F kvs es → RepK F ((k, v) :: kvs) ((keyD k, d) :: es)
inductive RepT (F : Hp) : List (List Key × V) → List (D × D) → Prop
  | nil : RepT F [] []
  | cons {k : List Key} {v : V} {kvs : List (List Key × V)} {d : D} {es : List (D × D)} : Rep F v d → RepT F kvs es → RepT F ((k, v) :: kvs) ((keysD k, d) :: es)
end

mutual
theorem Rep.mono {F F' : Hp} (h : Same F F') : ∀ {v : V} {d : D}, Rep F v d → Rep F' v d
  | _, _, .non => .non
  | _, _, .bl b => .bl b
  | _, _, .int i => .int i
  | _, _, .str x => .str x
  | _, _, .ref e o => .ref (h _ _ e) (o.mono h)
theorem OR.mono {F F' : Hp} (h : Same F F') : ∀ {o : HO} {d : D}, OR F o d → OR F' o d
  | _, _, .tup r => .tup (r.mono h)
  | _, _, .lst r => .lst (r.mono h)
  | _, _, .scr => .scr
  | _, _, .dK r => .dK (r.mono h)
  | _, _, .dT r => .dT (r.mono h)
theorem RepL.mono {F F' : Hp} (h : Same F F') : ∀ {vs : List V} {ds : List D}, RepL F vs ds → RepL F' vs ds
  | _, _, .nil => .nil
  | _, _, .cons r t => .cons (r.mono h) (t.mono h)
theorem RepK.mono {F F' : Hp} (h : Same F F') : ∀ {vs : List (Key × V)} {ds : List (D × D)}, RepK F vs ds → RepK F' vs ds
  | _, _, .nil => .nil
  | _, _, .cons r t => .cons (r.mono h) (t.mono h)
theorem RepT.mono {F F' : Hp} (h : Same F F') : ∀ {vs : List (List Key × V)} {ds : List (D × D)}, RepT F vs ds → RepT F' vs ds
  | _, _, .nil => .nil
  | _, _, .cons r t => .cons (r.mono h) (t.mono h)
end

theorem RepL.length {F : Hp} : ∀ {vs : List V} {ds : List D}, RepL F vs ds → vs.length = ds.length
  | _, _, .nil => rfl
  | _, _, .cons _ t => congrArg (· + 1) t.length
theorem RepL.get {F : Hp} : ∀ {vs : List V} {ds : List D} {i : Nat} {d : D}, RepL F vs ds → ds[i]? = some d → ∃ v, vs[i]? = some v ∧ Rep F v d
  | _, _, _, _, .nil, e => by simp at e
  | _, _, 0, _, .cons r _, e => by
    simp at e
    subst e
    exact ⟨_, rfl, r⟩
  | _, _, i + 1, d, .cons _ t, e => by
    obtain ⟨v, h1, h2⟩ := RepL.get (i := i) (d := d) t (by simpa using e)
    exact ⟨v, by simpa using h1, h2⟩
theorem RepL.get' {F : Hp} : ∀ {vs : List V} {ds : List D} {i : Nat} {v : V}, RepL F vs ds → vs[i]? = some v → ∃ d, ds[i]? = some d ∧ Rep F v d
  | _, _, _, _, .nil, e => by simp at e
  | _, _, 0, _, .cons r _, e => by
    simp at e
    subst e
    exact ⟨_, rfl, r⟩
  | _, _, i + 1, v, .cons _ t, e => by
    obtain ⟨d, h1, h2⟩ := RepL.get' (i := i) (v := v) t (by simpa using e)
    exact ⟨d, by simpa using h1, h2⟩
theorem RepL.append {F : Hp} : ∀ {vs ws : List V} {ds es : List D}, RepL F vs ds → RepL F ws es → RepL F (vs ++ ws) (ds ++ es)
  | _, _, _, _, .nil, s => s
  | _, _, _, _, .cons r t, s => .cons r (t.append s)
theorem RepL.one {F : Hp} {v : V} {d : D} (r : Rep F v d) : RepL F [v] [d] := .cons r .nil
theorem RepL.take {F : Hp} : ∀ {vs : List V} {ds : List D} (n : Nat), RepL F vs ds → RepL F (vs.take n) (ds.take n)
  | _, _, 0, _ => .nil
  | _, _, _ + 1, .nil => .nil
  | _, _, n + 1, .cons r t => .cons r (t.take n)
theorem RepL.drop {F : Hp} : ∀ {vs : List V} {ds : List D} (n : Nat), RepL F vs ds → RepL F (vs.drop n) (ds.drop n)
  | _, _, 0, r => r
  | _, _, _ + 1, .nil => .nil
  | _, _, n + 1, .cons _ t => t.drop n
theorem RepL.set {F : Hp} {v : V} {d : D} (r : Rep F v d) : ∀ {vs : List V} {ds : List D} (i : Nat), RepL F vs ds → RepL F (vs.set i v) (ds.set i d)
  | _, _, _, .nil => .nil
  | _, _, 0, .cons _ t => .cons r t
  | _, _, i + 1, .cons q t => .cons q (t.set r i)
theorem RepL.reverse {F : Hp} : ∀ {vs : List V} {ds : List D}, RepL F vs ds → RepL F vs.reverse ds.reverse
  | _, _, .nil => .nil
  | _, _, .cons r t => by
    rw [List.reverse_cons, List.reverse_cons]
    exact t.reverse.append (.one r)
theorem RepL.dropLast {F : Hp} {vs : List V} {ds : List D} (r : RepL F vs ds) : RepL F vs.dropLast ds.dropLast := by
  rw [List.dropLast_eq_take, List.dropLast_eq_take, r.length]
  exact r.take _

/-- the heaps grow: what is frozen, what is tracked stay; nothing that was tracked and not frozen becomes frozen -/
structure Up (F H F' H' : Hp) : Prop where
  f : Same F F'
  h : Same H H'
  n : ∀ a o, H a = some o → F a = none → F' a = none
  s : Same F' H'
theorem Up.refl {F H : Hp} (s : Same F H) : Up F H F H := ⟨Same.refl F, Same.refl H, fun _ _ _ e => e, s⟩
theorem Up.trans {F H F1 H1 F2 H2 : Hp} (a : Up F H F1 H1) (b : Up F1 H1 F2 H2) : Up F H F2 H2 :=
  ⟨a.f.trans b.f, a.h.trans b.h, fun c o h e => b.n c o (a.h c o h) (a.n c o h e), b.s⟩
theorem same_new {H : Hp} {p : Addr} {o : HO} (h : H p = none) : Same H (upd H p o) := fun b x e => by
  rw [upd_ne (ne_of_none e h)]
  exact e
/-- a new object, not frozen -/
theorem Up.new {F H : Hp} {p : Addr} {o : HO} (s : Same F H) (h : H p = none) : Up F H F (upd H p o) :=
  ⟨Same.refl F, same_new h, fun _ _ _ e => e, fun b x e => by
    rw [upd_ne (ne_of_none (s b x e) h)]
    exact s b x e⟩
/-- a new object, frozen at once -/
theorem Up.frz {F H : Hp} {p : Addr} {o : HO} (s : Same F H) (h : H p = none) : Up F H (upd F p o) (upd H p o) := by
  have hf : F p = none := Same.free s h
  refine ⟨same_new hf, same_new h, fun a x e n => ?_, fun b x e => ?_⟩
  · rw [upd_ne (ne_of_none e h)]
    exact n
  · by_cases hb : b = p
    · subst hb
      rw [upd_same] at e ⊢
      exact e
    · rw [upd_ne hb] at e ⊢
      exact s b x e

/-- a slot of a frame: without a value, with a frozen one, with an object that nothing else refers to -/
inductive Slot where
  | no | val (d : D) | own (d : D)
abbrev Env := List Slot
def Slot.d : Slot → Option D
  | .no => none
  | .val d => some d
  | .own d => some d

/-- the frame σ over the heap H, of which F is frozen, bears env; F0, H0: the heaps at the def's entry -/
structure ER (F0 H0 F H : Hp) (σ : St) (env : Env) : Prop where
  up : Up F0 H0 F H
  len : σ.length = env.length
  val : ∀ (i : Nat) (d : D), env[i]? = some (.val d) → ∃ v, σ[i]? = some (some v) ∧ Rep F v d
  own : ∀ (i : Nat) (d : D), env[i]? = some (.own d) → ∃ (p : Addr) (o : HO), σ[i]? = some (some (.ref p)) ∧ F p = none ∧ H0 p = none ∧ H p = some o ∧ OR F o d ∧ d.mut = true
  sep : ∀ (i j : Nat) (d e : D) (p : Addr), env[i]? = some (.own d) → env[j]? = some (.own e) → σ[i]? = some (some (.ref p)) → σ[j]? = some (some (.ref p)) → i = j
theorem ER.mono {F0 H0 F H F' H' : Hp} {σ : St} {env : Env} (r : ER F0 H0 F H σ env) (u : Up F H F' H') : ER F0 H0 F' H' σ env where
  up := r.up.trans u
  len := r.len
  val := fun i d e =>
    let ⟨v, h1, h2⟩ := r.val i d e
    ⟨v, h1, h2.mono u.f⟩
  own := fun i d e =>
    let ⟨p, o, h1, h2, h3, h4, h5, h6⟩ := r.own i d e
    ⟨p, o, h1, u.n p o h4 h2, h3, u.h p o h4, h5.mono u.f, h6⟩
  sep := r.sep
theorem ER.s {F0 H0 F H : Hp} {σ : St} {env : Env} (r : ER F0 H0 F H σ env) : Same F H := r.up.s

/-- a value that is read only: frozen, or at home in a slot -/
inductive RB (F H : Hp) (v : V) (d : D) : Prop
  | rep (r : Rep F v d)
  | own (p : Addr) (o : HO) (e : v = .ref p) (n : F p = none) (h : H p = some o) (r : OR F o d) (m : d.mut = true)
theorem RB.mono {F H F' H' : Hp} {v : V} {d : D} (r : RB F H v d) (u : Up F H F' H') : RB F' H' v d := by
  cases r with
  | rep r => exact .rep (r.mono u.f)
  | own p o e n h r m => exact .own p o e (u.n p o h n) (u.h p o h) (r.mono u.f) m
/-- a value just made: frozen, or a new object if it may be changed -/
inductive RN (H F' H' : Hp) (v : V) (d : D) : Prop
  | rep (r : Rep F' v d) (m : d.mut = false)
  | own (p : Addr) (o : HO) (e : v = .ref p) (w : H p = none) (n : F' p = none) (h : H' p = some o) (r : OR F' o d) (m : d.mut = true)
/-- freezing it -/
theorem RN.freeze {F H F' H' : Hp} {v : V} {d : D} (r : RN H F' H' v d) (u : Up F H F' H') : ∃ F'', Up F H F'' H' ∧ Rep F'' v d := by
  cases r with
  | rep r m => exact ⟨F', u, r⟩
  | own p o e w n h r m =>
    subst e
    refine ⟨upd F' p o, ⟨u.f.trans (same_new n), u.h, fun a x hx hn => ?_, fun a x hx => ?_⟩, .ref upd_same (r.mono (same_new n))⟩
    · have : a ≠ p := ne_of_none hx w
      rw [upd_ne this]
      exact u.n a x hx hn
    · by_cases hb : a = p
      · subst hb
        rw [upd_same] at hx
        cases hx
        exact h
      · rw [upd_ne hb] at hx
        exact u.s a x hx


theorem RB.rp {F H : Hp} {v : V} {d : D} (r : RB F H v d) (m : d.mut = false) : Rep F v d := by
  cases r with
  | rep r => exact r
  | own p o e n h r m' => rw [m] at m'; cases m'
theorem RB.int {F H : Hp} {v : V} {i : Int} (r : RB F H v (.int i)) : v = .int i := by
  cases r.rp rfl with
  | int _ => rfl
  | ref _ q => cases q
theorem RB.bl {F H : Hp} {v : V} {b : Bool} (r : RB F H v (.bl b)) : v = .bl b := by
  cases r.rp rfl with
  | bl _ => rfl
  | ref _ q => cases q
theorem RB.str {F H : Hp} {v : V} {x : Str} (r : RB F H v (.str x)) : v = .str x := by
  cases r.rp rfl with
  | str _ => rfl
  | ref _ q => cases q
theorem RB.non {F H : Hp} {v : V} (r : RB F H v .non) : v = .non := by
  cases r.rp rfl with
  | non => rfl
  | ref _ q => cases q
theorem RB.tup {F H : Hp} {v : V} {ds : List D} (r : RB F H v (.tup ds)) : ∃ a vs, v = .ref a ∧ F a = some (.tup vs) ∧ RepL F vs ds := by
  cases r.rp rfl with
  | ref h q =>
    cases q with
    | tup q => exact ⟨_, _, rfl, h, q⟩
theorem RB.scr {F H : Hp} {v : V} {ns : List Int} (r : RB F H v (.scr ns)) : ∃ a ob, v = .ref a ∧ F a = some (.frz ob (.lst (ns.map V.int))) := by
  cases r.rp rfl with
  | ref h q =>
    cases q with
    | scr => exact ⟨_, _, rfl, h⟩
theorem RB.lst {F H : Hp} {v : V} {ds : List D} (r : RB F H v (.lst ds)) (s : Same F H) : ∃ a vs, v = .ref a ∧ H a = some (.lst vs) ∧ RepL F vs ds := by
  cases r with
  | rep r =>
    cases r with
    | ref h q =>
      cases q with
      | lst q => exact ⟨_, _, rfl, s _ _ h, q⟩
  | own p o e n h q m =>
    cases q with
    | lst q => exact ⟨p, _, e, h, q⟩
theorem RB.dicK {F H : Hp} {v : V} {es : List (D × D)} (r : RB F H v (.dic false es)) (s : Same F H) : ∃ a kvs, v = .ref a ∧ H a = some (.dK kvs) ∧ RepK F kvs es := by
  cases r with
  | rep r =>
    cases r with
    | ref h q =>
      cases q with
      | dK q => exact ⟨_, _, rfl, s _ _ h, q⟩
  | own p o e n h q m =>
    cases q with
    | dK q => exact ⟨p, _, e, h, q⟩
theorem RB.dicT {F H : Hp} {v : V} {es : List (D × D)} (r : RB F H v (.dic true es)) (s : Same F H) : ∃ a kvs, v = .ref a ∧ H a = some (.dT kvs) ∧ RepT F kvs es := by
  cases r with
  | rep r =>
    cases r with
    | ref h q =>
      cases q with
      | dT q => exact ⟨_, _, rfl, s _ _ h, q⟩
  | own p o e n h q m =>
    cases q with
    | dT q => exact ⟨p, _, e, h, q⟩
/-! ### keys -/
def D.key? : D → Option Key
  | .int i => some (.inl i)
  | .str x => some (.inr x)
  | _ => none
def D.keyL? : List D → Option (List Key)
  | [] => some []
  | d :: ds => d.key?.bind fun k => (D.keyL? ds).bind fun ks => some (k :: ks)
def D.keys? : D → Option (List Key)
  | .tup ds => D.keyL? ds
  | _ => none
theorem key_eq {d : D} {k : Key} (h : d.key? = some k) : d = keyD k := by
  cases d <;> first | (cases h; done) | (cases h; rfl)
theorem keyL_eq : ∀ {ds : List D} {ks : List Key}, D.keyL? ds = some ks → ds = ks.map keyD
  | [], _, h => by
    cases h
    rfl
  | d :: ds, ks, h => by
    simp only [D.keyL?, Option.bind_eq_some_iff, Option.some.injEq] at h
    obtain ⟨k, h1, ks', h2, rfl⟩ := h
    rw [key_eq h1, keyL_eq h2]
    rfl
theorem keys_eq {d : D} {k : List Key} (h : d.keys? = some k) : d = keysD k := by
  cases d <;> first | (cases h; done) | (rw [keysD, ← keyL_eq h])
theorem RB.key {F H : Hp} {v : V} {k : Key} (r : RB F H v (keyD k)) : v = kV k := by
  cases k with
  | inl i => exact r.int
  | inr x => exact r.str
theorem Rep.key {F : Hp} {v : V} {k : Key} (r : Rep F v (keyD k)) : v = kV k := RB.key (H := F) (.rep r)
theorem RepL.keys {F : Hp} : ∀ {vs : List V} {ks : List Key}, RepL F vs (ks.map keyD) → vs = ks.map kV
  | _, [], h => by
    cases h
    rfl
  | _, k :: ks, h => by
    cases h with
    | cons r t => rw [r.key, t.keys, List.map_cons]
theorem RB.keys {F H : Hp} {v : V} {k : List Key} (r : RB F H v (keysD k)) (s : Same F H) : ∃ b, v = .ref b ∧ H b = some (.tup (k.map kV)) := by
  obtain ⟨a, vs, e, h, q⟩ := r.tup
  exact ⟨a, e, by rw [s _ _ h, q.keys]⟩
theorem key_rep (F : Hp) (k : Key) : Rep F (kV k) (keyD k) := by
  cases k with
  | inl i => exact .int i
  | inr x => exact .str x
theorem keysL_rep (F : Hp) : ∀ k : List Key, RepL F (k.map kV) (k.map keyD)
  | [] => .nil
  | k :: ks => .cons (key_rep F k) (keysL_rep F ks)
end Sw

/-! Sw2: expressions as functions of the frame, and that they are what the judgements say. -/
namespace Sw
open PySem L2

abbrev Ex := Env → Option D
abbrev Tx := Env → Option Bool

/-- the value is frozen; is at home somewhere; is frozen or new -/
def eS (f : Ex) : TE := fun σ H Q => ∃ F0 H0 F env d, ER F0 H0 F H σ env ∧ f env = some d ∧ ∀ v F' H', Up F H F' H' → Rep F' v d → Q v H'
def eB (f : Ex) : TE := fun σ H Q => ∃ F0 H0 F env d, ER F0 H0 F H σ env ∧ f env = some d ∧ ∀ v F' H', Up F H F' H' → RB F' H' v d → Q v H'
def eN (f : Ex) : TE := fun σ H Q => ∃ F0 H0 F env d, ER F0 H0 F H σ env ∧ f env = some d ∧ ∀ v F' H', Up F H F' H' → RN H F' H' v d → Q v H'
def eT (f : Tx) : TT := fun σ H Q => ∃ F0 H0 F env b, ER F0 H0 F H σ env ∧ f env = some b ∧ ∀ F' H', Up F H F' H' → Q b H'
/-- argument lists -/
inductive RBL (F H : Hp) : List V → List D → Prop
  | nil : RBL F H [] []
  | cons {v : V} {vs : List V} {d : D} {ds : List D} : RB F H v d → RBL F H vs ds → RBL F H (v :: vs) (d :: ds)
theorem RBL.mono {F H F' H' : Hp} (u : Up F H F' H') : ∀ {vs : List V} {ds : List D}, RBL F H vs ds → RBL F' H' vs ds
  | _, _, .nil => .nil
  | _, _, .cons r t => .cons (r.mono u) (t.mono u)
theorem RBL.of {F H : Hp} : ∀ {vs : List V} {ds : List D}, RepL F vs ds → RBL F H vs ds
  | _, _, .nil => .nil
  | _, _, .cons r t => .cons (.rep r) (.of t)
def evs : List Ex → Env → Option (List D)
  | [], _ => some []
  | f :: fs, env => (f env).bind fun d => (evs fs env).bind fun ds => some (d :: ds)
def aB (fs : List Ex) : TA := fun σ H Q => ∃ F0 H0 F env ds, ER F0 H0 F H σ env ∧ evs fs env = some ds ∧ ∀ vs F' H', Up F H F' H' → RBL F' H' vs ds → Q vs H'
def aS (fs : List Ex) : TA := fun σ H Q => ∃ F0 H0 F env ds, ER F0 H0 F H σ env ∧ evs fs env = some ds ∧ ∀ vs F' H', Up F H F' H' → RepL F' vs ds → Q vs H'

theorem evs_length : ∀ {fs : List Ex} {env : Env} {ds : List D}, evs fs env = some ds → ds.length = fs.length
  | [], _, _, h => by
    cases h
    rfl
  | f :: fs, env, ds, h => by
    simp only [evs, Option.bind_eq_some_iff, Option.some.injEq] at h
    obtain ⟨d, _, es, h2, rfl⟩ := h
    rw [List.length_cons, List.length_cons, evs_length h2]

section
variable {X : Cx} {e a b : Expr}
theorem _root_.L2.PE.imp {t t' : TE} (h : PE X e t) (i : ∀ σ H Q, t' σ H Q → t σ H Q) : PE X e t' := ⟨fun pins s σ H Q I q => h.run pins s σ H Q I (i σ H Q q)⟩
theorem _root_.L2.PT.imp {t t' : TT} (h : PT X e t) (i : ∀ σ H Q, t' σ H Q → t σ H Q) : PT X e t' := ⟨fun pins s σ H Q I q => h.run pins s σ H Q I (i σ H Q q)⟩
theorem _root_.L2.PW.imp {t t' : TT} (h : PW X e t) (i : ∀ σ H Q, t' σ H Q → t σ H Q) : PW X e t' := ⟨fun wh pins s σ H Q I q => h.run wh pins s σ H Q I (i σ H Q q)⟩
theorem _root_.L2.PA.imp {es : List Expr} {t t' : TA} (h : PA X es t) (i : ∀ σ H Q, t' σ H Q → t σ H Q) : PA X es t' := ⟨fun p pins s σ H Q I q => h.run p pins s σ H Q I (i σ H Q q)⟩
theorem _root_.L2.PS.imp {st : Stmt} {t t' : TS} (h : PS X st t) (i : ∀ σ H D, t' D σ H → t D σ H) : PS X st t' := ⟨fun pins s σ H D I q => h.run pins s σ H D I (i σ H D q)⟩
theorem _root_.L2.PSs.imp {st : List Stmt} {t t' : TS} (h : PSs X st t) (i : ∀ σ H D, t' D σ H → t D σ H) : PSs X st t' := ⟨fun pins s σ H D I q => h.run pins s σ H D I (i σ H D q)⟩
theorem _root_.L2.PI.imp {tg : Expr} {t t' : TI} (h : PI X tg e t) (i : ∀ σ H Q, t' σ H Q → t σ H Q) : PI X tg e t' := ⟨fun pins s σ H Q I q => h.run pins s σ H Q I (i σ H Q q)⟩

theorem pS_B {f : Ex} (h : PE X e (eS f)) : PE X e (eB f) := h.imp fun _ _ _ ⟨F0, H0, F, env, d, r, e, q⟩ => ⟨F0, H0, F, env, d, r, e, fun v F' H' u p => q v F' H' u (.rep p)⟩
theorem pN_S {f : Ex} (h : PE X e (eN f)) : PE X e (eS f) := h.imp fun _ _ _ ⟨F0, H0, F, env, d, r, e, q⟩ => ⟨F0, H0, F, env, d, r, e, fun v F' H' u p =>
  let ⟨F'', u', p'⟩ := p.freeze u
  q v F'' H' u' p'⟩
theorem pN_B {f : Ex} (h : PE X e (eN f)) : PE X e (eB f) := pS_B (pN_S h)

/-! ### names and constants -/
def exB (i : Nat) : Ex := fun env => (env[i]?).bind Slot.d
def exV (i : Nat) : Ex := fun env => match env[i]? with
  | some (.val d) => some d
  | _ => none
theorem pVar_B {i : Nat} (h : PE X e (tVar i)) : PE X e (eB (exB i)) := h.imp fun σ H Q ⟨F0, H0, F, env, d, r, e, q⟩ => by
  unfold exB at e
  cases he : env[i]? with
  | none => rw [he] at e; cases e
  | some s =>
    rw [he] at e
    cases s with
    | no => cases e
    | val x =>
      cases e
      obtain ⟨v, h1, h2⟩ := r.val i d he
      exact ⟨v, h1, q v F H (Up.refl r.s) (.rep h2)⟩
    | own x =>
      cases e
      obtain ⟨p, o, h1, h2, _, h4, h5, h6⟩ := r.own i d he
      exact ⟨_, h1, q _ F H (Up.refl r.s) (.own p o rfl h2 h4 h5 h6)⟩
theorem pVar_S {i : Nat} (h : PE X e (tVar i)) : PE X e (eS (exV i)) := h.imp fun σ H Q ⟨F0, H0, F, env, d, r, e, q⟩ => by
  unfold exV at e
  cases he : env[i]? with
  | none => rw [he] at e; cases e
  | some s =>
    rw [he] at e
    cases s with
    | no => cases e
    | val x =>
      cases e
      obtain ⟨v, h1, h2⟩ := r.val i d he
      exact ⟨v, h1, q v F H (Up.refl r.s) h2⟩
    | own x => cases e
def exC (d : D) : Ex := fun _ => some d
theorem pC {v : V} {d : D} (h : PE X e (tC v)) (r : ∀ F, Rep F v d) : PE X e (eS (exC d)) := h.imp fun σ H Q ⟨F0, H0, F, env, d', z, e, q⟩ => by
  cases e
  exact q v F H (Up.refl z.s) (r F)

/-! ### arguments -/
def notStar : Expr → Bool
  | .Starred _ _ => false
  | _ => true
theorem star_cons {e : Expr} (h : notStar e = true) (es : List Expr) (env : PySem.Env) : starEach (e :: es) env = (false, eval e env) :: starEach es env := by
  cases e <;> first | rfl | (cases h)
theorem pBL_nil : PA X [] (aB []) := pa_nil.imp fun _ _ _ ⟨F0, H0, F, env, ds, r, e, q⟩ => by
  cases e
  exact q [] F _ (Up.refl r.s) .nil
theorem pBL_cons {es : List Expr} {f : Ex} {fs : List Ex} (hn : notStar e = true) (he : PE X e (eB f)) (hs : PA X es (aB fs)) : PA X (e :: es) (aB (f :: fs)) :=
  (pa_cons he hs (star_cons hn es X.env)).imp fun _ _ _ ⟨F0, H0, F, env, ds, r, e, q⟩ => by
    simp only [evs, Option.bind_eq_some_iff, Option.some.injEq] at e
    obtain ⟨d, h1, es, h2, rfl⟩ := e
    exact ⟨F0, H0, F, env, d, r, h1, fun v F' H' u p => ⟨F0, H0, F', env, es, r.mono u, h2, fun vs F'' H'' u' ps => q _ F'' H'' (u.trans u') (.cons (p.mono u') ps)⟩⟩
theorem pSL_nil : PA X [] (aS []) := pa_nil.imp fun _ _ _ ⟨F0, H0, F, env, ds, r, e, q⟩ => by
  cases e
  exact q [] F _ (Up.refl r.s) .nil
theorem pSL_cons {es : List Expr} {f : Ex} {fs : List Ex} (hn : notStar e = true) (he : PE X e (eS f)) (hs : PA X es (aS fs)) : PA X (e :: es) (aS (f :: fs)) :=
  (pa_cons he hs (star_cons hn es X.env)).imp fun _ _ _ ⟨F0, H0, F, env, ds, r, e, q⟩ => by
    simp only [evs, Option.bind_eq_some_iff, Option.some.injEq] at e
    obtain ⟨d, h1, es, h2, rfl⟩ := e
    exact ⟨F0, H0, F, env, d, r, h1, fun v F' H' u p => ⟨F0, H0, F', env, es, r.mono u, h2, fun vs F'' H'' u' ps => q _ F'' H'' (u.trans u') (.cons (p.mono u'.f) ps)⟩⟩

/-! ### displays -/
def exTup (fs : List Ex) : Ex := fun env => (evs fs env).bind fun ds => some (.tup ds)
def exLst (fs : List Ex) : Ex := fun env => (evs fs env).bind fun ds => some (.lst ds)
theorem line_of {n : Nat} (h : n ≤ 1000) : n ≤ sizeLine := Nat.le_of_lt (small1000 h)
theorem pTup {es : List Expr} {fs : List Ex} {k : Nat} {pos : Pos} (h : PA X es (aS fs)) (hl : fs.length ≤ 1000) : PE X (.Tuple es k pos) (eN (exTup fs)) := (pe_tup h).imp fun σ H Q ⟨F0, H0, F, env, d, r, e, q⟩ => by
  simp only [exTup, Option.bind_eq_some_iff, Option.some.injEq] at e
  obtain ⟨ds, h1, rfl⟩ := e
  refine ⟨F0, H0, F, env, ds, r, h1, fun vs F' H' u p => ⟨?_, fun p' np => ?_⟩⟩
  · rw [p.length, evs_length h1]
    exact line_of hl
  · have nf : F' p' = none := Same.free u.s np
    exact q _ _ _ (u.trans (Up.frz u.s np)) (.rep (.ref upd_same (.tup (p.mono (same_new nf)))) rfl)
theorem pLst {es : List Expr} {fs : List Ex} {pos : Pos} (h : PA X es (aS fs)) (hl : fs.length ≤ 1000) : PE X (.List es pos) (eN (exLst fs)) := (pe_lst h).imp fun σ H Q ⟨F0, H0, F, env, d, r, e, q⟩ => by
  simp only [exLst, Option.bind_eq_some_iff, Option.some.injEq] at e
  obtain ⟨ds, h1, rfl⟩ := e
  refine ⟨F0, H0, F, env, ds, r, h1, fun vs F' H' u p => ⟨?_, fun p' np => ?_⟩⟩
  · rw [p.length, evs_length h1]
    exact line_of hl
  · exact q _ _ _ (u.trans (Up.new u.s np)) (.own p' _ rfl (u.h.free np) (Same.free u.s np) upd_same (.lst p) rfl)

/-! ### operators by values -/
def rO (g : D → D → Option D) : R2 := fun x y H Q => ∃ F d1 d2 d, Same F H ∧ RB F H x d1 ∧ RB F H y d2 ∧ g d1 d2 = some d ∧ ∀ v F' H', Up F H F' H' → RN H F' H' v d → Q v H'
def Op2 (X : Cx) (f : Value → Value → Sem Value) (g : D → D → Option D) : Prop := OpR X f (rO g)
def ex2 (g : D → D → Option D) (f1 f2 : Ex) : Ex := fun env => (f1 env).bind fun a => (f2 env).bind fun b => g a b
theorem rO_of {g : D → D → Option D} {f1 f2 : Ex} {σ : St} {H : Hp} {Q : VK} (h : eN (ex2 g f1 f2) σ H Q) : tOp (rO g) (eB f1) (eB f2) σ H Q := by
  obtain ⟨F0, H0, F, env, d, r, e, q⟩ := h
  simp only [ex2, Option.bind_eq_some_iff] at e
  obtain ⟨d1, h1, d2, h2, h3⟩ := e
  refine ⟨F0, H0, F, env, d1, r, h1, fun v F' H' u p => ⟨F0, H0, F', env, d2, r.mono u, h2, fun w F'' H'' u' p' => ⟨F'', d1, d2, d, u'.s, p.mono u', p', h3, fun z F3 H3 u3 p3 => q z F3 H3 (u.trans (u'.trans u3)) ?_⟩⟩⟩
  cases p3 with
  | rep p3 m => exact .rep p3 m
  | own p o e w n h r m => exact .own p o e (u.h.free (u'.h.free w)) n h r m
theorem pBin {op : Operator} {g : D → D → Option D} {f1 f2 : Ex} {pos : Pos} (ho : Op2 X (binaryOp op) g) (ha : PE X a (eB f1)) (hb : PE X b (eB f2)) : PE X (.BinOp a op b pos) (eN (ex2 g f1 f2)) := (pe_op ho ha hb).imp fun _ _ _ h => rO_of h
theorem pCmp {op : CmpOp} {g : D → D → Option D} {f1 f2 : Ex} {pos : Pos} (ho : Op2 X (compareOp op) g) (ha : PE X a (eB f1)) (hb : PE X b (eB f2)) (hm : behindInMarks op b = false) : PE X (.Compare a [op] [b] pos) (eN (ex2 g f1 f2)) := (pe_cmpR ho ha hb hm).imp fun _ _ _ h => rO_of h
/-- a truth value that stands for itself -/
def dBool : D → Option Bool
  | .bl b => some b
  | _ => none
def txB (f : Ex) : Tx := fun env => (f env).bind dBool
theorem RN.bl {H F' H' : Hp} {v : V} {b : Bool} (r : RN H F' H' v (.bl b)) : v = .bl b := by
  cases r with
  | rep r m =>
    cases r with
    | bl _ => rfl
    | ref _ z => cases z
  | own p o e w n h r m => cases r
theorem tT_of {f : Ex} {σ : St} {H : Hp} {Q : Bool → Hp → Prop} {t : TE} (i : ∀ σ H Q, eN f σ H Q → t σ H Q) (h : eT (txB f) σ H Q) : tTest t σ H Q := by
  obtain ⟨F0, H0, F, env, b, r, e, q⟩ := h
  simp only [txB, Option.bind_eq_some_iff] at e
  obtain ⟨d, h1, h2⟩ := e
  cases d with
  | bl c =>
    cases h2
    exact i _ _ _ ⟨F0, H0, F, env, .bl b, r, h1, fun v F' H' u p => ⟨b, p.bl, q F' H' u⟩⟩
  | _ => cases h2
theorem pCmpT {op : CmpOp} {g : D → D → Option D} {f1 f2 : Ex} {pos : Pos} (ho : Op2 X (compareOp op) g) (ha : PE X a (eB f1)) (hb : PE X b (eB f2)) (hm : behindInMarks op b = false) : PT X (.Compare a [op] [b] pos) (eT (txB (ex2 g f1 f2))) := (pt_cmpR ho ha hb hm).imp fun _ _ _ h => tT_of (fun _ _ _ h => rO_of h) h
def exCh (g g' : D → D → Option D) (f1 f2 f3 : Ex) : Ex := fun env => (f1 env).bind fun a => (f2 env).bind fun b => (g a b).bind fun k => match k with
  | .bl true => (f3 env).bind fun c => g' b c
  | .bl false => some (.bl false)
  | _ => none
theorem rCh_of {g g' : D → D → Option D} {f1 f2 f3 : Ex} {σ : St} {H : Hp} {Q : VK} (h : eN (exCh g g' f1 f2 f3) σ H Q) : tChain (rO g) (rO g') (eB f1) (eB f2) (eB f3) σ H Q := by
  obtain ⟨F0, H0, F, env, d, r, e, q⟩ := h
  simp only [exCh, Option.bind_eq_some_iff] at e
  obtain ⟨d1, h1, d2, h2, k, h3, h4⟩ := e
  refine ⟨F0, H0, F, env, d1, r, h1, fun v F1 H1 u1 p1 => ⟨F0, H0, F1, env, d2, r.mono u1, h2, fun w F2 H2 u2 p2 => ⟨F2, d1, d2, k, u2.s, p1.mono u2, p2, h3, fun z F3 H3 u3 p3 => ?_⟩⟩⟩
  cases k with
  | bl k =>
    refine ⟨k, p3.bl, ?_⟩
    cases k with
    | true =>
      simp only [Option.bind_eq_some_iff] at h4
      obtain ⟨d3, h5, h6⟩ := h4
      rw [if_pos rfl]
      refine ⟨F0, H0, F3, env, d3, ((r.mono u1).mono u2).mono u3, h5, fun y F4 H4 u4 p4 => ⟨F4, d2, d3, d, u4.s, (p2.mono u3).mono u4, p4, h6, fun z' F5 H5 u5 p5 => q z' F5 H5 (u1.trans (u2.trans (u3.trans (u4.trans u5)))) ?_⟩⟩
      cases p5 with
      | rep p5 m => exact .rep p5 m
      | own p o e w n h r m => exact .own p o e (u1.h.free (u2.h.free (u3.h.free (u4.h.free w)))) n h r m
    | false =>
      rw [if_neg Bool.false_ne_true]
      cases h4
      exact q _ F3 H3 (u1.trans (u2.trans u3)) (.rep (.bl _) rfl)
  | _ => cases h4
theorem pChain {op op' : CmpOp} {c : Expr} {g g' : D → D → Option D} {f1 f2 f3 : Ex} {pos : Pos} (ho : Op2 X (compareOp op) g) (ho' : Op2 X (compareOp op') g') (ha : PE X a (eB f1)) (hb : PE X b (eB f2)) (hc : PE X c (eB f3)) (hm : lastMarks [op, op'] [b, c] = false) :
    PE X (.Compare a [op, op'] [b, c] pos) (eN (exCh g g' f1 f2 f3)) := (pe_chain ho ho' ha hb hc hm).imp fun _ _ _ h => rCh_of h
theorem pChainT {op op' : CmpOp} {c : Expr} {g g' : D → D → Option D} {f1 f2 f3 : Ex} {pos : Pos} (ho : Op2 X (compareOp op) g) (ho' : Op2 X (compareOp op') g') (ha : PE X a (eB f1)) (hb : PE X b (eB f2)) (hc : PE X c (eB f3)) (hm : lastMarks [op, op'] [b, c] = false) :
    PT X (.Compare a [op, op'] [b, c] pos) (eT (txB (exCh g g' f1 f2 f3))) := (pt_chain ho ho' ha hb hc hm).imp fun _ _ _ h => tT_of (fun _ _ _ h => rCh_of h) h

/-! ### one operand -/
def r1 (g : D → Option D) : V → Hp → VK → Prop := fun x H Q => ∃ F d1 d, Same F H ∧ RB F H x d1 ∧ g d1 = some d ∧ ∀ v F' H', Up F H F' H' → RN H F' H' v d → Q v H'
def ex1 (g : D → Option D) (f : Ex) : Ex := fun env => (f env).bind g
theorem pUn {op : UnaryOp} {g : D → Option D} {f : Ex} {pos : Pos} (ho : UnR X (unaryOp op) (r1 g)) (ha : PE X a (eB f)) : PE X (.UnaryOp op a pos) (eN (ex1 g f)) := (pe_un ho ha).imp fun σ H Q ⟨F0, H0, F, env, d, r, e, q⟩ => by
  simp only [ex1, Option.bind_eq_some_iff] at e
  obtain ⟨d1, h1, h2⟩ := e
  refine ⟨F0, H0, F, env, d1, r, h1, fun v F' H' u p => ⟨F', d1, d, u.s, p, h2, fun w F'' H'' u' p' => q w F'' H'' (u.trans u') ?_⟩⟩
  cases p' with
  | rep p m => exact .rep p m
  | own p o e w n h r m => exact .own p o e (u.h.free w) n h r m

/-! ### truth -/
def dTru : D → Option Bool
  | .non => some false
  | .bl b => some b
  | .int i => some (i != 0)
  | .str x => if x.length ≤ sizeLine then some ((x.length : Int) != 0) else none
  | .tup ds => some (!ds.isEmpty)
  | .lst ds => some (!ds.isEmpty)
  | .dic _ _ => none
  | .set _ => none
  | .scr _ => none
theorem RepL.isEmpty {F : Hp} {vs : List V} {ds : List D} (r : RepL F vs ds) : vs.isEmpty = ds.isEmpty := by
  cases r <;> rfl
theorem tru_of {K : PySem.W.Frag} {F H : Hp} {v : V} {d : D} {k : Bool} (s : Same F H) (r : RB F H v d) (h : dTru d = some k) : TruV K v H k := by
  cases d with
  | non =>
    cases h
    rw [r.non]
    exact rfl
  | bl b =>
    cases h
    rw [r.bl]
    exact rfl
  | int i =>
    cases h
    rw [r.int]
    exact rfl
  | str x =>
    rw [r.str]
    have h' : (if x.length ≤ sizeLine then some ((x.length : Int) != 0) else none) = some k := h
    by_cases hl : x.length ≤ sizeLine
    · rw [if_pos hl] at h'
      cases h'
      exact ⟨hl, rfl⟩
    · rw [if_neg hl] at h'
      cases h'
  | tup ds =>
    cases h
    obtain ⟨a, vs, e, h1, h2⟩ := r.tup
    rw [e]
    exact .inr (.inl ⟨vs, .inl (.inl (s _ _ h1)), by rw [h2.isEmpty]⟩)
  | lst ds =>
    cases h
    obtain ⟨a, vs, e, h1, h2⟩ := r.lst s
    rw [e]
    exact .inl ⟨vs, .inl (.inl h1), by rw [h2.isEmpty]⟩
  | dic _ _ => cases h
  | scr _ => cases h
  | set _ => cases h
def txD (f : Ex) : Tx := fun env => (f env).bind dTru
/-- an expression whose truth is asked by its value -/
def plainT : Expr → Bool
  | .UnaryOp .Not _ _ => false
  | .BoolOp _ _ _ => false
  | .IfExp _ _ _ _ => false
  | .Compare _ _ _ _ => false
  | _ => true
theorem isTrue_of {e : Expr} (h : plainT e = true) (env : PySem.Env) : ∀ whole, isTrue e env whole = (do let v ← whole; standAt e.pos; holding [v] (truthy v)) := by
  intro whole
  cases e <;> first | rfl | (cases h) | skip
  rename_i op _ _
  cases op <;> first | rfl | (cases h)
theorem pTru {f : Ex} (ha : PE X a (eB f)) (hp : plainT a = true) : PT X a (eT (txD f)) := (pt_truth ha (isTrue_of hp X.env)).imp fun σ H Q ⟨F0, H0, F, env, k, r, e, q⟩ => by
  simp only [txD, Option.bind_eq_some_iff] at e
  obtain ⟨d, h1, h2⟩ := e
  exact ⟨F0, H0, F, env, d, r, h1, fun v F' H' u p => ⟨k, tru_of u.s p h2, q F' H' u⟩⟩
def exNot (f : Ex) : Ex := fun env => (f env).bind fun d => (dTru d).bind fun k => some (.bl !k)
theorem pNot {f : Ex} {pos : Pos} (ha : PE X a (eB f)) : PE X (.UnaryOp .Not a pos) (eN (exNot f)) := (pe_notT ha).imp fun σ H Q ⟨F0, H0, F, env, k, r, e, q⟩ => by
  simp only [exNot, Option.bind_eq_some_iff, Option.some.injEq] at e
  obtain ⟨d, h1, b, h2, rfl⟩ := e
  exact ⟨F0, H0, F, env, d, r, h1, fun v F' H' u p => ⟨b, tru_of u.s p h2, q _ F' H' u (.rep (.bl _) rfl)⟩⟩
def txNot (f : Tx) : Tx := fun env => (f env).bind fun k => some (!k)
theorem pNotT {f : Tx} {pos : Pos} (ha : PT X a (eT f)) : PT X (.UnaryOp .Not a pos) (eT (txNot f)) := (pt_not ha).imp fun σ H Q ⟨F0, H0, F, env, k, r, e, q⟩ => by
  simp only [txNot, Option.bind_eq_some_iff, Option.some.injEq] at e
  obtain ⟨d, h1, rfl⟩ := e
  exact ⟨F0, H0, F, env, d, r, h1, fun F' H' u => q F' H' u⟩
def txAnd (f g : Tx) : Tx := fun env => (f env).bind fun k => if k = true then g env else some false
def txOr (f g : Tx) : Tx := fun env => (f env).bind fun k => if k = true then some true else g env
theorem eT_if {f g h : Tx} {σ : St} {H : Hp} {Q : Bool → Hp → Prop} {b0 : Bool} (q : eT (fun env => (f env).bind fun k => if k = b0 then g env else h env) σ H Q) :
    eT f σ H fun c H1 => if c = b0 then eT g σ H1 Q else eT h σ H1 Q := by
  obtain ⟨F0, H0, F, env, k, r, e, q⟩ := q
  simp only [Option.bind_eq_some_iff] at e
  obtain ⟨c, h1, h2⟩ := e
  refine ⟨F0, H0, F, env, c, r, h1, fun F' H' u => ?_⟩
  by_cases hc : c = b0
  · rw [if_pos hc] at h2 ⊢
    exact ⟨F0, H0, F', env, k, r.mono u, h2, fun F'' H'' u' => q F'' H'' (u.trans u')⟩
  · rw [if_neg hc] at h2 ⊢
    exact ⟨F0, H0, F', env, k, r.mono u, h2, fun F'' H'' u' => q F'' H'' (u.trans u')⟩
theorem eT_const {b : Bool} {σ : St} {H : Hp} {Q : Bool → Hp → Prop} (h : eT (fun _ => some b) σ H Q) : Q b H := by
  obtain ⟨F0, H0, F, env, k, r, e, q⟩ := h
  cases e
  exact q F H (Up.refl r.s)
theorem pwAnd1 {f : Tx} {pos : Pos} (ha : PT X a (eT f)) : PW X (.BoolOp .And [a] pos) (eT f) := pw_and1 ha
theorem pwOr1 {f : Tx} {pos : Pos} (ha : PT X a (eT f)) : PW X (.BoolOp .Or [a] pos) (eT f) := pw_or1 ha
theorem pwAnd {f g : Tx} {rest : List Expr} {pos : Pos} (ha : PT X a (eT f)) (hb : PW X (.BoolOp .And (b :: rest) pos) (eT g)) : PW X (.BoolOp .And (a :: b :: rest) pos) (eT (txAnd f g)) := (pw_and ha hb).imp fun σ H Q h => by
  have h' := eT_if (b0 := true) (f := f) (g := g) (h := fun _ => some false) h
  obtain ⟨F0, H0, F, env, k, r, e, q⟩ := h'
  refine ⟨F0, H0, F, env, k, r, e, fun F' H' u => ?_⟩
  have := q F' H' u
  cases k with
  | true => exact this
  | false => exact eT_const (by simpa using this)
theorem pwOr {f g : Tx} {rest : List Expr} {pos : Pos} (ha : PT X a (eT f)) (hb : PW X (.BoolOp .Or (b :: rest) pos) (eT g)) : PW X (.BoolOp .Or (a :: b :: rest) pos) (eT (txOr f g)) := (pw_or ha hb).imp fun σ H Q h => by
  have h' := eT_if (b0 := true) (f := f) (g := fun _ => some true) (h := g) h
  obtain ⟨F0, H0, F, env, k, r, e, q⟩ := h'
  refine ⟨F0, H0, F, env, k, r, e, fun F' H' u => ?_⟩
  have := q F' H' u
  cases k with
  | false => simpa using this
  | true => exact eT_const (by simpa using this)
/-- as values: all but the last one truth values -/
def exAnd (f g : Ex) : Ex := fun env => (f env).bind fun d => (dBool d).bind fun k => if k = true then g env else some (.bl false)
def exOr (f g : Ex) : Ex := fun env => (f env).bind fun d => (dBool d).bind fun k => if k = true then some (.bl true) else g env
theorem dBool_eq {d : D} {k : Bool} (h : dBool d = some k) : d = .bl k := by
  cases d <;> first | (cases h; done) | (cases h; rfl)
theorem pAndV {f g : Ex} {rest : List Expr} {pos : Pos} (ha : PE X a (eS f)) (hb : PE X (.BoolOp .And (b :: rest) pos) (eS g)) : PE X (.BoolOp .And (a :: b :: rest) pos) (eS (exAnd f g)) := (pe_and ha hb).imp fun σ H Q ⟨F0, H0, F, env, d, r, e, q⟩ => by
  simp only [exAnd, Option.bind_eq_some_iff] at e
  obtain ⟨d1, h1, k, h2, h3⟩ := e
  cases dBool_eq h2
  refine ⟨F0, H0, F, env, _, r, h1, fun v F' H' u p => ⟨k, (RB.rep p : RB F' H' v _).bl, ?_⟩⟩
  cases k with
  | true =>
    rw [if_pos rfl] at h3 ⊢
    exact ⟨F0, H0, F', env, d, r.mono u, h3, fun w F'' H'' u' p' => q w F'' H'' (u.trans u') p'⟩
  | false =>
    rw [if_neg Bool.false_ne_true] at h3 ⊢
    cases h3
    exact q _ F' H' u (.bl _)
theorem pOrV {f g : Ex} {rest : List Expr} {pos : Pos} (ha : PE X a (eS f)) (hb : PE X (.BoolOp .Or (b :: rest) pos) (eS g)) : PE X (.BoolOp .Or (a :: b :: rest) pos) (eS (exOr f g)) := (pe_or ha hb).imp fun σ H Q ⟨F0, H0, F, env, d, r, e, q⟩ => by
  simp only [exOr, Option.bind_eq_some_iff] at e
  obtain ⟨d1, h1, k, h2, h3⟩ := e
  cases dBool_eq h2
  refine ⟨F0, H0, F, env, _, r, h1, fun v F' H' u p => ⟨k, (RB.rep p : RB F' H' v _).bl, ?_⟩⟩
  cases k with
  | true =>
    rw [if_pos rfl] at h3 ⊢
    cases h3
    exact q _ F' H' u (.bl _)
  | false =>
    rw [if_neg Bool.false_ne_true] at h3 ⊢
    exact ⟨F0, H0, F', env, d, r.mono u, h3, fun w F'' H'' u' p' => q w F'' H'' (u.trans u') p'⟩
/-- a if t else b -/
def exIf (t : Tx) (f g : Ex) : Ex := fun env => (t env).bind fun k => if k = true then f env else g env
theorem pIfS {c : Expr} {t : Tx} {f g : Ex} {pos : Pos} (hc : PT X c (eT t)) (ha : PE X a (eS f)) (hb : PE X b (eS g)) : PE X (.IfExp c a b pos) (eS (exIf t f g)) := (pe_ifExp hc ha hb).imp fun σ H Q ⟨F0, H0, F, env, d, r, e, q⟩ => by
  simp only [exIf, Option.bind_eq_some_iff] at e
  obtain ⟨k, h1, h2⟩ := e
  refine ⟨F0, H0, F, env, k, r, h1, fun F' H' u => ?_⟩
  cases k with
  | true =>
    rw [if_pos rfl] at h2 ⊢
    exact ⟨F0, H0, F', env, d, r.mono u, h2, fun w F'' H'' u' p' => q w F'' H'' (u.trans u') p'⟩
  | false =>
    rw [if_neg Bool.false_ne_true] at h2 ⊢
    exact ⟨F0, H0, F', env, d, r.mono u, h2, fun w F'' H'' u' p' => q w F'' H'' (u.trans u') p'⟩
theorem RN.back {F H F1 H1 F' H' : Hp} {v : V} {d : D} (u : Up F H F1 H1) (p : RN H1 F' H' v d) : RN H F' H' v d := by
  cases p with
  | rep p m => exact .rep p m
  | own p o e w n h r m => exact .own p o e (u.h.free w) n h r m
theorem pIfN {c : Expr} {t : Tx} {f g : Ex} {pos : Pos} (hc : PT X c (eT t)) (ha : PE X a (eN f)) (hb : PE X b (eN g)) : PE X (.IfExp c a b pos) (eN (exIf t f g)) := (pe_ifExp hc ha hb).imp fun σ H Q ⟨F0, H0, F, env, d, r, e, q⟩ => by
  simp only [exIf, Option.bind_eq_some_iff] at e
  obtain ⟨k, h1, h2⟩ := e
  refine ⟨F0, H0, F, env, k, r, h1, fun F' H' u => ?_⟩
  cases k with
  | true =>
    rw [if_pos rfl] at h2 ⊢
    exact ⟨F0, H0, F', env, d, r.mono u, h2, fun w F'' H'' u' p' => q w F'' H'' (u.trans u') (p'.back u)⟩
  | false =>
    rw [if_neg Bool.false_ne_true] at h2 ⊢
    exact ⟨F0, H0, F', env, d, r.mono u, h2, fun w F'' H'' u' p' => q w F'' H'' (u.trans u') (p'.back u)⟩
end
end Sw

/-! Sw3: data compared. -/
namespace Sw
open PySem L2

mutual
def D.py : D → PyData
  | .non => .none
  | .bl b => .bool b
  | .int i => .int i
  | .str x => .str x
  | .tup xs => .tuple (D.pyL xs)
  | .lst xs => .list (D.pyL xs)
  | .dic _ _ => .dict []
  | .set _ => .dict []
  | .scr _ => .dict []
def D.pyL : List D → List PyData
  | [] => []
  | x :: xs => D.py x :: D.pyL xs
end
theorem pyL_map : ∀ xs : List D, D.pyL xs = xs.map D.py
  | [] => rfl
  | x :: xs => by rw [D.pyL, pyL_map xs, List.map_cons]
theorem pyL_length (xs : List D) : (D.pyL xs).length = xs.length := by rw [pyL_map, List.length_map]

/-- plain all through, to a depth -/
def D.fl : Nat → D → Bool
  | _, .non => true
  | _, .bl _ => true
  | _, .int _ => true
  | _, .str x => PyData.canLay0 (.str x)
  | n + 1, .tup xs => xs.all (D.fl n)
  | n + 1, .lst xs => xs.all (D.fl n)
  | _, _ => false
abbrev D.ok (d : D) : Bool := d.fl 16

mutual
/-- equal, as Python says -/
def D.eqv : D → D → Bool
  | .non, .non => true
  | .bl a, .bl b => a == b
  | .bl a, .int j => (if a then 1 else 0) == j
  | .int i, .bl b => i == (if b then 1 else 0)
  | .int i, .int j => decide (i = j)
  | .str x, .str y => x == y
  | .tup xs, .tup ys => D.eqvL xs ys
  | .lst xs, .lst ys => D.eqvL xs ys
  | _, _ => false
def D.eqvL : List D → List D → Bool
  | [], [] => true
  | x :: xs, y :: ys => D.eqv x y && D.eqvL xs ys
  | _, _ => false
end
mutual
/-- may they be put in order -/
def D.alk : D → D → Bool
  | .non, .non => true
  | .bl _, .bl _ => true
  | .int _, .int _ => true
  | .str _, .str _ => true
  | .tup xs, .tup ys => D.alkL xs ys
  | .lst xs, .lst ys => D.alkL xs ys
  | _, _ => false
def D.alkL : List D → List D → Bool
  | x :: xs, y :: ys => D.alk x y && D.alkL xs ys
  | [], _ => true
  | _ :: _, [] => true
end
mutual
/-- less, as Python says of such -/
def D.lt : D → D → Bool
  | .bl a, .bl b => !a && b
  | .int i, .int j => decide (i < j)
  | .str x, .str y => decide (x.cps.toList < y.cps.toList)
  | .tup xs, .tup ys => D.ltL xs ys
  | .lst xs, .lst ys => D.ltL xs ys
  | _, _ => false
def D.ltL : List D → List D → Bool
  | _, [] => false
  | [], _ :: _ => true
  | x :: xs, y :: ys => if D.eqv x y = true then D.ltL xs ys else D.lt x y
end

theorem fl_tup {n : Nat} {xs : List D} (h : D.fl n (.tup xs) = true) : ∃ m, n = m + 1 ∧ ∀ x ∈ xs, D.fl m x = true := by
  cases n with
  | zero => simp [D.fl] at h
  | succ m => exact ⟨m, rfl, by simpa [D.fl] using h⟩
theorem fl_lst {n : Nat} {xs : List D} (h : D.fl n (.lst xs) = true) : ∃ m, n = m + 1 ∧ ∀ x ∈ xs, D.fl m x = true := by
  cases n with
  | zero => simp [D.fl] at h
  | succ m => exact ⟨m, rfl, by simpa [D.fl] using h⟩
theorem fl_dic {n : Nat} {t : Bool} {es : List (D × D)} (h : D.fl n (.dic t es) = true) : False := by
  cases n <;> simp [D.fl] at h
theorem fl_set {n : Nat} {es : List D} (h : D.fl n (.set es) = true) : False := by
  cases n <;> simp [D.fl] at h
theorem fl_scr {n : Nat} {es : List Int} (h : D.fl n (.scr es) = true) : False := by
  cases n <;> simp [D.fl] at h
theorem fl_str {n : Nat} {x : Str} (h : D.fl n (.str x) = true) : PyData.canLay0 (.str x) = true := by
  cases n <;> simpa [D.fl] using h

theorem layL_py (n : Nat) (ih : ∀ d : D, d.fl n = true → d.py.canLay0 = true ∧ d.py.depth ≤ n) : ∀ (xs : List D), (∀ x ∈ xs, x.fl n = true) → PyData.canLayAll0 (D.pyL xs) = true ∧ PyData.depthAll (D.pyL xs) ≤ n
  | [], _ => ⟨by simp only [D.pyL, PyData.canLayAll0], by simp only [D.pyL, PyData.depthAll]; exact Nat.zero_le _⟩
  | x :: xs, h => by
    obtain ⟨h1, h2⟩ := ih x (h x List.mem_cons_self)
    obtain ⟨h3, h4⟩ := layL_py n ih xs fun y hy => h y (List.mem_cons_of_mem _ hy)
    refine ⟨by simp only [D.pyL, PyData.canLayAll0, h1, h3, Bool.and_self], ?_⟩
    simp only [D.pyL, PyData.depthAll]
    omega
theorem lay_py : ∀ (n : Nat) (d : D), d.fl n = true → d.py.canLay0 = true ∧ d.py.depth ≤ n
  | n, d, h => by
    induction n generalizing d with
    | zero =>
      cases d with
      | non => simp [D.py, PyData.canLay0, PyData.depth]
      | bl _ => simp [D.py, PyData.canLay0, PyData.depth]
      | int _ => simp [D.py, PyData.canLay0, PyData.depth]
      | str x => exact ⟨by rw [D.py]; exact fl_str h, by simp [D.py, PyData.depth]⟩
      | tup xs => obtain ⟨m, e, _⟩ := fl_tup h; cases e
      | lst xs => obtain ⟨m, e, _⟩ := fl_lst h; cases e
      | dic _ _ => exact (fl_dic h).elim
      | set _ => exact (fl_set h).elim
      | scr _ => exact (fl_scr h).elim
    | succ n ih =>
      cases d with
      | non => simp [D.py, PyData.canLay0, PyData.depth]
      | bl _ => simp [D.py, PyData.canLay0, PyData.depth]
      | int _ => simp [D.py, PyData.canLay0, PyData.depth]
      | str x => exact ⟨by rw [D.py]; exact fl_str h, by simp [D.py, PyData.depth]⟩
      | tup xs =>
        obtain ⟨m, e, hx⟩ := fl_tup h
        cases e
        obtain ⟨h1, h2⟩ := layL_py n ih xs hx
        exact ⟨by simpa only [D.py, PyData.canLay0] using h1, by simpa only [D.py, PyData.depth, Nat.add_le_add_iff_right] using h2⟩
      | lst xs =>
        obtain ⟨m, e, hx⟩ := fl_lst h
        cases e
        obtain ⟨h1, h2⟩ := layL_py n ih xs hx
        exact ⟨by simpa only [D.py, PyData.canLay0] using h1, by simpa only [D.py, PyData.depth, Nat.add_le_add_iff_right] using h2⟩
      | dic _ _ => exact (fl_dic h).elim
      | set _ => exact (fl_set h).elim
      | scr _ => exact (fl_scr h).elim
theorem shaped_py {d : D} (h : d.ok = true) : SeqAt.shaped d.py = true := by
  obtain ⟨h1, h2⟩ := lay_py 16 d h
  unfold SeqAt.shaped
  rw [h1, Bool.true_and]
  exact decide_eq_true (by omega)

theorem eqvL_py (n : Nat) (ih : ∀ a b : D, a.fl n = true → b.fl n = true → PyData.eqv a.py b.py = D.eqv a b) : ∀ (xs ys : List D), (∀ x ∈ xs, x.fl n = true) → (∀ y ∈ ys, y.fl n = true) → PyData.eqvAll (D.pyL xs) (D.pyL ys) = D.eqvL xs ys
  | [], [], _, _ => by simp only [D.pyL, PyData.eqvAll, D.eqvL]
  | [], _ :: _, _, _ => by simp only [D.pyL, PyData.eqvAll, D.eqvL]
  | _ :: _, [], _, _ => by simp only [D.pyL, PyData.eqvAll, D.eqvL]
  | x :: xs, y :: ys, hx, hy => by
    simp only [D.pyL, PyData.eqvAll, D.eqvL]
    rw [ih x y (hx x List.mem_cons_self) (hy y List.mem_cons_self), eqvL_py n ih xs ys (fun z hz => hx z (List.mem_cons_of_mem _ hz)) fun z hz => hy z (List.mem_cons_of_mem _ hz)]
theorem eqv_py : ∀ (n : Nat) (a b : D), a.fl n = true → b.fl n = true → PyData.eqv a.py b.py = D.eqv a b
  | n, a, b, ha, hb => by
    induction n generalizing a b with
    | zero =>
      cases a with
      | dic _ _ => exact (fl_dic ha).elim
      | set _ => exact (fl_set ha).elim
      | scr _ => exact (fl_scr ha).elim
      | tup xs => obtain ⟨m, e, _⟩ := fl_tup ha; cases e
      | lst xs => obtain ⟨m, e, _⟩ := fl_lst ha; cases e
      | _ => cases b with
        | dic _ _ => exact (fl_dic hb).elim
        | set _ => exact (fl_set hb).elim
        | scr _ => exact (fl_scr hb).elim
        | _ => simp only [D.py, PyData.eqv, D.eqv, Bool.beq_eq_decide_eq]
    | succ n ih =>
      cases a with
      | dic _ _ => exact (fl_dic ha).elim
      | set _ => exact (fl_set ha).elim
      | scr _ => exact (fl_scr ha).elim
      | tup xs => cases b with
        | dic _ _ => exact (fl_dic hb).elim
        | set _ => exact (fl_set hb).elim
        | scr _ => exact (fl_scr hb).elim
        | tup ys =>
          obtain ⟨m, e, hx⟩ := fl_tup ha
          cases e
          obtain ⟨m', e, hy⟩ := fl_tup hb
          cases e
          simp only [D.py, PyData.eqv, D.eqv]
          exact eqvL_py n ih xs ys hx hy
        | _ => simp only [D.py, PyData.eqv, D.eqv]
      | lst xs => cases b with
        | dic _ _ => exact (fl_dic hb).elim
        | set _ => exact (fl_set hb).elim
        | scr _ => exact (fl_scr hb).elim
        | lst ys =>
          obtain ⟨m, e, hx⟩ := fl_lst ha
          cases e
          obtain ⟨m', e, hy⟩ := fl_lst hb
          cases e
          simp only [D.py, PyData.eqv, D.eqv]
          exact eqvL_py n ih xs ys hx hy
        | _ => simp only [D.py, PyData.eqv, D.eqv]
      | _ => cases b with
        | dic _ _ => exact (fl_dic hb).elim
        | set _ => exact (fl_set hb).elim
        | scr _ => exact (fl_scr hb).elim
        | _ => simp only [D.py, PyData.eqv, D.eqv, Bool.beq_eq_decide_eq]

theorem alkL_py (n : Nat) (ih : ∀ a b : D, a.fl n = true → D.alk a b = true → PySem.W.alike a.py b.py = true) : ∀ (xs ys : List D), (∀ x ∈ xs, x.fl n = true) → D.alkL xs ys = true → PySem.W.alikeAll (D.pyL xs) (D.pyL ys) = true
  | [], _, _, _ => by simp only [D.pyL, PySem.W.alikeAll]
  | _ :: _, [], _, _ => by simp only [D.pyL, PySem.W.alikeAll]
  | x :: xs, y :: ys, hx, h => by
    simp only [D.alkL, Bool.and_eq_true] at h
    simp only [D.pyL, PySem.W.alikeAll, Bool.and_eq_true]
    exact ⟨ih x y (hx x List.mem_cons_self) h.1, alkL_py n ih xs ys (fun z hz => hx z (List.mem_cons_of_mem _ hz)) h.2⟩
theorem alk_py : ∀ (n : Nat) (a b : D), a.fl n = true → D.alk a b = true → PySem.W.alike a.py b.py = true
  | n, a, b, ha, h => by
    induction n generalizing a b with
    | zero =>
      cases a with
      | tup xs => obtain ⟨m, e, _⟩ := fl_tup ha; cases e
      | lst xs => obtain ⟨m, e, _⟩ := fl_lst ha; cases e
      | _ => cases b <;> first | (simp only [D.alk, Bool.false_eq_true] at h; done) | simp only [D.py, PySem.W.alike]
    | succ n ih =>
      cases a with
      | tup xs =>
        obtain ⟨m, e, hx⟩ := fl_tup ha
        cases e
        cases b with
        | tup ys =>
          simp only [D.py, PySem.W.alike, D.alk] at h ⊢
          exact alkL_py n ih xs ys hx h
        | _ => simp only [D.alk, Bool.false_eq_true] at h
      | lst xs =>
        obtain ⟨m, e, hx⟩ := fl_lst ha
        cases e
        cases b with
        | lst ys =>
          simp only [D.py, PySem.W.alike, D.alk] at h ⊢
          exact alkL_py n ih xs ys hx h
        | _ => simp only [D.alk, Bool.false_eq_true] at h
      | _ => cases b <;> first | (simp only [D.alk, Bool.false_eq_true] at h; done) | simp only [D.py, PySem.W.alike]
theorem lt_nil_cons (y : PyData) (ys : List PyData) : PyProof.Rows.lexLt PyProof.Rows.itemOrd (PySem.W.keyToksAll []) (PySem.W.keyToksAll (y :: ys)) = true := by
  rw [PySem.W.toks_all_cons, PySem.W.keyToksAll, PyProof.Rows.lex_diff (by simp)]
  decide
theorem lt_cons_nil (x : PyData) (xs : List PyData) : PyProof.Rows.lexLt PyProof.Rows.itemOrd (PySem.W.keyToksAll (x :: xs)) (PySem.W.keyToksAll []) = false := by
  rw [PySem.W.toks_all_cons, PySem.W.keyToksAll, PyProof.Rows.lex_diff (by simp)]
  decide
theorem lt_nil_nil : PyProof.Rows.lexLt PyProof.Rows.itemOrd (PySem.W.keyToksAll []) (PySem.W.keyToksAll []) = false := by
  rw [PySem.W.keyToksAll]
  decide
theorem ltL_py (n : Nat) (ih : ∀ a b : D, a.fl n = true → b.fl n = true → D.alk a b = true → PySem.W.dataLt a.py b.py = D.lt a b) : ∀ (xs ys : List D), (∀ x ∈ xs, x.fl n = true) → (∀ y ∈ ys, y.fl n = true) → D.alkL xs ys = true →
    PyProof.Rows.lexLt PyProof.Rows.itemOrd (PySem.W.keyToksAll (D.pyL xs)) (PySem.W.keyToksAll (D.pyL ys)) = D.ltL xs ys
  | [], [], _, _, _ => by
    simp only [D.pyL, D.ltL]
    exact lt_nil_nil
  | [], y :: ys, _, _, _ => by
    simp only [D.pyL, D.ltL]
    exact lt_nil_cons _ _
  | x :: xs, [], _, _, _ => by
    simp only [D.pyL, D.ltL]
    exact lt_cons_nil _ _
  | x :: xs, y :: ys, hx, hy, h => by
    simp only [D.alkL, Bool.and_eq_true] at h
    have ex := eqv_py n x y (hx x List.mem_cons_self) (hy y List.mem_cons_self)
    have al := alk_py n x y (hx x List.mem_cons_self) h.1
    simp only [D.pyL, D.ltL]
    cases e : D.eqv x y with
    | true =>
      rw [if_pos rfl, PySem.W.dataLt_all_yes al (ex.trans e)]
      exact ltL_py n ih xs ys (fun z hz => hx z (List.mem_cons_of_mem _ hz)) (fun z hz => hy z (List.mem_cons_of_mem _ hz)) h.2
    | false =>
      rw [if_neg Bool.false_ne_true, PySem.W.dataLt_all_no al (ex.trans e)]
      exact ih x y (hx x List.mem_cons_self) (hy y List.mem_cons_self) h.1
theorem lt_non : PySem.W.dataLt .none .none = false := by
  unfold PySem.W.dataLt
  rw [PySem.W.keyToks]
  decide
theorem lt_bl (a b : Bool) : decide (PyProof.Rows.b2i a < PyProof.Rows.b2i b) = (!a && b) := by
  cases a <;> cases b <;> decide
theorem lt_py : ∀ (n : Nat) (a b : D), a.fl n = true → b.fl n = true → D.alk a b = true → PySem.W.dataLt a.py b.py = D.lt a b
  | n, a, b, ha, hb, h => by
    induction n generalizing a b with
    | zero =>
      cases a with
      | tup xs => obtain ⟨m, e, _⟩ := fl_tup ha; cases e
      | lst xs => obtain ⟨m, e, _⟩ := fl_lst ha; cases e
      | _ => cases b <;> first | (simp only [D.alk, Bool.false_eq_true] at h; done) | simp only [D.py, D.lt, lt_non, PySem.W.dataLt_bool, PySem.W.dataLt_int, PySem.W.dataLt_str, lt_bl]
    | succ n ih =>
      cases a with
      | tup xs =>
        obtain ⟨m, e, hx⟩ := fl_tup ha
        cases e
        cases b with
        | tup ys =>
          obtain ⟨m', e, hy⟩ := fl_tup hb
          cases e
          simp only [D.py, PySem.W.dataLt_tuple, D.lt, D.alk] at h ⊢
          exact ltL_py n ih xs ys hx hy h
        | _ => simp only [D.alk, Bool.false_eq_true] at h
      | lst xs =>
        obtain ⟨m, e, hx⟩ := fl_lst ha
        cases e
        cases b with
        | lst ys =>
          obtain ⟨m', e, hy⟩ := fl_lst hb
          cases e
          simp only [D.py, PySem.W.dataLt_list, D.lt, D.alk] at h ⊢
          exact ltL_py n ih xs ys hx hy h
        | _ => simp only [D.alk, Bool.false_eq_true] at h
      | _ => cases b <;> first | (simp only [D.alk, Bool.false_eq_true] at h; done) | simp only [D.py, D.lt, lt_non, PySem.W.dataLt_bool, PySem.W.dataLt_int, PySem.W.dataLt_str, lt_bl]
theorem pyL_inj (n : Nat) (ih : ∀ a b : D, a.fl n = true → b.fl n = true → a.py = b.py → a = b) : ∀ (xs ys : List D), (∀ x ∈ xs, x.fl n = true) → (∀ y ∈ ys, y.fl n = true) → D.pyL xs = D.pyL ys → xs = ys
  | [], [], _, _, _ => rfl
  | [], _ :: _, _, _, h => by simp [D.pyL] at h
  | _ :: _, [], _, _, h => by simp [D.pyL] at h
  | x :: xs, y :: ys, hx, hy, h => by
    simp only [D.pyL, List.cons.injEq] at h
    rw [ih x y (hx x List.mem_cons_self) (hy y List.mem_cons_self) h.1, pyL_inj n ih xs ys (fun z hz => hx z (List.mem_cons_of_mem _ hz)) (fun z hz => hy z (List.mem_cons_of_mem _ hz)) h.2]
theorem py_inj : ∀ (n : Nat) (a b : D), a.fl n = true → b.fl n = true → a.py = b.py → a = b
  | n, a, b, ha, hb, h => by
    induction n generalizing a b with
    | zero =>
      cases a with
      | dic _ _ => exact (fl_dic ha).elim
      | set _ => exact (fl_set ha).elim
      | scr _ => exact (fl_scr ha).elim
      | tup xs => obtain ⟨m, e, _⟩ := fl_tup ha; cases e
      | lst xs => obtain ⟨m, e, _⟩ := fl_lst ha; cases e
      | _ => cases b <;> simp only [D.py, reduceCtorEq, PyData.bool.injEq, PyData.int.injEq, PyData.str.injEq] at h <;> first | rfl | rw [h]
    | succ n ih =>
      cases a with
      | dic _ _ => exact (fl_dic ha).elim
      | set _ => exact (fl_set ha).elim
      | scr _ => exact (fl_scr ha).elim
      | tup xs =>
        obtain ⟨m, e, hx⟩ := fl_tup ha
        cases e
        cases b with
        | tup ys =>
          obtain ⟨m', e, hy⟩ := fl_tup hb
          cases e
          simp only [D.py, PyData.tuple.injEq] at h
          rw [pyL_inj n ih xs ys hx hy h]
        | _ => simp only [D.py, reduceCtorEq] at h
      | lst xs =>
        obtain ⟨m, e, hx⟩ := fl_lst ha
        cases e
        cases b with
        | lst ys =>
          obtain ⟨m', e, hy⟩ := fl_lst hb
          cases e
          simp only [D.py, PyData.list.injEq] at h
          rw [pyL_inj n ih xs ys hx hy h]
        | _ => simp only [D.py, reduceCtorEq] at h
      | _ => cases b <;> simp only [D.py, reduceCtorEq, PyData.bool.injEq, PyData.int.injEq, PyData.str.injEq] at h <;> first | rfl | rw [h]
theorem repL_dp {K : PySem.W.Frag} {F H : Hp} (n : Nat) (ih : ∀ (v : V) (d : D), d.fl n = true → Rep F v d → Dp K H v d.py) : ∀ (vs : List V) (ds : List D), (∀ x ∈ ds, x.fl n = true) → RepL F vs ds → DpAll K H vs (D.pyL ds)
  | _, _, _, .nil => by
    rw [D.pyL]
    exact .nil
  | _, d :: ds, h, .cons r t => by
    rw [D.pyL]
    exact .cons (ih _ d (h d List.mem_cons_self) r) (repL_dp n ih _ ds (fun z hz => h z (List.mem_cons_of_mem _ hz)) t)
theorem rep_dp {K : PySem.W.Frag} {F H : Hp} (s : Same F H) : ∀ (n : Nat) (v : V) (d : D), d.fl n = true → Rep F v d → Dp K H v d.py
  | n, v, d, h, r => by
    induction n generalizing v d with
    | zero =>
      cases r with
      | non => rw [D.py]; exact .non
      | bl b => rw [D.py]; exact .bl b
      | int i => rw [D.py]; exact .int i
      | str x => rw [D.py]; exact .str x
      | ref e o =>
        cases o with
        | tup _ => obtain ⟨m, e, _⟩ := fl_tup h; cases e
        | lst _ => obtain ⟨m, e, _⟩ := fl_lst h; cases e
        | scr => exact (fl_scr h).elim
        | dK _ => exact (fl_dic h).elim
        | dT _ => exact (fl_dic h).elim
    | succ n ih =>
      cases r with
      | non => rw [D.py]; exact .non
      | bl b => rw [D.py]; exact .bl b
      | int i => rw [D.py]; exact .int i
      | str x => rw [D.py]; exact .str x
      | ref e o =>
        cases o with
        | tup q =>
          obtain ⟨m, em, hx⟩ := fl_tup h
          cases em
          rw [D.py]
          exact .tup (.inl (.inl (s _ _ e))) (repL_dp n ih _ _ hx q)
        | lst q =>
          obtain ⟨m, em, hx⟩ := fl_lst h
          cases em
          rw [D.py]
          exact .lst (.inl (.inl (s _ _ e))) (repL_dp n ih _ _ hx q)
        | scr => exact (fl_scr h).elim
        | dK _ => exact (fl_dic h).elim
        | dT _ => exact (fl_dic h).elim
theorem RB.dp {K : PySem.W.Frag} {F H : Hp} (s : Same F H) {v : V} {d : D} (h : d.ok = true) (r : RB F H v d) : Dp K H v d.py := by
  cases r with
  | rep r => exact rep_dp s 16 v d h r
  | own p o e n hp r m =>
    subst e
    cases r with
    | tup r =>
      obtain ⟨m, e, hx⟩ := fl_tup h
      rw [D.py]
      exact .tup (.inl (.inl hp)) (repL_dp m (rep_dp s m) _ _ hx r)
    | lst r =>
      obtain ⟨m, e, hx⟩ := fl_lst h
      rw [D.py]
      exact .lst (.inl (.inl hp)) (repL_dp m (rep_dp s m) _ _ hx r)
    | scr => exact (fl_scr h).elim
    | dK _ => exact (fl_dic h).elim
    | dT _ => exact (fl_dic h).elim
end Sw

/-! Sw4: operators. -/
namespace Sw
open PySem L2

def dAdd : D → D → Option D
  | .int a, .int b => some (.int (a + b))
  | .str a, .str b => if a.length + b.length ≤ sizeLine then some (.str (a ++ b)) else none
  | .tup a, .tup b => if a.length + b.length ≤ sizeLine then some (.tup (a ++ b)) else none
  | .lst a, .lst b => if a.length + b.length ≤ sizeLine then some (.lst (a ++ b)) else none
  | _, _ => none
def dSub : D → D → Option D
  | .int a, .int b => some (.int (a - b))
  | _, _ => none
/-- small: by words that a kernel cannot unroll -/
def sm (n : Nat) (i : Int) : Bool := Nat.ble i.natAbs n
theorem sm_le {n : Nat} {i : Int} : sm n i = true ↔ i.natAbs ≤ n := Nat.ble_eq.symm ▸ Iff.rfl
/-- one factor below 2 ^ 64 -/
def mulOk (i j : Int) : Bool := sm 18446744073709551615 i || sm 18446744073709551615 j
def dMul : D → D → Option D
  | .int a, .int b => if mulOk a b = true then some (.int (a * b)) else none
  | .lst xs, .int k => if (sm 16777216 k && Nat.ble (xs.length * k.toNat) 16777216) = true then some (.lst (List.replicate k.toNat xs).flatten) else none
  | _, _ => none
theorem mulOk_of {i j : Int} (h : mulOk i j = true) : CMul i j := by
  unfold mulOk at h
  rw [Bool.or_eq_true, sm_le, sm_le] at h
  unfold CMul
  omega
def divOk (j : Int) : Bool := decide (0 < j) && (sm 1073741823 j || Nat.ble j.natAbs.log2 8999)
theorem divOk_of {j : Int} (h : divOk j = true) : 0 < j ∧ (j < 1073741824 ∨ j.natAbs.log2 < 9000) := by
  unfold divOk at h
  rw [Bool.and_eq_true, Bool.or_eq_true, sm_le, Nat.ble_eq] at h
  have h0 := of_decide_eq_true h.1
  refine ⟨h0, ?_⟩
  rcases h.2 with h | h
  · left
    omega
  · right
    omega
def dDiv : D → D → Option D
  | .int a, .int b => if divOk b = true then some (.int (a / b)) else if b ≠ 0 ∧ b.natAbs < 1073741824 then some (.int (a.fdiv b)) else none
  | _, _ => none
def dMod : D → D → Option D
  | .int a, .int b => if 0 < b then some (.int (a % b)) else if b ≠ 0 then some (.int (a.fmod b)) else none
  | _, _ => none
def powOk (i j : Int) : Bool := decide (0 ≤ j) && (sm 1000000 j && sm 18446744073709551615 i)
theorem powOk_of {i j : Int} (h : powOk i j = true) : 0 ≤ j ∧ j ≤ 1000000 ∧ i.natAbs < 2 ^ 64 := by
  unfold powOk at h
  rw [Bool.and_eq_true, Bool.and_eq_true, sm_le, sm_le] at h
  have h0 := of_decide_eq_true h.1
  omega
def dPow : D → D → Option D
  | .int i, .int j => if powOk i j = true then some (.int (i ^ j.toNat)) else none
  | _, _ => none
def dShl : D → D → Option D
  | .int i, .int j => if powOk i j = true then some (.int (i * 2 ^ j.toNat)) else none
  | _, _ => none
def dXor : D → D → Option D
  | .int i, .int j => some (.int (Builtin.bitXor i j))
  | _, _ => none
def dNeg : D → Option D
  | .int i => some (.int (-i))
  | _ => none
def dEq (a b : D) : Option D := if (a.ok && b.ok) = true then some (.bl (D.eqv a b)) else none
def dNe (a b : D) : Option D := if (a.ok && b.ok) = true then some (.bl (!D.eqv a b)) else none
def dLt : D → D → Option D
  | .int i, .int j => some (.bl (decide (i < j)))
  | .non, _ => none
  | a, b => if (a.ok && b.ok && D.alk a b) = true then some (.bl (D.lt a b)) else none
def dLe : D → D → Option D
  | .int i, .int j => some (.bl (decide (i ≤ j)))
  | _, _ => none
def dGt : D → D → Option D
  | .int i, .int j => some (.bl (decide (j < i)))
  | _, _ => none
def dGe : D → D → Option D
  | .int i, .int j => some (.bl (decide (j ≤ i)))
  | _, _ => none
def D.isNon : D → Bool
  | .non => true
  | _ => false
def dIs : D → D → Option D
  | a, .non => some (.bl a.isNon)
  | .bl a, .bl b => some (.bl (decide (a = b)))
  | _, _ => none
def dIsN : D → D → Option D
  | a, .non => some (.bl !a.isNon)
  | .bl a, .bl b => some (.bl !decide (a = b))
  | _, _ => none
/-- what a dict's entries hold at a key -/
def dFind (es : List (D × D)) (k : D) : Option D := (es.find? fun e => D.eqv e.1 k).map (·.2)
def dPut (es : List (D × D)) (k d : D) : List (D × D) := if (es.any fun e => D.eqv e.1 k) = true then es.map (fun e => if D.eqv e.1 k = true then (e.1, d) else e) else es ++ [(k, d)]
/-- is k a key of a dict of that kind -/
def keyOk (t : Bool) (k : D) : Bool := if t = true then k.keys?.isSome else k.key?.isSome
def dIn : D → D → Option D
  | x, .lst ys => if (x.ok && D.ok (.lst ys)) = true then some (.bl (ys.any fun y => D.eqv y x)) else none
  | x, .tup ys => if (x.ok && D.ok (.tup ys)) = true then some (.bl (ys.any fun y => D.eqv y x)) else none
  | x, .dic t es => if keyOk t x = true then some (.bl (dFind es x).isSome) else none
  | _, _ => none
def dNIn : D → D → Option D
  | x, .lst ys => if (x.ok && D.ok (.lst ys)) = true then some (.bl !(ys.any fun y => D.eqv y x)) else none
  | x, .tup ys => if (x.ok && D.ok (.tup ys)) = true then some (.bl !(ys.any fun y => D.eqv y x)) else none
  | x, .dic t es => if keyOk t x = true then some (.bl !(dFind es x).isSome) else none
  | _, _ => none
def dIx : D → D → Option D
  | .lst xs, .int i => atI xs i
  | .tup xs, .int i => atI xs i
  | .scr ns, .int i => (atI ns i).map D.int
  | .str x, .int i => if x.length ≤ sizeLine then (atI x.cps.toList i).map fun c => .str ⟨#[c]⟩ else none
  | .dic t es, k => if keyOk t k = true then dFind es k else none
  | _, _ => none

/-! ### they are what the model does -/
section
variable {X : Cx}
/-- the answer is a plain value -/
theorem fin_v {F H : Hp} {v : V} {d : D} {Q : VK} (s : Same F H) (r : Rep F v d) (m : d.mut = false) (q : ∀ v F' H', Up F H F' H' → RN H F' H' v d → Q v H') : Q v H := q v F H (Up.refl s) (.rep r m)
/-- the answer is a new object -/
theorem fin_new {F H : Hp} {o : HO} {d : D} {Q : VK} (s : Same F H) (r : OR F o d) (m : d.mut = true) (q : ∀ v F' H', Up F H F' H' → RN H F' H' v d → Q v H') : ∀ p, H p = none → Q (.ref p) (upd H p o) := fun p np => q _ F _ (Up.new s np) (.own p o rfl np (Same.free s np) upd_same r m)
/-- .. a new tuple -/
theorem fin_tup {F H : Hp} {vs : List V} {ds : List D} {Q : VK} (s : Same F H) (r : RepL F vs ds) (q : ∀ v F' H', Up F H F' H' → RN H F' H' v (.tup ds) → Q v H') : ∀ p, H p = none → Q (.ref p) (upd H p (.tup vs)) := fun p np =>
  q _ _ _ (Up.frz s np) (.rep (.ref upd_same (.tup (r.mono (same_new (Same.free s np))))) rfl)

theorem op2_add : Op2 X (binaryOp .Add) dAdd := by
  intro pins s σ H x y v u Q I rx ry h
  obtain ⟨F, d1, d2, d, sF, r1, r2, e, q⟩ := h
  cases d1 with
  | int a =>
    cases d2 with
    | int b =>
      cases e
      exact op_add pins s σ H x y v u Q I rx ry ⟨a, b, r1.int, r2.int, fin_v sF (.int _) rfl q⟩
    | _ => cases e
  | str a =>
    cases d2 with
    | str b =>
      by_cases hl : a.length + b.length ≤ sizeLine
      · simp only [dAdd, if_pos hl] at e
        cases e
        exact op_add_str pins s σ H x y v u Q I rx ry ⟨a, b, r1.str, r2.str, hl, fin_v sF (.str _) rfl q⟩
      · simp only [dAdd, if_neg hl] at e
        cases e
    | _ => cases e
  | tup a =>
    cases d2 with
    | tup b =>
      by_cases hl : a.length + b.length ≤ sizeLine
      · simp only [dAdd, if_pos hl] at e
        cases e
        obtain ⟨pa, va, rfl, ha, qa⟩ := r1.tup
        obtain ⟨pb, vb, rfl, hb, qb⟩ := r2.tup
        refine op_catA pins s σ H _ _ v u Q I rx ry ⟨pa, pb, va, vb, rfl, rfl, .inl (.inl (sF _ _ ha)), .inl (.inl (sF _ _ hb)), by rw [qa.length, qb.length]; exact hl, fun z => ?_, fun _ z => ?_, fun _ _ => fin_tup sF (qa.append qb) q⟩
        · subst z
          cases qa
          rw [List.nil_append] at q
          exact fin_v sF (r2.rp rfl) rfl q
        · subst z
          cases qb
          rw [List.append_nil] at q
          exact fin_v sF (r1.rp rfl) rfl q
      · simp only [dAdd, if_neg hl] at e
        cases e
    | _ => cases e
  | lst a =>
    cases d2 with
    | lst b =>
      by_cases hl : a.length + b.length ≤ sizeLine
      · simp only [dAdd, if_pos hl] at e
        cases e
        obtain ⟨pa, va, rfl, ha, qa⟩ := r1.lst sF
        obtain ⟨pb, vb, rfl, hb, qb⟩ := r2.lst sF
        exact op_cat pins s σ H _ _ v u Q I rx ry ⟨pa, pb, va, vb, rfl, rfl, ha, hb, by rw [qa.length, qb.length]; exact hl, fin_new sF (.lst (qa.append qb)) rfl q⟩
      · simp only [dAdd, if_neg hl] at e
        cases e
    | _ => cases e
  | _ => cases e
/-- two ints alone -/
theorem op2_int {f : Value → Value → Sem Value} {g : D → D → Option D} (hg : ∀ a b d, g a b = some d → ∃ i j, a = .int i ∧ b = .int j ∧ d.mut = false ∧ ∃ C k, OpR X f (rI C k) ∧ C i j ∧ ∀ F, Rep F (k i j) d) : Op2 X f g := by
  intro pins s σ H x y v u Q I rx ry h
  obtain ⟨F, d1, d2, d, sF, r1, r2, e, q⟩ := h
  obtain ⟨i, j, rfl, rfl, m, C, k, ho, hc, hr⟩ := hg _ _ _ e
  exact ho pins s σ H x y v u Q I rx ry ⟨i, j, r1.int, r2.int, hc, fin_v sF (hr F) m q⟩
theorem op0_I {f : Value → Value → Sem Value} {k : Int → Int → V} (h : OpR X f (rI0 k)) : OpR X f (rI (fun _ _ => True) k) := by
  intro pins s σ H x y v u Q I rx ry ⟨i, j, e1, e2, _, q⟩
  exact h pins s σ H x y v u Q I rx ry ⟨i, j, e1, e2, q⟩
theorem op2_sub : Op2 X (binaryOp .Sub) dSub := op2_int fun a b d e => by
  cases a <;> cases b <;> first | (cases e; done) | skip
  cases e
  exact ⟨_, _, rfl, rfl, rfl, _, _, op0_I op_sub, trivial, fun F => .int _⟩
theorem op2_mul : Op2 X (binaryOp .Mult) dMul := by
  intro pins s σ H x y v u Q I rx ry h
  obtain ⟨F, d1, d2, d, sF, r1, r2, e, q⟩ := h
  cases d1 with
  | int a =>
    cases d2 with
    | int b =>
      by_cases hc : mulOk a b = true
      · simp only [dMul, if_pos hc] at e
        cases e
        exact op_mul pins s σ H x y v u Q I rx ry ⟨a, b, r1.int, r2.int, mulOk_of hc, fin_v sF (.int _) rfl q⟩
      · simp only [dMul, if_neg hc] at e
        cases e
    | _ => cases e
  | lst xs =>
    cases d2 with
    | int k =>
      by_cases hc : (sm 16777216 k && Nat.ble (xs.length * k.toNat) 16777216) = true
      · simp only [dMul, if_pos hc] at e
        cases e
        obtain ⟨pa, va, rfl, ha, qa⟩ := r1.lst sF
        have rep : ∀ n : Nat, RepL F (List.replicate n va).flatten (List.replicate n xs).flatten := fun n => by
          induction n with
          | zero => exact .nil
          | succ n ih =>
            rw [List.replicate_succ, List.replicate_succ, List.flatten_cons, List.flatten_cons]
            exact qa.append ih
        rw [Bool.and_eq_true, sm_le, Nat.ble_eq] at hc
        exact op_rep pins s σ H _ _ v u Q I rx ry ⟨pa, k, va, rfl, r2.int, ha, by omega, by omega, by rw [qa.length]; exact hc.2, fin_new sF (.lst (rep _)) rfl q⟩
      · simp only [dMul, if_neg hc] at e
        cases e
    | _ => cases e
  | _ => cases e
theorem op2_div : Op2 X (binaryOp .FloorDiv) dDiv := op2_int fun a b d e => by
  cases a with
  | int a =>
    cases b with
    | int b =>
      by_cases hc : divOk b = true
      · simp only [dDiv, if_pos hc] at e
        cases e
        obtain ⟨h0, hc⟩ := divOk_of hc
        rcases hc with hc | hc
        · exact ⟨_, _, rfl, rfl, rfl, _, _, op_fdiv, ⟨h0, hc⟩, fun F => .int _⟩
        · exact ⟨_, _, rfl, rfl, rfl, _, _, op_fdivW, ⟨h0, hc⟩, fun F => .int _⟩
      · simp only [dDiv, if_neg hc] at e
        by_cases hn : b ≠ 0 ∧ b.natAbs < 1073741824
        · rw [if_pos hn] at e
          cases e
          exact ⟨_, _, rfl, rfl, rfl, _, _, op_fdivN, hn, fun F => .int _⟩
        · rw [if_neg hn] at e
          cases e
    | _ => cases e
  | _ => cases b <;> cases e
theorem op2_mod : Op2 X (binaryOp .Mod) dMod := op2_int fun a b d e => by
  cases a with
  | int a =>
    cases b with
    | int b =>
      by_cases hc : 0 < b
      · simp only [dMod, if_pos hc] at e
        cases e
        exact ⟨_, _, rfl, rfl, rfl, _, _, op_mod, hc, fun F => .int _⟩
      · simp only [dMod, if_neg hc] at e
        by_cases hn : b ≠ 0
        · rw [if_pos hn] at e
          cases e
          exact ⟨_, _, rfl, rfl, rfl, _, _, op_modN, hn, fun F => .int _⟩
        · rw [if_neg hn] at e
          cases e
    | _ => cases e
  | _ => cases b <;> cases e
theorem op2_pow : Op2 X (binaryOp .Pow) dPow := op2_int fun a b d e => by
  cases a with
  | int a =>
    cases b with
    | int b =>
      by_cases hc : powOk a b = true
      · simp only [dPow, if_pos hc] at e
        cases e
        exact ⟨_, _, rfl, rfl, rfl, _, _, op_pow, powOk_of hc, fun F => .int _⟩
      · simp only [dPow, if_neg hc] at e
        cases e
    | _ => cases e
  | _ => cases b <;> cases e
theorem op2_shl : Op2 X (binaryOp .LShift) dShl := op2_int fun a b d e => by
  cases a with
  | int a =>
    cases b with
    | int b =>
      by_cases hc : powOk a b = true
      · simp only [dShl, if_pos hc] at e
        cases e
        exact ⟨_, _, rfl, rfl, rfl, _, _, op_shl, powOk_of hc, fun F => .int _⟩
      · simp only [dShl, if_neg hc] at e
        cases e
    | _ => cases e
  | _ => cases b <;> cases e
theorem op2_xor : Op2 X (binaryOp .BitXor) dXor := op2_int fun a b d e => by
  cases a <;> cases b <;> first | (cases e; done) | skip
  cases e
  exact ⟨_, _, rfl, rfl, rfl, _, _, op0_I op_xor, trivial, fun F => .int _⟩
theorem op2_le : Op2 X (compareOp .LtE) dLe := op2_int fun a b d e => by
  cases a <;> cases b <;> first | (cases e; done) | skip
  cases e
  exact ⟨_, _, rfl, rfl, rfl, _, _, op0_I op_le, trivial, fun F => .bl _⟩
theorem op2_gt : Op2 X (compareOp .Gt) dGt := op2_int fun a b d e => by
  cases a <;> cases b <;> first | (cases e; done) | skip
  cases e
  exact ⟨_, _, rfl, rfl, rfl, _, _, op0_I op_gt, trivial, fun F => .bl _⟩
theorem op2_ge : Op2 X (compareOp .GtE) dGe := op2_int fun a b d e => by
  cases a <;> cases b <;> first | (cases e; done) | skip
  cases e
  exact ⟨_, _, rfl, rfl, rfl, _, _, op0_I op_ge, trivial, fun F => .bl _⟩
theorem un1_neg : UnR X (unaryOp .USub) (r1 dNeg) := by
  intro pins s σ H x v Q I rx h
  obtain ⟨F, d1, d, sF, r1, e, q⟩ := h
  cases d1 with
  | int i =>
    cases e
    exact un_neg pins s σ H x v Q I rx ⟨i, r1.int, fin_v sF (.int _) rfl q⟩
  | _ => cases e
theorem op2_eq (hu : X.A.units + 64 < cLine) : Op2 X (compareOp .Eq) dEq := by
  intro pins s σ H x y v u Q I rx ry h
  obtain ⟨F, d1, d2, d, sF, r1, r2, e, q⟩ := h
  unfold dEq at e
  by_cases hc : (d1.ok && d2.ok) = true
  · rw [if_pos hc] at e
    cases e
    obtain ⟨h1, h2⟩ := Bool.and_eq_true_iff.mp hc
    refine op_eqD hu pins s σ H x y v u Q I rx ry ⟨_, _, r1.dp sF h1, r2.dp sF h2, shaped_py h1, shaped_py h2, ?_⟩
    rw [eqv_py 16 _ _ h1 h2]
    exact fin_v sF (.bl _) rfl q
  · rw [if_neg hc] at e
    cases e
theorem op2_ne (hu : X.A.units + 64 < cLine) : Op2 X (compareOp .NotEq) dNe := by
  intro pins s σ H x y v u Q I rx ry h
  obtain ⟨F, d1, d2, d, sF, r1, r2, e, q⟩ := h
  unfold dNe at e
  by_cases hc : (d1.ok && d2.ok) = true
  · rw [if_pos hc] at e
    cases e
    obtain ⟨h1, h2⟩ := Bool.and_eq_true_iff.mp hc
    refine op_neD hu pins s σ H x y v u Q I rx ry ⟨_, _, r1.dp sF h1, r2.dp sF h2, shaped_py h1, shaped_py h2, ?_⟩
    rw [eqv_py 16 _ _ h1 h2]
    exact fin_v sF (.bl _) rfl q
  · rw [if_neg hc] at e
    cases e
theorem lt_data (hu : X.A.units + 64 < cLine) {pins : List (Addr × Obj)} {s : Shared} {σ : St} {H F : Hp} {x y : V} {v u : Value} {d1 d2 : D} {Q : VK} (I : Inv X pins σ H s) (rx : RelV x v) (ry : RelV y u) (sF : Same F H) (r1 : RB F H x d1) (r2 : RB F H y d2)
    (hn : d1.isNon = false) (hc : (d1.ok && d2.ok && D.alk d1 d2) = true) (q : Q (.bl (D.lt d1 d2)) H) : wpAny (model X.prog X.w) X.A (compareOp .Lt v u) (EP X pins σ Q) X.xe s := by
  simp only [Bool.and_eq_true] at hc
  obtain ⟨⟨h1, h2⟩, h3⟩ := hc
  obtain ⟨as, q1⟩ := Dp.reads I _ x v (r1.dp sF h1) rx
  obtain ⟨bs, q2⟩ := Dp.reads I _ y u (r2.dp sF h2) ry
  have l1 := (lay_py 16 d1 h1).2
  have l2 := (lay_py 16 d2 h2).2
  have nn : d1.py ≠ .none := by
    cases d1 <;> simp [D.py, D.isNon] at hn ⊢
  refine PySem.W.rcLt_alike d1.py d2.py X.A s v u as bs q1 q2 (alk_py 16 d1 d2 h1 h3) nn (by omega) X.prog X.w X.xe _ ?_
  rw [lt_py 16 d1 d2 h1 h2 h3]
  exact ⟨.bl _, H, I, rfl, q⟩
theorem op2_lt (hu : X.A.units + 64 < cLine) : Op2 X (compareOp .Lt) dLt := by
  intro pins s σ H x y v u Q I rx ry h
  obtain ⟨F, d1, d2, d, sF, r1, r2, e, q⟩ := h
  have gen : ∀ {d1 d2 d : D}, RB F H x d1 → RB F H y d2 → d1.isNon = false → (if (d1.ok && d2.ok && D.alk d1 d2) = true then some (D.bl (D.lt d1 d2)) else none) = some d → (∀ v F' H', Up F H F' H' → RN H F' H' v d → Q v H') → wpAny (model X.prog X.w) X.A (compareOp .Lt v u) (EP X pins σ Q) X.xe s := by
    intro d1 d2 d r1 r2 hn e q
    by_cases hc : (d1.ok && d2.ok && D.alk d1 d2) = true
    · rw [if_pos hc] at e
      cases e
      exact lt_data hu I rx ry sF r1 r2 hn hc (fin_v sF (.bl _) rfl q)
    · rw [if_neg hc] at e
      cases e
  cases d1 with
  | non => cases e
  | int a =>
    cases d2 with
    | int b =>
      cases e
      exact op_lt pins s σ H x y v u Q I rx ry ⟨a, b, r1.int, r2.int, fin_v sF (.bl _) rfl q⟩
    | _ => exact gen r1 r2 rfl e q
  | _ => exact gen r1 r2 rfl e q
theorem isNon_rep {F : Hp} {v : V} {d : D} (r : Rep F v d) : decide (v = .non) = d.isNon := by
  cases r with
  | ref _ o => cases o <;> rfl
  | _ => rfl
theorem isNon_rb {F H : Hp} {v : V} {d : D} (r : RB F H v d) : decide (v = .non) = d.isNon := by
  cases r with
  | rep r => exact isNon_rep r
  | own p o e n h r m =>
    subst e
    cases r <;> rfl
theorem op2_is : Op2 X (compareOp .Is) dIs := by
  intro pins s σ H x y v u Q I rx ry h
  obtain ⟨F, d1, d2, d, sF, r1, r2, e, q⟩ := h
  cases d2 with
  | non =>
    have e : some (D.bl d1.isNon) = some d := by
      cases d1 <;> exact e
    cases e
    refine op_isN pins s σ H x y v u Q I rx ry ⟨r2.non, ?_⟩
    rw [isNon_rb r1]
    exact fin_v sF (.bl _) rfl q
  | bl b =>
    cases d1 with
    | bl a =>
      cases e
      exact op_isBl pins s σ H x y v u Q I rx ry ⟨a, b, r1.bl, r2.bl, fin_v sF (.bl _) rfl q⟩
    | _ => cases e
  | _ => cases d1 <;> cases e
theorem op2_isN : Op2 X (compareOp .IsNot) dIsN := by
  intro pins s σ H x y v u Q I rx ry h
  obtain ⟨F, d1, d2, d, sF, r1, r2, e, q⟩ := h
  cases d2 with
  | non =>
    have e : some (D.bl !d1.isNon) = some d := by
      cases d1 <;> exact e
    cases e
    refine op_notN pins s σ H x y v u Q I rx ry ⟨r2.non, ?_⟩
    rw [isNon_rb r1]
    exact fin_v sF (.bl _) rfl q
  | bl b =>
    cases d1 with
    | bl a =>
      cases e
      exact op_notBl pins s σ H x y v u Q I rx ry ⟨a, b, r1.bl, r2.bl, fin_v sF (.bl _) rfl q⟩
    | _ => cases e
  | _ => cases d1 <;> cases e

/-! ### dicts -/
theorem eqv_keyD (a b : Key) : D.eqv (keyD a) (keyD b) = decide (a = b) := by
  cases a with
  | inl i =>
    cases b with
    | inl j =>
      simp only [keyD, D.eqv]
      by_cases h : i = j
      · subst h
        simp
      · rw [decide_eq_false h, decide_eq_false fun z => h (Sum.inl.inj z)]
    | inr y =>
      simp only [keyD, D.eqv]
      exact (decide_eq_false fun z => nomatch z).symm
  | inr x =>
    cases b with
    | inl j =>
      simp only [keyD, D.eqv]
      exact (decide_eq_false fun z => nomatch z).symm
    | inr y =>
      simp only [keyD, D.eqv]
      rw [← dec_str]
      by_cases h : x = y
      · subst h
        simp
      · rw [decide_eq_false fun z => h (V.str.inj z), decide_eq_false fun z => h (Sum.inr.inj z)]
theorem eqvL_keys : ∀ a b : List Key, D.eqvL (a.map keyD) (b.map keyD) = decide (a = b)
  | [], [] => by simp [D.eqvL]
  | [], _ :: _ => by simp [D.eqvL]
  | _ :: _, [] => by simp [D.eqvL]
  | x :: xs, y :: ys => by
    simp only [List.map_cons, D.eqvL]
    rw [eqv_keyD, eqvL_keys xs ys]
    by_cases h : x = y <;> by_cases h' : xs = ys <;> simp [h, h']
theorem eqv_keysD (a b : List Key) : D.eqv (keysD a) (keysD b) = decide (a = b) := by
  simp only [keysD, D.eqv]
  exact eqvL_keys a b
theorem find_cons (p : D × D) (es : List (D × D)) (k : D) : dFind (p :: es) k = if D.eqv p.1 k = true then some p.2 else dFind es k := by
  unfold dFind
  rw [List.find?_cons]
  cases D.eqv p.1 k <;> rfl
/-- the look-up on both sides -/
def ROpt (F : Hp) : Option V → Option D → Prop
  | some v, some d => Rep F v d
  | none, none => True
  | _, _ => False
theorem RepK.find {F : Hp} (k : Key) : ∀ {kvs : List (Key × V)} {es : List (D × D)}, RepK F kvs es → ROpt F (valV kvs k) (dFind es (keyD k))
  | _, _, .nil => trivial
  | _, _, .cons (k := j) r t => by
    rw [find_cons]
    have e := eqv_keyD j k
    dsimp only
    rw [e]
    by_cases h : j = k
    · rw [decide_eq_true h, if_pos rfl, valV_pos (by exact h)]
      exact r
    · rw [decide_eq_false h, if_neg Bool.false_ne_true, valV_neg (by exact h)]
      exact t.find k
theorem RepT.find {F : Hp} (k : List Key) : ∀ {kvs : List (List Key × V)} {es : List (D × D)}, RepT F kvs es → ROpt F (valV kvs k) (dFind es (keysD k))
  | _, _, .nil => trivial
  | _, _, .cons (k := j) r t => by
    rw [find_cons]
    have e := eqv_keysD j k
    dsimp only
    rw [e]
    by_cases h : j = k
    · rw [decide_eq_true h, if_pos rfl, valV_pos (by exact h)]
      exact r
    · rw [decide_eq_false h, if_neg Bool.false_ne_true, valV_neg (by exact h)]
      exact t.find k
theorem RepK.map {F : Hp} (k : Key) {v : V} {d : D} (r : Rep F v d) : ∀ {kvs : List (Key × V)} {es : List (D × D)}, RepK F kvs es → RepK F (kvs.map fun kv => if kv.1 = k then (kv.1, v) else kv) (es.map fun e => if D.eqv e.1 (keyD k) = true then (e.1, d) else e) ∧ (kvs.any fun kv => decide (kv.1 = k)) = es.any fun e => D.eqv e.1 (keyD k)
  | _, _, .nil => ⟨.nil, rfl⟩
  | _, _, .cons (k := j) q t => by
    obtain ⟨h1, h2⟩ := t.map k r
    rw [List.map_cons, List.map_cons, List.any_cons, List.any_cons]
    dsimp only
    rw [eqv_keyD, h2]
    refine ⟨?_, rfl⟩
    by_cases h : j = k
    · rw [if_pos h, decide_eq_true h, if_pos rfl]
      exact .cons r h1
    · rw [if_neg h, decide_eq_false h, if_neg Bool.false_ne_true]
      exact .cons q h1
theorem RepK.snoc {F : Hp} (k : Key) {v : V} {d : D} (r : Rep F v d) : ∀ {kvs : List (Key × V)} {es : List (D × D)}, RepK F kvs es → RepK F (kvs ++ [(k, v)]) (es ++ [(keyD k, d)])
  | _, _, .nil => .cons r .nil
  | _, _, .cons q t => .cons q (t.snoc k r)
theorem RepK.put {F : Hp} (k : Key) {v : V} {d : D} (r : Rep F v d) {kvs : List (Key × V)} {es : List (D × D)} (h : RepK F kvs es) : RepK F (putK kvs k v) (dPut es (keyD k) d) := by
  obtain ⟨h1, h2⟩ := h.map k r
  unfold putK dPut
  rw [h2]
  by_cases hc : (es.any fun e => D.eqv e.1 (keyD k)) = true
  · rw [if_pos hc, if_pos hc]
    exact h1
  · rw [if_neg hc, if_neg hc]
    exact h.snoc k r
theorem RepK.length {F : Hp} : ∀ {kvs : List (Key × V)} {es : List (D × D)}, RepK F kvs es → kvs.length = es.length
  | _, _, .nil => rfl
  | _, _, .cons _ t => congrArg (· + 1) t.length
theorem RepT.map {F : Hp} (k : List Key) {v : V} {d : D} (r : Rep F v d) : ∀ {kvs : List (List Key × V)} {es : List (D × D)}, RepT F kvs es → RepT F (kvs.map fun kv => if kv.1 = k then (kv.1, v) else kv) (es.map fun e => if D.eqv e.1 (keysD k) = true then (e.1, d) else e) ∧ (kvs.any fun kv => decide (kv.1 = k)) = es.any fun e => D.eqv e.1 (keysD k)
  | _, _, .nil => ⟨.nil, rfl⟩
  | _, _, .cons (k := j) q t => by
    obtain ⟨h1, h2⟩ := t.map k r
    rw [List.map_cons, List.map_cons, List.any_cons, List.any_cons]
    dsimp only
    rw [eqv_keysD, h2]
    refine ⟨?_, rfl⟩
    by_cases h : j = k
    · rw [if_pos h, decide_eq_true h, if_pos rfl]
      exact .cons r h1
    · rw [if_neg h, decide_eq_false h, if_neg Bool.false_ne_true]
      exact .cons q h1
theorem RepT.snoc {F : Hp} (k : List Key) {v : V} {d : D} (r : Rep F v d) : ∀ {kvs : List (List Key × V)} {es : List (D × D)}, RepT F kvs es → RepT F (kvs ++ [(k, v)]) (es ++ [(keysD k, d)])
  | _, _, .nil => .cons r .nil
  | _, _, .cons q t => .cons q (t.snoc k r)
theorem RepT.put {F : Hp} (k : List Key) {v : V} {d : D} (r : Rep F v d) {kvs : List (List Key × V)} {es : List (D × D)} (h : RepT F kvs es) : RepT F (putK kvs k v) (dPut es (keysD k) d) := by
  obtain ⟨h1, h2⟩ := h.map k r
  unfold putK dPut
  rw [h2]
  by_cases hc : (es.any fun e => D.eqv e.1 (keysD k)) = true
  · rw [if_pos hc, if_pos hc]
    exact h1
  · rw [if_neg hc, if_neg hc]
    exact h.snoc k r
theorem RepT.length {F : Hp} : ∀ {kvs : List (List Key × V)} {es : List (D × D)}, RepT F kvs es → kvs.length = es.length
  | _, _, .nil => rfl
  | _, _, .cons _ t => congrArg (· + 1) t.length
/-- the look-up, on the heap -/
theorem dget_of {F H : Hp} {x y : V} {t : Bool} {es : List (D × D)} {k : D} (sF : Same F H) (r1 : RB F H x (.dic t es)) (r2 : RB F H y k) (hk : keyOk t k = true) : ∃ a o, x = .ref a ∧ DGet H a y o ∧ ROpt F o (dFind es k) ∧ IsD H a := by
  cases t with
  | false =>
    obtain ⟨a, kvs, rfl, h, q⟩ := r1.dicK sF
    obtain ⟨kk, e⟩ := Option.isSome_iff_exists.mp (show k.key?.isSome = true from hk)
    cases key_eq e
    refine ⟨a, _, rfl, ?_, q.find kk, .inl ⟨kvs, .inl h⟩⟩
    rw [r2.key]
    exact .k h
  | true =>
    obtain ⟨a, kvs, rfl, h, q⟩ := r1.dicT sF
    obtain ⟨kk, e⟩ := Option.isSome_iff_exists.mp (show k.keys?.isSome = true from hk)
    cases keys_eq e
    obtain ⟨b, rfl, hb⟩ := r2.keys sF
    exact ⟨a, _, rfl, .t h hb, q.find kk, .inr ⟨kvs, .inl h⟩⟩
theorem ROpt.some_eq {F : Hp} {o : Option V} {d : D} {od : Option D} (h : ROpt F o od) (e : od = some d) : ∃ v, o = some v ∧ Rep F v d := by
  subst e
  cases o with
  | none => exact h.elim
  | some v => exact ⟨v, rfl, h⟩
theorem ROpt.isSome {F : Hp} {o : Option V} {od : Option D} (h : ROpt F o od) : o.isSome = od.isSome := by
  cases o <;> cases od <;> first | rfl | exact h.elim

/-! ### in -/
theorem ok_lst {ys : List D} (h : D.ok (.lst ys) = true) : ∀ y ∈ ys, y.ok = true := by
  have up : ∀ (n m : Nat) (d : D), n ≤ m → d.fl n = true → d.fl m = true := by
    intro n
    induction n with
    | zero =>
      intro m d _ h
      cases d with
      | tup xs => obtain ⟨m, e, _⟩ := fl_tup h; cases e
      | lst xs => obtain ⟨m, e, _⟩ := fl_lst h; cases e
      | dic _ _ => exact (fl_dic h).elim
      | set _ => exact (fl_set h).elim
      | scr _ => exact (fl_scr h).elim
      | str x => cases m <;> simpa [D.fl] using fl_str h
      | _ => cases m <;> rfl
    | succ n ih =>
      intro m d hm h
      cases m with
      | zero => omega
      | succ m =>
        cases d with
        | tup xs =>
          simp only [D.fl, List.all_eq_true] at h ⊢
          exact fun x hx => ih m x (by omega) (h x hx)
        | lst xs =>
          simp only [D.fl, List.all_eq_true] at h ⊢
          exact fun x hx => ih m x (by omega) (h x hx)
        | dic _ _ => exact (fl_dic h).elim
        | set _ => exact (fl_set h).elim
        | scr _ => exact (fl_scr h).elim
        | str x => simpa [D.fl] using fl_str h
        | _ => rfl
  obtain ⟨m, e, hx⟩ := fl_lst h
  exact fun y hy => up m 16 y (by omega) (hx y hy)
theorem any_py {x : D} {ys : List D} (hx : x.ok = true) (hy : ∀ y ∈ ys, y.ok = true) : ((D.pyL ys).any fun z => PyData.eqv z x.py) = ys.any fun y => D.eqv y x := by
  rw [pyL_map, List.any_map]
  induction ys with
  | nil => rfl
  | cons y ys ih =>
    rw [List.any_cons, List.any_cons, ih fun z hz => hy z (List.mem_cons_of_mem _ hz)]
    show (PyData.eqv y.py x.py || _) = _
    rw [eqv_py 16 y x (hy y List.mem_cons_self) hx]
theorem ok_tl {ys : List D} (h : D.ok (.tup ys) = true) : D.ok (.lst ys) = true := h
theorem in_seq (hu : X.A.units + 65 < cLine) {pins : List (Addr × Obj)} {s : Shared} {σ : St} {H F : Hp} {x y : V} {v u : Value} {d1 : D} {ys : List D} {Q : VK} (b neg : Bool) (I : Inv X pins σ H s) (rx : RelV x v) (ry : RelV y u) (sF : Same F H) (r1 : RB F H x d1)
    (r2 : RB F H y (if b = true then .tup ys else .lst ys)) (h1 : d1.ok = true) (h2 : D.ok (.lst ys) = true) (q : Q (.bl (if neg = true then !(ys.any fun y => D.eqv y d1) else (ys.any fun y => D.eqv y d1))) H) :
    wpAny (model X.prog X.w) X.A (compareOp (if neg = true then .NotIn else .In) v u) (EP X pins σ Q) X.xe s := by
  have ht : D.ok (.tup ys) = true := h2
  obtain ⟨as, q1⟩ := Dp.reads I _ x v (r1.dp sF h1) rx
  have l1 := lay_py 16 d1 h1
  have l2 := lay_py 16 (.lst ys) h2
  have l3 : PyData.canLayAll0 (D.pyL ys) = true := by simpa only [D.py, PyData.canLay0] using l2.1
  have l4 : PyData.depthAll (D.pyL ys) + 1 ≤ 16 := by simpa only [D.py, PyData.depth] using l2.2
  have en := any_py h1 (ok_lst h2)
  rw [← en] at q
  cases b with
  | true =>
    rw [if_pos rfl] at r2
    obtain ⟨bs, q2⟩ := Dp.reads I _ y u (r2.dp sF ht) ry
    rw [D.py] at q2
    cases neg with
    | true => exact SeqAt.notIn_tuple_reads q2 q1 l3 l1.1 (by omega) ⟨.bl _, H, I, rfl, q⟩
    | false => exact SeqAt.in_tuple_reads q2 q1 l3 l1.1 (by omega) ⟨.bl _, H, I, rfl, q⟩
  | false =>
    rw [if_neg Bool.false_ne_true] at r2
    obtain ⟨bs, q2⟩ := Dp.reads I _ y u (r2.dp sF h2) ry
    rw [D.py] at q2
    cases neg with
    | true => exact SeqAt.notIn_list_reads q2 q1 l3 l1.1 (by omega) ⟨.bl _, H, I, rfl, q⟩
    | false => exact SeqAt.in_list_reads q2 q1 l3 l1.1 (by omega) ⟨.bl _, H, I, rfl, q⟩
theorem op2_in (hu : X.A.units + 65 < cLine) : Op2 X (compareOp .In) dIn := by
  intro pins s σ H x y v u Q I rx ry h
  obtain ⟨F, d1, d2, d, sF, r1, r2, e, q⟩ := h
  cases d2 with
  | lst ys =>
    by_cases hc : (d1.ok && D.ok (.lst ys)) = true
    · simp only [dIn, if_pos hc] at e
      cases e
      obtain ⟨h1, h2⟩ := Bool.and_eq_true_iff.mp hc
      exact in_seq hu false false I rx ry sF r1 r2 h1 h2 (fin_v sF (.bl _) rfl q)
    · simp only [dIn, if_neg hc] at e
      cases e
  | tup ys =>
    by_cases hc : (d1.ok && D.ok (.tup ys)) = true
    · simp only [dIn, if_pos hc] at e
      cases e
      obtain ⟨h1, h2⟩ := Bool.and_eq_true_iff.mp hc
      exact in_seq hu true false I rx ry sF r1 r2 h1 h2 (fin_v sF (.bl _) rfl q)
    · simp only [dIn, if_neg hc] at e
      cases e
  | dic t es =>
    by_cases hc : keyOk t d1 = true
    · simp only [dIn, if_pos hc] at e
      cases e
      obtain ⟨a, o, rfl, g, ro, _⟩ := dget_of sF r2 r1 hc
      cases ry
      refine d_in (by omega) I g rx fun s' I' => ⟨.bl _, H, I', rfl, ?_⟩
      rw [ro.isSome]
      exact fin_v sF (.bl _) rfl q
    · simp only [dIn, if_neg hc] at e
      cases e
  | _ => cases e
theorem op2_nin (hu : X.A.units + 65 < cLine) : Op2 X (compareOp .NotIn) dNIn := by
  intro pins s σ H x y v u Q I rx ry h
  obtain ⟨F, d1, d2, d, sF, r1, r2, e, q⟩ := h
  cases d2 with
  | lst ys =>
    by_cases hc : (d1.ok && D.ok (.lst ys)) = true
    · simp only [dNIn, if_pos hc] at e
      cases e
      obtain ⟨h1, h2⟩ := Bool.and_eq_true_iff.mp hc
      exact in_seq hu false true I rx ry sF r1 r2 h1 h2 (fin_v sF (.bl _) rfl q)
    · simp only [dNIn, if_neg hc] at e
      cases e
  | tup ys =>
    by_cases hc : (d1.ok && D.ok (.tup ys)) = true
    · simp only [dNIn, if_pos hc] at e
      cases e
      obtain ⟨h1, h2⟩ := Bool.and_eq_true_iff.mp hc
      exact in_seq hu true true I rx ry sF r1 r2 h1 h2 (fin_v sF (.bl _) rfl q)
    · simp only [dNIn, if_neg hc] at e
      cases e
  | dic t es =>
    by_cases hc : keyOk t d1 = true
    · simp only [dNIn, if_pos hc] at e
      cases e
      obtain ⟨a, o, rfl, g, ro, _⟩ := dget_of sF r2 r1 hc
      cases ry
      refine d_notIn (by omega) I g rx fun s' I' => ⟨.bl _, H, I', rfl, ?_⟩
      rw [ro.isSome]
      exact fin_v sF (.bl _) rfl q
    · simp only [dNIn, if_neg hc] at e
      cases e
  | _ => cases e

/-! ### subscripts -/
theorem atI_rep {F : Hp} {vs : List V} {ds : List D} {i : Int} {d : D} (r : RepL F vs ds) (h : atI ds i = some d) : ∃ v, atI vs i = some v ∧ Rep F v d := by
  unfold atI at h ⊢
  rw [r.length]
  cases e : ixN ds.length i with
  | none => rw [e] at h; cases h
  | some j =>
    rw [e] at h
    exact r.get h
/-- the answer is a frozen value as it stands -/
theorem fin_s {F H : Hp} {v : V} {d : D} {Q : VK} (s : Same F H) (r : Rep F v d) (q : ∀ v F' H', Up F H F' H' → Rep F' v d → Q v H') : Q v H := q v F H (Up.refl s) r
theorem atI_ints {ns : List Int} {i : Int} : atI (ns.map V.int) i = (atI ns i).map V.int := by
  unfold atI
  rw [List.length_map]
  cases ixN ns.length i with
  | none => rfl
  | some j => simp
theorem ix_all (hu : X.A.units + 1 < cLine) : IxR X (fun x y H Q => ∃ F d1 d2 d, Same F H ∧ RB F H x d1 ∧ RB F H y d2 ∧ dIx d1 d2 = some d ∧ ∀ v F' H', Up F H F' H' → Rep F' v d → Q v H') := by
  intro value slice pins s σ H x y v u Q I rx ry h hs
  obtain ⟨F, d1, d2, d, sF, r1, r2, e, q⟩ := h
  cases d1 with
  | lst ys =>
    cases d2 with
    | int i =>
      obtain ⟨a, vs, rfl, h, r⟩ := r1.lst sF
      obtain ⟨z, h1, h2⟩ := atI_rep r (show atI ys i = some d from e)
      exact ix_list value slice pins s σ H _ y v u Q I rx ry ⟨a, vs, i, z, rfl, r2.int, .inl (.inl h), h1, fin_s sF h2 q⟩ hs
    | _ => cases e
  | tup ys =>
    cases d2 with
    | int i =>
      obtain ⟨a, vs, rfl, h, r⟩ := r1.tup
      obtain ⟨z, h1, h2⟩ := atI_rep r (show atI ys i = some d from e)
      exact ix_tup value slice pins s σ H _ y v u Q I rx ry ⟨a, vs, i, z, rfl, r2.int, .inl (.inl (sF _ _ h)), h1, fin_s sF h2 q⟩ hs
    | _ => cases e
  | scr ns =>
    cases d2 with
    | int i =>
      obtain ⟨a, ob, rfl, h⟩ := r1.scr
      obtain ⟨k, h1, h2⟩ := Option.map_eq_some_iff.mp (show (atI ns i).map D.int = some d from e)
      subst h2
      refine ix_list value slice pins s σ H _ y v u Q I rx ry ⟨a, ns.map V.int, i, .int k, rfl, r2.int, .inl (.inr ⟨ob, sF _ _ h⟩), ?_, fin_s sF (.int _) q⟩ hs
      rw [atI_ints, h1]
      rfl
    | _ => cases e
  | str z =>
    cases d2 with
    | int i =>
      have e : (if z.length ≤ sizeLine then (atI z.cps.toList i).map fun c => D.str ⟨#[c]⟩ else none) = some d := e
      by_cases hl : z.length ≤ sizeLine
      · rw [if_pos hl] at e
        obtain ⟨c, h1, h2⟩ := Option.map_eq_some_iff.mp e
        subst h2
        exact ix_str value slice pins s σ H x y v u Q I rx ry ⟨z, i, c, r1.str, r2.int, hl, h1, fin_s sF (.str _) q⟩ hs
      · rw [if_neg hl] at e
        cases e
    | _ => cases e
  | dic t es =>
    have e : (if keyOk t d2 = true then dFind es d2 else none) = some d := e
    by_cases hc : keyOk t d2 = true
    · rw [if_pos hc] at e
      obtain ⟨a, o, rfl, g, ro, _⟩ := dget_of sF r1 r2 hc
      obtain ⟨z, rfl, rz⟩ := ro.some_eq e
      cases rx
      exact PyProof.Rows.tail_any (dict_typeIs I g) PySem.F.slot_dict_getitem.lookup (d_getItem hu I g ry fun w' s3 I3 rw' => ⟨z, H, I3, rw', fin_s sF rz q⟩) hs
    · rw [if_neg hc] at e
      cases e
  | _ => cases e
/-- no slice -/
def notSl : Expr → Bool
  | .Slice _ _ _ _ => false
  | _ => true
theorem plain_ix {b : Expr} (h : notSl b = true) : PlainIx b := by
  intro o i
  cases b <;> first | rfl | (cases h)
theorem pIx {a b : Expr} {f g : Ex} {pos : Pos} (hu : X.A.units + 1 < cLine) (ha : PE X a (eB f)) (hb : PE X b (eB g)) (hs : notSl b = true) : PE X (.Subscript a b pos) (eS (ex2 dIx f g)) := (pe_ix (ix_all hu) ha hb (plain_ix hs)).imp fun σ H Q ⟨F0, H0, F, env, d, r, e, q⟩ => by
  simp only [ex2, Option.bind_eq_some_iff] at e
  obtain ⟨d1, h1, d2, h2, h3⟩ := e
  exact ⟨F0, H0, F, env, d1, r, h1, fun v F' H' u p => ⟨F0, H0, F', env, d2, r.mono u, h2, fun w F'' H'' u' p' => ⟨F'', d1, d2, d, u'.s, p.mono u', p', h3, fun z F3 H3 u3 p3 => q z F3 H3 (u.trans (u'.trans u3)) p3⟩⟩⟩
end
end Sw

/-! Sw5: statements. -/
namespace Sw
open PySem L2

inductive Fl where
  | nx (e : Env) | ret (d : D) | bk (e : Env) | ct (e : Env)
abbrev Fx := Env → Option Fl
def Post (F0 H0 F : Hp) (E : Ends) : Fl → Prop
  | .nx e => ∀ σ' F' H', Same F F' → ER F0 H0 F' H' σ' e → E.nx σ' H'
  | .bk e => ∀ σ' F' H', Same F F' → ER F0 H0 F' H' σ' e → E.bk σ' H'
  | .ct e => ∀ σ' F' H', Same F F' → ER F0 H0 F' H' σ' e → E.ct σ' H'
  | .ret d => ∀ v F' H', Up F0 H0 F' H' → Rep F' v d → E.rt v H'
theorem Post.mono {F0 H0 F F' : Hp} {E : Ends} {fl : Fl} (p : Post F0 H0 F E fl) (s : Same F F') : Post F0 H0 F' E fl := by
  cases fl with
  | nx e => exact fun σ F'' H'' s' r => p σ F'' H'' (s.trans s') r
  | bk e => exact fun σ F'' H'' s' r => p σ F'' H'' (s.trans s') r
  | ct e => exact fun σ F'' H'' s' r => p σ F'' H'' (s.trans s') r
  | ret d => exact p
def sF (g : Fx) : TS := fun E σ H => ∃ F0 H0 F env fl, ER F0 H0 F H σ env ∧ g env = some fl ∧ Post F0 H0 F E fl

/-! ### the frame changed -/
def mkOwn (d : D) : Slot := if d.mut = true then .own d else .val d
theorem get_set {α : Type} {l : List α} {i j : Nat} {a b : α} (h : (l.set i a)[j]? = some b) : (i = j ∧ b = a ∧ i < l.length) ∨ (i ≠ j ∧ l[j]? = some b) := by
  by_cases e : i = j
  · subst e
    by_cases hl : i < l.length
    · rw [List.getElem?_set_self hl] at h
      exact .inl ⟨rfl, (Option.some.inj h).symm, hl⟩
    · rw [List.getElem?_eq_none (by rw [List.length_set]; omega)] at h
      cases h
  · rw [List.getElem?_set_ne e] at h
    exact .inr ⟨e, h⟩
section
variable {F0 H0 F H : Hp} {σ : St} {env : Env}
theorem ER.setVal {i : Nat} {v : V} {d : D} (r : ER F0 H0 F H σ env) (p : Rep F v d) : ER F0 H0 F H (σ.set i (some v)) (env.set i (.val d)) where
  up := r.up
  len := by rw [List.length_set, List.length_set, r.len]
  val := fun j e h => by
    rcases get_set h with ⟨rfl, e1, hl⟩ | ⟨hne, h⟩
    · cases e1
      exact ⟨v, List.getElem?_set_self (by rw [r.len]; exact hl), p⟩
    · obtain ⟨w, h1, h2⟩ := r.val j e h
      exact ⟨w, by rw [List.getElem?_set_ne hne]; exact h1, h2⟩
  own := fun j e h => by
    rcases get_set h with ⟨rfl, e1, hl⟩ | ⟨hne, h⟩
    · cases e1
    · obtain ⟨q, o, h1, h2⟩ := r.own j e h
      exact ⟨q, o, by rw [List.getElem?_set_ne hne]; exact h1, h2⟩
  sep := fun j k d' e' q h1 h2 h3 h4 => by
    rcases get_set h1 with ⟨rfl, e1, hl⟩ | ⟨hne, h1⟩
    · cases e1
    · rcases get_set h2 with ⟨rfl, e1, hl⟩ | ⟨hne', h2⟩
      · cases e1
      · rw [List.getElem?_set_ne hne] at h3
        rw [List.getElem?_set_ne hne'] at h4
        exact r.sep j k d' e' q h1 h2 h3 h4
theorem ER.setOwn {i : Nat} {p : Addr} {o : HO} {d : D} (r : ER F0 H0 F H σ env) (h1 : F p = none) (h2 : H0 p = none) (h3 : H p = some o) (h4 : OR F o d) (h5 : d.mut = true)
    (h6 : ∀ j e, j ≠ i → env[j]? = some (.own e) → σ[j]? ≠ some (some (.ref p))) : ER F0 H0 F H (σ.set i (some (.ref p))) (env.set i (.own d)) where
  up := r.up
  len := by rw [List.length_set, List.length_set, r.len]
  val := fun j e h => by
    rcases get_set h with ⟨rfl, e1, hl⟩ | ⟨hne, h⟩
    · cases e1
    · obtain ⟨w, z1, z2⟩ := r.val j e h
      exact ⟨w, by rw [List.getElem?_set_ne hne]; exact z1, z2⟩
  own := fun j e h => by
    rcases get_set h with ⟨rfl, e1, hl⟩ | ⟨hne, h⟩
    · cases e1
      exact ⟨p, o, List.getElem?_set_self (by rw [r.len]; exact hl), h1, h2, h3, h4, h5⟩
    · obtain ⟨q, o, z1, z2⟩ := r.own j e h
      exact ⟨q, o, by rw [List.getElem?_set_ne hne]; exact z1, z2⟩
  sep := fun j k d' e' q z1 z2 z3 z4 => by
    rcases get_set z1 with ⟨rfl, e1, hl⟩ | ⟨hne, z1⟩
    · rcases get_set z2 with ⟨rfl, e2, hl'⟩ | ⟨hne', z2⟩
      · rfl
      · rw [List.getElem?_set_self (by rw [r.len]; exact hl)] at z3
        rw [List.getElem?_set_ne hne'] at z4
        cases z3
        exact absurd z4 (h6 k e' (Ne.symm hne') z2)
    · rw [List.getElem?_set_ne hne] at z3
      rcases get_set z2 with ⟨rfl, e2, hl'⟩ | ⟨hne', z2⟩
      · rw [List.getElem?_set_self (by rw [r.len]; exact hl')] at z4
        cases z4
        exact absurd z3 (h6 j d' (Ne.symm hne) z1)
      · rw [List.getElem?_set_ne hne'] at z4
        exact r.sep j k d' e' q z1 z2 z3 z4
/-- a value just made is laid into a slot -/
theorem ER.setNew {F1 H1 : Hp} {i : Nat} {v : V} {d : D} (r : ER F0 H0 F H σ env) (u : Up F H F1 H1) (p : RN H F1 H1 v d) : ER F0 H0 F1 H1 (σ.set i (some v)) (env.set i (mkOwn d)) := by
  cases p with
  | rep p m =>
    unfold mkOwn
    rw [m, if_neg Bool.false_ne_true]
    exact (r.mono u).setVal p
  | own p o e w n h q m =>
    subst e
    unfold mkOwn
    rw [m, if_pos rfl]
    refine (r.mono u).setOwn n (r.up.h.free w) h q m fun j e hj he hs => ?_
    obtain ⟨p', o', z1, z2, z3, z4, _⟩ := r.own j e he
    rw [z1] at hs
    cases hs
    rw [w] at z4
    cases z4
/-- the object of a slot is changed -/
theorem ER.updOwn {i : Nat} {p : Addr} {d0 d : D} {o : HO} (r : ER F0 H0 F H σ env) (h1 : env[i]? = some (.own d0)) (h2 : σ[i]? = some (some (.ref p))) (h4 : OR F o d) (h5 : d.mut = true) : ER F0 H0 F (upd H p o) σ (env.set i (.own d)) := by
  obtain ⟨p', o', z1, z2, z3, z4, z5, z6⟩ := r.own i d0 h1
  rw [h2] at z1
  cases z1
  have keep : ∀ b x, b ≠ p → H b = some x → upd H p o b = some x := fun b x hb e => by
    rw [upd_ne hb]
    exact e
  refine ⟨⟨r.up.f, fun b x e => ?_, r.up.n, fun b x e => ?_⟩, by rw [List.length_set, r.len], fun j e h => ?_, fun j e h => ?_, fun j k d' e' q y1 y2 y3 y4 => ?_⟩
  · exact keep b x (ne_of_none e z3) (r.up.h b x e)
  · exact keep b x (ne_of_none e z2) (r.s b x e)
  · rcases get_set h with ⟨rfl, e1, hl⟩ | ⟨hne, h⟩
    · cases e1
    · exact r.val j e h
  · rcases get_set h with ⟨rfl, e1, hl⟩ | ⟨hne, h⟩
    · cases e1
      exact ⟨p, o, h2, z2, z3, upd_same, h4, h5⟩
    · obtain ⟨q, o'', y1, y2, y3, y4, y5, y6⟩ := r.own j e h
      have hq : q ≠ p := fun z => hne (r.sep i j d0 e p h1 h h2 (by rw [← z]; exact y1))
      exact ⟨q, o'', y1, y2, y3, keep q o'' hq y4, y5, y6⟩
  · have own_at : ∀ {j : Nat} {d' : D}, (env.set i (.own d))[j]? = some (.own d') → ∃ d'', env[j]? = some (.own d'') := fun {j d'} y => by
      rcases get_set y with ⟨rfl, _, _⟩ | ⟨_, y⟩
      · exact ⟨d0, h1⟩
      · exact ⟨d', y⟩
    obtain ⟨a, ha⟩ := own_at y1
    obtain ⟨b, hb⟩ := own_at y2
    exact r.sep j k a b q ha hb y3 y4
/-- a slot's object is frozen -/
theorem ER.frz {i : Nat} {d : D} (r : ER F0 H0 F H σ env) (h1 : env[i]? = some (.own d)) : ∃ F', Same F F' ∧ ER F0 H0 F' H σ (env.set i (.val d)) := by
  obtain ⟨p, o, z1, z2, z3, z4, z5, z6⟩ := r.own i d h1
  have sm : Same F (upd F p o) := same_new z2
  refine ⟨upd F p o, sm, ⟨r.up.f.trans sm, r.up.h, fun a x e n => ?_, fun b x e => ?_⟩, by rw [List.length_set, r.len], fun j e h => ?_, fun j e h => ?_, fun j k d' e' q y1 y2 y3 y4 => ?_⟩
  · rw [upd_ne (ne_of_none e z3)]
    exact r.up.n a x e n
  · by_cases hb : b = p
    · subst hb
      rw [upd_same] at e
      cases e
      exact z4
    · rw [upd_ne hb] at e
      exact r.s b x e
  · rcases get_set h with ⟨rfl, e1, hl⟩ | ⟨hne, h⟩
    · cases e1
      exact ⟨_, z1, .ref upd_same (z5.mono sm)⟩
    · obtain ⟨w, y1, y2⟩ := r.val j e h
      exact ⟨w, y1, y2.mono sm⟩
  · rcases get_set h with ⟨rfl, e1, hl⟩ | ⟨hne, h⟩
    · cases e1
    · obtain ⟨q, o', y1, y2, y3, y4, y5, y6⟩ := r.own j e h
      have hq : q ≠ p := fun z => hne (r.sep i j d e p h1 h z1 (by rw [← z]; exact y1))
      exact ⟨q, o', y1, by rw [upd_ne hq]; exact y2, y3, y4, y5.mono sm, y6⟩
  · rcases get_set y1 with ⟨rfl, e1, _⟩ | ⟨_, y1⟩
    · cases e1
    · rcases get_set y2 with ⟨rfl, e1, _⟩ | ⟨_, y2⟩
      · cases e1
      · exact r.sep j k d' e' q y1 y2 y3 y4
end
def frz1 (i : Nat) (env : Env) : Env := match env[i]? with
  | some (.own d) => env.set i (.val d)
  | _ => env
def frzL : List Nat → Env → Env
  | [], env => env
  | i :: is, env => frzL is (frz1 i env)
theorem ER.frzL {F0 H0 H : Hp} {σ : St} : ∀ (is : List Nat) {F : Hp} {env : Env}, ER F0 H0 F H σ env → ∃ F', Same F F' ∧ ER F0 H0 F' H σ (frzL is env)
  | [], F, env, r => ⟨F, Same.refl F, r⟩
  | i :: is, F, env, r => by
    have h1 : ∃ F', Same F F' ∧ ER F0 H0 F' H σ (frz1 i env) := by
      unfold frz1
      split
      · rename_i d e
        exact r.frz e
      · exact ⟨F, Same.refl F, r⟩
    obtain ⟨F1, s1, r1⟩ := h1
    obtain ⟨F2, s2, r2⟩ := ER.frzL is r1
    exact ⟨F2, s1.trans s2, r2⟩

/-! ### statements -/
section
variable {X : Cx} {st : Stmt} {rest : List Stmt}
def fxFz (l : List Nat) (g : Fx) : Fx := fun env => g (frzL l env)
theorem pFz {l : List Nat} {g : Fx} (h : PS X st (sF g)) : PS X st (sF (fxFz l g)) := h.imp fun σ H E ⟨F0, H0, F, env, fl, r, e, p⟩ => by
  obtain ⟨F', s, r'⟩ := ER.frzL l r
  exact ⟨F0, H0, F', _, fl, r', e, p.mono s⟩
def fxNil : Fx := fun env => some (.nx env)
def fxSeq (g h : Fx) : Fx := fun env => (g env).bind fun fl => match fl with
  | .nx e => h e
  | .ret d => some (.ret d)
  | .bk e => some (.bk e)
  | .ct e => some (.ct e)
theorem fxNil_ok {σ : St} {H : Hp} {E : Ends} (h : sF fxNil E σ H) : E.nx σ H := by
  obtain ⟨F0, H0, F, env, fl, r, e, p⟩ := h
  cases e
  exact p σ F H (Same.refl F) r
theorem pssNil : PSs X [] (sF fxNil) := pss_nil.imp fun _ _ _ h => fxNil_ok h
theorem pssCons {g h : Fx} (h1 : PS X st (sF g)) (h2 : PSs X rest (sF h)) : PSs X (st :: rest) (sF (fxSeq g h)) := (pss_cons h1 h2).imp fun σ H E ⟨F0, H0, F, env, fl, r, e, p⟩ => by
  simp only [fxSeq, Option.bind_eq_some_iff] at e
  obtain ⟨fl1, e1, e2⟩ := e
  refine ⟨F0, H0, F, env, fl1, r, e1, ?_⟩
  cases fl1 with
  | nx e' => exact fun σ' F' H' s r' => ⟨F0, H0, F', e', fl, r', e2, p.mono s⟩
  | ret d =>
    cases e2
    exact p
  | bk e' =>
    cases e2
    exact p
  | ct e' =>
    cases e2
    exact p
theorem pPass {pos : Pos} : PS X (.Pass pos) (sF fxNil) := ps_pass.imp fun _ _ _ h => fxNil_ok h
def fxBrk : Fx := fun env => some (.bk env)
def fxCnt : Fx := fun env => some (.ct env)
theorem pBrk {pos : Pos} : PS X (.Break pos) (sF fxBrk) := ps_break.imp fun σ H E ⟨F0, H0, F, env, fl, r, e, p⟩ => by
  cases e
  exact p σ F H (Same.refl F) r
theorem pCnt {pos : Pos} : PS X (.Continue pos) (sF fxCnt) := ps_continue.imp fun σ H E ⟨F0, H0, F, env, fl, r, e, p⟩ => by
  cases e
  exact p σ F H (Same.refl F) r
def fxRet (f : Ex) : Fx := fun env => (f env).bind fun d => some (.ret d)
theorem pRet {a : Expr} {f : Ex} {pos : Pos} (ha : PE X a (eS f)) : PS X (.Return (some a) pos) (sF (fxRet f)) := (ps_ret ha).imp fun σ H E ⟨F0, H0, F, env, fl, r, e, p⟩ => by
  simp only [fxRet, Option.bind_eq_some_iff, Option.some.injEq] at e
  obtain ⟨d, h1, rfl⟩ := e
  exact ⟨F0, H0, F, env, d, r, h1, fun v F' H' u q => p v F' H' (r.up.trans u) q⟩
def fxRetN : Fx := fun _ => some (.ret .non)
theorem pRetN {pos : Pos} : PS X (.Return none pos) (sF fxRetN) := ps_retN.imp fun σ H E ⟨F0, H0, F, env, fl, r, e, p⟩ => by
  cases e
  exact p .non F H r.up .non
def fxIf (t : Tx) (g h : Fx) : Fx := fun env => (t env).bind fun k => if k = true then g env else h env
theorem pIf {c : Expr} {a b : List Stmt} {t : Tx} {g h : Fx} {pos : Pos} (hc : PT X c (eT t)) (ha : PSs X a (sF g)) (hb : PSs X b (sF h)) : PS X (.If c a b pos) (sF (fxIf t g h)) := (ps_if hc ha hb).imp fun σ H E ⟨F0, H0, F, env, fl, r, e, p⟩ => by
  simp only [fxIf, Option.bind_eq_some_iff] at e
  obtain ⟨k, h1, h2⟩ := e
  refine ⟨F0, H0, F, env, k, r, h1, fun F' H' u => ?_⟩
  cases k with
  | true =>
    rw [if_pos rfl] at h2 ⊢
    exact ⟨F0, H0, F', env, fl, r.mono u, h2, p.mono u.f⟩
  | false =>
    rw [if_neg Bool.false_ne_true] at h2 ⊢
    exact ⟨F0, H0, F', env, fl, r.mono u, h2, p.mono u.f⟩

/-! ### a name given a value -/
def fxSetS (i : Nat) (f : Ex) : Fx := fun env => (f env).bind fun d => some (.nx (env.set i (.val d)))
def fxSetN (i : Nat) (f : Ex) : Fx := fun env => (f env).bind fun d => some (.nx (env.set i (mkOwn d)))
theorem setS_of {i : Nat} {f : Ex} {σ : St} {H : Hp} {E : Ends} (h : sF (fxSetS i f) E σ H) : tAsg (eS f) (gName i) E σ H := by
  obtain ⟨F0, H0, F, env, fl, r, e, p⟩ := h
  simp only [fxSetS, Option.bind_eq_some_iff, Option.some.injEq] at e
  obtain ⟨d, h1, rfl⟩ := e
  exact ⟨F0, H0, F, env, d, r, h1, fun v F' H' u q => p _ F' H' u.f ((r.mono u).setVal q)⟩
theorem setN_of {i : Nat} {f : Ex} {σ : St} {H : Hp} {E : Ends} (h : sF (fxSetN i f) E σ H) : tAsg (eN f) (gName i) E σ H := by
  obtain ⟨F0, H0, F, env, fl, r, e, p⟩ := h
  simp only [fxSetN, Option.bind_eq_some_iff, Option.some.injEq] at e
  obtain ⟨d, h1, rfl⟩ := e
  exact ⟨F0, H0, F, env, d, r, h1, fun v F' H' u q => p _ F' H' u.f (r.setNew u q)⟩

/-! ### while -/
def wLoop (t : Tx) (g : Fx) : Nat → Env → Option Fl
  | 0, _ => none
  | n + 1, env => (t env).bind fun k => if k = true then (g env).bind fun fl => match fl with
      | .nx e => wLoop t g n e
      | .ct e => wLoop t g n e
      | .bk e => some (.nx e)
      | .ret d => some (.ret d)
    else some (.nx env)
def fxWh (n : Nat) (t : Tx) (g : Fx) : Fx := wLoop t g n
theorem pWh {c : Expr} {body : List Stmt} {t : Tx} {g : Fx} {n : Nat} {pos : Pos} (hp : PassesOwn (model X.prog X.w) X.A X.env X.xe) (hc : PT X c (eT t)) (hb : PSs X body (sF g)) : PS X (.While c body [] pos) (sF (fxWh n t g)) := (ps_while hp hc hb).imp fun σ H E ⟨F0, H0, F, env, fl, r, e, p⟩ => by
  refine ⟨fun m σ H => ∃ F1 env, Same F F1 ∧ ER F0 H0 F1 H σ env ∧ wLoop t g m env = some fl, ⟨n, F, env, Same.refl F, r, e⟩, fun m σ H ⟨F1, env, s1, r, e⟩ => ?_⟩
  cases m with
  | zero => cases e
  | succ m =>
    simp only [wLoop, Option.bind_eq_some_iff] at e
    obtain ⟨k, h1, h2⟩ := e
    refine ⟨F0, H0, F1, env, k, r, h1, fun F' H' u => ?_⟩
    cases k with
    | true =>
      simp only [if_true, Option.bind_eq_some_iff] at h2 ⊢
      obtain ⟨fl1, h3, h4⟩ := h2
      refine ⟨fun σ' H' => ∃ F1 env, Same F F1 ∧ ER F0 H0 F1 H' σ' env ∧ wLoop t g m env = some fl, fun σ' H' h => ⟨m, Nat.lt_succ_self m, h⟩, F0, H0, F', env, fl1, r.mono u, h3, ?_⟩
      cases fl1 with
      | nx e => exact fun σ' F'' H'' s' r' => ⟨F'', e, s1.trans (u.f.trans s'), r', h4⟩
      | ct e => exact fun σ' F'' H'' s' r' => ⟨F'', e, s1.trans (u.f.trans s'), r', h4⟩
      | bk e =>
        cases h4
        exact fun σ' F'' H'' s' r' => p σ' F'' H'' (s1.trans (u.f.trans s')) r'
      | ret d =>
        cases h4
        exact p
    | false =>
      rw [if_neg Bool.false_ne_true] at h2 ⊢
      cases h2
      exact p σ F' H' (s1.trans u.f) (r.mono u)

/-! ### targets -/
abbrev Gx := D → Env → Option Env
/-- ws: the slots that are written -/
def eG (ws : List Nat) (gt : Gx) : TG := fun v σ H Q => ∃ F0 H0 F env d env', ER F0 H0 F H σ env ∧ Rep F v d ∧ gt d env = some env' ∧ ∀ σ', ER F0 H0 F H σ' env' → (σ'.length = σ.length ∧ ∀ j, j ∉ ws → σ'[j]? = σ[j]?) → Q σ' H
def eGs (ws : List Nat) (gt : List D → Env → Option Env) : TGs := fun vs σ H Q => ∃ F0 H0 F env ds env', ER F0 H0 F H σ env ∧ RepL F vs ds ∧ gt ds env = some env' ∧ ∀ σ', ER F0 H0 F H σ' env' → (σ'.length = σ.length ∧ ∀ j, j ∉ ws → σ'[j]? = σ[j]?) → Q σ' H
theorem _root_.L2.PG.imp {tg : Expr} {t t' : TG} (h : PG X tg t) (i : ∀ v σ H Q, t' v σ H Q → t v σ H Q) : PG X tg t' := ⟨fun pins s σ H v u Q I r q => h.run pins s σ H v u Q I r (i v σ H Q q)⟩
theorem _root_.L2.PGs.imp {ts : List Expr} {t t' : TGs} (h : PGs X ts t) (i : ∀ v σ H Q, t' v σ H Q → t v σ H Q) : PGs X ts t' := ⟨fun pins s σ H vs us Q I r q => h.run pins s σ H vs us Q I r (i vs σ H Q q)⟩
def gxN (i : Nat) : Gx := fun d env => some (env.set i (.val d))
theorem pgN {i : Nat} {tg : Expr} (h : PG X tg (gName i)) : PG X tg (eG [i] (gxN i)) := h.imp fun v σ H Q ⟨F0, H0, F, env, d, env', r, p, e, q⟩ => by
  cases e
  refine q _ (r.setVal p) ⟨List.length_set .., fun j hj => ?_⟩
  rw [List.getElem?_set_ne fun z => hj (by rw [z]; exact List.mem_singleton.mpr rfl)]
def gxNil : List D → Env → Option Env := fun ds env => match ds with
  | [] => some env
  | _ :: _ => none
def gxCons (g : Gx) (h : List D → Env → Option Env) : List D → Env → Option Env := fun ds env => match ds with
  | [] => none
  | d :: ds => (g d env).bind fun e => h ds e
theorem pgsNil : PGs X [] (eGs [] gxNil) := pgs_nil.imp fun v σ H Q ⟨F0, H0, F, env, ds, env', r, p, e, q⟩ => by
  cases p with
  | nil =>
    cases e
    exact ⟨rfl, q σ r ⟨rfl, fun _ _ => rfl⟩⟩
  | cons _ _ => cases e
theorem each_cons {e : Expr} (h : notStar e = true) (es : List Expr) (env : PySem.Env) : assignEach (e :: es) env = (false, assign e env) :: assignEach es env := by
  cases e <;> first | rfl | (cases h)
theorem pgsCons {tg : Expr} {ts : List Expr} {ws ws' : List Nat} {g : Gx} {h : List D → Env → Option Env} (hn : notStar tg = true) (h1 : PG X tg (eG ws g)) (h2 : PGs X ts (eGs ws' h)) : PGs X (tg :: ts) (eGs (ws ++ ws') (gxCons g h)) :=
  (pgs_cons h1 h2 (by rw [each_cons hn]; rfl)).imp fun v σ H Q ⟨F0, H0, F, env, ds, env', r, p, e, q⟩ => by
    cases p with
    | nil => cases e
    | cons p ps =>
      simp only [gxCons, Option.bind_eq_some_iff] at e
      obtain ⟨e1, h3, h4⟩ := e
      refine ⟨_, _, rfl, F0, H0, F, env, _, e1, r, p, h3, fun σ1 r1 k1 => ⟨F0, H0, F, e1, _, env', r1, ps, h4, fun σ2 r2 k2 => q σ2 r2 ⟨k2.1.trans k1.1, fun j hj => ?_⟩⟩⟩
      rw [List.mem_append, not_or] at hj
      rw [k2.2 j hj.2, k1.2 j hj.1]
def gxT (g : List D → Env → Option Env) : Gx := fun d env => match d with
  | .tup ds => g ds env
  | _ => none
/-- plain targets -/
def plainTs (es : List Expr) : Bool := es.all notStar
theorem each_plain : ∀ {es : List Expr}, plainTs es = true → ∀ env : PySem.Env, (assignEach es env).length = es.length ∧ (assignEach es env).findIdx? (·.1) = none
  | [], _, _ => ⟨rfl, rfl⟩
  | e :: es, h, env => by
    simp only [plainTs, List.all_cons, Bool.and_eq_true] at h
    obtain ⟨h1, h2⟩ := each_plain (es := es) h.2 env
    rw [each_cons h.1]
    refine ⟨by rw [List.length_cons, List.length_cons, h1], ?_⟩
    rw [List.findIdx?_cons, if_neg Bool.false_ne_true, h2]
    rfl
theorem eGs_len {ts : List Expr} : True := trivial
theorem pgT {es : List Expr} {ws : List Nat} {g : List D → Env → Option Env} {k : Nat} {pos : Pos} (hc : X.calm = true) (hp : plainTs es = true) (h : PGs X es (eGs ws g)) (hg : ∀ ds env e, g ds env = some e → ds.length = es.length) : PG X (.Tuple es k pos) (eG ws (gxT g)) :=
  (pg_tup hc h (n := es.length) (each_plain hp X.env).1 (each_plain hp X.env).2).imp fun v σ H Q ⟨F0, H0, F, env, d, env', r, p, e, q⟩ => by
    cases d with
    | tup ds =>
      obtain ⟨a, vs, rfl, h1, h2⟩ := (RB.rep p : RB F H v (.tup ds)).tup
      exact ⟨a, vs, rfl, .inl (.inl (r.s _ _ h1)), by rw [h2.length]; exact hg _ _ _ e, F0, H0, F, env, ds, env', r, h2, e, q⟩
    | _ => cases e
/-- target = value -/
def fxAsg (f : Ex) (g : Gx) : Fx := fun env => (f env).bind fun d => (g d env).bind fun e => some (.nx e)
theorem asg_of {f : Ex} {ws : List Nat} {g : Gx} {σ : St} {H : Hp} {E : Ends} (h : sF (fxAsg f g) E σ H) : tAsg (eS f) (eG ws g) E σ H := by
  obtain ⟨F0, H0, F, env, fl, r, e, p⟩ := h
  simp only [fxAsg, Option.bind_eq_some_iff, Option.some.injEq] at e
  obtain ⟨d, h1, env', h2, rfl⟩ := e
  exact ⟨F0, H0, F, env, d, r, h1, fun v F' H' u q => ⟨F0, H0, F', env, d, env', r.mono u, q, h2, fun σ' r' _ => p σ' F' H' u.f r'⟩⟩

/-! ### for -/
/-- the walk J hands out what stands for ds, wherever F is frozen -/
structure Src (J : It) (F : Hp) (ds : List D) : Prop where
  len : ds.length ≤ sizeLine
  go : ∀ (i : Nat) (F' H : Hp), Same F F' → Same F' H → i < ds.length → J.go i H
  yld : ∀ (i : Nat) (d : D) (F' H : Hp) (x : V) (H' : Hp), Same F F' → Same F' H → ds[i]? = some d → J.yld i H x H' → ∃ F'', Up F' H F'' H' ∧ Rep F'' x d
  stop : ∀ (F' H : Hp), Same F F' → Same F' H → J.stop ds.length H
abbrev Ix := Env → Option (List D)
def eI (f : Ix) : TI := fun σ H R => ∃ F0 H0 F env ds, ER F0 H0 F H σ env ∧ f env = some ds ∧ ∀ J F' H', Up F H F' H' → Src J F' ds → R J H'
def fLoop (gt : Gx) (g : Fx) : List D → Env → Option Fl
  | [], env => some (.nx env)
  | d :: ds, env => (gt d env).bind fun e => (g e).bind fun fl => match fl with
    | .nx e => fLoop gt g ds e
    | .ct e => fLoop gt g ds e
    | .bk e => some (.nx e)
    | .ret d => some (.ret d)
def fxFor (it : Ix) (gt : Gx) (g : Fx) : Fx := fun env => (it env).bind fun ds => fLoop gt g ds env
theorem pFor {tg iter : Expr} {body : List Stmt} {it : Ix} {ws : List Nat} {gt : Gx} {g : Fx} {pos : Pos} (hp : PassesOwn (model X.prog X.w) X.A X.env X.xe) (hc : X.calm = true) (hi : PI X tg iter (eI it)) (hg : PG X tg (eG ws gt)) (hb : PSs X body (sF g))
    (hs : ∀ x, foldedSetIterable iter X.env x = pure x) : PS X (.For tg iter body [] pos) (sF (fxFor it gt g)) := (ps_for hp hc hi hg hb hs).imp fun σ H E ⟨F0, H0, F, env, fl, r, e, p⟩ => by
  simp only [fxFor, Option.bind_eq_some_iff] at e
  obtain ⟨ds, h1, h2⟩ := e
  refine ⟨F0, H0, F, env, ds, r, h1, fun J F1 H1 u S => ?_⟩
  refine ⟨fun i m σ H => ∃ F2 env, m = ds.length - i ∧ i ≤ ds.length ∧ Same F1 F2 ∧ ER F0 H0 F2 H σ env ∧ fLoop gt g (ds.drop i) env = some fl,
    ⟨ds.length, F1, env, by simp, Nat.zero_le _, Same.refl F1, r.mono u, by simpa using h2⟩, fun i m σ H ⟨F2, env, em, hi, s2, r2, e⟩ => ?_⟩
  by_cases hlt : i < ds.length
  · rw [List.drop_eq_getElem_cons hlt] at e
    simp only [fLoop, Option.bind_eq_some_iff] at e
    obtain ⟨e1, h3, fl1, h4, h5⟩ := e
    refine .inr ⟨S.go i F2 H s2 r2.s hlt, fun σ' H' => ∃ F2 env, Same F1 F2 ∧ ER F0 H0 F2 H' σ' env ∧ fLoop gt g (ds.drop (i + 1)) env = some fl, fun σ' H' ⟨F3, env3, s3, r3, e3⟩ => ⟨ds.length - (i + 1), by omega, F3, env3, rfl, hlt, s3, r3, e3⟩, fun x H' y => ?_⟩
    obtain ⟨F3, u3, p3⟩ := S.yld i _ F2 H x H' s2 r2.s (List.getElem?_eq_getElem hlt) y
    refine ⟨F0, H0, F3, env, _, e1, r2.mono u3, p3, h3, fun σ4 r4 _ => ⟨F0, H0, F3, e1, fl1, r4, h4, ?_⟩⟩
    cases fl1 with
    | nx e => exact fun σ' F' H' s' r' => ⟨F', e, s2.trans (u3.f.trans s'), r', h5⟩
    | ct e => exact fun σ' F' H' s' r' => ⟨F', e, s2.trans (u3.f.trans s'), r', h5⟩
    | bk e =>
      cases h5
      exact fun σ' F' H' s' r' => p σ' F' H' (u.f.trans (s2.trans (u3.f.trans s'))) r'
    | ret d =>
      cases h5
      exact p
  · have ei : i = ds.length := by omega
    subst ei
    rw [List.drop_length] at e
    cases e
    exact .inl ⟨S.stop F2 H s2 r2.s, p σ F2 H (u.f.trans s2) r2⟩

/-! ### what is walked -/
theorem src_list {K : PySem.W.Frag} {F : Hp} {a : Addr} {vs : List V} {ds : List D} (h : F a = some (.lst vs)) (r : RepL F vs ds) (hl : ds.length ≤ sizeLine) : Src (Itl K a) F ds where
  len := hl
  go := fun i F' H s1 s2 hi => by
    rw [← r.length] at hi
    exact ⟨vs, vs[i], .inl (.inl (s2 _ _ (s1 _ _ h))), List.getElem?_eq_getElem hi⟩
  yld := fun i d F' H x H' s1 s2 hd y => by
    obtain ⟨rfl, y⟩ := y
    obtain ⟨v, h1, h2⟩ := r.get hd
    have := y vs (.inl (.inl (s2 _ _ (s1 _ _ h))))
    rw [h1] at this
    cases this
    exact ⟨F', Up.refl s2, h2.mono s1⟩
  stop := fun F' H s1 s2 => ⟨vs, .inl (.inl (s2 _ _ (s1 _ _ h))), by rw [r.length]; exact Nat.le_refl _⟩
theorem src_tup {K : PySem.W.Frag} {F : Hp} {a : Addr} {vs : List V} {ds : List D} (h : F a = some (.tup vs)) (r : RepL F vs ds) (hl : ds.length ≤ sizeLine) : Src (Itt K a) F ds where
  len := hl
  go := fun i F' H s1 s2 hi => by
    rw [← r.length] at hi
    exact ⟨vs, vs[i], .inl (.inl (s2 _ _ (s1 _ _ h))), List.getElem?_eq_getElem hi⟩
  yld := fun i d F' H x H' s1 s2 hd y => by
    obtain ⟨rfl, y⟩ := y
    obtain ⟨v, h1, h2⟩ := r.get hd
    have := y vs (.inl (.inl (s2 _ _ (s1 _ _ h))))
    rw [h1] at this
    cases this
    exact ⟨F', Up.refl s2, h2.mono s1⟩
  stop := fun F' H s1 s2 => ⟨vs, .inl (.inl (s2 _ _ (s1 _ _ h))), by rw [r.length]; exact Nat.le_refl _⟩
def rngD (lo : Int) (n : Nat) : List D := (List.range n).map fun i => .int (lo + (i : Nat))
theorem rngD_len (lo : Int) (n : Nat) : (rngD lo n).length = n := by simp [rngD]
theorem src_rng {F : Hp} (lo : Int) (n : Nat) (hn : n ≤ sizeLine) : Src (Itr lo n) F (rngD lo n) where
  len := by
    rw [rngD_len]
    exact hn
  go := fun i F' H s1 s2 hi => by
    rw [rngD_len] at hi
    exact hi
  yld := fun i d F' H x H' s1 s2 hd y => by
    obtain ⟨rfl, rfl⟩ := y
    have hi : i < n := by
      have := (List.getElem?_eq_some_iff.mp hd).1
      rwa [rngD_len] at this
    simp only [rngD, List.getElem?_map, List.getElem?_range hi, Option.map_some, Option.some.injEq] at hd
    subst hd
    exact ⟨F', Up.refl s2, .int _⟩
  stop := fun F' H s1 s2 => by
    rw [rngD_len]
    exact Nat.le_refl n
end
end Sw

/-! Sw6: built-in calls. -/
namespace Sw
open PySem L2

/-! ### every tracked list and tuple is of a size that fits -/
def Bnd (H : Hp) : Prop := (∀ a xs, H a = some (.lst xs) → xs.length ≤ sizeLine) ∧ ∀ a xs, H a = some (.tup xs) → xs.length ≤ sizeLine
theorem bnd_of {X : Cx} {pins : List (Addr × Obj)} {σ : St} {H : Hp} {s : Shared} (I : Inv X pins σ H s) : Bnd H := ⟨fun a xs h => (show ObjOk X.prog X.w H s.heap a (.lst xs) from I.hok a _ h).1, fun a xs h => (show ObjOk X.prog X.w H s.heap a (.tup xs) from I.hok a _ h).1⟩
theorem pe_bnd {X : Cx} {e : Expr} {t : TE} (h : PE X e t) : PE X e (fun σ H Q => t σ H fun v H' => Bnd H' → Q v H') := ⟨fun pins s σ H Q I q => thn (h.run pins s σ H _ I q) fun u s' ⟨v, H', I', r, q'⟩ => ⟨v, H', I', r, q' (bnd_of I')⟩⟩
theorem pa_bnd {X : Cx} {es : List Expr} {t : TA} (h : PA X es t) : PA X es (fun σ H Q => t σ H fun v H' => Bnd H' → Q v H') := ⟨fun p pins s σ H Q I q => thn (h.run p pins s σ H _ I q) fun u s' ⟨v, H', I', r, q'⟩ => ⟨v, H', I', r, q' (bnd_of I')⟩⟩
/-- is its size, if it is a sequence, one that fits -/
def D.szOk : D → Prop
  | .lst xs => xs.length ≤ sizeLine
  | .tup xs => xs.length ≤ sizeLine
  | _ => True
theorem RB.sz {F H : Hp} {v : V} {d : D} (b : Bnd H) (s : Same F H) (r : RB F H v d) : d.szOk := by
  cases d with
  | lst xs =>
    obtain ⟨a, vs, _, h, q⟩ := r.lst s
    show xs.length ≤ sizeLine
    rw [← q.length]
    exact b.1 a vs h
  | tup xs =>
    obtain ⟨a, vs, _, h, q⟩ := r.tup
    show xs.length ≤ sizeLine
    rw [← q.length]
    exact b.2 a vs (s _ _ h)
  | _ => trivial

/-! ### calls by values: the answer new, or frozen -/
def rCN (g : List D → Option D) : List V → Hp → VK → Prop := fun xs H Q => ∃ F ds d, Same F H ∧ RBL F H xs ds ∧ g ds = some d ∧ ∀ v F' H', Up F H F' H' → RN H F' H' v d → Q v H'
def rCS (g : List D → Option D) : List V → Hp → VK → Prop := fun xs H Q => ∃ F ds d, Same F H ∧ RBL F H xs ds ∧ g ds = some d ∧ ∀ v F' H', Up F H F' H' → Rep F' v d → Q v H'
def exCall (g : List D → Option D) (fs : List Ex) : Ex := fun env => (evs fs env).bind g
theorem cN_of {g : List D → Option D} {fs : List Ex} {σ : St} {H : Hp} {Q : VK} (h : eN (exCall g fs) σ H Q) : tCB (rCN g) (aB fs) σ H Q := by
  obtain ⟨F0, H0, F, env, d, r, e, q⟩ := h
  simp only [exCall, Option.bind_eq_some_iff] at e
  obtain ⟨ds, h1, h2⟩ := e
  exact ⟨F0, H0, F, env, ds, r, h1, fun vs F' H' u p => ⟨F', ds, d, u.s, p, h2, fun w F'' H'' u' p' => q w F'' H'' (u.trans u') (p'.back u)⟩⟩
theorem cS_of {g : List D → Option D} {fs : List Ex} {σ : St} {H : Hp} {Q : VK} (h : eS (exCall g fs) σ H Q) : tCB (rCS g) (aB fs) σ H Q := by
  obtain ⟨F0, H0, F, env, d, r, e, q⟩ := h
  simp only [exCall, Option.bind_eq_some_iff] at e
  obtain ⟨ds, h1, h2⟩ := e
  exact ⟨F0, H0, F, env, ds, r, h1, fun vs F' H' u p => ⟨F', ds, d, u.s, p, h2, fun w F'' H'' u' p' => q w F'' H'' (u.trans u') p'⟩⟩
/-- no star in an argument list -/
def plainAs (es : List Expr) : Bool := es.all notStar
theorem star_plain : ∀ {es : List Expr}, plainAs es = true → ∀ (env : PySem.Env) (pos : Pos), (backTo pos (starEach es env)).any (·.1) = false
  | [], _, _, _ => rfl
  | e :: es, h, env, pos => by
    simp only [plainAs, List.all_cons, Bool.and_eq_true] at h
    rw [star_cons h.1]
    show (false || (backTo pos (starEach es env)).any (·.1)) = false
    rw [star_plain (es := es) h.2, Bool.or_false]
section
variable {X : Cx} {e : Expr} {es : List Expr} {fs : List Ex} {x : Str} {p pos : Pos}
theorem pCallBN {g : List D → Option D} {id : String} (hc : CallR X (.builtin id) (rCN g)) (hg : Gl X x) (hm : X.mg x = none) (hv : bootBuiltins x = some (.builtin id)) (hn : x ≠ "__name__") (hd : (x == ("__debug__" : Str)) = false) (hp : plainAs (e :: es) = true) (ha : PA X (e :: es) (aB fs)) :
    PE X (.Call (.Name x p) (e :: es) [] pos) (eN (exCall g fs)) := by
  have hp' := hp
  simp only [plainAs, List.all_cons, Bool.and_eq_true] at hp'
  exact (pe_callB hc hg hm hv ha hn hd (star_cons hp'.1 es X.env) (star_plain hp'.2 X.env pos)).imp fun _ _ _ h => cN_of h
theorem pCallBS {g : List D → Option D} {id : String} (hc : CallR X (.builtin id) (rCS g)) (hg : Gl X x) (hm : X.mg x = none) (hv : bootBuiltins x = some (.builtin id)) (hn : x ≠ "__name__") (hd : (x == ("__debug__" : Str)) = false) (hp : plainAs (e :: es) = true) (ha : PA X (e :: es) (aB fs)) :
    PE X (.Call (.Name x p) (e :: es) [] pos) (eS (exCall g fs)) := by
  have hp' := hp
  simp only [plainAs, List.all_cons, Bool.and_eq_true] at hp'
  exact (pe_callB hc hg hm hv ha hn hd (star_cons hp'.1 es X.env) (star_plain hp'.2 X.env pos)).imp fun _ _ _ h => cS_of h
theorem pCallTN {g : List D → Option D} {id : String} (hc : CallR X (.type id) (rCN g)) (hg : Gl X x) (hm : X.mg x = none) (hv : bootBuiltins x = some (.type id)) (hn : x ≠ "__name__") (hd : (x == ("__debug__" : Str)) = false) (hp : plainAs (e :: es) = true) (ha : PA X (e :: es) (aB fs)) :
    PE X (.Call (.Name x p) (e :: es) [] pos) (eN (exCall g fs)) := by
  have hp' := hp
  simp only [plainAs, List.all_cons, Bool.and_eq_true] at hp'
  exact (pe_callTy hc hg hm hv ha hn hd (star_cons hp'.1 es X.env) (star_plain hp'.2 X.env pos)).imp fun _ _ _ h => cN_of h
theorem pCallTS {g : List D → Option D} {id : String} (hc : CallR X (.type id) (rCS g)) (hg : Gl X x) (hm : X.mg x = none) (hv : bootBuiltins x = some (.type id)) (hn : x ≠ "__name__") (hd : (x == ("__debug__" : Str)) = false) (hp : plainAs (e :: es) = true) (ha : PA X (e :: es) (aB fs)) :
    PE X (.Call (.Name x p) (e :: es) [] pos) (eS (exCall g fs)) := by
  have hp' := hp
  simp only [plainAs, List.all_cons, Bool.and_eq_true] at hp'
  exact (pe_callTy hc hg hm hv ha hn hd (star_cons hp'.1 es X.env) (star_plain hp'.2 X.env pos)).imp fun _ _ _ h => cS_of h
/-- a function that the module imported -/
theorem pCallFS {g : List D → Option D} {id : String} (hc : CallR X (.builtin id) (rCS g)) (hg : Gl X x) (hm : X.mg x = some (.builtin id)) (hd : (x == ("__debug__" : Str)) = false) (hp : plainAs (e :: es) = true) (ha : PA X (e :: es) (aB fs)) :
    PE X (.Call (.Name x p) (e :: es) [] pos) (eS (exCall g fs)) := by
  have hp' := hp
  simp only [plainAs, List.all_cons, Bool.and_eq_true] at hp'
  exact (pe_callBfun hc hg hm ha hd (star_cons hp'.1 es X.env) (star_plain hp'.2 X.env pos)).imp fun _ _ _ h => cS_of h
end

/-! ### what the built-ins give -/
def D.ints? : List D → Option (List Int)
  | [] => some []
  | .int i :: ds => (D.ints? ds).bind fun is => some (i :: is)
  | _ :: _ => none
theorem ints_eq : ∀ {ds : List D} {is : List Int}, D.ints? ds = some is → ds = is.map D.int
  | [], _, h => by
    cases h
    rfl
  | d :: ds, is, h => by
    cases d with
    | int i =>
      simp only [D.ints?, Option.bind_eq_some_iff, Option.some.injEq] at h
      obtain ⟨js, h1, rfl⟩ := h
      rw [ints_eq h1, List.map_cons]
    | _ => cases h
theorem ints_map (is : List Int) : D.ints? (is.map D.int) = some is := by
  induction is with
  | nil => rfl
  | cons i is ih => rw [List.map_cons, D.ints?, ih]; rfl
theorem RepL.ints {F : Hp} : ∀ {vs : List V} {is : List Int}, RepL F vs (is.map D.int) → vs = is.map V.int
  | _, [], h => by
    cases h
    rfl
  | _, i :: is, h => by
    cases h with
    | cons r t =>
      have : _ = V.int i := (RB.rep r : RB F F _ _).int
      rw [this, t.ints, List.map_cons]
def dLen : List D → Option D
  | [.str x] => if x.length ≤ sizeLine then some (.int x.length) else none
  | [.lst xs] => some (.int xs.length)
  | [.tup xs] => some (.int xs.length)
  | [.scr xs] => some (.int xs.length)
  | [.dic false es] => some (.int es.length)
  | _ => none
def dAbs : List D → Option D
  | [.int i] => some (.int (if i < 0 then -i else i))
  | _ => none
def dInt : List D → Option D
  | [.int i] => some (.int i)
  | [.bl b] => some (.int (if b then 1 else 0))
  | _ => none
def dGcd : List D → Option D
  | [.int a, .int b] => some (.int ((Nat.gcd a.natAbs b.natAbs : Nat) : Int))
  | _ => none
def dTuple : List D → Option D
  | [.lst xs] => some (.tup xs)
  | [.tup xs] => some (.tup xs)
  | _ => none
def dList : List D → Option D
  | [.lst xs] => some (.lst xs)
  | [.tup xs] => some (.lst xs)
  | _ => none
/-- all can be put in order: plain, of one shape, none of them None -/
def ordOk (ds : List D) : Bool := ds.all fun a => a.ok && !a.isNon && ds.all fun b => D.alk a b
/-- .. and sorted: all tuples with an item, or none a tuple -/
def srtOk (ds : List D) : Bool := ordOk ds && ((ds.all fun a => match a with | .tup (_ :: _) => true | _ => false) || ds.all fun a => match a with | .tup _ => false | _ => true)
def dMinL (d : D) (ds : List D) : D := ds.foldl (fun a y => if D.lt y a = true then y else a) d
def dMaxL (d : D) (ds : List D) : D := ds.foldl (fun a y => if D.lt a y = true then y else a) d
def dMin : List D → Option D
  | [.int a, .int b] => some (.int (if b < a then b else a))
  | [.lst (d :: ds)] => if ordOk (d :: ds) = true then some (dMinL d ds) else none
  | [.tup (d :: ds)] => if ordOk (d :: ds) = true then some (dMinL d ds) else none
  | _ => none
def dMax : List D → Option D
  | [.int a, .int b] => some (.int (if b > a then b else a))
  | [.lst (d :: ds)] => if ordOk (d :: ds) = true then some (dMaxL d ds) else none
  | [.tup (d :: ds)] => if ordOk (d :: ds) = true then some (dMaxL d ds) else none
  | _ => none
def dSum : List D → Option D
  | [.lst xs] => (D.ints? xs).map fun is => .int is.sum
  | _ => none
def D.bls? : List D → Option (List Bool)
  | [] => some []
  | .bl b :: ds => (D.bls? ds).bind fun bs => some (b :: bs)
  | _ :: _ => none
theorem bls_eq : ∀ {ds : List D} {is : List Bool}, D.bls? ds = some is → ds = is.map D.bl
  | [], _, h => by
    cases h
    rfl
  | d :: ds, is, h => by
    cases d with
    | bl i =>
      simp only [D.bls?, Option.bind_eq_some_iff, Option.some.injEq] at h
      obtain ⟨js, h1, rfl⟩ := h
      rw [bls_eq h1, List.map_cons]
    | _ => cases h
theorem bls_map (is : List Bool) : D.bls? (is.map D.bl) = some is := by
  induction is with
  | nil => rfl
  | cons i is ih => rw [List.map_cons, D.bls?, ih]; rfl
theorem RepL.bls {F : Hp} : ∀ {vs : List V} {is : List Bool}, RepL F vs (is.map D.bl) → vs = is.map V.bl
  | _, [], h => by
    cases h
    rfl
  | _, i :: is, h => by
    cases h with
    | cons r t =>
      have : _ = V.bl i := (RB.rep r : RB F F _ _).bl
      rw [this, t.bls, List.map_cons]
def dAll : List D → Option D
  | [.lst xs] => (D.bls? xs).map fun bs => .bl (bs.all id)
  | _ => none
def dAny : List D → Option D
  | [.lst xs] => (D.bls? xs).map fun bs => .bl (bs.any id)
  | _ => none
/-- sorted, as Python sorts -/
def dSrt (ds : List D) : List D := ds.mergeSort fun a b => !D.lt b a
def dSorted : List D → Option D
  | [.lst xs] => if srtOk xs = true then some (.lst (dSrt xs)) else none
  | [.tup xs] => if srtOk xs = true then some (.lst (dSrt xs)) else none
  | _ => none
inductive Ty where
  | int | bool | str | tup | lst
def Ty.name : Ty → String
  | .int => "int"
  | .bool => "bool"
  | .str => "str"
  | .tup => "tuple"
  | .lst => "list"
def dIsi : Ty → D → Option D
  | _, .set _ => none
  | .int, .int _ => some (.bl true)
  | .int, .bl _ => some (.bl true)
  | .bool, .bl _ => some (.bl true)
  | .str, .str _ => some (.bl true)
  | .tup, .tup _ => some (.bl true)
  | .lst, .lst _ => some (.bl true)
  | .lst, .scr _ => some (.bl true)
  | _, _ => some (.bl false)

/-! ### their rules -/
section
variable {X : Cx}
theorem rbl1 {F H : Hp} {xs : List V} {d : D} (r : RBL F H xs [d]) : ∃ v, xs = [v] ∧ RB F H v d := by
  cases r with
  | cons r t =>
    cases t
    exact ⟨_, rfl, r⟩
theorem rbl2 {F H : Hp} {xs : List V} {d e : D} (r : RBL F H xs [d, e]) : ∃ v w, xs = [v, w] ∧ RB F H v d ∧ RB F H w e := by
  cases r with
  | cons r t =>
    cases t with
    | cons r' t =>
      cases t
      exact ⟨_, _, rfl, r, r'⟩
theorem c_len : CallR X (.builtin "len") (rCS dLen) := by
  intro pins s σ H xs us Q I rx h
  obtain ⟨F, ds, d, sF, rb, e, q⟩ := h
  unfold dLen at e
  split at e
  · rename_i x
    obtain ⟨v, rfl, r⟩ := rbl1 rb
    by_cases hl : x.length ≤ sizeLine
    · rw [if_pos hl] at e
      cases e
      exact call_len pins s σ H _ us Q I rx ⟨v, x.length, rfl, by rw [r.str]; exact ⟨hl, rfl⟩, fin_s sF (.int _) q⟩
    · rw [if_neg hl] at e
      cases e
  · cases e
    obtain ⟨v, rfl, r⟩ := rbl1 rb
    obtain ⟨a, vs, rfl, h, p⟩ := r.lst sF
    refine call_len pins s σ H _ us Q I rx ⟨_, vs.length, rfl, .inl ⟨vs, .inl (.inl h), rfl⟩, ?_⟩
    rw [p.length]
    exact fin_s sF (.int _) q
  · cases e
    obtain ⟨v, rfl, r⟩ := rbl1 rb
    obtain ⟨a, vs, rfl, h, p⟩ := r.tup
    refine call_len pins s σ H _ us Q I rx ⟨_, vs.length, rfl, .inr ⟨vs, .inl (.inl (sF _ _ h)), rfl⟩, ?_⟩
    rw [p.length]
    exact fin_s sF (.int _) q
  · rename_i ns
    cases e
    obtain ⟨v, rfl, r⟩ := rbl1 rb
    obtain ⟨a, ob, rfl, h⟩ := r.scr
    refine call_len pins s σ H _ us Q I rx ⟨_, (ns.map V.int).length, rfl, .inl ⟨_, .inl (.inr ⟨ob, sF _ _ h⟩), rfl⟩, ?_⟩
    rw [List.length_map]
    exact fin_s sF (.int _) q
  · cases e
    obtain ⟨v, rfl, r⟩ := rbl1 rb
    obtain ⟨a, kvs, rfl, h, p⟩ := r.dicK sF
    obtain ⟨u, rfl, ru⟩ := vals1 rx
    cases ru
    refine d_len I (.inl h) fun t s' I' => ⟨.int _, H, I', ⟨t, rfl⟩, ?_⟩
    rw [p.length]
    exact fin_s sF (.int _) q
  · cases e
theorem c_abs : CallR X (.builtin "abs") (rCS dAbs) := by
  intro pins s σ H xs us Q I rx h
  obtain ⟨F, ds, d, sF, rb, e, q⟩ := h
  unfold dAbs at e
  split at e
  · cases e
    obtain ⟨v, rfl, r⟩ := rbl1 rb
    exact call_abs pins s σ H _ us Q I rx ⟨_, by rw [r.int], fin_s sF (.int _) q⟩
  · cases e
theorem c_int : CallR X (.type "int") (rCS dInt) := by
  intro pins s σ H xs us Q I rx h
  obtain ⟨F, ds, d, sF, rb, e, q⟩ := h
  unfold dInt at e
  split at e
  · cases e
    obtain ⟨v, rfl, r⟩ := rbl1 rb
    exact call_int1 pins s σ H _ us Q I rx (.inl ⟨_, by rw [r.int], fin_s sF (.int _) q⟩)
  · cases e
    obtain ⟨v, rfl, r⟩ := rbl1 rb
    exact call_int1 pins s σ H _ us Q I rx (.inr ⟨_, by rw [r.bl], fin_s sF (.int _) q⟩)
  · cases e
theorem c_gcd : CallR X (.builtin "math.gcd") (rCS dGcd) := by
  intro pins s σ H xs us Q I rx h
  obtain ⟨F, ds, d, sF, rb, e, q⟩ := h
  unfold dGcd at e
  split at e
  · cases e
    obtain ⟨v, w, rfl, r, r'⟩ := rbl2 rb
    exact cr_gcd pins s σ H _ us Q I rx ⟨_, _, by rw [r.int, r'.int], fin_s sF (.int _) q⟩
  · cases e
theorem c_tuple : CallR X (.type "tuple") (rCN dTuple) := by
  intro pins s σ H xs us Q I rx h
  obtain ⟨F, ds, d, sF, rb, e, q⟩ := h
  unfold dTuple at e
  split at e
  · cases e
    obtain ⟨v, rfl, r⟩ := rbl1 rb
    obtain ⟨a, vs, rfl, h, p⟩ := r.lst sF
    exact call_tuple_of pins s σ H _ us Q I rx ⟨a, vs, rfl, .inl ⟨.inl (.inl h), fin_tup sF p q⟩⟩
  · cases e
    obtain ⟨v, rfl, r⟩ := rbl1 rb
    obtain ⟨a, vs, rfl, h, p⟩ := r.tup
    exact call_tuple_of pins s σ H _ us Q I rx ⟨a, vs, rfl, .inr ⟨.inl (.inl (sF _ _ h)), fin_v sF (r.rp rfl) rfl q⟩⟩
  · cases e
theorem c_list : CallR X (.type "list") (rCN dList) := by
  intro pins s σ H xs us Q I rx h
  obtain ⟨F, ds, d, sF, rb, e, q⟩ := h
  unfold dList at e
  split at e
  · cases e
    obtain ⟨v, rfl, r⟩ := rbl1 rb
    obtain ⟨a, vs, rfl, h, p⟩ := r.lst sF
    exact call_list_of pins s σ H _ us Q I rx ⟨a, vs, rfl, .inl (.inl (.inl h)), fin_new sF (.lst p) rfl q⟩
  · cases e
    obtain ⟨v, rfl, r⟩ := rbl1 rb
    obtain ⟨a, vs, rfl, h, p⟩ := r.tup
    exact call_list_of pins s σ H _ us Q I rx ⟨a, vs, rfl, .inr (.inl (.inl (sF _ _ h))), fin_new sF (.lst p) rfl q⟩
  · cases e
theorem c_sum (hc : X.calm = true) : CallR X (.builtin "sum") (rCS dSum) := by
  intro pins s σ H xs us Q I rx h
  obtain ⟨F, ds, d, sF, rb, e, q⟩ := h
  unfold dSum at e
  split at e
  · rename_i ys
    cases hi : D.ints? ys with
    | none =>
      rw [hi] at e
      cases e
    | some is =>
      rw [hi] at e
      cases e
      obtain ⟨v, rfl, r⟩ := rbl1 rb
      obtain ⟨a, vs, rfl, h, p⟩ := r.lst sF
      rw [ints_eq hi] at p
      rw [p.ints] at h
      exact cr_sum hc pins s σ H _ us Q I rx ⟨a, is, rfl, .inl (.inl h), fin_s sF (.int _) q⟩
  · cases e
theorem c_all (hc : X.calm = true) : CallR X (.builtin "all") (rCS dAll) := by
  intro pins s σ H xs us Q I rx h
  obtain ⟨F, ds, d, sF, rb, e, q⟩ := h
  unfold dAll at e
  split at e
  · rename_i ys
    cases hi : D.bls? ys with
    | none =>
      rw [hi] at e
      cases e
    | some is =>
      rw [hi] at e
      cases e
      obtain ⟨v, rfl, r⟩ := rbl1 rb
      obtain ⟨a, vs, rfl, h, p⟩ := r.lst sF
      rw [bls_eq hi] at p
      rw [p.bls] at h
      exact cr_all hc pins s σ H _ us Q I rx ⟨a, is, rfl, .inl (.inl h), fin_s sF (.bl _) q⟩
  · cases e
theorem c_any (hc : X.calm = true) : CallR X (.builtin "any") (rCS dAny) := by
  intro pins s σ H xs us Q I rx h
  obtain ⟨F, ds, d, sF, rb, e, q⟩ := h
  unfold dAny at e
  split at e
  · rename_i ys
    cases hi : D.bls? ys with
    | none =>
      rw [hi] at e
      cases e
    | some is =>
      rw [hi] at e
      cases e
      obtain ⟨v, rfl, r⟩ := rbl1 rb
      obtain ⟨a, vs, rfl, h, p⟩ := r.lst sF
      rw [bls_eq hi] at p
      rw [p.bls] at h
      exact cr_any hc pins s σ H _ us Q I rx ⟨a, is, rfl, .inl (.inl h), fin_s sF (.bl _) q⟩
  · cases e

/-! ### min, max, sorted of data -/
theorem ord_mem {ds : List D} (h : ordOk ds = true) : (∀ a ∈ ds, a.ok = true ∧ a.isNon = false) ∧ ∀ a ∈ ds, ∀ b ∈ ds, D.alk a b = true := by
  simp only [ordOk, List.all_eq_true, Bool.and_eq_true, Bool.not_eq_true'] at h
  exact ⟨fun a ha => (h a ha).1, fun a ha => (h a ha).2⟩
theorem ord_alike {ds : List D} (h : ordOk ds = true) : PySem.W.AlikeAll (D.pyL ds) := by
  obtain ⟨h1, h2⟩ := ord_mem h
  rw [pyL_map]
  refine ⟨fun x hx y hy => ?_, fun x hx => ?_⟩
  · obtain ⟨a, ha, rfl⟩ := List.mem_map.mp hx
    obtain ⟨b, hb, rfl⟩ := List.mem_map.mp hy
    exact alk_py 16 a b (h1 a ha).1 (h2 a ha b hb)
  · obtain ⟨a, ha, rfl⟩ := List.mem_map.mp hx
    have := (h1 a ha).2
    cases a <;> simp [D.py, D.isNon] at this ⊢
theorem ord_depth {ds : List D} (h : ordOk ds = true) : PyData.depthAll (D.pyL ds) ≤ 16 := (layL_py 16 (lay_py 16) ds fun x hx => ((ord_mem h).1 x hx).1).2
theorem fold_mem {f : D → D → Bool} : ∀ (ds : List D) (d : D), ds.foldl (fun a y => if f a y = true then y else a) d ∈ d :: ds
  | [], d => List.mem_singleton.mpr rfl
  | y :: ds, d => by
    rw [List.foldl_cons]
    have ih := fold_mem (f := f) ds (if f d y = true then y else d)
    rcases List.mem_cons.mp ih with h | h
    · rw [h]
      by_cases hc : f d y = true
      · rw [if_pos hc]
        exact List.mem_cons_of_mem _ List.mem_cons_self
      · rw [if_neg hc]
        exact List.mem_cons_self
    · exact List.mem_cons_of_mem _ (List.mem_cons_of_mem _ h)
theorem minD_py : ∀ (ds : List D) (d : D), ordOk (d :: ds) = true → PySem.W.minD d.py (D.pyL ds) = (dMinL d ds).py := by
  intro ds d h
  obtain ⟨h1, h2⟩ := ord_mem h
  have key : ∀ (es : List D) (a : D), a ∈ d :: ds → (∀ y ∈ es, y ∈ d :: ds) → PySem.W.minD a.py (D.pyL es) = (dMinL a es).py := by
    intro es
    induction es with
    | nil => intro a _ _; rfl
    | cons y es ih =>
      intro a ha hes
      have hy := hes y List.mem_cons_self
      unfold PySem.W.minD dMinL
      rw [D.pyL, List.foldl_cons, List.foldl_cons, lt_py 16 y a (h1 y hy).1 (h1 a ha).1 (h2 y hy a ha)]
      by_cases hc : D.lt y a = true
      · rw [if_pos hc, if_pos hc]
        exact ih y hy fun z hz => hes z (List.mem_cons_of_mem _ hz)
      · rw [if_neg hc, if_neg hc]
        exact ih a ha fun z hz => hes z (List.mem_cons_of_mem _ hz)
  exact key ds d List.mem_cons_self fun y hy => List.mem_cons_of_mem _ hy
theorem maxD_py : ∀ (ds : List D) (d : D), ordOk (d :: ds) = true → PySem.W.maxD d.py (D.pyL ds) = (dMaxL d ds).py := by
  intro ds d h
  obtain ⟨h1, h2⟩ := ord_mem h
  have key : ∀ (es : List D) (a : D), a ∈ d :: ds → (∀ y ∈ es, y ∈ d :: ds) → PySem.W.maxD a.py (D.pyL es) = (dMaxL a es).py := by
    intro es
    induction es with
    | nil => intro a _ _; rfl
    | cons y es ih =>
      intro a ha hes
      have hy := hes y List.mem_cons_self
      unfold PySem.W.maxD dMaxL
      rw [D.pyL, List.foldl_cons, List.foldl_cons, lt_py 16 a y (h1 a ha).1 (h1 y hy).1 (h2 a ha y hy)]
      by_cases hc : D.lt a y = true
      · rw [if_pos hc, if_pos hc]
        exact ih y hy fun z hz => hes z (List.mem_cons_of_mem _ hz)
      · rw [if_neg hc, if_neg hc]
        exact ih a ha fun z hz => hes z (List.mem_cons_of_mem _ hz)
  exact key ds d List.mem_cons_self fun y hy => List.mem_cons_of_mem _ hy
theorem min_mem (d : D) (ds : List D) : dMinL d ds ∈ d :: ds := fold_mem (f := fun a y => D.lt y a) ds d
theorem max_mem (d : D) (ds : List D) : dMaxL d ds ∈ d :: ds := fold_mem (f := fun a y => D.lt a y) ds d
/-- the value at a place that reads as one of the data stands for it -/
theorem place_of {F H : Hp} {pins : List (Addr × Obj)} {σ : St} {s : Shared} {vs : List V} {its : List Value} {ds : List D} {m : D} {i : Nat} {u : Value} {h' : Heap} {bs : List Addr} (sF : Same F H) (I : Inv X pins σ H s) (rv : Vals vs its) (p : RepL F vs ds) (ho : ordOk ds = true) (hm : m ∈ ds)
    (hu : its[i]? = some u) (hr : Reads h' u m.py bs) (k : ∀ b o, s.heap.get? b = some o → h'.get? b = some o) : ∃ v, RelV v u ∧ Rep F v m := by
  obtain ⟨h1, h2⟩ := ord_mem ho
  have hi : i < its.length := (List.getElem?_eq_some_iff.mp hu).1
  have hi' : i < ds.length := by rw [← p.length, rv.length]; exact hi
  obtain ⟨v, g1, g2⟩ := p.get (List.getElem?_eq_getElem hi')
  obtain ⟨u', g3, g4⟩ := rv.get g1
  rw [hu] at g3
  cases g3
  have hd : ds[i] ∈ ds := List.getElem_mem hi'
  obtain ⟨as, q1⟩ := Dp.reads I _ v u (rep_dp (K := X.K) sF 16 v _ (h1 _ hd).1 g2) g4
  have q2 := PySem.W.reads_keeps k q1
  have e := PySem.W.alike_unique _ _ u as bs (alk_py 16 _ m (h1 _ hd).1 (h2 _ hd m hm)) q2 hr
  have e' := py_inj 16 _ m (h1 _ hd).1 (h1 m hm).1 e
  rw [e'] at g2
  exact ⟨v, g4, g2⟩
theorem EP_kept {F H : Hp} {pins : List (Addr × Obj)} {σ : St} {s : Shared} {Q : VK} {v : V} {u : Value} {d : D} {h' : Heap} {tk : Nat} (sF : Same F H) (I : Inv X pins σ H s) (k : ∀ b o, s.heap.get? b = some o → h'.get? b = some o) (rv : RelV v u) (r : Rep F v d) (q : ∀ v F' H', Up F H F' H' → Rep F' v d → Q v H') :
    EP X pins σ Q u { s with heap := h', toks := tk } := ⟨v, H, I.kept k, rv, fin_s sF r q⟩
theorem c_min (hc : X.calm = true) (hu : X.A.units + 65 < cLine) : CallR X (.builtin "min") (rCS dMin) := by
  intro pins s σ H xs us Q I rx h
  obtain ⟨F, ds, d, sF, rb, e, q⟩ := h
  unfold dMin at e
  split at e
  · cases e
    obtain ⟨v, w, rfl, r, r'⟩ := rbl2 rb
    exact call_min2 hc pins s σ H _ us Q I rx ⟨_, _, by rw [r.int, r'.int], fin_s sF (.int _) q⟩
  · rename_i d0 ds0
    by_cases ho : ordOk (d0 :: ds0) = true
    · rw [if_pos ho] at e
      cases e
      obtain ⟨v, rfl, r⟩ := rbl1 rb
      obtain ⟨a, vs, rfl, h, p⟩ := r.lst sF
      obtain ⟨u, rfl, ru⟩ := vals1 rx
      cases ru
      obtain ⟨its, rv, pl, hz⟩ := I.list (.inl (.inl h) : SqL X.K H a vs)
      obtain ⟨as, ra⟩ := Dp.readsAll I (D.pyL (d0 :: ds0)) vs its (repL_dp 16 (rep_dp sF 16) vs _ (fun x hx => ((ord_mem ho).1 x hx).1) p) rv
      refine PySem.W.min_list_data (I.ok.hd hc) pl.isList (vs := its.toArray) (by simpa [D.pyL] using ra) (by simpa [D.pyL] using ord_alike ho) (by have := ord_depth ho; simp only [D.pyL] at this; omega) fun i u h' tk bs hi hr hk => ?_
      rw [minD_py ds0 d0 ho] at hr
      obtain ⟨z, rz, pz⟩ := place_of sF I rv p ho (min_mem d0 ds0) (by simpa using hi) hr hk
      exact EP_kept sF I hk rz pz q
    · rw [if_neg ho] at e
      cases e
  · rename_i d0 ds0
    by_cases ho : ordOk (d0 :: ds0) = true
    · rw [if_pos ho] at e
      cases e
      obtain ⟨v, rfl, r⟩ := rbl1 rb
      obtain ⟨a, vs, rfl, h, p⟩ := r.tup
      obtain ⟨u, rfl, ru⟩ := vals1 rx
      cases ru
      obtain ⟨its, rv, pl, hz⟩ := I.tuple (.inl (.inl (sF _ _ h)) : SqT X.K H a vs)
      obtain ⟨as, ra⟩ := Dp.readsAll I (D.pyL (d0 :: ds0)) vs its (repL_dp 16 (rep_dp sF 16) vs _ (fun x hx => ((ord_mem ho).1 x hx).1) p) rv
      refine PySem.W.min_tuple_data (I.ok.hd hc) (show s.heap.IsTuple a its.toArray from pl) (vs := its.toArray) (by simpa [D.pyL] using ra) (by simpa [D.pyL] using ord_alike ho) (by have := ord_depth ho; simp only [D.pyL] at this; omega) fun i u h' tk bs hi hr hk => ?_
      rw [minD_py ds0 d0 ho] at hr
      obtain ⟨z, rz, pz⟩ := place_of sF I rv p ho (min_mem d0 ds0) (by simpa using hi) hr hk
      exact EP_kept sF I hk rz pz q
    · rw [if_neg ho] at e
      cases e
  · cases e
theorem c_max (hc : X.calm = true) (hu : X.A.units + 65 < cLine) : CallR X (.builtin "max") (rCS dMax) := by
  intro pins s σ H xs us Q I rx h
  obtain ⟨F, ds, d, sF, rb, e, q⟩ := h
  unfold dMax at e
  split at e
  · cases e
    obtain ⟨v, w, rfl, r, r'⟩ := rbl2 rb
    exact call_max2 hc pins s σ H _ us Q I rx ⟨_, _, by rw [r.int, r'.int], fin_s sF (.int _) q⟩
  · rename_i d0 ds0
    by_cases ho : ordOk (d0 :: ds0) = true
    · rw [if_pos ho] at e
      cases e
      obtain ⟨v, rfl, r⟩ := rbl1 rb
      obtain ⟨a, vs, rfl, h, p⟩ := r.lst sF
      obtain ⟨u, rfl, ru⟩ := vals1 rx
      cases ru
      obtain ⟨its, rv, pl, hz⟩ := I.list (.inl (.inl h) : SqL X.K H a vs)
      obtain ⟨as, ra⟩ := Dp.readsAll I (D.pyL (d0 :: ds0)) vs its (repL_dp 16 (rep_dp sF 16) vs _ (fun x hx => ((ord_mem ho).1 x hx).1) p) rv
      refine PySem.W.max_list_data (I.ok.hd hc) pl.isList (vs := its.toArray) (by simpa [D.pyL] using ra) (by simpa [D.pyL] using ord_alike ho) (by have := ord_depth ho; simp only [D.pyL] at this; omega) fun i u h' tk bs hi hr hk => ?_
      rw [maxD_py ds0 d0 ho] at hr
      obtain ⟨z, rz, pz⟩ := place_of sF I rv p ho (max_mem d0 ds0) (by simpa using hi) hr hk
      exact EP_kept sF I hk rz pz q
    · rw [if_neg ho] at e
      cases e
  · rename_i d0 ds0
    by_cases ho : ordOk (d0 :: ds0) = true
    · rw [if_pos ho] at e
      cases e
      obtain ⟨v, rfl, r⟩ := rbl1 rb
      obtain ⟨a, vs, rfl, h, p⟩ := r.tup
      obtain ⟨u, rfl, ru⟩ := vals1 rx
      cases ru
      obtain ⟨its, rv, pl, hz⟩ := I.tuple (.inl (.inl (sF _ _ h)) : SqT X.K H a vs)
      obtain ⟨as, ra⟩ := Dp.readsAll I (D.pyL (d0 :: ds0)) vs its (repL_dp 16 (rep_dp sF 16) vs _ (fun x hx => ((ord_mem ho).1 x hx).1) p) rv
      refine PySem.W.max_tuple_data (I.ok.hd hc) (show s.heap.IsTuple a its.toArray from pl) (vs := its.toArray) (by simpa [D.pyL] using ra) (by simpa [D.pyL] using ord_alike ho) (by have := ord_depth ho; simp only [D.pyL] at this; omega) fun i u h' tk bs hi hr hk => ?_
      rw [maxD_py ds0 d0 ho] at hr
      obtain ⟨z, rz, pz⟩ := place_of sF I rv p ho (max_mem d0 ds0) (by simpa using hi) hr hk
      exact EP_kept sF I hk rz pz q
    · rw [if_neg ho] at e
      cases e
  · cases e

/-! ### sorted -/
theorem srt_ord {ds : List D} (h : srtOk ds = true) : ordOk ds = true := (Bool.and_eq_true_iff.mp h).1
theorem srt_able {ds : List D} (h : srtOk ds = true) : PySem.W.Sortable (ds.map D.py) := by
  have h' := (Bool.and_eq_true_iff.mp h).2
  have hn := (ord_mem (srt_ord h)).1
  rcases Bool.or_eq_true_iff.mp h' with h' | h'
  · left
    intro d hd
    obtain ⟨a, ha, rfl⟩ := List.mem_map.mp hd
    have := List.all_eq_true.mp h' a ha
    cases a with
    | tup xs =>
      cases xs with
      | nil => cases this
      | cons x xs => exact ⟨_, _, by rw [D.py, D.pyL]⟩
    | _ => cases this
  · right
    intro d hd
    obtain ⟨a, ha, rfl⟩ := List.mem_map.mp hd
    have h1 := List.all_eq_true.mp h' a ha
    have h2 := (hn a ha).2
    cases a <;> simp [D.py, D.isNon] at h1 h2 ⊢
theorem dataLe_py {a b : D} (ha : a.ok = true) (hb : b.ok = true) (h : D.alk b a = true) : PySem.W.dataLe false D.py a b = !D.lt b a := by
  rw [← lt_py 16 b a hb ha h]
  rfl
theorem dSrt_eq {ds : List D} (h : ordOk ds = true) : ds.mergeSort (PySem.W.dataLe false D.py) = dSrt ds := by
  obtain ⟨h1, h2⟩ := ord_mem h
  exact PySem.W.sort_congr fun a ha b hb => dataLe_py (h1 a ha).1 (h1 b hb).1 (h2 b hb a ha)
/-- values that stand for data -/
def Stands (F : Hp) (u : Value) (d : D) : Prop := ∃ v, RelV v u ∧ Rep F v d
theorem each_of {F : Hp} : ∀ {vs : List V} {its : List Value} {ds : List D}, Vals vs its → RepL F vs ds → PySem.W.EachIs (Stands F) its ds
  | _, _, _, .nil, .nil => .nil
  | _, _, _, .cons r t, .cons p q => .cons ⟨_, r, p⟩ (each_of t q)
theorem of_each {F : Hp} : ∀ {its : List Value} {ds : List D}, PySem.W.EachIs (Stands F) its ds → ∃ vs, Vals vs its ∧ RepL F vs ds
  | _, _, .nil => ⟨[], .nil, .nil⟩
  | _, _, .cons ⟨v, r, p⟩ t => by
    obtain ⟨vs, h1, h2⟩ := of_each t
    exact ⟨v :: vs, .cons r h1, .cons p h2⟩
theorem each_reads {F H : Hp} {pins : List (Addr × Obj)} {σ : St} {s : Shared} (sF : Same F H) (I : Inv X pins σ H s) : ∀ {vs : List V} {its : List Value} {ds : List D}, (∀ d ∈ ds, d.ok = true) → Vals vs its → RepL F vs ds → PySem.W.EachIs (fun v b => ∃ as, Reads s.heap v (D.py b) as) its ds
  | _, _, _, _, .nil, .nil => .nil
  | _, _, _, h, .cons r t, .cons p q => .cons (Dp.reads I _ _ _ (rep_dp (K := X.K) sF 16 _ _ (h _ List.mem_cons_self) p) r) (each_reads sF I (fun d hd => h d (List.mem_cons_of_mem _ hd)) t q)
theorem alike_map {ds : List D} (h : ordOk ds = true) : PySem.W.AllAlike (ds.map D.py) := by
  obtain ⟨h1, h2⟩ := ord_mem h
  intro x hx y hy
  obtain ⟨a, ha, rfl⟩ := List.mem_map.mp hx
  obtain ⟨b, hb, rfl⟩ := List.mem_map.mp hy
  exact alk_py 16 a b (h1 a ha).1 (h2 a ha b hb)
theorem dSrt_length (ds : List D) : (dSrt ds).length = ds.length := List.length_mergeSort _
/-- what sorted leaves -/
theorem sorted_end {F H : Hp} {pins : List (Addr × Obj)} {σ : St} {s : Shared} {Q : VK} {vs : List V} {its out : List Value} {ds : List D} (sF : Same F H) (I : Inv X pins σ H s) (p : RepL F vs ds) (hz : vs.length ≤ sizeLine) (ho : ordOk ds = true)
    (he : PySem.W.EachIs (Stands F) out (ds.mergeSort (PySem.W.dataLe false D.py))) (q : ∀ v F' H', Up F H F' H' → RN H F' H' v (.lst (dSrt ds)) → Q v H') :
    EP X pins σ Q (.ref (s.heap.objs.size + 1)) { s with heap := PyProof.Rows.sortedAll s.heap its out.toArray } := by
  rw [dSrt_eq ho] at he
  obtain ⟨ws, hw1, hw2⟩ := of_each he
  obtain ⟨ep, hat⟩ := PyProof.Rows.sortedAll_at s.heap its out.toArray
  have hlen : ws.length ≤ sizeLine := by
    rw [hw2.length, dSrt_length, ← p.length]
    exact hz
  have nH : H (s.heap.objs.size + 1) = none := I.hok.fresh (Nat.le_succ _)
  exact ⟨.ref _, upd H (s.heap.objs.size + 1) (.lst ws), I.laid (t' := s.toks) (fun _ _ => PyProof.Rows.sortedAll_old) (Nat.le_succ _) ⟨hlen, out, ep, hw1, hat⟩, rfl, fin_new sF (.lst hw2) rfl q _ nH⟩
/-- sorted of a list at l that stands for ds -/
theorem sorted_of {F H : Hp} {pins : List (Addr × Obj)} {σ : St} {s : Shared} {Q : VK} {l : Addr} {vs : List V} {its : List Value} {ds : List D} (hu : X.A.units + 65 < cLine) (sF : Same F H) (I : Inv X pins σ H s) (hl : s.heap.IsList l its.toArray) (rv : Vals vs its) (p : RepL F vs ds) (hz : vs.length ≤ sizeLine)
    (ho : srtOk ds = true) (q : ∀ v F' H', Up F H F' H' → RN H F' H' v (.lst (dSrt ds)) → Q v H') : wpAny (model X.prog X.w) X.A (call (.builtin "sorted") [.ref l]) (EP X pins σ Q) X.xe s := by
  have hok := srt_ord ho
  obtain ⟨h1, h2⟩ := ord_mem hok
  refine PySem.W.sorted_data (vs := its) (bs := ds) (enc := D.py) hl (each_of rv p) (each_reads sF I (fun d hd => (h1 d hd).1) rv p) (alike_map hok) (srt_able ho) (by rw [← p.length]; exact hz) (fun b hb => ?_) fun out hlen he => sorted_end sF I p hz hok he q
  have := (lay_py 16 b (h1 b hb).1).2
  omega
/-- a tuple's items gathered -/
theorem collect_tup {A : Around} {E : Value → Shared → Prop} {s : Shared} {l : Addr} {vs : List Value} {Q : List Value → Shared → Prop} (hl : PyProof.Rows.IsTup s.heap l vs.toArray) (hz : vs.length ≤ sizeLine)
    (h : Q vs { s with heap := (s.heap.push (PyProof.Rows.seqObj "list" #[] 0)).update s.heap.objs.size (Obj.mapSeq (· ++ vs.toArray)) }) : wpAny (model X.prog X.w) A (collect (.ref l)) Q E s := by
  obtain ⟨o, ho, hc, n, hd⟩ := hl
  unfold collect
  refine wpAny_bind (wpAny_runValue (codeAny_builtin PyProof.Rows.entry_proto_collect' ?_))
  refine wpAny_bind (wpAny_newList (wpAny_pure ⟨Code.quiet_builtin _ (by decide +kernel), codeAny_builtin PyProof.Rows.entry_list_iadd' ?_⟩))
  have hg : (s.heap.push (PyProof.Rows.seqObj "list" #[] 0)).get? l = some o := Heap.get?_push_of_some _ ho
  have hn : (s.heap.push (PyProof.Rows.seqObj "list" #[] 0)).get? s.heap.objs.size = some (PyProof.Rows.seqObj "list" #[] 0) := Heap.get?_push_size _ rfl
  show wpAny _ _ (Builtin.List.listExtendWith (.ref s.heap.objs.size) (.ref l) (.ref s.heap.objs.size)) _ _ { s with heap := s.heap.push (PyProof.Rows.seqObj "list" #[] 0) }
  unfold Builtin.List.listExtendWith
  refine wpAny_bind (wpAny_typeOf (T := "tuple") ⟨o, hg, hc⟩ ?_)
  rw [if_pos (by rw [show (Value.type "tuple" == Value.type "tuple") = true from rfl, Bool.or_true])]
  refine wpAny_bind (PyProof.Rows.listItems_at hg hd ?_)
  refine wpAny_bind (PyProof.Rows.listItems_at hn rfl ?_)
  rw [if_neg (by simp)]
  have room : ((#[] : Array Value) ++ vs.toArray).size ≤ sizeLine + 1 := by
    rw [Array.size_append, List.size_toArray]
    show 0 + vs.length ≤ _
    omega
  refine wpAny_bind (PyProof.Rows.listUpdate_at hn rfl ?_ (Nat.zero_le _) room)
  refine wpAny_pure ?_
  dsimp only
  refine wpAny_bind (wpAny_load (PyProof.Rows.get?_update_seq hn _) ?_)
  have en : ((#[] : Array Value) ++ vs.toArray).toList = vs := by simp
  have fin : Q ((#[] : Array Value) ++ vs.toArray).toList { s with heap := (s.heap.push (PyProof.Rows.seqObj "list" #[] 0)).update s.heap.objs.size (Obj.mapSeq (· ++ vs.toArray)) } := by
    rw [en]
    exact h
  exact wpAny_pure fin
/-- sorted of a tuple -/
theorem sortedT_of {F H : Hp} {pins : List (Addr × Obj)} {σ : St} {s : Shared} {Q : VK} {l : Addr} {vs : List V} {its : List Value} {ds : List D} (hu : X.A.units + 65 < cLine) (sF : Same F H) (I : Inv X pins σ H s) (hl : PyProof.Rows.IsTup s.heap l its.toArray) (rv : Vals vs its) (p : RepL F vs ds) (hz : vs.length ≤ sizeLine)
    (ho : srtOk ds = true) (q : ∀ v F' H', Up F H F' H' → RN H F' H' v (.lst (dSrt ds)) → Q v H') : wpAny (model X.prog X.w) X.A (call (.builtin "sorted") [.ref l]) (EP X pins σ Q) X.xe s := by
  have hok := srt_ord ho
  obtain ⟨h1, h2⟩ := ord_mem hok
  have hL : its.length ≤ sizeLine := by
    rw [← rv.length]
    exact hz
  have er := each_reads sF I (fun d hd => (h1 d hd).1) rv p
  have er' : PySem.W.EachIs (fun v b => ∃ as, Reads (PySem.W.sortingHeap (PySem.W.copyHeap s.heap its) (s.heap.objs.size + 1) its) v (D.py b) as) its ds := er.mono fun _ _ ⟨as, r⟩ => ⟨as, PyProof.Rows.Reads.keeps (fun _ _ => PySem.W.sorting_copy_old) r⟩
  refine PyProof.Rows.call_function_entry_kw PyProof.Rows.kind_sorted PyProof.Rows.plain_sorted PyProof.Rows.entry_sorted (PyProof.Rows.args_sorted1 _) ?_
  unfold Builtin.«sorted»
  refine wpAny_bind (m := checkCount "sorted" 1 1 _) (wpAny_pure ?_)
  refine wpAny_bind (collect_tup hl hL ?_)
  refine wpAny_bind (wpAny_newList ?_ hL)
  have hsz : ((s.heap.push (PyProof.Rows.seqObj "list" #[] 0)).update s.heap.objs.size (Obj.mapSeq (· ++ its.toArray))).objs.size = s.heap.objs.size + 1 := by
    rw [Heap.size_update, PyProof.Rows.size_push']
  show wpAny _ _ _ _ _ { s with heap := PySem.W.copyHeap s.heap its }
  rw [hsz]
  have S : PySem.W.SortsAt X.prog X.w X.A.in1.in1 { s with heap := PySem.W.sortingHeap (PySem.W.copyHeap s.heap its) (s.heap.objs.size + 1) its } (PySem.W.dataKind (PySem.W.sortingHeap (PySem.W.copyHeap s.heap its) (s.heap.objs.size + 1) its) (ds.map D.py)) its :=
    PySem.W.SortsAt.data (s := { s with heap := PySem.W.sortingHeap (PySem.W.copyHeap s.heap its) (s.heap.objs.size + 1) its }) (PySem.W.each_map (R := fun v d => ∃ as, Reads (PySem.W.sortingHeap (PySem.W.copyHeap s.heap its) (s.heap.objs.size + 1) its) v d as) D.py er') (alike_map hok) (srt_able ho) (PySem.W.bound_map fun b hb => by
      have := (lay_py 16 b (h1 b hb).1).2
      show X.A.units + 1 + 1 + _ < _
      omega)
  refine wpAny_bind (wpAny_holding (PyProof.Rows.wpAny_call_entry_kw PyProof.Rows.slot_list_sort ⟨_, PySem.W.copyHeap_at s.heap its, rfl⟩ PyProof.Rows.entry_list_sort ?srt (PyProof.Rows.args_list_sort _)))
  case srt =>
    refine PySem.W.list_sort_vals (s := { s with heap := PySem.W.copyHeap s.heap its }) (PySem.W.copyHeap_at s.heap its) S hL ?_
    refine ⟨_, rfl, wpAny_pure ⟨_, rfl, ?_⟩⟩
    exact sorted_end sF I p hz hok (PySem.W.sortVals_data false (each_of rv p) er' (alike_map hok)) q
theorem c_sorted (hu : X.A.units + 65 < cLine) : CallR X (.builtin "sorted") (rCN dSorted) := by
  intro pins s σ H xs us Q I rx h
  obtain ⟨F, ds, d, sF, rb, e, q⟩ := h
  unfold dSorted at e
  split at e
  · rename_i ys
    by_cases ho : srtOk ys = true
    · rw [if_pos ho] at e
      cases e
      obtain ⟨v, rfl, r⟩ := rbl1 rb
      obtain ⟨a, vs, rfl, h, p⟩ := r.lst sF
      obtain ⟨u, rfl, ru⟩ := vals1 rx
      cases ru
      obtain ⟨its, rv, pl, hz⟩ := I.list (.inl (.inl h) : SqL X.K H a vs)
      exact sorted_of hu sF I pl.isList rv p hz ho q
    · rw [if_neg ho] at e
      cases e
  · rename_i ys
    by_cases ho : srtOk ys = true
    · rw [if_pos ho] at e
      cases e
      obtain ⟨v, rfl, r⟩ := rbl1 rb
      obtain ⟨a, vs, rfl, h, p⟩ := r.tup
      obtain ⟨u, rfl, ru⟩ := vals1 rx
      cases ru
      obtain ⟨its, rv, pl, hz⟩ := I.tuple (.inl (.inl (sF _ _ h)) : SqT X.K H a vs)
      exact sortedT_of hu sF I pl rv p hz ho q
    · rw [if_neg ho] at e
      cases e
  · cases e
/-! ### isinstance -/
def D.ty? : D → Option String
  | .non => some "NoneType"
  | .bl _ => some "bool"
  | .int _ => some "int"
  | .str _ => some "str"
  | .tup _ => some "tuple"
  | .lst _ => some "list"
  | .scr _ => some "list"
  | .dic _ _ => some "dict"
  | .set _ => none
theorem ty_of {K : PySem.W.Frag} {F H : Hp} {v : V} {d : D} {t : String} (sF : Same F H) (r : RB F H v d) (h : d.ty? = some t) : TyX K H v (.type t) := by
  cases d with
  | non => cases h; rw [r.non]; exact .base .non
  | bl b => cases h; rw [r.bl]; exact .base (.bl b)
  | int i => cases h; rw [r.int]; exact .base (.int i)
  | str x => cases h; rw [r.str]; exact .base (.str x)
  | tup ds =>
    cases h
    obtain ⟨a, vs, rfl, h, _⟩ := r.tup
    exact .base (.tup (sF _ _ h))
  | lst ds =>
    cases h
    obtain ⟨a, vs, rfl, h, _⟩ := r.lst sF
    exact .base (.lst h)
  | scr ns =>
    cases h
    obtain ⟨a, ob, rfl, h⟩ := r.scr
    exact .base (.frz (sF _ _ h))
  | dic t es =>
    cases h
    cases t with
    | false =>
      obtain ⟨a, kvs, rfl, h, _⟩ := r.dicK sF
      exact .base (.dK h)
    | true =>
      obtain ⟨a, kvs, rfl, h, _⟩ := r.dicT sF
      exact .base (.dT h)
  | set _ => cases h
theorem kit_int : kitB "NoneType" "int" = some false ∧ kitB "bool" "int" = some true ∧ kitB "int" "int" = some true ∧ kitB "str" "int" = some false ∧ kitB "tuple" "int" = some false ∧ kitB "list" "int" = some false ∧ kitB "dict" "int" = some false := by decide +kernel
theorem kit_bool : kitB "NoneType" "bool" = some false ∧ kitB "bool" "bool" = some true ∧ kitB "int" "bool" = some false ∧ kitB "str" "bool" = some false ∧ kitB "tuple" "bool" = some false ∧ kitB "list" "bool" = some false ∧ kitB "dict" "bool" = some false := by decide +kernel
theorem kit_str : kitB "NoneType" "str" = some false ∧ kitB "bool" "str" = some false ∧ kitB "int" "str" = some false ∧ kitB "str" "str" = some true ∧ kitB "tuple" "str" = some false ∧ kitB "list" "str" = some false ∧ kitB "dict" "str" = some false := by decide +kernel
theorem kit_tup : kitB "NoneType" "tuple" = some false ∧ kitB "bool" "tuple" = some false ∧ kitB "int" "tuple" = some false ∧ kitB "str" "tuple" = some false ∧ kitB "tuple" "tuple" = some true ∧ kitB "list" "tuple" = some false ∧ kitB "dict" "tuple" = some false := by decide +kernel
theorem kit_lst : kitB "NoneType" "list" = some false ∧ kitB "bool" "list" = some false ∧ kitB "int" "list" = some false ∧ kitB "str" "list" = some false ∧ kitB "tuple" "list" = some false ∧ kitB "list" "list" = some true ∧ kitB "dict" "list" = some false := by decide +kernel
theorem isi_kit {T : Ty} {d e : D} (h : dIsi T d = some e) : ∃ t k, d.ty? = some t ∧ e = .bl k ∧ kitB t T.name = some k := by
  cases T <;> cases d <;> first
    | (cases h; done)
    | (cases h; exact ⟨_, _, rfl, rfl, by first | exact kit_int.1 | exact kit_int.2.1 | exact kit_int.2.2.1 | exact kit_int.2.2.2.1 | exact kit_int.2.2.2.2.1 | exact kit_int.2.2.2.2.2.1 | exact kit_int.2.2.2.2.2.2⟩)
    | (cases h; exact ⟨_, _, rfl, rfl, by first | exact kit_bool.1 | exact kit_bool.2.1 | exact kit_bool.2.2.1 | exact kit_bool.2.2.2.1 | exact kit_bool.2.2.2.2.1 | exact kit_bool.2.2.2.2.2.1 | exact kit_bool.2.2.2.2.2.2⟩)
    | (cases h; exact ⟨_, _, rfl, rfl, by first | exact kit_str.1 | exact kit_str.2.1 | exact kit_str.2.2.1 | exact kit_str.2.2.2.1 | exact kit_str.2.2.2.2.1 | exact kit_str.2.2.2.2.2.1 | exact kit_str.2.2.2.2.2.2⟩)
    | (cases h; exact ⟨_, _, rfl, rfl, by first | exact kit_tup.1 | exact kit_tup.2.1 | exact kit_tup.2.2.1 | exact kit_tup.2.2.2.1 | exact kit_tup.2.2.2.2.1 | exact kit_tup.2.2.2.2.2.1 | exact kit_tup.2.2.2.2.2.2⟩)
    | (cases h; exact ⟨_, _, rfl, rfl, by first | exact kit_lst.1 | exact kit_lst.2.1 | exact kit_lst.2.2.1 | exact kit_lst.2.2.2.1 | exact kit_lst.2.2.2.2.1 | exact kit_lst.2.2.2.2.2.1 | exact kit_lst.2.2.2.2.2.2⟩)
def exIsi (T : Ty) (f : Ex) : Ex := ex1 (dIsi T) f
theorem pIsi {T : Ty} {e : Expr} {f : Ex} {x : Str} {p p2 pos : Pos} (hg : Gl X "isinstance") (hm : X.mg "isinstance" = none) (hg2 : Gl X x) (hm2 : X.mg x = none) (hb : bootBuiltins x = some (.type T.name)) (hx : x ≠ "__name__") (hxd : (x == ("__debug__" : Str)) = false) (hn : notStar e = true) (he : PE X e (eB f)) :
    PE X (.Call (.Name "isinstance" p) [e, .Name x p2] [] pos) (eS (exIsi T f)) := by
  have a2 : PA X [.Name x p2] (tCons (tC (.ty T.name)) tNil) := pa_cons (pe_bltn hg2 hm2 hb rfl hx hxd) pa_nil (star_cons rfl [] X.env)
  have a1 : PA X [e, .Name x p2] (tCons (eB f) (tCons (tC (.ty T.name)) tNil)) := pa_cons he a2 (star_cons hn _ X.env)
  exact (pe_callB call_isi hg hm (by decide +kernel) a1 (by decide) (by decide) (star_cons hn _ X.env) (by rw [star_cons rfl [] X.env]; rfl)).imp fun σ H Q ⟨F0, H0, F, env, d, r, e, q⟩ => by
    simp only [exIsi, ex1, Option.bind_eq_some_iff] at e
    obtain ⟨d1, h1, h2⟩ := e
    obtain ⟨t, k, h3, rfl, h5⟩ := isi_kit h2
    exact ⟨F0, H0, F, env, d1, r, h1, fun v F' H' u p => ⟨_, _, _, _, k, rfl, .ty _, ty_of u.s p h3, kit_ty h5, q _ F' H' u (.bl k)⟩⟩
end
end Sw

/-! Sw7: slices, dicts, lists changed, comprehensions, walks, own calls. -/
namespace Sw
open PySem L2
section
variable {X : Cx}
/-! ### slices -/
def eO (g : Env → Option (Option Int)) : TO := fun σ H Q => ∃ F0 H0 F env o, ER F0 H0 F H σ env ∧ g env = some o ∧ ∀ F' H', Up F H F' H' → Q o H'
def exPart : Option Ex → Env → Option (Option Int)
  | none, _ => some none
  | some f, env => (f env).bind fun d => match d with
    | .int i => some (some i)
    | _ => none
theorem pPart0 : PO X none (eO (exPart none)) := ⟨fun pins s σ H Q I ⟨F0, H0, F, env, o, r, e, q⟩ => po_none.run pins s σ H Q I (by
  cases e
  exact q F H (Up.refl r.s))⟩
theorem pPart1 {e : Expr} {f : Ex} (h : PE X e (eB f)) : PO X (some e) (eO (exPart (some f))) := ⟨fun pins s σ H Q I ⟨F0, H0, F, env, o, r, e, q⟩ => (po_some h).run pins s σ H Q I (by
  simp only [exPart, Option.bind_eq_some_iff] at e
  obtain ⟨d, h1, h2⟩ := e
  cases d with
  | int i =>
    cases h2
    exact ⟨F0, H0, F, env, _, r, h1, fun v F' H' u p => ⟨i, p.int, q F' H' u⟩⟩
  | _ => cases h2)⟩
def dCut (xs : List D) (lo hi : Option Int) : List D := (xs.drop (HT.sIx xs.length 0 lo)).take (HT.sIx xs.length xs.length hi - HT.sIx xs.length 0 lo)
def dSl : D → Option Int → Option Int → Option D
  | .lst xs, lo, hi => some (.lst (dCut xs lo hi))
  | .tup xs, lo, hi => some (.tup (dCut xs lo hi))
  | .str z, lo, hi => if z.length ≤ sizeLine then some (.str (cutS z lo hi)) else none
  | _, _, _ => none
theorem cut_rep {F : Hp} {vs : List V} {ds : List D} (r : RepL F vs ds) (lo hi : Option Int) : RepL F (cutV vs lo hi) (dCut ds lo hi) := by
  unfold cutV dCut
  rw [r.length]
  exact (r.drop _).take _
theorem cut_whole {ds : List D} {lo hi : Option Int} (h : HT.sIx ds.length 0 lo = 0 ∧ HT.sIx ds.length ds.length hi = ds.length) : dCut ds lo hi = ds := by
  unfold dCut
  rw [h.1, h.2, List.drop_zero, Nat.sub_zero, List.take_length]
theorem sl_all : SlR X (fun x lo hi H Q => ∃ F d1 d, Same F H ∧ RB F H x d1 ∧ dSl d1 lo hi = some d ∧ ∀ v F' H', Up F H F' H' → RN H F' H' v d → Q v H') := by
  intro pins s σ H x v vl vu lo hi sl Q I rx hs pl pu h
  obtain ⟨F, d1, d, sF, r, e, q⟩ := h
  cases d1 with
  | lst xs =>
    cases e
    obtain ⟨a, vs, rfl, h, p⟩ := r.lst sF
    exact sl_list pins s σ H _ v vl vu lo hi sl Q I rx hs pl pu ⟨a, vs, rfl, .inl (.inl h), fin_new sF (.lst (cut_rep p lo hi)) rfl q⟩
  | tup xs =>
    cases e
    obtain ⟨a, vs, rfl, h, p⟩ := r.tup
    refine sl_tupA pins s σ H _ v vl vu lo hi sl Q I rx hs pl pu ⟨a, vs, rfl, .inl (.inl (sF _ _ h)), fun hw => ?_, fun _ => fin_tup sF (cut_rep p lo hi) q⟩
    rw [p.length] at hw
    rw [cut_whole hw] at q
    exact fin_v sF (r.rp rfl) rfl q
  | str z =>
    have e : (if z.length ≤ sizeLine then some (D.str (cutS z lo hi)) else none) = some d := e
    by_cases hl : z.length ≤ sizeLine
    · rw [if_pos hl] at e
      cases e
      exact sl_str pins s σ H _ v vl vu lo hi sl Q I rx hs pl pu ⟨z, r.str, hl, fin_v sF (.str _) rfl q⟩
    · rw [if_neg hl] at e
      cases e
  | _ => cases e
def exSl (f : Ex) (lo hi : Option Ex) : Ex := fun env => (f env).bind fun d => (exPart lo env).bind fun l => (exPart hi env).bind fun u => dSl d l u
theorem pSl {a : Expr} {lo hi : Option Expr} {f : Ex} {gl gh : Option Ex} {pos p2 : Pos} (ha : PE X a (eB f)) (hl : PO X lo (eO (exPart gl))) (hh : PO X hi (eO (exPart gh))) : PE X (.Subscript a (.Slice lo hi none p2) pos) (eN (exSl f gl gh)) := (pe_slice sl_all ha hl hh).imp fun σ H Q ⟨F0, H0, F, env, d, r, e, q⟩ => by
  simp only [exSl, Option.bind_eq_some_iff] at e
  obtain ⟨d1, h1, l, h2, u, h3, h4⟩ := e
  exact ⟨F0, H0, F, env, d1, r, h1, fun v F1 H1 u1 p1 => ⟨F0, H0, F1, env, l, r.mono u1, h2, fun F2 H2 u2 => ⟨F0, H0, F2, env, u, (r.mono u1).mono u2, h3, fun F3 H3 u3 => ⟨F3, d1, d, u3.s, (p1.mono u2).mono u3, h4, fun z F4 H4 u4 p4 =>
    q z F4 H4 (u1.trans (u2.trans (u3.trans u4))) (p4.back (u1.trans (u2.trans u3)))⟩⟩⟩⟩

/-! ### dicts -/
def exDic (t : Bool) : Ex := fun _ => some (.dic t [])
theorem pDicK {pos : Pos} : PE X (.Dict [] [] pos) (eN (exDic false)) := pe_dnewK.imp fun σ H Q ⟨F0, H0, F, env, d, r, e, q⟩ => by
  cases e
  exact fin_new r.s (.dK .nil) rfl q
theorem pDicT {pos : Pos} : PE X (.Dict [] [] pos) (eN (exDic true)) := pe_dnewT.imp fun σ H Q ⟨F0, H0, F, env, d, r, e, q⟩ => by
  cases e
  exact fin_new r.s (.dT .nil) rfl q
/-- {k: v, ..}: the pairs, their keys ints or texts -/
def evps : List (Ex × Ex) → Env → Option (List (D × D))
  | [], _ => some []
  | (f, g) :: r, env => (f env).bind fun k => (g env).bind fun d => (evps r env).bind fun es => if k.key?.isSome = true then some ((k, d) :: es) else none
def mergeD (more : List (D × D)) : List (D × D) := more.foldl (fun acc e => dPut acc e.1 e.2) []
def exDisp (fs : List (Ex × Ex)) : Ex := fun env => (evps fs env).bind fun es => some (.dic false (mergeD es))
inductive RepP (F : Hp) : List (V × V) → List (D × D) → List (Key × V) → Prop
  | nil : RepP F [] [] []
  | cons {k : Key} {v : V} {d : D} {ps : List (V × V)} {es : List (D × D)} {kvs : List (Key × V)} : Rep F v d → RepP F ps es kvs → RepP F ((kV k, v) :: ps) ((keyD k, d) :: es) ((k, v) :: kvs)
theorem RepP.ps {F : Hp} : ∀ {ps : List (V × V)} {es : List (D × D)} {kvs : List (Key × V)}, RepP F ps es kvs → ps = kvs.map (fun kv => (kV kv.1, kv.2)) ∧ kvs.length = es.length
  | _, _, _, .nil => ⟨rfl, rfl⟩
  | _, _, _, .cons _ t => by
    obtain ⟨h1, h2⟩ := t.ps
    exact ⟨by rw [h1]; rfl, by rw [List.length_cons, List.length_cons, h2]⟩
theorem RepP.merge {F : Hp} : ∀ {ps : List (V × V)} {es : List (D × D)} {kvs : List (Key × V)}, RepP F ps es kvs → ∀ {kv0 : List (Key × V)} {es0 : List (D × D)}, RepK F kv0 es0 → RepK F (mergeK kv0 kvs) (es.foldl (fun acc e => dPut acc e.1 e.2) es0)
  | _, _, _, .nil, _, _, r => r
  | _, _, _, .cons (k := k) p t, _, _, r => t.merge (r.put k p)
theorem evps_length : ∀ {fs : List (Ex × Ex)} {env : Env} {es : List (D × D)}, evps fs env = some es → es.length = fs.length
  | [], _, _, h => by
    cases h
    rfl
  | (f, g) :: fs, env, es, h => by
    simp only [evps, Option.bind_eq_some_iff] at h
    obtain ⟨k, _, d, _, es', h3, h4⟩ := h
    by_cases hk : k.key?.isSome = true
    · rw [if_pos hk] at h4
      cases h4
      rw [List.length_cons, List.length_cons, evps_length h3]
    · rw [if_neg hk] at h4
      cases h4
theorem pairs_of {F0 H0 : Hp} {σ : St} {env : Env} {R : List (V × V) → Hp → Prop} : ∀ {fs : List (Ex × Ex)} {F H : Hp} {es : List (D × D)}, ER F0 H0 F H σ env → evps fs env = some es → (∀ ps kvs F' H', Up F H F' H' → RepP F' ps es kvs → R ps H') → tPairs (fs.map fun p => (eS p.1, eS p.2)) σ H R
  | [], F, H, es, r, e, q => by
    cases e
    exact q [] [] F H (Up.refl r.s) .nil
  | (f, g) :: fs, F, H, es, r, e, q => by
    simp only [evps, Option.bind_eq_some_iff] at e
    obtain ⟨k, h1, d, h2, es', h3, h4⟩ := e
    by_cases hk : k.key?.isSome = true
    · rw [if_pos hk] at h4
      cases h4
      obtain ⟨kk, ek⟩ := Option.isSome_iff_exists.mp hk
      cases key_eq ek
      exact ⟨F0, H0, F, env, _, r, h1, fun v F1 H1 u1 p1 => ⟨F0, H0, F1, env, d, r.mono u1, h2, fun w F2 H2 u2 p2 => pairs_of ((r.mono u1).mono u2) h3 fun ps kvs F3 H3 u3 p3 => by
        rw [p1.key]
        exact q _ _ F3 H3 (u1.trans (u2.trans u3)) (.cons (p2.mono u3.f) p3)⟩⟩
    · rw [if_neg hk] at h4
      cases h4
/-- .. as a new dict -/
theorem pDisp {keys : List (Option Expr)} {values : List Expr} {fs : List (Ex × Ex)} {pos : Pos} (h : PPs X pos keys values (fs.map fun p => (eS p.1, eS p.2))) (hall : keys.all (·.isSome) = true) (hl : keys.length = values.length) (h0 : keys ≠ []) (h15 : keys.length ≤ 15) (hf : fs.length ≤ 15) :
    PE X (.Dict keys values pos) (eN (exDisp fs)) := (pe_disp h hall hl h0 h15).imp fun σ H Q ⟨F0, H0, F, env, d, r, e, q⟩ => by
  simp only [exDisp, Option.bind_eq_some_iff, Option.some.injEq] at e
  obtain ⟨es, h1, rfl⟩ := e
  intro p np
  have u0 : Up F H F (upd H p (.dK [])) := Up.new r.s np
  refine pairs_of (r.mono u0) h1 fun ps kvs F' H' u rp => ⟨u.h p _ upd_same, kvs, rp.ps.1, by rw [rp.ps.2, evps_length h1]; exact hf, ?_⟩
  have nF : F' p = none := u.n p _ upd_same (Same.free r.s np)
  have u1 : Up F H F' (upd H' p (.dK (mergeK [] kvs))) := by
    refine ⟨u.f, fun a o h => ?_, fun a o h n => u.n a o (u0.h a o h) n, fun a o h => ?_⟩
    · rw [upd_ne (ne_of_none h np)]
      exact u.h a o (u0.h a o h)
    · rw [upd_ne (ne_of_none h nF)]
      exact u.s a o h
  exact q _ F' _ u1 (.own p _ rfl np nF upd_same (.dK (rp.merge .nil)) rfl)
/-- d.get(k), d.get(k, x) -/
def dGet1 : D → D → Option D
  | .dic t es, k => if keyOk t k = true then some ((dFind es k).getD .non) else none
  | _, _ => none
def dGet2 : D → D → D → Option D
  | .dic t es, k, x => if keyOk t k = true then some ((dFind es k).getD x) else none
  | _, _, _ => none
def exGet1 (f g : Ex) : Ex := fun env => (f env).bind fun d => (g env).bind fun k => dGet1 d k
def exGet2 (f g h : Ex) : Ex := fun env => (f env).bind fun d => (g env).bind fun k => (h env).bind fun x => dGet2 d k x
theorem m1_of {o e : Expr} {m : Str} {apos cpos : Pos} (hb : attributeBase o m X.env (eval o X.env) = eval o X.env) (hn : notStar e = true) (hl : (apos.endLine == cpos.line) = true) : M1 X o m apos e cpos where
  base := hb
  few := by
    rw [star_cons hn]
    rfl
  line := hl
  trees := by
    rw [star_cons hn]
    rfl
theorem m2_of {o e f : Expr} {m : Str} {apos cpos : Pos} (hb : attributeBase o m X.env (eval o X.env) = eval o X.env) (hn : notStar e = true) (hn2 : notStar f = true) (hl : (apos.endLine == cpos.line) = true) : M2 X o m apos e f cpos where
  base := hb
  few := by
    rw [star_cons hn, star_cons hn2]
    rfl
  line := hl
  trees := by
    rw [star_cons hn, star_cons hn2]
    rfl
theorem ROpt.getD {F : Hp} {o : Option V} {od : Option D} {x : V} {d : D} (h : ROpt F o od) (r : Rep F x d) : Rep F (o.getD x) (od.getD d) := by
  cases o <;> cases od <;> first | exact r | exact h | exact h.elim
/-- a dict, whatever is asked of it -/
theorem isD_of {F H : Hp} {x : V} {t : Bool} {es : List (D × D)} (sF : Same F H) (r : RB F H x (.dic t es)) : ∃ a, x = .ref a ∧ IsD H a := by
  cases t with
  | false =>
    obtain ⟨a, kvs, rfl, h, q⟩ := r.dicK sF
    exact ⟨a, rfl, .inl ⟨kvs, .inl h⟩⟩
  | true =>
    obtain ⟨a, kvs, rfl, h, q⟩ := r.dicT sF
    exact ⟨a, rfl, .inr ⟨kvs, .inl h⟩⟩
theorem pGet1 {o e : Expr} {f g : Ex} {apos cpos : Pos} (hu : X.A.units + 1 < cLine) (ho : PE X o (eB f)) (he : PE X e (eB g)) (m : M1 X o "get" apos e cpos) : PE X (.Call (.Attribute o "get" apos) [e] [] cpos) (eS (exGet1 f g)) := (pe_dget1 hu ho he m).imp fun σ H Q ⟨F0, H0, F, env, d, r, e, q⟩ => by
  simp only [exGet1, Option.bind_eq_some_iff] at e
  obtain ⟨d1, h1, k, h2, h3⟩ := e
  cases d1 with
  | dic t es =>
    have h3 : (if keyOk t k = true then some ((dFind es k).getD .non) else none) = some d := h3
    by_cases hk : keyOk t k = true
    · rw [if_pos hk] at h3
      cases h3
      refine ⟨F0, H0, F, env, _, r, h1, fun v F1 H1 u1 p1 => ?_⟩
      obtain ⟨a, rfl, isd⟩ := isD_of u1.s p1
      refine ⟨a, rfl, isd, F0, H0, F1, env, k, r.mono u1, h2, fun w F2 H2 u2 p2 => ?_⟩
      obtain ⟨a', o, ea, g, ro, _⟩ := dget_of u2.s (p1.mono u2) p2 hk
      cases ea
      exact ⟨o, g, q _ F2 H2 (u1.trans u2) (ro.getD .non)⟩
    · rw [if_neg hk] at h3
      cases h3
  | _ => cases h3
theorem pGet2 {o e e2 : Expr} {f g h : Ex} {apos cpos : Pos} (hu : X.A.units + 1 < cLine) (ho : PE X o (eB f)) (he : PE X e (eB g)) (he2 : PE X e2 (eS h)) (m : M2 X o "get" apos e e2 cpos) : PE X (.Call (.Attribute o "get" apos) [e, e2] [] cpos) (eS (exGet2 f g h)) := (pe_dget2 hu ho he he2 m).imp fun σ H Q ⟨F0, H0, F, env, d, r, e, q⟩ => by
  simp only [exGet2, Option.bind_eq_some_iff] at e
  obtain ⟨d1, h1, k, h2, x, h4, h3⟩ := e
  cases d1 with
  | dic t es =>
    have h3 : (if keyOk t k = true then some ((dFind es k).getD x) else none) = some d := h3
    by_cases hk : keyOk t k = true
    · rw [if_pos hk] at h3
      cases h3
      refine ⟨F0, H0, F, env, _, r, h1, fun v F1 H1 u1 p1 => ?_⟩
      obtain ⟨a, rfl, isd⟩ := isD_of u1.s p1
      refine ⟨a, rfl, isd, F0, H0, F1, env, k, r.mono u1, h2, fun w F2 H2 u2 p2 => ⟨F0, H0, F2, env, x, (r.mono u1).mono u2, h4, fun z F3 H3 u3 p3 => ?_⟩⟩
      obtain ⟨a', o, ea, g, ro, _⟩ := dget_of u3.s ((p1.mono u2).mono u3) (p2.mono u3) hk
      cases ea
      exact ⟨o, g, q _ F3 H3 (u1.trans (u2.trans u3)) (ro.getD p3)⟩
    · rw [if_neg hk] at h3
      cases h3
  | _ => cases h3

/-! ### x[k] = v, x a name -/
theorem set_dict (hu : X.A.units + 1 < cLine) : PSet X (fun o i v H Q => ∃ a H', o = .ref a ∧ DPut H a i v H' ∧ Q H') := by
  intro pins s σ H o i v ov iv u Q I ro ri rv h
  obtain ⟨a, H', rfl, g, q⟩ := h
  cases ro
  exact d_setItem hu I g ri rv fun s' I' => ⟨H', I', q⟩
theorem PSet.or {t t' : TSet} (h : PSet X t) (h' : PSet X t') : PSet X (fun o i v H Q => t o i v H Q ∨ t' o i v H Q) := by
  intro pins s σ H o i v ov iv u Q I ro ri rv q
  rcases q with q | q
  · exact h pins s σ H o i v ov iv u Q I ro ri rv q
  · exact h' pins s σ H o i v ov iv u Q I ro ri rv q
def dSetIx : D → D → D → Option D
  | .lst xs, .int k, v => (ixN xs.length k).map fun j => .lst (xs.set j v)
  | .dic t es, k, v => if keyOk t k = true ∧ es.length < sizeLine then some (.dic t (dPut es k v)) else none
  | _, _, _ => none
def fxSetIx (i : Nat) (fk fv : Ex) : Fx := fun env => (fv env).bind fun v => (fk env).bind fun k => match env[i]? with
  | some (.own d) => (dSetIx d k v).bind fun d' => some (.nx (env.set i (.own d')))
  | _ => none
theorem pSetIx {a k e : Expr} {i : Nat} {fk fv : Ex} {p2 pos : Pos} (hu : X.A.units + 1 < cLine) (ha : PE X a (tVar i)) (hk : PE X k (eB fk)) (he : PE X e (eS fv)) (hsl : notSl k = true)
    (hs : swapsWithSole [.Subscript a k p2] e pos.line X.env = pure false) (hw : swappedStores [.Subscript a k p2] e X.env = pure none) : PS X (.Assign [.Subscript a k p2] e pos) (sF (fxSetIx i fk fv)) := by
  have hset : PSet X (fun o i v H Q => rSetL o i v H Q ∨ ∃ a H', o = .ref a ∧ DPut H a i v H' ∧ Q H') := Sw.PSet.or set_list (set_dict hu)
  have hg : PG X (.Subscript a k p2) (gSub (tVar i) (eB fk) _) := pg_sub ha hk hset (by
    intro v
    cases k <;> first | rfl | (cases hsl))
  refine (ps_asg he hg hs hw (by rfl)).imp fun σ H E ⟨F0, H0, F, env, fl, r, e, p⟩ => ?_
  simp only [fxSetIx, Option.bind_eq_some_iff] at e
  obtain ⟨v, h1, kd, h2, h3⟩ := e
  cases hi : env[i]? with
  | none =>
    rw [hi] at h3
    cases h3
  | some sl =>
    rw [hi] at h3
    cases sl with
    | own d =>
      simp only [Option.bind_eq_some_iff, Option.some.injEq] at h3
      obtain ⟨d', h3, rfl⟩ := h3
      refine ⟨F0, H0, F, env, v, r, h1, fun z F1 H1 u1 p1 => ?_⟩
      have r1 := r.mono u1
      obtain ⟨q, o, g1, g2, g3, g4, g5, g6⟩ := r1.own i d hi
      refine ⟨.ref q, g1, F0, H0, F1, env, kd, r1, h2, fun w F2 H2 u2 p2 => ?_⟩
      have r2 := r1.mono u2
      have h4 := u2.h q o g4
      have o2 := g5.mono u2.f
      have z2 := p1.mono u2.f
      cases d with
      | lst xs =>
        cases kd with
        | int kk =>
          obtain ⟨j, hj, rfl⟩ := Option.map_eq_some_iff.mp (show (ixN xs.length kk).map (fun j => D.lst (xs.set j v)) = some d' from h3)
          cases o2 with
          | lst o2 =>
            refine .inl ⟨q, _, kk, j, rfl, p2.int, h4, by rw [o2.length]; exact hj, ?_⟩
            exact p σ F2 _ (u1.f.trans u2.f) (r2.updOwn hi g1 (.lst (o2.set z2 j)) rfl)
        | _ => cases h3
      | dic t es =>
        have h3 : (if keyOk t kd = true ∧ es.length < sizeLine then some (D.dic t (dPut es kd v)) else none) = some d' := h3
        by_cases hc : keyOk t kd = true ∧ es.length < sizeLine
        · rw [if_pos hc] at h3
          cases h3
          cases o2 with
          | @dK kvs _ o2 =>
            obtain ⟨kk, ek⟩ := Option.isSome_iff_exists.mp (show kd.key?.isSome = true from hc.1)
            cases key_eq ek
            refine .inr ⟨q, upd H2 q (.dK (putK kvs kk z)), rfl, ?_, ?_⟩
            · rw [p2.key]
              exact .k h4 (by rw [o2.length]; exact hc.2)
            · exact p σ F2 _ (u1.f.trans u2.f) (r2.updOwn hi g1 (.dK (o2.put kk z2)) rfl)
          | @dT kvs _ o2 =>
            obtain ⟨kk, ek⟩ := Option.isSome_iff_exists.mp (show kd.keys?.isSome = true from hc.1)
            cases keys_eq ek
            obtain ⟨b, rfl, hb⟩ := p2.keys u2.s
            refine .inr ⟨q, upd H2 q (.dT (putK kvs kk z)), rfl, .t h4 hb (by rw [o2.length]; exact hc.2), ?_⟩
            exact p σ F2 _ (u1.f.trans u2.f) (r2.updOwn hi g1 (.dT (o2.put kk z2)) rfl)
        · rw [if_neg hc] at h3
          cases h3
      | _ => cases h3
    | _ => cases h3

/-! ### x.append(v), x.extend(v), x.pop() -/
theorem few_of {e : Expr} (hn : notStar e = true) (cpos : Pos) : ((backTo cpos (starEach (e :: []) X.env)).all (fun x => !x.1) && (backToKw cpos (keywordEach [] X.env)).all (fun x => x.1.isSome) && decide ((e :: []).length + ([] : List Keyword).length + (if ([] : List Keyword).isEmpty then 0 else 1) < 30)) = true := by
  rw [star_cons hn]
  rfl
def fxApp (i : Nat) (f : Ex) : Fx := fun env => match env[i]? with
  | some (.own (.lst xs)) => (f env).bind fun d => if xs.length < sizeLine then some (.nx (env.set i (.own (.lst (xs ++ [d]))))) else none
  | _ => none
theorem pApp {a e : Expr} {i : Nat} {f : Ex} {apos cpos pos : Pos} (ha : PE X a (tVar i)) (he : PE X e (eS f)) (hn : notStar e = true) (hb : attributeBase a "append" X.env (eval a X.env) = eval a X.env) (hl : (apos.endLine == cpos.line) = true) :
    PS X (.Expr (.Call (.Attribute a "append" apos) [e] [] cpos) pos) (sF (fxApp i f)) := by
  refine (ps_expr (pe_bm PySem.F.plainAttrs_list PySem.F.slot_list_append PySem.F.type_list_append mt_append ha (pa_cons he pa_nil (star_cons hn [] X.env)) hb (few_of hn cpos) hl (star_cons hn [] X.env) rfl)).imp fun σ H E ⟨F0, H0, F, env, fl, r, e, p⟩ => ?_
  unfold fxApp at e
  split at e
  · rename_i xs hi
    simp only [Option.bind_eq_some_iff] at e
    obtain ⟨d, h1, h2⟩ := e
    by_cases hc : xs.length < sizeLine
    · rw [if_pos hc] at h2
      cases h2
      obtain ⟨q, o, g1, g2, g3, g4, g5, g6⟩ := r.own i _ hi
      cases g5 with
      | lst g5 =>
        refine ⟨.ref q, g1, .inl ⟨rfl, _, .inl (.inl g4)⟩, F0, H0, F, env, d, r, h1, fun v F1 H1 u1 p1 => ⟨q, _, v, rfl, rfl, u1.h q _ g4, by rw [g5.length]; exact hc, ?_⟩⟩
        exact p σ F1 _ u1.f ((r.mono u1).updOwn hi g1 (.lst ((g5.mono u1.f).append (.one p1))) rfl)
    · rw [if_neg hc] at h2
      cases h2
  · cases e
def fxExt (i : Nat) (f : Ex) : Fx := fun env => match env[i]? with
  | some (.own (.lst xs)) => (f env).bind fun d => match d with
    | .lst ys => if xs.length + ys.length ≤ sizeLine then some (.nx (env.set i (.own (.lst (xs ++ ys))))) else none
    | _ => none
  | _ => none
theorem pExt {a e : Expr} {i : Nat} {f : Ex} {apos cpos pos : Pos} (ha : PE X a (tVar i)) (he : PE X e (eS f)) (hn : notStar e = true) (hb : attributeBase a "extend" X.env (eval a X.env) = eval a X.env) (hl : (apos.endLine == cpos.line) = true) :
    PS X (.Expr (.Call (.Attribute a "extend" apos) [e] [] cpos) pos) (sF (fxExt i f)) := by
  refine (ps_expr (pe_bm PySem.F.plainAttrs_list PySem.F.slot_list_extend PySem.F.type_list_extend mt_extend ha (pa_cons he pa_nil (star_cons hn [] X.env)) hb (few_of hn cpos) hl (star_cons hn [] X.env) rfl)).imp fun σ H E ⟨F0, H0, F, env, fl, r, e, p⟩ => ?_
  unfold fxExt at e
  split at e
  · rename_i xs hi
    simp only [Option.bind_eq_some_iff] at e
    obtain ⟨d, h1, h2⟩ := e
    cases d with
    | lst ys =>
      dsimp only at h2
      by_cases hc : xs.length + ys.length ≤ sizeLine
      · rw [if_pos hc] at h2
        cases h2
        obtain ⟨q, o, g1, g2, g3, g4, g5, g6⟩ := r.own i _ hi
        cases g5 with
        | lst g5 =>
          refine ⟨.ref q, g1, .inl ⟨rfl, _, .inl (.inl g4)⟩, F0, H0, F, env, _, r, h1, fun v F1 H1 u1 p1 => ?_⟩
          obtain ⟨b, ws, rfl, hb, pb⟩ := (RB.rep p1 : RB F1 H1 v (.lst ys)).lst u1.s
          refine ⟨q, b, _, ws, rfl, rfl, u1.h q _ g4, hb, by rw [g5.length, pb.length]; exact hc, ?_⟩
          exact p σ F1 _ u1.f ((r.mono u1).updOwn hi g1 (.lst ((g5.mono u1.f).append pb)) rfl)
      · rw [if_neg hc] at h2
        cases h2
    | _ => cases h2
  · cases e
/-- y = x.pop() -/
def fxPop (y i : Nat) : Fx := fun env => match env[i]? with
  | some (.own (.lst xs)) => (xs[xs.length - 1]?).bind fun d => some (.nx ((env.set i (.own (.lst xs.dropLast))).set y (.val d)))
  | _ => none
theorem pPop {a : Expr} {y i : Nat} {x : Str} {apos cpos pos pos' : Pos} (hN : X.N.Nodup) (hy : X.N[y]? = some x) (hx : Loc X.env.scope x) (hf : X.fn x = true ∨ X.env.scope.names.lookup x = some .local) (ha : PE X a (tVar i)) (hb : attributeBase a "pop" X.env (eval a X.env) = eval a X.env) (hl : (apos.endLine == cpos.line) = true) :
    PS X (.Assign [.Name x pos'] (.Call (.Attribute a "pop" apos) [] [] cpos) pos) (sF (fxPop y i)) := by
  refine (ps_set hN hy hx (pe_bm0 PySem.F.plainAttrs_list PySem.F.slot_list_pop PySem.F.type_list_pop mt_pop ha hb hl) (by rfl) hf).imp fun σ H E ⟨F0, H0, F, env, fl, r, e, p⟩ => ?_
  unfold fxPop at e
  split at e
  · rename_i xs hi
    simp only [Option.bind_eq_some_iff, Option.some.injEq] at e
    obtain ⟨d, h1, rfl⟩ := e
    obtain ⟨q, o, g1, g2, g3, g4, g5, g6⟩ := r.own i _ hi
    cases g5 with
    | lst g5 =>
      obtain ⟨v, k1, k2⟩ := g5.get h1
      refine ⟨.ref q, g1, .inl ⟨rfl, _, .inl (.inl g4)⟩, q, _, v, rfl, rfl, g4, by rw [g5.length]; exact k1, ?_⟩
      exact p _ F _ (Same.refl F) ((r.updOwn hi g1 (.lst g5.dropLast) rfl).setVal k2)
  · cases e
/-- x.pop() alone -/
def fxPop0 (i : Nat) : Fx := fun env => match env[i]? with
  | some (.own (.lst xs)) => (xs[xs.length - 1]?).bind fun _ => some (.nx (env.set i (.own (.lst xs.dropLast))))
  | _ => none
theorem pPop0 {a : Expr} {i : Nat} {apos cpos pos : Pos} (ha : PE X a (tVar i)) (hb : attributeBase a "pop" X.env (eval a X.env) = eval a X.env) (hl : (apos.endLine == cpos.line) = true) :
    PS X (.Expr (.Call (.Attribute a "pop" apos) [] [] cpos) pos) (sF (fxPop0 i)) := by
  refine (ps_expr (pe_bm0 PySem.F.plainAttrs_list PySem.F.slot_list_pop PySem.F.type_list_pop mt_pop ha hb hl)).imp fun σ H E ⟨F0, H0, F, env, fl, r, e, p⟩ => ?_
  unfold fxPop0 at e
  split at e
  · rename_i xs hi
    simp only [Option.bind_eq_some_iff, Option.some.injEq] at e
    obtain ⟨d, h1, rfl⟩ := e
    obtain ⟨q, o, g1, g2, g3, g4, g5, g6⟩ := r.own i _ hi
    cases g5 with
    | lst g5 =>
      obtain ⟨v, k1, k2⟩ := g5.get h1
      refine ⟨.ref q, g1, .inl ⟨rfl, _, .inl (.inl g4)⟩, q, _, v, rfl, rfl, g4, by rw [g5.length]; exact k1, ?_⟩
      exact p _ F _ (Same.refl F) (r.updOwn hi g1 (.lst g5.dropLast) rfl)
  · cases e

/-! ### x op= e, ints -/
def fxAug (i : Nat) (g : D → D → Option D) (f : Ex) : Fx := fun env => match env[i]? with
  | some (.val (.int a)) => (f env).bind fun b => (g (.int a) b).bind fun d => match d with
    | .int c => some (.nx (env.set i (.val (.int c))))
    | _ => none
  | _ => none
theorem pAug {i : Nat} {x : Str} {e : Expr} {f : Ex} {op : Operator} {g : D → D → Option D} {pos pos' : Pos} (hN : X.N.Nodup) (hi : X.N[i]? = some x) (hx : Loc X.env.scope x) (hf : X.fn x = true ∨ X.env.scope.names.lookup x = some .local) (he : PE X e (eB f))
    (ho : OpR X (inplaceOp op) (rO g)) : PS X (.AugAssign (.Name x pos') op e pos) (sF (fxAug i g f)) := by
  refine (ps_aug hN hi hx he (ti := rO g) ho hf).imp fun σ H E ⟨F0, H0, F, env, fl, r, e, p⟩ => ?_
  unfold fxAug at e
  split at e
  · rename_i a hi
    simp only [Option.bind_eq_some_iff] at e
    obtain ⟨b, h1, d, h2, h3⟩ := e
    cases d with
    | int c =>
      cases h3
      obtain ⟨v, g1, g2⟩ := r.val i _ hi
      refine ⟨v, g1, F0, H0, F, env, b, r, h1, fun w F1 H1 u1 p1 => ⟨F1, _, b, _, u1.s, .rep (g2.mono u1.f), p1, h2, fun z F2 H2 u2 p2 => ?_⟩⟩
      have : z = V.int c := by
        cases p2 with
        | rep p m => exact (RB.rep p : RB F2 H2 z _).int
        | own q o e w n h r m => cases m
      subst this
      exact p _ F2 H2 (u1.f.trans u2.f) (((r.mono u1).mono u2).setVal (.int c))
    | _ => cases h3
  · cases e
theorem iop2_int {f : Value → Value → Sem Value} {g : D → D → Option D} (hg : ∀ a b d, g a b = some d → ∃ i j, a = .int i ∧ b = .int j ∧ d.mut = false ∧ ∃ C k, OpR X f (rI C k) ∧ C i j ∧ ∀ F, Rep F (k i j) d) : OpR X f (rO g) := op2_int hg
def dAddI : D → D → Option D
  | .int a, .int b => some (.int (a + b))
  | _, _ => none
def dMulI : D → D → Option D
  | .int a, .int b => if mulOk a b = true then some (.int (a * b)) else none
  | _, _ => none
theorem iop_addD : OpR X (inplaceOp .Add) (rO dAddI) := op2_int fun a b d e => by
  cases a <;> cases b <;> first | (cases e; done) | skip
  cases e
  exact ⟨_, _, rfl, rfl, rfl, _, _, op0_I iop_add, trivial, fun F => .int _⟩
theorem iop_subD : OpR X (inplaceOp .Sub) (rO dSub) := op2_int fun a b d e => by
  cases a <;> cases b <;> first | (cases e; done) | skip
  cases e
  exact ⟨_, _, rfl, rfl, rfl, _, _, op0_I iop_sub, trivial, fun F => .int _⟩
theorem iop_mulD : OpR X (inplaceOp .Mult) (rO dMulI) := op2_int fun a b d e => by
  cases a <;> cases b <;> first | (cases e; done) | skip
  rename_i i j
  by_cases hc : mulOk i j = true
  · simp only [dMulI, if_pos hc] at e
    cases e
    exact ⟨_, _, rfl, rfl, rfl, _, _, iop_mul, mulOk_of hc, fun F => .int _⟩
  · simp only [dMulI, if_neg hc] at e
    cases e
def dDivI : D → D → Option D
  | .int a, .int b => if (decide (0 < b) && sm 1073741823 b) = true then some (.int (a / b)) else none
  | _, _ => none
theorem iop_divD : OpR X (inplaceOp .FloorDiv) (rO dDivI) := op2_int fun a b d e => by
  cases a <;> cases b <;> first | (cases e; done) | skip
  rename_i i j
  by_cases hc : (decide (0 < j) && sm 1073741823 j) = true
  · simp only [dDivI, if_pos hc] at e
    cases e
    rw [Bool.and_eq_true, sm_le] at hc
    have h0 := of_decide_eq_true hc.1
    exact ⟨_, _, rfl, rfl, rfl, _, _, iop_fdiv, ⟨h0, by omega⟩, fun F => .int _⟩
  · simp only [dDivI, if_neg hc] at e
    cases e
end
end Sw

/-! Sw8: what is walked; list comprehensions. -/
namespace Sw
open PySem L2 PySem.Spec PyProof.Rows

section
variable {X : Cx} {tg : Expr}
/-- a list or a tuple by its value -/
theorem pi_any {l : Expr} {tl : TE} (hl : PE X l tl) : PI X tg l (fun σ H R => tl σ H fun x H1 => ∃ a, x = .ref a ∧ (((∃ xs, SqL X.K H1 a xs) ∧ R (Itl X.K a) H1) ∨ ((∃ xs, SqT X.K H1 a xs) ∧ R (Itt X.K a) H1))) := by
  refine ⟨fun pins s σ H R I h => ?_⟩
  refine thn (hl.run pins s σ H _ I h) fun v s1 ⟨x, H1, I1, r1, q1⟩ => ?_
  obtain ⟨a, e, q⟩ := q1
  subst e
  cases r1
  rcases q with ⟨⟨xs, hq⟩, q⟩ | ⟨⟨xs, hq⟩, q⟩
  · obtain ⟨its, rv, p, hz⟩ := I1.list hq
    refine wpAny_pyIter_list p.isList ?_
    refine ⟨s1.heap.objs.size, [s1.heap.objs.size], _, _, H1, rfl, I1.kept (t' := s1.toks) fun b o e => Heap.get?_push_of_some _ e, turn_list a _, ⟨_, Heap.get?_push_size _ rfl, rfl, rfl⟩, fun b hb => ?_, q⟩
    have e : b = s1.heap.objs.size := by simpa using hb
    subst e
    exact I1.fpOk (Nat.le_refl _) (I1.hok.fresh (Nat.le_refl _))
  · obtain ⟨its, rv, p, hz⟩ := I1.tuple hq
    refine wpAny_pyIter_tuple (show s1.heap.IsTuple a its.toArray from p) ?_
    refine ⟨s1.heap.objs.size, [s1.heap.objs.size], _, _, H1, rfl, I1.kept (t' := s1.toks) fun b o e => Heap.get?_push_of_some _ e, turn_tuple a _, ⟨_, Heap.get?_push_size _ rfl, rfl, rfl⟩, fun b hb => ?_, q⟩
    have e : b = s1.heap.objs.size := by simpa using hb
    subst e
    exact I1.fpOk (Nat.le_refl _) (I1.hok.fresh (Nat.le_refl _))
def seqD : D → Option (List D)
  | .lst ds => some ds
  | .tup ds => some ds
  | _ => none
def ixV (f : Ex) : Ix := fun env => (f env).bind seqD
theorem pWalk {l : Expr} {f : Ex} (hl : PE X l (eS f)) : PI X tg l (eI (ixV f)) := (pi_any (pe_bnd hl)).imp fun σ H R ⟨F0, H0, F, env, ds, r, e, q⟩ => by
  simp only [ixV, Option.bind_eq_some_iff] at e
  obtain ⟨d, h1, h2⟩ := e
  refine ⟨F0, H0, F, env, d, r, h1, fun v F' H' u p b => ?_⟩
  cases d with
  | lst xs =>
    cases h2
    have sz : ds.length ≤ sizeLine := RB.sz (d := .lst ds) b u.s (.rep p)
    cases p with
    | ref h o =>
      cases o with
      | lst o => exact ⟨_, rfl, .inl ⟨⟨_, .inl (.inl (u.s _ _ h))⟩, q _ F' H' u (src_list h o sz)⟩⟩
  | tup xs =>
    cases h2
    have sz : ds.length ≤ sizeLine := RB.sz (d := .tup ds) b u.s (.rep p)
    cases p with
    | ref h o =>
      cases o with
      | tup o => exact ⟨_, rfl, .inr ⟨⟨_, .inl (.inl (u.s _ _ h))⟩, q _ F' H' u (src_tup h o sz)⟩⟩
  | _ => cases h2

/-! ### ranges -/
def rgOk (lo hi : Int) : Bool := sm 1000000000000000000 lo && (sm 1000000000000000000 hi && Nat.ble (hi - lo).toNat 16777216)
def rgD (lo hi : Int) : Option (List D) := if rgOk lo hi = true then some (rngD lo (hi - lo).toNat) else none
def ixR1 (f : Ex) : Ix := fun env => (f env).bind fun d => match d with
  | .int j => rgD 0 j
  | _ => none
def ixR2 (f g : Ex) : Ix := fun env => (f env).bind fun d => (g env).bind fun e => match d, e with
  | .int i, .int j => rgD i j
  | _, _ => none
theorem rgD_some {lo hi : Int} {ds : List D} (h : rgD lo hi = some ds) : -(2 ^ 62) ≤ lo ∧ lo < 2 ^ 62 ∧ -(2 ^ 62) ≤ hi ∧ hi < 2 ^ 62 ∧ (hi - lo).toNat ≤ sizeLine ∧ ds = rngD lo (hi - lo).toNat := by
  unfold rgD at h
  split at h
  · rename_i hc
    cases h
    unfold rgOk at hc
    rw [Bool.and_eq_true, Bool.and_eq_true, sm_le, sm_le, Nat.ble_eq] at hc
    have e : sizeLine = 16777216 := by decide
    rw [e]
    refine ⟨by omega, by omega, by omega, by omega, by omega, rfl⟩
  · cases h
theorem pRange1 {a : Expr} {f : Ex} {p pos : Pos} (hg : Gl X "range") (hm : X.mg "range" = none) (hn : notStar a = true) (ha : PE X a (eB f)) : PI X tg (.Call (.Name "range" p) [a] [] pos) (eI (ixR1 f)) :=
  (pi_range1 hg hm (pa_cons ha pa_nil (star_cons hn [] X.env)) (star_cons hn [] X.env)).imp fun σ H R ⟨F0, H0, F, env, ds, r, e, q⟩ => by
    simp only [ixR1, Option.bind_eq_some_iff] at e
    obtain ⟨d, h1, h2⟩ := e
    cases d with
    | int j =>
      obtain ⟨_, _, b1, b2, b3, rfl⟩ := rgD_some h2
      refine ⟨F0, H0, F, env, _, r, h1, fun v F' H' u p => ?_⟩
      refine ⟨j, by rw [p.int], b1, b2, ?_⟩
      have := q (Itr 0 (j - 0).toNat) F' H' u (src_rng 0 _ b3)
      rwa [Int.sub_zero] at this
    | _ => cases h2
theorem pRange2 {a b : Expr} {f g : Ex} {p pos : Pos} (hg : Gl X "range") (hm : X.mg "range" = none) (hn : notStar a = true) (hn' : notStar b = true) (ha : PE X a (eB f)) (hb : PE X b (eB g)) : PI X tg (.Call (.Name "range" p) [a, b] [] pos) (eI (ixR2 f g)) :=
  (pi_range2 hg hm (pa_cons ha (pa_cons hb pa_nil (star_cons hn' [] X.env)) (star_cons hn [b] X.env)) (by rw [star_cons hn, star_cons hn']; rfl) (star_cons hn' [] X.env)).imp fun σ H R ⟨F0, H0, F, env, ds, r, e, q⟩ => by
    simp only [ixR2, Option.bind_eq_some_iff] at e
    obtain ⟨d, h1, d', h1', h2⟩ := e
    cases d with
    | int i =>
      cases d' with
      | int j =>
        obtain ⟨b1, b2, b3, b4, b5, rfl⟩ := rgD_some h2
        refine ⟨F0, H0, F, env, _, r, h1, fun v F' H' u p => ⟨F0, H0, F', env, _, r.mono u, h1', fun w F2 H2 u2 p2 => ?_⟩⟩
        exact ⟨i, j, by rw [p.int, p2.int], ⟨b1, b2, b3, b4⟩, q (Itr i (j - i).toNat) F2 H2 (u.trans u2) (src_rng i _ b5)⟩
      | _ => cases h2
    | _ => cases h2
def stepD (lo c : Int) (n : Nat) : List D := (List.range n).map fun i => .int (lo + (i : Nat) * c)
theorem stepD_len (lo c : Int) (n : Nat) : (stepD lo c n).length = n := by simp [stepD]
theorem src_step {F : Hp} (lo c : Int) (n : Nat) (hn : n ≤ sizeLine) : Src (Itc lo c n) F (stepD lo c n) where
  len := by
    rw [stepD_len]
    exact hn
  go := fun i F' H s1 s2 hi => by
    rw [stepD_len] at hi
    exact hi
  yld := fun i d F' H x H' s1 s2 hd y => by
    obtain ⟨rfl, rfl⟩ := y
    have hi : i < n := by
      have := (List.getElem?_eq_some_iff.mp hd).1
      rwa [stepD_len] at this
    simp only [stepD, List.getElem?_map, List.getElem?_range hi, Option.map_some, Option.some.injEq] at hd
    subst hd
    exact ⟨F', Up.refl s2, .int _⟩
  stop := fun F' H s1 s2 => by
    rw [stepD_len]
    exact Nat.le_refl n
/-- range(i, j, c), bounds and step small -/
def stOk (i j c : Int) : Bool := decide (c ≠ 0) && (sm 1073741823 c && (sm 1000000000000000000 i && (sm 1000000000000000000 j && (decide (0 ≤ Builtin.Range.rangeSize i j c) && sm 16777216 (Builtin.Range.rangeSize i j c)))))
theorem stOk_iff {i j c : Int} : stOk i j c = true ↔ (c ≠ 0 ∧ c.natAbs ≤ 1073741823 ∧ i.natAbs ≤ 1000000000000000000 ∧ j.natAbs ≤ 1000000000000000000 ∧ 0 ≤ Builtin.Range.rangeSize i j c ∧ (Builtin.Range.rangeSize i j c).natAbs ≤ 16777216) := by
  unfold stOk
  simp only [Bool.and_eq_true, sm_le, decide_eq_true_eq]
theorem stOk_small {i j c : Int} (h : stOk i j c = true) : Builtin.Range.small i j c = true := by
  obtain ⟨h1, h2, h3, h4, h5, h6⟩ := stOk_iff.mp h
  unfold Builtin.Range.small Builtin.Range.rangeFitsLong
  simp only [Bool.and_eq_true, Bool.or_eq_true, decide_eq_true_eq, beq_iff_eq]
  refine ⟨⟨⟨⟨by omega, by omega⟩, by omega⟩, by omega⟩, .inr ?_⟩
  split
  · rw [Bool.and_eq_true, decide_eq_true_eq, decide_eq_true_eq]
    omega
  · rw [Bool.and_eq_true, decide_eq_true_eq, decide_eq_true_eq]
    omega
def stD (i j c : Int) : Option (List D) := if stOk i j c = true then some (stepD i c (Builtin.Range.rangeSize i j c).toNat) else none
def ixR3 (f g h : Ex) : Ix := fun env => (f env).bind fun d => (g env).bind fun e => (h env).bind fun k => match d, e, k with
  | .int i, .int j, .int c => stD i j c
  | _, _, _ => none
theorem pRange3 {a b c : Expr} {f g h : Ex} {p pos : Pos} (hg : Gl X "range") (hm : X.mg "range" = none) (hn : plainAs [a, b, c] = true) (ha : PE X a (eB f)) (hb : PE X b (eB g)) (hc : PE X c (eB h)) : PI X tg (.Call (.Name "range" p) [a, b, c] [] pos) (eI (ixR3 f g h)) := by
  have hn0 := hn
  simp only [plainAs, List.all_cons, List.all_nil, Bool.and_true, Bool.and_eq_true] at hn
  obtain ⟨n1, n2, n3⟩ := hn
  refine (pi_range3 hg hm (pa_cons ha (pa_cons hb (pa_cons hc pa_nil (star_cons n3 [] X.env)) (star_cons n2 [c] X.env)) (star_cons n1 [b, c] X.env)) (star_cons n1 [b, c] X.env) (star_plain (es := [b, c]) (by simp [plainAs, n2, n3]) X.env pos)).imp fun σ H R ⟨F0, H0, F, env, ds, r, e, q⟩ => ?_
  simp only [ixR3, Option.bind_eq_some_iff] at e
  obtain ⟨d, h1, d', h1', d'', h1'', h2⟩ := e
  cases d with
  | int i =>
    cases d' with
    | int j =>
      cases d'' with
      | int k =>
        have h2 : stD i j k = some ds := h2
        unfold stD at h2
        split at h2
        · rename_i hc
          cases h2
          have c3 := stOk_small hc
          obtain ⟨c1, c2, _, _, c4, c5⟩ := stOk_iff.mp hc
          have c2 : k.natAbs < 1073741824 := by omega
          refine ⟨F0, H0, F, env, _, r, h1, fun v F' H' u p => ⟨F0, H0, F', env, _, r.mono u, h1', fun w F2 H2 u2 p2 => ⟨F0, H0, F2, env, _, (r.mono u).mono u2, h1'', fun z F3 H3 u3 p3 => ?_⟩⟩⟩
          have e1 : sizeLine = 16777216 := by decide
          refine ⟨i, j, k, (Builtin.Range.rangeSize i j k).toNat, by rw [p.int, p2.int, p3.int], ⟨c1, c2, c3, by omega⟩, q _ F3 H3 (u.trans (u2.trans u3)) (src_step i k _ (by omega))⟩
        · cases h2
      | _ => cases h2
    | _ => cases h2
  | _ => cases h2

/-! ### names forgotten -/
def wipeE (env : Env) : List Nat → Env
  | [] => env
  | v :: vs => (wipeE env vs).set v .no
theorem wipeE_length (env : Env) : ∀ vs : List Nat, (wipeE env vs).length = env.length
  | [] => rfl
  | v :: vs => by unfold wipeE; rw [List.length_set, wipeE_length env vs]
theorem set_at {α : Type} {l : List α} {i j : Nat} {a b : α} (h : (l.set i a)[j]? = some b) : (i = j ∧ b = a) ∨ (i ≠ j ∧ l[j]? = some b) := by
  by_cases e : i = j
  · subst e
    refine .inl ⟨rfl, ?_⟩
    by_cases hl : i < l.length
    · rw [List.getElem?_set_self hl] at h
      exact (Option.some.inj h).symm
    · rw [List.getElem?_eq_none (by simpa using hl)] at h
      cases h
  · rw [List.getElem?_set_ne e] at h
    exact .inr ⟨e, h⟩
theorem ER.no {F0 H0 F H : Hp} {σ : L2.St} {env : Env} (r : ER F0 H0 F H σ env) (i : Nat) : ER F0 H0 F H (σ.set i none) (env.set i .no) where
  up := r.up
  len := by rw [List.length_set, List.length_set, r.len]
  val := fun j d e => by
    rcases set_at e with ⟨_, e⟩ | ⟨n, e⟩
    · cases e
    · obtain ⟨v, h1, h2⟩ := r.val j d e
      exact ⟨v, by rw [List.getElem?_set_ne n]; exact h1, h2⟩
  own := fun j d e => by
    rcases set_at e with ⟨_, e⟩ | ⟨n, e⟩
    · cases e
    · obtain ⟨p, o, h1, h2⟩ := r.own j d e
      exact ⟨p, o, by rw [List.getElem?_set_ne n]; exact h1, h2⟩
  sep := fun j k d e p h1 h2 h3 h4 => by
    rcases set_at h1 with ⟨_, h1⟩ | ⟨n1, h1⟩
    · cases h1
    · rcases set_at h2 with ⟨_, h2⟩ | ⟨n2, h2⟩
      · cases h2
      · rw [List.getElem?_set_ne n1] at h3
        rw [List.getElem?_set_ne n2] at h4
        exact r.sep j k d e p h1 h2 h3 h4
theorem ER.wipe {F0 H0 F H : Hp} {σ : L2.St} {env : Env} (r : ER F0 H0 F H σ env) : ∀ vs : List Nat, ER F0 H0 F H (wipe σ vs) (wipeE env vs)
  | [] => r
  | v :: vs => (ER.wipe r vs).no v
theorem wipe_get {σ : L2.St} : ∀ {vs : List Nat} {j : Nat}, j ∉ vs → (wipe σ vs)[j]? = σ[j]?
  | [], _, _ => rfl
  | v :: vs, j, h => by
    simp only [List.mem_cons, not_or] at h
    unfold wipe
    rw [List.getElem?_set_ne fun e => h.1 e.symm, wipe_get h.2]
theorem wipe_in {σ : L2.St} : ∀ {vs : List Nat} {j : Nat}, j ∈ vs → j < σ.length → (wipe σ vs)[j]? = some none
  | v :: vs, j, h, hl => by
    unfold wipe
    by_cases e : v = j
    · subst e
      rw [List.getElem?_set_self (by rw [wipe_length]; exact hl)]
    · rw [List.getElem?_set_ne e]
      refine wipe_in ?_ hl
      rcases List.mem_cons.mp h with h | h
      · exact absurd h.symm e
      · exact h
theorem wipe_eq {σ σ' : L2.St} {vs : List Nat} (hl : σ'.length = σ.length) (h : ∀ j, j ∉ vs → σ'[j]? = (wipe σ vs)[j]?) : wipe σ' vs = wipe σ vs := by
  apply List.ext_getElem?
  intro j
  by_cases hj : j ∈ vs
  · by_cases hlt : j < σ.length
    · rw [wipe_in hj hlt, wipe_in hj (by rw [hl]; exact hlt)]
    · rw [List.getElem?_eq_none (by rw [wipe_length, hl]; omega), List.getElem?_eq_none (by rw [wipe_length]; omega)]
  · rw [wipe_get hj, h j hj]
/-! ### [f for x in it if t] -/
def lcGo (gt : Gx) (t : Tx) (f : Ex) (env : Env) : List D → Option (List D)
  | [] => some []
  | d :: ds => (gt d env).bind fun e => (t e).bind fun k => if k = true then (f e).bind fun y => (lcGo gt t f env ds).bind fun ys => some (y :: ys) else lcGo gt t f env ds
def exLc (it : Ix) (vs : List Nat) (gt : Gx) (t : Tx) (f : Ex) : Ex := fun env => (it env).bind fun ds => (lcGo gt t f (wipeE env vs) ds).bind fun ys => some (.lst ys)
theorem Up.at {F H F' H' : Hp} {a : Addr} {o : HO} (u : Up F H F' H') (h : H a = none) (f : F' a = none) : Up F H F' (upd H' a o) where
  f := u.f
  h := fun b x e => by
    rw [upd_ne (ne_of_none e h)]
    exact u.h b x e
  n := u.n
  s := fun b x e => by
    rw [upd_ne (ne_of_none e f)]
    exact u.s b x e
theorem lc_of {it : Ix} {ws vs : List Nat} {gt : Gx} {t : Tx} {f : Ex} {σ : L2.St} {H : Hp} {Q : VK} (hw : ∀ w ∈ ws, w ∈ vs) (h : eN (exLc it vs gt t f) σ H Q) : tLc (eI it) (eG ws gt) (eT t) (eS f) vs σ H Q := by
  obtain ⟨F0, H0, F, env, d, r, e, q⟩ := h
  simp only [exLc, Option.bind_eq_some_iff, Option.some.injEq] at e
  obtain ⟨ds, h1, ys, h2, rfl⟩ := e
  refine ⟨F0, H0, F, env, ds, r, h1, fun J F1 H1 u1 S Dd hD => ?_⟩
  have w0 : H Dd = none := u1.h.free hD
  refine ⟨fun i m H2 => ∃ F2 acc out vs', m = ds.length - i ∧ i ≤ ds.length ∧ Same F1 F2 ∧ Up F H F2 H2 ∧ F2 Dd = none ∧ H2 Dd = some (.lst vs') ∧ RepL F2 vs' acc ∧ acc.length ≤ i ∧ lcGo gt t f (wipeE env vs) (ds.drop i) = some out ∧ acc ++ out = ys,
    ⟨ds.length, F1, [], ys, [], by simp, Nat.zero_le _, Same.refl F1, u1.at w0 (Same.free u1.s hD), Same.free u1.s hD, upd_same, .nil, Nat.le_refl _, by simpa using h2, rfl⟩, fun i m H2 ⟨F2, acc, out, vs', em, hi, s2, u2, fD, hH, rl, al, eo, ey⟩ => ?_⟩
  by_cases hlt : i < ds.length
  · rw [List.drop_eq_getElem_cons hlt] at eo
    simp only [lcGo, Option.bind_eq_some_iff] at eo
    obtain ⟨e1, h3, k, h4, h5⟩ := eo
    have hz : i < sizeLine := Nat.lt_of_lt_of_le hlt S.len
    refine .inr ⟨S.go i F2 H2 s2 u2.s hlt, fun H' => ∃ F3 acc out vs', Same F1 F3 ∧ Up F H F3 H' ∧ F3 Dd = none ∧ H' Dd = some (.lst vs') ∧ RepL F3 vs' acc ∧ acc.length ≤ i + 1 ∧ lcGo gt t f (wipeE env vs) (ds.drop (i + 1)) = some out ∧ acc ++ out = ys,
      fun H' ⟨F3, acc, out, vs', a1, a2, a3, a4, a5, a6, a7, a8⟩ => ⟨ds.length - (i + 1), by omega, F3, acc, out, vs', rfl, hlt, a1, a2, a3, a4, a5, a6, a7, a8⟩, fun x H' y => ?_⟩
    obtain ⟨F3, u3, p3⟩ := S.yld i _ F2 H2 x H' s2 u2.s (List.getElem?_eq_getElem hlt) y
    have r3 := (r.mono u2).mono u3
    refine ⟨F0, H0, F3, wipeE env vs, _, e1, r3.wipe vs, p3, h3, fun σ4 r4 k4 => ⟨?_, F0, H0, F3, e1, k, r4, h4, fun F4 H4 u4 => ?_⟩⟩
    · exact wipe_eq (k4.1.trans (wipe_length σ vs)) fun j hj => k4.2 j fun hj' => hj (hw j hj')
    · cases k with
      | true =>
        rw [if_pos rfl] at h5 ⊢
        simp only [Option.bind_eq_some_iff, Option.some.injEq] at h5
        obtain ⟨y', h6, ys', h7, rfl⟩ := h5
        refine ⟨F0, H0, F4, e1, y', r4.mono u4, h6, fun v F5 H5 u5 p5 => ?_⟩
        have u35 := (u3.trans u4).trans u5
        have hH5 := u35.h _ _ hH
        have fD5 : F5 Dd = none := u35.n _ _ hH fD
        exact ⟨vs', hH5, by rw [rl.length]; omega, F5, acc ++ [y'], ys', vs' ++ [v], s2.trans u35.f, (u2.trans u35).at w0 fD5, fD5, upd_same, (rl.mono u35.f).append (.one p5), by rw [List.length_append]; exact Nat.succ_le_succ al, h7, by rw [List.append_assoc]; exact ey⟩
      | false =>
        rw [if_neg Bool.false_ne_true] at h5 ⊢
        have u34 := u3.trans u4
        exact ⟨F4, acc, out, vs', s2.trans u34.f, u2.trans u34, u34.n _ _ hH fD, u34.h _ _ hH, rl.mono u34.f, Nat.le_succ_of_le al, h5, ey⟩
  · have ei : i = ds.length := by omega
    subst ei
    rw [List.drop_length] at eo
    cases eo
    rw [List.append_nil] at ey
    subst ey
    exact .inl ⟨S.stop F2 H2 s2 u2.s, q _ F2 H2 u2 (.own Dd _ rfl w0 fD hH (.lst rl) rfl)⟩
theorem setSN_of {i : Nat} {f : Ex} {σ : L2.St} {H : Hp} {E : Ends} (h : sF (fxSetS i f) E σ H) : tAsg (eN f) (gName i) E σ H := by
  obtain ⟨F0, H0, F, env, fl, r, e, p⟩ := h
  simp only [fxSetS, Option.bind_eq_some_iff, Option.some.injEq] at e
  obtain ⟨d, h1, rfl⟩ := e
  refine ⟨F0, H0, F, env, d, r, h1, fun v F' H' u q => ?_⟩
  obtain ⟨F'', u', q'⟩ := q.freeze u
  exact p _ F'' H' u'.f ((r.mono u').setVal q')
def txY : Tx := fun _ => some true
theorem _root_.L2.PTs.imp {cs : List Expr} {t t' : TT} (h : PTs X cs t) (i : ∀ σ H Q, t' σ H Q → t σ H Q) : PTs X cs t' := ⟨fun pins s σ H Q I q => h.run pins s σ H Q I (i σ H Q q)⟩
theorem pTs0 : PTs X [] (eT txY) := pts_nil.imp fun σ H Q ⟨F0, H0, F, env, b, r, e, q⟩ => by
  cases e
  exact q F H (Up.refl r.s)
theorem pTs1 {c : Expr} {t : Tx} (h : PT X c (eT t)) : PTs X [c] (eT t) := pts_one h
theorem pLc {elt tg iter : Expr} {ifs : List Expr} {scope : Scope} {own : List (Str × Nat)} {pos : Pos} {it : Ix} {ws : List Nat} {gt : Gx} {t : Tx} {f : Ex} (hc : X.calm = true) (hN : X.N.Nodup) (hi : PI X tg iter (eI it)) (ok : blkC X.N X.env.scope scope own = true) (hw : (ws.all fun w => (own.map (·.2)).contains w) = true)
    (hg : ∀ (s : Shared) (H : Hp) (C : Addr) (cl : List (Str × Addr)) (fp : List Addr), PG (X.blk s H scope (compEnvC scope cl C X.env) fp) tg (eG ws gt)) (ht : ∀ (s : Shared) (H : Hp) (C : Addr) (cl : List (Str × Addr)) (fp : List Addr), PTs (X.blk s H scope (compEnvC scope cl C X.env) fp) ifs (eT t))
    (he : ∀ (s : Shared) (H : Hp) (C : Addr) (cl : List (Str × Addr)) (fp : List Addr), PE (X.blk s H scope (compEnvC scope cl C X.env) fp) elt (eS f)) (hs : ∀ x, foldedSetIterable iter X.env x = pure x) :
    PE X (.ListComp elt [⟨tg, iter, ifs, 0⟩] scope pos) (eN (exLc it (own.map (·.2)) gt t f)) := (pe_lc hc hN hi (blkOk_by ok) hg ht he hs).imp fun σ H Q h => lc_of (fun w hw' => by simpa using List.all_eq_true.mp hw w hw') h
theorem pSetLcN {i : Nat} {y : Str} {py : Pos} {elt tg iter : Expr} {ifs : List Expr} {scope : Scope} {own : List (Str × Nat)} {pos spos : Pos} {it : Ix} {ws : List Nat} {gt : Gx} {t : Tx} {f : Ex} (hc : X.calm = true) (hN : X.N.Nodup) (hy : X.N[i]? = some y) (hyl : X.env.scope.names.lookup y = some .local)
    (hsw : swapsWith (.ListComp elt [⟨tg, iter, ifs, 0⟩] scope pos) (some (.Name y py)) spos.line X.env = pure true) (hi : PI X tg iter (eI it)) (ok : blkC X.N X.env.scope scope own = true) (hw : (ws.all fun w => (own.map (·.2)).contains w) = true)
    (hg : ∀ (s : Shared) (H : Hp) (C : Addr) (cl : List (Str × Addr)) (fp : List Addr), PG (X.blk s H scope (compEnvC scope cl C X.env) fp) tg (eG ws gt)) (ht : ∀ (s : Shared) (H : Hp) (C : Addr) (cl : List (Str × Addr)) (fp : List Addr), PTs (X.blk s H scope (compEnvC scope cl C X.env) fp) ifs (eT t))
    (he : ∀ (s : Shared) (H : Hp) (C : Addr) (cl : List (Str × Addr)) (fp : List Addr), PE (X.blk s H scope (compEnvC scope cl C X.env) fp) elt (eS f)) (hs : ∀ x, foldedSetIterable iter X.env x = pure x) :
    PS X (.Assign [.Name y py] (.ListComp elt [⟨tg, iter, ifs, 0⟩] scope pos) spos) (sF (fxSetN i (exLc it (own.map (·.2)) gt t f))) := (ps_setLc hc hN hy hyl hsw hi (blkOk_by ok) hg ht he hs).imp fun σ H E h => by
  have h' := setN_of h
  exact lc_of (fun w hw' => by simpa using List.all_eq_true.mp hw w hw') h'
theorem pSetLcS {i : Nat} {y : Str} {py : Pos} {elt tg iter : Expr} {ifs : List Expr} {scope : Scope} {own : List (Str × Nat)} {pos spos : Pos} {it : Ix} {ws : List Nat} {gt : Gx} {t : Tx} {f : Ex} (hc : X.calm = true) (hN : X.N.Nodup) (hy : X.N[i]? = some y) (hyl : X.env.scope.names.lookup y = some .local)
    (hsw : swapsWith (.ListComp elt [⟨tg, iter, ifs, 0⟩] scope pos) (some (.Name y py)) spos.line X.env = pure true) (hi : PI X tg iter (eI it)) (ok : blkC X.N X.env.scope scope own = true) (hw : (ws.all fun w => (own.map (·.2)).contains w) = true)
    (hg : ∀ (s : Shared) (H : Hp) (C : Addr) (cl : List (Str × Addr)) (fp : List Addr), PG (X.blk s H scope (compEnvC scope cl C X.env) fp) tg (eG ws gt)) (ht : ∀ (s : Shared) (H : Hp) (C : Addr) (cl : List (Str × Addr)) (fp : List Addr), PTs (X.blk s H scope (compEnvC scope cl C X.env) fp) ifs (eT t))
    (he : ∀ (s : Shared) (H : Hp) (C : Addr) (cl : List (Str × Addr)) (fp : List Addr), PE (X.blk s H scope (compEnvC scope cl C X.env) fp) elt (eS f)) (hs : ∀ x, foldedSetIterable iter X.env x = pure x) :
    PS X (.Assign [.Name y py] (.ListComp elt [⟨tg, iter, ifs, 0⟩] scope pos) spos) (sF (fxSetS i (exLc it (own.map (·.2)) gt t f))) := (ps_setLc hc hN hy hyl hsw hi (blkOk_by ok) hg ht he hs).imp fun σ H E h => by
  have h' := setSN_of h
  exact lc_of (fun w hw' => by simpa using List.all_eq_true.mp hw w hw') h'
end
end Sw

/-! Sw9: defs and calls by name. -/
namespace Sw
open PySem L2 PySem.Spec PyProof.Rows

def env0 (n : Nat) (ds : List D) : Env := ds.map Slot.val ++ List.replicate (n - ds.length) Slot.no
def outD : Option Fl → Option D
  | some (.ret d) => some d
  | some (.nx _) => some .non
  | _ => none
def runF (fx : Fx) (n a : Nat) (ds : List D) : Option D := if ds.length = a then outD (fx (env0 n ds)) else none
theorem runF_len {fx : Fx} {n a : Nat} {ds : List D} {d : D} (h : runF fx n a ds = some d) : ds.length = a := by
  unfold runF at h
  split at h
  · assumption
  · cases h
def spF (φ : List D → Option D) (a : Nat) : Sp := fun vs H Q _ => vs.length = a ∧ ∃ F ds d, Same F H ∧ RepL F vs ds ∧ φ ds = some d ∧ ∀ v F' H', Up F H F' H' → Rep F' v d → Q v H'
theorem er_start {F H : Hp} {vs : List V} {ds : List D} (s : Same F H) (r : RepL F vs ds) (N : List Str) : ER F H F H (L2.start N vs) (env0 N.length ds) where
  up := Up.refl s
  len := by
    unfold L2.start env0
    rw [List.length_append, List.length_append, List.length_map, List.length_map, List.length_replicate, List.length_replicate, r.length]
  val := fun i d e => by
    unfold env0 at e
    unfold L2.start
    by_cases hi : i < ds.length
    · rw [List.getElem?_append_left (by rw [List.length_map]; exact hi), List.getElem?_map] at e
      rw [List.getElem?_append_left (by rw [List.length_map, r.length]; exact hi), List.getElem?_map]
      obtain ⟨d', h1, h2⟩ := Option.map_eq_some_iff.mp e
      cases h2
      obtain ⟨v, h3, h4⟩ := r.get h1
      exact ⟨v, by rw [h3]; rfl, h4⟩
    · rw [List.getElem?_append_right (by rw [List.length_map]; omega)] at e
      obtain ⟨_, e⟩ := List.getElem?_eq_some_iff.mp e
      rw [List.getElem_replicate] at e
      cases e
  own := fun i d e => by
    unfold env0 at e
    by_cases hi : i < ds.length
    · rw [List.getElem?_append_left (by rw [List.length_map]; exact hi), List.getElem?_map] at e
      obtain ⟨d', h1, h2⟩ := Option.map_eq_some_iff.mp e
      cases h2
    · rw [List.getElem?_append_right (by rw [List.length_map]; omega)] at e
      obtain ⟨_, e⟩ := List.getElem?_eq_some_iff.mp e
      rw [List.getElem_replicate] at e
      cases e
  sep := fun i j d e' p e => by
    exfalso
    unfold env0 at e
    by_cases hi : i < ds.length
    · rw [List.getElem?_append_left (by rw [List.length_map]; exact hi), List.getElem?_map] at e
      obtain ⟨d', h1, h2⟩ := Option.map_eq_some_iff.mp e
      cases h2
    · rw [List.getElem?_append_right (by rw [List.length_map]; omega)] at e
      obtain ⟨_, e⟩ := List.getElem?_eq_some_iff.mp e
      rw [List.getElem_replicate] at e
      cases e
/-- a def that is called by its name -/
structure Own (P : Program) (w : World) (K : PySem.W.Frag) (mg : Str → Option Value) (base : Heap) (k : Nat) (x : Str) (φ : List D → Option D) : Prop where
  ex : ∃ (f : Addr) (fd : FuncData) (ps : List Str), FnOk P w K mg base CX0 k f fd ps (spF φ ps.length) ∧ (∀ ds d, φ ds = some d → ds.length = ps.length) ∧ mg x = some (.ref f) ∧ PySem.W.keepIn K (.ref f) = true ∧ Binds K fd ps []
section
variable {P : Program} {w : World} {K : PySem.W.Frag} {mg : Str → Option Value} {base : Heap}
theorem Own.mono {j k : Nat} {x : Str} {φ : List D → Option D} (O : Own P w K mg base j x φ) (h : j ≤ k) : Own P w K mg base k x φ := by
  obtain ⟨f, fd, ps, F, l, a, b, c⟩ := O.ex
  exact ⟨f, fd, ps, F.mono h, l, a, b, c⟩
abbrev CxF (P : Program) (w : World) (K : PySem.W.Frag) (mg : Str → Option Value) (base : Heap) (N : List Str) (qual : Str) (sc : Scope) (f : Addr) (cdv : Value) (A : Around) (outer : List PySem.Env) (s : Shared) (H : Hp) (E : XK) : Cx := (cxOf CX0 P w K mg base N qual sc f cdv A outer s H E).nox
theorem fn_ok {x qual : Str} {st : Stmt} {f : Addr} {fd : FuncData} {N ps : List Str} {k : Nat} {fx : Fx} (F : Fun K x qual st f fd) (S : FnScope N ps (defScope st))
    (hb : ∀ (cdv : Value) (A : Around) (outer : List PySem.Env) (s : Shared) (H : Hp) (E : XK), Room k (A.deeper (envOfC qual (defScope st) s.heap.objs.size f cdv)) → PSs (CxF P w K mg base N qual (defScope st) f cdv A outer s H E) (defBody st) (sF fx)) :
    FnOk P w K mg base CX0 (k + 1) f fd ps (spF (runF fx N.length ps.length) ps.length) := by
  refine F.ok S (fun vs H Q E h => h.1) fun cdv A outer s H vs Q E hr h => ⟨_, hb cdv A outer s H E hr, ?_⟩
  obtain ⟨hl, F0, ds, d, sm, r, e, q⟩ := h
  unfold runF at e
  split at e
  · cases h1 : fx (env0 N.length ds) with
    | none =>
      rw [h1] at e
      cases e
    | some fl =>
      rw [h1] at e
      refine ⟨F0, H, F0, _, fl, er_start sm r N, h1, ?_⟩
      cases fl with
      | ret d' =>
        cases e
        exact q
      | nx e' =>
        cases e
        exact fun σ' F' H' _ r' => q .non F' H' r'.up .non
      | bk e' => cases e
      | ct e' => cases e
  · cases e
theorem own_mk {x qual : Str} {st : Stmt} {f : Addr} {fd : FuncData} {N ps : List Str} {k : Nat} {fx : Fx} (F : Fun K x qual st f fd) (S : FnScope N ps (defScope st)) (g : mg x = some (.ref f))
    (hb : ∀ (cdv : Value) (A : Around) (outer : List PySem.Env) (s : Shared) (H : Hp) (E : XK), Room k (A.deeper (envOfC qual (defScope st) s.heap.objs.size f cdv)) → PSs (CxF P w K mg base N qual (defScope st) f cdv A outer s H E) (defBody st) (sF fx))
    (b : Binds K fd ps []) : Own P w K mg base (k + 1) x (runF fx N.length ps.length) := ⟨f, fd, ps, fn_ok F S hb, fun ds d e => runF_len e, g, F.kp, b⟩
end
section
variable {X : Cx} {x : Str} {φ : List D → Option D} {k : Nat} {e : Expr} {es : List Expr} {fs : List Ex} {p pos : Pos}
theorem pOwn (O : Own X.prog X.w X.K X.mg X.base k x φ) (hr : Room k X.A) (hg : Gl X x) (hn : plainAs (e :: es) = true) (ha : PA X (e :: es) (aS fs)) (hdb : (x == ("__debug__" : Str)) = false := by decide) : PE X (.Call (.Name x p) (e :: es) [] pos) (eS (exCall φ fs)) := by
  obtain ⟨f, fd, ps, F, l, gm, kp, b⟩ := O.ex
  have hn' : notStar e = true ∧ plainAs es = true := by simpa [plainAs] using hn
  refine (pe_call F hr hg gm kp b .nil L2.pass0 ha hdb (star_cons hn'.1 es X.env) (star_plain hn'.2 X.env pos)).imp fun σ H Q ⟨F0, H0, F1, env, d, r, e1, q⟩ => ?_
  simp only [exCall, Option.bind_eq_some_iff] at e1
  obtain ⟨ds, h1, h2⟩ := e1
  refine ⟨F0, H0, F1, env, ds, r, h1, fun vs F' H' u rl => ?_⟩
  show spF φ ps.length (vs ++ []) H' Q E0
  rw [List.append_nil]
  exact ⟨by rw [rl.length]; exact l _ _ h2, F', ds, d, u.s, rl, h2, fun v F2 H2 u2 p2 => q v F2 H2 (u.trans u2) p2⟩
/-- the built-in names that the top leaves alone -/
def noG (mg : Str → Option Value) (xs : List Str) : Prop := ∀ x ∈ xs, mg x = none
end
end Sw

/-! Sw10: the built-in names; rules in short. -/
namespace Sw
open PySem L2 PySem.Spec PyProof.Rows

structure Blt (mg : Str → Option Value) : Prop where
  len : mg "len" = none
  range : mg "range" = none
  abs : mg "abs" = none
  int : mg "int" = none
  bool : mg "bool" = none
  str : mg "str" = none
  tuple : mg "tuple" = none
  list : mg "list" = none
  set : mg "set" = none
  sum : mg "sum" = none
  all : mg "all" = none
  any : mg "any" = none
  min : mg "min" = none
  max : mg "max" = none
  sorted : mg "sorted" = none
  enumerate : mg "enumerate" = none
  zip : mg "zip" = none
  reversed : mg "reversed" = none
  isinstance : mg "isinstance" = none

structure Lv (k : Nat) (A : Around) : Prop where
  room : Room k A
  u1 : A.units + 1 < cLine
  u64 : A.units + 64 < cLine
  u65 : A.units + 65 < cLine
theorem Lv.of {k : Nat} {A : Around} (r : Room k A) : Lv k A := ⟨r, by have := r.un; omega, by have := r.un; omega, by have := r.un; omega⟩

section
variable {X : Cx} {x : Str} {φ : List D → Option D} {k : Nat} {e : Expr} {es : List Expr} {fs : List Ex} {p pos : Pos} (B : Blt X.mg) (L : Lv k X.A)
include B
theorem bLen (hg : Gl X "len") (hp : plainAs (e :: es) = true) (ha : PA X (e :: es) (aB fs)) : PE X (.Call (.Name "len" p) (e :: es) [] pos) (eS (exCall dLen fs)) := pCallBS c_len hg B.len PySem.boot_len (by decide) (by decide) hp ha
theorem bAbs (hg : Gl X "abs") (hp : plainAs (e :: es) = true) (ha : PA X (e :: es) (aB fs)) : PE X (.Call (.Name "abs" p) (e :: es) [] pos) (eS (exCall dAbs fs)) := pCallBS c_abs hg B.abs (by decide +kernel) (by decide) (by decide) hp ha
theorem bInt (hg : Gl X "int") (hp : plainAs (e :: es) = true) (ha : PA X (e :: es) (aB fs)) : PE X (.Call (.Name "int" p) (e :: es) [] pos) (eS (exCall dInt fs)) := pCallTS c_int hg B.int (by decide +kernel) (by decide) (by decide) hp ha
theorem bTuple (hg : Gl X "tuple") (hp : plainAs (e :: es) = true) (ha : PA X (e :: es) (aB fs)) : PE X (.Call (.Name "tuple" p) (e :: es) [] pos) (eN (exCall dTuple fs)) := pCallTN c_tuple hg B.tuple (by decide +kernel) (by decide) (by decide) hp ha
theorem bList (hg : Gl X "list") (hp : plainAs (e :: es) = true) (ha : PA X (e :: es) (aB fs)) : PE X (.Call (.Name "list" p) (e :: es) [] pos) (eN (exCall dList fs)) := pCallTN c_list hg B.list (by decide +kernel) (by decide) (by decide) hp ha
theorem bSum (hc : X.calm = true) (hg : Gl X "sum") (hp : plainAs (e :: es) = true) (ha : PA X (e :: es) (aB fs)) : PE X (.Call (.Name "sum" p) (e :: es) [] pos) (eS (exCall dSum fs)) := pCallBS (c_sum hc) hg B.sum (by decide +kernel) (by decide) (by decide) hp ha
theorem bAll (hc : X.calm = true) (hg : Gl X "all") (hp : plainAs (e :: es) = true) (ha : PA X (e :: es) (aB fs)) : PE X (.Call (.Name "all" p) (e :: es) [] pos) (eS (exCall dAll fs)) := pCallBS (c_all hc) hg B.all (by decide +kernel) (by decide) (by decide) hp ha
theorem bAny (hc : X.calm = true) (hg : Gl X "any") (hp : plainAs (e :: es) = true) (ha : PA X (e :: es) (aB fs)) : PE X (.Call (.Name "any" p) (e :: es) [] pos) (eS (exCall dAny fs)) := pCallBS (c_any hc) hg B.any (by decide +kernel) (by decide) (by decide) hp ha
include L
theorem bMin (hc : X.calm = true) (hg : Gl X "min") (hp : plainAs (e :: es) = true) (ha : PA X (e :: es) (aB fs)) : PE X (.Call (.Name "min" p) (e :: es) [] pos) (eS (exCall dMin fs)) := pCallBS (c_min hc L.u65) hg B.min (by decide +kernel) (by decide) (by decide) hp ha
theorem bMax (hc : X.calm = true) (hg : Gl X "max") (hp : plainAs (e :: es) = true) (ha : PA X (e :: es) (aB fs)) : PE X (.Call (.Name "max" p) (e :: es) [] pos) (eS (exCall dMax fs)) := pCallBS (c_max hc L.u65) hg B.max (by decide +kernel) (by decide) (by decide) hp ha
theorem bSorted (hg : Gl X "sorted") (hp : plainAs (e :: es) = true) (ha : PA X (e :: es) (aB fs)) : PE X (.Call (.Name "sorted" p) (e :: es) [] pos) (eN (exCall dSorted fs)) := pCallBN (c_sorted L.u65) hg B.sorted (by decide +kernel) (by decide) (by decide) hp ha
end
section
variable {X : Cx} {e : Expr} {f : Ex} {p p2 pos : Pos} (B : Blt X.mg)
include B
theorem bIsInt (hg : Gl X "isinstance") (hg2 : Gl X "int") (hn : notStar e = true) (he : PE X e (eB f)) : PE X (.Call (.Name "isinstance" p) [e, .Name "int" p2] [] pos) (eS (exIsi .int f)) := pIsi hg B.isinstance hg2 B.int (by decide +kernel) (by decide) (by decide) hn he
theorem bIsBool (hg : Gl X "isinstance") (hg2 : Gl X "bool") (hn : notStar e = true) (he : PE X e (eB f)) : PE X (.Call (.Name "isinstance" p) [e, .Name "bool" p2] [] pos) (eS (exIsi .bool f)) := pIsi hg B.isinstance hg2 B.bool (by decide +kernel) (by decide) (by decide) hn he
theorem bIsStr (hg : Gl X "isinstance") (hg2 : Gl X "str") (hn : notStar e = true) (he : PE X e (eB f)) : PE X (.Call (.Name "isinstance" p) [e, .Name "str" p2] [] pos) (eS (exIsi .str f)) := pIsi hg B.isinstance hg2 B.str (by decide +kernel) (by decide) (by decide) hn he
theorem bIsTup (hg : Gl X "isinstance") (hg2 : Gl X "tuple") (hn : notStar e = true) (he : PE X e (eB f)) : PE X (.Call (.Name "isinstance" p) [e, .Name "tuple" p2] [] pos) (eS (exIsi .tup f)) := pIsi hg B.isinstance hg2 B.tuple (by decide +kernel) (by decide) (by decide) hn he
theorem bIsLst (hg : Gl X "isinstance") (hg2 : Gl X "list") (hn : notStar e = true) (he : PE X e (eB f)) : PE X (.Call (.Name "isinstance" p) [e, .Name "list" p2] [] pos) (eS (exIsi .lst f)) := pIsi hg B.isinstance hg2 B.list (by decide +kernel) (by decide) (by decide) hn he
end
section
variable {X : Cx} {e : Expr} {f : Ex} {i : Nat} {x : Str} {pos pos' : Pos}
/-- x = e: frozen; kept -/
theorem sSetS (hN : X.N.Nodup) (hi : X.N[i]? = some x) (hx : Loc X.env.scope x) (he : PE X e (eS f)) (hs : swapsWith e (some (.Name x pos')) pos.line X.env = pure false) (hf : X.fn x = true ∨ X.env.scope.names.lookup x = some .local) : PS X (.Assign [.Name x pos'] e pos) (sF (fxSetS i f)) := (ps_set hN hi hx he hs hf).imp fun _ _ _ h => setS_of h
theorem sSetN (hN : X.N.Nodup) (hi : X.N[i]? = some x) (hx : Loc X.env.scope x) (he : PE X e (eN f)) (hs : swapsWith e (some (.Name x pos')) pos.line X.env = pure false) (hf : X.fn x = true ∨ X.env.scope.names.lookup x = some .local) : PS X (.Assign [.Name x pos'] e pos) (sF (fxSetN i f)) := (ps_set hN hi hx he hs hf).imp fun _ _ _ h => setN_of h
theorem pInt {j : Int} {k : Nat} : PE X (.Constant (.int j) k pos) (eS (exC (.int j))) := pC pe_int fun _ => .int j
def exN (k : Nat) : Ex := fun _ => some (.int (k : Nat))
theorem pNat {n : Nat} {k : Nat} : PE X (.Constant (.int (Int.ofNat n)) k pos) (eS (exN n)) := pC pe_int fun _ => .int _
theorem pStr {y : Str} {k : Nat} : PE X (.Constant (.str y) k pos) (eS (exC (.str y))) := pC pe_str fun _ => .str y
theorem pNon {k : Nat} : PE X (.Constant .none k pos) (eS (exC .non)) := pC pe_non fun _ => .non
end

theorem gxNil_len : ∀ (ds : List D) (env e : Env), gxNil ds env = some e → ds.length = 0 := fun ds env e h => by
  cases ds with
  | nil => rfl
  | cons d ds => cases h
theorem gxCons_len {g : Gx} {h : List D → Env → Option Env} {n : Nat} (hl : ∀ (ds : List D) (env e : Env), h ds env = some e → ds.length = n) : ∀ (ds : List D) (env e : Env), gxCons g h ds env = some e → ds.length = n + 1 := fun ds env e q => by
  cases ds with
  | nil => cases q
  | cons d ds =>
    simp only [gxCons, Option.bind_eq_some_iff] at q
    obtain ⟨e1, _, q⟩ := q
    rw [List.length_cons, hl _ _ _ q]
theorem own_zero {P : Program} {w : World} {K : PySem.W.Frag} {mg : Str → Option Value} {base : Heap} {x qual : Str} {st : Stmt} {f : Addr} {fd : FuncData} {ps : List Str} {k : Nat} {φ : List D → Option D} (F : Fun K x qual st f fd) (g : mg x = some (.ref f)) (b : L2.Binds K fd ps []) (z : ∀ ds, φ ds = none) : Own P w K mg base k x φ := by
  have h1 : FnOk P w K mg base CX0 k f fd ps (spF φ ps.length) := by
    refine ⟨fun vs H Q E h => h.1, fun A outer s H args us vs Q E hr he hb hv h => ?_⟩
    obtain ⟨_, F, ds, d, _, _, e, _⟩ := h
    rw [z] at e
    cases e
  refine ⟨⟨f, fd, ps, h1, fun ds d e => ?_, g, F.kp, b⟩⟩
  rw [z] at e
  cases e

/-! ### the law's own end -/
def lstCls : Value → Bool
  | .type n => n == "list"
  | _ => false
def noLists (K : PySem.W.Frag) : Bool := K.all fun p => !lstCls p.2.cls
theorem mem_look : ∀ {K : PySem.W.Frag} {a : Addr} {o : Obj}, K.lookup a = some o → ∃ b, (b, o) ∈ K
  | [], a, o, h => nomatch h
  | (b, x) :: K, a, o, h => by
    unfold List.lookup at h
    split at h
    · cases h
      exact ⟨b, List.mem_cons_self⟩
    · obtain ⟨c, hc⟩ := mem_look h
      exact ⟨c, List.mem_cons_of_mem _ hc⟩
theorem no_list {K : PySem.W.Frag} {a : Addr} {o : Obj} (h : noLists K = true) (e : K.lookup a = some o) : o.cls ≠ .type "list" := fun hc => by
  obtain ⟨b, hb⟩ := mem_look e
  have hm := List.all_eq_true.mp h (b, o) hb
  rw [hc] at hm
  exact absurd hm (by decide)
theorem sp_script {K : PySem.W.Frag} {H : Hp} {a : Addr} {ns : List Int} {φ : List D → Option D} (hO : Only H) (hS : SqL K H a (ns.map V.int)) (hK : noLists K = true) (h : φ [.scr ns] = some (.bl true)) : spF φ 1 [.ref a] H (fun v _ => v = .bl true) fun _ _ _ => False := by
  rcases hS with hS | ⟨o, its, n, hk, hc, _⟩
  · rcases hS with hS | ⟨ob, hS⟩
    · rcases hO a with e | ⟨o, xs, e⟩
      · rw [hS] at e
        cases e
      · rw [hS] at e
        cases e
    · refine ⟨rfl, H, [.scr ns], .bl true, Same.refl H, .cons (.ref hS .scr) .nil, h, fun v F' H' u p => ?_⟩
      exact (RB.rep p : RB F' H' v _).bl
  · exact absurd hc (no_list hK hk)
end Sw

/-! Sw11: the plain law's tools; the defs that all laws share. -/
namespace Sw
open PySem L2

theorem add_int (a b : Int) : dAdd (.int a) (.int b) = some (.int (a + b)) := rfl
theorem sub_int (a b : Int) : dSub (.int a) (.int b) = some (.int (a - b)) := rfl
theorem add_tup {a b : List D} : dAdd (.tup a) (.tup b) = if a.length + b.length ≤ sizeLine then some (.tup (a ++ b)) else none := rfl
theorem add_lst {a b : List D} : dAdd (.lst a) (.lst b) = if a.length + b.length ≤ sizeLine then some (.lst (a ++ b)) else none := rfl
theorem eq_int (a b : Int) : dEq (.int a) (.int b) = some (.bl (decide (a = b))) := rfl
theorem ne_int (a b : Int) : dNe (.int a) (.int b) = some (.bl (!decide (a = b))) := rfl
theorem lt_int (a b : Int) : dLt (.int a) (.int b) = some (.bl (decide (a < b))) := rfl
theorem le_int (a b : Int) : dLe (.int a) (.int b) = some (.bl (decide (a ≤ b))) := rfl
theorem gt_int (a b : Int) : dGt (.int a) (.int b) = some (.bl (decide (b < a))) := rfl
theorem ge_int (a b : Int) : dGe (.int a) (.int b) = some (.bl (decide (b ≤ a))) := rfl
theorem eq_bl (a b : Bool) : dEq (.bl a) (.bl b) = some (.bl (a == b)) := rfl
theorem ne_bl (a b : Bool) : dNe (.bl a) (.bl b) = some (.bl (!(a == b))) := rfl
theorem is_non (a : D) : dIs a .non = some (.bl a.isNon) := by cases a <;> rfl
theorem isn_non (a : D) : dIsN a .non = some (.bl !a.isNon) := by cases a <;> rfl
theorem non_int (i : Int) : (D.int i).isNon = false := rfl
theorem non_bl (i : Bool) : (D.bl i).isNon = false := rfl
theorem non_str (i : Str) : (D.str i).isNon = false := rfl
theorem non_tup (i : List D) : (D.tup i).isNon = false := rfl
theorem non_lst (i : List D) : (D.lst i).isNon = false := rfl
theorem non_non : D.non.isNon = true := rfl
theorem ix_tup {xs : List D} {i : Int} : dIx (.tup xs) (.int i) = atI xs i := rfl
theorem ix_lst {xs : List D} {i : Int} : dIx (.lst xs) (.int i) = atI xs i := rfl
theorem mul_ok {a b : Int} (h : a.natAbs ≤ 18446744073709551615 ∨ b.natAbs ≤ 18446744073709551615) : dMul (.int a) (.int b) = some (.int (a * b)) := by
  have : mulOk a b = true := by
    unfold mulOk
    rw [Bool.or_eq_true, sm_le, sm_le]
    exact h
  show (if mulOk a b = true then some (D.int (a * b)) else none) = _
  rw [if_pos this]
theorem mul_l {a b : Int} (h : sm 18446744073709551615 a = true) : dMul (.int a) (.int b) = some (.int (a * b)) := mul_ok (.inl (sm_le.mp h))
theorem mul_r {a b : Int} (h : sm 18446744073709551615 b = true) : dMul (.int a) (.int b) = some (.int (a * b)) := mul_ok (.inr (sm_le.mp h))
theorem div_ok {a b : Int} (h : 0 < b) (h' : b < 1073741824) : dDiv (.int a) (.int b) = some (.int (a / b)) := by
  have : divOk b = true := by
    unfold divOk
    rw [Bool.and_eq_true, Bool.or_eq_true, sm_le]
    exact ⟨decide_eq_true h, .inl (by omega)⟩
  show (if divOk b = true then some (D.int (a / b)) else _) = _
  rw [if_pos this]
theorem mod_ok {a b : Int} (h : 0 < b) : dMod (.int a) (.int b) = some (.int (a % b)) := by
  show (if 0 < b then some (D.int (a % b)) else _) = _
  rw [if_pos h]
theorem divI_ok {a b : Int} (h : 0 < b) (h' : b < 1073741824) : dDivI (.int a) (.int b) = some (.int (a / b)) := by
  have : (decide (0 < b) && sm 1073741823 b) = true := by
    rw [Bool.and_eq_true, sm_le]
    exact ⟨decide_eq_true h, by omega⟩
  show (if (decide (0 < b) && sm 1073741823 b) = true then some (D.int (a / b)) else _) = _
  rw [if_pos this]
theorem atI_n {α : Type} {xs : List α} {i : Nat} {x : α} (h : xs[i]? = some x) : atI xs (i : Int) = some x := L2.atI_nat h
theorem line_eq : sizeLine = 16777216 := by decide
theorem rgD_ok {lo hi : Int} (h : lo.natAbs ≤ 1000000000000000000) (h' : hi.natAbs ≤ 1000000000000000000) (h2 : hi - lo ≤ 16777216) : rgD lo hi = some (rngD lo (hi - lo).toNat) := by
  unfold rgD
  rw [if_pos]
  unfold rgOk
  rw [Bool.and_eq_true, Bool.and_eq_true, sm_le, sm_le, Nat.ble_eq]
  omega
theorem rg_nat {n : Nat} (h : n ≤ 16777216) : rgD 0 (n : Int) = some ((List.range n).map fun i => .int (i : Nat)) := by
  rw [rgD_ok (by omega) (by omega) (by omega)]
  simp [rngD]
theorem rg_lit (n : Nat) (h : Nat.ble n 16777216 = true) : rgD 0 (OfNat.ofNat n : Int) = some ((List.range n).map fun i => .int (i : Nat)) := rg_nat (Nat.ble_eq.mp h)
theorem rg_nat2 {a b : Nat} (h : b ≤ 16777216) (h' : a ≤ 1000000) : rgD (a : Int) (b : Int) = some ((List.range' a (b - a)).map fun i => .int (i : Nat)) := by
  rw [rgD_ok (by omega) (by omega) (by omega)]
  have e : ((b : Int) - (a : Int)).toNat = b - a := by omega
  rw [e]
  unfold rngD
  rw [List.range'_eq_map_range, List.map_map]
  congr 1

/-! ### numbers that are not negative -/
theorem cmod (a b : Nat) : ((a : Int) % (b : Int)) = ((a % b : Nat) : Int) := rfl
theorem cdiv (a b : Nat) : ((a : Int) / (b : Int)) = ((a / b : Nat) : Int) := rfl
theorem nmod {a b : Nat} (h : 0 < b) : dMod (.int (a : Nat)) (.int (b : Nat)) = some (.int ((a % b : Nat) : Int)) := mod_ok (by omega)
theorem ndiv {a b : Nat} (h : 0 < b) (h' : b < 1073741824) : dDiv (.int (a : Nat)) (.int (b : Nat)) = some (.int ((a / b : Nat) : Int)) := div_ok (by omega) (by omega)
theorem ndivI {a b : Nat} (h : 0 < b) (h' : b < 1073741824) : dDivI (.int (a : Nat)) (.int (b : Nat)) = some (.int ((a / b : Nat) : Int)) := divI_ok (by omega) (by omega)
theorem nmul {a b : Nat} (h : a < 1000000000) : dMul (.int (a : Nat)) (.int (b : Nat)) = some (.int ((a * b : Nat) : Int)) := mul_ok (.inl (by omega))
theorem nadd {a b : Nat} : dAdd (.int (a : Nat)) (.int (b : Nat)) = some (.int ((a + b : Nat) : Int)) := rfl
theorem naddI {a b : Nat} : dAddI (.int (a : Nat)) (.int (b : Nat)) = some (.int ((a + b : Nat) : Int)) := rfl
theorem neq {a b : Nat} : dEq (.int (a : Nat)) (.int (b : Nat)) = some (.bl (decide (a = b))) := by
  rw [eq_int]
  congr 2
  exact decide_eq_decide.mpr (by omega)
theorem nle {a b : Nat} : dLe (.int (a : Nat)) (.int (b : Nat)) = some (.bl (decide (a ≤ b))) := by
  rw [le_int]
  congr 2
  exact decide_eq_decide.mpr (by omega)
theorem nlt {a b : Nat} : dLt (.int (a : Nat)) (.int (b : Nat)) = some (.bl (decide (a < b))) := by
  rw [lt_int]
  congr 2
  exact decide_eq_decide.mpr (by omega)

theorem nne {a b : Nat} : dNe (.int (a : Nat)) (.int (b : Nat)) = some (.bl (!decide (a = b))) := by
  rw [ne_int]
  congr 3
  exact decide_eq_decide.mpr (by omega)
theorem ngt {a b : Nat} : dGt (.int (a : Nat)) (.int (b : Nat)) = some (.bl (decide (b < a))) := by
  rw [gt_int]
  congr 2
  exact decide_eq_decide.mpr (by omega)
theorem nge {a b : Nat} : dGe (.int (a : Nat)) (.int (b : Nat)) = some (.bl (decide (b ≤ a))) := by
  rw [ge_int]
  congr 2
  exact decide_eq_decide.mpr (by omega)
theorem nsub {a b : Nat} (h : b ≤ a) : dSub (.int (a : Nat)) (.int (b : Nat)) = some (.int ((a - b : Nat) : Int)) := by
  rw [sub_int]
  congr 2
  omega
theorem exC_non (env : Env) : exC .non env = some .non := rfl
theorem exC_bl (b : Bool) (env : Env) : exC (.bl b) env = some (.bl b) := rfl
theorem exC_str (b : Str) (env : Env) : exC (.str b) env = some (.str b) := rfl

/-! ### step by step -/
theorem seq_nx {g h : Fx} {env e : Env} (h1 : g env = some (.nx e)) : fxSeq g h env = h e := by
  unfold fxSeq
  rw [h1]
  rfl
theorem seq_ret {g h : Fx} {env : Env} {d : D} (h1 : g env = some (.ret d)) : fxSeq g h env = some (.ret d) := by
  unfold fxSeq
  rw [h1]
  rfl
theorem if_f {t : Tx} {g h : Fx} {env : Env} (h1 : t env = some false) : fxIf t g h env = h env := by
  unfold fxIf
  rw [h1]
  rfl
theorem if_t {t : Tx} {g h : Fx} {env : Env} (h1 : t env = some true) : fxIf t g h env = g env := by
  unfold fxIf
  rw [h1]
  rfl
/-- if t: return .. : passed by -/
theorem seq_if {t : Tx} {g h : Fx} {env : Env} (h1 : t env = some false) : fxSeq (fxIf t g fxNil) h env = h env := seq_nx (if_f h1)
theorem run_of {fx : Fx} {n a : Nat} {ds : List D} {d : D} {env : Env} (hl : ds.length = a) (he : env0 n ds = env) (h : fx env = some (.ret d)) : runF fx n a ds = some d := by
  unfold runF
  rw [if_pos hl, he, h]
  rfl

/-! ### comprehensions -/
theorem lc_fm {α : Type} {gt : Gx} {t : Tx} {f : Ex} {env : Env} {c : α → D} {p : α → Bool} {y : α → D} : ∀ {xs : List α}, (∀ x ∈ xs, ∃ e, gt (c x) env = some e ∧ t e = some (p x) ∧ (p x = true → f e = some (y x))) → lcGo gt t f env (xs.map c) = some ((xs.filter p).map y)
  | [], _ => rfl
  | x :: xs, h => by
    obtain ⟨e, h1, h2, h3⟩ := h x List.mem_cons_self
    have ih := lc_fm (xs := xs) fun z hz => h z (List.mem_cons_of_mem _ hz)
    rw [List.map_cons, lcGo, h1, Option.bind_some, h2, Option.bind_some, ih]
    cases hp : p x with
    | true => rw [if_pos rfl, h3 hp, Option.bind_some, Option.bind_some, List.filter_cons, if_pos hp, List.map_cons]
    | false => rw [if_neg Bool.false_ne_true, List.filter_cons, hp, if_neg Bool.false_ne_true]
theorem lc_m {α : Type} {gt : Gx} {f : Ex} {env : Env} {c : α → D} {y : α → D} {xs : List α} (h : ∀ x ∈ xs, ∃ e, gt (c x) env = some e ∧ f e = some (y x)) : lcGo gt txY f env (xs.map c) = some (xs.map y) := by
  have := lc_fm (gt := gt) (t := txY) (f := f) (env := env) (c := c) (p := fun _ => true) (y := y) (xs := xs) fun x hx => by
    obtain ⟨e, h1, h2⟩ := h x hx
    exact ⟨e, h1, rfl, fun _ => h2⟩
  rwa [List.filter_eq_self.mpr (fun _ _ => rfl)] at this

/-! ### loops -/
/-- no way out but the end; R: what the frame bears -/
theorem for_nx {α S : Type} {gt : Gx} {g : Fx} {c : α → D} {R : S → Env → Prop} {tr : S → α → S} : ∀ {xs : List α} {s : S} {env : Env}, (∀ s env x, x ∈ xs → R s env → ∃ e env', gt (c x) env = some e ∧ (g e = some (.nx env') ∨ g e = some (.ct env')) ∧ R (tr s x) env') → R s env → ∃ env', fLoop gt g (xs.map c) env = some (.nx env') ∧ R (xs.foldl tr s) env'
  | [], s, env, _, r => ⟨env, rfl, r⟩
  | x :: xs, s, env, h, r => by
    obtain ⟨e, env', h1, h2, h3⟩ := h s env x List.mem_cons_self r
    obtain ⟨env2, h4, h5⟩ := for_nx (xs := xs) (fun s env x hx => h s env x (List.mem_cons_of_mem _ hx)) h3
    refine ⟨env2, ?_, h5⟩
    rw [List.map_cons, fLoop, h1, Option.bind_some]
    rcases h2 with h2 | h2
    · rw [h2, Option.bind_some]
      exact h4
    · rw [h2, Option.bind_some]
      exact h4
/-- by an invariant over the turns -/
theorem for_inv {α : Type} {gt : Gx} {g : Fx} {c : α → D} {R : Nat → Env → Prop} : ∀ {xs : List α} {k : Nat} {env : Env}, (∀ i env x, xs[i]? = some x → R (k + i) env → ∃ e env', gt (c x) env = some e ∧ (g e = some (.nx env') ∨ g e = some (.ct env')) ∧ R (k + i + 1) env') → R k env → ∃ env', fLoop gt g (xs.map c) env = some (.nx env') ∧ R (k + xs.length) env'
  | [], k, env, _, r => ⟨env, rfl, r⟩
  | x :: xs, k, env, h, r => by
    obtain ⟨e, env', h1, h2, h3⟩ := h 0 env x rfl r
    obtain ⟨env2, h4, h5⟩ := for_inv (xs := xs) (k := k + 1) (R := R) (fun i env x hx hr => by
      have := h (i + 1) env x hx (by rwa [show k + (i + 1) = k + 1 + i by omega])
      rwa [show k + (i + 1) + 1 = k + 1 + i + 1 by omega] at this) h3
    refine ⟨env2, ?_, by rwa [List.length_cons, show k + (xs.length + 1) = k + 1 + xs.length by omega]⟩
    rw [List.map_cons, fLoop, h1, Option.bind_some]
    rcases h2 with h2 | h2
    · rw [h2, Option.bind_some]
      exact h4
    · rw [h2, Option.bind_some]
      exact h4

/-! ### _law_draws, _law_cell -/
def cb1 : Fx :=
  (fxSeq (fxIf (txAnd (txD (exB 3)) (txB (ex2 dGt (exB 2) (exN 0)))) (fxSeq (fxApp 5 (ex2 dMod (exCall dInt [(exB 2)]) (exN 5040)))
    (fxSeq (fxSetS 2 (ex2 dDiv (exB 2) (exN 5040)))
    fxNil)) (fxSeq (fxSetS 7 (ex2 dMod (exCall dInt [(ex2 dAdd (ex2 dAdd (ex2 dMul (exB 4) (exN 48271)) (ex2 dMul (ex2 dAdd (exB 6) (exN 1)) (exN 69621))) (exN 11))]) (exN 2147483647)))
    (fxSeq (fxSetS 7 (ex2 dMod (exCall dInt [(ex2 dAdd (ex2 dMul (exB 7) (exB 7)) (ex2 dMul (exN 40692) (ex2 dAdd (exB 6) (exN 3))))]) (exN 2147483399)))
    (fxSeq (fxApp 5 (ex2 dMod (exCall dInt [(ex2 dDiv (exB 7) (exN 64))]) (exN 5040)))
    fxNil))))
    fxNil)
def cDraws : List D → Option D := runF (fxSeq (fxSetS 2 (exCall dAbs [(exCall dInt [(exB 0)])]))
    (fxSeq (fxSetS 3 (ex2 dGe (exB 2) (ex2 dPow (exN 10) (exN 18))))
    (fxSeq (fxSetS 4 (exV 2))
    (fxSeq (fxSetN 5 (exLst []))
    (fxSeq (fxFor (ixR1 (exB 1)) (gxN 6) cb1)
    (fxSeq (fxFz [5] (fxRet (exV 5)))
    fxNil)))))) 8 2
def dns (l : List Nat) : List D := l.map fun x => .int (x : Nat)
def drR (n c : Int) (seed : Int) (k : Nat) (env : Env) : Prop := ∃ rest dg l s6 s7, l.length = k ∧ (∀ x ∈ l, x < 5040) ∧ env = [.val (.int c), .val (.int n), .val (.int rest), .val (.bl dg), .val (.int seed), .own (.lst (dns l)), s6, s7]
theorem dns_app (l : List Nat) (x : Nat) : dns l ++ [.int (x : Nat)] = dns (l ++ [x]) := by simp [dns]
theorem small_mod {x : Int} : ∃ y : Nat, x % 5040 = (y : Nat) ∧ y < 5040 := ⟨(x % 5040).toNat, by omega, by omega⟩
theorem draws_turn {n c seed : Int} {k : Nat} {env : Env} (hk : k ≤ 100) (h : drR n c seed k env) : ∃ env', cb1 (env.set 6 (.val (.int (k : Nat)))) = some (.nx env') ∧ drR n c seed (k + 1) env' := by
  obtain ⟨rest, dg, l, s6, s7, hl, hm, rfl⟩ := h
  have hz : (dns l).length < sizeLine := by
    rw [line_eq, dns, List.length_map, hl]
    omega
  have key : ∀ x : Nat, x < 5040 → ∀ y ∈ l ++ [x], y < 5040 := fun x hx y hy => by
    rcases List.mem_append.mp hy with hy | hy
    · exact hm y hy
    · rw [List.mem_singleton.mp hy]
      exact hx
  by_cases hc : dg = true ∧ 0 < rest
  · obtain ⟨rfl, h0⟩ := hc
    obtain ⟨y, e, hy⟩ := small_mod (x := rest)
    refine ⟨[.val (.int c), .val (.int n), .val (.int (rest / 5040)), .val (.bl true), .val (.int seed), .own (.lst (dns (l ++ [y]))), .val (.int (k : Nat)), s7], ?_, rest / 5040, true, l ++ [y], .val (.int (k : Nat)), s7, by simp [hl], key y hy, rfl⟩
    simp only [cb1, fxSeq, fxSetS, fxSetN, fxIf, fxRet, fxRetN, fxNil, fxBrk, fxCnt, fxFz, frzL, frz1, List.foldl_cons, List.foldl_nil, fxApp, fxExt, fxAug, fxSetIx, fxAsg, fxFor, fxWh, exB, exV, exC, exN, Int.cast_ofNat_Int, Int.natCast_zero, Int.natCast_one, ex1, ex2, exCall, exTup, exLst, exDic, exIf, exAnd, exOr, exNot, exCh, exIsi, exSl, exPart, exLc, evs, txB, txD, txNot, txAnd, txOr, txY, dBool, dTru, dAbs, dInt, dLen, dIsi, is_non, isn_non, non_int, non_bl, non_str, non_tup, non_lst, non_non, gxN, gxT, gxCons, gxNil, ixR1, ixR2, ixV, seqD, Slot.d, mkOwn, D.mut, runF, env0, outD, wipeE, add_int, sub_int, add_tup, add_lst, eq_int, ne_int, lt_int, le_int, gt_int, ge_int, eq_bl, ne_bl, ix_tup, ix_lst, Option.bind_some, Option.bind_none, Option.map_some, Option.map_none, List.getElem?_cons_zero, List.getElem?_cons_succ, List.getElem?_nil, List.set_cons_zero, List.set_cons_succ, List.length_cons, List.length_nil, List.map_cons, List.map_nil, List.cons_append, List.nil_append, List.replicate_succ, List.replicate_zero, Nat.reduceAdd, Nat.reduceSub, Nat.sub_zero, if_true, if_false, Bool.false_eq_true, Bool.true_eq_false, decide_true, decide_false, Bool.not_true, Bool.not_false, Nat.zero_add, ite_true, ite_false, reduceIte, decide_eq_true_eq, Option.some.injEq, h0, mod_ok (a := rest) (b := 5040) (by decide), div_ok (a := rest) (b := 5040) (by decide) (by decide), hz, e, dns_app]
  · have hc' : (txAnd (txD (exB 3)) (txB (ex2 dGt (exB 2) (exN 0)))) [.val (.int c), .val (.int n), .val (.int rest), .val (.bl dg), .val (.int seed), .own (.lst (dns l)), .val (.int (k : Nat)), s7] = some false := by
      cases dg with
      | false => rfl
      | true =>
        have h0 : ¬ 0 < rest := fun z => hc ⟨rfl, z⟩
        simp only [fxSeq, fxSetS, fxSetN, fxIf, fxRet, fxRetN, fxNil, fxBrk, fxCnt, fxFz, frzL, frz1, List.foldl_cons, List.foldl_nil, fxApp, fxExt, fxAug, fxSetIx, fxAsg, fxFor, fxWh, exB, exV, exC, exN, Int.cast_ofNat_Int, Int.natCast_zero, Int.natCast_one, ex1, ex2, exCall, exTup, exLst, exDic, exIf, exAnd, exOr, exNot, exCh, exIsi, exSl, exPart, exLc, evs, txB, txD, txNot, txAnd, txOr, txY, dBool, dTru, dAbs, dInt, dLen, dIsi, is_non, isn_non, non_int, non_bl, non_str, non_tup, non_lst, non_non, gxN, gxT, gxCons, gxNil, ixR1, ixR2, ixV, seqD, Slot.d, mkOwn, D.mut, runF, env0, outD, wipeE, add_int, sub_int, add_tup, add_lst, eq_int, ne_int, lt_int, le_int, gt_int, ge_int, eq_bl, ne_bl, ix_tup, ix_lst, Option.bind_some, Option.bind_none, Option.map_some, Option.map_none, List.getElem?_cons_zero, List.getElem?_cons_succ, List.getElem?_nil, List.set_cons_zero, List.set_cons_succ, List.length_cons, List.length_nil, List.map_cons, List.map_nil, List.cons_append, List.nil_append, List.replicate_succ, List.replicate_zero, Nat.reduceAdd, Nat.reduceSub, Nat.sub_zero, if_true, if_false, Bool.false_eq_true, Bool.true_eq_false, decide_true, decide_false, Bool.not_true, Bool.not_false, Nat.zero_add, ite_true, ite_false, reduceIte, decide_eq_true_eq, Option.some.injEq, h0]
    generalize hm1 : (seed * 48271 + ((k : Int) + 1) * 69621 + 11) % 2147483647 = m1
    have b1 : 0 ≤ m1 ∧ m1 < 2147483647 := by omega
    generalize hm2 : (m1 * m1 + 40692 * ((k : Int) + 3)) % 2147483399 = m2
    obtain ⟨y, e, hy⟩ := small_mod (x := m2 / 64)
    refine ⟨[.val (.int c), .val (.int n), .val (.int rest), .val (.bl dg), .val (.int seed), .own (.lst (dns (l ++ [y]))), .val (.int (k : Nat)), .val (.int m2)], ?_, rest, dg, l ++ [y], .val (.int (k : Nat)), .val (.int m2), by simp [hl], key y hy, rfl⟩
    rw [List.set_cons_succ, List.set_cons_succ, List.set_cons_succ, List.set_cons_succ, List.set_cons_succ, List.set_cons_succ, List.set_cons_zero]
    unfold cb1
    rw [fxSeq, fxIf, hc']
    have e1 : dMul (.int m1) (.int m1) = some (.int (m1 * m1)) := mul_ok (.inl (by omega))
    simp only [fxSeq, fxSetS, fxSetN, fxIf, fxRet, fxRetN, fxNil, fxBrk, fxCnt, fxFz, frzL, frz1, List.foldl_cons, List.foldl_nil, fxApp, fxExt, fxAug, fxSetIx, fxAsg, fxFor, fxWh, exB, exV, exC, exN, Int.cast_ofNat_Int, Int.natCast_zero, Int.natCast_one, ex1, ex2, exCall, exTup, exLst, exDic, exIf, exAnd, exOr, exNot, exCh, exIsi, exSl, exPart, exLc, evs, txB, txD, txNot, txAnd, txOr, txY, dBool, dTru, dAbs, dInt, dLen, dIsi, is_non, isn_non, non_int, non_bl, non_str, non_tup, non_lst, non_non, gxN, gxT, gxCons, gxNil, ixR1, ixR2, ixV, seqD, Slot.d, mkOwn, D.mut, runF, env0, outD, wipeE, add_int, sub_int, add_tup, add_lst, eq_int, ne_int, lt_int, le_int, gt_int, ge_int, eq_bl, ne_bl, ix_tup, ix_lst, Option.bind_some, Option.bind_none, Option.map_some, Option.map_none, List.getElem?_cons_zero, List.getElem?_cons_succ, List.getElem?_nil, List.set_cons_zero, List.set_cons_succ, List.length_cons, List.length_nil, List.map_cons, List.map_nil, List.cons_append, List.nil_append, List.replicate_succ, List.replicate_zero, Nat.reduceAdd, Nat.reduceSub, Nat.sub_zero, if_true, if_false, Bool.false_eq_true, Bool.true_eq_false, decide_true, decide_false, Bool.not_true, Bool.not_false, Nat.zero_add, ite_true, ite_false, reduceIte, decide_eq_true_eq, Option.some.injEq, mul_r (b := 48271) rfl, mul_r (b := 69621) rfl, mod_ok (b := 2147483647) (by decide), hm1, e1, mul_l (a := 40692) rfl, mod_ok (b := 2147483399) (by decide), hm2, div_ok (a := m2) (b := 64) (by decide) (by decide), mod_ok (a := m2 / 64) (b := 5040) (by decide), hz, e, dns_app]
theorem draws_ok (c : Int) (n : Nat) (hn : n ≤ 100) : ∃ l : List Nat, l.length = n ∧ (∀ x ∈ l, x < 5040) ∧ cDraws [.int c, .int (n : Nat)] = some (.lst (dns l)) := by
  generalize hs : (if c < 0 then -c else c) = sd
  have hp : dPow (.int 10) (.int 18) = some (.int 1000000000000000000) := rfl
  obtain ⟨env', h1, rest, dg, l, s6, s7, hl, hm, rfl⟩ := for_inv (gt := gxN 6) (g := cb1) (c := fun i : Nat => D.int (i : Nat)) (R := drR n c sd) (xs := List.range n) (k := 0)
    (env := [.val (.int c), .val (.int (n : Nat)), .val (.int sd), .val (.bl (decide (1000000000000000000 ≤ sd))), .val (.int sd), .own (.lst []), .no, .no])
    (fun i env x hx hr => by
      have hi : i < n := by
        have := (List.getElem?_eq_some_iff.mp hx).1
        rwa [List.length_range] at this
      rw [List.getElem?_range hi] at hx
      cases hx
      rw [Nat.zero_add] at hr ⊢
      obtain ⟨env', h1, h2⟩ := draws_turn (by omega) hr
      exact ⟨_, env', rfl, .inl h1, h2⟩) ⟨sd, _, [], .no, .no, rfl, fun x hx => absurd hx (by simp), rfl⟩
  rw [Nat.zero_add, List.length_range] at hl
  refine ⟨l, hl, hm, ?_⟩
  have hr : rgD 0 (n : Int) = some ((List.range n).map fun i => .int (i : Nat)) := rg_nat (by omega)
  simp only [cDraws, fxSeq, fxSetS, fxSetN, fxIf, fxRet, fxRetN, fxNil, fxBrk, fxCnt, fxFz, frzL, frz1, List.foldl_cons, List.foldl_nil, fxApp, fxExt, fxAug, fxSetIx, fxAsg, fxFor, fxWh, exB, exV, exC, exN, Int.cast_ofNat_Int, Int.natCast_zero, Int.natCast_one, ex1, ex2, exCall, exTup, exLst, exDic, exIf, exAnd, exOr, exNot, exCh, exIsi, exSl, exPart, exLc, evs, txB, txD, txNot, txAnd, txOr, txY, dBool, dTru, dAbs, dInt, dLen, dIsi, is_non, isn_non, non_int, non_bl, non_str, non_tup, non_lst, non_non, gxN, gxT, gxCons, gxNil, ixR1, ixR2, ixV, seqD, Slot.d, mkOwn, D.mut, runF, env0, outD, wipeE, add_int, sub_int, add_tup, add_lst, eq_int, ne_int, lt_int, le_int, gt_int, ge_int, eq_bl, ne_bl, ix_tup, ix_lst, Option.bind_some, Option.bind_none, Option.map_some, Option.map_none, List.getElem?_cons_zero, List.getElem?_cons_succ, List.getElem?_nil, List.set_cons_zero, List.set_cons_succ, List.length_cons, List.length_nil, List.map_cons, List.map_nil, List.cons_append, List.nil_append, List.replicate_succ, List.replicate_zero, Nat.reduceAdd, Nat.reduceSub, Nat.sub_zero, if_true, if_false, Bool.false_eq_true, Bool.true_eq_false, decide_true, decide_false, Bool.not_true, Bool.not_false, Nat.zero_add, ite_true, ite_false, reduceIte, decide_eq_true_eq, Option.some.injEq, hp, hr, hs]
  rw [h1]
  simp only [fxSeq, fxSetS, fxSetN, fxIf, fxRet, fxRetN, fxNil, fxBrk, fxCnt, fxFz, frzL, frz1, List.foldl_cons, List.foldl_nil, fxApp, fxExt, fxAug, fxSetIx, fxAsg, fxFor, fxWh, exB, exV, exC, exN, Int.cast_ofNat_Int, Int.natCast_zero, Int.natCast_one, ex1, ex2, exCall, exTup, exLst, exDic, exIf, exAnd, exOr, exNot, exCh, exIsi, exSl, exPart, exLc, evs, txB, txD, txNot, txAnd, txOr, txY, dBool, dTru, dAbs, dInt, dLen, dIsi, is_non, isn_non, non_int, non_bl, non_str, non_tup, non_lst, non_non, gxN, gxT, gxCons, gxNil, ixR1, ixR2, ixV, seqD, Slot.d, mkOwn, D.mut, runF, env0, outD, wipeE, add_int, sub_int, add_tup, add_lst, eq_int, ne_int, lt_int, le_int, gt_int, ge_int, eq_bl, ne_bl, ix_tup, ix_lst, Option.bind_some, Option.bind_none, Option.map_some, Option.map_none, List.getElem?_cons_zero, List.getElem?_cons_succ, List.getElem?_nil, List.set_cons_zero, List.set_cons_succ, List.length_cons, List.length_nil, List.map_cons, List.map_nil, List.cons_append, List.nil_append, List.replicate_succ, List.replicate_zero, Nat.reduceAdd, Nat.reduceSub, Nat.sub_zero, if_true, if_false, Bool.false_eq_true, Bool.true_eq_false, decide_true, decide_false, Bool.not_true, Bool.not_false, Nat.zero_add, ite_true, ite_false, reduceIte, decide_eq_true_eq, Option.some.injEq, List.foldl_cons, List.foldl_nil]

def cCell : List D → Option D := runF (fxSeq (fxIf (txB (ex2 dLt (exB 1) (exCall dLen [(exB 0)]))) (fxSeq (fxRet (ex2 dIx (exB 0) (exB 1)))
    fxNil) fxNil)
    (fxSeq (fxRet (ex2 dAdd (ex2 dMul (exN 5) (exB 1)) (exN 3)))
    fxNil)) 2 2
theorem ix_scr {ns : List Int} {i : Int} : dIx (.scr ns) (.int i) = (atI ns i).map D.int := rfl
theorem cell_ok (ns : List Int) (k : Nat) : ∃ c : Int, cCell [.scr ns, .int (k : Nat)] = some (.int c) := by
  by_cases h : k < ns.length
  · refine ⟨ns[k], ?_⟩
    have h' : (k : Int) < ns.length := by omega
    simp only [cCell, fxSeq, fxSetS, fxSetN, fxIf, fxRet, fxRetN, fxNil, fxBrk, fxCnt, fxFz, frzL, frz1, List.foldl_cons, List.foldl_nil, fxApp, fxExt, fxAug, fxSetIx, fxAsg, fxFor, fxWh, exB, exV, exC, exN, Int.cast_ofNat_Int, Int.natCast_zero, Int.natCast_one, ex1, ex2, exCall, exTup, exLst, exDic, exIf, exAnd, exOr, exNot, exCh, exIsi, exSl, exPart, exLc, evs, txB, txD, txNot, txAnd, txOr, txY, dBool, dTru, dAbs, dInt, dLen, dIsi, is_non, isn_non, non_int, non_bl, non_str, non_tup, non_lst, non_non, gxN, gxT, gxCons, gxNil, ixR1, ixR2, ixV, seqD, Slot.d, mkOwn, D.mut, runF, env0, outD, wipeE, add_int, sub_int, add_tup, add_lst, eq_int, ne_int, lt_int, le_int, gt_int, ge_int, eq_bl, ne_bl, ix_tup, ix_lst, Option.bind_some, Option.bind_none, Option.map_some, Option.map_none, List.getElem?_cons_zero, List.getElem?_cons_succ, List.getElem?_nil, List.set_cons_zero, List.set_cons_succ, List.length_cons, List.length_nil, List.map_cons, List.map_nil, List.cons_append, List.nil_append, List.replicate_succ, List.replicate_zero, Nat.reduceAdd, Nat.reduceSub, Nat.sub_zero, if_true, if_false, Bool.false_eq_true, Bool.true_eq_false, decide_true, decide_false, Bool.not_true, Bool.not_false, Nat.zero_add, ite_true, ite_false, reduceIte, decide_eq_true_eq, Option.some.injEq, h', ix_scr, atI_n (List.getElem?_eq_getElem h)]
  · refine ⟨5 * k + 3, ?_⟩
    have h' : ¬ (k : Int) < ns.length := by omega
    simp only [cCell, fxSeq, fxSetS, fxSetN, fxIf, fxRet, fxRetN, fxNil, fxBrk, fxCnt, fxFz, frzL, frz1, List.foldl_cons, List.foldl_nil, fxApp, fxExt, fxAug, fxSetIx, fxAsg, fxFor, fxWh, exB, exV, exC, exN, Int.cast_ofNat_Int, Int.natCast_zero, Int.natCast_one, ex1, ex2, exCall, exTup, exLst, exDic, exIf, exAnd, exOr, exNot, exCh, exIsi, exSl, exPart, exLc, evs, txB, txD, txNot, txAnd, txOr, txY, dBool, dTru, dAbs, dInt, dLen, dIsi, is_non, isn_non, non_int, non_bl, non_str, non_tup, non_lst, non_non, gxN, gxT, gxCons, gxNil, ixR1, ixR2, ixV, seqD, Slot.d, mkOwn, D.mut, runF, env0, outD, wipeE, add_int, sub_int, add_tup, add_lst, eq_int, ne_int, lt_int, le_int, gt_int, ge_int, eq_bl, ne_bl, ix_tup, ix_lst, Option.bind_some, Option.bind_none, Option.map_some, Option.map_none, List.getElem?_cons_zero, List.getElem?_cons_succ, List.getElem?_nil, List.set_cons_zero, List.set_cons_succ, List.length_cons, List.length_nil, List.map_cons, List.map_nil, List.cons_append, List.nil_append, List.replicate_succ, List.replicate_zero, Nat.reduceAdd, Nat.reduceSub, Nat.sub_zero, if_true, if_false, Bool.false_eq_true, Bool.true_eq_false, decide_true, decide_false, Bool.not_true, Bool.not_false, Nat.zero_add, ite_true, ite_false, reduceIte, decide_eq_true_eq, Option.some.injEq, h', mul_l (a := 5) rfl]

/-! ### _law_is -/
def cIsI : List D → Option D := runF (fxSeq (fxRet (exAnd (exIsi .int (exB 0)) (exNot (exIsi .bool (exB 0)))))
    fxNil) 1 1
def cIsF (φ_rec : List D → Option D) : Fx :=
  (fxSeq (fxIf (txB (ex2 dIs (exB 1) (exC .non))) (fxSeq (fxRet (ex2 dIs (exB 0) (exC .non)))
    fxNil) fxNil)
    (fxSeq (fxIf (txD (exIsi .bool (exB 1))) (fxSeq (fxRet (exAnd (exIsi .bool (exB 0)) (ex2 dEq (exB 0) (exB 1))))
    fxNil) fxNil)
    (fxSeq (fxIf (txD (exIsi .int (exB 1))) (fxSeq (fxRet (exAnd (exCall cIsI [(exV 0)]) (ex2 dEq (exB 0) (exB 1))))
    fxNil) fxNil)
    (fxSeq (fxIf (txD (exIsi .str (exB 1))) (fxSeq (fxRet (exAnd (exIsi .str (exB 0)) (ex2 dEq (exB 0) (exB 1))))
    fxNil) fxNil)
    (fxSeq (fxIf (txOr (txNot (txD (exIsi .tup (exB 0)))) (txB (ex2 dNe (exCall dLen [(exB 0)]) (exCall dLen [(exB 1)])))) (fxSeq (fxRet (exC (.bl false)))
    fxNil) fxNil)
    (fxSeq (fxRet (exCall dAll [(exLc (ixR1 (exCall dLen [(exB 1)])) [2] (gxN 2) txY (exCall φ_rec [(ex2 dIx (exB 0) (exB 2)), (ex2 dIx (exB 1) (exB 2))]))]))
    fxNil))))))
def cIs : Nat → List D → Option D
  | 0 => fun _ => none
  | n + 1 => runF (cIsF (cIs n)) 3 2
/-- what _law_is compares -/
def D.pl : Nat → D → Bool
  | 0, _ => false
  | _ + 1, .non => true
  | _ + 1, .bl _ => true
  | _ + 1, .int _ => true
  | _ + 1, .str x => PyData.canLay0 (.str x)
  | n + 1, .tup xs => Nat.ble xs.length 16777216 && xs.all (D.pl n)
  | _ + 1, _ => false
theorem isI_int (a : Int) : cIsI [.int a] = some (.bl true) := rfl
theorem is_refl : ∀ (n : Nat) (d : D), D.pl n d = true → cIs n [d, d] = some (.bl true)
  | 0, _, h => by cases h
  | n + 1, d, h => by
    cases d with
    | non => rfl
    | bl b =>
      simp only [cIs, cIsF, fxSeq, fxSetS, fxSetN, fxIf, fxRet, fxRetN, fxNil, fxBrk, fxCnt, fxFz, frzL, frz1, List.foldl_cons, List.foldl_nil, fxApp, fxExt, fxAug, fxSetIx, fxAsg, fxFor, fxWh, exB, exV, exC, exN, Int.cast_ofNat_Int, Int.natCast_zero, Int.natCast_one, ex1, ex2, exCall, exTup, exLst, exDic, exIf, exAnd, exOr, exNot, exCh, exIsi, exSl, exPart, exLc, evs, txB, txD, txNot, txAnd, txOr, txY, dBool, dTru, dAbs, dInt, dLen, dIsi, is_non, isn_non, non_int, non_bl, non_str, non_tup, non_lst, non_non, gxN, gxT, gxCons, gxNil, ixR1, ixR2, ixV, seqD, Slot.d, mkOwn, D.mut, runF, env0, outD, wipeE, add_int, sub_int, add_tup, add_lst, eq_int, ne_int, lt_int, le_int, gt_int, ge_int, eq_bl, ne_bl, ix_tup, ix_lst, Option.bind_some, Option.bind_none, Option.map_some, Option.map_none, List.getElem?_cons_zero, List.getElem?_cons_succ, List.getElem?_nil, List.set_cons_zero, List.set_cons_succ, List.length_cons, List.length_nil, List.map_cons, List.map_nil, List.cons_append, List.nil_append, List.replicate_succ, List.replicate_zero, Nat.reduceAdd, Nat.reduceSub, Nat.sub_zero, if_true, if_false, Bool.false_eq_true, Bool.true_eq_false, decide_true, decide_false, Bool.not_true, Bool.not_false, Nat.zero_add, ite_true, ite_false, reduceIte, decide_eq_true_eq, Option.some.injEq]
      simp
    | int a => simp only [cIs, cIsF, fxSeq, fxSetS, fxSetN, fxIf, fxRet, fxRetN, fxNil, fxBrk, fxCnt, fxFz, frzL, frz1, List.foldl_cons, List.foldl_nil, fxApp, fxExt, fxAug, fxSetIx, fxAsg, fxFor, fxWh, exB, exV, exC, exN, Int.cast_ofNat_Int, Int.natCast_zero, Int.natCast_one, ex1, ex2, exCall, exTup, exLst, exDic, exIf, exAnd, exOr, exNot, exCh, exIsi, exSl, exPart, exLc, evs, txB, txD, txNot, txAnd, txOr, txY, dBool, dTru, dAbs, dInt, dLen, dIsi, is_non, isn_non, non_int, non_bl, non_str, non_tup, non_lst, non_non, gxN, gxT, gxCons, gxNil, ixR1, ixR2, ixV, seqD, Slot.d, mkOwn, D.mut, runF, env0, outD, wipeE, add_int, sub_int, add_tup, add_lst, eq_int, ne_int, lt_int, le_int, gt_int, ge_int, eq_bl, ne_bl, ix_tup, ix_lst, Option.bind_some, Option.bind_none, Option.map_some, Option.map_none, List.getElem?_cons_zero, List.getElem?_cons_succ, List.getElem?_nil, List.set_cons_zero, List.set_cons_succ, List.length_cons, List.length_nil, List.map_cons, List.map_nil, List.cons_append, List.nil_append, List.replicate_succ, List.replicate_zero, Nat.reduceAdd, Nat.reduceSub, Nat.sub_zero, if_true, if_false, Bool.false_eq_true, Bool.true_eq_false, decide_true, decide_false, Bool.not_true, Bool.not_false, Nat.zero_add, ite_true, ite_false, reduceIte, decide_eq_true_eq, Option.some.injEq, isI_int]
    | str x =>
      have hx : dEq (.str x) (.str x) = some (.bl (x == x)) := by
        have : PyData.canLay0 (.str x) = true := h
        unfold dEq
        simp only [D.ok, D.fl, this, Bool.and_self, if_true, D.eqv]
      simp only [cIs, cIsF, fxSeq, fxSetS, fxSetN, fxIf, fxRet, fxRetN, fxNil, fxBrk, fxCnt, fxFz, frzL, frz1, List.foldl_cons, List.foldl_nil, fxApp, fxExt, fxAug, fxSetIx, fxAsg, fxFor, fxWh, exB, exV, exC, exN, Int.cast_ofNat_Int, Int.natCast_zero, Int.natCast_one, ex1, ex2, exCall, exTup, exLst, exDic, exIf, exAnd, exOr, exNot, exCh, exIsi, exSl, exPart, exLc, evs, txB, txD, txNot, txAnd, txOr, txY, dBool, dTru, dAbs, dInt, dLen, dIsi, is_non, isn_non, non_int, non_bl, non_str, non_tup, non_lst, non_non, gxN, gxT, gxCons, gxNil, ixR1, ixR2, ixV, seqD, Slot.d, mkOwn, D.mut, runF, env0, outD, wipeE, add_int, sub_int, add_tup, add_lst, eq_int, ne_int, lt_int, le_int, gt_int, ge_int, eq_bl, ne_bl, ix_tup, ix_lst, Option.bind_some, Option.bind_none, Option.map_some, Option.map_none, List.getElem?_cons_zero, List.getElem?_cons_succ, List.getElem?_nil, List.set_cons_zero, List.set_cons_succ, List.length_cons, List.length_nil, List.map_cons, List.map_nil, List.cons_append, List.nil_append, List.replicate_succ, List.replicate_zero, Nat.reduceAdd, Nat.reduceSub, Nat.sub_zero, if_true, if_false, Bool.false_eq_true, Bool.true_eq_false, decide_true, decide_false, Bool.not_true, Bool.not_false, Nat.zero_add, ite_true, ite_false, reduceIte, decide_eq_true_eq, Option.some.injEq, hx]
      simp
    | tup xs =>
      have h : (Nat.ble xs.length 16777216 && xs.all (D.pl n)) = true := h
      rw [Bool.and_eq_true, Nat.ble_eq, List.all_eq_true] at h
      have hl := lc_m (gt := gxN 2) (f := exCall (cIs n) [(ex2 dIx (exB 0) (exB 2)), (ex2 dIx (exB 1) (exB 2))]) (env := [.val (.tup xs), .val (.tup xs), .no]) (c := fun i : Nat => D.int (i : Nat)) (y := fun _ => D.bl true) (xs := List.range xs.length) fun i hi => by
        have hi' := List.mem_range.mp hi
        have e := is_refl n xs[i] (h.2 _ (List.getElem_mem hi'))
        refine ⟨_, rfl, ?_⟩
        simp only [fxSeq, fxSetS, fxSetN, fxIf, fxRet, fxRetN, fxNil, fxBrk, fxCnt, fxFz, frzL, frz1, List.foldl_cons, List.foldl_nil, fxApp, fxExt, fxAug, fxSetIx, fxAsg, fxFor, fxWh, exB, exV, exC, exN, Int.cast_ofNat_Int, Int.natCast_zero, Int.natCast_one, ex1, ex2, exCall, exTup, exLst, exDic, exIf, exAnd, exOr, exNot, exCh, exIsi, exSl, exPart, exLc, evs, txB, txD, txNot, txAnd, txOr, txY, dBool, dTru, dAbs, dInt, dLen, dIsi, is_non, isn_non, non_int, non_bl, non_str, non_tup, non_lst, non_non, gxN, gxT, gxCons, gxNil, ixR1, ixR2, ixV, seqD, Slot.d, mkOwn, D.mut, runF, env0, outD, wipeE, add_int, sub_int, add_tup, add_lst, eq_int, ne_int, lt_int, le_int, gt_int, ge_int, eq_bl, ne_bl, ix_tup, ix_lst, Option.bind_some, Option.bind_none, Option.map_some, Option.map_none, List.getElem?_cons_zero, List.getElem?_cons_succ, List.getElem?_nil, List.set_cons_zero, List.set_cons_succ, List.length_cons, List.length_nil, List.map_cons, List.map_nil, List.cons_append, List.nil_append, List.replicate_succ, List.replicate_zero, Nat.reduceAdd, Nat.reduceSub, Nat.sub_zero, if_true, if_false, Bool.false_eq_true, Bool.true_eq_false, decide_true, decide_false, Bool.not_true, Bool.not_false, Nat.zero_add, ite_true, ite_false, reduceIte, decide_eq_true_eq, Option.some.injEq, atI_n (List.getElem?_eq_getElem hi'), e]
      have hb : (List.range xs.length).map (fun _ => D.bl true) = ((List.range xs.length).map fun _ => true).map D.bl := by simp
      have ha : ((List.range xs.length).map fun _ => true).all id = true := by simp
      simp only [cIs, cIsF, fxSeq, fxSetS, fxSetN, fxIf, fxRet, fxRetN, fxNil, fxBrk, fxCnt, fxFz, frzL, frz1, List.foldl_cons, List.foldl_nil, fxApp, fxExt, fxAug, fxSetIx, fxAsg, fxFor, fxWh, exB, exV, exC, exN, Int.cast_ofNat_Int, Int.natCast_zero, Int.natCast_one, ex1, ex2, exCall, exTup, exLst, exDic, exIf, exAnd, exOr, exNot, exCh, exIsi, exSl, exPart, exLc, evs, txB, txD, txNot, txAnd, txOr, txY, dBool, dTru, dAbs, dInt, dLen, dIsi, is_non, isn_non, non_int, non_bl, non_str, non_tup, non_lst, non_non, gxN, gxT, gxCons, gxNil, ixR1, ixR2, ixV, seqD, Slot.d, mkOwn, D.mut, runF, env0, outD, wipeE, add_int, sub_int, add_tup, add_lst, eq_int, ne_int, lt_int, le_int, gt_int, ge_int, eq_bl, ne_bl, ix_tup, ix_lst, Option.bind_some, Option.bind_none, Option.map_some, Option.map_none, List.getElem?_cons_zero, List.getElem?_cons_succ, List.getElem?_nil, List.set_cons_zero, List.set_cons_succ, List.length_cons, List.length_nil, List.map_cons, List.map_nil, List.cons_append, List.nil_append, List.replicate_succ, List.replicate_zero, Nat.reduceAdd, Nat.reduceSub, Nat.sub_zero, if_true, if_false, Bool.false_eq_true, Bool.true_eq_false, decide_true, decide_false, Bool.not_true, Bool.not_false, Nat.zero_add, ite_true, ite_false, reduceIte, decide_eq_true_eq, Option.some.injEq, rg_nat h.1, hl]
      simp only [dAll, hb, bls_map, Option.map_some, ha]
      rfl
    | _ => cases h
end Sw

namespace Sw.k75
open PySem L2 PySem.Spec PyProof.Rows
def topS (i : Nat) : Stmt := PySem.Challenge.pw_stoneward_k75_whole_legs_and_sills.main.body.getD i (.Pass ⟨0, 0, 0, 0⟩)
/-! ### _law_legs -/
abbrev s_u_law_legs : Stmt := topS 11
theorem S_u_law_legs : FnScope ["n", "a", "b"] ["n"] (defScope s_u_law_legs) := ⟨rfl, rfl, rfl, by decide +kernel, rfl, by decide +kernel, by decide +kernel⟩
def b1_u_law_legs : Fx :=
  (fxSeq (fxIf (txB (ex2 dEq (ex2 dAdd (ex2 dMul (exB 1) (exB 1)) (ex2 dMul (exB 2) (exB 2))) (exB 0))) (fxSeq (fxRet (exTup [(exV 1), (exV 2)]))
    fxNil) fxNil)
    fxNil)
def b2_u_law_legs : Fx :=
  (fxSeq (fxFor (ixR2 (exB 1) (exN 46)) (gxN 2) b1_u_law_legs)
    fxNil)
def fx_u_law_legs : Fx :=
  (fxSeq (fxFor (ixR1 (exN 46)) (gxN 1) b2_u_law_legs)
    (fxSeq (fxRet (exC .non))
    fxNil))
def φ_u_law_legs : List D → Option D := runF fx_u_law_legs 3 1
theorem o_u_law_legs {P : Program} {w : World} {K : PySem.W.Frag} {mg : Str → Option Value} {base : Heap} {f : Addr} {fd : FuncData} (F : Fun K "_law_legs" "_law_legs" s_u_law_legs f fd) (g : mg "_law_legs" = some (.ref f)) (B : Blt mg) (b : L2.Binds K fd ["n"] []) : Own P w K mg base 1 "_law_legs" φ_u_law_legs := by
  refine own_mk (k := 0) (fx := fx_u_law_legs) (N := ["n", "a", "b"]) (ps := ["n"]) F S_u_law_legs g (fun cdv A outer s H E hr => ?_) b
  have L := Lv.of hr
  have hN := S_u_law_legs.nd
  exact (pssCons (pFor PassesOwn.never rfl (pRange1 (by rfl) B.range rfl (pS_B pNat)) (pgN (pg_name (i := 1) hN rfl (.inl rfl))) (pssCons (pFor PassesOwn.never rfl (pRange2 (by rfl) B.range rfl rfl (pVar_B (pv 1)) (pS_B pNat)) (pgN (pg_name (i := 2) hN rfl (.inl rfl))) (pssCons (pIf (pCmpT (op2_eq L.u64) (pN_B (pBin op2_add (pN_B (pBin op2_mul (pVar_B (pv 1)) (pVar_B (pv 1)))) (pN_B (pBin op2_mul (pVar_B (pv 2)) (pVar_B (pv 2)))))) (pVar_B (pv 0)) (nomark _)) (pssCons (pRet (pN_S (pTup (pSL_cons rfl (pVar_S (pv 1)) (pSL_cons rfl (pVar_S (pv 2)) pSL_nil)) (by decide))))
    pssNil) pssNil)
    pssNil) (fun _ => rfl))
    pssNil) (fun _ => rfl))
    (pssCons (pRet pNon)
    pssNil))
/-! ### _law_odd_times -/
abbrev s_u_law_odd_times : Stmt := topS 12
theorem S_u_law_odd_times : FnScope ["n", "p", "times", "rest", "turn"] ["n", "p"] (defScope s_u_law_odd_times) := ⟨rfl, rfl, rfl, by decide +kernel, rfl, by decide +kernel, by decide +kernel⟩
def b1_u_law_odd_times : Fx :=
  (fxSeq (fxIf (txB (ex2 dEq (ex2 dMod (exCall dInt [(exB 3)]) (exB 1)) (exN 0))) (fxSeq (fxSetS 3 (ex2 dDiv (exB 3) (exB 1)))
    (fxSeq (fxSetS 2 (ex2 dAdd (exB 2) (exN 1)))
    fxNil)) fxNil)
    fxNil)
def fx_u_law_odd_times : Fx :=
  (fxSeq (fxSetS 2 (exN 0))
    (fxSeq (fxSetS 3 (exV 0))
    (fxSeq (fxFor (ixR1 (exN 12)) (gxN 4) b1_u_law_odd_times)
    (fxSeq (fxRet (ex2 dEq (ex2 dMod (exB 2) (exN 2)) (exN 1)))
    fxNil))))
def φ_u_law_odd_times : List D → Option D := runF fx_u_law_odd_times 5 2
theorem o_u_law_odd_times {P : Program} {w : World} {K : PySem.W.Frag} {mg : Str → Option Value} {base : Heap} {f : Addr} {fd : FuncData} (F : Fun K "_law_odd_times" "_law_odd_times" s_u_law_odd_times f fd) (g : mg "_law_odd_times" = some (.ref f)) (B : Blt mg) (b : L2.Binds K fd ["n", "p"] []) : Own P w K mg base 1 "_law_odd_times" φ_u_law_odd_times := by
  refine own_mk (k := 0) (fx := fx_u_law_odd_times) (N := ["n", "p", "times", "rest", "turn"]) (ps := ["n", "p"]) F S_u_law_odd_times g (fun cdv A outer s H E hr => ?_) b
  have L := Lv.of hr
  have hN := S_u_law_odd_times.nd
  exact (pssCons (sSetS hN rfl (.inl rfl) pNat (by with_unfolding_all rfl) (.inr rfl))
    (pssCons (sSetS hN rfl (.inl rfl) (pVar_S (pv 0)) (by with_unfolding_all rfl) (.inr rfl))
    (pssCons (pFor PassesOwn.never rfl (pRange1 (by rfl) B.range rfl (pS_B pNat)) (pgN (pg_name (i := 4) hN rfl (.inl rfl))) (pssCons (pIf (pCmpT (op2_eq L.u64) (pN_B (pBin op2_mod (pS_B (bInt B (by rfl) rfl (pBL_cons rfl (pVar_B (pv 3)) pBL_nil))) (pVar_B (pv 1)))) (pS_B pNat) (nomark _)) (pssCons (sSetS hN rfl (.inl rfl) (pN_S (pBin op2_div (pVar_B (pv 3)) (pVar_B (pv 1)))) (by with_unfolding_all rfl) (.inr rfl))
    (pssCons (sSetS hN rfl (.inl rfl) (pN_S (pBin op2_add (pVar_B (pv 2)) (pS_B pNat))) (by with_unfolding_all rfl) (.inr rfl))
    pssNil)) pssNil)
    pssNil) (fun _ => rfl))
    (pssCons (pRet (pN_S (pCmp (op2_eq L.u64) (pN_B (pBin op2_mod (pVar_B (pv 2)) (pS_B pNat))) (pS_B pNat) (nomark _))))
    pssNil))))
/-! ### _law_sills -/
abbrev s_u_law_sills : Stmt := topS 14
theorem S_u_law_sills : FnScope ["n", "found", "rest", "p", "turn"] ["n"] (defScope s_u_law_sills) := ⟨rfl, rfl, rfl, by decide +kernel, rfl, by decide +kernel, by decide +kernel⟩
def b1_u_law_sills : Tx :=
  (txAnd (txB (ex2 dEq (ex2 dMod (exCall dInt [(exB 3)]) (exN 4)) (exN 3))) (txD (exCall φ_u_law_odd_times [(exV 0), (exV 3)])))
def b2_u_law_sills : Fx :=
  (fxSeq (fxSetS 2 (exIf (txB (ex2 dEq (ex2 dMod (exCall dInt [(exB 2)]) (exB 3)) (exN 0))) (ex2 dDiv (exB 2) (exB 3)) (exV 2)))
    fxNil)
def b3_u_law_sills : Fx :=
  (fxSeq (fxIf (txAnd (txB (ex2 dGt (exB 2) (exN 0))) (txB (ex2 dEq (ex2 dMod (exCall dInt [(exB 2)]) (exB 3)) (exN 0)))) (fxSeq (fxApp 1 (exV 3))
    (fxSeq (fxFor (ixR1 (exN 12)) (gxN 4) b2_u_law_sills)
    fxNil)) fxNil)
    fxNil)
def fx_u_law_sills : Fx :=
  (fxSeq (fxSetN 1 (exLst []))
    (fxSeq (fxSetS 2 (exV 0))
    (fxSeq (fxFor (ixR2 (exN 2) (exN 45)) (gxN 3) b3_u_law_sills)
    (fxSeq (fxIf (txB (ex2 dGt (exB 2) (exN 1))) (fxSeq (fxApp 1 (exV 2))
    fxNil) fxNil)
    (fxSeq (fxFz [1] (fxRet (exLc (ixV (exV 1)) [3] (gxN 3) b1_u_law_sills (exV 3))))
    fxNil)))))
def φ_u_law_sills : List D → Option D := runF fx_u_law_sills 5 1
theorem o_u_law_sills {P : Program} {w : World} {K : PySem.W.Frag} {mg : Str → Option Value} {base : Heap} {f : Addr} {fd : FuncData} (F : Fun K "_law_sills" "_law_sills" s_u_law_sills f fd) (g : mg "_law_sills" = some (.ref f)) (B : Blt mg) (b : L2.Binds K fd ["n"] []) (C_u_law_odd_times : Own P w K mg base 1 "_law_odd_times" φ_u_law_odd_times) : Own P w K mg base 2 "_law_sills" φ_u_law_sills := by
  have C_u_law_odd_times := C_u_law_odd_times.mono (k := 1) (by decide)
  refine own_mk (k := 1) (fx := fx_u_law_sills) (N := ["n", "found", "rest", "p", "turn"]) (ps := ["n"]) F S_u_law_sills g (fun cdv A outer s H E hr => ?_) b
  have L := Lv.of hr
  have hN := S_u_law_sills.nd
  exact (pssCons (sSetN hN rfl (.inl rfl) (pLst pSL_nil (by decide)) (by with_unfolding_all rfl) (.inr rfl))
    (pssCons (sSetS hN rfl (.inl rfl) (pVar_S (pv 0)) (by with_unfolding_all rfl) (.inr rfl))
    (pssCons (pFor PassesOwn.never rfl (pRange2 (by rfl) B.range rfl rfl (pS_B pNat) (pS_B pNat)) (pgN (pg_name (i := 3) hN rfl (.inl rfl))) (pssCons (pIf (PW.pt (pwAnd (pCmpT op2_gt (pVar_B (pv 2)) (pS_B pNat) (nomark _)) (pwAnd1 (pCmpT (op2_eq L.u64) (pN_B (pBin op2_mod (pS_B (bInt B (by rfl) rfl (pBL_cons rfl (pVar_B (pv 2)) pBL_nil))) (pVar_B (pv 3)))) (pS_B pNat) (nomark _))))) (pssCons (pApp (pv 1) (pVar_S (pv 3)) rfl rfl rfl)
    (pssCons (pFor PassesOwn.never rfl (pRange1 (by rfl) B.range rfl (pS_B pNat)) (pgN (pg_name (i := 4) hN rfl (.inl rfl))) (pssCons (sSetS hN rfl (.inl rfl) (pIfS (pCmpT (op2_eq L.u64) (pN_B (pBin op2_mod (pS_B (bInt B (by rfl) rfl (pBL_cons rfl (pVar_B (pv 2)) pBL_nil))) (pVar_B (pv 3)))) (pS_B pNat) (nomark _)) (pN_S (pBin op2_div (pVar_B (pv 2)) (pVar_B (pv 3)))) (pVar_S (pv 2))) (by with_unfolding_all rfl) (.inr rfl))
    pssNil) (fun _ => rfl))
    pssNil)) pssNil)
    pssNil) (fun _ => rfl))
    (pssCons (pIf (pCmpT op2_gt (pVar_B (pv 2)) (pS_B pNat) (nomark _)) (pssCons (pApp (pv 1) (pVar_S (pv 2)) rfl rfl rfl)
    pssNil) pssNil)
    (pssCons (pFz (pRet (pN_S (pLc rfl hN (pWalk (pVar_S (pv 1))) (own := [("p", 3)]) (by with_unfolding_all rfl) rfl (fun _ _ _ _ _ => (pgN (pg_name (i := 3) hN rfl (.inl rfl)))) (fun _ _ _ _ _ => (pTs1 (PW.pt (pwAnd (pCmpT (op2_eq L.u64) (pN_B (pBin op2_mod (pS_B (bInt B (by rfl) rfl (pBL_cons rfl (pVar_B (pv 3)) pBL_nil))) (pS_B pNat))) (pS_B pNat) (nomark _)) (pwAnd1 (pTru (pS_B (pOwn C_u_law_odd_times L.room (by rfl) rfl (pSL_cons rfl (pVar_S (pv 0)) (pSL_cons rfl (pVar_S (pv 3)) pSL_nil)))) rfl)))))) (fun _ _ _ _ _ => (pVar_S (pv 3))) (fun _ => rfl)))))
    pssNil)))))
/-! ### _law_is_integer -/
abbrev s_u_law_is_integer : Stmt := topS 9
theorem S_u_law_is_integer : FnScope ["value"] ["value"] (defScope s_u_law_is_integer) := ⟨rfl, rfl, rfl, by decide +kernel, rfl, by decide +kernel, by decide +kernel⟩
def fx_u_law_is_integer : Fx :=
  (fxSeq (fxRet (exAnd (exIsi .int (exB 0)) (exNot (exIsi .bool (exB 0)))))
    fxNil)
def φ_u_law_is_integer : List D → Option D := runF fx_u_law_is_integer 1 1
theorem o_u_law_is_integer {P : Program} {w : World} {K : PySem.W.Frag} {mg : Str → Option Value} {base : Heap} {f : Addr} {fd : FuncData} (F : Fun K "_law_is_integer" "_law_is_integer" s_u_law_is_integer f fd) (g : mg "_law_is_integer" = some (.ref f)) (B : Blt mg) (b : L2.Binds K fd ["value"] []) : Own P w K mg base 1 "_law_is_integer" φ_u_law_is_integer := by
  refine own_mk (k := 0) (fx := fx_u_law_is_integer) (N := ["value"]) (ps := ["value"]) F S_u_law_is_integer g (fun cdv A outer s H E hr => ?_) b
  have L := Lv.of hr
  have hN := S_u_law_is_integer.nd
  exact (pssCons (pRet (pAndV (bIsInt B (by rfl) (by rfl) rfl (pVar_B (pv 0))) (pe_one (pN_S (pNot (pS_B (bIsBool B (by rfl) (by rfl) rfl (pVar_B (pv 0)))))))))
    pssNil)
/-! ### _law_is -/
abbrev s_u_law_is : Stmt := topS 10
theorem S_u_law_is : FnScope ["value", "due", "at"] ["value", "due"] (defScope s_u_law_is) := ⟨rfl, rfl, rfl, by decide +kernel, rfl, by decide +kernel, by decide +kernel⟩
def fx_u_law_is (φ_rec : List D → Option D) : Fx :=
  (fxSeq (fxIf (txB (ex2 dIs (exB 1) (exC .non))) (fxSeq (fxRet (ex2 dIs (exB 0) (exC .non)))
    fxNil) fxNil)
    (fxSeq (fxIf (txD (exIsi .bool (exB 1))) (fxSeq (fxRet (exAnd (exIsi .bool (exB 0)) (ex2 dEq (exB 0) (exB 1))))
    fxNil) fxNil)
    (fxSeq (fxIf (txD (exIsi .int (exB 1))) (fxSeq (fxRet (exAnd (exCall φ_u_law_is_integer [(exV 0)]) (ex2 dEq (exB 0) (exB 1))))
    fxNil) fxNil)
    (fxSeq (fxIf (txD (exIsi .str (exB 1))) (fxSeq (fxRet (exAnd (exIsi .str (exB 0)) (ex2 dEq (exB 0) (exB 1))))
    fxNil) fxNil)
    (fxSeq (fxIf (txOr (txNot (txD (exIsi .tup (exB 0)))) (txB (ex2 dNe (exCall dLen [(exB 0)]) (exCall dLen [(exB 1)])))) (fxSeq (fxRet (exC (.bl false)))
    fxNil) fxNil)
    (fxSeq (fxRet (exCall dAll [(exLc (ixR1 (exCall dLen [(exB 1)])) [2] (gxN 2) txY (exCall φ_rec [(ex2 dIx (exB 0) (exB 2)), (ex2 dIx (exB 1) (exB 2))]))]))
    fxNil))))))
def φ_u_law_is : Nat → List D → Option D
  | 0 => fun _ => none
  | n + 1 => runF (fx_u_law_is (φ_u_law_is n)) 3 2
theorem o_u_law_is {P : Program} {w : World} {K : PySem.W.Frag} {mg : Str → Option Value} {base : Heap} {f : Addr} {fd : FuncData} (F : Fun K "_law_is" "_law_is" s_u_law_is f fd) (g : mg "_law_is" = some (.ref f)) (B : Blt mg) (b : L2.Binds K fd ["value", "due"] []) (C_u_law_is_integer : Own P w K mg base 1 "_law_is_integer" φ_u_law_is_integer) : ∀ n : Nat, Own P w K mg base (n + 1) "_law_is" (φ_u_law_is n)
  | 0 => own_zero F g b fun _ => rfl
  | n + 1 => by
    have C_u_law_is := o_u_law_is (base := base) (P := P) (w := w) F g B b C_u_law_is_integer n
    have C_u_law_is_integer := C_u_law_is_integer.mono (k := n + 1) (by omega)
    have := own_mk (k := n + 1) (fx := fx_u_law_is (φ_u_law_is n)) (N := ["value", "due", "at"]) (ps := ["value", "due"]) F S_u_law_is g (fun cdv A outer s H E hr => by
      have L := Lv.of hr
      have hN := S_u_law_is.nd
      exact (pssCons (pIf (pCmpT op2_is (pVar_B (pv 1)) (pS_B pNon) (nomark _)) (pssCons (pRet (pN_S (pCmp op2_is (pVar_B (pv 0)) (pS_B pNon) (nomark _))))
    pssNil) pssNil)
    (pssCons (pIf (pTru (pS_B (bIsBool B (by rfl) (by rfl) rfl (pVar_B (pv 1)))) rfl) (pssCons (pRet (pAndV (bIsBool B (by rfl) (by rfl) rfl (pVar_B (pv 0))) (pe_one (pN_S (pCmp (op2_eq L.u64) (pVar_B (pv 0)) (pVar_B (pv 1)) (nomark _))))))
    pssNil) pssNil)
    (pssCons (pIf (pTru (pS_B (bIsInt B (by rfl) (by rfl) rfl (pVar_B (pv 1)))) rfl) (pssCons (pRet (pAndV (pOwn C_u_law_is_integer L.room (by rfl) rfl (pSL_cons rfl (pVar_S (pv 0)) pSL_nil)) (pe_one (pN_S (pCmp (op2_eq L.u64) (pVar_B (pv 0)) (pVar_B (pv 1)) (nomark _))))))
    pssNil) pssNil)
    (pssCons (pIf (pTru (pS_B (bIsStr B (by rfl) (by rfl) rfl (pVar_B (pv 1)))) rfl) (pssCons (pRet (pAndV (bIsStr B (by rfl) (by rfl) rfl (pVar_B (pv 0))) (pe_one (pN_S (pCmp (op2_eq L.u64) (pVar_B (pv 0)) (pVar_B (pv 1)) (nomark _))))))
    pssNil) pssNil)
    (pssCons (pIf (PW.pt (pwOr (pNotT (pTru (pS_B (bIsTup B (by rfl) (by rfl) rfl (pVar_B (pv 0)))) rfl)) (pwOr1 (pCmpT (op2_ne L.u64) (pS_B (bLen B (by rfl) rfl (pBL_cons rfl (pVar_B (pv 0)) pBL_nil))) (pS_B (bLen B (by rfl) rfl (pBL_cons rfl (pVar_B (pv 1)) pBL_nil))) (nomark _))))) (pssCons (pRet (pC pe_bl fun _ => .bl _))
    pssNil) pssNil)
    (pssCons (pRet (bAll B rfl (by rfl) rfl (pBL_cons rfl (pN_B (pLc rfl hN (pRange1 (by rfl) B.range rfl (pS_B (bLen B (by rfl) rfl (pBL_cons rfl (pVar_B (pv 1)) pBL_nil)))) (own := [("at", 2)]) (by with_unfolding_all rfl) rfl (fun _ _ _ _ _ => (pgN (pg_name (i := 2) hN rfl (.inl rfl)))) (fun _ _ _ _ _ => pTs0) (fun _ _ _ _ _ => (pOwn C_u_law_is L.room (by rfl) rfl (pSL_cons rfl (pIx L.u1 (pVar_B (pv 0)) (pVar_B (pv 2)) rfl) (pSL_cons rfl (pIx L.u1 (pVar_B (pv 1)) (pVar_B (pv 2)) rfl) pSL_nil)))) (fun _ => rfl))) pBL_nil)))
    pssNil))))))) b
    rwa [Nat.add_right_comm] at this
/-! ### is_prime -/
abbrev s_is_prime : Stmt := topS 2
theorem S_is_prime : FnScope ["p", "d"] ["p"] (defScope s_is_prime) := ⟨rfl, rfl, rfl, by decide +kernel, rfl, by decide +kernel, by decide +kernel⟩
def b1_is_prime : Fx :=
  (fxSeq (fxIf (txB (ex2 dEq (ex2 dMod (exB 0) (exB 1)) (exN 0))) (fxSeq (fxRet (exC (.bl false)))
    fxNil) fxNil)
    (fxSeq (fxAug 1 dAddI (exN 1))
    fxNil))
def b2_is_prime : Tx :=
  (txB (ex2 dLe (ex2 dMul (exB 1) (exB 1)) (exB 0)))
def fx_is_prime : Fx :=
  (fxSeq (fxSetS 1 (exN 2))
    (fxSeq (fxWh 10000 b2_is_prime b1_is_prime)
    (fxSeq (fxRet (exC (.bl true)))
    fxNil)))
def φ_is_prime : List D → Option D := runF fx_is_prime 2 1
theorem o_is_prime {P : Program} {w : World} {K : PySem.W.Frag} {mg : Str → Option Value} {base : Heap} {f : Addr} {fd : FuncData} (F : Fun K "is_prime" "is_prime" s_is_prime f fd) (g : mg "is_prime" = some (.ref f)) (B : Blt mg) (b : L2.Binds K fd ["p"] []) : Own P w K mg base 1 "is_prime" φ_is_prime := by
  refine own_mk (k := 0) (fx := fx_is_prime) (N := ["p", "d"]) (ps := ["p"]) F S_is_prime g (fun cdv A outer s H E hr => ?_) b
  have L := Lv.of hr
  have hN := S_is_prime.nd
  exact (pssCons (sSetS hN rfl (.inl rfl) pNat (by with_unfolding_all rfl) (.inr rfl))
    (pssCons (pWh PassesOwn.never (pCmpT op2_le (pN_B (pBin op2_mul (pVar_B (pv 1)) (pVar_B (pv 1)))) (pVar_B (pv 0)) (nomark _)) (pssCons (pIf (pCmpT (op2_eq L.u64) (pN_B (pBin op2_mod (pVar_B (pv 0)) (pVar_B (pv 1)))) (pS_B pNat) (nomark _)) (pssCons (pRet (pC pe_bl fun _ => .bl _))
    pssNil) pssNil)
    (pssCons (pAug hN rfl (.inl rfl) (.inr rfl) (pS_B pNat) iop_addD)
    pssNil)))
    (pssCons (pRet (pC pe_bl fun _ => .bl _))
    pssNil)))
/-! ### is_sill -/
abbrev s_is_sill : Stmt := topS 3
theorem S_is_sill : FnScope ["n", "p", "times"] ["n", "p"] (defScope s_is_sill) := ⟨rfl, rfl, rfl, by decide +kernel, rfl, by decide +kernel, by decide +kernel⟩
def b1_is_sill : Fx :=
  (fxSeq (fxAug 0 dDivI (exB 1))
    (fxSeq (fxAug 2 dAddI (exN 1))
    fxNil))
def b2_is_sill : Tx :=
  (txB (ex2 dEq (ex2 dMod (exB 0) (exB 1)) (exN 0)))
def fx_is_sill : Fx :=
  (fxSeq (fxIf (txOr (txB (ex2 dLt (exB 0) (exN 1))) (txOr (txNot (txB (exCh dLe dLe (exN 2) (exB 1) (exB 0)))) (txOr (txB (ex2 dNe (ex2 dMod (exB 1) (exN 4)) (exN 3))) (txOr (txB (ex2 dNe (ex2 dMod (exB 0) (exB 1)) (exN 0))) (txNot (txD (exCall φ_is_prime [(exV 1)]))))))) (fxSeq (fxRet (exC (.bl false)))
    fxNil) fxNil)
    (fxSeq (fxSetS 2 (exN 0))
    (fxSeq (fxWh 10000 b2_is_sill b1_is_sill)
    (fxSeq (fxRet (ex2 dEq (ex2 dMod (exB 2) (exN 2)) (exN 1)))
    fxNil))))
def φ_is_sill : List D → Option D := runF fx_is_sill 3 2
theorem o_is_sill {P : Program} {w : World} {K : PySem.W.Frag} {mg : Str → Option Value} {base : Heap} {f : Addr} {fd : FuncData} (F : Fun K "is_sill" "is_sill" s_is_sill f fd) (g : mg "is_sill" = some (.ref f)) (B : Blt mg) (b : L2.Binds K fd ["n", "p"] []) (C_is_prime : Own P w K mg base 1 "is_prime" φ_is_prime) : Own P w K mg base 2 "is_sill" φ_is_sill := by
  have C_is_prime := C_is_prime.mono (k := 1) (by decide)
  refine own_mk (k := 1) (fx := fx_is_sill) (N := ["n", "p", "times"]) (ps := ["n", "p"]) F S_is_sill g (fun cdv A outer s H E hr => ?_) b
  have L := Lv.of hr
  have hN := S_is_sill.nd
  exact (pssCons (pIf (PW.pt (pwOr (pCmpT (op2_lt L.u64) (pVar_B (pv 0)) (pS_B pNat) (nomark _)) (pwOr (pNotT (pChainT op2_le op2_le (pS_B pNat) (pVar_B (pv 1)) (pVar_B (pv 0)) (by with_unfolding_all rfl))) (pwOr (pCmpT (op2_ne L.u64) (pN_B (pBin op2_mod (pVar_B (pv 1)) (pS_B pNat))) (pS_B pNat) (nomark _)) (pwOr (pCmpT (op2_ne L.u64) (pN_B (pBin op2_mod (pVar_B (pv 0)) (pVar_B (pv 1)))) (pS_B pNat) (nomark _)) (pwOr1 (pNotT (pTru (pS_B (pOwn C_is_prime L.room (by rfl) rfl (pSL_cons rfl (pVar_S (pv 1)) pSL_nil))) rfl)))))))) (pssCons (pRet (pC pe_bl fun _ => .bl _))
    pssNil) pssNil)
    (pssCons (sSetS hN rfl (.inl rfl) pNat (by with_unfolding_all rfl) (.inr rfl))
    (pssCons (pWh PassesOwn.never (pCmpT (op2_eq L.u64) (pN_B (pBin op2_mod (pVar_B (pv 0)) (pVar_B (pv 1)))) (pS_B pNat) (nomark _)) (pssCons (pAug hN rfl (.inl rfl) (.inr rfl) (pVar_B (pv 1)) iop_divD)
    (pssCons (pAug hN rfl (.inl rfl) (.inr rfl) (pS_B pNat) iop_addD)
    pssNil)))
    (pssCons (pRet (pN_S (pCmp (op2_eq L.u64) (pN_B (pBin op2_mod (pVar_B (pv 2)) (pS_B pNat))) (pS_B pNat) (nomark _))))
    pssNil))))
/-! ### told_sill -/
abbrev s_told_sill : Stmt := topS 4
theorem S_told_sill : FnScope ["n", "p"] ["n"] (defScope s_told_sill) := ⟨rfl, rfl, rfl, by decide +kernel, rfl, by decide +kernel, by decide +kernel⟩
def b1_told_sill : Fx :=
  (fxSeq (fxIf (txD (exCall φ_is_sill [(exV 0), (exV 1)])) (fxSeq (fxRet (exV 1))
    fxNil) fxNil)
    fxNil)
def fx_told_sill : Fx :=
  (fxSeq (fxFor (ixR3 (exN 3) (ex2 dAdd (exB 0) (exN 1)) (exN 4)) (gxN 1) b1_told_sill)
    (fxSeq (fxRet (exC .non))
    fxNil))
def φ_told_sill : List D → Option D := runF fx_told_sill 2 1
theorem o_told_sill {P : Program} {w : World} {K : PySem.W.Frag} {mg : Str → Option Value} {base : Heap} {f : Addr} {fd : FuncData} (F : Fun K "told_sill" "told_sill" s_told_sill f fd) (g : mg "told_sill" = some (.ref f)) (B : Blt mg) (b : L2.Binds K fd ["n"] []) (C_is_sill : Own P w K mg base 2 "is_sill" φ_is_sill) : Own P w K mg base 3 "told_sill" φ_told_sill := by
  have C_is_sill := C_is_sill.mono (k := 2) (by decide)
  refine own_mk (k := 2) (fx := fx_told_sill) (N := ["n", "p"]) (ps := ["n"]) F S_told_sill g (fun cdv A outer s H E hr => ?_) b
  have L := Lv.of hr
  have hN := S_told_sill.nd
  exact (pssCons (pFor PassesOwn.never rfl (pRange3 (by rfl) B.range rfl (pS_B pNat) (pN_B (pBin op2_add (pVar_B (pv 0)) (pS_B pNat))) (pS_B pNat)) (pgN (pg_name (i := 1) hN rfl (.inl rfl))) (pssCons (pIf (pTru (pS_B (pOwn C_is_sill L.room (by rfl) rfl (pSL_cons rfl (pVar_S (pv 0)) (pSL_cons rfl (pVar_S (pv 1)) pSL_nil)))) rfl) (pssCons (pRet (pVar_S (pv 1)))
    pssNil) pssNil)
    pssNil) (fun _ => rfl))
    (pssCons (pRet pNon)
    pssNil))
/-! ### told_legs -/
abbrev s_told_legs : Stmt := topS 1
theorem S_told_legs : FnScope ["n", "b", "a", "made"] ["n"] (defScope s_told_legs) := ⟨rfl, rfl, rfl, by decide +kernel, rfl, by decide +kernel, by decide +kernel⟩
def b1_told_legs : Fx :=
  (fxSeq (fxSetS 3 (ex2 dAdd (ex2 dMul (exB 2) (exB 2)) (ex2 dMul (exB 1) (exB 1))))
    (fxSeq (fxIf (txB (ex2 dEq (exB 3) (exB 0))) (fxSeq (fxRet (exTup [(exV 2), (exV 1)]))
    fxNil) fxNil)
    (fxSeq (fxIf (txB (ex2 dGt (exB 3) (exB 0))) (fxSeq (fxAug 1 dSub (exN 1))
    fxNil) (fxSeq (fxAug 2 dAddI (exN 1))
    fxNil))
    fxNil)))
def b2_told_legs : Tx :=
  (txB (ex2 dLe (exB 2) (exB 1)))
def b3_told_legs : Fx :=
  (fxSeq (fxAug 1 dAddI (exN 1))
    fxNil)
def b4_told_legs : Tx :=
  (txB (ex2 dLt (ex2 dMul (exB 1) (exB 1)) (exB 0)))
def fx_told_legs : Fx :=
  (fxSeq (fxSetS 1 (exN 0))
    (fxSeq (fxWh 10000 b4_told_legs b3_told_legs)
    (fxSeq (fxSetS 2 (exN 0))
    (fxSeq (fxWh 10000 b2_told_legs b1_told_legs)
    (fxSeq (fxRet (exC .non))
    fxNil)))))
def φ_told_legs : List D → Option D := runF fx_told_legs 4 1
theorem o_told_legs {P : Program} {w : World} {K : PySem.W.Frag} {mg : Str → Option Value} {base : Heap} {f : Addr} {fd : FuncData} (F : Fun K "told_legs" "told_legs" s_told_legs f fd) (g : mg "told_legs" = some (.ref f)) (B : Blt mg) (b : L2.Binds K fd ["n"] []) : Own P w K mg base 1 "told_legs" φ_told_legs := by
  refine own_mk (k := 0) (fx := fx_told_legs) (N := ["n", "b", "a", "made"]) (ps := ["n"]) F S_told_legs g (fun cdv A outer s H E hr => ?_) b
  have L := Lv.of hr
  have hN := S_told_legs.nd
  exact (pssCons (sSetS hN rfl (.inl rfl) pNat (by with_unfolding_all rfl) (.inr rfl))
    (pssCons (pWh PassesOwn.never (pCmpT (op2_lt L.u64) (pN_B (pBin op2_mul (pVar_B (pv 1)) (pVar_B (pv 1)))) (pVar_B (pv 0)) (nomark _)) (pssCons (pAug hN rfl (.inl rfl) (.inr rfl) (pS_B pNat) iop_addD)
    pssNil))
    (pssCons (sSetS hN rfl (.inl rfl) pNat (by with_unfolding_all rfl) (.inr rfl))
    (pssCons (pWh PassesOwn.never (pCmpT op2_le (pVar_B (pv 2)) (pVar_B (pv 1)) (nomark _)) (pssCons (sSetS hN rfl (.inl rfl) (pN_S (pBin op2_add (pN_B (pBin op2_mul (pVar_B (pv 2)) (pVar_B (pv 2)))) (pN_B (pBin op2_mul (pVar_B (pv 1)) (pVar_B (pv 1)))))) (by with_unfolding_all rfl) (.inr rfl))
    (pssCons (pIf (pCmpT (op2_eq L.u64) (pVar_B (pv 3)) (pVar_B (pv 0)) (nomark _)) (pssCons (pRet (pN_S (pTup (pSL_cons rfl (pVar_S (pv 2)) (pSL_cons rfl (pVar_S (pv 1)) pSL_nil)) (by decide))))
    pssNil) pssNil)
    (pssCons (pIf (pCmpT op2_gt (pVar_B (pv 3)) (pVar_B (pv 0)) (nomark _)) (pssCons (pAug hN rfl (.inl rfl) (.inr rfl) (pS_B pNat) iop_subD)
    pssNil) (pssCons (pAug hN rfl (.inl rfl) (.inr rfl) (pS_B pNat) iop_addD)
    pssNil))
    pssNil))))
    (pssCons (pRet pNon)
    pssNil)))))
/-! ### _law_sill -/
abbrev s_u_law_sill : Stmt := topS 13
theorem S_u_law_sill : FnScope ["n", "p", "d"] ["n", "p"] (defScope s_u_law_sill) := ⟨rfl, rfl, rfl, by decide +kernel, rfl, by decide +kernel, by decide +kernel⟩
def b1_u_law_sill : Fx :=
  (fxSeq (fxIf (txAnd (txB (ex2 dLt (exB 2) (exB 1))) (txB (ex2 dEq (ex2 dMod (exCall dInt [(exB 1)]) (exB 2)) (exN 0)))) (fxSeq (fxRet (exC (.bl false)))
    fxNil) fxNil)
    fxNil)
def fx_u_law_sill : Fx :=
  (fxSeq (fxIf (txOr (txB (ex2 dEq (exB 0) (exN 0))) (txOr (txB (ex2 dLt (exB 1) (exN 3))) (txOr (txB (ex2 dGt (exB 1) (exB 0))) (txOr (txB (ex2 dNe (ex2 dMod (exCall dInt [(exB 1)]) (exN 4)) (exN 3))) (txB (ex2 dNe (ex2 dMod (exCall dInt [(exB 0)]) (exB 1)) (exN 0))))))) (fxSeq (fxRet (exC (.bl false)))
    fxNil) fxNil)
    (fxSeq (fxFor (ixR2 (exN 2) (exN 45)) (gxN 2) b1_u_law_sill)
    (fxSeq (fxRet (exCall φ_u_law_odd_times [(exV 0), (exV 1)]))
    fxNil)))
def φ_u_law_sill : List D → Option D := runF fx_u_law_sill 3 2
theorem o_u_law_sill {P : Program} {w : World} {K : PySem.W.Frag} {mg : Str → Option Value} {base : Heap} {f : Addr} {fd : FuncData} (F : Fun K "_law_sill" "_law_sill" s_u_law_sill f fd) (g : mg "_law_sill" = some (.ref f)) (B : Blt mg) (b : L2.Binds K fd ["n", "p"] []) (C_u_law_odd_times : Own P w K mg base 1 "_law_odd_times" φ_u_law_odd_times) : Own P w K mg base 2 "_law_sill" φ_u_law_sill := by
  have C_u_law_odd_times := C_u_law_odd_times.mono (k := 1) (by decide)
  refine own_mk (k := 1) (fx := fx_u_law_sill) (N := ["n", "p", "d"]) (ps := ["n", "p"]) F S_u_law_sill g (fun cdv A outer s H E hr => ?_) b
  have L := Lv.of hr
  have hN := S_u_law_sill.nd
  exact (pssCons (pIf (PW.pt (pwOr (pCmpT (op2_eq L.u64) (pVar_B (pv 0)) (pS_B pNat) (nomark _)) (pwOr (pCmpT (op2_lt L.u64) (pVar_B (pv 1)) (pS_B pNat) (nomark _)) (pwOr (pCmpT op2_gt (pVar_B (pv 1)) (pVar_B (pv 0)) (nomark _)) (pwOr (pCmpT (op2_ne L.u64) (pN_B (pBin op2_mod (pS_B (bInt B (by rfl) rfl (pBL_cons rfl (pVar_B (pv 1)) pBL_nil))) (pS_B pNat))) (pS_B pNat) (nomark _)) (pwOr1 (pCmpT (op2_ne L.u64) (pN_B (pBin op2_mod (pS_B (bInt B (by rfl) rfl (pBL_cons rfl (pVar_B (pv 0)) pBL_nil))) (pVar_B (pv 1)))) (pS_B pNat) (nomark _)))))))) (pssCons (pRet (pC pe_bl fun _ => .bl _))
    pssNil) pssNil)
    (pssCons (pFor PassesOwn.never rfl (pRange2 (by rfl) B.range rfl rfl (pS_B pNat) (pS_B pNat)) (pgN (pg_name (i := 2) hN rfl (.inl rfl))) (pssCons (pIf (PW.pt (pwAnd (pCmpT (op2_lt L.u64) (pVar_B (pv 2)) (pVar_B (pv 1)) (nomark _)) (pwAnd1 (pCmpT (op2_eq L.u64) (pN_B (pBin op2_mod (pS_B (bInt B (by rfl) rfl (pBL_cons rfl (pVar_B (pv 1)) pBL_nil))) (pVar_B (pv 2)))) (pS_B pNat) (nomark _))))) (pssCons (pRet (pC pe_bl fun _ => .bl _))
    pssNil) pssNil)
    pssNil) (fun _ => rfl))
    (pssCons (pRet (pOwn C_u_law_odd_times L.room (by rfl) rfl (pSL_cons rfl (pVar_S (pv 0)) (pSL_cons rfl (pVar_S (pv 1)) pSL_nil))))
    pssNil)))
/-! ### _law_asked -/
abbrev s_u_law_asked : Stmt := topS 15
theorem S_u_law_asked : FnScope ["n", "draws", "legs", "sills", "asked", "at", "p"] ["n", "draws"] (defScope s_u_law_asked) := ⟨rfl, rfl, rfl, by decide +kernel, rfl, by decide +kernel, by decide +kernel⟩
def b1_u_law_asked : Ex :=
  (ex2 dMod (exCall dInt [(ex2 dIx (exB 1) (exB 5))]) (ex2 dAdd (exB 0) (exN 3)))
def fx_u_law_asked : Fx :=
  (fxSeq (fxSetS 2 (exCall φ_u_law_legs [(exV 0)]))
    (fxSeq (fxSetS 3 (exCall φ_u_law_sills [(exV 0)]))
    (fxSeq (fxIf (txOr (txB (ex2 dNe (ex2 dIs (exB 2) (exC .non)) (ex2 dGt (exCall dLen [(exB 3)]) (exN 0)))) (txNot (txD (exCall (φ_u_law_is 6) [(exCall φ_told_legs [(exV 0)]), (exV 2)])))) (fxSeq (fxRet (exC (.bl false)))
    fxNil) fxNil)
    (fxSeq (fxIf (txNot (txD (exCall (φ_u_law_is 6) [(exCall φ_told_sill [(exV 0)]), (exIf (txB (ex2 dGt (exCall dLen [(exB 3)]) (exN 0))) (ex2 dIx (exB 3) (exN 0)) (exC .non))]))) (fxSeq (fxRet (exC (.bl false)))
    fxNil) fxNil)
    (fxSeq (fxSetS 4 (ex2 dAdd (exLst [(ex2 dSub (exN 0) (exN 3)), (ex2 dSub (exN 0) (exN 1)), (exN 0), (exN 1), (exN 2), (exN 3), (exN 4), (exN 7), (exN 9), (exN 15), (exN 27), (exV 0), (ex2 dDiv (exB 0) (exN 3)), (ex2 dAdd (ex2 dPow (exN 10) (exN 20)) (exN 3))]) (exB 3)))
    (fxSeq (fxSetS 4 (ex2 dAdd (exB 4) (exLc (ixR1 (exN 3)) [5] (gxN 5) txY b1_u_law_asked)))
    (fxSeq (fxRet (ex2 dEq (exCall dLen [(exLc (ixV (exV 4)) [6] (gxN 6) (txNot (txD (exCall (φ_u_law_is 6) [(exCall φ_is_sill [(exV 0), (exV 6)]), (exCall φ_u_law_sill [(exV 0), (exV 6)])]))) (exV 6))]) (exN 0)))
    fxNil)))))))
def φ_u_law_asked : List D → Option D := runF fx_u_law_asked 7 2
theorem o_u_law_asked {P : Program} {w : World} {K : PySem.W.Frag} {mg : Str → Option Value} {base : Heap} {f : Addr} {fd : FuncData} (F : Fun K "_law_asked" "_law_asked" s_u_law_asked f fd) (g : mg "_law_asked" = some (.ref f)) (B : Blt mg) (b : L2.Binds K fd ["n", "draws"] []) (C_is_sill : Own P w K mg base 2 "is_sill" φ_is_sill) (C_u_law_sill : Own P w K mg base 2 "_law_sill" φ_u_law_sill) (C_u_law_is : Own P w K mg base 7 "_law_is" (φ_u_law_is 6)) (C_told_sill : Own P w K mg base 3 "told_sill" φ_told_sill) (C_told_legs : Own P w K mg base 1 "told_legs" φ_told_legs) (C_u_law_sills : Own P w K mg base 2 "_law_sills" φ_u_law_sills) (C_u_law_legs : Own P w K mg base 1 "_law_legs" φ_u_law_legs) : Own P w K mg base 8 "_law_asked" φ_u_law_asked := by
  have C_is_sill := C_is_sill.mono (k := 7) (by decide)
  have C_u_law_sill := C_u_law_sill.mono (k := 7) (by decide)
  have C_u_law_is := C_u_law_is.mono (k := 7) (by decide)
  have C_told_sill := C_told_sill.mono (k := 7) (by decide)
  have C_told_legs := C_told_legs.mono (k := 7) (by decide)
  have C_u_law_sills := C_u_law_sills.mono (k := 7) (by decide)
  have C_u_law_legs := C_u_law_legs.mono (k := 7) (by decide)
  refine own_mk (k := 7) (fx := fx_u_law_asked) (N := ["n", "draws", "legs", "sills", "asked", "at", "p"]) (ps := ["n", "draws"]) F S_u_law_asked g (fun cdv A outer s H E hr => ?_) b
  have L := Lv.of hr
  have hN := S_u_law_asked.nd
  exact (pssCons (sSetS hN rfl (.inl rfl) (pOwn C_u_law_legs L.room (by rfl) rfl (pSL_cons rfl (pVar_S (pv 0)) pSL_nil)) (by with_unfolding_all rfl) (.inr rfl))
    (pssCons (sSetS hN rfl (.inl rfl) (pOwn C_u_law_sills L.room (by rfl) rfl (pSL_cons rfl (pVar_S (pv 0)) pSL_nil)) (by with_unfolding_all rfl) (.inr rfl))
    (pssCons (pIf (PW.pt (pwOr (pCmpT (op2_ne L.u64) (pN_B (pCmp op2_is (pVar_B (pv 2)) (pS_B pNon) (nomark _))) (pN_B (pCmp op2_gt (pS_B (bLen B (by rfl) rfl (pBL_cons rfl (pVar_B (pv 3)) pBL_nil))) (pS_B pNat) (nomark _))) (nomark _)) (pwOr1 (pNotT (pTru (pS_B (pOwn C_u_law_is L.room (by rfl) rfl (pSL_cons rfl (pOwn C_told_legs L.room (by rfl) rfl (pSL_cons rfl (pVar_S (pv 0)) pSL_nil)) (pSL_cons rfl (pVar_S (pv 2)) pSL_nil)))) rfl))))) (pssCons (pRet (pC pe_bl fun _ => .bl _))
    pssNil) pssNil)
    (pssCons (pIf (pNotT (pTru (pS_B (pOwn C_u_law_is L.room (by rfl) rfl (pSL_cons rfl (pOwn C_told_sill L.room (by rfl) rfl (pSL_cons rfl (pVar_S (pv 0)) pSL_nil)) (pSL_cons rfl (pIfS (pCmpT op2_gt (pS_B (bLen B (by rfl) rfl (pBL_cons rfl (pVar_B (pv 3)) pBL_nil))) (pS_B pNat) (nomark _)) (pIx L.u1 (pVar_B (pv 3)) (pS_B pNat) rfl) pNon) pSL_nil)))) rfl)) (pssCons (pRet (pC pe_bl fun _ => .bl _))
    pssNil) pssNil)
    (pssCons (sSetS hN rfl (.inl rfl) (pN_S (pBin op2_add (pN_B (pLst (pSL_cons rfl (pN_S (pBin op2_sub (pS_B pNat) (pS_B pNat))) (pSL_cons rfl (pN_S (pBin op2_sub (pS_B pNat) (pS_B pNat))) (pSL_cons rfl pNat (pSL_cons rfl pNat (pSL_cons rfl pNat (pSL_cons rfl pNat (pSL_cons rfl pNat (pSL_cons rfl pNat (pSL_cons rfl pNat (pSL_cons rfl pNat (pSL_cons rfl pNat (pSL_cons rfl (pVar_S (pv 0)) (pSL_cons rfl (pN_S (pBin op2_div (pVar_B (pv 0)) (pS_B pNat))) (pSL_cons rfl (pN_S (pBin op2_add (pN_B (pBin op2_pow (pS_B pNat) (pS_B pNat))) (pS_B pNat))) pSL_nil)))))))))))))) (by decide))) (pVar_B (pv 3)))) (by with_unfolding_all rfl) (.inr rfl))
    (pssCons (sSetS hN rfl (.inl rfl) (pN_S (pBin op2_add (pVar_B (pv 4)) (pN_B (pLc rfl hN (pRange1 (by rfl) B.range rfl (pS_B pNat)) (own := [("at", 5)]) (by with_unfolding_all rfl) rfl (fun _ _ _ _ _ => (pgN (pg_name (i := 5) hN rfl (.inl rfl)))) (fun _ _ _ _ _ => pTs0) (fun _ _ _ _ _ => (pN_S (pBin op2_mod (pS_B (bInt B (by rfl) rfl (pBL_cons rfl (pS_B (pIx L.u1 (pVar_B (pv 1)) (pVar_B (pv 5)) rfl)) pBL_nil))) (pN_B (pBin op2_add (pVar_B (pv 0)) (pS_B pNat)))))) (fun _ => rfl))))) (by with_unfolding_all rfl) (.inr rfl))
    (pssCons (pRet (pN_S (pCmp (op2_eq L.u64) (pS_B (bLen B (by rfl) rfl (pBL_cons rfl (pN_B (pLc rfl hN (pWalk (pVar_S (pv 4))) (own := [("p", 6)]) (by with_unfolding_all rfl) rfl (fun _ _ _ _ _ => (pgN (pg_name (i := 6) hN rfl (.inl rfl)))) (fun _ _ _ _ _ => (pTs1 (pNotT (pTru (pS_B (pOwn C_u_law_is L.room (by rfl) rfl (pSL_cons rfl (pOwn C_is_sill L.room (by rfl) rfl (pSL_cons rfl (pVar_S (pv 0)) (pSL_cons rfl (pVar_S (pv 6)) pSL_nil))) (pSL_cons rfl (pOwn C_u_law_sill L.room (by rfl) rfl (pSL_cons rfl (pVar_S (pv 0)) (pSL_cons rfl (pVar_S (pv 6)) pSL_nil))) pSL_nil)))) rfl)))) (fun _ _ _ _ _ => (pVar_S (pv 6))) (fun _ => rfl))) pBL_nil))) (pS_B pNat) (nomark _))))
    pssNil)))))))
/-! ### nets_at -/
abbrev s_nets_at : Stmt := topS 5
theorem S_nets_at : FnScope ["n", "divisors", "d"] ["n"] (defScope s_nets_at) := ⟨rfl, rfl, rfl, by decide +kernel, rfl, by decide +kernel, by decide +kernel⟩
def b1_nets_at : Tx :=
  (txB (ex2 dEq (ex2 dMod (exB 2) (exN 4)) (exN 1)))
def b2_nets_at : Tx :=
  (txB (ex2 dEq (ex2 dMod (exB 2) (exN 4)) (exN 3)))
def b3_nets_at : Tx :=
  (txB (ex2 dEq (ex2 dMod (exB 0) (exB 2)) (exN 0)))
def fx_nets_at : Fx :=
  (fxSeq (fxSetS 1 (exLc (ixR2 (exN 1) (ex2 dAdd (exB 0) (exN 1))) [2] (gxN 2) b3_nets_at (exV 2)))
    (fxSeq (fxRet (ex2 dMul (exN 4) (ex2 dSub (exCall dLen [(exLc (ixV (exV 1)) [2] (gxN 2) b1_nets_at (exV 2))]) (exCall dLen [(exLc (ixV (exV 1)) [2] (gxN 2) b2_nets_at (exV 2))]))))
    fxNil))
def φ_nets_at : List D → Option D := runF fx_nets_at 3 1
theorem o_nets_at {P : Program} {w : World} {K : PySem.W.Frag} {mg : Str → Option Value} {base : Heap} {f : Addr} {fd : FuncData} (F : Fun K "nets_at" "nets_at" s_nets_at f fd) (g : mg "nets_at" = some (.ref f)) (B : Blt mg) (b : L2.Binds K fd ["n"] []) : Own P w K mg base 1 "nets_at" φ_nets_at := by
  refine own_mk (k := 0) (fx := fx_nets_at) (N := ["n", "divisors", "d"]) (ps := ["n"]) F S_nets_at g (fun cdv A outer s H E hr => ?_) b
  have L := Lv.of hr
  have hN := S_nets_at.nd
  exact (pssCons (pSetLcS rfl hN rfl rfl (by with_unfolding_all rfl) (pRange2 (by rfl) B.range rfl rfl (pS_B pNat) (pN_B (pBin op2_add (pVar_B (pv 0)) (pS_B pNat)))) (own := [("d", 2)]) (by with_unfolding_all rfl) rfl (fun _ _ _ _ _ => (pgN (pg_name (i := 2) hN rfl (.inl rfl)))) (fun _ _ _ _ _ => (pTs1 (pCmpT (op2_eq L.u64) (pN_B (pBin op2_mod (pVar_B (pv 0)) (pVar_B (pv 2)))) (pS_B pNat) (nomark _)))) (fun _ _ _ _ _ => (pVar_S (pv 2))) (fun _ => rfl))
    (pssCons (pRet (pN_S (pBin op2_mul (pS_B pNat) (pN_B (pBin op2_sub (pS_B (bLen B (by rfl) rfl (pBL_cons rfl (pN_B (pLc rfl hN (pWalk (pVar_S (pv 1))) (own := [("d", 2)]) (by with_unfolding_all rfl) rfl (fun _ _ _ _ _ => (pgN (pg_name (i := 2) hN rfl (.inl rfl)))) (fun _ _ _ _ _ => (pTs1 (pCmpT (op2_eq L.u64) (pN_B (pBin op2_mod (pVar_B (pv 2)) (pS_B pNat))) (pS_B pNat) (nomark _)))) (fun _ _ _ _ _ => (pVar_S (pv 2))) (fun _ => rfl))) pBL_nil))) (pS_B (bLen B (by rfl) rfl (pBL_cons rfl (pN_B (pLc rfl hN (pWalk (pVar_S (pv 1))) (own := [("d", 2)]) (by with_unfolding_all rfl) rfl (fun _ _ _ _ _ => (pgN (pg_name (i := 2) hN rfl (.inl rfl)))) (fun _ _ _ _ _ => (pTs1 (pCmpT (op2_eq L.u64) (pN_B (pBin op2_mod (pVar_B (pv 2)) (pS_B pNat))) (pS_B pNat) (nomark _)))) (fun _ _ _ _ _ => (pVar_S (pv 2))) (fun _ => rfl))) pBL_nil))))))))
    pssNil))
/-! ### _law_counted -/
abbrev s_u_law_counted : Stmt := topS 16
theorem S_u_law_counted : FnScope ["n", "total", "x", "y"] ["n"] (defScope s_u_law_counted) := ⟨rfl, rfl, rfl, by decide +kernel, rfl, by decide +kernel, by decide +kernel⟩
def b1_u_law_counted : Tx :=
  (txB (ex2 dEq (ex2 dAdd (ex2 dMul (exB 2) (exB 2)) (ex2 dMul (exB 3) (exB 3))) (exB 0)))
def b2_u_law_counted : Fx :=
  (fxSeq (fxSetS 1 (ex2 dAdd (exB 1) (exCall dLen [(exLc (ixR2 (ex2 dSub (exN 0) (exN 20)) (exN 21)) [3] (gxN 3) b1_u_law_counted (exV 3))])))
    fxNil)
def fx_u_law_counted : Fx :=
  (fxSeq (fxSetS 1 (exN 0))
    (fxSeq (fxFor (ixR2 (ex2 dSub (exN 0) (exN 20)) (exN 21)) (gxN 2) b2_u_law_counted)
    (fxSeq (fxRet (exCall (φ_u_law_is 6) [(exCall φ_nets_at [(exV 0)]), (exV 1)]))
    fxNil)))
def φ_u_law_counted : List D → Option D := runF fx_u_law_counted 4 1
theorem o_u_law_counted {P : Program} {w : World} {K : PySem.W.Frag} {mg : Str → Option Value} {base : Heap} {f : Addr} {fd : FuncData} (F : Fun K "_law_counted" "_law_counted" s_u_law_counted f fd) (g : mg "_law_counted" = some (.ref f)) (B : Blt mg) (b : L2.Binds K fd ["n"] []) (C_nets_at : Own P w K mg base 1 "nets_at" φ_nets_at) (C_u_law_is : Own P w K mg base 7 "_law_is" (φ_u_law_is 6)) : Own P w K mg base 8 "_law_counted" φ_u_law_counted := by
  have C_nets_at := C_nets_at.mono (k := 7) (by decide)
  have C_u_law_is := C_u_law_is.mono (k := 7) (by decide)
  refine own_mk (k := 7) (fx := fx_u_law_counted) (N := ["n", "total", "x", "y"]) (ps := ["n"]) F S_u_law_counted g (fun cdv A outer s H E hr => ?_) b
  have L := Lv.of hr
  have hN := S_u_law_counted.nd
  exact (pssCons (sSetS hN rfl (.inl rfl) pNat (by with_unfolding_all rfl) (.inr rfl))
    (pssCons (pFor PassesOwn.never rfl (pRange2 (by rfl) B.range rfl rfl (pN_B (pBin op2_sub (pS_B pNat) (pS_B pNat))) (pS_B pNat)) (pgN (pg_name (i := 2) hN rfl (.inr rfl))) (pssCons (sSetS hN rfl (.inl rfl) (pN_S (pBin op2_add (pVar_B (pv 1)) (pS_B (bLen B (by rfl) rfl (pBL_cons rfl (pN_B (pLc rfl hN (pRange2 (by rfl) B.range rfl rfl (pN_B (pBin op2_sub (pS_B pNat) (pS_B pNat))) (pS_B pNat)) (own := [("y", 3)]) (by with_unfolding_all rfl) rfl (fun _ _ _ _ _ => (pgN (pg_name (i := 3) hN rfl (.inl rfl)))) (fun _ _ _ _ _ => (pTs1 (pCmpT (op2_eq L.u64) (pN_B (pBin op2_add (pN_B (pBin op2_mul (pVar_B (pv 2)) (pVar_B (pv 2)))) (pN_B (pBin op2_mul (pVar_B (pv 3)) (pVar_B (pv 3)))))) (pVar_B (pv 0)) (nomark _)))) (fun _ _ _ _ _ => (pVar_S (pv 3))) (fun _ => rfl))) pBL_nil))))) (by with_unfolding_all rfl) (.inr rfl))
    pssNil) (fun _ => rfl))
    (pssCons (pRet (pOwn C_u_law_is L.room (by rfl) rfl (pSL_cons rfl (pOwn C_nets_at L.room (by rfl) rfl (pSL_cons rfl (pVar_S (pv 0)) pSL_nil)) (pSL_cons rfl (pVar_S (pv 1)) pSL_nil))))
    pssNil)))
/-! ### _law_case -/
abbrev s_u_law_case : Stmt := topS 17
theorem S_u_law_case : FnScope ["draws", "a", "b", "free", "odd", "high"] ["draws"] (defScope s_u_law_case) := ⟨rfl, rfl, rfl, by decide +kernel, rfl, by decide +kernel, by decide +kernel⟩
def fx_u_law_case : Fx :=
  (fxSeq (fxSetS 1 (ex2 dMod (exCall dInt [(ex2 dIx (exB 0) (exN 0))]) (exN 32)))
    (fxSeq (fxSetS 2 (ex2 dMod (exCall dInt [(ex2 dIx (exB 0) (exN 1))]) (exN 32)))
    (fxSeq (fxIf (txOr (txB (ex2 dIs (exCall φ_told_legs [(ex2 dAdd (ex2 dMul (exB 1) (exB 1)) (ex2 dMul (exB 2) (exB 2)))]) (exC .non))) (txNot (txD (exCall φ_u_law_asked [(ex2 dAdd (ex2 dMul (exB 1) (exB 1)) (ex2 dMul (exB 2) (exB 2))), (exSl (exB 0) (some (exN 2)) (some (exN 5)))])))) (fxSeq (fxRet (exC (.bl false)))
    fxNil) fxNil)
    (fxSeq (fxSetS 3 (ex2 dAdd (exN 1) (ex2 dMod (exCall dInt [(ex2 dIx (exB 0) (exN 5))]) (exN 399))))
    (fxSeq (fxIf (txOr (txNot (txD (exCall φ_u_law_asked [(exV 3), (exSl (exB 0) (some (exN 6)) (some (exN 9)))]))) (txNot (txD (exCall φ_u_law_counted [(exV 3)])))) (fxSeq (fxRet (exC (.bl false)))
    fxNil) fxNil)
    (fxSeq (fxSetS 4 (ex2 dMul (exN 3) (ex2 dAdd (ex2 dAdd (ex2 dMul (exN 3) (ex2 dMod (exCall dInt [(ex2 dIx (exB 0) (exN 9))]) (exN 220))) (exN 1)) (ex2 dMod (exCall dInt [(ex2 dIx (exB 0) (exN 10))]) (exN 2)))))
    (fxSeq (fxIf (txOr (txB (ex2 dIs (exCall φ_told_sill [(exV 4)]) (exC .non))) (txNot (txD (exCall φ_u_law_asked [(exV 4), (exSl (exB 0) (some (exN 6)) (some (exN 9)))])))) (fxSeq (fxRet (exC (.bl false)))
    fxNil) fxNil)
    (fxSeq (fxSetS 5 (ex2 dIx (exTup [(exN 3), (exN 7), (exN 11), (exN 19)]) (ex2 dMod (exCall dInt [(ex2 dIx (exB 0) (exN 11))]) (exN 4))))
    (fxSeq (fxRet (exAnd (exCall φ_u_law_asked [(ex2 dMul (ex2 dMul (exB 5) (exB 5)) (ex2 dAdd (exN 1) (ex2 dMod (exCall dInt [(ex2 dIx (exB 0) (exN 12))]) (exN 5)))), (exSl (exB 0) (some (exN 6)) (some (exN 9)))]) (exCall φ_u_law_counted [(ex2 dAdd (exN 1) (ex2 dMod (exCall dInt [(ex2 dIx (exB 0) (exN 12))]) (exN 5)))])))
    fxNil)))))))))
def φ_u_law_case : List D → Option D := runF fx_u_law_case 6 1
theorem o_u_law_case {P : Program} {w : World} {K : PySem.W.Frag} {mg : Str → Option Value} {base : Heap} {f : Addr} {fd : FuncData} (F : Fun K "_law_case" "_law_case" s_u_law_case f fd) (g : mg "_law_case" = some (.ref f)) (B : Blt mg) (b : L2.Binds K fd ["draws"] []) (C_u_law_counted : Own P w K mg base 8 "_law_counted" φ_u_law_counted) (C_u_law_asked : Own P w K mg base 8 "_law_asked" φ_u_law_asked) (C_told_sill : Own P w K mg base 3 "told_sill" φ_told_sill) (C_told_legs : Own P w K mg base 1 "told_legs" φ_told_legs) : Own P w K mg base 9 "_law_case" φ_u_law_case := by
  have C_u_law_counted := C_u_law_counted.mono (k := 8) (by decide)
  have C_u_law_asked := C_u_law_asked.mono (k := 8) (by decide)
  have C_told_sill := C_told_sill.mono (k := 8) (by decide)
  have C_told_legs := C_told_legs.mono (k := 8) (by decide)
  refine own_mk (k := 8) (fx := fx_u_law_case) (N := ["draws", "a", "b", "free", "odd", "high"]) (ps := ["draws"]) F S_u_law_case g (fun cdv A outer s H E hr => ?_) b
  have L := Lv.of hr
  have hN := S_u_law_case.nd
  exact (pssCons (sSetS hN rfl (.inl rfl) (pN_S (pBin op2_mod (pS_B (bInt B (by rfl) rfl (pBL_cons rfl (pS_B (pIx L.u1 (pVar_B (pv 0)) (pS_B pNat) rfl)) pBL_nil))) (pS_B pNat))) (by with_unfolding_all rfl) (.inr rfl))
    (pssCons (sSetS hN rfl (.inl rfl) (pN_S (pBin op2_mod (pS_B (bInt B (by rfl) rfl (pBL_cons rfl (pS_B (pIx L.u1 (pVar_B (pv 0)) (pS_B pNat) rfl)) pBL_nil))) (pS_B pNat))) (by with_unfolding_all rfl) (.inr rfl))
    (pssCons (pIf (PW.pt (pwOr (pCmpT op2_is (pS_B (pOwn C_told_legs L.room (by rfl) rfl (pSL_cons rfl (pN_S (pBin op2_add (pN_B (pBin op2_mul (pVar_B (pv 1)) (pVar_B (pv 1)))) (pN_B (pBin op2_mul (pVar_B (pv 2)) (pVar_B (pv 2)))))) pSL_nil))) (pS_B pNon) (nomark _)) (pwOr1 (pNotT (pTru (pS_B (pOwn C_u_law_asked L.room (by rfl) rfl (pSL_cons rfl (pN_S (pBin op2_add (pN_B (pBin op2_mul (pVar_B (pv 1)) (pVar_B (pv 1)))) (pN_B (pBin op2_mul (pVar_B (pv 2)) (pVar_B (pv 2)))))) (pSL_cons rfl (pN_S (pSl (pVar_B (pv 0)) (pPart1 (pS_B pNat)) (pPart1 (pS_B pNat)))) pSL_nil)))) rfl))))) (pssCons (pRet (pC pe_bl fun _ => .bl _))
    pssNil) pssNil)
    (pssCons (sSetS hN rfl (.inl rfl) (pN_S (pBin op2_add (pS_B pNat) (pN_B (pBin op2_mod (pS_B (bInt B (by rfl) rfl (pBL_cons rfl (pS_B (pIx L.u1 (pVar_B (pv 0)) (pS_B pNat) rfl)) pBL_nil))) (pS_B pNat))))) (by with_unfolding_all rfl) (.inr rfl))
    (pssCons (pIf (PW.pt (pwOr (pNotT (pTru (pS_B (pOwn C_u_law_asked L.room (by rfl) rfl (pSL_cons rfl (pVar_S (pv 3)) (pSL_cons rfl (pN_S (pSl (pVar_B (pv 0)) (pPart1 (pS_B pNat)) (pPart1 (pS_B pNat)))) pSL_nil)))) rfl)) (pwOr1 (pNotT (pTru (pS_B (pOwn C_u_law_counted L.room (by rfl) rfl (pSL_cons rfl (pVar_S (pv 3)) pSL_nil))) rfl))))) (pssCons (pRet (pC pe_bl fun _ => .bl _))
    pssNil) pssNil)
    (pssCons (sSetS hN rfl (.inl rfl) (pN_S (pBin op2_mul (pS_B pNat) (pN_B (pBin op2_add (pN_B (pBin op2_add (pN_B (pBin op2_mul (pS_B pNat) (pN_B (pBin op2_mod (pS_B (bInt B (by rfl) rfl (pBL_cons rfl (pS_B (pIx L.u1 (pVar_B (pv 0)) (pS_B pNat) rfl)) pBL_nil))) (pS_B pNat))))) (pS_B pNat))) (pN_B (pBin op2_mod (pS_B (bInt B (by rfl) rfl (pBL_cons rfl (pS_B (pIx L.u1 (pVar_B (pv 0)) (pS_B pNat) rfl)) pBL_nil))) (pS_B pNat))))))) (by with_unfolding_all rfl) (.inr rfl))
    (pssCons (pIf (PW.pt (pwOr (pCmpT op2_is (pS_B (pOwn C_told_sill L.room (by rfl) rfl (pSL_cons rfl (pVar_S (pv 4)) pSL_nil))) (pS_B pNon) (nomark _)) (pwOr1 (pNotT (pTru (pS_B (pOwn C_u_law_asked L.room (by rfl) rfl (pSL_cons rfl (pVar_S (pv 4)) (pSL_cons rfl (pN_S (pSl (pVar_B (pv 0)) (pPart1 (pS_B pNat)) (pPart1 (pS_B pNat)))) pSL_nil)))) rfl))))) (pssCons (pRet (pC pe_bl fun _ => .bl _))
    pssNil) pssNil)
    (pssCons (sSetS hN rfl (.inl rfl) (pIx L.u1 (pN_B (pTup (pSL_cons rfl pNat (pSL_cons rfl pNat (pSL_cons rfl pNat (pSL_cons rfl pNat pSL_nil)))) (by decide))) (pN_B (pBin op2_mod (pS_B (bInt B (by rfl) rfl (pBL_cons rfl (pS_B (pIx L.u1 (pVar_B (pv 0)) (pS_B pNat) rfl)) pBL_nil))) (pS_B pNat))) rfl) (by with_unfolding_all rfl) (.inr rfl))
    (pssCons (pRet (pAndV (pOwn C_u_law_asked L.room (by rfl) rfl (pSL_cons rfl (pN_S (pBin op2_mul (pN_B (pBin op2_mul (pVar_B (pv 5)) (pVar_B (pv 5)))) (pN_B (pBin op2_add (pS_B pNat) (pN_B (pBin op2_mod (pS_B (bInt B (by rfl) rfl (pBL_cons rfl (pS_B (pIx L.u1 (pVar_B (pv 0)) (pS_B pNat) rfl)) pBL_nil))) (pS_B pNat))))))) (pSL_cons rfl (pN_S (pSl (pVar_B (pv 0)) (pPart1 (pS_B pNat)) (pPart1 (pS_B pNat)))) pSL_nil))) (pe_one (pOwn C_u_law_counted L.room (by rfl) rfl (pSL_cons rfl (pN_S (pBin op2_add (pS_B pNat) (pN_B (pBin op2_mod (pS_B (bInt B (by rfl) rfl (pBL_cons rfl (pS_B (pIx L.u1 (pVar_B (pv 0)) (pS_B pNat) rfl)) pBL_nil))) (pS_B pNat))))) pSL_nil)))))
    pssNil)))))))))
/-! ### _law_draws -/
abbrev s_u_law_draws : Stmt := topS 8
theorem S_u_law_draws : FnScope ["cell", "count", "rest", "digits", "seed", "draws", "k", "mixed"] ["cell", "count"] (defScope s_u_law_draws) := ⟨rfl, rfl, rfl, by decide +kernel, rfl, by decide +kernel, by decide +kernel⟩
def b1_u_law_draws : Fx :=
  (fxSeq (fxIf (txAnd (txD (exB 3)) (txB (ex2 dGt (exB 2) (exN 0)))) (fxSeq (fxApp 5 (ex2 dMod (exCall dInt [(exB 2)]) (exN 5040)))
    (fxSeq (fxSetS 2 (ex2 dDiv (exB 2) (exN 5040)))
    fxNil)) (fxSeq (fxSetS 7 (ex2 dMod (exCall dInt [(ex2 dAdd (ex2 dAdd (ex2 dMul (exB 4) (exN 48271)) (ex2 dMul (ex2 dAdd (exB 6) (exN 1)) (exN 69621))) (exN 11))]) (exN 2147483647)))
    (fxSeq (fxSetS 7 (ex2 dMod (exCall dInt [(ex2 dAdd (ex2 dMul (exB 7) (exB 7)) (ex2 dMul (exN 40692) (ex2 dAdd (exB 6) (exN 3))))]) (exN 2147483399)))
    (fxSeq (fxApp 5 (ex2 dMod (exCall dInt [(ex2 dDiv (exB 7) (exN 64))]) (exN 5040)))
    fxNil))))
    fxNil)
def fx_u_law_draws : Fx :=
  (fxSeq (fxSetS 2 (exCall dAbs [(exCall dInt [(exB 0)])]))
    (fxSeq (fxSetS 3 (ex2 dGe (exB 2) (ex2 dPow (exN 10) (exN 18))))
    (fxSeq (fxSetS 4 (exV 2))
    (fxSeq (fxSetN 5 (exLst []))
    (fxSeq (fxFor (ixR1 (exB 1)) (gxN 6) b1_u_law_draws)
    (fxSeq (fxFz [5] (fxRet (exV 5)))
    fxNil))))))
def φ_u_law_draws : List D → Option D := runF fx_u_law_draws 8 2
theorem o_u_law_draws {P : Program} {w : World} {K : PySem.W.Frag} {mg : Str → Option Value} {base : Heap} {f : Addr} {fd : FuncData} (F : Fun K "_law_draws" "_law_draws" s_u_law_draws f fd) (g : mg "_law_draws" = some (.ref f)) (B : Blt mg) (b : L2.Binds K fd ["cell", "count"] []) : Own P w K mg base 1 "_law_draws" φ_u_law_draws := by
  refine own_mk (k := 0) (fx := fx_u_law_draws) (N := ["cell", "count", "rest", "digits", "seed", "draws", "k", "mixed"]) (ps := ["cell", "count"]) F S_u_law_draws g (fun cdv A outer s H E hr => ?_) b
  have L := Lv.of hr
  have hN := S_u_law_draws.nd
  exact (pssCons (sSetS hN rfl (.inl rfl) (bAbs B (by rfl) rfl (pBL_cons rfl (pS_B (bInt B (by rfl) rfl (pBL_cons rfl (pVar_B (pv 0)) pBL_nil))) pBL_nil)) (by with_unfolding_all rfl) (.inr rfl))
    (pssCons (sSetS hN rfl (.inl rfl) (pN_S (pCmp op2_ge (pVar_B (pv 2)) (pN_B (pBin op2_pow (pS_B pNat) (pS_B pNat))) (nomark _))) (by with_unfolding_all rfl) (.inr rfl))
    (pssCons (sSetS hN rfl (.inl rfl) (pVar_S (pv 2)) (by with_unfolding_all rfl) (.inr rfl))
    (pssCons (sSetN hN rfl (.inl rfl) (pLst pSL_nil (by decide)) (by with_unfolding_all rfl) (.inr rfl))
    (pssCons (pFor PassesOwn.never rfl (pRange1 (by rfl) B.range rfl (pVar_B (pv 1))) (pgN (pg_name (i := 6) hN rfl (.inl rfl))) (pssCons (pIf (PW.pt (pwAnd (pTru (pVar_B (pv 3)) rfl) (pwAnd1 (pCmpT op2_gt (pVar_B (pv 2)) (pS_B pNat) (nomark _))))) (pssCons (pApp (pv 5) (pN_S (pBin op2_mod (pS_B (bInt B (by rfl) rfl (pBL_cons rfl (pVar_B (pv 2)) pBL_nil))) (pS_B pNat))) rfl rfl rfl)
    (pssCons (sSetS hN rfl (.inl rfl) (pN_S (pBin op2_div (pVar_B (pv 2)) (pS_B pNat))) (by with_unfolding_all rfl) (.inr rfl))
    pssNil)) (pssCons (sSetS hN rfl (.inl rfl) (pN_S (pBin op2_mod (pS_B (bInt B (by rfl) rfl (pBL_cons rfl (pN_B (pBin op2_add (pN_B (pBin op2_add (pN_B (pBin op2_mul (pVar_B (pv 4)) (pS_B pNat))) (pN_B (pBin op2_mul (pN_B (pBin op2_add (pVar_B (pv 6)) (pS_B pNat))) (pS_B pNat))))) (pS_B pNat))) pBL_nil))) (pS_B pNat))) (by with_unfolding_all rfl) (.inr rfl))
    (pssCons (sSetS hN rfl (.inl rfl) (pN_S (pBin op2_mod (pS_B (bInt B (by rfl) rfl (pBL_cons rfl (pN_B (pBin op2_add (pN_B (pBin op2_mul (pVar_B (pv 7)) (pVar_B (pv 7)))) (pN_B (pBin op2_mul (pS_B pNat) (pN_B (pBin op2_add (pVar_B (pv 6)) (pS_B pNat))))))) pBL_nil))) (pS_B pNat))) (by with_unfolding_all rfl) (.inr rfl))
    (pssCons (pApp (pv 5) (pN_S (pBin op2_mod (pS_B (bInt B (by rfl) rfl (pBL_cons rfl (pN_B (pBin op2_div (pVar_B (pv 7)) (pS_B pNat))) pBL_nil))) (pS_B pNat))) rfl rfl rfl)
    pssNil))))
    pssNil) (fun _ => rfl))
    (pssCons (pFz (pRet (pVar_S (pv 5))))
    pssNil))))))
/-! ### _law_cell -/
abbrev s_u_law_cell : Stmt := topS 7
theorem S_u_law_cell : FnScope ["script", "k"] ["script", "k"] (defScope s_u_law_cell) := ⟨rfl, rfl, rfl, by decide +kernel, rfl, by decide +kernel, by decide +kernel⟩
def fx_u_law_cell : Fx :=
  (fxSeq (fxIf (txB (ex2 dLt (exB 1) (exCall dLen [(exB 0)]))) (fxSeq (fxRet (ex2 dIx (exB 0) (exB 1)))
    fxNil) fxNil)
    (fxSeq (fxRet (ex2 dAdd (ex2 dMul (exN 5) (exB 1)) (exN 3)))
    fxNil))
def φ_u_law_cell : List D → Option D := runF fx_u_law_cell 2 2
theorem o_u_law_cell {P : Program} {w : World} {K : PySem.W.Frag} {mg : Str → Option Value} {base : Heap} {f : Addr} {fd : FuncData} (F : Fun K "_law_cell" "_law_cell" s_u_law_cell f fd) (g : mg "_law_cell" = some (.ref f)) (B : Blt mg) (b : L2.Binds K fd ["script", "k"] []) : Own P w K mg base 1 "_law_cell" φ_u_law_cell := by
  refine own_mk (k := 0) (fx := fx_u_law_cell) (N := ["script", "k"]) (ps := ["script", "k"]) F S_u_law_cell g (fun cdv A outer s H E hr => ?_) b
  have L := Lv.of hr
  have hN := S_u_law_cell.nd
  exact (pssCons (pIf (pCmpT (op2_lt L.u64) (pVar_B (pv 1)) (pS_B (bLen B (by rfl) rfl (pBL_cons rfl (pVar_B (pv 0)) pBL_nil))) (nomark _)) (pssCons (pRet (pIx L.u1 (pVar_B (pv 0)) (pVar_B (pv 1)) rfl))
    pssNil) pssNil)
    (pssCons (pRet (pN_S (pBin op2_add (pN_B (pBin op2_mul (pS_B pNat) (pVar_B (pv 1)))) (pS_B pNat))))
    pssNil))
/-! ### law -/
abbrev s_law : Stmt := topS 18
theorem S_law : FnScope ["script", "n", "k"] ["script"] (defScope s_law) := ⟨rfl, rfl, rfl, by decide +kernel, rfl, by decide +kernel, by decide +kernel⟩
def b1_law : Fx :=
  (fxSeq (fxIf (txNot (txD (exCall φ_u_law_case [(exCall φ_u_law_draws [(exCall φ_u_law_cell [(exV 0), (exV 2)]), (exN 13)])]))) (fxSeq (fxRet (exC (.bl false)))
    fxNil) fxNil)
    fxNil)
def b2_law : Fx :=
  (fxSeq (fxIf (txNot (txD (exCall φ_u_law_asked [(exV 1), (exTup [(exN 0), (exN 1), (exN 2)])]))) (fxSeq (fxRet (exC (.bl false)))
    fxNil) fxNil)
    fxNil)
def fx_law : Fx :=
  (fxSeq (fxFor (ixR1 (exN 3)) (gxN 1) b2_law)
    (fxSeq (fxFor (ixR1 (exN 2)) (gxN 2) b1_law)
    (fxSeq (fxRet (exC (.bl true)))
    fxNil)))
def φ_law : List D → Option D := runF fx_law 3 1
theorem o_law {P : Program} {w : World} {K : PySem.W.Frag} {mg : Str → Option Value} {base : Heap} {f : Addr} {fd : FuncData} (F : Fun K "law" "law" s_law f fd) (g : mg "law" = some (.ref f)) (B : Blt mg) (b : L2.Binds K fd ["script"] []) (C_u_law_cell : Own P w K mg base 1 "_law_cell" φ_u_law_cell) (C_u_law_draws : Own P w K mg base 1 "_law_draws" φ_u_law_draws) (C_u_law_case : Own P w K mg base 9 "_law_case" φ_u_law_case) (C_u_law_asked : Own P w K mg base 8 "_law_asked" φ_u_law_asked) : FnOk P w K mg base CX0 10 f fd ["script"] (spF φ_law 1) := by
  have C_u_law_cell := C_u_law_cell.mono (k := 9) (by decide)
  have C_u_law_draws := C_u_law_draws.mono (k := 9) (by decide)
  have C_u_law_case := C_u_law_case.mono (k := 9) (by decide)
  have C_u_law_asked := C_u_law_asked.mono (k := 9) (by decide)
  refine fn_ok (k := 9) (fx := fx_law) (N := ["script", "n", "k"]) (ps := ["script"]) F S_law (fun cdv A outer s H E hr => ?_)
  have L := Lv.of hr
  have hN := S_law.nd
  exact (pssCons (pFor PassesOwn.never rfl (pRange1 (by rfl) B.range rfl (pS_B pNat)) (pgN (pg_name (i := 1) hN rfl (.inl rfl))) (pssCons (pIf (pNotT (pTru (pS_B (pOwn C_u_law_asked L.room (by rfl) rfl (pSL_cons rfl (pVar_S (pv 1)) (pSL_cons rfl (pN_S (pTup (pSL_cons rfl pNat (pSL_cons rfl pNat (pSL_cons rfl pNat pSL_nil))) (by decide))) pSL_nil)))) rfl)) (pssCons (pRet (pC pe_bl fun _ => .bl _))
    pssNil) pssNil)
    pssNil) (fun _ => rfl))
    (pssCons (pFor PassesOwn.never rfl (pRange1 (by rfl) B.range rfl (pS_B pNat)) (pgN (pg_name (i := 2) hN rfl (.inl rfl))) (pssCons (pIf (pNotT (pTru (pS_B (pOwn C_u_law_case L.room (by rfl) rfl (pSL_cons rfl (pOwn C_u_law_draws L.room (by rfl) rfl (pSL_cons rfl (pOwn C_u_law_cell L.room (by rfl) rfl (pSL_cons rfl (pVar_S (pv 0)) (pSL_cons rfl (pVar_S (pv 2)) pSL_nil))) (pSL_cons rfl pNat pSL_nil))) pSL_nil))) rfl)) (pssCons (pRet (pC pe_bl fun _ => .bl _))
    pssNil) pssNil)
    pssNil) (fun _ => rfl))
    (pssCons (pRet (pC pe_bl fun _ => .bl _))
    pssNil)))
end Sw.k75

namespace Sw.k75
open PySem L2
/-! ### legs, by the law -/
theorem legs_in (n a : Nat) (ha : a < 46) (bs : List Nat) (hb : ∀ b ∈ bs, b < 46) : ∀ (s : Slot), ∃ s', fLoop (gxN 2) b1_u_law_legs (bs.map fun b => .int (b : Nat)) [.val (.int (n : Nat)), .val (.int (a : Nat)), s] = some (match bs.find? (fun b => decide (a * a + b * b = n)) with
      | some b => .ret (.tup [.int (a : Nat), .int (b : Nat)])
      | none => .nx [.val (.int (n : Nat)), .val (.int (a : Nat)), s']) := by
  induction bs with
  | nil => exact fun s => ⟨s, rfl⟩
  | cons b bs ih =>
    intro s
    have hb0 : b < 46 := hb b (by simp)
    obtain ⟨s', ih⟩ := ih (fun x hx => hb x (by simp [hx])) (.val (.int b))
    refine ⟨s', ?_⟩
    rw [List.map_cons, fLoop, gxN, List.find?_cons]
    by_cases h : a * a + b * b = n
    · simp only [b1_u_law_legs, fxSeq, fxSetS, fxSetN, fxIf, fxRet, fxRetN, fxNil, fxBrk, fxCnt, fxFz, frzL, frz1, List.foldl_cons, List.foldl_nil, fxApp, fxExt, fxAug, fxSetIx, fxAsg, fxFor, fxWh, exB, exV, exC, exN, ex1, ex2, exCall, exTup, exLst, exDic, exIf, exAnd, exOr, exNot, exCh, exIsi, exSl, exPart, exLc, evs, txB, txD, txNot, txAnd, txOr, txY, dBool, dTru, dAbs, dInt, dLen, dIsi, is_non, isn_non, non_int, non_bl, non_str, non_tup, non_lst, non_non, gxN, gxT, gxCons, gxNil, ixR1, ixR2, ixV, seqD, Slot.d, mkOwn, D.mut, runF, env0, outD, wipeE, nadd, naddI, add_tup, add_lst, neq, nne, nlt, nle, ngt, nge, eq_bl, ne_bl, ix_tup, ix_lst, Option.bind_some, Option.bind_none, Option.map_some, Option.map_none, List.getElem?_cons_zero, List.getElem?_cons_succ, List.getElem?_nil, List.set_cons_zero, List.set_cons_succ, List.length_cons, List.length_nil, List.map_cons, List.map_nil, List.cons_append, List.nil_append, List.replicate_succ, List.replicate_zero, Nat.reduceAdd, Nat.reduceSub, Nat.sub_zero, if_true, if_false, Bool.false_eq_true, Bool.true_eq_false, decide_true, decide_false, Bool.not_true, Bool.not_false, Nat.zero_add, ite_true, ite_false, reduceIte, decide_eq_true_eq, Option.some.injEq, nmul (a := a) (b := a) (by omega), nmul (a := b) (b := b) (by omega), h]
    · simp only [b1_u_law_legs, fxSeq, fxSetS, fxSetN, fxIf, fxRet, fxRetN, fxNil, fxBrk, fxCnt, fxFz, frzL, frz1, List.foldl_cons, List.foldl_nil, fxApp, fxExt, fxAug, fxSetIx, fxAsg, fxFor, fxWh, exB, exV, exC, exN, ex1, ex2, exCall, exTup, exLst, exDic, exIf, exAnd, exOr, exNot, exCh, exIsi, exSl, exPart, exLc, evs, txB, txD, txNot, txAnd, txOr, txY, dBool, dTru, dAbs, dInt, dLen, dIsi, is_non, isn_non, non_int, non_bl, non_str, non_tup, non_lst, non_non, gxN, gxT, gxCons, gxNil, ixR1, ixR2, ixV, seqD, Slot.d, mkOwn, D.mut, runF, env0, outD, wipeE, nadd, naddI, add_tup, add_lst, neq, nne, nlt, nle, ngt, nge, eq_bl, ne_bl, ix_tup, ix_lst, Option.bind_some, Option.bind_none, Option.map_some, Option.map_none, List.getElem?_cons_zero, List.getElem?_cons_succ, List.getElem?_nil, List.set_cons_zero, List.set_cons_succ, List.length_cons, List.length_nil, List.map_cons, List.map_nil, List.cons_append, List.nil_append, List.replicate_succ, List.replicate_zero, Nat.reduceAdd, Nat.reduceSub, Nat.sub_zero, if_true, if_false, Bool.false_eq_true, Bool.true_eq_false, decide_true, decide_false, Bool.not_true, Bool.not_false, Nat.zero_add, ite_true, ite_false, reduceIte, decide_eq_true_eq, Option.some.injEq, nmul (a := a) (b := a) (by omega), nmul (a := b) (b := b) (by omega), h]
      exact ih
def legsL (n : Nat) : List Nat → Option (Nat × Nat)
  | [] => none
  | a :: as => match (List.range' a (46 - a)).find? (fun b => decide (a * a + b * b = n)) with
    | some b => some (a, b)
    | none => legsL n as
def legsD : Option (Nat × Nat) → D
  | none => .non
  | some (a, b) => .tup [.int (a : Nat), .int (b : Nat)]
theorem legs_out (n : Nat) (as : List Nat) (ha : ∀ a ∈ as, a < 46) : ∀ s1 s2 : Slot, ∃ s1' s2', fLoop (gxN 1) b2_u_law_legs (as.map fun b => .int (b : Nat)) [.val (.int (n : Nat)), s1, s2] = some (match legsL n as with
      | some (a, b) => .ret (.tup [.int (a : Nat), .int (b : Nat)])
      | none => .nx [.val (.int (n : Nat)), s1', s2']) := by
  induction as with
  | nil => exact fun s1 s2 => ⟨s1, s2, rfl⟩
  | cons a as ih =>
    intro s1 s2
    have ha0 : a < 46 := ha a (by simp)
    obtain ⟨s', h1⟩ := legs_in n a ha0 (List.range' a (46 - a)) (fun b hb => by
      obtain ⟨i, hi, rfl⟩ := List.mem_range'.mp hb
      omega) s2
    obtain ⟨t1, t2, ih⟩ := ih (fun x hx => ha x (by simp [hx])) (.val (.int a)) s'
    refine ⟨t1, t2, ?_⟩
    have hr : rgD (a : Int) 46 = _ := rg_nat2 (a := a) (b := 46) (by decide) (by omega)
    rw [List.map_cons, fLoop, gxN, legsL]
    simp only [b2_u_law_legs, fxSeq, fxSetS, fxSetN, fxIf, fxRet, fxRetN, fxNil, fxBrk, fxCnt, fxFz, frzL, frz1, List.foldl_cons, List.foldl_nil, fxApp, fxExt, fxAug, fxSetIx, fxAsg, fxFor, fxWh, exB, exV, exC, exN, Int.cast_ofNat_Int, Int.natCast_zero, Int.natCast_one, ex1, ex2, exCall, exTup, exLst, exDic, exIf, exAnd, exOr, exNot, exCh, exIsi, exSl, exPart, exLc, evs, txB, txD, txNot, txAnd, txOr, txY, dBool, dTru, dAbs, dInt, dLen, dIsi, is_non, isn_non, non_int, non_bl, non_str, non_tup, non_lst, non_non, gxN, gxT, gxCons, gxNil, ixR1, ixR2, ixV, seqD, Slot.d, mkOwn, D.mut, runF, env0, outD, wipeE, add_int, sub_int, add_tup, add_lst, eq_int, ne_int, lt_int, le_int, gt_int, ge_int, eq_bl, ne_bl, ix_tup, ix_lst, Option.bind_some, Option.bind_none, Option.map_some, Option.map_none, List.getElem?_cons_zero, List.getElem?_cons_succ, List.getElem?_nil, List.set_cons_zero, List.set_cons_succ, List.length_cons, List.length_nil, List.map_cons, List.map_nil, List.cons_append, List.nil_append, List.replicate_succ, List.replicate_zero, Nat.reduceAdd, Nat.reduceSub, Nat.sub_zero, if_true, if_false, Bool.false_eq_true, Bool.true_eq_false, decide_true, decide_false, Bool.not_true, Bool.not_false, Nat.zero_add, ite_true, ite_false, reduceIte, decide_eq_true_eq, Option.some.injEq, hr, h1]
    cases hf : (List.range' a (46 - a)).find? (fun b => decide (a * a + b * b = n)) with
    | some b => simp only [fxSeq, fxSetS, fxSetN, fxIf, fxRet, fxRetN, fxNil, fxBrk, fxCnt, fxFz, frzL, frz1, List.foldl_cons, List.foldl_nil, fxApp, fxExt, fxAug, fxSetIx, fxAsg, fxFor, fxWh, exB, exV, exC, exN, Int.cast_ofNat_Int, Int.natCast_zero, Int.natCast_one, ex1, ex2, exCall, exTup, exLst, exDic, exIf, exAnd, exOr, exNot, exCh, exIsi, exSl, exPart, exLc, evs, txB, txD, txNot, txAnd, txOr, txY, dBool, dTru, dAbs, dInt, dLen, dIsi, is_non, isn_non, non_int, non_bl, non_str, non_tup, non_lst, non_non, gxN, gxT, gxCons, gxNil, ixR1, ixR2, ixV, seqD, Slot.d, mkOwn, D.mut, runF, env0, outD, wipeE, add_int, sub_int, add_tup, add_lst, eq_int, ne_int, lt_int, le_int, gt_int, ge_int, eq_bl, ne_bl, ix_tup, ix_lst, Option.bind_some, Option.bind_none, Option.map_some, Option.map_none, List.getElem?_cons_zero, List.getElem?_cons_succ, List.getElem?_nil, List.set_cons_zero, List.set_cons_succ, List.length_cons, List.length_nil, List.map_cons, List.map_nil, List.cons_append, List.nil_append, List.replicate_succ, List.replicate_zero, Nat.reduceAdd, Nat.reduceSub, Nat.sub_zero, if_true, if_false, Bool.false_eq_true, Bool.true_eq_false, decide_true, decide_false, Bool.not_true, Bool.not_false, Nat.zero_add, ite_true, ite_false, reduceIte, decide_eq_true_eq, Option.some.injEq]
    | none =>
      simp only [fxSeq, fxSetS, fxSetN, fxIf, fxRet, fxRetN, fxNil, fxBrk, fxCnt, fxFz, frzL, frz1, List.foldl_cons, List.foldl_nil, fxApp, fxExt, fxAug, fxSetIx, fxAsg, fxFor, fxWh, exB, exV, exC, exN, Int.cast_ofNat_Int, Int.natCast_zero, Int.natCast_one, ex1, ex2, exCall, exTup, exLst, exDic, exIf, exAnd, exOr, exNot, exCh, exIsi, exSl, exPart, exLc, evs, txB, txD, txNot, txAnd, txOr, txY, dBool, dTru, dAbs, dInt, dLen, dIsi, is_non, isn_non, non_int, non_bl, non_str, non_tup, non_lst, non_non, gxN, gxT, gxCons, gxNil, ixR1, ixR2, ixV, seqD, Slot.d, mkOwn, D.mut, runF, env0, outD, wipeE, add_int, sub_int, add_tup, add_lst, eq_int, ne_int, lt_int, le_int, gt_int, ge_int, eq_bl, ne_bl, ix_tup, ix_lst, Option.bind_some, Option.bind_none, Option.map_some, Option.map_none, List.getElem?_cons_zero, List.getElem?_cons_succ, List.getElem?_nil, List.set_cons_zero, List.set_cons_succ, List.length_cons, List.length_nil, List.map_cons, List.map_nil, List.cons_append, List.nil_append, List.replicate_succ, List.replicate_zero, Nat.reduceAdd, Nat.reduceSub, Nat.sub_zero, if_true, if_false, Bool.false_eq_true, Bool.true_eq_false, decide_true, decide_false, Bool.not_true, Bool.not_false, Nat.zero_add, ite_true, ite_false, reduceIte, decide_eq_true_eq, Option.some.injEq]
      exact ih
theorem legs_eq (n : Nat) : φ_u_law_legs [.int (n : Nat)] = some (legsD (legsL n (List.range 46))) := by
  obtain ⟨s1, s2, h⟩ := legs_out n (List.range 46) (fun a ha => List.mem_range.mp ha) .no .no
  have hr : rgD 0 46 = _ := rg_lit 46 rfl
  simp only [φ_u_law_legs, fx_u_law_legs, fxSeq, fxSetS, fxSetN, fxIf, fxRet, fxRetN, fxNil, fxBrk, fxCnt, fxFz, frzL, frz1, List.foldl_cons, List.foldl_nil, fxApp, fxExt, fxAug, fxSetIx, fxAsg, fxFor, fxWh, exB, exV, exC, exN, Int.cast_ofNat_Int, Int.natCast_zero, Int.natCast_one, ex1, ex2, exCall, exTup, exLst, exDic, exIf, exAnd, exOr, exNot, exCh, exIsi, exSl, exPart, exLc, evs, txB, txD, txNot, txAnd, txOr, txY, dBool, dTru, dAbs, dInt, dLen, dIsi, is_non, isn_non, non_int, non_bl, non_str, non_tup, non_lst, non_non, gxN, gxT, gxCons, gxNil, ixR1, ixR2, ixV, seqD, Slot.d, mkOwn, D.mut, runF, env0, outD, wipeE, add_int, sub_int, add_tup, add_lst, eq_int, ne_int, lt_int, le_int, gt_int, ge_int, eq_bl, ne_bl, ix_tup, ix_lst, Option.bind_some, Option.bind_none, Option.map_some, Option.map_none, List.getElem?_cons_zero, List.getElem?_cons_succ, List.getElem?_nil, List.set_cons_zero, List.set_cons_succ, List.length_cons, List.length_nil, List.map_cons, List.map_nil, List.cons_append, List.nil_append, List.replicate_succ, List.replicate_zero, Nat.reduceAdd, Nat.reduceSub, Nat.sub_zero, if_true, if_false, Bool.false_eq_true, Bool.true_eq_false, decide_true, decide_false, Bool.not_true, Bool.not_false, Nat.zero_add, ite_true, ite_false, reduceIte, decide_eq_true_eq, Option.some.injEq, hr, h]
  cases legsL n (List.range 46) with
  | none => rfl
  | some p => rfl

/-! ### how often p goes into n -/
def wv (p : Nat) : Nat → Nat → Nat → Nat
  | 0, _, t => t
  | k + 1, r, t => if r % p = 0 then wv p k (r / p) (t + 1) else t
def oddT (n p : Nat) : Bool := decide (wv p 12 n 0 % 2 = 1)
def stepO (p : Nat) (s : Nat × Nat) : Nat × Nat := if s.2 % p = 0 then (s.1 + 1, s.2 / p) else s
theorem fold_wv (p : Nat) : ∀ (l : List Nat) (s : Nat × Nat), (l.foldl (fun s _ => stepO p s) s).1 = wv p l.length s.2 s.1 := by
  intro l
  induction l with
  | nil => exact fun s => rfl
  | cons a l ih =>
    intro s
    rw [List.foldl_cons, List.length_cons, wv, ih]
    by_cases h : s.2 % p = 0
    · rw [if_pos h, stepO, if_pos h]
    · rw [if_neg h, stepO, if_neg h]
      cases hl : l.length with
      | zero => rfl
      | succ k => rw [wv, if_neg h]
theorem odd_eq (n p : Nat) (hp : 0 < p) (hp' : p < 1073741824) : φ_u_law_odd_times [.int (n : Nat), .int (p : Nat)] = some (.bl (oddT n p)) := by
  obtain ⟨env', h1, s4, rfl⟩ := for_nx (gt := gxN 4) (g := b1_u_law_odd_times) (c := fun i : Nat => D.int (i : Nat)) (R := fun (s : Nat × Nat) env => ∃ s4, env = [.val (.int (n : Nat)), .val (.int (p : Nat)), .val (.int (s.1 : Nat)), .val (.int (s.2 : Nat)), s4]) (tr := fun s _ => stepO p s) (xs := List.range 12) (s := (0, n))
    (env := [.val (.int (n : Nat)), .val (.int (p : Nat)), .val (.int ((0 : Nat) : Int)), .val (.int (n : Nat)), .no]) (fun s env x _ ⟨s4, hr⟩ => by
      subst hr
      by_cases h : s.2 % p = 0
      · refine ⟨_, [.val (.int (n : Nat)), .val (.int (p : Nat)), .val (.int ((s.1 + 1 : Nat) : Int)), .val (.int ((s.2 / p : Nat) : Int)), .val (.int (x : Nat))], rfl, .inl ?_, .val (.int (x : Nat)), by simp only [stepO, if_pos h]⟩
        simp only [b1_u_law_odd_times, fxSeq, fxSetS, fxSetN, fxIf, fxRet, fxRetN, fxNil, fxBrk, fxCnt, fxFz, frzL, frz1, List.foldl_cons, List.foldl_nil, fxApp, fxExt, fxAug, fxSetIx, fxAsg, fxFor, fxWh, exB, exV, exC, exN, ex1, ex2, exCall, exTup, exLst, exDic, exIf, exAnd, exOr, exNot, exCh, exIsi, exSl, exPart, exLc, evs, txB, txD, txNot, txAnd, txOr, txY, dBool, dTru, dAbs, dInt, dLen, dIsi, is_non, isn_non, non_int, non_bl, non_str, non_tup, non_lst, non_non, gxN, gxT, gxCons, gxNil, ixR1, ixR2, ixV, seqD, Slot.d, mkOwn, D.mut, runF, env0, outD, wipeE, nadd, naddI, add_tup, add_lst, neq, nne, nlt, nle, ngt, nge, eq_bl, ne_bl, ix_tup, ix_lst, Option.bind_some, Option.bind_none, Option.map_some, Option.map_none, List.getElem?_cons_zero, List.getElem?_cons_succ, List.getElem?_nil, List.set_cons_zero, List.set_cons_succ, List.length_cons, List.length_nil, List.map_cons, List.map_nil, List.cons_append, List.nil_append, List.replicate_succ, List.replicate_zero, Nat.reduceAdd, Nat.reduceSub, Nat.sub_zero, if_true, if_false, Bool.false_eq_true, Bool.true_eq_false, decide_true, decide_false, Bool.not_true, Bool.not_false, Nat.zero_add, ite_true, ite_false, reduceIte, decide_eq_true_eq, Option.some.injEq, nmod hp, ndiv hp hp', h]
      · refine ⟨_, [.val (.int (n : Nat)), .val (.int (p : Nat)), .val (.int ((s.1 : Nat) : Int)), .val (.int ((s.2 : Nat) : Int)), .val (.int (x : Nat))], rfl, .inl ?_, .val (.int (x : Nat)), by simp only [stepO, if_neg h]⟩
        simp only [b1_u_law_odd_times, fxSeq, fxSetS, fxSetN, fxIf, fxRet, fxRetN, fxNil, fxBrk, fxCnt, fxFz, frzL, frz1, List.foldl_cons, List.foldl_nil, fxApp, fxExt, fxAug, fxSetIx, fxAsg, fxFor, fxWh, exB, exV, exC, exN, ex1, ex2, exCall, exTup, exLst, exDic, exIf, exAnd, exOr, exNot, exCh, exIsi, exSl, exPart, exLc, evs, txB, txD, txNot, txAnd, txOr, txY, dBool, dTru, dAbs, dInt, dLen, dIsi, is_non, isn_non, non_int, non_bl, non_str, non_tup, non_lst, non_non, gxN, gxT, gxCons, gxNil, ixR1, ixR2, ixV, seqD, Slot.d, mkOwn, D.mut, runF, env0, outD, wipeE, nadd, naddI, add_tup, add_lst, neq, nne, nlt, nle, ngt, nge, eq_bl, ne_bl, ix_tup, ix_lst, Option.bind_some, Option.bind_none, Option.map_some, Option.map_none, List.getElem?_cons_zero, List.getElem?_cons_succ, List.getElem?_nil, List.set_cons_zero, List.set_cons_succ, List.length_cons, List.length_nil, List.map_cons, List.map_nil, List.cons_append, List.nil_append, List.replicate_succ, List.replicate_zero, Nat.reduceAdd, Nat.reduceSub, Nat.sub_zero, if_true, if_false, Bool.false_eq_true, Bool.true_eq_false, decide_true, decide_false, Bool.not_true, Bool.not_false, Nat.zero_add, ite_true, ite_false, reduceIte, decide_eq_true_eq, Option.some.injEq, nmod hp, ndiv hp hp', h]) ⟨_, rfl⟩
  have hr : rgD 0 ((12 : Nat) : Int) = _ := rg_nat (n := 12) (by decide)
  have h2 := fold_wv p (List.range 12) (0, n)
  rw [List.length_range] at h2
  simp only [φ_u_law_odd_times, fx_u_law_odd_times, fxSeq, fxSetS, fxSetN, fxIf, fxRet, fxRetN, fxNil, fxBrk, fxCnt, fxFz, frzL, frz1, List.foldl_cons, List.foldl_nil, fxApp, fxExt, fxAug, fxSetIx, fxAsg, fxFor, fxWh, exB, exV, exC, exN, ex1, ex2, exCall, exTup, exLst, exDic, exIf, exAnd, exOr, exNot, exCh, exIsi, exSl, exPart, exLc, evs, txB, txD, txNot, txAnd, txOr, txY, dBool, dTru, dAbs, dInt, dLen, dIsi, is_non, isn_non, non_int, non_bl, non_str, non_tup, non_lst, non_non, gxN, gxT, gxCons, gxNil, ixR1, ixR2, ixV, seqD, Slot.d, mkOwn, D.mut, runF, env0, outD, wipeE, nadd, naddI, add_tup, add_lst, neq, nne, nlt, nle, ngt, nge, eq_bl, ne_bl, ix_tup, ix_lst, Option.bind_some, Option.bind_none, Option.map_some, Option.map_none, List.getElem?_cons_zero, List.getElem?_cons_succ, List.getElem?_nil, List.set_cons_zero, List.set_cons_succ, List.length_cons, List.length_nil, List.map_cons, List.map_nil, List.cons_append, List.nil_append, List.replicate_succ, List.replicate_zero, Nat.reduceAdd, Nat.reduceSub, Nat.sub_zero, if_true, if_false, Bool.false_eq_true, Bool.true_eq_false, decide_true, decide_false, Bool.not_true, Bool.not_false, Nat.zero_add, ite_true, ite_false, reduceIte, decide_eq_true_eq, Option.some.injEq, hr, h1, nmod (b := 2) (by decide)]
  rw [h2]
  rfl

/-! ### the sills by the law -/
def strip (p : Nat) : Nat → Nat → Nat
  | 0, r => r
  | k + 1, r => if r % p = 0 then strip p k (r / p) else r
def stepS (p r : Nat) : Nat := if r % p = 0 then r / p else r
theorem fold_strip (p : Nat) : ∀ (l : List Nat) (r : Nat), l.foldl (fun r _ => stepS p r) r = strip p l.length r := by
  intro l
  induction l with
  | nil => exact fun s => rfl
  | cons a l ih =>
    intro r
    rw [List.foldl_cons, List.length_cons, strip, ih]
    by_cases h : r % p = 0
    · rw [if_pos h, stepS, if_pos h]
    · rw [if_neg h, stepS, if_neg h]
      cases hl : l.length with
      | zero => rfl
      | succ k => rw [strip, if_neg h]
def stepG (s : List Nat × Nat) (p : Nat) : List Nat × Nat := if 0 < s.2 ∧ s.2 % p = 0 then (s.1 ++ [p], strip p 12 s.2) else s
def sillsN (n : Nat) : List Nat :=
  let s := (List.range' 2 43).foldl stepG ([], n)
  (if 1 < s.2 then s.1 ++ [s.2] else s.1).filter fun p => decide (p % 4 = 3) && oddT n p
theorem strip_le (p : Nat) : ∀ k r, strip p k r ≤ r
  | 0, r => Nat.le_refl r
  | k + 1, r => by
    rw [strip]
    split
    · exact Nat.le_trans (strip_le p k _) (Nat.div_le_self _ _)
    · exact Nat.le_refl r
theorem strip_eq (n p r : Nat) (f : Slot) (hp : 0 < p) (hp' : p < 1073741824) (s4 : Slot) : ∃ s4', fLoop (gxN 4) b2_u_law_sills ((List.range 12).map fun i => .int (i : Nat)) [.val (.int (n : Nat)), f, .val (.int (r : Nat)), .val (.int (p : Nat)), s4] = some (.nx [.val (.int (n : Nat)), f, .val (.int ((strip p 12 r : Nat) : Int)), .val (.int (p : Nat)), s4']) := by
  obtain ⟨env', h1, s4, rfl⟩ := for_nx (gt := gxN 4) (g := b2_u_law_sills) (c := fun i : Nat => D.int (i : Nat)) (R := fun (r : Nat) env => ∃ s4, env = [.val (.int (n : Nat)), f, .val (.int (r : Nat)), .val (.int (p : Nat)), s4]) (tr := fun r _ => stepS p r) (xs := List.range 12) (s := r)
    (env := [.val (.int (n : Nat)), f, .val (.int (r : Nat)), .val (.int (p : Nat)), s4]) (fun r env x _ ⟨s4, hr⟩ => by
      subst hr
      by_cases h : r % p = 0
      · refine ⟨_, [.val (.int (n : Nat)), f, .val (.int ((r / p : Nat) : Int)), .val (.int (p : Nat)), .val (.int (x : Nat))], rfl, .inl ?_, .val (.int (x : Nat)), by simp only [stepS, if_pos h]⟩
        simp only [b2_u_law_sills, fxSeq, fxSetS, fxSetN, fxIf, fxRet, fxRetN, fxNil, fxBrk, fxCnt, fxFz, frzL, frz1, List.foldl_cons, List.foldl_nil, fxApp, fxExt, fxAug, fxSetIx, fxAsg, fxFor, fxWh, exB, exV, exC, exN, ex1, ex2, exCall, exTup, exLst, exDic, exIf, exAnd, exOr, exNot, exCh, exIsi, exSl, exPart, exLc, evs, txB, txD, txNot, txAnd, txOr, txY, dBool, dTru, dAbs, dInt, dLen, dIsi, is_non, isn_non, non_int, non_bl, non_str, non_tup, non_lst, non_non, gxN, gxT, gxCons, gxNil, ixR1, ixR2, ixV, seqD, Slot.d, mkOwn, D.mut, runF, env0, outD, wipeE, nadd, naddI, add_tup, add_lst, neq, nne, nlt, nle, ngt, nge, eq_bl, ne_bl, ix_tup, ix_lst, Option.bind_some, Option.bind_none, Option.map_some, Option.map_none, List.getElem?_cons_zero, List.getElem?_cons_succ, List.getElem?_nil, List.set_cons_zero, List.set_cons_succ, List.length_cons, List.length_nil, List.map_cons, List.map_nil, List.cons_append, List.nil_append, List.replicate_succ, List.replicate_zero, Nat.reduceAdd, Nat.reduceSub, Nat.sub_zero, if_true, if_false, Bool.false_eq_true, Bool.true_eq_false, decide_true, decide_false, Bool.not_true, Bool.not_false, Nat.zero_add, ite_true, ite_false, reduceIte, decide_eq_true_eq, Option.some.injEq, nmod hp, ndiv hp hp', h]
      · refine ⟨_, [.val (.int (n : Nat)), f, .val (.int (r : Nat)), .val (.int (p : Nat)), .val (.int (x : Nat))], rfl, .inl ?_, .val (.int (x : Nat)), by simp only [stepS, if_neg h]⟩
        simp only [b2_u_law_sills, fxSeq, fxSetS, fxSetN, fxIf, fxRet, fxRetN, fxNil, fxBrk, fxCnt, fxFz, frzL, frz1, List.foldl_cons, List.foldl_nil, fxApp, fxExt, fxAug, fxSetIx, fxAsg, fxFor, fxWh, exB, exV, exC, exN, ex1, ex2, exCall, exTup, exLst, exDic, exIf, exAnd, exOr, exNot, exCh, exIsi, exSl, exPart, exLc, evs, txB, txD, txNot, txAnd, txOr, txY, dBool, dTru, dAbs, dInt, dLen, dIsi, is_non, isn_non, non_int, non_bl, non_str, non_tup, non_lst, non_non, gxN, gxT, gxCons, gxNil, ixR1, ixR2, ixV, seqD, Slot.d, mkOwn, D.mut, runF, env0, outD, wipeE, nadd, naddI, add_tup, add_lst, neq, nne, nlt, nle, ngt, nge, eq_bl, ne_bl, ix_tup, ix_lst, Option.bind_some, Option.bind_none, Option.map_some, Option.map_none, List.getElem?_cons_zero, List.getElem?_cons_succ, List.getElem?_nil, List.set_cons_zero, List.set_cons_succ, List.length_cons, List.length_nil, List.map_cons, List.map_nil, List.cons_append, List.nil_append, List.replicate_succ, List.replicate_zero, Nat.reduceAdd, Nat.reduceSub, Nat.sub_zero, if_true, if_false, Bool.false_eq_true, Bool.true_eq_false, decide_true, decide_false, Bool.not_true, Bool.not_false, Nat.zero_add, ite_true, ite_false, reduceIte, decide_eq_true_eq, Option.some.injEq, nmod hp, ndiv hp hp', h]) ⟨s4, rfl⟩
  have h2 := fold_strip p (List.range 12) r
  rw [List.length_range] at h2
  rw [h2] at h1
  exact ⟨s4, h1⟩
def sR (n : Nat) (s : List Nat × Nat) (env : Env) : Prop := ∃ s3 s4, s.2 ≤ n ∧ (∀ p ∈ s.1, 2 ≤ p ∧ p < 45) ∧ s.1.length ≤ 45 ∧ env = [.val (.int (n : Nat)), .own (.lst (dns s.1)), .val (.int (s.2 : Nat)), s3, s4]
theorem fold_len : ∀ (l : List Nat) (s : List Nat × Nat), (l.foldl stepG s).1.length ≤ s.1.length + l.length := by
  intro l
  induction l with
  | nil => exact fun s => Nat.le_refl _
  | cons p l ih =>
    intro s
    rw [List.foldl_cons, List.length_cons]
    refine Nat.le_trans (ih _) ?_
    unfold stepG
    split
    · rw [List.length_append, List.length_singleton]
      omega
    · omega
theorem sills_loop (n : Nat) (hn : n < 1000000) : ∀ (ps : List Nat), (∀ p ∈ ps, 2 ≤ p ∧ p < 45) → ∀ (s : List Nat × Nat) (s3 s4 : Slot), s.2 ≤ n → s.1.length + ps.length ≤ 45 → ∃ s3' s4', (ps.foldl stepG s).2 ≤ n ∧ fLoop (gxN 3) b3_u_law_sills (ps.map fun p => .int (p : Nat)) [.val (.int (n : Nat)), .own (.lst (dns s.1)), .val (.int (s.2 : Nat)), s3, s4] = some (.nx [.val (.int (n : Nat)), .own (.lst (dns (ps.foldl stepG s).1)), .val (.int ((ps.foldl stepG s).2 : Nat)), s3', s4']) := by
  intro ps
  induction ps with
  | nil => exact fun _ s s3 s4 h _ => ⟨s3, s4, h, rfl⟩
  | cons p ps ih =>
    intro hp s s3 s4 hs hl
    have hp0 := hp p (by simp)
    rw [List.length_cons] at hl
    have hz : (dns s.1).length < sizeLine := by
      rw [line_eq, dns, List.length_map]
      omega
    rw [List.map_cons, fLoop, gxN, List.foldl_cons]
    by_cases h0 : 0 < s.2 ∧ s.2 % p = 0
    · obtain ⟨s4', hst⟩ := strip_eq n p s.2 (.own (.lst (dns (s.1 ++ [p])))) (by omega) (by omega) s4
      obtain ⟨t3, t4, h3, h4⟩ := ih (fun x hx => hp x (by simp [hx])) (s.1 ++ [p], strip p 12 s.2) (.val (.int (p : Nat))) s4' (Nat.le_trans (strip_le _ _ _) hs) (by
        rw [List.length_append, List.length_singleton]
        omega)
      have e : stepG s p = (s.1 ++ [p], strip p 12 s.2) := if_pos h0
      rw [e]
      refine ⟨t3, t4, h3, ?_⟩
      have hr : rgD 0 ((12 : Nat) : Int) = _ := rg_nat (n := 12) (by decide)
      simp only [b3_u_law_sills, fxSeq, fxSetS, fxSetN, fxIf, fxRet, fxRetN, fxNil, fxBrk, fxCnt, fxFz, frzL, frz1, List.foldl_cons, List.foldl_nil, fxApp, fxExt, fxAug, fxSetIx, fxAsg, fxFor, fxWh, exB, exV, exC, exN, ex1, ex2, exCall, exTup, exLst, exDic, exIf, exAnd, exOr, exNot, exCh, exIsi, exSl, exPart, exLc, evs, txB, txD, txNot, txAnd, txOr, txY, dBool, dTru, dAbs, dInt, dLen, dIsi, is_non, isn_non, non_int, non_bl, non_str, non_tup, non_lst, non_non, gxN, gxT, gxCons, gxNil, ixR1, ixR2, ixV, seqD, Slot.d, mkOwn, D.mut, runF, env0, outD, wipeE, nadd, naddI, add_tup, add_lst, neq, nne, nlt, nle, ngt, nge, eq_bl, ne_bl, ix_tup, ix_lst, Option.bind_some, Option.bind_none, Option.map_some, Option.map_none, List.getElem?_cons_zero, List.getElem?_cons_succ, List.getElem?_nil, List.set_cons_zero, List.set_cons_succ, List.length_cons, List.length_nil, List.map_cons, List.map_nil, List.cons_append, List.nil_append, List.replicate_succ, List.replicate_zero, Nat.reduceAdd, Nat.reduceSub, Nat.sub_zero, if_true, if_false, Bool.false_eq_true, Bool.true_eq_false, decide_true, decide_false, Bool.not_true, Bool.not_false, Nat.zero_add, ite_true, ite_false, reduceIte, decide_eq_true_eq, Option.some.injEq, nmod (show 0 < p by omega), h0.1, h0.2, hz, exV, dns_app, hr, hst]
      exact h4
    · have e : stepG s p = s := if_neg h0
      rw [e]
      obtain ⟨t3, t4, h3, h4⟩ := ih (fun x hx => hp x (by simp [hx])) s (.val (.int (p : Nat))) s4 hs (by omega)
      refine ⟨t3, t4, h3, ?_⟩
      by_cases h1 : 0 < s.2
      · have h2 : ¬ s.2 % p = 0 := fun z => h0 ⟨h1, z⟩
        simp only [b3_u_law_sills, fxSeq, fxSetS, fxSetN, fxIf, fxRet, fxRetN, fxNil, fxBrk, fxCnt, fxFz, frzL, frz1, List.foldl_cons, List.foldl_nil, fxApp, fxExt, fxAug, fxSetIx, fxAsg, fxFor, fxWh, exB, exV, exC, exN, ex1, ex2, exCall, exTup, exLst, exDic, exIf, exAnd, exOr, exNot, exCh, exIsi, exSl, exPart, exLc, evs, txB, txD, txNot, txAnd, txOr, txY, dBool, dTru, dAbs, dInt, dLen, dIsi, is_non, isn_non, non_int, non_bl, non_str, non_tup, non_lst, non_non, gxN, gxT, gxCons, gxNil, ixR1, ixR2, ixV, seqD, Slot.d, mkOwn, D.mut, runF, env0, outD, wipeE, nadd, naddI, add_tup, add_lst, neq, nne, nlt, nle, ngt, nge, eq_bl, ne_bl, ix_tup, ix_lst, Option.bind_some, Option.bind_none, Option.map_some, Option.map_none, List.getElem?_cons_zero, List.getElem?_cons_succ, List.getElem?_nil, List.set_cons_zero, List.set_cons_succ, List.length_cons, List.length_nil, List.map_cons, List.map_nil, List.cons_append, List.nil_append, List.replicate_succ, List.replicate_zero, Nat.reduceAdd, Nat.reduceSub, Nat.sub_zero, if_true, if_false, Bool.false_eq_true, Bool.true_eq_false, decide_true, decide_false, Bool.not_true, Bool.not_false, Nat.zero_add, ite_true, ite_false, reduceIte, decide_eq_true_eq, Option.some.injEq, nmod (show 0 < p by omega), h1, h2]
        exact h4
      · simp only [b3_u_law_sills, fxSeq, fxSetS, fxSetN, fxIf, fxRet, fxRetN, fxNil, fxBrk, fxCnt, fxFz, frzL, frz1, List.foldl_cons, List.foldl_nil, fxApp, fxExt, fxAug, fxSetIx, fxAsg, fxFor, fxWh, exB, exV, exC, exN, ex1, ex2, exCall, exTup, exLst, exDic, exIf, exAnd, exOr, exNot, exCh, exIsi, exSl, exPart, exLc, evs, txB, txD, txNot, txAnd, txOr, txY, dBool, dTru, dAbs, dInt, dLen, dIsi, is_non, isn_non, non_int, non_bl, non_str, non_tup, non_lst, non_non, gxN, gxT, gxCons, gxNil, ixR1, ixR2, ixV, seqD, Slot.d, mkOwn, D.mut, runF, env0, outD, wipeE, nadd, naddI, add_tup, add_lst, neq, nne, nlt, nle, ngt, nge, eq_bl, ne_bl, ix_tup, ix_lst, Option.bind_some, Option.bind_none, Option.map_some, Option.map_none, List.getElem?_cons_zero, List.getElem?_cons_succ, List.getElem?_nil, List.set_cons_zero, List.set_cons_succ, List.length_cons, List.length_nil, List.map_cons, List.map_nil, List.cons_append, List.nil_append, List.replicate_succ, List.replicate_zero, Nat.reduceAdd, Nat.reduceSub, Nat.sub_zero, if_true, if_false, Bool.false_eq_true, Bool.true_eq_false, decide_true, decide_false, Bool.not_true, Bool.not_false, Nat.zero_add, ite_true, ite_false, reduceIte, decide_eq_true_eq, Option.some.injEq, h1]
        exact h4
theorem fold_mem (n : Nat) : ∀ (l : List Nat) (s : List Nat × Nat), (∀ p ∈ l, 2 ≤ p ∧ p < 45) → (∀ p ∈ s.1, 0 < p ∧ p < 1073741824) → ∀ p ∈ (l.foldl stepG s).1, 0 < p ∧ p < 1073741824 := by
  intro l
  induction l with
  | nil => exact fun s _ h => h
  | cons p l ih =>
    intro s hl hs
    rw [List.foldl_cons]
    refine ih _ (fun x hx => hl x (by simp [hx])) ?_
    unfold stepG
    split
    · intro q hq
      rcases List.mem_append.mp hq with hq | hq
      · exact hs q hq
      · rw [List.mem_singleton.mp hq]
        have := hl p (by simp)
        omega
    · exact hs
theorem sills_eq (n : Nat) (hn : n < 1000000) : φ_u_law_sills [.int (n : Nat)] = some (.lst (dns (sillsN n))) := by
  have hps : ∀ p ∈ List.range' 2 43, 2 ≤ p ∧ p < 45 := fun p hp => by
    obtain ⟨i, hi, rfl⟩ := List.mem_range'.mp hp
    omega
  obtain ⟨s3, s4, h1, h2⟩ := sills_loop n hn (List.range' 2 43) hps ([], n) .no .no (Nat.le_refl _) (by
    rw [List.length_range']
    show 0 + 43 ≤ 45
    decide)
  have hm := fold_mem n (List.range' 2 43) ([], n) hps (fun p hp => absurd hp (by simp))
  have hlen := fold_len (List.range' 2 43) ([], n)
  rw [List.length_range'] at hlen
  have hr : rgD ((2 : Nat) : Int) ((45 : Nat) : Int) = some ((List.range' 2 43).map fun i => .int (i : Nat)) := rg_nat2 (by decide) (by decide)
  unfold sillsN
  generalize hs : (List.range' 2 43).foldl stepG ([], n) = s at *
  have fin : ∀ (l : List Nat) (s2 s3 s4 : Slot), (∀ p ∈ l, 0 < p ∧ p < 1073741824) → lcGo (gxN 3) b1_u_law_sills (exV 3) [.val (.int (n : Nat)), .val (.lst (dns l)), s2, .no, s4] (dns l) = some (dns (l.filter fun p => decide (p % 4 = 3) && oddT n p)) := fun l s2 s3 s4 hl => by
    refine lc_fm (c := fun p : Nat => D.int (p : Nat)) (y := fun p : Nat => D.int (p : Nat)) fun p hp => ⟨_, rfl, ?_, fun _ => rfl⟩
    simp only [b1_u_law_sills, fxSeq, fxSetS, fxSetN, fxIf, fxRet, fxRetN, fxNil, fxBrk, fxCnt, fxFz, frzL, frz1, List.foldl_cons, List.foldl_nil, fxApp, fxExt, fxAug, fxSetIx, fxAsg, fxFor, fxWh, exB, exV, exC, exN, ex1, ex2, exCall, exTup, exLst, exDic, exIf, exAnd, exOr, exNot, exCh, exIsi, exSl, exPart, exLc, evs, txB, txD, txNot, txAnd, txOr, txY, dBool, dTru, dAbs, dInt, dLen, dIsi, is_non, isn_non, non_int, non_bl, non_str, non_tup, non_lst, non_non, gxN, gxT, gxCons, gxNil, ixR1, ixR2, ixV, seqD, Slot.d, mkOwn, D.mut, runF, env0, outD, wipeE, nadd, naddI, add_tup, add_lst, neq, nne, nlt, nle, ngt, nge, eq_bl, ne_bl, ix_tup, ix_lst, Option.bind_some, Option.bind_none, Option.map_some, Option.map_none, List.getElem?_cons_zero, List.getElem?_cons_succ, List.getElem?_nil, List.set_cons_zero, List.set_cons_succ, List.length_cons, List.length_nil, List.map_cons, List.map_nil, List.cons_append, List.nil_append, List.replicate_succ, List.replicate_zero, Nat.reduceAdd, Nat.reduceSub, Nat.sub_zero, if_true, if_false, Bool.false_eq_true, Bool.true_eq_false, decide_true, decide_false, Bool.not_true, Bool.not_false, Nat.zero_add, ite_true, ite_false, reduceIte, decide_eq_true_eq, Option.some.injEq, nmod (b := 4) (by decide), odd_eq n p (hl p hp).1 (hl p hp).2]
    by_cases hq : p % 4 = 3 <;> simp [hq]
  have hz : (dns s.1).length < sizeLine := by
    rw [line_eq, dns, List.length_map]
    simp only [List.length_nil] at hlen
    omega
  have hz' : s.1.length < sizeLine := by rwa [dns, List.length_map] at hz
  have h2' : fLoop (gxN 3) b3_u_law_sills ((List.range' 2 43).map fun i => .int (i : Nat)) [.val (.int (n : Nat)), .own (.lst []), .val (.int (n : Nat)), .no, .no] = _ := h2
  by_cases h : 1 < s.2
  · have hf := fin (s.1 ++ [s.2]) (.val (.int (s.2 : Nat))) .no s4 (fun p hp => by
      rcases List.mem_append.mp hp with hp | hp
      · exact hm p hp
      · rw [List.mem_singleton.mp hp]
        omega)
    simp only [φ_u_law_sills, fx_u_law_sills, fxSeq, fxSetS, fxSetN, fxIf, fxRet, fxRetN, fxNil, fxBrk, fxCnt, fxFz, frzL, frz1, List.foldl_cons, List.foldl_nil, fxApp, fxExt, fxAug, fxSetIx, fxAsg, fxFor, fxWh, exB, exV, exC, exN, ex1, ex2, exCall, exTup, exLst, exDic, exIf, exAnd, exOr, exNot, exCh, exIsi, exSl, exPart, exLc, evs, txB, txD, txNot, txAnd, txOr, txY, dBool, dTru, dAbs, dInt, dLen, dIsi, is_non, isn_non, non_int, non_bl, non_str, non_tup, non_lst, non_non, gxN, gxT, gxCons, gxNil, ixR1, ixR2, ixV, seqD, Slot.d, mkOwn, D.mut, runF, env0, outD, wipeE, nadd, naddI, add_tup, add_lst, neq, nne, nlt, nle, ngt, nge, eq_bl, ne_bl, ix_tup, ix_lst, Option.bind_some, Option.bind_none, Option.map_some, Option.map_none, List.getElem?_cons_zero, List.getElem?_cons_succ, List.getElem?_nil, List.set_cons_zero, List.set_cons_succ, List.length_cons, List.length_nil, List.map_cons, List.map_nil, List.cons_append, List.nil_append, List.replicate_succ, List.replicate_zero, Nat.reduceAdd, Nat.reduceSub, Nat.sub_zero, if_true, if_false, Bool.false_eq_true, Bool.true_eq_false, decide_true, decide_false, Bool.not_true, Bool.not_false, Nat.zero_add, ite_true, ite_false, reduceIte, decide_eq_true_eq, Option.some.injEq, hr, h2', h, hz, dns_app, hf]
  · have hf := fin s.1 (.val (.int (s.2 : Nat))) .no s4 hm
    simp only [φ_u_law_sills, fx_u_law_sills, fxSeq, fxSetS, fxSetN, fxIf, fxRet, fxRetN, fxNil, fxBrk, fxCnt, fxFz, frzL, frz1, List.foldl_cons, List.foldl_nil, fxApp, fxExt, fxAug, fxSetIx, fxAsg, fxFor, fxWh, exB, exV, exC, exN, ex1, ex2, exCall, exTup, exLst, exDic, exIf, exAnd, exOr, exNot, exCh, exIsi, exSl, exPart, exLc, evs, txB, txD, txNot, txAnd, txOr, txY, dBool, dTru, dAbs, dInt, dLen, dIsi, is_non, isn_non, non_int, non_bl, non_str, non_tup, non_lst, non_non, gxN, gxT, gxCons, gxNil, ixR1, ixR2, ixV, seqD, Slot.d, mkOwn, D.mut, runF, env0, outD, wipeE, nadd, naddI, add_tup, add_lst, neq, nne, nlt, nle, ngt, nge, eq_bl, ne_bl, ix_tup, ix_lst, Option.bind_some, Option.bind_none, Option.map_some, Option.map_none, List.getElem?_cons_zero, List.getElem?_cons_succ, List.getElem?_nil, List.set_cons_zero, List.set_cons_succ, List.length_cons, List.length_nil, List.map_cons, List.map_nil, List.cons_append, List.nil_append, List.replicate_succ, List.replicate_zero, Nat.reduceAdd, Nat.reduceSub, Nat.sub_zero, if_true, if_false, Bool.false_eq_true, Bool.true_eq_false, decide_true, decide_false, Bool.not_true, Bool.not_false, Nat.zero_add, ite_true, ite_false, reduceIte, decide_eq_true_eq, Option.some.injEq, hr, h2', h, hf]

/-! ### primes -/
def primeL : Nat → Nat → Nat → Bool
  | 0, _, _ => true
  | k + 1, p, d => if d * d ≤ p then (if p % d = 0 then false else primeL k p (d + 1)) else true
theorem prime_loop (p : Nat) (hp : p < 2025) : ∀ (k d m : Nat), 0 < d → d ≤ 46 → 46 ≤ d + k → k < m → ∃ s, wLoop b2_is_prime b1_is_prime m [.val (.int (p : Nat)), .val (.int (d : Nat))] = some (if primeL k p d = true then .nx [.val (.int (p : Nat)), s] else .ret (.bl false)) := by
  intro k
  induction k with
  | zero =>
    intro d m h0 h1 h2 hm
    obtain ⟨m, rfl⟩ : ∃ j, m = j + 1 := ⟨m - 1, by omega⟩
    have hd : d = 46 := by omega
    subst hd
    have hc : ¬ 46 * 46 ≤ p := by omega
    refine ⟨.val (.int ((46 : Nat) : Int)), ?_⟩
    simp only [wLoop, b2_is_prime, fxSeq, fxSetS, fxSetN, fxIf, fxRet, fxRetN, fxNil, fxBrk, fxCnt, fxFz, frzL, frz1, List.foldl_cons, List.foldl_nil, fxApp, fxExt, fxAug, fxSetIx, fxAsg, fxFor, fxWh, exB, exV, exC, exN, ex1, ex2, exCall, exTup, exLst, exDic, exIf, exAnd, exOr, exNot, exCh, exIsi, exSl, exPart, exLc, evs, txB, txD, txNot, txAnd, txOr, txY, dBool, dTru, dAbs, dInt, dLen, dIsi, is_non, isn_non, non_int, non_bl, non_str, non_tup, non_lst, non_non, gxN, gxT, gxCons, gxNil, ixR1, ixR2, ixV, seqD, Slot.d, mkOwn, D.mut, runF, env0, outD, wipeE, nadd, naddI, add_tup, add_lst, neq, nne, nlt, nle, ngt, nge, eq_bl, ne_bl, ix_tup, ix_lst, Option.bind_some, Option.bind_none, Option.map_some, Option.map_none, List.getElem?_cons_zero, List.getElem?_cons_succ, List.getElem?_nil, List.set_cons_zero, List.set_cons_succ, List.length_cons, List.length_nil, List.map_cons, List.map_nil, List.cons_append, List.nil_append, List.replicate_succ, List.replicate_zero, Nat.reduceAdd, Nat.reduceSub, Nat.sub_zero, if_true, if_false, Bool.false_eq_true, Bool.true_eq_false, decide_true, decide_false, Bool.not_true, Bool.not_false, Nat.zero_add, ite_true, ite_false, reduceIte, decide_eq_true_eq, Option.some.injEq, nmul (a := 46) (by omega), hc, primeL]
  | succ k ih =>
    intro d m h0 h1 h2 hm
    obtain ⟨m, rfl⟩ : ∃ j, m = j + 1 := ⟨m - 1, by omega⟩
    by_cases hc : d * d ≤ p
    · have hd : d < 46 := by
        rcases Nat.lt_or_ge d 46 with h | h
        · exact h
        · have := Nat.mul_le_mul h h
          omega
      by_cases hq : p % d = 0
      · refine ⟨.no, ?_⟩
        simp only [wLoop, b2_is_prime, b1_is_prime, fxSeq, fxSetS, fxSetN, fxIf, fxRet, fxRetN, fxNil, fxBrk, fxCnt, fxFz, frzL, frz1, List.foldl_cons, List.foldl_nil, fxApp, fxExt, fxAug, fxSetIx, fxAsg, fxFor, fxWh, exB, exV, exC, exN, ex1, ex2, exCall, exTup, exLst, exDic, exIf, exAnd, exOr, exNot, exCh, exIsi, exSl, exPart, exLc, evs, txB, txD, txNot, txAnd, txOr, txY, dBool, dTru, dAbs, dInt, dLen, dIsi, is_non, isn_non, non_int, non_bl, non_str, non_tup, non_lst, non_non, gxN, gxT, gxCons, gxNil, ixR1, ixR2, ixV, seqD, Slot.d, mkOwn, D.mut, runF, env0, outD, wipeE, nadd, naddI, add_tup, add_lst, neq, nne, nlt, nle, ngt, nge, eq_bl, ne_bl, ix_tup, ix_lst, Option.bind_some, Option.bind_none, Option.map_some, Option.map_none, List.getElem?_cons_zero, List.getElem?_cons_succ, List.getElem?_nil, List.set_cons_zero, List.set_cons_succ, List.length_cons, List.length_nil, List.map_cons, List.map_nil, List.cons_append, List.nil_append, List.replicate_succ, List.replicate_zero, Nat.reduceAdd, Nat.reduceSub, Nat.sub_zero, if_true, if_false, Bool.false_eq_true, Bool.true_eq_false, decide_true, decide_false, Bool.not_true, Bool.not_false, Nat.zero_add, ite_true, ite_false, reduceIte, decide_eq_true_eq, Option.some.injEq, nmul (a := d) (by omega), nmod h0, hc, hq, primeL]
      · obtain ⟨s, hs⟩ := ih (d + 1) m (by omega) (by omega) (by omega) (by omega)
        refine ⟨s, ?_⟩
        simp only [wLoop, b2_is_prime, b1_is_prime, fxSeq, fxSetS, fxSetN, fxIf, fxRet, fxRetN, fxNil, fxBrk, fxCnt, fxFz, frzL, frz1, List.foldl_cons, List.foldl_nil, fxApp, fxExt, fxAug, fxSetIx, fxAsg, fxFor, fxWh, exB, exV, exC, exN, ex1, ex2, exCall, exTup, exLst, exDic, exIf, exAnd, exOr, exNot, exCh, exIsi, exSl, exPart, exLc, evs, txB, txD, txNot, txAnd, txOr, txY, dBool, dTru, dAbs, dInt, dLen, dIsi, is_non, isn_non, non_int, non_bl, non_str, non_tup, non_lst, non_non, gxN, gxT, gxCons, gxNil, ixR1, ixR2, ixV, seqD, Slot.d, mkOwn, D.mut, runF, env0, outD, wipeE, nadd, naddI, add_tup, add_lst, neq, nne, nlt, nle, ngt, nge, eq_bl, ne_bl, ix_tup, ix_lst, Option.bind_some, Option.bind_none, Option.map_some, Option.map_none, List.getElem?_cons_zero, List.getElem?_cons_succ, List.getElem?_nil, List.set_cons_zero, List.set_cons_succ, List.length_cons, List.length_nil, List.map_cons, List.map_nil, List.cons_append, List.nil_append, List.replicate_succ, List.replicate_zero, Nat.reduceAdd, Nat.reduceSub, Nat.sub_zero, if_true, if_false, Bool.false_eq_true, Bool.true_eq_false, decide_true, decide_false, Bool.not_true, Bool.not_false, Nat.zero_add, ite_true, ite_false, reduceIte, decide_eq_true_eq, Option.some.injEq, nmul (a := d) (by omega), nmod h0, hc, hq, primeL]
        exact hs
    · refine ⟨.val (.int (d : Nat)), ?_⟩
      simp only [wLoop, b2_is_prime, b1_is_prime, fxSeq, fxSetS, fxSetN, fxIf, fxRet, fxRetN, fxNil, fxBrk, fxCnt, fxFz, frzL, frz1, List.foldl_cons, List.foldl_nil, fxApp, fxExt, fxAug, fxSetIx, fxAsg, fxFor, fxWh, exB, exV, exC, exN, ex1, ex2, exCall, exTup, exLst, exDic, exIf, exAnd, exOr, exNot, exCh, exIsi, exSl, exPart, exLc, evs, txB, txD, txNot, txAnd, txOr, txY, dBool, dTru, dAbs, dInt, dLen, dIsi, is_non, isn_non, non_int, non_bl, non_str, non_tup, non_lst, non_non, gxN, gxT, gxCons, gxNil, ixR1, ixR2, ixV, seqD, Slot.d, mkOwn, D.mut, runF, env0, outD, wipeE, nadd, naddI, add_tup, add_lst, neq, nne, nlt, nle, ngt, nge, eq_bl, ne_bl, ix_tup, ix_lst, Option.bind_some, Option.bind_none, Option.map_some, Option.map_none, List.getElem?_cons_zero, List.getElem?_cons_succ, List.getElem?_nil, List.set_cons_zero, List.set_cons_succ, List.length_cons, List.length_nil, List.map_cons, List.map_nil, List.cons_append, List.nil_append, List.replicate_succ, List.replicate_zero, Nat.reduceAdd, Nat.reduceSub, Nat.sub_zero, if_true, if_false, Bool.false_eq_true, Bool.true_eq_false, decide_true, decide_false, Bool.not_true, Bool.not_false, Nat.zero_add, ite_true, ite_false, reduceIte, decide_eq_true_eq, Option.some.injEq, nmul (a := d) (by omega), hc, primeL]
theorem prime_eq (p : Nat) (hp : p < 2025) : φ_is_prime [.int (p : Nat)] = some (.bl (primeL 44 p 2)) := by
  obtain ⟨s, hs⟩ := prime_loop p hp 44 2 10000 (by decide) (by decide) (by decide) (by decide)
  simp only [φ_is_prime, fx_is_prime, fxSeq, fxSetS, fxSetN, fxIf, fxRet, fxRetN, fxNil, fxBrk, fxCnt, fxFz, frzL, frz1, List.foldl_cons, List.foldl_nil, fxApp, fxExt, fxAug, fxSetIx, fxAsg, fxFor, fxWh, exB, exV, exC, exN, ex1, ex2, exCall, exTup, exLst, exDic, exIf, exAnd, exOr, exNot, exCh, exIsi, exSl, exPart, exLc, evs, txB, txD, txNot, txAnd, txOr, txY, dBool, dTru, dAbs, dInt, dLen, dIsi, is_non, isn_non, non_int, non_bl, non_str, non_tup, non_lst, non_non, gxN, gxT, gxCons, gxNil, ixR1, ixR2, ixV, seqD, Slot.d, mkOwn, D.mut, runF, env0, outD, wipeE, nadd, naddI, add_tup, add_lst, neq, nne, nlt, nle, ngt, nge, eq_bl, ne_bl, ix_tup, ix_lst, Option.bind_some, Option.bind_none, Option.map_some, Option.map_none, List.getElem?_cons_zero, List.getElem?_cons_succ, List.getElem?_nil, List.set_cons_zero, List.set_cons_succ, List.length_cons, List.length_nil, List.map_cons, List.map_nil, List.cons_append, List.nil_append, List.replicate_succ, List.replicate_zero, Nat.reduceAdd, Nat.reduceSub, Nat.sub_zero, if_true, if_false, Bool.false_eq_true, Bool.true_eq_false, decide_true, decide_false, Bool.not_true, Bool.not_false, Nat.zero_add, ite_true, ite_false, reduceIte, decide_eq_true_eq, Option.some.injEq, hs]
  cases primeL 44 p 2 <;> rfl
/-- the law's test -/
def triesN (p : Nat) : Bool := (List.range' 2 43).all fun d => !(decide (d < p) && decide (p % d = 0))
theorem tries_loop (n p : Nat) : ∀ (ds : List Nat), (∀ d ∈ ds, 0 < d) → ∀ s : Slot, ∃ s', fLoop (gxN 2) b1_u_law_sill (ds.map fun d => .int (d : Nat)) [.val (.int (n : Nat)), .val (.int (p : Nat)), s] = some (if (ds.all fun d => !(decide (d < p) && decide (p % d = 0))) = true then .nx [.val (.int (n : Nat)), .val (.int (p : Nat)), s'] else .ret (.bl false)) := by
  intro ds
  induction ds with
  | nil => exact fun _ s => ⟨s, rfl⟩
  | cons d ds ih =>
    intro hd s
    obtain ⟨s', ih⟩ := ih (fun x hx => hd x (by simp [hx])) (.val (.int (d : Nat)))
    refine ⟨s', ?_⟩
    have h0 := hd d (by simp)
    rw [List.map_cons, fLoop, gxN, List.all_cons]
    by_cases h : d < p
    · by_cases hq : p % d = 0
      · simp only [b1_u_law_sill, fxSeq, fxSetS, fxSetN, fxIf, fxRet, fxRetN, fxNil, fxBrk, fxCnt, fxFz, frzL, frz1, List.foldl_cons, List.foldl_nil, fxApp, fxExt, fxAug, fxSetIx, fxAsg, fxFor, fxWh, exB, exV, exC, exN, ex1, ex2, exCall, exTup, exLst, exDic, exIf, exAnd, exOr, exNot, exCh, exIsi, exSl, exPart, exLc, evs, txB, txD, txNot, txAnd, txOr, txY, dBool, dTru, dAbs, dInt, dLen, dIsi, is_non, isn_non, non_int, non_bl, non_str, non_tup, non_lst, non_non, gxN, gxT, gxCons, gxNil, ixR1, ixR2, ixV, seqD, Slot.d, mkOwn, D.mut, runF, env0, outD, wipeE, nadd, naddI, add_tup, add_lst, neq, nne, nlt, nle, ngt, nge, eq_bl, ne_bl, ix_tup, ix_lst, Option.bind_some, Option.bind_none, Option.map_some, Option.map_none, List.getElem?_cons_zero, List.getElem?_cons_succ, List.getElem?_nil, List.set_cons_zero, List.set_cons_succ, List.length_cons, List.length_nil, List.map_cons, List.map_nil, List.cons_append, List.nil_append, List.replicate_succ, List.replicate_zero, Nat.reduceAdd, Nat.reduceSub, Nat.sub_zero, if_true, if_false, Bool.false_eq_true, Bool.true_eq_false, decide_true, decide_false, Bool.not_true, Bool.not_false, Nat.zero_add, ite_true, ite_false, reduceIte, decide_eq_true_eq, Option.some.injEq, nmod h0, h, hq, Bool.and_self, Bool.false_and]
      · simp only [b1_u_law_sill, fxSeq, fxSetS, fxSetN, fxIf, fxRet, fxRetN, fxNil, fxBrk, fxCnt, fxFz, frzL, frz1, List.foldl_cons, List.foldl_nil, fxApp, fxExt, fxAug, fxSetIx, fxAsg, fxFor, fxWh, exB, exV, exC, exN, ex1, ex2, exCall, exTup, exLst, exDic, exIf, exAnd, exOr, exNot, exCh, exIsi, exSl, exPart, exLc, evs, txB, txD, txNot, txAnd, txOr, txY, dBool, dTru, dAbs, dInt, dLen, dIsi, is_non, isn_non, non_int, non_bl, non_str, non_tup, non_lst, non_non, gxN, gxT, gxCons, gxNil, ixR1, ixR2, ixV, seqD, Slot.d, mkOwn, D.mut, runF, env0, outD, wipeE, nadd, naddI, add_tup, add_lst, neq, nne, nlt, nle, ngt, nge, eq_bl, ne_bl, ix_tup, ix_lst, Option.bind_some, Option.bind_none, Option.map_some, Option.map_none, List.getElem?_cons_zero, List.getElem?_cons_succ, List.getElem?_nil, List.set_cons_zero, List.set_cons_succ, List.length_cons, List.length_nil, List.map_cons, List.map_nil, List.cons_append, List.nil_append, List.replicate_succ, List.replicate_zero, Nat.reduceAdd, Nat.reduceSub, Nat.sub_zero, if_true, if_false, Bool.false_eq_true, Bool.true_eq_false, decide_true, decide_false, Bool.not_true, Bool.not_false, Nat.zero_add, ite_true, ite_false, reduceIte, decide_eq_true_eq, Option.some.injEq, nmod h0, h, hq, Bool.and_false, Bool.true_and]
        exact ih
    · simp only [b1_u_law_sill, fxSeq, fxSetS, fxSetN, fxIf, fxRet, fxRetN, fxNil, fxBrk, fxCnt, fxFz, frzL, frz1, List.foldl_cons, List.foldl_nil, fxApp, fxExt, fxAug, fxSetIx, fxAsg, fxFor, fxWh, exB, exV, exC, exN, ex1, ex2, exCall, exTup, exLst, exDic, exIf, exAnd, exOr, exNot, exCh, exIsi, exSl, exPart, exLc, evs, txB, txD, txNot, txAnd, txOr, txY, dBool, dTru, dAbs, dInt, dLen, dIsi, is_non, isn_non, non_int, non_bl, non_str, non_tup, non_lst, non_non, gxN, gxT, gxCons, gxNil, ixR1, ixR2, ixV, seqD, Slot.d, mkOwn, D.mut, runF, env0, outD, wipeE, nadd, naddI, add_tup, add_lst, neq, nne, nlt, nle, ngt, nge, eq_bl, ne_bl, ix_tup, ix_lst, Option.bind_some, Option.bind_none, Option.map_some, Option.map_none, List.getElem?_cons_zero, List.getElem?_cons_succ, List.getElem?_nil, List.set_cons_zero, List.set_cons_succ, List.length_cons, List.length_nil, List.map_cons, List.map_nil, List.cons_append, List.nil_append, List.replicate_succ, List.replicate_zero, Nat.reduceAdd, Nat.reduceSub, Nat.sub_zero, if_true, if_false, Bool.false_eq_true, Bool.true_eq_false, decide_true, decide_false, Bool.not_true, Bool.not_false, Nat.zero_add, ite_true, ite_false, reduceIte, decide_eq_true_eq, Option.some.injEq, nmod h0, h, Bool.false_and, Bool.true_and]
      exact ih
theorem primes_same : ((List.range 2025).all fun p => decide (p < 2) || (primeL 44 p 2 == triesN p)) = true := by decide +kernel
theorem prime_tries (p : Nat) (hp : p < 2025) (h2 : 2 ≤ p) : primeL 44 p 2 = triesN p := by
  have := List.all_eq_true.mp primes_same p (List.mem_range.mpr hp)
  simp only [Bool.or_eq_true, decide_eq_true_eq, beq_iff_eq] at this
  rcases this with h | h
  · omega
  · exact h

/-! ### sills -/
def sillB (n q : Nat) : Bool := decide (n % q = 0) && (decide (q % 4 = 3) && (triesN q && oddT n q))
theorem val_loop (p : Nat) (hp : 2 ≤ p) (hp' : p < 1073741824) : ∀ (k r t m : Nat), 0 < r → r < 2 ^ k → k < m → ∃ s, wLoop b2_is_sill b1_is_sill m [.val (.int (r : Nat)), .val (.int (p : Nat)), .val (.int (t : Nat))] = some (.nx [s, .val (.int (p : Nat)), .val (.int ((wv p k r t : Nat) : Int))]) := by
  intro k
  induction k with
  | zero =>
    intro r t m h0 h1
    omega
  | succ k ih =>
    intro r t m h0 h1 hm
    obtain ⟨m, rfl⟩ : ∃ j, m = j + 1 := ⟨m - 1, by omega⟩
    by_cases hq : r % p = 0
    · have h3 : 0 < r / p := Nat.div_pos (Nat.le_of_dvd h0 (Nat.dvd_of_mod_eq_zero hq)) (by omega)
      have h4 : r / p < 2 ^ k := by
        have : r / p ≤ r / 2 := Nat.div_le_div_left hp (by decide)
        rw [Nat.pow_succ] at h1
        omega
      obtain ⟨s, hs⟩ := ih (r / p) (t + 1) m h3 h4 (by omega)
      refine ⟨s, ?_⟩
      simp only [wLoop, b2_is_sill, b1_is_sill, fxSeq, fxSetS, fxSetN, fxIf, fxRet, fxRetN, fxNil, fxBrk, fxCnt, fxFz, frzL, frz1, List.foldl_cons, List.foldl_nil, fxApp, fxExt, fxAug, fxSetIx, fxAsg, fxFor, fxWh, exB, exV, exC, exN, ex1, ex2, exCall, exTup, exLst, exDic, exIf, exAnd, exOr, exNot, exCh, exIsi, exSl, exPart, exLc, evs, txB, txD, txNot, txAnd, txOr, txY, dBool, dTru, dAbs, dInt, dLen, dIsi, is_non, isn_non, non_int, non_bl, non_str, non_tup, non_lst, non_non, gxN, gxT, gxCons, gxNil, ixR1, ixR2, ixV, seqD, Slot.d, mkOwn, D.mut, runF, env0, outD, wipeE, nadd, naddI, add_tup, add_lst, neq, nne, nlt, nle, ngt, nge, eq_bl, ne_bl, ix_tup, ix_lst, Option.bind_some, Option.bind_none, Option.map_some, Option.map_none, List.getElem?_cons_zero, List.getElem?_cons_succ, List.getElem?_nil, List.set_cons_zero, List.set_cons_succ, List.length_cons, List.length_nil, List.map_cons, List.map_nil, List.cons_append, List.nil_append, List.replicate_succ, List.replicate_zero, Nat.reduceAdd, Nat.reduceSub, Nat.sub_zero, if_true, if_false, Bool.false_eq_true, Bool.true_eq_false, decide_true, decide_false, Bool.not_true, Bool.not_false, Nat.zero_add, ite_true, ite_false, reduceIte, decide_eq_true_eq, Option.some.injEq, nmod (show 0 < p by omega), ndivI (show 0 < p by omega) hp', hq, wv]
      exact hs
    · refine ⟨.val (.int (r : Nat)), ?_⟩
      simp only [wLoop, b2_is_sill, b1_is_sill, fxSeq, fxSetS, fxSetN, fxIf, fxRet, fxRetN, fxNil, fxBrk, fxCnt, fxFz, frzL, frz1, List.foldl_cons, List.foldl_nil, fxApp, fxExt, fxAug, fxSetIx, fxAsg, fxFor, fxWh, exB, exV, exC, exN, ex1, ex2, exCall, exTup, exLst, exDic, exIf, exAnd, exOr, exNot, exCh, exIsi, exSl, exPart, exLc, evs, txB, txD, txNot, txAnd, txOr, txY, dBool, dTru, dAbs, dInt, dLen, dIsi, is_non, isn_non, non_int, non_bl, non_str, non_tup, non_lst, non_non, gxN, gxT, gxCons, gxNil, ixR1, ixR2, ixV, seqD, Slot.d, mkOwn, D.mut, runF, env0, outD, wipeE, nadd, naddI, add_tup, add_lst, neq, nne, nlt, nle, ngt, nge, eq_bl, ne_bl, ix_tup, ix_lst, Option.bind_some, Option.bind_none, Option.map_some, Option.map_none, List.getElem?_cons_zero, List.getElem?_cons_succ, List.getElem?_nil, List.set_cons_zero, List.set_cons_succ, List.length_cons, List.length_nil, List.map_cons, List.map_nil, List.cons_append, List.nil_append, List.replicate_succ, List.replicate_zero, Nat.reduceAdd, Nat.reduceSub, Nat.sub_zero, if_true, if_false, Bool.false_eq_true, Bool.true_eq_false, decide_true, decide_false, Bool.not_true, Bool.not_false, Nat.zero_add, ite_true, ite_false, reduceIte, decide_eq_true_eq, Option.some.injEq, nmod (show 0 < p by omega), hq, wv]
theorem sill_nat (n q : Nat) (hn : n < 2025) (hq : 2 ≤ q) (hqn : q ≤ n) : φ_is_sill [.int (n : Nat), .int (q : Nat)] = some (.bl (sillB n q)) ∧ φ_u_law_sill [.int (n : Nat), .int (q : Nat)] = some (.bl (sillB n q)) := by
  have hn1 : ¬ n < 1 := by omega
  have hn0 : ¬ n = 0 := by omega
  unfold sillB
  by_cases h4 : q % 4 = 3
  · have hq3 : ¬ q < 3 := by omega
    have hqn' : ¬ n < q := by omega
    by_cases hd : n % q = 0
    · have hpr := prime_eq q (by omega)
      rw [prime_tries q (by omega) hq] at hpr
      obtain ⟨s, hl⟩ := tries_loop n q (List.range' 2 43) (fun d hd => by
        obtain ⟨i, hi, rfl⟩ := List.mem_range'.mp hd
        omega) .no
      have hl : fLoop (gxN 2) b1_u_law_sill ((List.range' 2 43).map fun d => .int (d : Nat)) [.val (.int (n : Nat)), .val (.int (q : Nat)), .no] = some (if triesN q = true then .nx [.val (.int (n : Nat)), .val (.int (q : Nat)), s] else .ret (.bl false)) := hl
      have hr : rgD ((2 : Nat) : Int) ((45 : Nat) : Int) = some ((List.range' 2 43).map fun i => .int (i : Nat)) := rg_nat2 (by decide) (by decide)
      obtain ⟨s', hw⟩ := val_loop q hq (by omega) 12 n 0 10000 (by omega) (by omega) (by decide)
      have ho := odd_eq n q (by omega) (by omega)
      cases ht : triesN q with
      | true =>
        rw [ht] at hpr hl
        constructor
        · simp only [φ_is_sill, fx_is_sill, fxSeq, fxSetS, fxSetN, fxIf, fxRet, fxRetN, fxNil, fxBrk, fxCnt, fxFz, frzL, frz1, List.foldl_cons, List.foldl_nil, fxApp, fxExt, fxAug, fxSetIx, fxAsg, fxFor, fxWh, exB, exV, exC, exN, ex1, ex2, exCall, exTup, exLst, exDic, exIf, exAnd, exOr, exNot, exCh, exIsi, exSl, exPart, exLc, evs, txB, txD, txNot, txAnd, txOr, txY, dBool, dTru, dAbs, dInt, dLen, dIsi, is_non, isn_non, non_int, non_bl, non_str, non_tup, non_lst, non_non, gxN, gxT, gxCons, gxNil, ixR1, ixR2, ixV, seqD, Slot.d, mkOwn, D.mut, runF, env0, outD, wipeE, nadd, naddI, add_tup, add_lst, neq, nne, nlt, nle, ngt, nge, eq_bl, ne_bl, ix_tup, ix_lst, Option.bind_some, Option.bind_none, Option.map_some, Option.map_none, List.getElem?_cons_zero, List.getElem?_cons_succ, List.getElem?_nil, List.set_cons_zero, List.set_cons_succ, List.length_cons, List.length_nil, List.map_cons, List.map_nil, List.cons_append, List.nil_append, List.replicate_succ, List.replicate_zero, Nat.reduceAdd, Nat.reduceSub, Nat.sub_zero, if_true, if_false, Bool.false_eq_true, Bool.true_eq_false, decide_true, decide_false, Bool.not_true, Bool.not_false, Nat.zero_add, ite_true, ite_false, reduceIte, decide_eq_true_eq, Option.some.injEq, hn1, hq, hqn, nmod (b := 4) (by decide), nmod (show 0 < q by omega), h4, hd, hpr, hw, nmod (b := 2) (by decide), Bool.true_and]
          rfl
        · simp only [φ_u_law_sill, fx_u_law_sill, fxSeq, fxSetS, fxSetN, fxIf, fxRet, fxRetN, fxNil, fxBrk, fxCnt, fxFz, frzL, frz1, List.foldl_cons, List.foldl_nil, fxApp, fxExt, fxAug, fxSetIx, fxAsg, fxFor, fxWh, exB, exV, exC, exN, ex1, ex2, exCall, exTup, exLst, exDic, exIf, exAnd, exOr, exNot, exCh, exIsi, exSl, exPart, exLc, evs, txB, txD, txNot, txAnd, txOr, txY, dBool, dTru, dAbs, dInt, dLen, dIsi, is_non, isn_non, non_int, non_bl, non_str, non_tup, non_lst, non_non, gxN, gxT, gxCons, gxNil, ixR1, ixR2, ixV, seqD, Slot.d, mkOwn, D.mut, runF, env0, outD, wipeE, nadd, naddI, add_tup, add_lst, neq, nne, nlt, nle, ngt, nge, eq_bl, ne_bl, ix_tup, ix_lst, Option.bind_some, Option.bind_none, Option.map_some, Option.map_none, List.getElem?_cons_zero, List.getElem?_cons_succ, List.getElem?_nil, List.set_cons_zero, List.set_cons_succ, List.length_cons, List.length_nil, List.map_cons, List.map_nil, List.cons_append, List.nil_append, List.replicate_succ, List.replicate_zero, Nat.reduceAdd, Nat.reduceSub, Nat.sub_zero, if_true, if_false, Bool.false_eq_true, Bool.true_eq_false, decide_true, decide_false, Bool.not_true, Bool.not_false, Nat.zero_add, ite_true, ite_false, reduceIte, decide_eq_true_eq, Option.some.injEq, hn0, hq3, hqn', nmod (b := 4) (by decide), nmod (show 0 < q by omega), h4, hd, hr, hl, ho, Bool.true_and]
      | false =>
        rw [ht] at hpr hl
        constructor
        · simp only [φ_is_sill, fx_is_sill, fxSeq, fxSetS, fxSetN, fxIf, fxRet, fxRetN, fxNil, fxBrk, fxCnt, fxFz, frzL, frz1, List.foldl_cons, List.foldl_nil, fxApp, fxExt, fxAug, fxSetIx, fxAsg, fxFor, fxWh, exB, exV, exC, exN, ex1, ex2, exCall, exTup, exLst, exDic, exIf, exAnd, exOr, exNot, exCh, exIsi, exSl, exPart, exLc, evs, txB, txD, txNot, txAnd, txOr, txY, dBool, dTru, dAbs, dInt, dLen, dIsi, is_non, isn_non, non_int, non_bl, non_str, non_tup, non_lst, non_non, gxN, gxT, gxCons, gxNil, ixR1, ixR2, ixV, seqD, Slot.d, mkOwn, D.mut, runF, env0, outD, wipeE, nadd, naddI, add_tup, add_lst, neq, nne, nlt, nle, ngt, nge, eq_bl, ne_bl, ix_tup, ix_lst, Option.bind_some, Option.bind_none, Option.map_some, Option.map_none, List.getElem?_cons_zero, List.getElem?_cons_succ, List.getElem?_nil, List.set_cons_zero, List.set_cons_succ, List.length_cons, List.length_nil, List.map_cons, List.map_nil, List.cons_append, List.nil_append, List.replicate_succ, List.replicate_zero, Nat.reduceAdd, Nat.reduceSub, Nat.sub_zero, if_true, if_false, Bool.false_eq_true, Bool.true_eq_false, decide_true, decide_false, Bool.not_true, Bool.not_false, Nat.zero_add, ite_true, ite_false, reduceIte, decide_eq_true_eq, Option.some.injEq, hn1, hq, hqn, nmod (b := 4) (by decide), nmod (show 0 < q by omega), h4, hd, hpr, Bool.true_and, Bool.false_and]
        · simp only [φ_u_law_sill, fx_u_law_sill, fxSeq, fxSetS, fxSetN, fxIf, fxRet, fxRetN, fxNil, fxBrk, fxCnt, fxFz, frzL, frz1, List.foldl_cons, List.foldl_nil, fxApp, fxExt, fxAug, fxSetIx, fxAsg, fxFor, fxWh, exB, exV, exC, exN, ex1, ex2, exCall, exTup, exLst, exDic, exIf, exAnd, exOr, exNot, exCh, exIsi, exSl, exPart, exLc, evs, txB, txD, txNot, txAnd, txOr, txY, dBool, dTru, dAbs, dInt, dLen, dIsi, is_non, isn_non, non_int, non_bl, non_str, non_tup, non_lst, non_non, gxN, gxT, gxCons, gxNil, ixR1, ixR2, ixV, seqD, Slot.d, mkOwn, D.mut, runF, env0, outD, wipeE, nadd, naddI, add_tup, add_lst, neq, nne, nlt, nle, ngt, nge, eq_bl, ne_bl, ix_tup, ix_lst, Option.bind_some, Option.bind_none, Option.map_some, Option.map_none, List.getElem?_cons_zero, List.getElem?_cons_succ, List.getElem?_nil, List.set_cons_zero, List.set_cons_succ, List.length_cons, List.length_nil, List.map_cons, List.map_nil, List.cons_append, List.nil_append, List.replicate_succ, List.replicate_zero, Nat.reduceAdd, Nat.reduceSub, Nat.sub_zero, if_true, if_false, Bool.false_eq_true, Bool.true_eq_false, decide_true, decide_false, Bool.not_true, Bool.not_false, Nat.zero_add, ite_true, ite_false, reduceIte, decide_eq_true_eq, Option.some.injEq, hn0, hq3, hqn', nmod (b := 4) (by decide), nmod (show 0 < q by omega), h4, hd, hr, hl, Bool.true_and, Bool.false_and]
    · constructor
      · simp only [φ_is_sill, fx_is_sill, fxSeq, fxSetS, fxSetN, fxIf, fxRet, fxRetN, fxNil, fxBrk, fxCnt, fxFz, frzL, frz1, List.foldl_cons, List.foldl_nil, fxApp, fxExt, fxAug, fxSetIx, fxAsg, fxFor, fxWh, exB, exV, exC, exN, ex1, ex2, exCall, exTup, exLst, exDic, exIf, exAnd, exOr, exNot, exCh, exIsi, exSl, exPart, exLc, evs, txB, txD, txNot, txAnd, txOr, txY, dBool, dTru, dAbs, dInt, dLen, dIsi, is_non, isn_non, non_int, non_bl, non_str, non_tup, non_lst, non_non, gxN, gxT, gxCons, gxNil, ixR1, ixR2, ixV, seqD, Slot.d, mkOwn, D.mut, runF, env0, outD, wipeE, nadd, naddI, add_tup, add_lst, neq, nne, nlt, nle, ngt, nge, eq_bl, ne_bl, ix_tup, ix_lst, Option.bind_some, Option.bind_none, Option.map_some, Option.map_none, List.getElem?_cons_zero, List.getElem?_cons_succ, List.getElem?_nil, List.set_cons_zero, List.set_cons_succ, List.length_cons, List.length_nil, List.map_cons, List.map_nil, List.cons_append, List.nil_append, List.replicate_succ, List.replicate_zero, Nat.reduceAdd, Nat.reduceSub, Nat.sub_zero, if_true, if_false, Bool.false_eq_true, Bool.true_eq_false, decide_true, decide_false, Bool.not_true, Bool.not_false, Nat.zero_add, ite_true, ite_false, reduceIte, decide_eq_true_eq, Option.some.injEq, hn1, hq, hqn, nmod (b := 4) (by decide), nmod (show 0 < q by omega), h4, hd, Bool.false_and]
      · simp only [φ_u_law_sill, fx_u_law_sill, fxSeq, fxSetS, fxSetN, fxIf, fxRet, fxRetN, fxNil, fxBrk, fxCnt, fxFz, frzL, frz1, List.foldl_cons, List.foldl_nil, fxApp, fxExt, fxAug, fxSetIx, fxAsg, fxFor, fxWh, exB, exV, exC, exN, ex1, ex2, exCall, exTup, exLst, exDic, exIf, exAnd, exOr, exNot, exCh, exIsi, exSl, exPart, exLc, evs, txB, txD, txNot, txAnd, txOr, txY, dBool, dTru, dAbs, dInt, dLen, dIsi, is_non, isn_non, non_int, non_bl, non_str, non_tup, non_lst, non_non, gxN, gxT, gxCons, gxNil, ixR1, ixR2, ixV, seqD, Slot.d, mkOwn, D.mut, runF, env0, outD, wipeE, nadd, naddI, add_tup, add_lst, neq, nne, nlt, nle, ngt, nge, eq_bl, ne_bl, ix_tup, ix_lst, Option.bind_some, Option.bind_none, Option.map_some, Option.map_none, List.getElem?_cons_zero, List.getElem?_cons_succ, List.getElem?_nil, List.set_cons_zero, List.set_cons_succ, List.length_cons, List.length_nil, List.map_cons, List.map_nil, List.cons_append, List.nil_append, List.replicate_succ, List.replicate_zero, Nat.reduceAdd, Nat.reduceSub, Nat.sub_zero, if_true, if_false, Bool.false_eq_true, Bool.true_eq_false, decide_true, decide_false, Bool.not_true, Bool.not_false, Nat.zero_add, ite_true, ite_false, reduceIte, decide_eq_true_eq, Option.some.injEq, hn0, hq3, hqn', nmod (b := 4) (by decide), nmod (show 0 < q by omega), h4, hd, Bool.false_and]
  · have hf : (decide (n % q = 0) && (decide (q % 4 = 3) && (triesN q && oddT n q))) = false := by simp [h4]
    rw [hf]
    constructor
    · simp only [φ_is_sill, fx_is_sill, fxSeq, fxSetS, fxSetN, fxIf, fxRet, fxRetN, fxNil, fxBrk, fxCnt, fxFz, frzL, frz1, List.foldl_cons, List.foldl_nil, fxApp, fxExt, fxAug, fxSetIx, fxAsg, fxFor, fxWh, exB, exV, exC, exN, ex1, ex2, exCall, exTup, exLst, exDic, exIf, exAnd, exOr, exNot, exCh, exIsi, exSl, exPart, exLc, evs, txB, txD, txNot, txAnd, txOr, txY, dBool, dTru, dAbs, dInt, dLen, dIsi, is_non, isn_non, non_int, non_bl, non_str, non_tup, non_lst, non_non, gxN, gxT, gxCons, gxNil, ixR1, ixR2, ixV, seqD, Slot.d, mkOwn, D.mut, runF, env0, outD, wipeE, nadd, naddI, add_tup, add_lst, neq, nne, nlt, nle, ngt, nge, eq_bl, ne_bl, ix_tup, ix_lst, Option.bind_some, Option.bind_none, Option.map_some, Option.map_none, List.getElem?_cons_zero, List.getElem?_cons_succ, List.getElem?_nil, List.set_cons_zero, List.set_cons_succ, List.length_cons, List.length_nil, List.map_cons, List.map_nil, List.cons_append, List.nil_append, List.replicate_succ, List.replicate_zero, Nat.reduceAdd, Nat.reduceSub, Nat.sub_zero, if_true, if_false, Bool.false_eq_true, Bool.true_eq_false, decide_true, decide_false, Bool.not_true, Bool.not_false, Nat.zero_add, ite_true, ite_false, reduceIte, decide_eq_true_eq, Option.some.injEq, hn1, hq, hqn, nmod (b := 4) (by decide), h4]
    · by_cases h3 : q < 3
      · simp only [φ_u_law_sill, fx_u_law_sill, fxSeq, fxSetS, fxSetN, fxIf, fxRet, fxRetN, fxNil, fxBrk, fxCnt, fxFz, frzL, frz1, List.foldl_cons, List.foldl_nil, fxApp, fxExt, fxAug, fxSetIx, fxAsg, fxFor, fxWh, exB, exV, exC, exN, ex1, ex2, exCall, exTup, exLst, exDic, exIf, exAnd, exOr, exNot, exCh, exIsi, exSl, exPart, exLc, evs, txB, txD, txNot, txAnd, txOr, txY, dBool, dTru, dAbs, dInt, dLen, dIsi, is_non, isn_non, non_int, non_bl, non_str, non_tup, non_lst, non_non, gxN, gxT, gxCons, gxNil, ixR1, ixR2, ixV, seqD, Slot.d, mkOwn, D.mut, runF, env0, outD, wipeE, nadd, naddI, add_tup, add_lst, neq, nne, nlt, nle, ngt, nge, eq_bl, ne_bl, ix_tup, ix_lst, Option.bind_some, Option.bind_none, Option.map_some, Option.map_none, List.getElem?_cons_zero, List.getElem?_cons_succ, List.getElem?_nil, List.set_cons_zero, List.set_cons_succ, List.length_cons, List.length_nil, List.map_cons, List.map_nil, List.cons_append, List.nil_append, List.replicate_succ, List.replicate_zero, Nat.reduceAdd, Nat.reduceSub, Nat.sub_zero, if_true, if_false, Bool.false_eq_true, Bool.true_eq_false, decide_true, decide_false, Bool.not_true, Bool.not_false, Nat.zero_add, ite_true, ite_false, reduceIte, decide_eq_true_eq, Option.some.injEq, hn0, h3]
      · have hqn' : ¬ n < q := by omega
        simp only [φ_u_law_sill, fx_u_law_sill, fxSeq, fxSetS, fxSetN, fxIf, fxRet, fxRetN, fxNil, fxBrk, fxCnt, fxFz, frzL, frz1, List.foldl_cons, List.foldl_nil, fxApp, fxExt, fxAug, fxSetIx, fxAsg, fxFor, fxWh, exB, exV, exC, exN, ex1, ex2, exCall, exTup, exLst, exDic, exIf, exAnd, exOr, exNot, exCh, exIsi, exSl, exPart, exLc, evs, txB, txD, txNot, txAnd, txOr, txY, dBool, dTru, dAbs, dInt, dLen, dIsi, is_non, isn_non, non_int, non_bl, non_str, non_tup, non_lst, non_non, gxN, gxT, gxCons, gxNil, ixR1, ixR2, ixV, seqD, Slot.d, mkOwn, D.mut, runF, env0, outD, wipeE, nadd, naddI, add_tup, add_lst, neq, nne, nlt, nle, ngt, nge, eq_bl, ne_bl, ix_tup, ix_lst, Option.bind_some, Option.bind_none, Option.map_some, Option.map_none, List.getElem?_cons_zero, List.getElem?_cons_succ, List.getElem?_nil, List.set_cons_zero, List.set_cons_succ, List.length_cons, List.length_nil, List.map_cons, List.map_nil, List.cons_append, List.nil_append, List.replicate_succ, List.replicate_zero, Nat.reduceAdd, Nat.reduceSub, Nat.sub_zero, if_true, if_false, Bool.false_eq_true, Bool.true_eq_false, decide_true, decide_false, Bool.not_true, Bool.not_false, Nat.zero_add, ite_true, ite_false, reduceIte, decide_eq_true_eq, Option.some.injEq, hn0, h3, hqn', nmod (b := 4) (by decide), h4]
theorem sill_same (n : Nat) (p : Int) (hn : n < 2025) : ∃ b, φ_is_sill [.int (n : Nat), .int p] = some (.bl b) ∧ φ_u_law_sill [.int (n : Nat), .int p] = some (.bl b) := by
  by_cases h : 2 ≤ p ∧ p ≤ n
  · obtain ⟨q, rfl⟩ : ∃ q : Nat, p = q := ⟨p.toNat, by omega⟩
    exact ⟨_, sill_nat n q hn (by omega) (by omega)⟩
  · refine ⟨false, ?_, ?_⟩
    · by_cases h1 : (n : Int) < 1
      · simp only [φ_is_sill, fx_is_sill, fxSeq, fxSetS, fxSetN, fxIf, fxRet, fxRetN, fxNil, fxBrk, fxCnt, fxFz, frzL, frz1, List.foldl_cons, List.foldl_nil, fxApp, fxExt, fxAug, fxSetIx, fxAsg, fxFor, fxWh, exB, exV, exC, exN, Int.cast_ofNat_Int, Int.natCast_zero, Int.natCast_one, ex1, ex2, exCall, exTup, exLst, exDic, exIf, exAnd, exOr, exNot, exCh, exIsi, exSl, exPart, exLc, evs, txB, txD, txNot, txAnd, txOr, txY, dBool, dTru, dAbs, dInt, dLen, dIsi, is_non, isn_non, non_int, non_bl, non_str, non_tup, non_lst, non_non, gxN, gxT, gxCons, gxNil, ixR1, ixR2, ixV, seqD, Slot.d, mkOwn, D.mut, runF, env0, outD, wipeE, add_int, sub_int, add_tup, add_lst, eq_int, ne_int, lt_int, le_int, gt_int, ge_int, eq_bl, ne_bl, ix_tup, ix_lst, Option.bind_some, Option.bind_none, Option.map_some, Option.map_none, List.getElem?_cons_zero, List.getElem?_cons_succ, List.getElem?_nil, List.set_cons_zero, List.set_cons_succ, List.length_cons, List.length_nil, List.map_cons, List.map_nil, List.cons_append, List.nil_append, List.replicate_succ, List.replicate_zero, Nat.reduceAdd, Nat.reduceSub, Nat.sub_zero, if_true, if_false, Bool.false_eq_true, Bool.true_eq_false, decide_true, decide_false, Bool.not_true, Bool.not_false, Nat.zero_add, ite_true, ite_false, reduceIte, decide_eq_true_eq, Option.some.injEq, h1]
      · by_cases h2 : 2 ≤ p
        · have h3 : ¬ p ≤ n := fun z => h ⟨h2, z⟩
          simp only [φ_is_sill, fx_is_sill, fxSeq, fxSetS, fxSetN, fxIf, fxRet, fxRetN, fxNil, fxBrk, fxCnt, fxFz, frzL, frz1, List.foldl_cons, List.foldl_nil, fxApp, fxExt, fxAug, fxSetIx, fxAsg, fxFor, fxWh, exB, exV, exC, exN, Int.cast_ofNat_Int, Int.natCast_zero, Int.natCast_one, ex1, ex2, exCall, exTup, exLst, exDic, exIf, exAnd, exOr, exNot, exCh, exIsi, exSl, exPart, exLc, evs, txB, txD, txNot, txAnd, txOr, txY, dBool, dTru, dAbs, dInt, dLen, dIsi, is_non, isn_non, non_int, non_bl, non_str, non_tup, non_lst, non_non, gxN, gxT, gxCons, gxNil, ixR1, ixR2, ixV, seqD, Slot.d, mkOwn, D.mut, runF, env0, outD, wipeE, add_int, sub_int, add_tup, add_lst, eq_int, ne_int, lt_int, le_int, gt_int, ge_int, eq_bl, ne_bl, ix_tup, ix_lst, Option.bind_some, Option.bind_none, Option.map_some, Option.map_none, List.getElem?_cons_zero, List.getElem?_cons_succ, List.getElem?_nil, List.set_cons_zero, List.set_cons_succ, List.length_cons, List.length_nil, List.map_cons, List.map_nil, List.cons_append, List.nil_append, List.replicate_succ, List.replicate_zero, Nat.reduceAdd, Nat.reduceSub, Nat.sub_zero, if_true, if_false, Bool.false_eq_true, Bool.true_eq_false, decide_true, decide_false, Bool.not_true, Bool.not_false, Nat.zero_add, ite_true, ite_false, reduceIte, decide_eq_true_eq, Option.some.injEq, h1, h2, h3]
        · simp only [φ_is_sill, fx_is_sill, fxSeq, fxSetS, fxSetN, fxIf, fxRet, fxRetN, fxNil, fxBrk, fxCnt, fxFz, frzL, frz1, List.foldl_cons, List.foldl_nil, fxApp, fxExt, fxAug, fxSetIx, fxAsg, fxFor, fxWh, exB, exV, exC, exN, Int.cast_ofNat_Int, Int.natCast_zero, Int.natCast_one, ex1, ex2, exCall, exTup, exLst, exDic, exIf, exAnd, exOr, exNot, exCh, exIsi, exSl, exPart, exLc, evs, txB, txD, txNot, txAnd, txOr, txY, dBool, dTru, dAbs, dInt, dLen, dIsi, is_non, isn_non, non_int, non_bl, non_str, non_tup, non_lst, non_non, gxN, gxT, gxCons, gxNil, ixR1, ixR2, ixV, seqD, Slot.d, mkOwn, D.mut, runF, env0, outD, wipeE, add_int, sub_int, add_tup, add_lst, eq_int, ne_int, lt_int, le_int, gt_int, ge_int, eq_bl, ne_bl, ix_tup, ix_lst, Option.bind_some, Option.bind_none, Option.map_some, Option.map_none, List.getElem?_cons_zero, List.getElem?_cons_succ, List.getElem?_nil, List.set_cons_zero, List.set_cons_succ, List.length_cons, List.length_nil, List.map_cons, List.map_nil, List.cons_append, List.nil_append, List.replicate_succ, List.replicate_zero, Nat.reduceAdd, Nat.reduceSub, Nat.sub_zero, if_true, if_false, Bool.false_eq_true, Bool.true_eq_false, decide_true, decide_false, Bool.not_true, Bool.not_false, Nat.zero_add, ite_true, ite_false, reduceIte, decide_eq_true_eq, Option.some.injEq, h1, h2]
    · by_cases h1 : (n : Int) = 0
      · simp only [φ_u_law_sill, fx_u_law_sill, fxSeq, fxSetS, fxSetN, fxIf, fxRet, fxRetN, fxNil, fxBrk, fxCnt, fxFz, frzL, frz1, List.foldl_cons, List.foldl_nil, fxApp, fxExt, fxAug, fxSetIx, fxAsg, fxFor, fxWh, exB, exV, exC, exN, Int.cast_ofNat_Int, Int.natCast_zero, Int.natCast_one, ex1, ex2, exCall, exTup, exLst, exDic, exIf, exAnd, exOr, exNot, exCh, exIsi, exSl, exPart, exLc, evs, txB, txD, txNot, txAnd, txOr, txY, dBool, dTru, dAbs, dInt, dLen, dIsi, is_non, isn_non, non_int, non_bl, non_str, non_tup, non_lst, non_non, gxN, gxT, gxCons, gxNil, ixR1, ixR2, ixV, seqD, Slot.d, mkOwn, D.mut, runF, env0, outD, wipeE, add_int, sub_int, add_tup, add_lst, eq_int, ne_int, lt_int, le_int, gt_int, ge_int, eq_bl, ne_bl, ix_tup, ix_lst, Option.bind_some, Option.bind_none, Option.map_some, Option.map_none, List.getElem?_cons_zero, List.getElem?_cons_succ, List.getElem?_nil, List.set_cons_zero, List.set_cons_succ, List.length_cons, List.length_nil, List.map_cons, List.map_nil, List.cons_append, List.nil_append, List.replicate_succ, List.replicate_zero, Nat.reduceAdd, Nat.reduceSub, Nat.sub_zero, if_true, if_false, Bool.false_eq_true, Bool.true_eq_false, decide_true, decide_false, Bool.not_true, Bool.not_false, Nat.zero_add, ite_true, ite_false, reduceIte, decide_eq_true_eq, Option.some.injEq, h1]
      · by_cases h2 : p < 3
        · simp only [φ_u_law_sill, fx_u_law_sill, fxSeq, fxSetS, fxSetN, fxIf, fxRet, fxRetN, fxNil, fxBrk, fxCnt, fxFz, frzL, frz1, List.foldl_cons, List.foldl_nil, fxApp, fxExt, fxAug, fxSetIx, fxAsg, fxFor, fxWh, exB, exV, exC, exN, Int.cast_ofNat_Int, Int.natCast_zero, Int.natCast_one, ex1, ex2, exCall, exTup, exLst, exDic, exIf, exAnd, exOr, exNot, exCh, exIsi, exSl, exPart, exLc, evs, txB, txD, txNot, txAnd, txOr, txY, dBool, dTru, dAbs, dInt, dLen, dIsi, is_non, isn_non, non_int, non_bl, non_str, non_tup, non_lst, non_non, gxN, gxT, gxCons, gxNil, ixR1, ixR2, ixV, seqD, Slot.d, mkOwn, D.mut, runF, env0, outD, wipeE, add_int, sub_int, add_tup, add_lst, eq_int, ne_int, lt_int, le_int, gt_int, ge_int, eq_bl, ne_bl, ix_tup, ix_lst, Option.bind_some, Option.bind_none, Option.map_some, Option.map_none, List.getElem?_cons_zero, List.getElem?_cons_succ, List.getElem?_nil, List.set_cons_zero, List.set_cons_succ, List.length_cons, List.length_nil, List.map_cons, List.map_nil, List.cons_append, List.nil_append, List.replicate_succ, List.replicate_zero, Nat.reduceAdd, Nat.reduceSub, Nat.sub_zero, if_true, if_false, Bool.false_eq_true, Bool.true_eq_false, decide_true, decide_false, Bool.not_true, Bool.not_false, Nat.zero_add, ite_true, ite_false, reduceIte, decide_eq_true_eq, Option.some.injEq, h1, h2]
        · have h3 : (n : Int) < p := by omega
          simp only [φ_u_law_sill, fx_u_law_sill, fxSeq, fxSetS, fxSetN, fxIf, fxRet, fxRetN, fxNil, fxBrk, fxCnt, fxFz, frzL, frz1, List.foldl_cons, List.foldl_nil, fxApp, fxExt, fxAug, fxSetIx, fxAsg, fxFor, fxWh, exB, exV, exC, exN, Int.cast_ofNat_Int, Int.natCast_zero, Int.natCast_one, ex1, ex2, exCall, exTup, exLst, exDic, exIf, exAnd, exOr, exNot, exCh, exIsi, exSl, exPart, exLc, evs, txB, txD, txNot, txAnd, txOr, txY, dBool, dTru, dAbs, dInt, dLen, dIsi, is_non, isn_non, non_int, non_bl, non_str, non_tup, non_lst, non_non, gxN, gxT, gxCons, gxNil, ixR1, ixR2, ixV, seqD, Slot.d, mkOwn, D.mut, runF, env0, outD, wipeE, add_int, sub_int, add_tup, add_lst, eq_int, ne_int, lt_int, le_int, gt_int, ge_int, eq_bl, ne_bl, ix_tup, ix_lst, Option.bind_some, Option.bind_none, Option.map_some, Option.map_none, List.getElem?_cons_zero, List.getElem?_cons_succ, List.getElem?_nil, List.set_cons_zero, List.set_cons_succ, List.length_cons, List.length_nil, List.map_cons, List.map_nil, List.cons_append, List.nil_append, List.replicate_succ, List.replicate_zero, Nat.reduceAdd, Nat.reduceSub, Nat.sub_zero, if_true, if_false, Bool.false_eq_true, Bool.true_eq_false, decide_true, decide_false, Bool.not_true, Bool.not_false, Nat.zero_add, ite_true, ite_false, reduceIte, decide_eq_true_eq, Option.some.injEq, h1, h2, h3]

/-! ### told_sill -/
def toldL (n : Nat) : List Nat := (List.range ((n + 1) / 4)).map fun i => 3 + i * 4
theorem step4 (n : Nat) (hn : n < 2025) : stD 3 ((n : Int) + 1) 4 = some ((toldL n).map fun p => .int (p : Nat)) := by
  have hz : Builtin.Range.rangeSize 3 ((n : Int) + 1) 4 = (((n + 1) / 4 : Nat) : Int) := by
    unfold Builtin.Range.rangeSize
    split <;> split <;> omega
  unfold stD
  rw [if_pos]
  · rw [hz]
    unfold stepD toldL
    rw [Int.toNat_natCast, List.map_map]
    congr 1
  · rw [stOk_iff, hz]
    refine ⟨by decide, by decide, by decide, by omega, by omega, by omega⟩
theorem told_loop (n : Nat) (hn : n < 2025) : ∀ (ps : List Nat), (∀ p ∈ ps, 2 ≤ p ∧ p ≤ n) → ∀ s : Slot, ∃ s', fLoop (gxN 1) b1_told_sill (ps.map fun p => .int (p : Nat)) [.val (.int (n : Nat)), s] = some (match ps.find? (sillB n) with
    | some p => .ret (.int (p : Nat))
    | none => .nx [.val (.int (n : Nat)), s']) := by
  intro ps
  induction ps with
  | nil => exact fun _ s => ⟨s, rfl⟩
  | cons p ps ih =>
    intro hp s
    obtain ⟨s', ih⟩ := ih (fun x hx => hp x (by simp [hx])) (.val (.int (p : Nat)))
    refine ⟨s', ?_⟩
    have h1 := (sill_nat n p hn (hp p (by simp)).1 (hp p (by simp)).2).1
    rw [List.map_cons, fLoop, gxN, List.find?_cons]
    cases hb : sillB n p with
    | true =>
      rw [hb] at h1
      simp only [b1_told_sill, fxSeq, fxSetS, fxSetN, fxIf, fxRet, fxRetN, fxNil, fxBrk, fxCnt, fxFz, frzL, frz1, List.foldl_cons, List.foldl_nil, fxApp, fxExt, fxAug, fxSetIx, fxAsg, fxFor, fxWh, exB, exV, exC, exN, ex1, ex2, exCall, exTup, exLst, exDic, exIf, exAnd, exOr, exNot, exCh, exIsi, exSl, exPart, exLc, evs, txB, txD, txNot, txAnd, txOr, txY, dBool, dTru, dAbs, dInt, dLen, dIsi, is_non, isn_non, non_int, non_bl, non_str, non_tup, non_lst, non_non, gxN, gxT, gxCons, gxNil, ixR1, ixR2, ixV, seqD, Slot.d, mkOwn, D.mut, runF, env0, outD, wipeE, nadd, naddI, add_tup, add_lst, neq, nne, nlt, nle, ngt, nge, eq_bl, ne_bl, ix_tup, ix_lst, Option.bind_some, Option.bind_none, Option.map_some, Option.map_none, List.getElem?_cons_zero, List.getElem?_cons_succ, List.getElem?_nil, List.set_cons_zero, List.set_cons_succ, List.length_cons, List.length_nil, List.map_cons, List.map_nil, List.cons_append, List.nil_append, List.replicate_succ, List.replicate_zero, Nat.reduceAdd, Nat.reduceSub, Nat.sub_zero, if_true, if_false, Bool.false_eq_true, Bool.true_eq_false, decide_true, decide_false, Bool.not_true, Bool.not_false, Nat.zero_add, ite_true, ite_false, reduceIte, decide_eq_true_eq, Option.some.injEq, h1]
    | false =>
      rw [hb] at h1
      simp only [b1_told_sill, fxSeq, fxSetS, fxSetN, fxIf, fxRet, fxRetN, fxNil, fxBrk, fxCnt, fxFz, frzL, frz1, List.foldl_cons, List.foldl_nil, fxApp, fxExt, fxAug, fxSetIx, fxAsg, fxFor, fxWh, exB, exV, exC, exN, ex1, ex2, exCall, exTup, exLst, exDic, exIf, exAnd, exOr, exNot, exCh, exIsi, exSl, exPart, exLc, evs, txB, txD, txNot, txAnd, txOr, txY, dBool, dTru, dAbs, dInt, dLen, dIsi, is_non, isn_non, non_int, non_bl, non_str, non_tup, non_lst, non_non, gxN, gxT, gxCons, gxNil, ixR1, ixR2, ixV, seqD, Slot.d, mkOwn, D.mut, runF, env0, outD, wipeE, nadd, naddI, add_tup, add_lst, neq, nne, nlt, nle, ngt, nge, eq_bl, ne_bl, ix_tup, ix_lst, Option.bind_some, Option.bind_none, Option.map_some, Option.map_none, List.getElem?_cons_zero, List.getElem?_cons_succ, List.getElem?_nil, List.set_cons_zero, List.set_cons_succ, List.length_cons, List.length_nil, List.map_cons, List.map_nil, List.cons_append, List.nil_append, List.replicate_succ, List.replicate_zero, Nat.reduceAdd, Nat.reduceSub, Nat.sub_zero, if_true, if_false, Bool.false_eq_true, Bool.true_eq_false, decide_true, decide_false, Bool.not_true, Bool.not_false, Nat.zero_add, ite_true, ite_false, reduceIte, decide_eq_true_eq, Option.some.injEq, h1]
      exact ih
theorem told_same : ((List.range 2025).all fun n => decide ((toldL n).find? (sillB n) = (sillsN n).head?)) = true := by decide +kernel
def natD : Option Nat → D
  | none => .non
  | some p => .int (p : Nat)
theorem told_eq (n : Nat) (hn : n < 2025) : φ_told_sill [.int (n : Nat)] = some (natD (sillsN n).head?) := by
  have h0 := List.all_eq_true.mp told_same n (List.mem_range.mpr hn)
  have h0 := of_decide_eq_true h0
  obtain ⟨s', h1⟩ := told_loop n hn (toldL n) (fun p hp => by
    unfold toldL at hp
    obtain ⟨i, hi, rfl⟩ := List.mem_map.mp hp
    have := List.mem_range.mp hi
    omega) .no
  rw [h0] at h1
  have hs := step4 n hn
  simp only [φ_told_sill, fx_told_sill, ixR3, fxSeq, fxSetS, fxSetN, fxIf, fxRet, fxRetN, fxNil, fxBrk, fxCnt, fxFz, frzL, frz1, List.foldl_cons, List.foldl_nil, fxApp, fxExt, fxAug, fxSetIx, fxAsg, fxFor, fxWh, exB, exV, exC, exN, Int.cast_ofNat_Int, Int.natCast_zero, Int.natCast_one, ex1, ex2, exCall, exTup, exLst, exDic, exIf, exAnd, exOr, exNot, exCh, exIsi, exSl, exPart, exLc, evs, txB, txD, txNot, txAnd, txOr, txY, dBool, dTru, dAbs, dInt, dLen, dIsi, is_non, isn_non, non_int, non_bl, non_str, non_tup, non_lst, non_non, gxN, gxT, gxCons, gxNil, ixR1, ixR2, ixV, seqD, Slot.d, mkOwn, D.mut, runF, env0, outD, wipeE, add_int, sub_int, add_tup, add_lst, eq_int, ne_int, lt_int, le_int, gt_int, ge_int, eq_bl, ne_bl, ix_tup, ix_lst, Option.bind_some, Option.bind_none, Option.map_some, Option.map_none, List.getElem?_cons_zero, List.getElem?_cons_succ, List.getElem?_nil, List.set_cons_zero, List.set_cons_succ, List.length_cons, List.length_nil, List.map_cons, List.map_nil, List.cons_append, List.nil_append, List.replicate_succ, List.replicate_zero, Nat.reduceAdd, Nat.reduceSub, Nat.sub_zero, if_true, if_false, Bool.false_eq_true, Bool.true_eq_false, decide_true, decide_false, Bool.not_true, Bool.not_false, Nat.zero_add, ite_true, ite_false, reduceIte, decide_eq_true_eq, Option.some.injEq, hs, h1]
  cases (sillsN n).head? <;> rfl

/-! ### told_legs -/
def legsT (n : Nat) : Nat → Nat → Nat → Option (Nat × Nat)
  | 0, _, _ => none
  | k + 1, a, b => if a ≤ b then (if a * a + b * b = n then some (a, b) else if n < a * a + b * b then legsT n k a (b - 1) else legsT n k (a + 1) b) else none
theorem legs_none (n : Nat) : ∀ (as : List Nat), (∀ a ∈ as, ∀ b, a ≤ b → b < 46 → a * a + b * b ≠ n) → legsL n as = none := by
  intro as
  induction as with
  | nil => exact fun _ => rfl
  | cons a as ih =>
    intro h
    have : (List.range' a (46 - a)).find? (fun b => decide (a * a + b * b = n)) = none := by
      rw [List.find?_eq_none]
      intro b hb
      obtain ⟨i, hi, rfl⟩ := List.mem_range'.mp hb
      have := h a (by simp) (a + 1 * i) (by omega) (by omega)
      simpa using this
    rw [legsL, this]
    exact ih fun x hx => h x (by simp [hx])
theorem legs_two (n : Nat) : ∀ (k a b : Nat), b < 46 → b + 2 ≤ a + k → (∀ a' b', a ≤ a' → a' ≤ b' → b < b' → b' < 46 → a' * a' + b' * b' ≠ n) → legsL n (List.range' a (46 - a)) = legsT n k a b := by
  intro k
  induction k with
  | zero =>
    intro a b hb hk h
    rw [legsT]
    refine legs_none n _ fun x hx y h1 h2 => ?_
    obtain ⟨i, hi, rfl⟩ := List.mem_range'.mp hx
    exact h _ _ (by omega) h1 (by omega) h2
  | succ k ih =>
    intro a b hb hk h
    rw [legsT]
    by_cases hab : a ≤ b
    · rw [if_pos hab]
      have hr : List.range' a (46 - a) = a :: List.range' (a + 1) (46 - (a + 1)) := by
        obtain ⟨j, hj⟩ : ∃ j, 46 - a = j + 1 := ⟨45 - a, by omega⟩
        rw [hj, List.range'_succ]
        congr 2
        omega
      by_cases he : a * a + b * b = n
      · rw [if_pos he, hr, legsL]
        have hf : (List.range' a (46 - a)).find? (fun b => decide (a * a + b * b = n)) = some b := by
          cases hq : (List.range' a (46 - a)).find? (fun b => decide (a * a + b * b = n)) with
          | none =>
            rw [List.find?_eq_none] at hq
            exact absurd he (by simpa using hq b (List.mem_range'.mpr ⟨b - a, by omega, by omega⟩))
          | some c =>
            have h1 := List.find?_some hq
            have h1 : a * a + c * c = n := by simpa using h1
            have h2 : c * c = b * b := by omega
            rcases Nat.lt_trichotomy c b with h3 | h3 | h3
            · have := Nat.mul_lt_mul'' h3 h3
              omega
            · rw [h3]
            · have := Nat.mul_lt_mul'' h3 h3
              omega
        rw [hf]
      · rw [if_neg he]
        by_cases hl : n < a * a + b * b
        · rw [if_pos hl]
          have hb0 : 1 ≤ b := by
            rcases Nat.eq_zero_or_pos b with hz | hz
            · subst hz
              have : a = 0 := by omega
              subst this
              omega
            · exact hz
          refine ih a (b - 1) (by omega) (by omega) fun a' b' h1 h2 h3 h4 => ?_
          by_cases hbb : b' = b
          · subst hbb
            have := Nat.mul_le_mul h1 h1
            omega
          · exact h a' b' h1 h2 (by omega) h4
        · rw [if_neg hl, hr, legsL]
          have hf : (List.range' a (46 - a)).find? (fun b => decide (a * a + b * b = n)) = none := by
            rw [List.find?_eq_none]
            intro c hc
            obtain ⟨i, hi, rfl⟩ := List.mem_range'.mp hc
            have : a * a + (a + 1 * i) * (a + 1 * i) ≠ n := by
              by_cases hcb : a + 1 * i ≤ b
              · have := Nat.mul_le_mul hcb hcb
                omega
              · exact h a _ (Nat.le_refl _) (by omega) (by omega) (by omega)
            simpa using this
          rw [hf]
          exact ih (a + 1) b hb (by omega) fun a' b' h1 h2 h3 h4 => h a' b' (by omega) h2 h3 h4
    · rw [if_neg hab]
      refine legs_none n _ fun x hx y h1 h2 => ?_
      obtain ⟨i, hi, rfl⟩ := List.mem_range'.mp hx
      exact h _ _ (by omega) h1 (by omega) h2
/-- the first loop -/
theorem root_loop (n : Nat) (hn : n < 2025) : ∀ (k b m : Nat), b ≤ 45 → 45 ≤ b + k → k < m → (∀ c, c < b → c * c < n) → ∃ b', b' ≤ 45 ∧ n ≤ b' * b' ∧ wLoop b4_told_legs b3_told_legs m [.val (.int (n : Nat)), .val (.int (b : Nat)), .no, .no] = some (.nx [.val (.int (n : Nat)), .val (.int (b' : Nat)), .no, .no]) := by
  intro k
  induction k with
  | zero =>
    intro b m hb hk hm h
    obtain ⟨m, rfl⟩ : ∃ j, m = j + 1 := ⟨m - 1, by omega⟩
    have hb : b = 45 := by omega
    subst hb
    have hc : ¬ 45 * 45 < n := by omega
    refine ⟨45, by omega, by omega, ?_⟩
    simp only [wLoop, b4_told_legs, fxSeq, fxSetS, fxSetN, fxIf, fxRet, fxRetN, fxNil, fxBrk, fxCnt, fxFz, frzL, frz1, List.foldl_cons, List.foldl_nil, fxApp, fxExt, fxAug, fxSetIx, fxAsg, fxFor, fxWh, exB, exV, exC, exN, ex1, ex2, exCall, exTup, exLst, exDic, exIf, exAnd, exOr, exNot, exCh, exIsi, exSl, exPart, exLc, evs, txB, txD, txNot, txAnd, txOr, txY, dBool, dTru, dAbs, dInt, dLen, dIsi, is_non, isn_non, non_int, non_bl, non_str, non_tup, non_lst, non_non, gxN, gxT, gxCons, gxNil, ixR1, ixR2, ixV, seqD, Slot.d, mkOwn, D.mut, runF, env0, outD, wipeE, nadd, naddI, add_tup, add_lst, neq, nne, nlt, nle, ngt, nge, eq_bl, ne_bl, ix_tup, ix_lst, Option.bind_some, Option.bind_none, Option.map_some, Option.map_none, List.getElem?_cons_zero, List.getElem?_cons_succ, List.getElem?_nil, List.set_cons_zero, List.set_cons_succ, List.length_cons, List.length_nil, List.map_cons, List.map_nil, List.cons_append, List.nil_append, List.replicate_succ, List.replicate_zero, Nat.reduceAdd, Nat.reduceSub, Nat.sub_zero, if_true, if_false, Bool.false_eq_true, Bool.true_eq_false, decide_true, decide_false, Bool.not_true, Bool.not_false, Nat.zero_add, ite_true, ite_false, reduceIte, decide_eq_true_eq, Option.some.injEq, nmul (a := 45) (by omega), hc]
  | succ k ih =>
    intro b m hb hk hm h
    obtain ⟨m, rfl⟩ : ∃ j, m = j + 1 := ⟨m - 1, by omega⟩
    by_cases hc : b * b < n
    · have hb' : b < 45 := by
        rcases Nat.lt_or_ge b 45 with h | h
        · exact h
        · have := Nat.mul_le_mul h h
          omega
      obtain ⟨b', h1, h2, h3⟩ := ih (b + 1) m (by omega) (by omega) (by omega) fun c hc' => by
        rcases Nat.lt_or_ge c b with hx | hx
        · exact h c hx
        · have : c = b := by omega
          rw [this]
          exact hc
      refine ⟨b', h1, h2, ?_⟩
      simp only [wLoop, b4_told_legs, b3_told_legs, fxSeq, fxSetS, fxSetN, fxIf, fxRet, fxRetN, fxNil, fxBrk, fxCnt, fxFz, frzL, frz1, List.foldl_cons, List.foldl_nil, fxApp, fxExt, fxAug, fxSetIx, fxAsg, fxFor, fxWh, exB, exV, exC, exN, ex1, ex2, exCall, exTup, exLst, exDic, exIf, exAnd, exOr, exNot, exCh, exIsi, exSl, exPart, exLc, evs, txB, txD, txNot, txAnd, txOr, txY, dBool, dTru, dAbs, dInt, dLen, dIsi, is_non, isn_non, non_int, non_bl, non_str, non_tup, non_lst, non_non, gxN, gxT, gxCons, gxNil, ixR1, ixR2, ixV, seqD, Slot.d, mkOwn, D.mut, runF, env0, outD, wipeE, nadd, naddI, add_tup, add_lst, neq, nne, nlt, nle, ngt, nge, eq_bl, ne_bl, ix_tup, ix_lst, Option.bind_some, Option.bind_none, Option.map_some, Option.map_none, List.getElem?_cons_zero, List.getElem?_cons_succ, List.getElem?_nil, List.set_cons_zero, List.set_cons_succ, List.length_cons, List.length_nil, List.map_cons, List.map_nil, List.cons_append, List.nil_append, List.replicate_succ, List.replicate_zero, Nat.reduceAdd, Nat.reduceSub, Nat.sub_zero, if_true, if_false, Bool.false_eq_true, Bool.true_eq_false, decide_true, decide_false, Bool.not_true, Bool.not_false, Nat.zero_add, ite_true, ite_false, reduceIte, decide_eq_true_eq, Option.some.injEq, nmul (a := b) (by omega), hc]
      exact h3
    · refine ⟨b, by omega, by omega, ?_⟩
      simp only [wLoop, b4_told_legs, b3_told_legs, fxSeq, fxSetS, fxSetN, fxIf, fxRet, fxRetN, fxNil, fxBrk, fxCnt, fxFz, frzL, frz1, List.foldl_cons, List.foldl_nil, fxApp, fxExt, fxAug, fxSetIx, fxAsg, fxFor, fxWh, exB, exV, exC, exN, ex1, ex2, exCall, exTup, exLst, exDic, exIf, exAnd, exOr, exNot, exCh, exIsi, exSl, exPart, exLc, evs, txB, txD, txNot, txAnd, txOr, txY, dBool, dTru, dAbs, dInt, dLen, dIsi, is_non, isn_non, non_int, non_bl, non_str, non_tup, non_lst, non_non, gxN, gxT, gxCons, gxNil, ixR1, ixR2, ixV, seqD, Slot.d, mkOwn, D.mut, runF, env0, outD, wipeE, nadd, naddI, add_tup, add_lst, neq, nne, nlt, nle, ngt, nge, eq_bl, ne_bl, ix_tup, ix_lst, Option.bind_some, Option.bind_none, Option.map_some, Option.map_none, List.getElem?_cons_zero, List.getElem?_cons_succ, List.getElem?_nil, List.set_cons_zero, List.set_cons_succ, List.length_cons, List.length_nil, List.map_cons, List.map_nil, List.cons_append, List.nil_append, List.replicate_succ, List.replicate_zero, Nat.reduceAdd, Nat.reduceSub, Nat.sub_zero, if_true, if_false, Bool.false_eq_true, Bool.true_eq_false, decide_true, decide_false, Bool.not_true, Bool.not_false, Nat.zero_add, ite_true, ite_false, reduceIte, decide_eq_true_eq, Option.some.injEq, nmul (a := b) (by omega), hc]
theorem two_loop (n : Nat) : ∀ (k a b m : Nat), a < 1000 → b < 46 → b + 2 ≤ a + k → k < m → (a ≤ b → 0 < b ∨ a * a + b * b ≤ n) → ∀ s : Slot, ∃ env, wLoop b2_told_legs b1_told_legs m [.val (.int (n : Nat)), .val (.int (b : Nat)), .val (.int (a : Nat)), s] = some (match legsT n k a b with
    | some (a, b) => .ret (.tup [.int (a : Nat), .int (b : Nat)])
    | none => .nx env) := by
  intro k
  induction k with
  | zero =>
    intro a b m ha hb hk hm h s
    obtain ⟨m, rfl⟩ : ∃ j, m = j + 1 := ⟨m - 1, by omega⟩
    have hc : ¬ a ≤ b := by omega
    refine ⟨[.val (.int (n : Nat)), .val (.int (b : Nat)), .val (.int (a : Nat)), s], ?_⟩
    simp only [wLoop, b2_told_legs, fxSeq, fxSetS, fxSetN, fxIf, fxRet, fxRetN, fxNil, fxBrk, fxCnt, fxFz, frzL, frz1, List.foldl_cons, List.foldl_nil, fxApp, fxExt, fxAug, fxSetIx, fxAsg, fxFor, fxWh, exB, exV, exC, exN, ex1, ex2, exCall, exTup, exLst, exDic, exIf, exAnd, exOr, exNot, exCh, exIsi, exSl, exPart, exLc, evs, txB, txD, txNot, txAnd, txOr, txY, dBool, dTru, dAbs, dInt, dLen, dIsi, is_non, isn_non, non_int, non_bl, non_str, non_tup, non_lst, non_non, gxN, gxT, gxCons, gxNil, ixR1, ixR2, ixV, seqD, Slot.d, mkOwn, D.mut, runF, env0, outD, wipeE, nadd, naddI, add_tup, add_lst, neq, nne, nlt, nle, ngt, nge, eq_bl, ne_bl, ix_tup, ix_lst, Option.bind_some, Option.bind_none, Option.map_some, Option.map_none, List.getElem?_cons_zero, List.getElem?_cons_succ, List.getElem?_nil, List.set_cons_zero, List.set_cons_succ, List.length_cons, List.length_nil, List.map_cons, List.map_nil, List.cons_append, List.nil_append, List.replicate_succ, List.replicate_zero, Nat.reduceAdd, Nat.reduceSub, Nat.sub_zero, if_true, if_false, Bool.false_eq_true, Bool.true_eq_false, decide_true, decide_false, Bool.not_true, Bool.not_false, Nat.zero_add, ite_true, ite_false, reduceIte, decide_eq_true_eq, Option.some.injEq, hc, legsT]
  | succ k ih =>
    intro a b m ha hb hk hm h s
    obtain ⟨m, rfl⟩ : ∃ j, m = j + 1 := ⟨m - 1, by omega⟩
    by_cases hab : a ≤ b
    · by_cases he : a * a + b * b = n
      · refine ⟨[], ?_⟩
        simp only [wLoop, b2_told_legs, b1_told_legs, fxSeq, fxSetS, fxSetN, fxIf, fxRet, fxRetN, fxNil, fxBrk, fxCnt, fxFz, frzL, frz1, List.foldl_cons, List.foldl_nil, fxApp, fxExt, fxAug, fxSetIx, fxAsg, fxFor, fxWh, exB, exV, exC, exN, ex1, ex2, exCall, exTup, exLst, exDic, exIf, exAnd, exOr, exNot, exCh, exIsi, exSl, exPart, exLc, evs, txB, txD, txNot, txAnd, txOr, txY, dBool, dTru, dAbs, dInt, dLen, dIsi, is_non, isn_non, non_int, non_bl, non_str, non_tup, non_lst, non_non, gxN, gxT, gxCons, gxNil, ixR1, ixR2, ixV, seqD, Slot.d, mkOwn, D.mut, runF, env0, outD, wipeE, nadd, naddI, add_tup, add_lst, neq, nne, nlt, nle, ngt, nge, eq_bl, ne_bl, ix_tup, ix_lst, Option.bind_some, Option.bind_none, Option.map_some, Option.map_none, List.getElem?_cons_zero, List.getElem?_cons_succ, List.getElem?_nil, List.set_cons_zero, List.set_cons_succ, List.length_cons, List.length_nil, List.map_cons, List.map_nil, List.cons_append, List.nil_append, List.replicate_succ, List.replicate_zero, Nat.reduceAdd, Nat.reduceSub, Nat.sub_zero, if_true, if_false, Bool.false_eq_true, Bool.true_eq_false, decide_true, decide_false, Bool.not_true, Bool.not_false, Nat.zero_add, ite_true, ite_false, reduceIte, decide_eq_true_eq, Option.some.injEq, hab, legsT, nmul (a := a) (by omega), nmul (a := b) (by omega), he]
      · by_cases hl : n < a * a + b * b
        · have hb0 : 1 ≤ b := by
            rcases h hab with h | h <;> omega
          obtain ⟨env, hs⟩ := ih a (b - 1) m ha (by omega) (by omega) (by omega) (fun h1 => by
            rcases Nat.eq_or_lt_of_le hb0 with h2 | h2
            · right
              have : a = 0 := by omega
              subst this
              subst h2
              omega
            · left
              omega) (.val (.int ((a * a + b * b : Nat) : Int)))
          refine ⟨env, ?_⟩
          simp only [wLoop, b2_told_legs, b1_told_legs, fxSeq, fxSetS, fxSetN, fxIf, fxRet, fxRetN, fxNil, fxBrk, fxCnt, fxFz, frzL, frz1, List.foldl_cons, List.foldl_nil, fxApp, fxExt, fxAug, fxSetIx, fxAsg, fxFor, fxWh, exB, exV, exC, exN, ex1, ex2, exCall, exTup, exLst, exDic, exIf, exAnd, exOr, exNot, exCh, exIsi, exSl, exPart, exLc, evs, txB, txD, txNot, txAnd, txOr, txY, dBool, dTru, dAbs, dInt, dLen, dIsi, is_non, isn_non, non_int, non_bl, non_str, non_tup, non_lst, non_non, gxN, gxT, gxCons, gxNil, ixR1, ixR2, ixV, seqD, Slot.d, mkOwn, D.mut, runF, env0, outD, wipeE, nadd, naddI, add_tup, add_lst, neq, nne, nlt, nle, ngt, nge, eq_bl, ne_bl, ix_tup, ix_lst, Option.bind_some, Option.bind_none, Option.map_some, Option.map_none, List.getElem?_cons_zero, List.getElem?_cons_succ, List.getElem?_nil, List.set_cons_zero, List.set_cons_succ, List.length_cons, List.length_nil, List.map_cons, List.map_nil, List.cons_append, List.nil_append, List.replicate_succ, List.replicate_zero, Nat.reduceAdd, Nat.reduceSub, Nat.sub_zero, if_true, if_false, Bool.false_eq_true, Bool.true_eq_false, decide_true, decide_false, Bool.not_true, Bool.not_false, Nat.zero_add, ite_true, ite_false, reduceIte, decide_eq_true_eq, Option.some.injEq, hab, legsT, nmul (a := a) (by omega), nmul (a := b) (by omega), he, hl, nsub hb0]
          exact hs
        · obtain ⟨env, hs⟩ := ih (a + 1) b m (by omega) hb (by omega) (by omega) (fun h1 => by
            left
            omega) (.val (.int ((a * a + b * b : Nat) : Int)))
          refine ⟨env, ?_⟩
          simp only [wLoop, b2_told_legs, b1_told_legs, fxSeq, fxSetS, fxSetN, fxIf, fxRet, fxRetN, fxNil, fxBrk, fxCnt, fxFz, frzL, frz1, List.foldl_cons, List.foldl_nil, fxApp, fxExt, fxAug, fxSetIx, fxAsg, fxFor, fxWh, exB, exV, exC, exN, ex1, ex2, exCall, exTup, exLst, exDic, exIf, exAnd, exOr, exNot, exCh, exIsi, exSl, exPart, exLc, evs, txB, txD, txNot, txAnd, txOr, txY, dBool, dTru, dAbs, dInt, dLen, dIsi, is_non, isn_non, non_int, non_bl, non_str, non_tup, non_lst, non_non, gxN, gxT, gxCons, gxNil, ixR1, ixR2, ixV, seqD, Slot.d, mkOwn, D.mut, runF, env0, outD, wipeE, nadd, naddI, add_tup, add_lst, neq, nne, nlt, nle, ngt, nge, eq_bl, ne_bl, ix_tup, ix_lst, Option.bind_some, Option.bind_none, Option.map_some, Option.map_none, List.getElem?_cons_zero, List.getElem?_cons_succ, List.getElem?_nil, List.set_cons_zero, List.set_cons_succ, List.length_cons, List.length_nil, List.map_cons, List.map_nil, List.cons_append, List.nil_append, List.replicate_succ, List.replicate_zero, Nat.reduceAdd, Nat.reduceSub, Nat.sub_zero, if_true, if_false, Bool.false_eq_true, Bool.true_eq_false, decide_true, decide_false, Bool.not_true, Bool.not_false, Nat.zero_add, ite_true, ite_false, reduceIte, decide_eq_true_eq, Option.some.injEq, hab, legsT, nmul (a := a) (by omega), nmul (a := b) (by omega), he, hl]
          exact hs
    · refine ⟨[.val (.int (n : Nat)), .val (.int (b : Nat)), .val (.int (a : Nat)), s], ?_⟩
      simp only [wLoop, b2_told_legs, fxSeq, fxSetS, fxSetN, fxIf, fxRet, fxRetN, fxNil, fxBrk, fxCnt, fxFz, frzL, frz1, List.foldl_cons, List.foldl_nil, fxApp, fxExt, fxAug, fxSetIx, fxAsg, fxFor, fxWh, exB, exV, exC, exN, ex1, ex2, exCall, exTup, exLst, exDic, exIf, exAnd, exOr, exNot, exCh, exIsi, exSl, exPart, exLc, evs, txB, txD, txNot, txAnd, txOr, txY, dBool, dTru, dAbs, dInt, dLen, dIsi, is_non, isn_non, non_int, non_bl, non_str, non_tup, non_lst, non_non, gxN, gxT, gxCons, gxNil, ixR1, ixR2, ixV, seqD, Slot.d, mkOwn, D.mut, runF, env0, outD, wipeE, nadd, naddI, add_tup, add_lst, neq, nne, nlt, nle, ngt, nge, eq_bl, ne_bl, ix_tup, ix_lst, Option.bind_some, Option.bind_none, Option.map_some, Option.map_none, List.getElem?_cons_zero, List.getElem?_cons_succ, List.getElem?_nil, List.set_cons_zero, List.set_cons_succ, List.length_cons, List.length_nil, List.map_cons, List.map_nil, List.cons_append, List.nil_append, List.replicate_succ, List.replicate_zero, Nat.reduceAdd, Nat.reduceSub, Nat.sub_zero, if_true, if_false, Bool.false_eq_true, Bool.true_eq_false, decide_true, decide_false, Bool.not_true, Bool.not_false, Nat.zero_add, ite_true, ite_false, reduceIte, decide_eq_true_eq, Option.some.injEq, hab, legsT]
theorem told_legs_eq (n : Nat) (hn : n < 2025) : φ_told_legs [.int (n : Nat)] = some (legsD (legsL n (List.range 46))) := by
  obtain ⟨b, h1, h2, h3⟩ := root_loop n hn 45 0 10000 (by decide) (by decide) (by decide) (fun c h => by omega)
  have h4 := legs_two n 47 0 b (by omega) (by omega) fun a' b' _ _ hb _ => by
    have := Nat.mul_lt_mul'' hb hb
    omega
  obtain ⟨env, h5⟩ := two_loop n 47 0 b 10000 (by decide) (by omega) (by omega) (by decide) (fun _ => by
    rcases Nat.eq_zero_or_pos b with h | h
    · right
      subst h
      omega
    · left
      exact h) .no
  rw [List.range_eq_range', show List.range' 0 46 = List.range' 0 (46 - 0) from rfl, h4]
  simp only [φ_told_legs, fx_told_legs, fxSeq, fxSetS, fxSetN, fxIf, fxRet, fxRetN, fxNil, fxBrk, fxCnt, fxFz, frzL, frz1, List.foldl_cons, List.foldl_nil, fxApp, fxExt, fxAug, fxSetIx, fxAsg, fxFor, fxWh, exB, exV, exC, exN, ex1, ex2, exCall, exTup, exLst, exDic, exIf, exAnd, exOr, exNot, exCh, exIsi, exSl, exPart, exLc, evs, txB, txD, txNot, txAnd, txOr, txY, dBool, dTru, dAbs, dInt, dLen, dIsi, is_non, isn_non, non_int, non_bl, non_str, non_tup, non_lst, non_non, gxN, gxT, gxCons, gxNil, ixR1, ixR2, ixV, seqD, Slot.d, mkOwn, D.mut, runF, env0, outD, wipeE, nadd, naddI, add_tup, add_lst, neq, nne, nlt, nle, ngt, nge, eq_bl, ne_bl, ix_tup, ix_lst, Option.bind_some, Option.bind_none, Option.map_some, Option.map_none, List.getElem?_cons_zero, List.getElem?_cons_succ, List.getElem?_nil, List.set_cons_zero, List.set_cons_succ, List.length_cons, List.length_nil, List.map_cons, List.map_nil, List.cons_append, List.nil_append, List.replicate_succ, List.replicate_zero, Nat.reduceAdd, Nat.reduceSub, Nat.sub_zero, if_true, if_false, Bool.false_eq_true, Bool.true_eq_false, decide_true, decide_false, Bool.not_true, Bool.not_false, Nat.zero_add, ite_true, ite_false, reduceIte, decide_eq_true_eq, Option.some.injEq, h3, h5]
  cases legsT n 47 0 b with
  | none => rfl
  | some p => rfl
end Sw.k75

namespace Sw.k75
open PySem L2
/-! ### the shared defs -/
theorem draws_is : φ_u_law_draws = cDraws := rfl
theorem cell_is : φ_u_law_cell = cCell := rfl
theorem isf_is : fx_u_law_is = cIsF := rfl
theorem is_is : ∀ n, φ_u_law_is n = cIs n
  | 0 => rfl
  | n + 1 => by
    show runF (fx_u_law_is (φ_u_law_is n)) 3 2 = runF (cIsF (cIs n)) 3 2
    rw [is_is n, isf_is]
theorem same {d : D} (h : D.pl 6 d = true) : φ_u_law_is 6 [d, d] = some (.bl true) := by
  rw [is_is]
  exact is_refl 6 d h
/-! ### legs or sills -/
theorem legs_T (n : Nat) : legsL n (List.range 46) = legsT n 47 0 45 := by
  rw [List.range_eq_range', show List.range' 0 46 = List.range' 0 (46 - 0) from rfl]
  exact legs_two n 47 0 45 (by omega) (by omega) fun a' b' _ _ h1 h2 => by omega
theorem either_all : ((List.range 2025).all fun n => (legsT n 47 0 45).isNone == decide (0 < (sillsN n).length)) = true := by decide +kernel
theorem either (n : Nat) (hn : n < 2025) : (legsL n (List.range 46)).isNone = decide (0 < (sillsN n).length) := by
  have := List.all_eq_true.mp either_all n (List.mem_range.mpr hn)
  rw [legs_T]
  exact beq_iff_eq.mp this
theorem sums_all : ((List.range 32).all fun a => (List.range 32).all fun b => (legsT (a * a + b * b) 47 0 45).isSome) = true := by decide +kernel
theorem sums_have (a b : Nat) (ha : a < 32) (hb : b < 32) : ∃ p, legsL (a * a + b * b) (List.range 46) = some p := by
  have := List.all_eq_true.mp (List.all_eq_true.mp sums_all a (List.mem_range.mpr ha)) b (List.mem_range.mpr hb)
  rw [legs_T]
  exact Option.isSome_iff_exists.mp this
theorem odds_all : ((List.range 220).all fun a => (List.range 2).all fun b => (sillsN (3 * (3 * a + 1 + b))).head?.isSome) = true := by decide +kernel
theorem odds_have (a b : Nat) (ha : a < 220) (hb : b < 2) : ∃ p, (sillsN (3 * (3 * a + 1 + b))).head? = some p := by
  have := List.all_eq_true.mp (List.all_eq_true.mp odds_all a (List.mem_range.mpr ha)) b (List.mem_range.mpr hb)
  exact Option.isSome_iff_exists.mp this
theorem sills_len (n : Nat) : (sillsN n).length ≤ 50 := by
  unfold sillsN
  refine Nat.le_trans (List.length_filter_le _ _) ?_
  have := fold_len (List.range' 2 43) ([], n)
  rw [List.length_range'] at this
  simp only [List.length_nil] at this
  split
  · rw [List.length_append, List.length_singleton]
    omega
  · omega

theorem dns_len (l : List Nat) : (dns l).length = l.length := List.length_map ..
/-! ### nets -/
def divsN (n : Nat) : List Nat := (List.range' 1 n).filter fun d => decide (n % d = 0)
def netsN (n : Nat) : Int := 4 * ((((divsN n).filter fun d => decide (d % 4 = 1)).length : Int) - (((divsN n).filter fun d => decide (d % 4 = 3)).length : Int))
theorem nets_eq (n : Nat) (hn : n < 1000) : φ_nets_at [.int (n : Nat)] = some (.int (netsN n)) := by
  have hr : rgD ((1 : Nat) : Int) ((n + 1 : Nat) : Int) = some ((List.range' 1 n).map fun i => .int (i : Nat)) := by
    rw [rg_nat2 (by omega) (by decide)]
    rfl
  have h1 : lcGo (gxN 2) b3_nets_at (exV 2) [.val (.int (n : Nat)), .no, .no] ((List.range' 1 n).map fun i => .int (i : Nat)) = some (dns (divsN n)) :=
    lc_fm (c := fun p : Nat => D.int (p : Nat)) (y := fun p : Nat => D.int (p : Nat)) fun p hp => by
      have h0 : 0 < p := by
        obtain ⟨i, hi, rfl⟩ := List.mem_range'.mp hp
        omega
      exact ⟨_, rfl, by simp only [b3_nets_at, fxSeq, fxSetS, fxSetN, fxIf, fxRet, fxRetN, fxNil, fxBrk, fxCnt, fxFz, frzL, frz1, List.foldl_cons, List.foldl_nil, fxApp, fxExt, fxAug, fxSetIx, fxAsg, fxFor, fxWh, exB, exV, exC, exN, ex1, ex2, exCall, exTup, exLst, exDic, exIf, exAnd, exOr, exNot, exCh, exIsi, exSl, exPart, exLc, evs, txB, txD, txNot, txAnd, txOr, txY, dBool, dTru, dAbs, dInt, dLen, dIsi, is_non, isn_non, non_int, non_bl, non_str, non_tup, non_lst, non_non, gxN, gxT, gxCons, gxNil, ixR1, ixR2, ixV, seqD, Slot.d, mkOwn, D.mut, runF, env0, outD, wipeE, nadd, naddI, add_tup, add_lst, neq, nne, nlt, nle, ngt, nge, eq_bl, ne_bl, ix_tup, ix_lst, Option.bind_some, Option.bind_none, Option.map_some, Option.map_none, List.getElem?_cons_zero, List.getElem?_cons_succ, List.getElem?_nil, List.set_cons_zero, List.set_cons_succ, List.length_cons, List.length_nil, List.map_cons, List.map_nil, List.cons_append, List.nil_append, List.replicate_succ, List.replicate_zero, Nat.reduceAdd, Nat.reduceSub, Nat.sub_zero, if_true, if_false, Bool.false_eq_true, Bool.true_eq_false, decide_true, decide_false, Bool.not_true, Bool.not_false, Nat.zero_add, ite_true, ite_false, reduceIte, decide_eq_true_eq, Option.some.injEq, nmod h0], fun _ => rfl⟩
  have h2 : lcGo (gxN 2) b1_nets_at (exV 2) [.val (.int (n : Nat)), .val (.lst (dns (divsN n))), .no] (dns (divsN n)) = some (dns ((divsN n).filter fun d => decide (d % 4 = 1))) :=
    lc_fm (c := fun p : Nat => D.int (p : Nat)) (y := fun p : Nat => D.int (p : Nat)) fun p hp => ⟨_, rfl, by simp only [b1_nets_at, fxSeq, fxSetS, fxSetN, fxIf, fxRet, fxRetN, fxNil, fxBrk, fxCnt, fxFz, frzL, frz1, List.foldl_cons, List.foldl_nil, fxApp, fxExt, fxAug, fxSetIx, fxAsg, fxFor, fxWh, exB, exV, exC, exN, ex1, ex2, exCall, exTup, exLst, exDic, exIf, exAnd, exOr, exNot, exCh, exIsi, exSl, exPart, exLc, evs, txB, txD, txNot, txAnd, txOr, txY, dBool, dTru, dAbs, dInt, dLen, dIsi, is_non, isn_non, non_int, non_bl, non_str, non_tup, non_lst, non_non, gxN, gxT, gxCons, gxNil, ixR1, ixR2, ixV, seqD, Slot.d, mkOwn, D.mut, runF, env0, outD, wipeE, nadd, naddI, add_tup, add_lst, neq, nne, nlt, nle, ngt, nge, eq_bl, ne_bl, ix_tup, ix_lst, Option.bind_some, Option.bind_none, Option.map_some, Option.map_none, List.getElem?_cons_zero, List.getElem?_cons_succ, List.getElem?_nil, List.set_cons_zero, List.set_cons_succ, List.length_cons, List.length_nil, List.map_cons, List.map_nil, List.cons_append, List.nil_append, List.replicate_succ, List.replicate_zero, Nat.reduceAdd, Nat.reduceSub, Nat.sub_zero, if_true, if_false, Bool.false_eq_true, Bool.true_eq_false, decide_true, decide_false, Bool.not_true, Bool.not_false, Nat.zero_add, ite_true, ite_false, reduceIte, decide_eq_true_eq, Option.some.injEq, nmod (b := 4) (by decide)], fun _ => rfl⟩
  have h3 : lcGo (gxN 2) b2_nets_at (exV 2) [.val (.int (n : Nat)), .val (.lst (dns (divsN n))), .no] (dns (divsN n)) = some (dns ((divsN n).filter fun d => decide (d % 4 = 3))) :=
    lc_fm (c := fun p : Nat => D.int (p : Nat)) (y := fun p : Nat => D.int (p : Nat)) fun p hp => ⟨_, rfl, by simp only [b2_nets_at, fxSeq, fxSetS, fxSetN, fxIf, fxRet, fxRetN, fxNil, fxBrk, fxCnt, fxFz, frzL, frz1, List.foldl_cons, List.foldl_nil, fxApp, fxExt, fxAug, fxSetIx, fxAsg, fxFor, fxWh, exB, exV, exC, exN, ex1, ex2, exCall, exTup, exLst, exDic, exIf, exAnd, exOr, exNot, exCh, exIsi, exSl, exPart, exLc, evs, txB, txD, txNot, txAnd, txOr, txY, dBool, dTru, dAbs, dInt, dLen, dIsi, is_non, isn_non, non_int, non_bl, non_str, non_tup, non_lst, non_non, gxN, gxT, gxCons, gxNil, ixR1, ixR2, ixV, seqD, Slot.d, mkOwn, D.mut, runF, env0, outD, wipeE, nadd, naddI, add_tup, add_lst, neq, nne, nlt, nle, ngt, nge, eq_bl, ne_bl, ix_tup, ix_lst, Option.bind_some, Option.bind_none, Option.map_some, Option.map_none, List.getElem?_cons_zero, List.getElem?_cons_succ, List.getElem?_nil, List.set_cons_zero, List.set_cons_succ, List.length_cons, List.length_nil, List.map_cons, List.map_nil, List.cons_append, List.nil_append, List.replicate_succ, List.replicate_zero, Nat.reduceAdd, Nat.reduceSub, Nat.sub_zero, if_true, if_false, Bool.false_eq_true, Bool.true_eq_false, decide_true, decide_false, Bool.not_true, Bool.not_false, Nat.zero_add, ite_true, ite_false, reduceIte, decide_eq_true_eq, Option.some.injEq, nmod (b := 4) (by decide)], fun _ => rfl⟩
  simp only [φ_nets_at, fx_nets_at, fxSeq, fxSetS, fxSetN, fxIf, fxRet, fxRetN, fxNil, fxBrk, fxCnt, fxFz, frzL, frz1, List.foldl_cons, List.foldl_nil, fxApp, fxExt, fxAug, fxSetIx, fxAsg, fxFor, fxWh, exB, exV, exC, exN, ex1, ex2, exCall, exTup, exLst, exDic, exIf, exAnd, exOr, exNot, exCh, exIsi, exSl, exPart, exLc, evs, txB, txD, txNot, txAnd, txOr, txY, dBool, dTru, dAbs, dInt, dLen, dIsi, is_non, isn_non, non_int, non_bl, non_str, non_tup, non_lst, non_non, gxN, gxT, gxCons, gxNil, ixR1, ixR2, ixV, seqD, Slot.d, mkOwn, D.mut, runF, env0, outD, wipeE, nadd, naddI, add_tup, add_lst, neq, nne, nlt, nle, ngt, nge, eq_bl, ne_bl, ix_tup, ix_lst, Option.bind_some, Option.bind_none, Option.map_some, Option.map_none, List.getElem?_cons_zero, List.getElem?_cons_succ, List.getElem?_nil, List.set_cons_zero, List.set_cons_succ, List.length_cons, List.length_nil, List.map_cons, List.map_nil, List.cons_append, List.nil_append, List.replicate_succ, List.replicate_zero, Nat.reduceAdd, Nat.reduceSub, Nat.sub_zero, if_true, if_false, Bool.false_eq_true, Bool.true_eq_false, decide_true, decide_false, Bool.not_true, Bool.not_false, Nat.zero_add, ite_true, ite_false, reduceIte, decide_eq_true_eq, Option.some.injEq, hr, h1, h2, h3, sub_int, mul_l (a := ((4 : Nat) : Int)) rfl, dns_len]
  rfl
def sqs : List Nat := (List.range 41).map fun i => if i < 20 then (20 - i) * (20 - i) else (i - 20) * (i - 20)
def cntB (n : Nat) : Nat := (sqs.map fun a => (sqs.filter fun b => Nat.beq (a + b) n).length).sum
def cntN (n : Nat) : Nat := (sqs.map fun a => (sqs.filter fun b => decide (a + b = n)).length).sum
theorem beq_dec (a b : Nat) : Nat.beq a b = decide (a = b) := by
  rw [Bool.eq_iff_iff, decide_eq_true_eq]
  exact Nat.beq_eq ▸ Iff.rfl
theorem cnt_same (n : Nat) : cntB n = cntN n := by
  unfold cntB cntN
  simp only [beq_dec]
def netsB (n : Nat) : Int := 4 * (((((List.range' 1 n).filter fun d => Nat.beq (n % d) 0).filter fun d => Nat.beq (d % 4) 1).length : Int) - ((((List.range' 1 n).filter fun d => Nat.beq (n % d) 0).filter fun d => Nat.beq (d % 4) 3).length : Int))
theorem nets_same (n : Nat) : netsB n = netsN n := by
  unfold netsB netsN divsN
  simp only [beq_dec]
theorem twenty : rgD (-20) 21 = some ((List.range 41).map fun i => .int (-20 + (i : Nat))) := by
  rw [rgD_ok (by decide) (by decide) (by decide)]
  rfl
theorem sq_of (i : Nat) (hi : i < 41) : ((-20 + (i : Int)) * (-20 + (i : Int))) = ((if i < 20 then (20 - i) * (20 - i) else (i - 20) * (i - 20) : Nat) : Int) := by
  split
  · rename_i h
    have : (-20 + (i : Int)) = -((20 - i : Nat) : Int) := by omega
    rw [this, Int.neg_mul_neg, Int.natCast_mul]
  · have : (-20 + (i : Int)) = ((i - 20 : Nat) : Int) := by omega
    rw [this, Int.natCast_mul]
def sqv (i : Nat) : Nat := if i < 20 then (20 - i) * (20 - i) else (i - 20) * (i - 20)
theorem counted_row (n t : Nat) (i : Nat) (hi : i < 41) (s3 : Slot) : b2_u_law_counted [.val (.int (n : Nat)), .val (.int (t : Nat)), .val (.int (-20 + (i : Nat))), s3] = some (.nx [.val (.int (n : Nat)), .val (.int ((t + (sqs.filter fun b => decide (sqv i + b = n)).length : Nat) : Int)), .val (.int (-20 + (i : Nat))), s3]) := by
  have h1 : lcGo (gxN 3) b1_u_law_counted (exV 3) [.val (.int (n : Nat)), .val (.int (t : Nat)), .val (.int (-20 + (i : Nat))), .no] ((List.range 41).map fun j => .int (-20 + (j : Nat))) = some (((List.range 41).filter fun j => decide (sqv i + sqv j = n)).map fun j => .int (-20 + (j : Nat))) :=
    lc_fm (c := fun j : Nat => D.int (-20 + (j : Nat))) (y := fun j : Nat => D.int (-20 + (j : Nat))) fun j hj => by
      have hj := List.mem_range.mp hj
      refine ⟨_, rfl, ?_, fun _ => rfl⟩
      have e1 : dMul (.int (-20 + (i : Nat))) (.int (-20 + (i : Nat))) = some (.int (sqv i : Nat)) := by
        rw [mul_ok (by omega), sq_of i hi]
        rfl
      have e2 : dMul (.int (-20 + (j : Nat))) (.int (-20 + (j : Nat))) = some (.int (sqv j : Nat)) := by
        rw [mul_ok (by omega), sq_of j hj]
        rfl
      simp only [b1_u_law_counted, fxSeq, fxSetS, fxSetN, fxIf, fxRet, fxRetN, fxNil, fxBrk, fxCnt, fxFz, frzL, frz1, List.foldl_cons, List.foldl_nil, fxApp, fxExt, fxAug, fxSetIx, fxAsg, fxFor, fxWh, exB, exV, exC, exN, ex1, ex2, exCall, exTup, exLst, exDic, exIf, exAnd, exOr, exNot, exCh, exIsi, exSl, exPart, exLc, evs, txB, txD, txNot, txAnd, txOr, txY, dBool, dTru, dAbs, dInt, dLen, dIsi, is_non, isn_non, non_int, non_bl, non_str, non_tup, non_lst, non_non, gxN, gxT, gxCons, gxNil, ixR1, ixR2, ixV, seqD, Slot.d, mkOwn, D.mut, runF, env0, outD, wipeE, nadd, naddI, add_tup, add_lst, neq, nne, nlt, nle, ngt, nge, eq_bl, ne_bl, ix_tup, ix_lst, Option.bind_some, Option.bind_none, Option.map_some, Option.map_none, List.getElem?_cons_zero, List.getElem?_cons_succ, List.getElem?_nil, List.set_cons_zero, List.set_cons_succ, List.length_cons, List.length_nil, List.map_cons, List.map_nil, List.cons_append, List.nil_append, List.replicate_succ, List.replicate_zero, Nat.reduceAdd, Nat.reduceSub, Nat.sub_zero, if_true, if_false, Bool.false_eq_true, Bool.true_eq_false, decide_true, decide_false, Bool.not_true, Bool.not_false, Nat.zero_add, ite_true, ite_false, reduceIte, decide_eq_true_eq, Option.some.injEq, e1, e2]
  have h2 : (sqs.filter fun b => decide (sqv i + b = n)).length = ((List.range 41).filter fun j => decide (sqv i + sqv j = n)).length := by
    have : sqs = (List.range 41).map sqv := rfl
    rw [this, List.filter_map, List.length_map]
    rfl
  have e0 : dSub (.int ((0 : Nat) : Int)) (.int ((20 : Nat) : Int)) = some (.int (-20)) := rfl
  have hr : rgD (-20) ((21 : Nat) : Int) = _ := twenty
  rw [h2]
  simp only [b2_u_law_counted, fxSeq, fxSetS, fxSetN, fxIf, fxRet, fxRetN, fxNil, fxBrk, fxCnt, fxFz, frzL, frz1, List.foldl_cons, List.foldl_nil, fxApp, fxExt, fxAug, fxSetIx, fxAsg, fxFor, fxWh, exB, exV, exC, exN, ex1, ex2, exCall, exTup, exLst, exDic, exIf, exAnd, exOr, exNot, exCh, exIsi, exSl, exPart, exLc, evs, txB, txD, txNot, txAnd, txOr, txY, dBool, dTru, dAbs, dInt, dLen, dIsi, is_non, isn_non, non_int, non_bl, non_str, non_tup, non_lst, non_non, gxN, gxT, gxCons, gxNil, ixR1, ixR2, ixV, seqD, Slot.d, mkOwn, D.mut, runF, env0, outD, wipeE, nadd, naddI, add_tup, add_lst, neq, nne, nlt, nle, ngt, nge, eq_bl, ne_bl, ix_tup, ix_lst, Option.bind_some, Option.bind_none, Option.map_some, Option.map_none, List.getElem?_cons_zero, List.getElem?_cons_succ, List.getElem?_nil, List.set_cons_zero, List.set_cons_succ, List.length_cons, List.length_nil, List.map_cons, List.map_nil, List.cons_append, List.nil_append, List.replicate_succ, List.replicate_zero, Nat.reduceAdd, Nat.reduceSub, Nat.sub_zero, if_true, if_false, Bool.false_eq_true, Bool.true_eq_false, decide_true, decide_false, Bool.not_true, Bool.not_false, Nat.zero_add, ite_true, ite_false, reduceIte, decide_eq_true_eq, Option.some.injEq, e0, hr, h1, List.length_map]
theorem fold_sum (n : Nat) : ∀ (l : List Nat) (t : Nat), l.foldl (fun t i => t + (sqs.filter fun b => decide (sqv i + b = n)).length) t = t + (l.map fun i => (sqs.filter fun b => decide (sqv i + b = n)).length).sum := by
  intro l
  induction l with
  | nil => exact fun t => rfl
  | cons a l ih =>
    intro t
    rw [List.foldl_cons, ih, List.map_cons, List.sum_cons]
    omega
theorem nets_all0 : ((List.range' 0 50).all fun n => Nat.beq n 0 || decide (netsB n = (cntB n : Nat))) = true := by decide +kernel
theorem nets_all1 : ((List.range' 50 50).all fun n => Nat.beq n 0 || decide (netsB n = (cntB n : Nat))) = true := by decide +kernel
theorem nets_all2 : ((List.range' 100 50).all fun n => Nat.beq n 0 || decide (netsB n = (cntB n : Nat))) = true := by decide +kernel
theorem nets_all3 : ((List.range' 150 50).all fun n => Nat.beq n 0 || decide (netsB n = (cntB n : Nat))) = true := by decide +kernel
theorem nets_all4 : ((List.range' 200 50).all fun n => Nat.beq n 0 || decide (netsB n = (cntB n : Nat))) = true := by decide +kernel
theorem nets_all5 : ((List.range' 250 50).all fun n => Nat.beq n 0 || decide (netsB n = (cntB n : Nat))) = true := by decide +kernel
theorem nets_all6 : ((List.range' 300 50).all fun n => Nat.beq n 0 || decide (netsB n = (cntB n : Nat))) = true := by decide +kernel
theorem nets_all7 : ((List.range' 350 50).all fun n => Nat.beq n 0 || decide (netsB n = (cntB n : Nat))) = true := by decide +kernel
theorem counted_eq (n : Nat) (h0 : 0 < n) (hn : n < 400) : φ_u_law_counted [.int (n : Nat)] = some (.bl true) := by
  have hn2 : netsN n = (cntN n : Nat) := by
    have key : ∀ a, ((List.range' a 50).all fun n => Nat.beq n 0 || decide (netsB n = (cntB n : Nat))) = true → a ≤ n → n < a + 50 → netsN n = (cntN n : Nat) := fun a ha h1 h2 => by
      have := List.all_eq_true.mp ha n (List.mem_range'.mpr ⟨n - a, by omega, by omega⟩)
      simp only [Bool.or_eq_true, decide_eq_true_eq, beq_dec] at this
      rw [nets_same, cnt_same] at this
      rcases this with h | h
      · omega
      · exact h
    rcases Nat.lt_or_ge n 200 with h | h
    · rcases Nat.lt_or_ge n 100 with h | h
      · rcases Nat.lt_or_ge n 50 with h | h
        · exact key 0 nets_all0 (by omega) (by omega)
        · exact key 50 nets_all1 (by omega) (by omega)
      · rcases Nat.lt_or_ge n 150 with h | h
        · exact key 100 nets_all2 (by omega) (by omega)
        · exact key 150 nets_all3 (by omega) (by omega)
    · rcases Nat.lt_or_ge n 300 with h | h
      · rcases Nat.lt_or_ge n 250 with h | h
        · exact key 200 nets_all4 (by omega) (by omega)
        · exact key 250 nets_all5 (by omega) (by omega)
      · rcases Nat.lt_or_ge n 350 with h | h
        · exact key 300 nets_all6 (by omega) (by omega)
        · exact key 350 nets_all7 (by omega) (by omega)
  obtain ⟨env', h1, s2, s3, rfl⟩ := for_nx (gt := gxN 2) (g := b2_u_law_counted) (c := fun i : Nat => D.int (-20 + (i : Nat))) (R := fun (t : Nat) env => ∃ s2 s3, env = [.val (.int (n : Nat)), .val (.int (t : Nat)), s2, s3]) (tr := fun t i => t + (sqs.filter fun b => decide (sqv i + b = n)).length) (xs := List.range 41) (s := 0)
    (env := [.val (.int (n : Nat)), .val (.int ((0 : Nat) : Int)), .no, .no]) (fun t env i hi ⟨s2, s3, hr⟩ => by
      subst hr
      exact ⟨_, _, rfl, .inl (counted_row n t i (List.mem_range.mp hi) s3), _, _, rfl⟩) ⟨_, _, rfl⟩
  have h2 : (List.range 41).foldl (fun t i => t + (sqs.filter fun b => decide (sqv i + b = n)).length) 0 = cntN n := by
    rw [fold_sum]
    have : sqs = (List.range 41).map sqv := rfl
    unfold cntN
    rw [show (sqs.map fun a => (sqs.filter fun b => decide (a + b = n)).length) = (List.range 41).map fun i => (sqs.filter fun b => decide (sqv i + b = n)).length by
      conv => lhs; arg 2; rw [this]
      rw [List.map_map]
      rfl]
    omega
  rw [h2] at h1
  have e0 : dSub (.int ((0 : Nat) : Int)) (.int ((20 : Nat) : Int)) = some (.int (-20)) := rfl
  have hr : rgD (-20) ((21 : Nat) : Int) = _ := twenty
  have hs := same (d := .int (cntN n : Nat)) rfl
  have hq := nets_eq n (by omega)
  rw [hn2] at hq
  simp only [φ_u_law_counted, fx_u_law_counted, fxSeq, fxSetS, fxSetN, fxIf, fxRet, fxRetN, fxNil, fxBrk, fxCnt, fxFz, frzL, frz1, List.foldl_cons, List.foldl_nil, fxApp, fxExt, fxAug, fxSetIx, fxAsg, fxFor, fxWh, exB, exV, exC, exN, ex1, ex2, exCall, exTup, exLst, exDic, exIf, exAnd, exOr, exNot, exCh, exIsi, exSl, exPart, exLc, evs, txB, txD, txNot, txAnd, txOr, txY, dBool, dTru, dAbs, dInt, dLen, dIsi, is_non, isn_non, non_int, non_bl, non_str, non_tup, non_lst, non_non, gxN, gxT, gxCons, gxNil, ixR1, ixR2, ixV, seqD, Slot.d, mkOwn, D.mut, runF, env0, outD, wipeE, nadd, naddI, add_tup, add_lst, neq, nne, nlt, nle, ngt, nge, eq_bl, ne_bl, ix_tup, ix_lst, Option.bind_some, Option.bind_none, Option.map_some, Option.map_none, List.getElem?_cons_zero, List.getElem?_cons_succ, List.getElem?_nil, List.set_cons_zero, List.set_cons_succ, List.length_cons, List.length_nil, List.map_cons, List.map_nil, List.cons_append, List.nil_append, List.replicate_succ, List.replicate_zero, Nat.reduceAdd, Nat.reduceSub, Nat.sub_zero, if_true, if_false, Bool.false_eq_true, Bool.true_eq_false, decide_true, decide_false, Bool.not_true, Bool.not_false, Nat.zero_add, ite_true, ite_false, reduceIte, decide_eq_true_eq, Option.some.injEq, e0, hr, h1, hq, hs]

/-! ### asked -/
theorem asked_eq (n : Nat) (hn : n < 2025) (dr : D) (hd : ∀ i : Nat, i < 3 → ∃ x : Nat, dIx dr (.int (i : Nat)) = some (.int (x : Nat))) : φ_u_law_asked [.int (n : Nat), dr] = some (.bl true) := by
  have hL := legs_eq n
  have hT := told_legs_eq n hn
  have hS := sills_eq n (by omega)
  have hD := told_eq n hn
  have hE := either n hn
  have hz := sills_len n
  generalize hl : legsL n (List.range 46) = L at *
  generalize hs : sillsN n = S at *
  have e1 : dIs (legsD L) .non = some (.bl L.isNone) := by
    cases L with
    | none => rfl
    | some p => rfl
  have e2 : φ_u_law_is 6 [legsD L, legsD L] = some (.bl true) := same (by
    cases L with
    | none => rfl
    | some p => rfl)
  have e3 : φ_u_law_is 6 [natD S.head?, natD S.head?] = some (.bl true) := same (by
    cases S with
    | nil => rfl
    | cons a S => rfl)
  have e4 : dNe (.bl L.isNone) (.bl (decide (0 < S.length))) = some (.bl false) := by
    rw [hE, ne_bl]
    simp
  have e5 : exIf (txB (ex2 dGt (exCall dLen [(exB 3)]) (exN 0))) (ex2 dIx (exB 3) (exN 0)) (exC .non) [.val (.int (n : Nat)), .val dr, .val (legsD L), .val (.lst (dns S)), .no, .no, .no] = some (natD S.head?) := by
    cases S with
    | nil => rfl
    | cons a S =>
      have h0 : 0 < (dns (a :: S)).length := by simp [dns]
      have h1 : atI (dns (a :: S)) ((0 : Nat) : Int) = some (.int (a : Nat)) := atI_n rfl
      simp only [fxSeq, fxSetS, fxSetN, fxIf, fxRet, fxRetN, fxNil, fxBrk, fxCnt, fxFz, frzL, frz1, List.foldl_cons, List.foldl_nil, fxApp, fxExt, fxAug, fxSetIx, fxAsg, fxFor, fxWh, exB, exV, exC, exN, ex1, ex2, exCall, exTup, exLst, exDic, exIf, exAnd, exOr, exNot, exCh, exIsi, exSl, exPart, exLc, evs, txB, txD, txNot, txAnd, txOr, txY, dBool, dTru, dAbs, dInt, dLen, dIsi, is_non, isn_non, non_int, non_bl, non_str, non_tup, non_lst, non_non, gxN, gxT, gxCons, gxNil, ixR1, ixR2, ixV, seqD, Slot.d, mkOwn, D.mut, runF, env0, outD, wipeE, nadd, naddI, add_tup, add_lst, neq, nne, nlt, nle, ngt, nge, eq_bl, ne_bl, ix_tup, ix_lst, Option.bind_some, Option.bind_none, Option.map_some, Option.map_none, List.getElem?_cons_zero, List.getElem?_cons_succ, List.getElem?_nil, List.set_cons_zero, List.set_cons_succ, List.length_cons, List.length_nil, List.map_cons, List.map_nil, List.cons_append, List.nil_append, List.replicate_succ, List.replicate_zero, Nat.reduceAdd, Nat.reduceSub, Nat.sub_zero, if_true, if_false, Bool.false_eq_true, Bool.true_eq_false, decide_true, decide_false, Bool.not_true, Bool.not_false, Nat.zero_add, ite_true, ite_false, reduceIte, decide_eq_true_eq, Option.some.injEq, h0, h1]
      rfl
  obtain ⟨x0, hx0⟩ := hd 0 (by decide)
  obtain ⟨x1, hx1⟩ := hd 1 (by decide)
  obtain ⟨x2, hx2⟩ := hd 2 (by decide)
  generalize hA : ([-3, -1, 0, 1, 2, 3, 4, 7, 9, 15, 27, (n : Int), (n : Int) / 3, 100000000000000000003] : List Int) = A
  have hAl : A.length = 14 := by rw [← hA]; rfl
  have hp : dPow (.int 10) (.int 20) = some (.int 100000000000000000000) := rfl
  have f1 : exLst [(ex2 dSub (exN 0) (exN 3)), (ex2 dSub (exN 0) (exN 1)), (exN 0), (exN 1), (exN 2), (exN 3), (exN 4), (exN 7), (exN 9), (exN 15), (exN 27), (exV 0), (ex2 dDiv (exB 0) (exN 3)), (ex2 dAdd (ex2 dPow (exN 10) (exN 20)) (exN 3))] [.val (.int (n : Nat)), .val dr, .val (legsD L), .val (.lst (dns S)), .no, .no, .no] = some (.lst (A.map D.int)) := by
    have e8 : dDiv (.int (n : Nat)) (.int 3) = some (.int ((n : Int) / 3)) := div_ok (by decide) (by decide)
    rw [← hA]
    simp only [fxSeq, fxSetS, fxSetN, fxIf, fxRet, fxRetN, fxNil, fxBrk, fxCnt, fxFz, frzL, frz1, List.foldl_cons, List.foldl_nil, fxApp, fxExt, fxAug, fxSetIx, fxAsg, fxFor, fxWh, exB, exV, exC, exN, Int.cast_ofNat_Int, Int.natCast_zero, Int.natCast_one, ex1, ex2, exCall, exTup, exLst, exDic, exIf, exAnd, exOr, exNot, exCh, exIsi, exSl, exPart, exLc, evs, txB, txD, txNot, txAnd, txOr, txY, dBool, dTru, dAbs, dInt, dLen, dIsi, is_non, isn_non, non_int, non_bl, non_str, non_tup, non_lst, non_non, gxN, gxT, gxCons, gxNil, ixR1, ixR2, ixV, seqD, Slot.d, mkOwn, D.mut, runF, env0, outD, wipeE, add_int, sub_int, add_tup, add_lst, eq_int, ne_int, lt_int, le_int, gt_int, ge_int, eq_bl, ne_bl, ix_tup, ix_lst, Option.bind_some, Option.bind_none, Option.map_some, Option.map_none, List.getElem?_cons_zero, List.getElem?_cons_succ, List.getElem?_nil, List.set_cons_zero, List.set_cons_succ, List.length_cons, List.length_nil, List.map_cons, List.map_nil, List.cons_append, List.nil_append, List.replicate_succ, List.replicate_zero, Nat.reduceAdd, Nat.reduceSub, Nat.sub_zero, if_true, if_false, Bool.false_eq_true, Bool.true_eq_false, decide_true, decide_false, Bool.not_true, Bool.not_false, Nat.zero_add, ite_true, ite_false, reduceIte, decide_eq_true_eq, Option.some.injEq, hp, e8]
    rfl
  have f2 : lcGo (gxN 5) txY b1_u_law_asked [.val (.int (n : Nat)), .val dr, .val (legsD L), .val (.lst (dns S)), .val (.lst (A.map D.int ++ dns S)), .no, .no] ((List.range 3).map fun i => .int (i : Nat)) = some ([x0 % (n + 3), x1 % (n + 3), x2 % (n + 3)].map fun x : Nat => D.int (x : Nat)) := by
    have hm : ∀ x : Nat, dMod (.int (x : Nat)) (.int ((n + 3 : Nat) : Int)) = some (.int ((x % (n + 3) : Nat) : Int)) := fun x => nmod (by omega)
    simp only [show List.range 3 = [0, 1, 2] from rfl, List.map_cons, List.map_nil, lcGo, b1_u_law_asked, fxSeq, fxSetS, fxSetN, fxIf, fxRet, fxRetN, fxNil, fxBrk, fxCnt, fxFz, frzL, frz1, List.foldl_cons, List.foldl_nil, fxApp, fxExt, fxAug, fxSetIx, fxAsg, fxFor, fxWh, exB, exV, exC, exN, ex1, ex2, exCall, exTup, exLst, exDic, exIf, exAnd, exOr, exNot, exCh, exIsi, exSl, exPart, exLc, evs, txB, txD, txNot, txAnd, txOr, txY, dBool, dTru, dAbs, dInt, dLen, dIsi, is_non, isn_non, non_int, non_bl, non_str, non_tup, non_lst, non_non, gxN, gxT, gxCons, gxNil, ixR1, ixR2, ixV, seqD, Slot.d, mkOwn, D.mut, runF, env0, outD, wipeE, nadd, naddI, add_tup, add_lst, neq, nne, nlt, nle, ngt, nge, eq_bl, ne_bl, ix_tup, ix_lst, Option.bind_some, Option.bind_none, Option.map_some, Option.map_none, List.getElem?_cons_zero, List.getElem?_cons_succ, List.getElem?_nil, List.set_cons_zero, List.set_cons_succ, List.length_cons, List.length_nil, List.map_cons, List.map_nil, List.cons_append, List.nil_append, List.replicate_succ, List.replicate_zero, Nat.reduceAdd, Nat.reduceSub, Nat.sub_zero, if_true, if_false, Bool.false_eq_true, Bool.true_eq_false, decide_true, decide_false, Bool.not_true, Bool.not_false, Nat.zero_add, ite_true, ite_false, reduceIte, decide_eq_true_eq, Option.some.injEq, hx0, hx1, hx2, hm]
  have hlen : (A.map D.int).length + (dns S).length ≤ sizeLine := by
    rw [line_eq, List.length_map, dns, List.length_map]
    omega
  have hlen2 : (A.map D.int ++ dns S).length + 3 ≤ sizeLine := by
    rw [line_eq, List.length_append, List.length_map, dns, List.length_map]
    omega
  have f3 : A.map D.int ++ dns S ++ [D.int ((x0 % (n + 3) : Nat) : Int), .int ((x1 % (n + 3) : Nat) : Int), .int ((x2 % (n + 3) : Nat) : Int)] = (A ++ S.map (fun x : Nat => (x : Int)) ++ [((x0 % (n + 3) : Nat) : Int), ((x1 % (n + 3) : Nat) : Int), ((x2 % (n + 3) : Nat) : Int)]).map D.int := by
    simp [dns]
  generalize hQ : A ++ S.map (fun x : Nat => (x : Int)) ++ [((x0 % (n + 3) : Nat) : Int), ((x1 % (n + 3) : Nat) : Int), ((x2 % (n + 3) : Nat) : Int)] = Q at f3
  have f4 : lcGo (gxN 6) (txNot (txD (exCall (φ_u_law_is 6) [(exCall φ_is_sill [(exV 0), (exV 6)]), (exCall φ_u_law_sill [(exV 0), (exV 6)])]))) (exV 6) [.val (.int (n : Nat)), .val dr, .val (legsD L), .val (.lst (dns S)), .val (.lst (Q.map D.int)), .no, .no] (Q.map D.int) = some [] := by
    have := lc_fm (gt := gxN 6) (t := txNot (txD (exCall (φ_u_law_is 6) [(exCall φ_is_sill [(exV 0), (exV 6)]), (exCall φ_u_law_sill [(exV 0), (exV 6)])]))) (f := exV 6) (env := [.val (.int (n : Nat)), .val dr, .val (legsD L), .val (.lst (dns S)), .val (.lst (Q.map D.int)), .no, .no]) (c := D.int) (p := fun _ => false) (y := D.int) (xs := Q) fun p _ => by
      obtain ⟨b, h1, h2⟩ := sill_same n p hn
      have h3 : φ_u_law_is 6 [.bl b, .bl b] = some (.bl true) := same rfl
      exact ⟨_, rfl, by simp only [fxSeq, fxSetS, fxSetN, fxIf, fxRet, fxRetN, fxNil, fxBrk, fxCnt, fxFz, frzL, frz1, List.foldl_cons, List.foldl_nil, fxApp, fxExt, fxAug, fxSetIx, fxAsg, fxFor, fxWh, exB, exV, exC, exN, ex1, ex2, exCall, exTup, exLst, exDic, exIf, exAnd, exOr, exNot, exCh, exIsi, exSl, exPart, exLc, evs, txB, txD, txNot, txAnd, txOr, txY, dBool, dTru, dAbs, dInt, dLen, dIsi, is_non, isn_non, non_int, non_bl, non_str, non_tup, non_lst, non_non, gxN, gxT, gxCons, gxNil, ixR1, ixR2, ixV, seqD, Slot.d, mkOwn, D.mut, runF, env0, outD, wipeE, nadd, naddI, add_tup, add_lst, neq, nne, nlt, nle, ngt, nge, eq_bl, ne_bl, ix_tup, ix_lst, Option.bind_some, Option.bind_none, Option.map_some, Option.map_none, List.getElem?_cons_zero, List.getElem?_cons_succ, List.getElem?_nil, List.set_cons_zero, List.set_cons_succ, List.length_cons, List.length_nil, List.map_cons, List.map_nil, List.cons_append, List.nil_append, List.replicate_succ, List.replicate_zero, Nat.reduceAdd, Nat.reduceSub, Nat.sub_zero, if_true, if_false, Bool.false_eq_true, Bool.true_eq_false, decide_true, decide_false, Bool.not_true, Bool.not_false, Nat.zero_add, ite_true, ite_false, reduceIte, decide_eq_true_eq, Option.some.injEq, h1, h2, h3], fun h => by cases h⟩
    rw [List.filter_eq_nil_iff.mpr (by simp)] at this
    exact this
  have hr : rgD 0 ((3 : Nat) : Int) = some ((List.range 3).map fun i => .int (i : Nat)) := rg_nat (by decide)
  have g4 : ex2 dNe (ex2 dIs (exB 2) (exC .non)) (ex2 dGt (exCall dLen [(exB 3)]) (exN 0)) [.val (.int (n : Nat)), .val dr, .val (legsD L), .val (.lst (dns S)), .no, .no, .no] = some (.bl false) := by
    have : ex2 dIs (exB 2) (exC .non) [.val (.int (n : Nat)), .val dr, .val (legsD L), .val (.lst (dns S)), .no, .no, .no] = some (.bl L.isNone) := e1
    have h6 : ex2 dGt (exCall dLen [(exB 3)]) (exN 0) [.val (.int (n : Nat)), .val dr, .val (legsD L), .val (.lst (dns S)), .no, .no, .no] = some (.bl (decide (0 < S.length))) := by
      simp only [fxSeq, fxSetS, fxSetN, fxIf, fxRet, fxRetN, fxNil, fxBrk, fxCnt, fxFz, frzL, frz1, List.foldl_cons, List.foldl_nil, fxApp, fxExt, fxAug, fxSetIx, fxAsg, fxFor, fxWh, exB, exV, exC, exN, ex1, ex2, exCall, exTup, exLst, exDic, exIf, exAnd, exOr, exNot, exCh, exIsi, exSl, exPart, exLc, evs, txB, txD, txNot, txAnd, txOr, txY, dBool, dTru, dAbs, dInt, dLen, dIsi, is_non, isn_non, non_int, non_bl, non_str, non_tup, non_lst, non_non, gxN, gxT, gxCons, gxNil, ixR1, ixR2, ixV, seqD, Slot.d, mkOwn, D.mut, runF, env0, outD, wipeE, nadd, naddI, add_tup, add_lst, neq, nne, nlt, nle, ngt, nge, eq_bl, ne_bl, ix_tup, ix_lst, Option.bind_some, Option.bind_none, Option.map_some, Option.map_none, List.getElem?_cons_zero, List.getElem?_cons_succ, List.getElem?_nil, List.set_cons_zero, List.set_cons_succ, List.length_cons, List.length_nil, List.map_cons, List.map_nil, List.cons_append, List.nil_append, List.replicate_succ, List.replicate_zero, Nat.reduceAdd, Nat.reduceSub, Nat.sub_zero, if_true, if_false, Bool.false_eq_true, Bool.true_eq_false, decide_true, decide_false, Bool.not_true, Bool.not_false, Nat.zero_add, ite_true, ite_false, reduceIte, decide_eq_true_eq, Option.some.injEq, dns, List.length_map]
    rw [ex2, this, h6]
    exact e4
  have s1 : fxSetS 2 (exCall φ_u_law_legs [(exV 0)]) [.val (.int (n : Nat)), .val dr, .no, .no, .no, .no, .no] = some (.nx [.val (.int (n : Nat)), .val dr, .val (legsD L), .no, .no, .no, .no]) := by simp only [fxSeq, fxSetS, fxSetN, fxIf, fxRet, fxRetN, fxNil, fxBrk, fxCnt, fxFz, frzL, frz1, List.foldl_cons, List.foldl_nil, fxApp, fxExt, fxAug, fxSetIx, fxAsg, fxFor, fxWh, exB, exV, exC, exN, ex1, ex2, exCall, exTup, exLst, exDic, exIf, exAnd, exOr, exNot, exCh, exIsi, exSl, exPart, exLc, evs, txB, txD, txNot, txAnd, txOr, txY, dBool, dTru, dAbs, dInt, dLen, dIsi, is_non, isn_non, non_int, non_bl, non_str, non_tup, non_lst, non_non, gxN, gxT, gxCons, gxNil, ixR1, ixR2, ixV, seqD, Slot.d, mkOwn, D.mut, runF, env0, outD, wipeE, nadd, naddI, add_tup, add_lst, neq, nne, nlt, nle, ngt, nge, eq_bl, ne_bl, ix_tup, ix_lst, Option.bind_some, Option.bind_none, Option.map_some, Option.map_none, List.getElem?_cons_zero, List.getElem?_cons_succ, List.getElem?_nil, List.set_cons_zero, List.set_cons_succ, List.length_cons, List.length_nil, List.map_cons, List.map_nil, List.cons_append, List.nil_append, List.replicate_succ, List.replicate_zero, Nat.reduceAdd, Nat.reduceSub, Nat.sub_zero, if_true, if_false, Bool.false_eq_true, Bool.true_eq_false, decide_true, decide_false, Bool.not_true, Bool.not_false, Nat.zero_add, ite_true, ite_false, reduceIte, decide_eq_true_eq, Option.some.injEq, hL]
  have s2 : fxSetS 3 (exCall φ_u_law_sills [(exV 0)]) [.val (.int (n : Nat)), .val dr, .val (legsD L), .no, .no, .no, .no] = some (.nx [.val (.int (n : Nat)), .val dr, .val (legsD L), .val (.lst (dns S)), .no, .no, .no]) := by simp only [fxSeq, fxSetS, fxSetN, fxIf, fxRet, fxRetN, fxNil, fxBrk, fxCnt, fxFz, frzL, frz1, List.foldl_cons, List.foldl_nil, fxApp, fxExt, fxAug, fxSetIx, fxAsg, fxFor, fxWh, exB, exV, exC, exN, ex1, ex2, exCall, exTup, exLst, exDic, exIf, exAnd, exOr, exNot, exCh, exIsi, exSl, exPart, exLc, evs, txB, txD, txNot, txAnd, txOr, txY, dBool, dTru, dAbs, dInt, dLen, dIsi, is_non, isn_non, non_int, non_bl, non_str, non_tup, non_lst, non_non, gxN, gxT, gxCons, gxNil, ixR1, ixR2, ixV, seqD, Slot.d, mkOwn, D.mut, runF, env0, outD, wipeE, nadd, naddI, add_tup, add_lst, neq, nne, nlt, nle, ngt, nge, eq_bl, ne_bl, ix_tup, ix_lst, Option.bind_some, Option.bind_none, Option.map_some, Option.map_none, List.getElem?_cons_zero, List.getElem?_cons_succ, List.getElem?_nil, List.set_cons_zero, List.set_cons_succ, List.length_cons, List.length_nil, List.map_cons, List.map_nil, List.cons_append, List.nil_append, List.replicate_succ, List.replicate_zero, Nat.reduceAdd, Nat.reduceSub, Nat.sub_zero, if_true, if_false, Bool.false_eq_true, Bool.true_eq_false, decide_true, decide_false, Bool.not_true, Bool.not_false, Nat.zero_add, ite_true, ite_false, reduceIte, decide_eq_true_eq, Option.some.injEq, hS]
  have s3 : txOr (txB (ex2 dNe (ex2 dIs (exB 2) (exC .non)) (ex2 dGt (exCall dLen [(exB 3)]) (exN 0)))) (txNot (txD (exCall (φ_u_law_is 6) [(exCall φ_told_legs [(exV 0)]), (exV 2)]))) [.val (.int (n : Nat)), .val dr, .val (legsD L), .val (.lst (dns S)), .no, .no, .no] = some false := by
    rw [txOr, txB, g4]
    simp only [fxSeq, fxSetS, fxSetN, fxIf, fxRet, fxRetN, fxNil, fxBrk, fxCnt, fxFz, frzL, frz1, List.foldl_cons, List.foldl_nil, fxApp, fxExt, fxAug, fxSetIx, fxAsg, fxFor, fxWh, exB, exV, exC, exN, ex1, ex2, exCall, exTup, exLst, exDic, exIf, exAnd, exOr, exNot, exCh, exIsi, exSl, exPart, exLc, evs, txB, txD, txNot, txAnd, txOr, txY, dBool, dTru, dAbs, dInt, dLen, dIsi, is_non, isn_non, non_int, non_bl, non_str, non_tup, non_lst, non_non, gxN, gxT, gxCons, gxNil, ixR1, ixR2, ixV, seqD, Slot.d, mkOwn, D.mut, runF, env0, outD, wipeE, nadd, naddI, add_tup, add_lst, neq, nne, nlt, nle, ngt, nge, eq_bl, ne_bl, ix_tup, ix_lst, Option.bind_some, Option.bind_none, Option.map_some, Option.map_none, List.getElem?_cons_zero, List.getElem?_cons_succ, List.getElem?_nil, List.set_cons_zero, List.set_cons_succ, List.length_cons, List.length_nil, List.map_cons, List.map_nil, List.cons_append, List.nil_append, List.replicate_succ, List.replicate_zero, Nat.reduceAdd, Nat.reduceSub, Nat.sub_zero, if_true, if_false, Bool.false_eq_true, Bool.true_eq_false, decide_true, decide_false, Bool.not_true, Bool.not_false, Nat.zero_add, ite_true, ite_false, reduceIte, decide_eq_true_eq, Option.some.injEq, hT, e2]
  have s4 : txNot (txD (exCall (φ_u_law_is 6) [(exCall φ_told_sill [(exV 0)]), (exIf (txB (ex2 dGt (exCall dLen [(exB 3)]) (exN 0))) (ex2 dIx (exB 3) (exN 0)) (exC .non))])) [.val (.int (n : Nat)), .val dr, .val (legsD L), .val (.lst (dns S)), .no, .no, .no] = some false := by
    rw [txNot, txD, exCall, evs, evs, evs, e5]
    simp only [fxSeq, fxSetS, fxSetN, fxIf, fxRet, fxRetN, fxNil, fxBrk, fxCnt, fxFz, frzL, frz1, List.foldl_cons, List.foldl_nil, fxApp, fxExt, fxAug, fxSetIx, fxAsg, fxFor, fxWh, exB, exV, exC, exN, ex1, ex2, exCall, exTup, exLst, exDic, exIf, exAnd, exOr, exNot, exCh, exIsi, exSl, exPart, exLc, evs, txB, txD, txNot, txAnd, txOr, txY, dBool, dTru, dAbs, dInt, dLen, dIsi, is_non, isn_non, non_int, non_bl, non_str, non_tup, non_lst, non_non, gxN, gxT, gxCons, gxNil, ixR1, ixR2, ixV, seqD, Slot.d, mkOwn, D.mut, runF, env0, outD, wipeE, nadd, naddI, add_tup, add_lst, neq, nne, nlt, nle, ngt, nge, eq_bl, ne_bl, ix_tup, ix_lst, Option.bind_some, Option.bind_none, Option.map_some, Option.map_none, List.getElem?_cons_zero, List.getElem?_cons_succ, List.getElem?_nil, List.set_cons_zero, List.set_cons_succ, List.length_cons, List.length_nil, List.map_cons, List.map_nil, List.cons_append, List.nil_append, List.replicate_succ, List.replicate_zero, Nat.reduceAdd, Nat.reduceSub, Nat.sub_zero, if_true, if_false, Bool.false_eq_true, Bool.true_eq_false, decide_true, decide_false, Bool.not_true, Bool.not_false, Nat.zero_add, ite_true, ite_false, reduceIte, decide_eq_true_eq, Option.some.injEq, hD, e3]
  have s5 : fxSetS 4 (ex2 dAdd (exLst [(ex2 dSub (exN 0) (exN 3)), (ex2 dSub (exN 0) (exN 1)), (exN 0), (exN 1), (exN 2), (exN 3), (exN 4), (exN 7), (exN 9), (exN 15), (exN 27), (exV 0), (ex2 dDiv (exB 0) (exN 3)), (ex2 dAdd (ex2 dPow (exN 10) (exN 20)) (exN 3))]) (exB 3)) [.val (.int (n : Nat)), .val dr, .val (legsD L), .val (.lst (dns S)), .no, .no, .no] = some (.nx [.val (.int (n : Nat)), .val dr, .val (legsD L), .val (.lst (dns S)), .val (.lst (A.map D.int ++ dns S)), .no, .no]) := by
    rw [fxSetS, ex2, f1]
    simp only [fxSeq, fxSetS, fxSetN, fxIf, fxRet, fxRetN, fxNil, fxBrk, fxCnt, fxFz, frzL, frz1, List.foldl_cons, List.foldl_nil, fxApp, fxExt, fxAug, fxSetIx, fxAsg, fxFor, fxWh, exB, exV, exC, exN, ex1, ex2, exCall, exTup, exLst, exDic, exIf, exAnd, exOr, exNot, exCh, exIsi, exSl, exPart, exLc, evs, txB, txD, txNot, txAnd, txOr, txY, dBool, dTru, dAbs, dInt, dLen, dIsi, is_non, isn_non, non_int, non_bl, non_str, non_tup, non_lst, non_non, gxN, gxT, gxCons, gxNil, ixR1, ixR2, ixV, seqD, Slot.d, mkOwn, D.mut, runF, env0, outD, wipeE, nadd, naddI, add_tup, add_lst, neq, nne, nlt, nle, ngt, nge, eq_bl, ne_bl, ix_tup, ix_lst, Option.bind_some, Option.bind_none, Option.map_some, Option.map_none, List.getElem?_cons_zero, List.getElem?_cons_succ, List.getElem?_nil, List.set_cons_zero, List.set_cons_succ, List.length_cons, List.length_nil, List.map_cons, List.map_nil, List.cons_append, List.nil_append, List.replicate_succ, List.replicate_zero, Nat.reduceAdd, Nat.reduceSub, Nat.sub_zero, if_true, if_false, Bool.false_eq_true, Bool.true_eq_false, decide_true, decide_false, Bool.not_true, Bool.not_false, Nat.zero_add, ite_true, ite_false, reduceIte, decide_eq_true_eq, Option.some.injEq, if_pos hlen]
  refine run_of (env := [.val (.int (n : Nat)), .val dr, .no, .no, .no, .no, .no]) rfl rfl ?_
  unfold fx_u_law_asked
  rw [seq_nx s1, seq_nx s2, seq_if s3, seq_if s4, seq_nx s5]
  simp only [fxSeq, fxSetS, fxSetN, fxIf, fxRet, fxRetN, fxNil, fxBrk, fxCnt, fxFz, frzL, frz1, List.foldl_cons, List.foldl_nil, fxApp, fxExt, fxAug, fxSetIx, fxAsg, fxFor, fxWh, exB, exV, exC, exN, ex1, ex2, exCall, exTup, exLst, exDic, exIf, exAnd, exOr, exNot, exCh, exIsi, exSl, exPart, exLc, evs, txB, txD, txNot, txAnd, txOr, txY, dBool, dTru, dAbs, dInt, dLen, dIsi, is_non, isn_non, non_int, non_bl, non_str, non_tup, non_lst, non_non, gxN, gxT, gxCons, gxNil, ixR1, ixR2, ixV, seqD, Slot.d, mkOwn, D.mut, runF, env0, outD, wipeE, nadd, naddI, add_tup, add_lst, neq, nne, nlt, nle, ngt, nge, eq_bl, ne_bl, ix_tup, ix_lst, Option.bind_some, Option.bind_none, Option.map_some, Option.map_none, List.getElem?_cons_zero, List.getElem?_cons_succ, List.getElem?_nil, List.set_cons_zero, List.set_cons_succ, List.length_cons, List.length_nil, List.map_cons, List.map_nil, List.cons_append, List.nil_append, List.replicate_succ, List.replicate_zero, Nat.reduceAdd, Nat.reduceSub, Nat.sub_zero, if_true, if_false, Bool.false_eq_true, Bool.true_eq_false, decide_true, decide_false, Bool.not_true, Bool.not_false, Nat.zero_add, ite_true, ite_false, reduceIte, decide_eq_true_eq, Option.some.injEq, hr, f2, if_pos hlen2, f3, f4]

/-! ### the case, the law -/
theorem case_eq (l : List Nat) (hl : l.length = 13) (hm : ∀ x ∈ l, x < 5040) : φ_u_law_case [.lst (dns l)] = some (.bl true) := by
  match l, hl with
  | [d0, d1, d2, d3, d4, d5, d6, d7, d8, d9, d10, d11, d12], _ =>
    have sl1 : dSl (.lst (dns [d0, d1, d2, d3, d4, d5, d6, d7, d8, d9, d10, d11, d12])) (some ((2 : Nat) : Int)) (some ((5 : Nat) : Int)) = some (.lst (dns [d2, d3, d4])) := rfl
    have sl2 : dSl (.lst (dns [d0, d1, d2, d3, d4, d5, d6, d7, d8, d9, d10, d11, d12])) (some ((6 : Nat) : Int)) (some ((9 : Nat) : Int)) = some (.lst (dns [d6, d7, d8])) := rfl
    have hd : ∀ a b c : Nat, ∀ i : Nat, i < 3 → ∃ x : Nat, dIx (.lst (dns [a, b, c])) (.int (i : Nat)) = some (.int (x : Nat)) := fun a b c i hi => by
      match i, hi with
      | 0, _ => exact ⟨a, rfl⟩
      | 1, _ => exact ⟨b, rfl⟩
      | 2, _ => exact ⟨c, rfl⟩
    have ix : ∀ (i : Nat) (x : Nat), [d0, d1, d2, d3, d4, d5, d6, d7, d8, d9, d10, d11, d12][i]? = some x → atI (dns [d0, d1, d2, d3, d4, d5, d6, d7, d8, d9, d10, d11, d12]) (i : Nat) = some (.int (x : Nat)) := fun i x h => atI_n (by
      rw [dns, List.getElem?_map, h]
      rfl)
    generalize dns [d0, d1, d2, d3, d4, d5, d6, d7, d8, d9, d10, d11, d12] = DL at *
    have i0 := ix 0 _ rfl
    have i1 := ix 1 _ rfl
    have i5 := ix 5 _ rfl
    have i9 := ix 9 _ rfl
    have i10 := ix 10 _ rfl
    have i11 := ix 11 _ rfl
    have i12 := ix 12 _ rfl
    have ha : d0 % 32 < 32 := Nat.mod_lt _ (by decide)
    have hb : d1 % 32 < 32 := Nat.mod_lt _ (by decide)
    generalize g0 : d0 % 32 = a at *
    generalize g1 : d1 % 32 = b at *
    obtain ⟨p, hp⟩ := sums_have a b ha hb
    have ea : a * a ≤ 31 * 31 := Nat.mul_le_mul (by omega) (by omega)
    have eb : b * b ≤ 31 * 31 := Nat.mul_le_mul (by omega) (by omega)
    have t1 := told_legs_eq (a * a + b * b) (by omega)
    rw [hp] at t1
    have k1 := asked_eq (a * a + b * b) (by omega) _ (hd d2 d3 d4)
    have hf : d5 % 399 < 399 := Nat.mod_lt _ (by decide)
    generalize g2 : d5 % 399 = f at *
    have k2 := asked_eq (1 + f) (by omega) _ (hd d6 d7 d8)
    have c2 := counted_eq (1 + f) (by omega) (by omega)
    have ho : d9 % 220 < 220 := Nat.mod_lt _ (by decide)
    have ho2 : d10 % 2 < 2 := Nat.mod_lt _ (by decide)
    generalize g3 : d9 % 220 = o at *
    generalize g4 : d10 % 2 = o2 at *
    obtain ⟨q, hq⟩ := odds_have o o2 ho ho2
    have t3 := told_eq (3 * (3 * o + 1 + o2)) (by omega)
    rw [hq] at t3
    have k3 := asked_eq (3 * (3 * o + 1 + o2)) (by omega) _ (hd d6 d7 d8)
    have h4 : d11 % 4 < 4 := Nat.mod_lt _ (by decide)
    obtain ⟨g, hg, hg2⟩ : ∃ g : Nat, atI [D.int ((3 : Nat) : Int), .int ((7 : Nat) : Int), .int ((11 : Nat) : Int), .int ((19 : Nat) : Int)] ((d11 % 4 : Nat) : Int) = some (.int (g : Nat)) ∧ g ≤ 19 := by
      generalize d11 % 4 = z at *
      match z, h4 with
      | 0, _ => exact ⟨3, rfl, by decide⟩
      | 1, _ => exact ⟨7, rfl, by decide⟩
      | 2, _ => exact ⟨11, rfl, by decide⟩
      | 3, _ => exact ⟨19, rfl, by decide⟩
    generalize g6 : d11 % 4 = z at *
    have h5 : d12 % 5 < 5 := Nat.mod_lt _ (by decide)
    generalize g5 : d12 % 5 = y at *
    have gg : g * g ≤ 19 * 19 := Nat.mul_le_mul hg2 hg2
    have gy : g * g * (1 + y) ≤ 19 * 19 * 5 := Nat.mul_le_mul gg (by omega)
    have k4 := asked_eq (g * g * (1 + y)) (by omega) _ (hd d6 d7 d8)
    have c4 := counted_eq (1 + y) (by omega) (by omega)
    have e1 : (legsD (some p)).isNon = false := rfl
    have e3 : (natD (some q)).isNon = false := rfl
    simp only [φ_u_law_case, fx_u_law_case, fxSeq, fxSetS, fxSetN, fxIf, fxRet, fxRetN, fxNil, fxBrk, fxCnt, fxFz, frzL, frz1, List.foldl_cons, List.foldl_nil, fxApp, fxExt, fxAug, fxSetIx, fxAsg, fxFor, fxWh, exB, exV, exC, exN, ex1, ex2, exCall, exTup, exLst, exDic, exIf, exAnd, exOr, exNot, exCh, exIsi, exSl, exPart, exLc, evs, txB, txD, txNot, txAnd, txOr, txY, dBool, dTru, dAbs, dInt, dLen, dIsi, is_non, isn_non, non_int, non_bl, non_str, non_tup, non_lst, non_non, gxN, gxT, gxCons, gxNil, ixR1, ixR2, ixV, seqD, Slot.d, mkOwn, D.mut, runF, env0, outD, wipeE, nadd, naddI, add_tup, add_lst, neq, nne, nlt, nle, ngt, nge, eq_bl, ne_bl, ix_tup, ix_lst, Option.bind_some, Option.bind_none, Option.map_some, Option.map_none, List.getElem?_cons_zero, List.getElem?_cons_succ, List.getElem?_nil, List.set_cons_zero, List.set_cons_succ, List.length_cons, List.length_nil, List.map_cons, List.map_nil, List.cons_append, List.nil_append, List.replicate_succ, List.replicate_zero, Nat.reduceAdd, Nat.reduceSub, Nat.sub_zero, if_true, if_false, Bool.false_eq_true, Bool.true_eq_false, decide_true, decide_false, Bool.not_true, Bool.not_false, Nat.zero_add, ite_true, ite_false, reduceIte, decide_eq_true_eq, Option.some.injEq, nmod (b := 32) (by decide), nmod (b := 399) (by decide), nmod (b := 220) (by decide), nmod (b := 2) (by decide), nmod (b := 4) (by decide), nmod (b := 5) (by decide), i0, i1, i5, i9, i10, i11, i12, nmul (a := a) (by omega), nmul (a := b) (by omega), nmul (a := 3) (by decide), nmul (a := g) (by omega), nmul (a := g * g) (by omega), t1, e1, sl1, sl2, k1, k2, c2, t3, e3, k3, hg, k4, c4, g0, g1, g2, g3, g4, g5, g6]
theorem loop1 (ns : List Int) : ∀ (ks : List Nat) (s : Slot), (∀ k ∈ ks, k < 2025) → ∃ s', fLoop (gxN 1) b2_law (ks.map fun k => .int (k : Nat)) [.val (.scr ns), s, .no] = some (.nx [.val (.scr ns), s', .no]) := by
  intro ks
  induction ks with
  | nil => exact fun s _ => ⟨s, rfl⟩
  | cons k ks ih =>
    intro s hk
    obtain ⟨s', ih⟩ := ih (.val (.int (k : Nat))) fun x hx => hk x (by simp [hx])
    refine ⟨s', ?_⟩
    have h1 := asked_eq k (hk k (by simp)) (.tup [.int ((0 : Nat) : Int), .int ((1 : Nat) : Int), .int ((2 : Nat) : Int)]) fun i hi => by
      match i, hi with
      | 0, _ => exact ⟨0, rfl⟩
      | 1, _ => exact ⟨1, rfl⟩
      | 2, _ => exact ⟨2, rfl⟩
    rw [List.map_cons, fLoop, gxN]
    simp only [b2_law, fxSeq, fxSetS, fxSetN, fxIf, fxRet, fxRetN, fxNil, fxBrk, fxCnt, fxFz, frzL, frz1, List.foldl_cons, List.foldl_nil, fxApp, fxExt, fxAug, fxSetIx, fxAsg, fxFor, fxWh, exB, exV, exC, exN, ex1, ex2, exCall, exTup, exLst, exDic, exIf, exAnd, exOr, exNot, exCh, exIsi, exSl, exPart, exLc, evs, txB, txD, txNot, txAnd, txOr, txY, dBool, dTru, dAbs, dInt, dLen, dIsi, is_non, isn_non, non_int, non_bl, non_str, non_tup, non_lst, non_non, gxN, gxT, gxCons, gxNil, ixR1, ixR2, ixV, seqD, Slot.d, mkOwn, D.mut, runF, env0, outD, wipeE, nadd, naddI, add_tup, add_lst, neq, nne, nlt, nle, ngt, nge, eq_bl, ne_bl, ix_tup, ix_lst, Option.bind_some, Option.bind_none, Option.map_some, Option.map_none, List.getElem?_cons_zero, List.getElem?_cons_succ, List.getElem?_nil, List.set_cons_zero, List.set_cons_succ, List.length_cons, List.length_nil, List.map_cons, List.map_nil, List.cons_append, List.nil_append, List.replicate_succ, List.replicate_zero, Nat.reduceAdd, Nat.reduceSub, Nat.sub_zero, if_true, if_false, Bool.false_eq_true, Bool.true_eq_false, decide_true, decide_false, Bool.not_true, Bool.not_false, Nat.zero_add, ite_true, ite_false, reduceIte, decide_eq_true_eq, Option.some.injEq, h1]
    exact ih
theorem loop2 (ns : List Int) (s1 : Slot) : ∀ (ks : List Nat) (s : Slot), ∃ s', fLoop (gxN 2) b1_law (ks.map fun k => .int (k : Nat)) [.val (.scr ns), s1, s] = some (.nx [.val (.scr ns), s1, s']) := by
  intro ks
  induction ks with
  | nil => exact fun s => ⟨s, rfl⟩
  | cons k ks ih =>
    intro s
    obtain ⟨s', ih⟩ := ih (.val (.int (k : Nat)))
    refine ⟨s', ?_⟩
    obtain ⟨c, hc⟩ := cell_ok ns k
    obtain ⟨l, hl, hm, hd⟩ := draws_ok c 13 (by decide)
    have h1 := case_eq l hl hm
    rw [← cell_is] at hc
    rw [← draws_is] at hd
    rw [List.map_cons, fLoop, gxN]
    simp only [b1_law, fxSeq, fxSetS, fxSetN, fxIf, fxRet, fxRetN, fxNil, fxBrk, fxCnt, fxFz, frzL, frz1, List.foldl_cons, List.foldl_nil, fxApp, fxExt, fxAug, fxSetIx, fxAsg, fxFor, fxWh, exB, exV, exC, exN, ex1, ex2, exCall, exTup, exLst, exDic, exIf, exAnd, exOr, exNot, exCh, exIsi, exSl, exPart, exLc, evs, txB, txD, txNot, txAnd, txOr, txY, dBool, dTru, dAbs, dInt, dLen, dIsi, is_non, isn_non, non_int, non_bl, non_str, non_tup, non_lst, non_non, gxN, gxT, gxCons, gxNil, ixR1, ixR2, ixV, seqD, Slot.d, mkOwn, D.mut, runF, env0, outD, wipeE, nadd, naddI, add_tup, add_lst, neq, nne, nlt, nle, ngt, nge, eq_bl, ne_bl, ix_tup, ix_lst, Option.bind_some, Option.bind_none, Option.map_some, Option.map_none, List.getElem?_cons_zero, List.getElem?_cons_succ, List.getElem?_nil, List.set_cons_zero, List.set_cons_succ, List.length_cons, List.length_nil, List.map_cons, List.map_nil, List.cons_append, List.nil_append, List.replicate_succ, List.replicate_zero, Nat.reduceAdd, Nat.reduceSub, Nat.sub_zero, if_true, if_false, Bool.false_eq_true, Bool.true_eq_false, decide_true, decide_false, Bool.not_true, Bool.not_false, Nat.zero_add, ite_true, ite_false, reduceIte, decide_eq_true_eq, Option.some.injEq, hc, hd, h1]
    exact ih
theorem main (ns : List Int) (_ : ns.length ≤ 63) : φ_law [.scr ns] = some (.bl true) := by
  obtain ⟨s1, h1⟩ := loop1 ns (List.range 3) .no fun k hk => by
    have := List.mem_range.mp hk
    omega
  obtain ⟨s2, h2⟩ := loop2 ns s1 (List.range 2) .no
  have r3 : rgD 0 ((3 : Nat) : Int) = some ((List.range 3).map fun i => .int (i : Nat)) := rg_nat (by decide)
  have r2 : rgD 0 ((2 : Nat) : Int) = some ((List.range 2).map fun i => .int (i : Nat)) := rg_nat (by decide)
  simp only [φ_law, fx_law, fxSeq, fxSetS, fxSetN, fxIf, fxRet, fxRetN, fxNil, fxBrk, fxCnt, fxFz, frzL, frz1, List.foldl_cons, List.foldl_nil, fxApp, fxExt, fxAug, fxSetIx, fxAsg, fxFor, fxWh, exB, exV, exC, exN, ex1, ex2, exCall, exTup, exLst, exDic, exIf, exAnd, exOr, exNot, exCh, exIsi, exSl, exPart, exLc, evs, txB, txD, txNot, txAnd, txOr, txY, dBool, dTru, dAbs, dInt, dLen, dIsi, is_non, isn_non, non_int, non_bl, non_str, non_tup, non_lst, non_non, gxN, gxT, gxCons, gxNil, ixR1, ixR2, ixV, seqD, Slot.d, mkOwn, D.mut, runF, env0, outD, wipeE, nadd, naddI, add_tup, add_lst, neq, nne, nlt, nle, ngt, nge, eq_bl, ne_bl, ix_tup, ix_lst, Option.bind_some, Option.bind_none, Option.map_some, Option.map_none, List.getElem?_cons_zero, List.getElem?_cons_succ, List.getElem?_nil, List.set_cons_zero, List.set_cons_succ, List.length_cons, List.length_nil, List.map_cons, List.map_nil, List.cons_append, List.nil_append, List.replicate_succ, List.replicate_zero, Nat.reduceAdd, Nat.reduceSub, Nat.sub_zero, if_true, if_false, Bool.false_eq_true, Bool.true_eq_false, decide_true, decide_false, Bool.not_true, Bool.not_false, Nat.zero_add, ite_true, ite_false, reduceIte, decide_eq_true_eq, Option.some.injEq, r3, h1, r2, h2]
end Sw.k75

namespace Sw.k75
open PySem L2 PySem.Spec PyProof.Rows
theorem all_mk {l : PySem.W.OpenLaw} {w : World} {K : PySem.W.Frag} {h : Heap} {mg : Str → Option Value} {fa f0 f1 f2 f3 f4 f5 f6 f7 f8 f9 f10 f11 f12 f13 f14 f15 f16 : Addr} {od0 an0 od1 an1 od2 an2 od3 an3 od4 an4 od5 an5 od6 an6 od7 an7 od8 an8 od9 an9 od10 an10 od11 an11 od12 an12 od13 an13 od14 an14 od15 an15 od16 an16 : Option Addr} {sl0 sl1 sl2 sl3 sl4 sl5 sl6 sl7 sl8 sl9 sl10 sl11 sl12 sl13 sl14 sl15 sl16 : Array (Option Value)} {oc0 kV0 dc0 pm0 cd0 ct0 oc1 kV1 dc1 pm1 cd1 ct1 oc2 kV2 dc2 pm2 cd2 ct2 oc3 kV3 dc3 pm3 cd3 ct3 oc4 kV4 dc4 pm4 cd4 ct4 oc5 kV5 dc5 pm5 cd5 ct5 oc6 kV6 dc6 pm6 cd6 ct6 oc7 kV7 dc7 pm7 cd7 ct7 oc8 kV8 dc8 pm8 cd8 ct8 oc9 kV9 dc9 pm9 cd9 ct9 oc10 kV10 dc10 pm10 cd10 ct10 oc11 kV11 dc11 pm11 cd11 ct11 oc12 kV12 dc12 pm12 cd12 ct12 oc13 kV13 dc13 pm13 cd13 ct13 oc14 kV14 dc14 pm14 cd14 ct14 oc15 kV15 dc15 pm15 cd15 ct15 oc16 kV16 dc16 pm16 cd16 ct16 : Value} (X : K.In h) (G : h.Ns mainGlobals mg) (hfa : mg "law" = some (.ref fa))
    (a0 : PySem.W.nsIn K mainGlobals "_law_legs" = some (some (.ref f0))) (l0 : K.lookup f0 = some ⟨oc0, od0, .func (PySem.W.fnOf "_law_legs" "_law_legs" (defArgs s_u_law_legs) (defBody s_u_law_legs) (defScope s_u_law_legs) .none kV0 dc0 pm0 an0 cd0 ct0), sl0⟩) (c0 : PySem.W.codeIn K cd0 "_law_legs" = true) (k0 : PySem.W.keepIn K (.ref f0) = true)
    (a1 : PySem.W.nsIn K mainGlobals "_law_odd_times" = some (some (.ref f1))) (l1 : K.lookup f1 = some ⟨oc1, od1, .func (PySem.W.fnOf "_law_odd_times" "_law_odd_times" (defArgs s_u_law_odd_times) (defBody s_u_law_odd_times) (defScope s_u_law_odd_times) .none kV1 dc1 pm1 an1 cd1 ct1), sl1⟩) (c1 : PySem.W.codeIn K cd1 "_law_odd_times" = true) (k1 : PySem.W.keepIn K (.ref f1) = true)
    (a2 : PySem.W.nsIn K mainGlobals "_law_sills" = some (some (.ref f2))) (l2 : K.lookup f2 = some ⟨oc2, od2, .func (PySem.W.fnOf "_law_sills" "_law_sills" (defArgs s_u_law_sills) (defBody s_u_law_sills) (defScope s_u_law_sills) .none kV2 dc2 pm2 an2 cd2 ct2), sl2⟩) (c2 : PySem.W.codeIn K cd2 "_law_sills" = true) (k2 : PySem.W.keepIn K (.ref f2) = true)
    (a3 : PySem.W.nsIn K mainGlobals "_law_is_integer" = some (some (.ref f3))) (l3 : K.lookup f3 = some ⟨oc3, od3, .func (PySem.W.fnOf "_law_is_integer" "_law_is_integer" (defArgs s_u_law_is_integer) (defBody s_u_law_is_integer) (defScope s_u_law_is_integer) .none kV3 dc3 pm3 an3 cd3 ct3), sl3⟩) (c3 : PySem.W.codeIn K cd3 "_law_is_integer" = true) (k3 : PySem.W.keepIn K (.ref f3) = true)
    (a4 : PySem.W.nsIn K mainGlobals "_law_is" = some (some (.ref f4))) (l4 : K.lookup f4 = some ⟨oc4, od4, .func (PySem.W.fnOf "_law_is" "_law_is" (defArgs s_u_law_is) (defBody s_u_law_is) (defScope s_u_law_is) .none kV4 dc4 pm4 an4 cd4 ct4), sl4⟩) (c4 : PySem.W.codeIn K cd4 "_law_is" = true) (k4 : PySem.W.keepIn K (.ref f4) = true)
    (a5 : PySem.W.nsIn K mainGlobals "is_prime" = some (some (.ref f5))) (l5 : K.lookup f5 = some ⟨oc5, od5, .func (PySem.W.fnOf "is_prime" "is_prime" (defArgs s_is_prime) (defBody s_is_prime) (defScope s_is_prime) .none kV5 dc5 pm5 an5 cd5 ct5), sl5⟩) (c5 : PySem.W.codeIn K cd5 "is_prime" = true) (k5 : PySem.W.keepIn K (.ref f5) = true)
    (a6 : PySem.W.nsIn K mainGlobals "is_sill" = some (some (.ref f6))) (l6 : K.lookup f6 = some ⟨oc6, od6, .func (PySem.W.fnOf "is_sill" "is_sill" (defArgs s_is_sill) (defBody s_is_sill) (defScope s_is_sill) .none kV6 dc6 pm6 an6 cd6 ct6), sl6⟩) (c6 : PySem.W.codeIn K cd6 "is_sill" = true) (k6 : PySem.W.keepIn K (.ref f6) = true)
    (a7 : PySem.W.nsIn K mainGlobals "told_sill" = some (some (.ref f7))) (l7 : K.lookup f7 = some ⟨oc7, od7, .func (PySem.W.fnOf "told_sill" "told_sill" (defArgs s_told_sill) (defBody s_told_sill) (defScope s_told_sill) .none kV7 dc7 pm7 an7 cd7 ct7), sl7⟩) (c7 : PySem.W.codeIn K cd7 "told_sill" = true) (k7 : PySem.W.keepIn K (.ref f7) = true)
    (a8 : PySem.W.nsIn K mainGlobals "told_legs" = some (some (.ref f8))) (l8 : K.lookup f8 = some ⟨oc8, od8, .func (PySem.W.fnOf "told_legs" "told_legs" (defArgs s_told_legs) (defBody s_told_legs) (defScope s_told_legs) .none kV8 dc8 pm8 an8 cd8 ct8), sl8⟩) (c8 : PySem.W.codeIn K cd8 "told_legs" = true) (k8 : PySem.W.keepIn K (.ref f8) = true)
    (a9 : PySem.W.nsIn K mainGlobals "_law_sill" = some (some (.ref f9))) (l9 : K.lookup f9 = some ⟨oc9, od9, .func (PySem.W.fnOf "_law_sill" "_law_sill" (defArgs s_u_law_sill) (defBody s_u_law_sill) (defScope s_u_law_sill) .none kV9 dc9 pm9 an9 cd9 ct9), sl9⟩) (c9 : PySem.W.codeIn K cd9 "_law_sill" = true) (k9 : PySem.W.keepIn K (.ref f9) = true)
    (a10 : PySem.W.nsIn K mainGlobals "_law_asked" = some (some (.ref f10))) (l10 : K.lookup f10 = some ⟨oc10, od10, .func (PySem.W.fnOf "_law_asked" "_law_asked" (defArgs s_u_law_asked) (defBody s_u_law_asked) (defScope s_u_law_asked) .none kV10 dc10 pm10 an10 cd10 ct10), sl10⟩) (c10 : PySem.W.codeIn K cd10 "_law_asked" = true) (k10 : PySem.W.keepIn K (.ref f10) = true)
    (a11 : PySem.W.nsIn K mainGlobals "nets_at" = some (some (.ref f11))) (l11 : K.lookup f11 = some ⟨oc11, od11, .func (PySem.W.fnOf "nets_at" "nets_at" (defArgs s_nets_at) (defBody s_nets_at) (defScope s_nets_at) .none kV11 dc11 pm11 an11 cd11 ct11), sl11⟩) (c11 : PySem.W.codeIn K cd11 "nets_at" = true) (k11 : PySem.W.keepIn K (.ref f11) = true)
    (a12 : PySem.W.nsIn K mainGlobals "_law_counted" = some (some (.ref f12))) (l12 : K.lookup f12 = some ⟨oc12, od12, .func (PySem.W.fnOf "_law_counted" "_law_counted" (defArgs s_u_law_counted) (defBody s_u_law_counted) (defScope s_u_law_counted) .none kV12 dc12 pm12 an12 cd12 ct12), sl12⟩) (c12 : PySem.W.codeIn K cd12 "_law_counted" = true) (k12 : PySem.W.keepIn K (.ref f12) = true)
    (a13 : PySem.W.nsIn K mainGlobals "_law_case" = some (some (.ref f13))) (l13 : K.lookup f13 = some ⟨oc13, od13, .func (PySem.W.fnOf "_law_case" "_law_case" (defArgs s_u_law_case) (defBody s_u_law_case) (defScope s_u_law_case) .none kV13 dc13 pm13 an13 cd13 ct13), sl13⟩) (c13 : PySem.W.codeIn K cd13 "_law_case" = true) (k13 : PySem.W.keepIn K (.ref f13) = true)
    (a14 : PySem.W.nsIn K mainGlobals "_law_draws" = some (some (.ref f14))) (l14 : K.lookup f14 = some ⟨oc14, od14, .func (PySem.W.fnOf "_law_draws" "_law_draws" (defArgs s_u_law_draws) (defBody s_u_law_draws) (defScope s_u_law_draws) .none kV14 dc14 pm14 an14 cd14 ct14), sl14⟩) (c14 : PySem.W.codeIn K cd14 "_law_draws" = true) (k14 : PySem.W.keepIn K (.ref f14) = true)
    (a15 : PySem.W.nsIn K mainGlobals "_law_cell" = some (some (.ref f15))) (l15 : K.lookup f15 = some ⟨oc15, od15, .func (PySem.W.fnOf "_law_cell" "_law_cell" (defArgs s_u_law_cell) (defBody s_u_law_cell) (defScope s_u_law_cell) .none kV15 dc15 pm15 an15 cd15 ct15), sl15⟩) (c15 : PySem.W.codeIn K cd15 "_law_cell" = true) (k15 : PySem.W.keepIn K (.ref f15) = true)
    (a16 : PySem.W.nsIn K mainGlobals "law" = some (some (.ref f16))) (l16 : K.lookup f16 = some ⟨oc16, od16, .func (PySem.W.fnOf "law" "law" (defArgs s_law) (defBody s_law) (defScope s_law) .none kV16 dc16 pm16 an16 cd16 ct16), sl16⟩) (c16 : PySem.W.codeIn K cd16 "law" = true) (k16 : PySem.W.keepIn K (.ref f16) = true)
    (z0 : PySem.W.nsIn K mainGlobals "len" = some none) (z1 : PySem.W.nsIn K mainGlobals "range" = some none) (z2 : PySem.W.nsIn K mainGlobals "abs" = some none) (z3 : PySem.W.nsIn K mainGlobals "int" = some none) (z4 : PySem.W.nsIn K mainGlobals "bool" = some none) (z5 : PySem.W.nsIn K mainGlobals "str" = some none) (z6 : PySem.W.nsIn K mainGlobals "tuple" = some none) (z7 : PySem.W.nsIn K mainGlobals "list" = some none) (z8 : PySem.W.nsIn K mainGlobals "set" = some none) (z9 : PySem.W.nsIn K mainGlobals "sum" = some none) (z10 : PySem.W.nsIn K mainGlobals "all" = some none) (z11 : PySem.W.nsIn K mainGlobals "any" = some none) (z12 : PySem.W.nsIn K mainGlobals "min" = some none) (z13 : PySem.W.nsIn K mainGlobals "max" = some none) (z14 : PySem.W.nsIn K mainGlobals "sorted" = some none) (z15 : PySem.W.nsIn K mainGlobals "enumerate" = some none) (z16 : PySem.W.nsIn K mainGlobals "zip" = some none) (z17 : PySem.W.nsIn K mainGlobals "reversed" = some none) (z18 : PySem.W.nsIn K mainGlobals "isinstance" = some none) :
    ∃ fd : FuncData, (∀ (s : Shared) (v : Value), BindsTo s fd ⟨[v], []⟩ [("script", v)]) ∧ ∀ base : Heap, K.In base → base.Ns mainGlobals mg → FnOk l.prog w K mg base CX0 10 fa fd ["script"] (spF φ_law 1) := by
  have e := hfa.symm.trans (PySem.W.mg_of X G a16)
  cases e
  have B : Blt mg := ⟨PySem.W.mg_none_of X G z0, PySem.W.mg_none_of X G z1, PySem.W.mg_none_of X G z2, PySem.W.mg_none_of X G z3, PySem.W.mg_none_of X G z4, PySem.W.mg_none_of X G z5, PySem.W.mg_none_of X G z6, PySem.W.mg_none_of X G z7, PySem.W.mg_none_of X G z8, PySem.W.mg_none_of X G z9, PySem.W.mg_none_of X G z10, PySem.W.mg_none_of X G z11, PySem.W.mg_none_of X G z12, PySem.W.mg_none_of X G z13, PySem.W.mg_none_of X G z14, PySem.W.mg_none_of X G z15, PySem.W.mg_none_of X G z16, PySem.W.mg_none_of X G z17, PySem.W.mg_none_of X G z18⟩
  have F0 := fun_mk (st := s_u_law_legs) l0 c0 k0
  have b0 := F0.binds (ps := ["n"]) fun _ _ _ _ _ _ us hl => match us, hl with | [_], _ => rfl
  have F1 := fun_mk (st := s_u_law_odd_times) l1 c1 k1
  have b1 := F1.binds (ps := ["n", "p"]) fun _ _ _ _ _ _ us hl => match us, hl with | [_, _], _ => rfl
  have F2 := fun_mk (st := s_u_law_sills) l2 c2 k2
  have b2 := F2.binds (ps := ["n"]) fun _ _ _ _ _ _ us hl => match us, hl with | [_], _ => rfl
  have F3 := fun_mk (st := s_u_law_is_integer) l3 c3 k3
  have b3 := F3.binds (ps := ["value"]) fun _ _ _ _ _ _ us hl => match us, hl with | [_], _ => rfl
  have F4 := fun_mk (st := s_u_law_is) l4 c4 k4
  have b4 := F4.binds (ps := ["value", "due"]) fun _ _ _ _ _ _ us hl => match us, hl with | [_, _], _ => rfl
  have F5 := fun_mk (st := s_is_prime) l5 c5 k5
  have b5 := F5.binds (ps := ["p"]) fun _ _ _ _ _ _ us hl => match us, hl with | [_], _ => rfl
  have F6 := fun_mk (st := s_is_sill) l6 c6 k6
  have b6 := F6.binds (ps := ["n", "p"]) fun _ _ _ _ _ _ us hl => match us, hl with | [_, _], _ => rfl
  have F7 := fun_mk (st := s_told_sill) l7 c7 k7
  have b7 := F7.binds (ps := ["n"]) fun _ _ _ _ _ _ us hl => match us, hl with | [_], _ => rfl
  have F8 := fun_mk (st := s_told_legs) l8 c8 k8
  have b8 := F8.binds (ps := ["n"]) fun _ _ _ _ _ _ us hl => match us, hl with | [_], _ => rfl
  have F9 := fun_mk (st := s_u_law_sill) l9 c9 k9
  have b9 := F9.binds (ps := ["n", "p"]) fun _ _ _ _ _ _ us hl => match us, hl with | [_, _], _ => rfl
  have F10 := fun_mk (st := s_u_law_asked) l10 c10 k10
  have b10 := F10.binds (ps := ["n", "draws"]) fun _ _ _ _ _ _ us hl => match us, hl with | [_, _], _ => rfl
  have F11 := fun_mk (st := s_nets_at) l11 c11 k11
  have b11 := F11.binds (ps := ["n"]) fun _ _ _ _ _ _ us hl => match us, hl with | [_], _ => rfl
  have F12 := fun_mk (st := s_u_law_counted) l12 c12 k12
  have b12 := F12.binds (ps := ["n"]) fun _ _ _ _ _ _ us hl => match us, hl with | [_], _ => rfl
  have F13 := fun_mk (st := s_u_law_case) l13 c13 k13
  have b13 := F13.binds (ps := ["draws"]) fun _ _ _ _ _ _ us hl => match us, hl with | [_], _ => rfl
  have F14 := fun_mk (st := s_u_law_draws) l14 c14 k14
  have b14 := F14.binds (ps := ["cell", "count"]) fun _ _ _ _ _ _ us hl => match us, hl with | [_, _], _ => rfl
  have F15 := fun_mk (st := s_u_law_cell) l15 c15 k15
  have b15 := F15.binds (ps := ["script", "k"]) fun _ _ _ _ _ _ us hl => match us, hl with | [_, _], _ => rfl
  have F16 := fun_mk (st := s_law) l16 c16 k16
  have b16 := F16.binds (ps := ["script"]) fun _ _ _ _ _ _ us hl => match us, hl with | [_], _ => rfl
  refine ⟨PySem.W.fnOf "law" "law" (defArgs s_law) (defBody s_law) (defScope s_law) .none kV16 dc16 pm16 an16 cd16 ct16, fun s v => .of_eq rfl, fun base _ _ => ?_⟩
  have C_u_law_legs := o_u_law_legs (P := l.prog) (w := w) (base := base) F0 (PySem.W.mg_of X G a0) B b0
  have C_u_law_odd_times := o_u_law_odd_times (P := l.prog) (w := w) (base := base) F1 (PySem.W.mg_of X G a1) B b1
  have C_u_law_sills := o_u_law_sills (P := l.prog) (w := w) (base := base) F2 (PySem.W.mg_of X G a2) B b2 C_u_law_odd_times
  have C_u_law_is_integer := o_u_law_is_integer (P := l.prog) (w := w) (base := base) F3 (PySem.W.mg_of X G a3) B b3
  have C_u_law_is := o_u_law_is (P := l.prog) (w := w) (base := base) F4 (PySem.W.mg_of X G a4) B b4 C_u_law_is_integer 6
  have C_is_prime := o_is_prime (P := l.prog) (w := w) (base := base) F5 (PySem.W.mg_of X G a5) B b5
  have C_is_sill := o_is_sill (P := l.prog) (w := w) (base := base) F6 (PySem.W.mg_of X G a6) B b6 C_is_prime
  have C_told_sill := o_told_sill (P := l.prog) (w := w) (base := base) F7 (PySem.W.mg_of X G a7) B b7 C_is_sill
  have C_told_legs := o_told_legs (P := l.prog) (w := w) (base := base) F8 (PySem.W.mg_of X G a8) B b8
  have C_u_law_sill := o_u_law_sill (P := l.prog) (w := w) (base := base) F9 (PySem.W.mg_of X G a9) B b9 C_u_law_odd_times
  have C_u_law_asked := o_u_law_asked (P := l.prog) (w := w) (base := base) F10 (PySem.W.mg_of X G a10) B b10 C_is_sill C_u_law_sill C_u_law_is C_told_sill C_told_legs C_u_law_sills C_u_law_legs
  have C_nets_at := o_nets_at (P := l.prog) (w := w) (base := base) F11 (PySem.W.mg_of X G a11) B b11
  have C_u_law_counted := o_u_law_counted (P := l.prog) (w := w) (base := base) F12 (PySem.W.mg_of X G a12) B b12 C_nets_at C_u_law_is
  have C_u_law_case := o_u_law_case (P := l.prog) (w := w) (base := base) F13 (PySem.W.mg_of X G a13) B b13 C_u_law_counted C_u_law_asked C_told_sill C_told_legs
  have C_u_law_draws := o_u_law_draws (P := l.prog) (w := w) (base := base) F14 (PySem.W.mg_of X G a14) B b14
  have C_u_law_cell := o_u_law_cell (P := l.prog) (w := w) (base := base) F15 (PySem.W.mg_of X G a15) B b15
  have O := o_law (P := l.prog) (w := w) (base := base) F16 (PySem.W.mg_of X G a16) B b16 C_u_law_cell C_u_law_draws C_u_law_case C_u_law_asked
  exact O
end Sw.k75
open PySem PySem.W PyProof.Rows
set_option maxHeartbeats 0 in
theorem PySem.Challenge.cw_stoneward_k75_whole_legs_and_sills_holds : PySem.Challenge.rw_stoneward_k75_whole_legs_and_sills.Holds := by
  w_on; o_law; k_head; (case hw => w_witness2)
  k_fill
  refine L2.walk_of (l := PySem.Challenge.rw_stoneward_k75_whole_legs_and_sills) (n := 63) (k := 10) (x := "script") (CX := fun _ => L2.CX0) (sp := fun w => Sw.spF Sw.k75.φ_law 1) rfl (by decide) rfl ⟨rfl, by decide, by decide⟩ (fun w h Y => PySem.W.kIn_of Y) ?F (fun w H a ns hl hO hS => Sw.sp_script hO hS (by with_unfolding_all rfl) (Sw.k75.main ns hl)) (fun _ _ _ _ _ h => h)
  case F =>
    intro w mg fa h KX G hmg
    refine' Sw.k75.all_mk KX G hmg ?a0 ?l0 ?c0 ?k0 ?a1 ?l1 ?c1 ?k1 ?a2 ?l2 ?c2 ?k2 ?a3 ?l3 ?c3 ?k3 ?a4 ?l4 ?c4 ?k4 ?a5 ?l5 ?c5 ?k5 ?a6 ?l6 ?c6 ?k6 ?a7 ?l7 ?c7 ?k7 ?a8 ?l8 ?c8 ?k8 ?a9 ?l9 ?c9 ?k9 ?a10 ?l10 ?c10 ?k10 ?a11 ?l11 ?c11 ?k11 ?a12 ?l12 ?c12 ?k12 ?a13 ?l13 ?c13 ?k13 ?a14 ?l14 ?c14 ?k14 ?a15 ?l15 ?c15 ?k15 ?a16 ?l16 ?c16 ?k16 ?z0 ?z1 ?z2 ?z3 ?z4 ?z5 ?z6 ?z7 ?z8 ?z9 ?z10 ?z11 ?z12 ?z13 ?z14 ?z15 ?z16 ?z17 ?z18
    (case a0 => k_is); (case l0 => k_is); (case c0 => k_is); (case k0 => k_is); (case a1 => k_is); (case l1 => k_is); (case c1 => k_is); (case k1 => k_is); (case a2 => k_is); (case l2 => k_is); (case c2 => k_is); (case k2 => k_is); (case a3 => k_is); (case l3 => k_is); (case c3 => k_is); (case k3 => k_is); (case a4 => k_is); (case l4 => k_is); (case c4 => k_is); (case k4 => k_is); (case a5 => k_is); (case l5 => k_is); (case c5 => k_is); (case k5 => k_is); (case a6 => k_is); (case l6 => k_is); (case c6 => k_is); (case k6 => k_is); (case a7 => k_is); (case l7 => k_is); (case c7 => k_is); (case k7 => k_is); (case a8 => k_is); (case l8 => k_is); (case c8 => k_is); (case k8 => k_is); (case a9 => k_is); (case l9 => k_is); (case c9 => k_is); (case k9 => k_is); (case a10 => k_is); (case l10 => k_is); (case c10 => k_is); (case k10 => k_is); (case a11 => k_is); (case l11 => k_is); (case c11 => k_is); (case k11 => k_is); (case a12 => k_is); (case l12 => k_is); (case c12 => k_is); (case k12 => k_is); (case a13 => k_is); (case l13 => k_is); (case c13 => k_is); (case k13 => k_is); (case a14 => k_is); (case l14 => k_is); (case c14 => k_is); (case k14 => k_is); (case a15 => k_is); (case l15 => k_is); (case c15 => k_is); (case k15 => k_is); (case a16 => k_is); (case l16 => k_is); (case c16 => k_is); (case k16 => k_is)
    (case z0 => k_is); (case z1 => k_is); (case z2 => k_is); (case z3 => k_is); (case z4 => k_is); (case z5 => k_is); (case z6 => k_is); (case z7 => k_is); (case z8 => k_is); (case z9 => k_is); (case z10 => k_is); (case z11 => k_is); (case z12 => k_is); (case z13 => k_is); (case z14 => k_is); (case z15 => k_is); (case z16 => k_is); (case z17 => k_is); (case z18 => k_is)

