import PyProof.Rows.All
import Wide.All
import OpenK.AllK
import Wide.FinOn
import HandS.ForMost
import HandS.Exc
import HandS.ExcInit
import HandS.HeadHook1
import HandS.Wide
import HandS.TupAny
import HandS.TupMul
import HandS.Deep
import HandS.IsInst
import HandS.Flow
import PyProof.ReprBulk
import PyProof.ReprRoads
import KE.KExcIs
import HandS.Sort
import HandS.Conv
import KE.KExcInit
import HandS.Zip
import HandS.TryMany
import HandS.ExcField
import HandS.Style
import PyProof.FitsInt
import PyProof.ReprLen
import KE.KStateDown
import HandS.Ends
import HandS.Head0
import HandS.Head1
import HandS.Head2
import HandS.HeadEnd
import PySem.Challenge.RW_looksums_k01_errors_made
set_option Elab.async false
set_option linter.all false
set_option maxRecDepth 100000
set_option maxHeartbeats 0
namespace Py
open PySem L2

/-- built-in classes that are named -/
inductive BT where
  | non | bool | int | str | list | tuple | dict | set | vE | oE | rE | tE
  deriving DecidableEq, Inhabited
def BT.name : BT → String
  | .non => "NoneType" | .bool => "bool" | .int => "int" | .str => "str" | .list => "list" | .tuple => "tuple" | .dict => "dict" | .set => "set"
  | .vE => "ValueError" | .oE => "OverflowError" | .rE => "RuntimeError" | .tE => "TypeError"
/-- data values of the reading machine; ref: a thing of the store -/
inductive D where
  | non | bl (b : Bool) | int (i : Int) | str (x : Str) | shw (p : PyData)
  | tup (xs : List D) | ref (n : Nat) | ty (n : BT) | gl (x : Str)
  deriving Inhabited
inductive O where
  | lst (xs : List D)
  | frl (zs : List Int)
  | zls (zs : List Int)
  | dct (kvs : List (Key × D))
  | dctT (kvs : List (List Key × D))
  | ins (c : Str) (fs : List (Str × D))
  | exc (c : Str) (fs : List (Str × D))
  deriving Inhabited
structure Sto where
  nx : Nat
  ro : Nat
  os : List (Nat × O)
def lkN (n : Nat) : List (Nat × O) → Option O
  | [] => none
  | p :: r => match Nat.beq p.1 n with | true => some p.2 | false => lkN n r
def setAt (n : Nat) (o : O) : List (Nat × O) → List (Nat × O)
  | [] => []
  | p :: r => match Nat.beq p.1 n with | true => (n, o) :: r | false => p :: setAt n o r
def Sto.get (m : Sto) (n : Nat) : Option O := lkN n m.os
def Sto.new (m : Sto) (o : O) : Sto := ⟨m.nx + 1, m.ro, (m.nx, o) :: m.os⟩
def Sto.set (m : Sto) (n : Nat) (o : O) : Sto := ⟨m.nx, m.ro, setAt n o m.os⟩

theorem lkN_set_same {n : Nat} {o o' : O} : ∀ {l : List (Nat × O)}, lkN n l = some o' → lkN n (setAt n o l) = some o
  | [], h => by cases h
  | p :: r, h => by
    unfold lkN at h
    unfold setAt
    cases e : Nat.beq p.1 n with
    | true => simp only [lkN, Nat.beq_refl]
    | false =>
      rw [e] at h
      simp only [lkN, e]
      exact lkN_set_same h
theorem lkN_set_ne {n k : Nat} {o : O} (hk : k ≠ n) : ∀ {l : List (Nat × O)}, lkN k (setAt n o l) = lkN k l
  | [] => rfl
  | p :: r => by
    unfold setAt
    cases e : Nat.beq p.1 n with
    | true =>
      have e1 : p.1 = n := Nat.eq_of_beq_eq_true e
      have e2 : Nat.beq n k = false := by
        cases q : Nat.beq n k with
        | false => rfl
        | true => exact absurd (Nat.eq_of_beq_eq_true q).symm hk
      simp only [lkN, e2, e1]
    | false =>
      simp only [lkN]
      cases Nat.beq p.1 k with
      | true => rfl
      | false => exact lkN_set_ne hk

/-! ### how data lies in the abstract heap -/
abbrev Rho := Nat → Option Addr
def Ext (r r' : Rho) : Prop := ∀ n a, r n = some a → r' n = some a
theorem Ext.refl (r : Rho) : Ext r r := fun _ _ h => h
theorem Ext.trans {r r' r'' : Rho} (a : Ext r r') (b : Ext r' r'') : Ext r r'' := fun n x h => b n x (a n x h)
/-- tuples stay -/
def TK (H H' : Hp) : Prop := ∀ a xs, Rd H a (.tup xs) → Rd H' a (.tup xs)
theorem TK.refl (H : Hp) : TK H H := fun _ _ h => h
theorem TK.trans {H H1 H2 : Hp} (a : TK H H1) (b : TK H1 H2) : TK H H2 := fun x xs h => b x xs (a x xs h)
theorem TK.new {H : Hp} {p : Addr} {o : HO} (h : H p = none) : TK H (upd H p o) := fun a xs e => by
  rcases e with e | ⟨ob, e⟩
  · exact .inl (by rw [upd_ne (ne_of_none e h)]; exact e)
  · exact .inr ⟨ob, by rw [upd_ne (ne_of_none e h)]; exact e⟩
theorem TK.mut {H : Hp} {p : Addr} {o : HO} (h : Mut (H p)) : TK H (upd H p o) := fun a xs e => by
  have ne : a ≠ p := fun z => by
    subst z
    rcases e with e | ⟨ob, e⟩ <;> (rw [e] at h; exact h)
  rcases e with e | ⟨ob, e⟩
  · exact .inl (by rw [upd_ne ne]; exact e)
  · exact .inr ⟨ob, by rw [upd_ne ne]; exact e⟩
theorem TK.sq {K : PySem.W.Frag} {H H' : Hp} {a : Addr} {xs : List V} (k : TK H H') (h : SqT K H a xs) : SqT K H' a xs := by
  rcases h with h | h
  · exact .inl (k a xs h)
  · exact .inr h

mutual
inductive RD (K : PySem.W.Frag) (r : Rho) (H : Hp) : D → V → Prop
  | non : RD K r H .non .non
  | bl (b : Bool) : RD K r H (.bl b) (.bl b)
  | int (i : Int) : RD K r H (.int i) (.int i)
  | str (x : Str) : RD K r H (.str x) (.str x)
  | shw (p : PyData) : RD K r H (.shw p) (.str p.shown)
  | tup {a : Addr} {xs : List D} {ys : List V} : SqT K H a ys → RDs K r H xs ys → RD K r H (.tup xs) (.ref a)
  | ref {n : Nat} {a : Addr} : r n = some a → RD K r H (.ref n) (.ref a)
  | ty (n : BT) : RD K r H (.ty n) (.ty n.name)
  | gl (x : Str) : RD K r H (.gl x) (.ref (He.ga K x))
inductive RDs (K : PySem.W.Frag) (r : Rho) (H : Hp) : List D → List V → Prop
  | nil : RDs K r H [] []
  | cons {d : D} {ds : List D} {v : V} {vs : List V} : RD K r H d v → RDs K r H ds vs → RDs K r H (d :: ds) (v :: vs)
end
mutual
theorem RD.mono {K : PySem.W.Frag} {r r' : Rho} {H H' : Hp} (e : Ext r r') (k : TK H H') : ∀ {d : D} {v : V}, RD K r H d v → RD K r' H' d v
  | _, _, .non => .non
  | _, _, .bl b => .bl b
  | _, _, .int i => .int i
  | _, _, .str x => .str x
  | _, _, .shw p => .shw p
  | _, _, .tup s h => .tup (k.sq s) (RDs.mono e k h)
  | _, _, .ref h => .ref (e _ _ h)
  | _, _, .ty n => .ty n
  | _, _, .gl x => .gl x
theorem RDs.mono {K : PySem.W.Frag} {r r' : Rho} {H H' : Hp} (e : Ext r r') (k : TK H H') : ∀ {d : List D} {v : List V}, RDs K r H d v → RDs K r' H' d v
  | _, _, .nil => .nil
  | _, _, .cons a b => .cons (RD.mono e k a) (RDs.mono e k b)
end
section
variable {K : PySem.W.Frag} {r : Rho} {H : Hp}
theorem RDs.length : ∀ {ds : List D} {vs : List V}, RDs K r H ds vs → ds.length = vs.length
  | _, _, .nil => rfl
  | _, _, .cons _ b => by simp [RDs.length b]
theorem RDs.get : ∀ {ds : List D} {vs : List V} {i : Nat} {d : D}, RDs K r H ds vs → ds[i]? = some d → ∃ v, vs[i]? = some v ∧ RD K r H d v
  | _, _, _, _, .nil, e => by simp at e
  | _, _, 0, _, .cons a _, e => by simp at e; subst e; exact ⟨_, rfl, a⟩
  | _, _, i + 1, d, .cons _ b, e => by
    obtain ⟨v, h1, h2⟩ := RDs.get (i := i) (d := d) b (by simpa using e)
    exact ⟨v, by simpa using h1, h2⟩
theorem RDs.none_of {ds : List D} {vs : List V} {i : Nat} (h : RDs K r H ds vs) (e : ds[i]? = none) : vs[i]? = none := by
  have h1 := h.length
  have h2 : ds.length ≤ i := List.getElem?_eq_none_iff.mp e
  exact List.getElem?_eq_none_iff.mpr (by omega)
theorem RDs.append : ∀ {ds es : List D} {vs us : List V}, RDs K r H ds vs → RDs K r H es us → RDs K r H (ds ++ es) (vs ++ us)
  | _, _, _, _, .nil, s => s
  | _, _, _, _, .cons a b, s => .cons a (RDs.append b s)
theorem RDs.set {d : D} {v : V} (h : RD K r H d v) : ∀ {ds : List D} {vs : List V} (i : Nat), RDs K r H ds vs → RDs K r H (ds.set i d) (vs.set i v)
  | _, _, _, .nil => .nil
  | _, _, 0, .cons _ b => .cons h b
  | _, _, i + 1, .cons a b => .cons a (RDs.set h i b)
theorem RDs.take : ∀ {ds : List D} {vs : List V} (n : Nat), RDs K r H ds vs → RDs K r H (ds.take n) (vs.take n)
  | _, _, 0, _ => .nil
  | _, _, _ + 1, .nil => .nil
  | _, _, n + 1, .cons a b => .cons a (RDs.take n b)
theorem RDs.drop : ∀ {ds : List D} {vs : List V} (n : Nat), RDs K r H ds vs → RDs K r H (ds.drop n) (vs.drop n)
  | _, _, 0, h => h
  | _, _, _ + 1, .nil => .nil
  | _, _, n + 1, .cons _ b => RDs.drop n b
theorem RDs.reverse {ds : List D} {vs : List V} (h : RDs K r H ds vs) : RDs K r H ds.reverse vs.reverse := by
  induction ds generalizing vs with
  | nil => cases h; exact .nil
  | cons d ds ih =>
    cases h with
    | cons a b =>
      rw [List.reverse_cons, List.reverse_cons]
      exact (ih b).append (.cons a .nil)
end

/-- fields by names -/
inductive RF (K : PySem.W.Frag) (r : Rho) (H : Hp) : List (Str × D) → List (Str × V) → Prop
  | nil : RF K r H [] []
  | cons {f : Str} {d : D} {v : V} {fs : List (Str × D)} {gs : List (Str × V)} : RD K r H d v → RF K r H fs gs → RF K r H ((f, d) :: fs) ((f, v) :: gs)
theorem RF.mono {K : PySem.W.Frag} {r r' : Rho} {H H' : Hp} (e : Ext r r') (k : TK H H') : ∀ {fs : List (Str × D)} {gs : List (Str × V)}, RF K r H fs gs → RF K r' H' fs gs
  | _, _, .nil => .nil
  | _, _, .cons a b => .cons (a.mono e k) (RF.mono e k b)
/-- keyed values -/
inductive RKs {κ : Type} (K : PySem.W.Frag) (r : Rho) (H : Hp) : List (κ × D) → List (κ × V) → Prop
  | nil : RKs K r H [] []
  | cons {k : κ} {d : D} {v : V} {fs : List (κ × D)} {gs : List (κ × V)} : RD K r H d v → RKs K r H fs gs → RKs K r H ((k, d) :: fs) ((k, v) :: gs)
theorem RKs.mono {κ : Type} {K : PySem.W.Frag} {r r' : Rho} {H H' : Hp} (e : Ext r r') (k : TK H H') : ∀ {fs : List (κ × D)} {gs : List (κ × V)}, RKs K r H fs gs → RKs K r' H' fs gs
  | _, _, .nil => .nil
  | _, _, .cons a b => .cons (a.mono e k) (RKs.mono e k b)

/-- an exception object, made or caught, with its dict -/
def exq (e C dx : Addr) : HO := .ext fun h => ∃ (oe : Obj) (vs : Array Value), h.get? e = some oe ∧ Zc (.ref C) (some dx) oe ∧ oe.data = .fields vs ∧ 4 < vs.size
def OR (K : PySem.W.Frag) (r : Rho) (H : Hp) (a : Addr) : O → Prop
  | .lst xs => ∃ ys, H a = some (.lst ys) ∧ RDs K r H xs ys
  | .frl zs => ∃ o, H a = some (.frz o (.lst (zs.map .int)))
  | .zls zs => H a = some (.lst (zs.map .int))
  | .dct kvs => ∃ ys, H a = some (.dK ys) ∧ RKs K r H kvs ys
  | .dctT kvs => ∃ ys, H a = some (.dT ys) ∧ RKs K r H kvs ys
  | .ins c fs => ∃ dx ys, H a = some (.ins (He.ga K c) dx ys) ∧ RF K r H fs ys
  | .exc c fs => ∃ dx ys, H a = some (exq a (He.ga K c) dx) ∧ H dx = some (.xd ys) ∧ RF K r H fs ys

structure SR (K : PySem.W.Frag) (r : Rho) (H : Hp) (m : Sto) : Prop where
  at_ : ∀ n o, m.get n = some o → ∃ a, r n = some a ∧ OR K r H a o
  inj : ∀ n k a, r n = some a → r k = some a → n = k
  fresh : ∀ n, m.nx ≤ n → r n = none
  lt : ∀ n o, m.get n = some o → n < m.nx
  dom : ∀ n a, r n = some a → ∃ o, H a = some o

/-- slots -/
abbrev En := List (Option D)
inductive SL (K : PySem.W.Frag) (r : Rho) (H : Hp) : List (Option V) → En → Prop
  | nil : SL K r H [] []
  | put {v : V} {d : D} {s : List (Option V)} {e : En} : RD K r H d v → SL K r H s e → SL K r H (some v :: s) (some d :: e)
  | gap {o : Option V} {s : List (Option V)} {e : En} : SL K r H s e → SL K r H (o :: s) (none :: e)
theorem SL.mono {K : PySem.W.Frag} {r r' : Rho} {H H' : Hp} (e : Ext r r') (k : TK H H') : ∀ {s : List (Option V)} {as : En}, SL K r H s as → SL K r' H' s as
  | _, _, .nil => .nil
  | _, _, .put a b => .put (a.mono e k) (SL.mono e k b)
  | _, _, .gap b => .gap (SL.mono e k b)
theorem SL.get {K : PySem.W.Frag} {r : Rho} {H : Hp} : ∀ {s : List (Option V)} {as : En} {i : Nat} {d : D}, SL K r H s as → as[i]? = some (some d) → ∃ v, s[i]? = some (some v) ∧ RD K r H d v
  | _, _, _, _, .nil, e => by simp at e
  | _, _, 0, _, .put a _, e => by simp at e; subst e; exact ⟨_, rfl, a⟩
  | _, _, 0, _, .gap _, e => by simp at e
  | _, _, i + 1, d, .put _ b, e => by
    obtain ⟨v, h1, h2⟩ := SL.get (i := i) (d := d) b (by simpa using e)
    exact ⟨v, by simpa using h1, h2⟩
  | _, _, i + 1, d, .gap b, e => by
    obtain ⟨v, h1, h2⟩ := SL.get (i := i) (d := d) b (by simpa using e)
    exact ⟨v, by simpa using h1, h2⟩
theorem SL.set {K : PySem.W.Frag} {r : Rho} {H : Hp} {v : V} {d : D} (h : RD K r H d v) : ∀ {s : List (Option V)} {as : En} (i : Nat), SL K r H s as → SL K r H (s.set i (some v)) (as.set i (some d))
  | _, _, _, .nil => .nil
  | _, _, 0, .put _ b => .put h b
  | _, _, 0, .gap b => .put h b
  | _, _, i + 1, .put a b => .put a (SL.set h i b)
  | _, _, i + 1, .gap b => .gap (SL.set h i b)
theorem SL.setNone {K : PySem.W.Frag} {r : Rho} {H : Hp} {o : Option V} : ∀ {s : List (Option V)} {as : En} (i : Nat), SL K r H s as → SL K r H (s.set i o) (as.set i Option.none)
  | _, _, _, .nil => .nil
  | _, _, 0, .put _ b => .gap b
  | _, _, 0, .gap b => .gap b
  | _, _, i + 1, .put a b => .put a (SL.setNone i b)
  | _, _, i + 1, .gap b => .gap (SL.setNone i b)
theorem SL.length {K : PySem.W.Frag} {r : Rho} {H : Hp} : ∀ {s : List (Option V)} {as : En}, SL K r H s as → s.length = as.length
  | _, _, .nil => rfl
  | _, _, .put _ b => by simp [SL.length b]
  | _, _, .gap b => by simp [SL.length b]

/-! ### results -/
inductive R (α : Type) where
  | ok (a : α) (m : Sto)
  | exc (c : Str) (fs : List (Str × D)) (m : Sto)
  | bad
def R.bind {α β : Type} (x : R α) (k : α → Sto → R β) : R β := match x with
  | .ok a m => k a m
  | .exc c fs m => .exc c fs m
  | .bad => .bad
def R.sat {α : Type} (x : R α) (P : α → Sto → Prop) (E : Str → List (Str × D) → Sto → Prop) : Prop := match x with
  | .ok a m => P a m
  | .exc c fs m => E c fs m
  | .bad => False
def R.ofO {α : Type} (o : Option α) (m : Sto) : R α := match o with
  | some a => .ok a m
  | none => .bad
theorem R.sat_mono {α : Type} {x : R α} {P P' : α → Sto → Prop} {E E' : Str → List (Str × D) → Sto → Prop} (h : x.sat P E) (hp : ∀ a m, P a m → P' a m) (he : ∀ c f m, E c f m → E' c f m) : x.sat P' E' := by
  cases x with
  | ok a m => exact hp a m h
  | exc c f m => exact he c f m h
  | bad => exact h

section
variable (K : PySem.W.Frag) (r : Rho) (H : Hp)
/-- what is wanted of a value, at any later state -/
def Post (Q : VK) : D → Sto → Prop := fun d m => ∀ r' H' v, Ext r r' → TK H H' → SR K r' H' m → RD K r' H' d v → Q v H'
def PostA (Q : List V → Hp → Prop) : List D → Sto → Prop := fun d m => ∀ r' H' v, Ext r r' → TK H H' → SR K r' H' m → RDs K r' H' d v → Q v H'
def PostB (Q : Bool → Hp → Prop) : Bool → Sto → Prop := fun d m => ∀ r' H', Ext r r' → TK H H' → SR K r' H' m → Q d H'
def PostX (W : WX) (s : St) : Str → List (Str × D) → Sto → Prop := fun c fs m => ∀ r' H' dx ys, Ext r r' → TK H H' → SR K r' H' m → H' dx = some (.xd ys) → RF K r' H' fs ys → W (.ref (He.ga K c)) (some dx) s H'
end
section
variable {K : PySem.W.Frag} {r r1 : Rho} {H H1 : Hp}
theorem Post.fwd {Q : VK} {d : D} {m : Sto} (h : Post K r H Q d m) (e : Ext r r1) (k : TK H H1) : Post K r1 H1 Q d m := fun r' H' v a b c x => h r' H' v (e.trans a) (k.trans b) c x
theorem PostA.fwd {Q : List V → Hp → Prop} {d : List D} {m : Sto} (h : PostA K r H Q d m) (e : Ext r r1) (k : TK H H1) : PostA K r1 H1 Q d m := fun r' H' v a b c x => h r' H' v (e.trans a) (k.trans b) c x
theorem PostB.fwd {Q : Bool → Hp → Prop} {d : Bool} {m : Sto} (h : PostB K r H Q d m) (e : Ext r r1) (k : TK H H1) : PostB K r1 H1 Q d m := fun r' H' a b c => h r' H' (e.trans a) (k.trans b) c
theorem PostX.fwd {W : WX} {s : St} {c : Str} {fs : List (Str × D)} {m : Sto} (h : PostX K r H W s c fs m) (e : Ext r r1) (k : TK H H1) : PostX K r1 H1 W s c fs m := fun r' H' dx ys a b => h r' H' dx ys (e.trans a) (k.trans b)
end

/-! ### the transformers of readings -/
def tE (K : PySem.W.Frag) (W : WX) (f : En → Sto → R D) : TE := fun s H Q => ∃ r as m, SL K r H s as ∧ SR K r H m ∧ (f as m).sat (Post K r H Q) (PostX K r H W s)
def tAr (K : PySem.W.Frag) (W : WX) (f : En → Sto → R (List D)) : TA := fun s H Q => ∃ r as m, SL K r H s as ∧ SR K r H m ∧ (f as m).sat (PostA K r H Q) (PostX K r H W s)
def tTt (K : PySem.W.Frag) (W : WX) (f : En → Sto → R Bool) : TT := fun s H Q => ∃ r as m, SL K r H s as ∧ SR K r H m ∧ (f as m).sat (PostB K r H Q) (PostX K r H W s)
theorem PE.imp {X : Cx} {e : Expr} {t t' : TE} (h : PE X e t) (i : ∀ s H Q, t' s H Q → t s H Q) : PE X e t' := ⟨fun p s q H Q I z => h.run p s q H Q I (i _ _ _ z)⟩
theorem PA.imp {X : Cx} {e : List Expr} {t t' : TA} (h : PA X e t) (i : ∀ s H Q, t' s H Q → t s H Q) : PA X e t' := ⟨fun a p s q H Q I z => h.run a p s q H Q I (i _ _ _ z)⟩
theorem PT.imp {X : Cx} {e : Expr} {t t' : TT} (h : PT X e t) (i : ∀ s H Q, t' s H Q → t s H Q) : PT X e t' := ⟨fun p s q H Q I z => h.run p s q H Q I (i _ _ _ z)⟩
theorem PW.imp {X : Cx} {e : Expr} {t t' : TT} (h : PW X e t) (i : ∀ s H Q, t' s H Q → t s H Q) : PW X e t' := ⟨fun wh p s q H Q I z => h.run wh p s q H Q I (i _ _ _ z)⟩
theorem PS.imp {X : Cx} {e : Stmt} {t t' : TS} (h : PS X e t) (i : ∀ D s H, t' D s H → t D s H) : PS X e t' := ⟨fun p s q H D I z => h.run p s q H D I (i _ _ _ z)⟩
theorem PSs.imp {X : Cx} {e : List Stmt} {t t' : TS} (h : PSs X e t) (i : ∀ D s H, t' D s H → t D s H) : PSs X e t' := ⟨fun p s q H D I z => h.run p s q H D I (i _ _ _ z)⟩

theorem R.sat_bind {α β : Type} {x : R α} {k : α → Sto → R β} {P : β → Sto → Prop} {E : Str → List (Str × D) → Sto → Prop} (h : (x.bind k).sat P E) : x.sat (fun a m => (k a m).sat P E) E := by
  cases x with
  | ok a m => exact h
  | exc c f m => exact h
  | bad => exact h
section
variable {K : PySem.W.Frag} {W : WX} {s : St} {H : Hp} {r : Rho} {as : En} {m : Sto}
/-- one part, then the rest: the rest is met at a later state -/
theorem tE_of {f : En → Sto → R D} {P : D → Sto → Prop} {R' : V → Hp → Prop} (hl : SL K r H s as) (hs : SR K r H m) (h : (f as m).sat P (PostX K r H W s))
    (hk : ∀ r1 m1 d v H1, Ext r r1 → TK H H1 → SL K r1 H1 s as → SR K r1 H1 m1 → RD K r1 H1 d v → P d m1 → R' v H1) : tE K W f s H R' :=
  ⟨r, as, m, hl, hs, R.sat_mono h (fun d m1 p r1 H1 v e k s1 rd => hk r1 m1 d v H1 e k (hl.mono e k) s1 rd p) fun _ _ _ q => q⟩
theorem tA_of {f : En → Sto → R (List D)} {P : List D → Sto → Prop} {R' : List V → Hp → Prop} (hl : SL K r H s as) (hs : SR K r H m) (h : (f as m).sat P (PostX K r H W s))
    (hk : ∀ r1 m1 d v H1, Ext r r1 → TK H H1 → SL K r1 H1 s as → SR K r1 H1 m1 → RDs K r1 H1 d v → P d m1 → R' v H1) : tAr K W f s H R' :=
  ⟨r, as, m, hl, hs, R.sat_mono h (fun d m1 p r1 H1 v e k s1 rd => hk r1 m1 d v H1 e k (hl.mono e k) s1 rd p) fun _ _ _ q => q⟩
theorem tT_of {f : En → Sto → R Bool} {P : Bool → Sto → Prop} {R' : Bool → Hp → Prop} (hl : SL K r H s as) (hs : SR K r H m) (h : (f as m).sat P (PostX K r H W s))
    (hk : ∀ r1 m1 d H1, Ext r r1 → TK H H1 → SL K r1 H1 s as → SR K r1 H1 m1 → P d m1 → R' d H1) : tTt K W f s H R' :=
  ⟨r, as, m, hl, hs, R.sat_mono h (fun d m1 p r1 H1 e k s1 => hk r1 m1 d H1 e k (hl.mono e k) s1 p) fun _ _ _ q => q⟩
end
theorem R.fwd {K : PySem.W.Frag} {W : WX} {s : St} {r r1 : Rho} {H H1 : Hp} {Q : VK} {x : R D} (h : x.sat (Post K r H Q) (PostX K r H W s)) (e : Ext r r1) (k : TK H H1) : x.sat (Post K r1 H1 Q) (PostX K r1 H1 W s) :=
  R.sat_mono h (fun _ _ q => Post.fwd q e k) fun _ _ _ q => PostX.fwd q e k
theorem R.fwdA {K : PySem.W.Frag} {W : WX} {s : St} {r r1 : Rho} {H H1 : Hp} {Q : List V → Hp → Prop} {x : R (List D)} (h : x.sat (PostA K r H Q) (PostX K r H W s)) (e : Ext r r1) (k : TK H H1) : x.sat (PostA K r1 H1 Q) (PostX K r1 H1 W s) :=
  R.sat_mono h (fun _ _ q => PostA.fwd q e k) fun _ _ _ q => PostX.fwd q e k
theorem R.fwdB {K : PySem.W.Frag} {W : WX} {s : St} {r r1 : Rho} {H H1 : Hp} {Q : Bool → Hp → Prop} {x : R Bool} (h : x.sat (PostB K r H Q) (PostX K r H W s)) (e : Ext r r1) (k : TK H H1) : x.sat (PostB K r1 H1 Q) (PostX K r1 H1 W s) :=
  R.sat_mono h (fun _ _ q => PostB.fwd q e k) fun _ _ _ q => PostX.fwd q e k

/-! ### two operands, by data -/
def rD2 (K : PySem.W.Frag) (f : D → D → Sto → R D) : R2 := fun x y H Q => ∃ r m dx dy, SR K r H m ∧ RD K r H dx x ∧ RD K r H dy y ∧ (f dx dy m).sat (Post K r H Q) (fun _ _ _ => False)
/-- an operation never raises -/
def R.calm {α : Type} (x : R α) : R α := match x with
  | .exc _ _ _ => .bad
  | x => x
theorem R.calm_sat {α : Type} {x : R α} {P : α → Sto → Prop} {E : Str → List (Str × D) → Sto → Prop} (h : x.calm.sat P E) : x.sat P (fun _ _ _ => False) := by
  cases x with
  | ok a m => exact h
  | exc c f m => exact (show False from h).elim
  | bad => exact h
def bin (fa fb : En → Sto → R D) (f : D → D → Sto → R D) : En → Sto → R D := fun as m => (fa as m).bind fun a m1 => (fb as m1).bind fun b m2 => (f a b m2).calm
theorem tE_bin {K : PySem.W.Frag} {W : WX} {s : St} {H : Hp} {Q : VK} {fa fb : En → Sto → R D} {f : D → D → Sto → R D} (h : tE K W (bin fa fb f) s H Q) : tOp (rD2 K f) (tE K W fa) (tE K W fb) s H Q := by
  obtain ⟨r, as, m, hl, hs, hf⟩ := h
  refine tE_of hl hs (R.sat_bind hf) fun r1 m1 d v H1 e k hl1 hs1 rd p => ?_
  refine tE_of hl1 hs1 (R.sat_bind (R.fwd p e k)) fun r2 m2 d2 v2 H2 e2 k2 hl2 hs2 rd2 p2 => ?_
  exact ⟨r2, m2, d, d2, hs2, rd.mono e2 k2, rd2, R.calm_sat (R.fwd p2 e2 k2)⟩
end Py
namespace Py
open PySem L2

/-! ### the store and the abstract heap -/
def rput (r : Rho) (n : Nat) (a : Addr) : Rho := fun k => if k = n then some a else r k
theorem rput_same {r : Rho} {n : Nat} {a : Addr} : rput r n a n = some a := if_pos rfl
theorem rput_ne {r : Rho} {n k : Nat} {a : Addr} (h : k ≠ n) : rput r n a k = r k := if_neg h
theorem rput_ext {r : Rho} {n : Nat} {a : Addr} (h : r n = none) : Ext r (rput r n a) := fun k b e => by
  have : k ≠ n := fun z => by rw [z, h] at e; cases e
  rw [rput_ne this]; exact e
section
variable {K : PySem.W.Frag} {r r' : Rho} {H H' : Hp} {m : Sto}
theorem OR.keep {a : Addr} {o : O} (h : OR K r H a o) (e : Ext r r') (k : TK H H') (hb : ∀ b x, H b = some x → (b = a ∨ ∃ ys, x = .xd ys) → H' b = some x) : OR K r' H' a o := by
  cases o with
  | lst xs => obtain ⟨ys, h1, h2⟩ := h; exact ⟨ys, hb _ _ h1 (.inl rfl), h2.mono e k⟩
  | frl zs =>
    obtain ⟨o, h1⟩ := h
    exact ⟨o, hb _ _ h1 (.inl rfl)⟩
  | zls zs => exact hb _ _ h (.inl rfl)
  | dct kvs => obtain ⟨ys, h1, h2⟩ := h; exact ⟨ys, hb _ _ h1 (.inl rfl), h2.mono e k⟩
  | dctT kvs => obtain ⟨ys, h1, h2⟩ := h; exact ⟨ys, hb _ _ h1 (.inl rfl), h2.mono e k⟩
  | ins c fs => obtain ⟨dx, ys, h1, h2⟩ := h; exact ⟨dx, ys, hb _ _ h1 (.inl rfl), h2.mono e k⟩
  | exc c fs => obtain ⟨dx, ys, h1, h2, h3⟩ := h; exact ⟨dx, ys, hb _ _ h1 (.inl rfl), hb _ _ h2 (.inr ⟨ys, rfl⟩), h3.mono e k⟩
theorem get_new_same {o : O} : (m.new o).get m.nx = some o := by
  show lkN m.nx ((m.nx, o) :: m.os) = some o
  unfold lkN
  rw [Nat.beq_refl]
theorem get_new_ne {o : O} {n : Nat} (h : n ≠ m.nx) : (m.new o).get n = m.get n := by
  show lkN n ((m.nx, o) :: m.os) = lkN n m.os
  have e : Nat.beq m.nx n = false := by
    cases q : Nat.beq m.nx n with
    | false => rfl
    | true => exact absurd (Nat.eq_of_beq_eq_true q).symm h
  conv => lhs; unfold lkN
  simp only [e]
theorem get_set_same {o o' : O} {n : Nat} (h : m.get n = some o') : (m.set n o).get n = some o := lkN_set_same h
theorem get_set_ne {o : O} {n k : Nat} (h : k ≠ n) : (m.set n o).get k = m.get k := lkN_set_ne h
/-- a new thing -/
theorem SR.new {o : O} {p : Addr} {ho : HO} (s : SR K r H m) (hp : H p = none) (hor : OR K (rput r m.nx p) (upd H p ho) p o) : SR K (rput r m.nx p) (upd H p ho) (m.new o) := by
  have e : Ext r (rput r m.nx p) := rput_ext (s.fresh _ (Nat.le_refl _))
  refine ⟨fun n o' h => ?_, fun n k a h1 h2 => ?_, fun n h => ?_, fun n o' h => ?_, fun n a h => ?_⟩
  · by_cases hn : n = m.nx
    · subst hn
      rw [get_new_same] at h; cases h
      exact ⟨p, rput_same, hor⟩
    · rw [get_new_ne hn] at h
      obtain ⟨a, h1, h2⟩ := s.at_ n o' h
      refine ⟨a, e _ _ h1, h2.keep e (TK.new hp) fun b x hx _ => ?_⟩
      rw [upd_ne (ne_of_none hx hp)]; exact hx
  · by_cases hn : n = m.nx
    · by_cases hk : k = m.nx
      · rw [hn, hk]
      · rw [hn, rput_same] at h1
        rw [rput_ne hk] at h2
        cases h1
        obtain ⟨o', z⟩ := s.dom k p h2
        rw [hp] at z; cases z
    · by_cases hk : k = m.nx
      · rw [hk, rput_same] at h2
        rw [rput_ne hn] at h1
        cases h2
        obtain ⟨o', z⟩ := s.dom n p h1
        rw [hp] at z; cases z
      · rw [rput_ne hn] at h1
        rw [rput_ne hk] at h2
        exact s.inj n k a h1 h2
  · have h' : m.nx + 1 ≤ n := h
    rw [rput_ne (by omega)]
    exact s.fresh n (by omega)
  · show n < m.nx + 1
    by_cases hn : n = m.nx
    · omega
    · rw [get_new_ne hn] at h
      have := s.lt n o' h
      omega
  · by_cases hn : n = m.nx
    · rw [hn, rput_same] at h; cases h
      exact ⟨ho, upd_same⟩
    · rw [rput_ne hn] at h
      obtain ⟨o', z⟩ := s.dom n a h
      exact ⟨o', by rw [upd_ne (ne_of_none z hp)]; exact z⟩
/-- a thing changed -/
theorem SR.set {o o' : O} {n : Nat} {a : Addr} {ho : HO} (s : SR K r H m) (hn : m.get n = some o) (hr : r n = some a) (mu : Mut (H a)) (hor : OR K r (upd H a ho) a o') : SR K r (upd H a ho) (m.set n o') := by
  refine ⟨fun k ob h => ?_, s.inj, s.fresh, fun k ob h => ?_, fun k b h => ?_⟩
  · by_cases hk : k = n
    · subst hk
      rw [get_set_same hn] at h; cases h
      exact ⟨a, hr, hor⟩
    · rw [get_set_ne hk] at h
      obtain ⟨b, h1, h2⟩ := s.at_ k ob h
      refine ⟨b, h1, h2.keep (Ext.refl r) (TK.mut mu) fun c x hx hc => ?_⟩
      have : c ≠ a := fun z => by
        subst z
        rcases hc with hc | ⟨ys, hc⟩
        · subst hc
          exact hk (s.inj k n _ h1 hr)
        · subst hc
          rw [hx] at mu; exact mu
      rw [upd_ne this]; exact hx
  · show k < m.nx
    by_cases hk : k = n
    · subst hk; exact s.lt _ _ hn
    · rw [get_set_ne hk] at h
      exact s.lt k ob h
  · by_cases hb : b = a
    · exact ⟨ho, by rw [hb, upd_same]⟩
    · obtain ⟨x, hx⟩ := s.dom k b h
      exact ⟨x, by rw [upd_ne hb]; exact hx⟩
end

/-! ### texts, sizes -/
def eqNs : List Nat → List Nat → Bool
  | [], [] => true
  | a :: r, b :: t => match Nat.beq a b with | true => eqNs r t | false => false
  | _, _ => false
theorem eqNs_iff : ∀ {a b : List Nat}, eqNs a b = true ↔ a = b
  | [], [] => by simp [eqNs]
  | [], _ :: _ => by simp [eqNs]
  | _ :: _, [] => by simp [eqNs]
  | a :: r, b :: t => by
    unfold eqNs
    cases e : Nat.beq a b with
    | true =>
      have := Nat.eq_of_beq_eq_true e
      subst this
      simp [eqNs_iff (a := r) (b := t)]
    | false =>
      have : a ≠ b := fun z => by subst z; rw [Nat.beq_refl] at e; cases e
      simp [this]
def eqS (x y : Str) : Bool := eqNs x.cps.toList y.cps.toList
theorem eqS_iff {x y : Str} : eqS x y = true ↔ x = y := by
  obtain ⟨⟨a⟩⟩ := x
  obtain ⟨⟨b⟩⟩ := y
  unfold eqS
  rw [eqNs_iff]
  constructor
  · intro h; cases (show a = b from h); rfl
  · intro h; cases h; rfl
theorem eqS_eq {x y : Str} : eqS x y = decide (x = y) := by
  cases h : eqS x y with
  | true => exact (decide_eq_true (eqS_iff.mp h)).symm
  | false => exact (decide_eq_false fun z => by rw [eqS_iff.mpr z] at h; cases h).symm
def lenOk (n : Nat) : Bool := Nat.ble n 1000000
theorem lenOk_le {n : Nat} (h : lenOk n = true) : n ≤ 1000000 := Nat.le_of_ble_eq_true h
theorem lenOk_line {n : Nat} (h : lenOk n = true) : n ≤ sizeLine := Nat.le_trans (lenOk_le h) (by rw [sizeLine_eq]; omega)
theorem lenOk_lt {n : Nat} (h : lenOk n = true) : n < sizeLine := Nat.lt_of_le_of_lt (lenOk_le h) (by rw [sizeLine_eq]; omega)
def okNs : List Nat → Bool
  | [] => true
  | a :: r => match Nat.blt a 1114112 with | true => okNs r | false => false
theorem okNs_iff : ∀ {l : List Nat}, okNs l = true → ∀ c ∈ l, c < 1114112
  | [], _, _, h => nomatch h
  | a :: r, h, c, hc => by
    unfold okNs at h
    cases e : Nat.blt a 1114112 with
    | false => rw [e] at h; cases h
    | true =>
      rw [e] at h
      rcases List.mem_cons.mp hc with rfl | hc
      · exact Nat.le_of_ble_eq_true e
      · exact okNs_iff h c hc
def okS (x : Str) : Bool := okNs x.cps.toList
theorem okS_strOk {x : Str} (h : okS x = true) : PyData.strOk x = true := by
  unfold PyData.strOk
  rw [Array.all_eq_true]
  intro i hi
  have := okNs_iff h x.cps[i] (by simp)
  simpa using this

/-! ### plain data -/
def mapO {α β : Type} (f : α → Option β) : List α → Option (List β)
  | [] => some []
  | a :: r => match f a with
    | none => none
    | some b => match mapO f r with
      | none => none
      | some bs => some (b :: bs)
theorem mapO_cons {α β : Type} {f : α → Option β} {a : α} {r : List α} {bs : List β} (h : mapO f (a :: r) = some bs) : ∃ b t, f a = some b ∧ mapO f r = some t ∧ bs = b :: t := by
  unfold mapO at h
  cases e : f a with
  | none => rw [e] at h; cases h
  | some b =>
    rw [e] at h
    cases e2 : mapO f r with
    | none => simp only [e2] at h; cases h
    | some t => simp only [e2] at h; cases h; exact ⟨b, t, rfl, rfl, rfl⟩
/-- a value as plain data, to a depth -/
def toP : Nat → Sto → D → Option PyData
  | 0, _, _ => none
  | k + 1, m, d => match d with
    | .non => some .none
    | .bl b => some (.bool b)
    | .int i => some (.int i)
    | .str x => match okS x with | true => some (.str x) | false => none
    | .tup xs => (mapO (toP k m) xs).map .tuple
    | .ref n => match m.get n with
      | some (.lst xs) => (mapO (toP k m) xs).map .list
      | _ => none
    | _ => none
theorem toP_dp {K : PySem.W.Frag} {r : Rho} {H : Hp} {m : Sto} (s : SR K r H m) : ∀ (k : Nat) {d : D} {v : V} {p : PyData}, toP k m d = some p → RD K r H d v → Dp K H v p
  | 0, _, _, _, h, _ => by cases h
  | k + 1, d, v, p, h, rd => by
    have all : ∀ {xs : List D} {ys : List V} {ps : List PyData}, mapO (toP k m) xs = some ps → RDs K r H xs ys → DpAll K H ys ps := by
      intro xs
      induction xs with
      | nil => intro ys ps h1 h2; cases h2; cases h1; exact .nil
      | cons x xs ih =>
        intro ys ps h1 h2
        obtain ⟨b, t, e1, e2, rfl⟩ := mapO_cons h1
        cases h2 with
        | cons a c => exact .cons (toP_dp s k e1 a) (ih e2 c)
    unfold toP at h
    cases rd with
    | non => cases h; exact .non
    | bl b => cases h; exact .bl b
    | int i => cases h; exact .int i
    | str x =>
      cases e : okS x with
      | false => simp only [e] at h; cases h
      | true => simp only [e] at h; cases h; exact .str x
    | shw q => cases h
    | tup sq hs =>
      obtain ⟨ps, e1, rfl⟩ := Option.map_eq_some_iff.mp h
      exact .tup sq (all e1 hs)
    | @ref n a hr =>
      cases e : m.get n with
      | none => simp only [e] at h; cases h
      | some o =>
        cases o with
        | lst xs =>
          simp only [e] at h
          obtain ⟨ps, e1, rfl⟩ := Option.map_eq_some_iff.mp h
          obtain ⟨a', h1, ys, h2, h3⟩ := s.at_ n _ e
          rw [hr] at h1; cases h1
          exact .lst (SqL.of h2) (all e1 h3)
        | _ => simp only [e] at h; cases h
    | ty n => cases h
    | gl x => cases h
theorem mapO_lay {k : Nat} {m : Sto} (ih : ∀ {d : D} {p : PyData}, toP k m d = some p → p.canLay0 = true ∧ p.depth ≤ k) : ∀ {xs : List D} {ps : List PyData}, mapO (toP k m) xs = some ps → PyData.canLayAll0 ps = true ∧ PyData.depthAll ps ≤ k
  | [], ps, h => by cases h; exact ⟨by simp [PyData.canLayAll0], by simp [PyData.depthAll]⟩
  | x :: xs, ps, h => by
    obtain ⟨b, t, e1, e2, rfl⟩ := mapO_cons h
    have h1 := ih e1
    have h2 := mapO_lay ih e2
    exact ⟨by simp [PyData.canLayAll0, h1.1, h2.1], by simp only [PyData.depthAll]; omega⟩
theorem toP_lay : ∀ (k : Nat) {m : Sto} {d : D} {p : PyData}, toP k m d = some p → p.canLay0 = true ∧ p.depth ≤ k
  | 0, _, _, _, h => by cases h
  | k + 1, m, d, p, h => by
    have ih : ∀ {d : D} {p : PyData}, toP k m d = some p → p.canLay0 = true ∧ p.depth ≤ k := fun h => toP_lay k h
    unfold toP at h
    cases d with
    | non => cases h; exact ⟨by simp [PyData.canLay0], by simp [PyData.depth]⟩
    | bl b => cases h; exact ⟨by simp [PyData.canLay0], by simp [PyData.depth]⟩
    | int b => cases h; exact ⟨by simp [PyData.canLay0], by simp [PyData.depth]⟩
    | str x =>
      cases e : okS x with
      | false => simp only [e] at h; cases h
      | true => simp only [e] at h; cases h; exact ⟨by simp [PyData.canLay0, okS_strOk e], by simp [PyData.depth]⟩
    | tup xs =>
      obtain ⟨ps, e1, rfl⟩ := Option.map_eq_some_iff.mp h
      have := mapO_lay ih e1
      exact ⟨by simp [PyData.canLay0, this.1], by simp only [PyData.depth]; omega⟩
    | ref n =>
      cases e : m.get n with
      | none => simp only [e] at h; cases h
      | some o =>
        cases o with
        | lst xs =>
          simp only [e] at h
          obtain ⟨ps, e1, rfl⟩ := Option.map_eq_some_iff.mp h
          have := mapO_lay ih e1
          exact ⟨by simp [PyData.canLay0, this.1], by simp only [PyData.depth]; omega⟩
        | _ => simp only [e] at h; cases h
    | _ => cases h
theorem toP_shaped {m : Sto} {d : D} {p : PyData} (h : toP 60 m d = some p) : SeqAt.shaped p = true := by
  have := toP_lay 60 h
  unfold SeqAt.shaped
  rw [this.1]
  simp; omega

mutual
def eqP : PyData → PyData → Bool
  | .none, .none => true
  | .bool a, .bool b => a == b
  | .bool a, .int j => (if a then 1 else 0) == j
  | .int i, .bool b => i == (if b then 1 else 0)
  | .int i, .int j => i == j
  | .str x, .str y => eqS x y
  | .list xs, .list ys => eqPs xs ys
  | .tuple xs, .tuple ys => eqPs xs ys
  | _, _ => false
def eqPs : List PyData → List PyData → Bool
  | [], [] => true
  | x :: xs, y :: ys => match eqP x y with | true => eqPs xs ys | false => false
  | _, _ => false
end
mutual
theorem eqP_eq : ∀ (a b : PyData), eqP a b = PyData.eqv a b
  | .none, b => by cases b <;> simp [eqP, PyData.eqv]
  | .bool _, b => by cases b <;> simp [eqP, PyData.eqv]
  | .int _, b => by cases b <;> simp [eqP, PyData.eqv]
  | .str x, b => by
    cases b <;> simp only [eqP, PyData.eqv]
    rw [eqS_eq]; rfl
  | .list xs, b => by
    cases b <;> simp only [eqP, PyData.eqv]
    exact eqPs_eq xs _
  | .tuple xs, b => by
    cases b <;> simp only [eqP, PyData.eqv]
    exact eqPs_eq xs _
  | .dict _, b => by cases b <;> simp [eqP, PyData.eqv]
theorem eqPs_eq : ∀ (a b : List PyData), eqPs a b = PyData.eqvAll a b
  | [], b => by cases b <;> simp [eqPs, PyData.eqvAll]
  | x :: xs, b => by
    cases b with
    | nil => simp [eqPs, PyData.eqvAll]
    | cons y ys =>
      simp only [eqPs, PyData.eqvAll]
      rw [eqP_eq x y, eqPs_eq xs ys]
      cases PyData.eqv x y <;> rfl
end
/-- the same data to the sign -/
def eqZ : Int → Int → Bool
  | .ofNat a, .ofNat b => Nat.beq a b
  | .negSucc a, .negSucc b => Nat.beq a b
  | _, _ => false
theorem eqZ_eq : ∀ {a b : Int}, eqZ a b = true → a = b
  | .ofNat a, .ofNat b, h => by rw [Nat.eq_of_beq_eq_true h]
  | .negSucc a, .negSucc b, h => by rw [Nat.eq_of_beq_eq_true h]
  | .ofNat _, .negSucc _, h => by cases h
  | .negSucc _, .ofNat _, h => by cases h
mutual
def sameP : PyData → PyData → Bool
  | .none, .none => true
  | .bool a, .bool b => a == b
  | .int i, .int j => eqZ i j
  | .str x, .str y => eqS x y
  | .list xs, .list ys => samePs xs ys
  | .tuple xs, .tuple ys => samePs xs ys
  | .dict xs, .dict ys => samePk xs ys
  | _, _ => false
def samePs : List PyData → List PyData → Bool
  | [], [] => true
  | x :: xs, y :: ys => match sameP x y with | true => samePs xs ys | false => false
  | _, _ => false
def samePk : List (PyData × PyData) → List (PyData × PyData) → Bool
  | [], [] => true
  | (a, b) :: xs, (c, d) :: ys => match sameP a c with | true => (match sameP b d with | true => samePk xs ys | false => false) | false => false
  | _, _ => false
end
mutual
theorem sameP_eq : ∀ {a b : PyData}, sameP a b = true → a = b
  | .none, b, h => by cases b <;> simp_all [sameP]
  | .bool _, b, h => by cases b <;> simp_all [sameP]
  | .int i, b, h => by
    cases b <;> simp only [sameP] at h <;> first | (cases h; done) | skip
    rw [eqZ_eq h]
  | .str x, b, h => by
    cases b <;> simp only [sameP] at h <;> first | (cases h; done) | skip
    rw [eqS_iff.mp h]
  | .list xs, b, h => by
    cases b <;> simp only [sameP] at h <;> first | (cases h; done) | skip
    rw [samePs_eq h]
  | .tuple xs, b, h => by
    cases b <;> simp only [sameP] at h <;> first | (cases h; done) | skip
    rw [samePs_eq h]
  | .dict xs, b, h => by
    cases b <;> simp only [sameP] at h <;> first | (cases h; done) | skip
    rw [samePk_eq h]
theorem samePs_eq : ∀ {a b : List PyData}, samePs a b = true → a = b
  | [], b, h => by cases b <;> simp_all [samePs]
  | x :: xs, b, h => by
    cases b with
    | nil => simp [samePs] at h
    | cons y ys =>
      simp only [samePs] at h
      cases e : sameP x y with
      | false => rw [e] at h; cases h
      | true =>
        rw [e] at h
        rw [sameP_eq e, samePs_eq h]
theorem samePk_eq : ∀ {a b : List (PyData × PyData)}, samePk a b = true → a = b
  | [], b, h => by cases b <;> simp_all [samePk]
  | (x, x') :: xs, b, h => by
    cases b with
    | nil => simp [samePk] at h
    | cons y ys =>
      obtain ⟨y, y'⟩ := y
      simp only [samePk] at h
      cases e : sameP x y with
      | false => rw [e] at h; cases h
      | true =>
        rw [e] at h
        cases e2 : sameP x' y' with
        | false => simp only [e2] at h; cases h
        | true =>
          simp only [e2] at h
          rw [sameP_eq e, sameP_eq e2, samePk_eq h]
end

/-! ### operators -/
def mkL (xs : List D) (m : Sto) : R D := .ok (.ref m.nx) (m.new (.lst xs))
def catS (x y : Str) : Str := ⟨⟨x.cps.toList ++ y.cps.toList⟩⟩
theorem catS_eq (x y : Str) : catS x y = x ++ y := by
  obtain ⟨⟨a⟩⟩ := x
  obtain ⟨⟨b⟩⟩ := y
  show (⟨⟨a ++ b⟩⟩ : Str) = ⟨(⟨a⟩ : Array Nat) ++ ⟨b⟩⟩
  simp
def repL (k : Nat) (xs : List D) : List D := match k with
  | 0 => []
  | k + 1 => xs ++ repL k xs
theorem RDs.rep {K : PySem.W.Frag} {r : Rho} {H : Hp} {xs : List D} {ys : List V} (h : RDs K r H xs ys) : ∀ k : Nat, RDs K r H (repL k xs) (List.replicate k ys).flatten
  | 0 => .nil
  | k + 1 => by
    rw [List.replicate_succ, List.flatten_cons]
    exact h.append (RDs.rep h k)
def smallZ (i : Int) : Bool := Nat.ble i.natAbs.log2 100000
def opAdd (a b : D) (m : Sto) : R D := match a, b with
  | .int i, .int j => .ok (.int (i + j)) m
  | .str x, .str y => match lenOk (x.cps.toList.length + y.cps.toList.length) with | true => .ok (.str (catS x y)) m | false => .bad
  | .tup xs, .tup ys => match lenOk (xs.length + ys.length) with | true => .ok (.tup (xs ++ ys)) m | false => .bad
  | .ref p, .ref q => match m.get p, m.get q with
    | some (.lst xs), some (.lst ys) => match lenOk (xs.length + ys.length) with | true => mkL (xs ++ ys) m | false => .bad
    | some (.frl zs), some (.lst ys) => match ys with
      | [.int k] => match lenOk (zs.length + 1) with | true => .ok (.ref m.nx) (m.new (.zls (zs ++ [k]))) | false => .bad
      | _ => .bad
    | _, _ => .bad
  | _, _ => .bad
def opSub (a b : D) (m : Sto) : R D := match a, b with
  | .int i, .int j => .ok (.int (i - j)) m
  | _, _ => .bad
def opMul (a b : D) (m : Sto) : R D := match a, b with
  | .int i, .int j => match smallZ i, smallZ j with | true, true => .ok (.int (i * j)) m | _, _ => .bad
  | .tup xs, .int (.ofNat k) => match Nat.ble 2 k, Nat.ble k 1000, xs, Nat.ble xs.length 1000 with
    | true, true, _ :: _, true => .ok (.tup (repL k xs)) m
    | _, _, _, _ => .bad
  | .ref p, .int (.ofNat k) => match m.get p with
    | some (.lst xs) => match Nat.ble k 1000, Nat.ble xs.length 1000 with | true, true => mkL (repL k xs) m | _, _ => .bad
    | _ => .bad
  | _, _ => .bad
def opDiv (a b : D) (m : Sto) : R D := match a, b with
  | .int i, .int j => match decide (0 < j), Nat.blt j.natAbs.log2 9000 with | true, true => .ok (.int (i / j)) m | _, _ => .bad
  | _, _ => .bad
def opMod (a b : D) (m : Sto) : R D := match a, b with
  | .int i, .int j => match decide (0 < j) with | true => .ok (.int (i % j)) m | false => .bad
  | _, _ => .bad
def opPow (a b : D) (m : Sto) : R D := match a, b with
  | .int i, .int (.ofNat j) => match Nat.ble j 1000, Nat.blt i.natAbs (2 ^ 64) with | true, true => .ok (.int (i ^ j)) m | _, _ => .bad
  | _, _ => .bad
def opBin : Operator → D → D → Sto → R D
  | .Add => opAdd
  | .Sub => opSub
  | .Mult => opMul
  | .FloorDiv => opDiv
  | .Mod => opMod
  | .Pow => opPow
  | _ => fun _ _ _ => .bad
section
variable {X : Cx} {r : Rho} {H : Hp} {m : Sto}
/-- a new list meets what is wanted -/
theorem newL {K : PySem.W.Frag} {xs : List D} {ys : List V} {Q : VK} {p : Addr} (s : SR K r H m) (h : RDs K r H xs ys) (q : (mkL xs m).sat (Post K r H Q) (fun _ _ _ => False)) (hp : H p = none) : Q (.ref p) (upd H p (.lst ys)) := by
  have e : Ext r (rput r m.nx p) := rput_ext (s.fresh _ (Nat.le_refl _))
  have k : TK H (upd H p (.lst ys)) := TK.new hp
  exact q _ _ _ e k (s.new hp ⟨ys, upd_same, h.mono e k⟩) (.ref rput_same)
theorem newT {K : PySem.W.Frag} {xs : List D} {ys : List V} {Q : VK} {p : Addr} (s : SR K r H m) (h : RDs K r H xs ys) (q : Post K r H Q (.tup xs) m) (hp : H p = none) : Q (.ref p) (upd H p (.tup ys)) := by
  have k : TK H (upd H p (.tup ys)) := TK.new hp
  refine q r _ _ (Ext.refl r) k ⟨fun n o h => ?_, s.inj, s.fresh, s.lt, fun n a h => ?_⟩ (.tup (SqT.of upd_same) (h.mono (Ext.refl r) k))
  · obtain ⟨a, h1, h2⟩ := s.at_ n o h
    exact ⟨a, h1, h2.keep (Ext.refl r) k fun b x hx _ => by rw [upd_ne (ne_of_none hx hp)]; exact hx⟩
  · obtain ⟨o, ho⟩ := s.dom n a h
    exact ⟨o, by rw [upd_ne (ne_of_none ho hp)]; exact ho⟩
theorem same {K : PySem.W.Frag} {Q : VK} {d : D} {v : V} (s : SR K r H m) (h : RD K r H d v) (q : Post K r H Q d m) : Q v H := q r H v (Ext.refl r) (TK.refl H) s h
theorem SR.lst {K : PySem.W.Frag} {n : Nat} {a : Addr} {xs : List D} (s : SR K r H m) (hr : r n = some a) (h : m.get n = some (.lst xs)) : ∃ ys, H a = some (.lst ys) ∧ RDs K r H xs ys := by
  obtain ⟨a', h1, h2⟩ := s.at_ n _ h
  rw [hr] at h1; cases h1
  exact h2
end
end Py
namespace Py
open PySem L2
section
variable {X : Cx}
theorem lenOk_str {x y : Str} (h : lenOk (x.cps.toList.length + y.cps.toList.length) = true) : x.length + y.length ≤ sizeLine := by
  have := lenOk_line h
  simpa [Str.length] using this
theorem smallZ_lt {i j : Int} (h1 : smallZ i = true) (h2 : smallZ j = true) : CMulW i j := by
  have a := Nat.le_of_ble_eq_true h1
  have b := Nat.le_of_ble_eq_true h2
  unfold CMulW
  omega
theorem cat_frz {pins : List (Addr × Obj)} {s : Shared} {σ : St} {H : Hp} {l b : Addr} {xs zs : List V} {ob : Obj} {Q : VK} (I : Inv X pins σ H s) (hH : H l = some (.frz ob (.lst xs))) (hB : H b = some (.lst zs)) (hz : xs.length + zs.length ≤ sizeLine)
    (q : ∀ p, H p = none → Q (.ref p) (upd H p (.lst (xs ++ zs)))) : wpAny (model X.prog X.w) X.A (binaryOp .Add (.ref l) (.ref b)) (EP X pins σ Q) X.xe s := by
  obtain ⟨_, z, its, n, r, e⟩ := I.hok l _ hH
  obtain ⟨z2, its2, n2, r2, hl2, e2⟩ := I.lstM hB
  have hl := r.length
  refine PySem.P.add_list e e2 ?_ (by rw [List.size_toArray, List.size_toArray]; omega)
  have ea : its.toArray ++ its2.toArray = (its ++ its2).toArray := by simp
  rw [ea]
  exact ⟨.ref _, _, I.lnew (t' := s.toks) (r.append r2) (by rw [List.length_append]; omega), rfl, q _ I.fresh⟩
theorem or_add : OpR X (binaryOp .Add) (rD2 X.K opAdd) := by
  intro pins s σ H x y v u Q I rx ry h
  obtain ⟨r, m, dx, dy, hs, hx, hy, hf⟩ := h
  cases hx with
  | int i =>
    cases hy with
    | int j => exact op_add pins s σ H _ _ v u Q I rx ry ⟨i, j, rfl, rfl, same hs (.int _) hf⟩
    | _ => exact (show False from hf).elim
  | str a =>
    cases hy with
    | str b =>
      unfold opAdd at hf
      cases e : lenOk (a.cps.toList.length + b.cps.toList.length) with
      | false => simp only [e] at hf; exact (show False from hf).elim
      | true =>
        simp only [e] at hf
        exact op_add_str pins s σ H _ _ v u Q I rx ry ⟨a, b, rfl, rfl, lenOk_str e, by rw [← catS_eq]; exact same hs (.str _) hf⟩
    | _ => exact (show False from hf).elim
  | @tup a xs ys sa ra =>
    cases hy with
    | @tup b zs ws sb rb =>
      unfold opAdd at hf
      cases e : lenOk (xs.length + zs.length) with
      | false => simp only [e] at hf; exact (show False from hf).elim
      | true =>
        simp only [e] at hf
        have hz : ys.length + ws.length ≤ sizeLine := by rw [← ra.length, ← rb.length]; exact lenOk_line e
        refine op_catA pins s σ H _ _ v u Q I rx ry ⟨a, b, ys, ws, rfl, rfl, sa, sb, hz, fun e0 => ?_, fun _ e0 => ?_, fun _ _ p hp => newT hs (ra.append rb) hf hp⟩
        · subst e0
          cases ra
          exact same hs (.tup sb rb) hf
        · subst e0
          cases rb
          rw [List.append_nil] at hf
          exact same hs (.tup sa ra) hf
    | _ => exact (show False from hf).elim
  | @ref n a ha =>
    cases hy with
    | @ref n' b hb =>
      unfold opAdd at hf
      cases e1 : m.get n with
      | none => simp only [e1] at hf; exact (show False from hf).elim
      | some o =>
        cases e2 : m.get n' with
        | none => cases o <;> (simp only [e1, e2] at hf; exact (show False from hf).elim)
        | some o' =>
          cases o with
          | lst xs =>
            cases o' with
            | lst zs =>
              simp only [e1, e2] at hf
              cases e : lenOk (xs.length + zs.length) with
              | false => simp only [e] at hf; exact (show False from hf).elim
              | true =>
                simp only [e] at hf
                obtain ⟨ys, ea, ra⟩ := hs.lst ha e1
                obtain ⟨ws, eb, rb⟩ := hs.lst hb e2
                exact op_cat pins s σ H _ _ v u Q I rx ry ⟨a, b, ys, ws, rfl, rfl, ea, eb, by rw [← ra.length, ← rb.length]; exact lenOk_line e, fun p hp => newL hs (ra.append rb) hf hp⟩
            | _ => simp only [e1, e2] at hf; exact (show False from hf).elim
          | frl xs =>
            cases o' with
            | lst zs =>
              simp only [e1, e2] at hf
              obtain ⟨a', h1, ob, ea⟩ := hs.at_ n _ e1
              rw [ha] at h1; cases h1
              obtain ⟨ws, eb, rb⟩ := hs.lst hb e2
              cases rx
              cases ry
              cases rb with
              | nil => exact (show False from hf).elim
              | cons r1 r2 =>
                cases r2 with
                | cons r3 r4 => cases r1 <;> exact (show False from hf).elim
                | nil =>
                  cases r1 with
                  | int k =>
                    dsimp only at hf
                    cases e : lenOk (xs.length + 1) with
                    | false => simp only [e] at hf; exact (show False from hf).elim
                    | true =>
                      simp only [e] at hf
                      refine cat_frz I ea eb (by rw [List.length_map]; exact lenOk_line e) fun p hp => ?_
                      have e3 : Ext r (rput r m.nx p) := rput_ext (hs.fresh _ (Nat.le_refl _))
                      have k3 : TK H (upd H p (.lst (xs.map .int ++ [.int k]))) := TK.new hp
                      exact hf _ _ _ e3 k3 (hs.new (o := .zls (xs ++ [k])) hp (by show upd H p _ p = _; rw [upd_same, List.map_append]; rfl)) (.ref rput_same)
                  | _ => exact (show False from hf).elim
            | _ => simp only [e1, e2] at hf; exact (show False from hf).elim
          | _ => simp only [e1, e2] at hf; exact (show False from hf).elim
    | _ => exact (show False from hf).elim
  | _ => exact (show False from hf).elim
theorem or_sub : OpR X (binaryOp .Sub) (rD2 X.K opSub) := by
  intro pins s σ H x y v u Q I rx ry h
  obtain ⟨r, m, dx, dy, hs, hx, hy, hf⟩ := h
  cases hx with
  | int i =>
    cases hy with
    | int j => exact op_sub pins s σ H _ _ v u Q I rx ry ⟨i, j, rfl, rfl, same hs (.int _) hf⟩
    | _ => exact (show False from hf).elim
  | _ => exact (show False from hf).elim
theorem or_div : OpR X (binaryOp .FloorDiv) (rD2 X.K opDiv) := by
  intro pins s σ H x y v u Q I rx ry h
  obtain ⟨r, m, dx, dy, hs, hx, hy, hf⟩ := h
  cases hx with
  | int i =>
    cases hy with
    | int j =>
      unfold opDiv at hf
      cases e : decide (0 < j) with
      | false => simp only [e] at hf; exact (show False from hf).elim
      | true =>
        cases e2 : Nat.blt j.natAbs.log2 9000 with
        | false => simp only [e, e2] at hf; exact (show False from hf).elim
        | true =>
          simp only [e, e2] at hf
          exact op_fdivW pins s σ H _ _ v u Q I rx ry ⟨i, j, rfl, rfl, ⟨of_decide_eq_true e, Nat.le_of_ble_eq_true e2⟩, same hs (.int _) hf⟩
    | _ => exact (show False from hf).elim
  | _ => exact (show False from hf).elim
theorem or_mod : OpR X (binaryOp .Mod) (rD2 X.K opMod) := by
  intro pins s σ H x y v u Q I rx ry h
  obtain ⟨r, m, dx, dy, hs, hx, hy, hf⟩ := h
  cases hx with
  | int i =>
    cases hy with
    | int j =>
      unfold opMod at hf
      cases e : decide (0 < j) with
      | false => simp only [e] at hf; exact (show False from hf).elim
      | true =>
        simp only [e] at hf
        exact op_mod pins s σ H _ _ v u Q I rx ry ⟨i, j, rfl, rfl, of_decide_eq_true e, same hs (.int _) hf⟩
    | _ => exact (show False from hf).elim
  | _ => exact (show False from hf).elim
theorem or_pow : OpR X (binaryOp .Pow) (rD2 X.K opPow) := by
  intro pins s σ H x y v u Q I rx ry h
  obtain ⟨r, m, dx, dy, hs, hx, hy, hf⟩ := h
  cases hx with
  | int i =>
    cases hy with
    | int j =>
      cases j with
      | ofNat j =>
        unfold opPow at hf
        cases e : Nat.ble j 1000 with
        | false => simp only [e] at hf; exact (show False from hf).elim
        | true =>
          cases e2 : Nat.blt i.natAbs (2 ^ 64) with
          | false => simp only [e, e2] at hf; exact (show False from hf).elim
          | true =>
            simp only [e, e2] at hf
            have h1 := Nat.le_of_ble_eq_true e
            refine op_pow pins s σ H _ _ v u Q I rx ry ⟨i, _, rfl, rfl, ⟨Int.natCast_nonneg j, ?_, Nat.le_of_ble_eq_true e2⟩, same hs (.int _) hf⟩
            show ((j : Nat) : Int) ≤ 1000000
            omega
      | negSucc j => exact (show False from hf).elim
    | _ => exact (show False from hf).elim
  | _ => exact (show False from hf).elim
theorem or_mul : OpR X (binaryOp .Mult) (rD2 X.K opMul) := by
  intro pins s σ H x y v u Q I rx ry h
  obtain ⟨r, m, dx, dy, hs, hx, hy, hf⟩ := h
  cases hx with
  | int i =>
    cases hy with
    | int j =>
      unfold opMul at hf
      cases e : smallZ i with
      | false => simp only [e] at hf; exact (show False from hf).elim
      | true =>
        cases e2 : smallZ j with
        | false => simp only [e, e2] at hf; exact (show False from hf).elim
        | true =>
          simp only [e, e2] at hf
          exact op_mulW pins s σ H _ _ v u Q I rx ry ⟨i, j, rfl, rfl, smallZ_lt e e2, same hs (.int _) hf⟩
    | _ => exact (show False from hf).elim
  | @tup a xs ys sa ra =>
    cases hy with
    | int j =>
      cases j with
      | ofNat k =>
        unfold opMul at hf
        dsimp only at hf
        split at hf
        · rename_i e1 e2 e3
          have h1 := Nat.le_of_ble_eq_true e1
          have h2 := Nat.le_of_ble_eq_true e2
          have h3 := Nat.le_of_ble_eq_true e3
          refine op_repT pins s σ H _ _ v u Q I rx ry ⟨a, ((k : Nat) : Int), ys, rfl, rfl, sa, ?_, by omega, by omega, by rw [← ra.length]; exact h3, fun p hp => ?_⟩
          · intro e0
            subst e0
            cases ra
          · exact newT hs (ra.rep k) hf hp
        · exact (show False from hf).elim
      | negSucc k => exact (show False from hf).elim
    | _ => exact (show False from hf).elim
  | @ref n a ha =>
    cases hy with
    | int j =>
      cases j with
      | ofNat k =>
        unfold opMul at hf
        dsimp only at hf
        cases e1 : m.get n with
        | none => simp only [e1] at hf; exact (show False from hf).elim
        | some o =>
          cases o with
          | lst xs =>
            simp only [e1] at hf
            cases e2 : Nat.ble k 1000 with
            | false => simp only [e2] at hf; exact (show False from hf).elim
            | true =>
              cases e3 : Nat.ble xs.length 1000 with
              | false => simp only [e2, e3] at hf; exact (show False from hf).elim
              | true =>
                simp only [e2, e3] at hf
                obtain ⟨ys, ea, ra⟩ := hs.lst ha e1
                have h2 := Nat.le_of_ble_eq_true e2
                have h3 := Nat.le_of_ble_eq_true e3
                have h4 : ys.length * k ≤ 1000 * 1000 := Nat.mul_le_mul (by rw [← ra.length]; exact h3) h2
                refine op_rep pins s σ H _ _ v u Q I rx ry ⟨a, ((k : Nat) : Int), ys, rfl, rfl, ea, by omega, by omega, ?_, fun p hp => newL hs (ra.rep k) hf hp⟩
                show ys.length * ((k : Nat) : Int).toNat ≤ sizeLine
                rw [Int.toNat_natCast, sizeLine_eq]
                omega
          | _ => simp only [e1] at hf; exact (show False from hf).elim
      | negSucc k => exact (show False from hf).elim
    | _ => exact (show False from hf).elim
  | _ => exact (show False from hf).elim
theorem or_bin : ∀ op : Operator, OpR X (binaryOp op) (rD2 X.K (opBin op))
  | .Add => or_add
  | .Sub => or_sub
  | .Mult => or_mul
  | .FloorDiv => or_div
  | .Mod => or_mod
  | .Pow => or_pow
  | .MatMult | .Div | .LShift | .RShift | .BitOr | .BitXor | .BitAnd => fun _ _ _ _ _ _ _ _ _ _ _ _ h => by
    obtain ⟨_, _, _, _, _, _, _, hf⟩ := h
    exact (show False from hf).elim
end
end Py
namespace Py
open PySem L2

/-! ### comparisons -/
def eqT (p q : PyData) : Bool := match sameP p q with | true => true | false => eqS p.shown q.shown
theorem eqT_eq {p q : PyData} : eqT p q = eqS p.shown q.shown := by
  unfold eqT
  cases e : sameP p q with
  | true => rw [sameP_eq e]; exact (eqS_iff.mpr rfl).symm
  | false => rfl
def eqD (m : Sto) (a b : D) : Option Bool := match a, b with
  | .shw p, .shw q => some (eqT p q)
  | .str x, .str y => some (eqS x y)
  | .int i, .int j => some (eqZ i j)
  | _, _ => match toP 60 m a, toP 60 m b with
    | some p, some q => some (eqP p q)
    | _, _ => none
theorem eqZ_dec {i j : Int} : eqZ i j = decide (i = j) := by
  cases h : eqZ i j with
  | true => exact (decide_eq_true (eqZ_eq h)).symm
  | false =>
    refine (decide_eq_false fun z => ?_).symm
    subst z
    cases i with
    | ofNat n =>
      have h2 : Nat.beq n n = false := h
      rw [Nat.beq_refl] at h2; cases h2
    | negSucc n =>
      have h2 : Nat.beq n n = false := h
      rw [Nat.beq_refl] at h2; cases h2
def negB (neg b : Bool) : Bool := match neg with | true => !b | false => b
def cmpEq (neg : Bool) (a b : D) (m : Sto) : R D := match eqD m a b with
  | some k => .ok (.bl (negB neg k)) m
  | none => .bad
/-- flat ones -/
def flatD : D → Bool
  | .non => true
  | .bl _ => true
  | .int _ => true
  | .str _ => true
  | .shw _ => true
  | _ => false
def eqF : D → D → Bool
  | .non, .non => true
  | .bl a, .bl b => a == b
  | .bl a, .int b => (if a then 1 else 0) == b
  | .int a, .bl b => a == (if b then 1 else 0)
  | .int a, .int b => eqZ a b
  | .str a, .str b => eqS a b
  | .shw a, .shw b => eqT a b
  | .str a, .shw b => eqS a b.shown
  | .shw a, .str b => eqS a.shown b
  | _, _ => false
def anyD (p : D → Bool) : List D → Bool
  | [] => false
  | x :: r => match p x with | true => true | false => anyD p r
def allD (p : D → Bool) : List D → Bool
  | [] => true
  | x :: r => match p x with | true => allD p r | false => false
def anyP (p : PyData → Bool) : List PyData → Bool
  | [] => false
  | x :: r => match p x with | true => true | false => anyP p r
theorem anyP_eq (p : PyData → Bool) : ∀ l : List PyData, anyP p l = l.any p
  | [] => rfl
  | x :: r => by
    unfold anyP
    rw [List.any_cons, anyP_eq p r]
    cases p x <;> rfl
def keyD : D → Option Key
  | .int i => some (.inl i)
  | .str x => some (.inr x)
  | _ => none
def keysD : List D → Option (List Key)
  | [] => some []
  | d :: r => match keyD d, keysD r with
    | some k, some ks => some (k :: ks)
    | _, _ => none
def eqK : Key → Key → Bool
  | .inl a, .inl b => eqZ a b
  | .inr a, .inr b => eqS a b
  | _, _ => false
theorem eqK_dec {a b : Key} : eqK a b = decide (a = b) := by
  cases a with
  | inl a =>
    cases b with
    | inl b => show eqZ a b = _; rw [eqZ_dec]; by_cases h : a = b <;> simp [h]
    | inr b => exact (decide_eq_false (fun z => nomatch z)).symm
  | inr a =>
    cases b with
    | inl b => exact (decide_eq_false (fun z => nomatch z)).symm
    | inr b => show eqS a b = _; rw [eqS_eq]; by_cases h : a = b <;> simp [h]
def eqKs : List Key → List Key → Bool
  | [], [] => true
  | a :: r, b :: t => match eqK a b with | true => eqKs r t | false => false
  | _, _ => false
theorem eqKs_dec : ∀ {a b : List Key}, eqKs a b = decide (a = b)
  | [], [] => by simp [eqKs]
  | [], _ :: _ => by simp [eqKs]
  | _ :: _, [] => by simp [eqKs]
  | a :: r, b :: t => by
    unfold eqKs
    rw [eqK_dec, eqKs_dec (a := r) (b := t)]
    by_cases h : a = b
    · subst h; simp
    · simp [h]
def lkK {κ : Type} (e : κ → κ → Bool) (k : κ) : List (κ × D) → Option D
  | [] => none
  | p :: r => match e p.1 k with | true => some p.2 | false => lkK e k r
def inD (m : Sto) (a b : D) : Option Bool := match b with
  | .tup ys => match flatD a, allD flatD ys with
    | true, true => some (anyD (fun y => eqF y a) ys)
    | _, _ => none
  | .ref n => match m.get n with
    | some (.lst ys) => match flatD a, allD flatD ys with
      | true, true => some (anyD (fun y => eqF y a) ys)
      | _, _ => match toP 50 m a, toP 60 m b with
        | some p, some (.list qs) => some (anyP (fun z => eqP z p) qs)
        | _, _ => none
    | some (.dct kvs) => match keyD a with
      | some k => some (lkK eqK k kvs).isSome
      | none => none
    | _ => none
  | _ => none
def cmpIn (neg : Bool) (a b : D) (m : Sto) : R D := match inD m a b with
  | some k => .ok (.bl (negB neg k)) m
  | none => .bad
def isNon : D → Bool
  | .non => true
  | _ => false
def cmpIs (neg : Bool) (a b : D) (m : Sto) : R D := match b with
  | .non => .ok (.bl (negB neg (isNon a))) m
  | _ => .bad
def ltNs : List Nat → List Nat → Bool
  | _, [] => false
  | [], _ :: _ => true
  | a :: r, b :: t => match Nat.blt a b with | true => true | false => (match Nat.beq a b with | true => ltNs r t | false => false)
theorem ltNs_dec : ∀ {a b : List Nat}, ltNs a b = decide (a < b)
  | a, [] => by cases a <;> simp [ltNs]
  | [], _ :: _ => by simp [ltNs]
  | a :: r, b :: t => by
    unfold ltNs
    rw [ltNs_dec (a := r) (b := t)]
    cases e : Nat.blt a b with
    | true =>
      have : a < b := Nat.le_of_ble_eq_true e
      exact (decide_eq_true (List.cons_lt_cons_iff.mpr (.inl this))).symm
    | false =>
      have h1 : ¬ a < b := fun z => by rw [show Nat.blt a b = true from Nat.ble_eq_true_of_le z] at e; cases e
      cases e2 : Nat.beq a b with
      | true =>
        have := Nat.eq_of_beq_eq_true e2
        subst this
        simp only []
        congr 1
        simp
      | false =>
        have h2 : a ≠ b := fun z => by subst z; rw [Nat.beq_refl] at e2; cases e2
        exact (decide_eq_false fun z => by
          rcases List.cons_lt_cons_iff.mp z with z | ⟨z, _⟩
          · exact h1 z
          · exact h2 z).symm
def cmpLt (a b : D) (m : Sto) : R D := match a, b with
  | .int i, .int j => .ok (.bl (decide (i < j))) m
  | .str x, .str y => .ok (.bl (ltNs x.cps.toList y.cps.toList)) m
  | _, _ => .bad
def cmpI (p : Int → Int → Bool) (a b : D) (m : Sto) : R D := match a, b with
  | .int i, .int j => .ok (.bl (p i j)) m
  | _, _ => .bad
def opCmp : CmpOp → D → D → Sto → R D
  | .Eq => cmpEq false
  | .NotEq => cmpEq true
  | .Lt => cmpLt
  | .LtE => cmpI fun i j => decide (i ≤ j)
  | .Gt => cmpI fun i j => decide (j < i)
  | .GtE => cmpI fun i j => decide (j ≤ i)
  | .Is => cmpIs false
  | .IsNot => cmpIs true
  | .In => cmpIn false
  | .NotIn => cmpIn true
section
variable {X : Cx} {r : Rho} {H : Hp} {m : Sto}
theorem RD.inj_non {K : PySem.W.Frag} {d : D} {v : V} (h : RD K r H d v) : decide (v = V.non) = isNon d := by
  cases h <;> first | rfl | exact decide_eq_false (fun z => nomatch z)
theorem or_eqG (hu : X.A.units + 64 < cLine) (neg : Bool) : OpR X (compareOp (if neg then .NotEq else .Eq)) (rD2 X.K (cmpEq neg)) := by
  intro pins s σ H x y v u Q I rx ry h
  obtain ⟨r, m, dx, dy, hs, hx, hy, hf⟩ := h
  unfold cmpEq at hf
  cases e : eqD m dx dy with
  | none => simp only [e] at hf; exact (show False from hf).elim
  | some k =>
    simp only [e] at hf
    have fin : Q (.bl (negB neg k)) H := same hs (.bl _) hf
    have scalar : scal x y = true → k = decide (x = y) → wpAny (model X.prog X.w) X.A (compareOp (if neg then .NotEq else .Eq) v u) (EP X pins σ Q) X.xe s := fun h1 h2 => by
      subst h2
      cases neg with
      | true => exact op_ne pins s σ H x y v u Q I rx ry ⟨h1, fin⟩
      | false => exact op_eq pins s σ H x y v u Q I rx ry ⟨h1, fin⟩
    have deep : ∀ {p q : PyData}, toP 60 m dx = some p → toP 60 m dy = some q → k = eqP p q → wpAny (model X.prog X.w) X.A (compareOp (if neg then .NotEq else .Eq) v u) (EP X pins σ Q) X.xe s := fun {p q} h1 h2 h3 => by
      subst h3
      rw [eqP_eq] at fin
      cases neg with
      | true => exact op_neD hu pins s σ H x y v u Q I rx ry ⟨p, q, toP_dp hs 60 h1 hx, toP_dp hs 60 h2 hy, toP_shaped h1, toP_shaped h2, fin⟩
      | false => exact op_eqD hu pins s σ H x y v u Q I rx ry ⟨p, q, toP_dp hs 60 h1 hx, toP_dp hs 60 h2 hy, toP_shaped h1, toP_shaped h2, fin⟩
    have gen : (match toP 60 m dx, toP 60 m dy with
      | some p, some q => some (eqP p q)
      | _, _ => none) = some k → wpAny (model X.prog X.w) X.A (compareOp (if neg then .NotEq else .Eq) v u) (EP X pins σ Q) X.xe s := fun h1 => by
      cases e1 : toP 60 m dx with
      | none => simp only [e1] at h1; cases h1
      | some p =>
        cases e2 : toP 60 m dy with
        | none => simp only [e1, e2] at h1; cases h1
        | some q => simp only [e1, e2] at h1; cases h1; exact deep e1 e2 rfl
    unfold eqD at e
    split at e
    · cases e
      cases hx
      cases hy
      exact scalar rfl (by rw [eqT_eq, eqS_eq]; simp)
    · cases e
      cases hx
      cases hy
      exact scalar rfl (by rw [eqS_eq]; simp)
    · cases e
      cases hx
      cases hy
      exact scalar rfl (by rw [eqZ_dec]; simp)
    · exact gen e
theorem flat_v {K : PySem.W.Frag} {d : D} {v : V} (h : RD K r H d v) (f : flatD d = true) : flatV v = true := by
  cases h <;> first | rfl | cases f
theorem eqF_v {K : PySem.W.Frag} {d e : D} {v w : V} (h : RD K r H d v) (h' : RD K r H e w) (f : flatD d = true) (g : flatD e = true) : eqV v w = eqF d e := by
  cases h <;> cases f <;> cases h' <;> cases g <;> simp only [eqV, eqF, eqT_eq, eqS_eq, eqZ_dec] <;> first | rfl | (rw [Bool.beq_eq_decide_eq])
theorem anyD_v {K : PySem.W.Frag} {e : D} {w : V} (h' : RD K r H e w) (g : flatD e = true) : ∀ {ds : List D} {vs : List V}, RDs K r H ds vs → allD flatD ds = true → vs.all flatV = true ∧ inV w vs = anyD (fun y => eqF y e) ds
  | _, _, .nil, _ => ⟨rfl, rfl⟩
  | d :: ds, v :: vs, .cons a b, f => by
    unfold allD at f
    cases e1 : flatD d with
    | false => rw [e1] at f; cases f
    | true =>
      rw [e1] at f
      obtain ⟨h1, h2⟩ := anyD_v h' g b f
      refine ⟨by rw [List.all_cons, flat_v a e1, h1]; rfl, ?_⟩
      unfold inV at h2 ⊢
      rw [List.any_cons, h2, eqF_v a h' e1 g]
      conv => rhs; unfold anyD
      cases eqF d e <;> rfl
theorem RKs.val {κ : Type} [DecidableEq κ] {K : PySem.W.Frag} {e : κ → κ → Bool} (he : ∀ a b, e a b = decide (a = b)) (k : κ) : ∀ {kvs : List (κ × D)} {ys : List (κ × V)}, RKs K r H kvs ys →
    (∀ d, lkK e k kvs = some d → ∃ v, valV ys k = some v ∧ RD K r H d v) ∧ (lkK e k kvs = none → valV ys k = none)
  | _, _, .nil => ⟨fun _ h => (by cases h), fun _ => rfl⟩
  | _, _, @RKs.cons _ _ _ _ k' d' v' fs gs a b => by
    obtain ⟨h1, h2⟩ := RKs.val he k b
    by_cases hk : k' = k
    · have e1 : e k' k = true := by rw [he]; exact decide_eq_true hk
      refine ⟨fun d h => ?_, fun h => ?_⟩
      · unfold lkK at h
        simp only [e1] at h
        cases h
        exact ⟨v', valV_pos hk, a⟩
      · unfold lkK at h
        simp only [e1] at h
        cases h
    · have e1 : e k' k = false := by rw [he]; exact decide_eq_false hk
      refine ⟨fun d h => ?_, fun h => ?_⟩
      · unfold lkK at h
        simp only [e1] at h
        rw [valV_neg hk]
        exact h1 d h
      · unfold lkK at h
        simp only [e1] at h
        rw [valV_neg hk]
        exact h2 h
theorem keyD_v {K : PySem.W.Frag} {d : D} {v : V} {k : Key} (h : keyD d = some k) (hr : RD K r H d v) : v = kV k := by
  cases hr <;> simp only [keyD] at h <;> cases h <;> rfl
theorem keysD_v {K : PySem.W.Frag} : ∀ {ds : List D} {vs : List V} {ks : List Key}, keysD ds = some ks → RDs K r H ds vs → vs = ks.map kV
  | [], _, _, h, .nil => by cases h; rfl
  | d :: ds, v :: vs, ks, h, .cons a b => by
    unfold keysD at h
    cases e1 : keyD d with
    | none => simp only [e1] at h; cases h
    | some k =>
      cases e2 : keysD ds with
      | none => simp only [e1, e2] at h; cases h
      | some t =>
        simp only [e1, e2] at h
        cases h
        rw [List.map_cons, ← keysD_v e2 b, ← keyD_v e1 a]
theorem isSome_val {κ : Type} [DecidableEq κ] {K : PySem.W.Frag} {e : κ → κ → Bool} (he : ∀ a b, e a b = decide (a = b)) (k : κ) {kvs : List (κ × D)} {ys : List (κ × V)} (h : RKs K r H kvs ys) : (valV ys k).isSome = (lkK e k kvs).isSome := by
  obtain ⟨h1, h2⟩ := RKs.val he k h
  cases q : lkK e k kvs with
  | none => rw [h2 q]; rfl
  | some d => obtain ⟨v, hv, _⟩ := h1 d q; rw [hv]; rfl
theorem or_inG (hu : X.A.units + 65 < cLine) (neg : Bool) : OpR X (compareOp (if neg then .NotIn else .In)) (rD2 X.K (cmpIn neg)) := by
  intro pins s σ H x y v u Q I rx ry h
  obtain ⟨r, m, dx, dy, hs, hx, hy, hf⟩ := h
  unfold cmpIn at hf
  cases e : inD m dx dy with
  | none => simp only [e] at hf; exact (show False from hf).elim
  | some k =>
    simp only [e] at hf
    have fin : Q (.bl (negB neg k)) H := same hs (.bl _) hf
    have flat : ∀ {p : Addr} {ys : List D} {vs : List V}, y = .ref p → (SqL X.K H p vs ∨ SqT X.K H p vs) → RDs X.K r H ys vs → flatD dx = true → allD flatD ys = true → k = anyD (fun y => eqF y dx) ys →
        wpAny (model X.prog X.w) X.A (compareOp (if neg then .NotIn else .In) v u) (EP X pins σ Q) X.xe s := fun {p ys vs} h1 h2 h3 h4 h5 h6 => by
      obtain ⟨g1, g2⟩ := anyD_v hx h4 h3 h5
      subst h6
      rw [← g2] at fin
      cases neg with
      | true => exact op_notIn_seq pins s σ H x y v u Q I rx ry ⟨p, vs, h1, h2, flat_v hx h4, g1, fin⟩
      | false => exact op_in_seq pins s σ H x y v u Q I rx ry ⟨p, vs, h1, h2, flat_v hx h4, g1, fin⟩
    have inDict : ∀ {a : Addr} {o : Option V}, y = .ref a → DGet H a x o → k = o.isSome → wpAny (model X.prog X.w) X.A (compareOp (if neg then .NotIn else .In) v u) (EP X pins σ Q) X.xe s := fun {a o} h1 h2 h3 => by
      subst h1
      subst h3
      cases ry
      cases neg with
      | true => exact d_notIn (by omega) I h2 rx fun s' I' => ⟨.bl _, H, I', rfl, fin⟩
      | false => exact d_in (by omega) I h2 rx fun s' I' => ⟨.bl _, H, I', rfl, fin⟩
    unfold inD at e
    cases hy with
    | @tup a ys vs sa ra =>
      dsimp only at e
      cases e1 : flatD dx with
      | false => simp only [e1] at e; cases e
      | true =>
        cases e2 : allD flatD ys with
        | false => simp only [e1, e2] at e; cases e
        | true => simp only [e1, e2] at e; cases e; exact flat rfl (.inr sa) ra e1 e2 rfl
    | @ref n a ha =>
      dsimp only at e
      cases e0 : m.get n with
      | none => simp only [e0] at e; cases e
      | some o =>
        cases o with
        | lst ys =>
          obtain ⟨vs, ea, ra⟩ := hs.lst ha e0
          have dp : (match toP 50 m dx, toP 60 m (D.ref n) with
            | some p, some (.list qs) => some (anyP (fun z => eqP z p) qs)
            | _, _ => none) = some k → wpAny (model X.prog X.w) X.A (compareOp (if neg then .NotIn else .In) v u) (EP X pins σ Q) X.xe s := fun h1 => by
            cases e3 : toP 50 m dx with
            | none => simp only [e3] at h1; cases h1
            | some p =>
              cases e4 : toP 60 m (D.ref n) with
              | none => simp only [e3, e4] at h1; cases h1
              | some q =>
                cases q with
                | list qs =>
                  simp only [e3, e4] at h1
                  cases h1
                  have g1 := toP_dp hs 50 e3 hx
                  have g2 := toP_dp hs 60 e4 (.ref ha)
                  have g3 : SeqAt.shaped p = true := by
                    have := toP_lay 50 e3
                    unfold SeqAt.shaped
                    rw [this.1]; simp; omega
                  have ee : (anyP (fun z => eqP z p) qs) = qs.any fun z => PyData.eqv z p := by
                    rw [anyP_eq]
                    congr 1
                    funext z
                    exact eqP_eq z p
                  rw [ee] at fin
                  cases neg with
                  | true => exact op_notInD hu pins s σ H x _ v u Q I rx ry ⟨p, qs, g1, g2, g3, toP_shaped e4, fin⟩
                  | false => exact op_inD hu pins s σ H x _ v u Q I rx ry ⟨p, qs, g1, g2, g3, toP_shaped e4, fin⟩
                | _ => simp only [e3, e4] at h1; cases h1
          simp only [e0] at e
          cases e1 : flatD dx with
          | false => simp only [e1] at e; exact dp e
          | true =>
            cases e2 : allD flatD ys with
            | false => simp only [e1, e2] at e; exact dp e
            | true => simp only [e1, e2] at e; cases e; exact flat rfl (.inl (SqL.of ea)) ra e1 e2 rfl
        | dct kvs =>
          simp only [e0] at e
          obtain ⟨a', h1, ys, h2, h3⟩ := hs.at_ n _ e0
          rw [ha] at h1; cases h1
          cases e1 : keyD dx with
          | none => simp only [e1] at e; cases e
          | some kk =>
            simp only [e1] at e
            cases e
            have := keyD_v e1 hx
            subst this
            exact inDict rfl (DGet.k h2) (isSome_val (fun _ _ => eqK_dec) kk h3).symm
        | _ => simp only [e0] at e; cases e
    | _ => cases e
theorem or_isG (neg : Bool) : OpR X (compareOp (if neg then .IsNot else .Is)) (rD2 X.K (cmpIs neg)) := by
  intro pins s σ H x y v u Q I rx ry h
  obtain ⟨r, m, dx, dy, hs, hx, hy, hf⟩ := h
  cases hy with
  | non =>
    have fin : Q (.bl (negB neg (isNon dx))) H := same hs (.bl _) hf
    rw [← hx.inj_non] at fin
    cases neg with
    | true => exact op_notN pins s σ H x _ v u Q I rx ry ⟨rfl, fin⟩
    | false => exact op_isN pins s σ H x _ v u Q I rx ry ⟨rfl, fin⟩
  | _ => exact (show False from hf).elim
theorem or_cmpI {op : CmpOp} {p : Int → Int → Bool} (h0 : OpR X (compareOp op) (rI0 fun i j => .bl (p i j))) : OpR X (compareOp op) (rD2 X.K (cmpI p)) := by
  intro pins s σ H x y v u Q I rx ry h
  obtain ⟨r, m, dx, dy, hs, hx, hy, hf⟩ := h
  cases hx with
  | int i =>
    cases hy with
    | int j => exact h0 pins s σ H _ _ v u Q I rx ry ⟨i, j, rfl, rfl, same hs (.bl _) hf⟩
    | _ => exact (show False from hf).elim
  | _ => exact (show False from hf).elim
theorem or_lt : OpR X (compareOp .Lt) (rD2 X.K cmpLt) := by
  intro pins s σ H x y v u Q I rx ry h
  obtain ⟨r, m, dx, dy, hs, hx, hy, hf⟩ := h
  cases hx with
  | int i =>
    cases hy with
    | int j => exact op_lt pins s σ H _ _ v u Q I rx ry ⟨i, j, rfl, rfl, same hs (.bl _) hf⟩
    | _ => exact (show False from hf).elim
  | str a =>
    cases hy with
    | str b => exact op_lt_str pins s σ H _ _ v u Q I rx ry ⟨a, b, rfl, rfl, by rw [← ltNs_dec]; exact same hs (.bl _) hf⟩
    | _ => exact (show False from hf).elim
  | _ => exact (show False from hf).elim
theorem or_cmp (hu : X.A.units + 65 < cLine) : ∀ op : CmpOp, OpR X (compareOp op) (rD2 X.K (opCmp op))
  | .Eq => or_eqG (by omega) false
  | .NotEq => or_eqG (by omega) true
  | .Lt => or_lt
  | .LtE => or_cmpI op_le
  | .Gt => or_cmpI op_gt
  | .GtE => or_cmpI op_ge
  | .Is => or_isG false
  | .IsNot => or_isG true
  | .In => or_inG hu false
  | .NotIn => or_inG hu true

/-! ### truth -/
def truD (m : Sto) : D → Option Bool
  | .non => some false
  | .bl b => some b
  | .int i => some (!eqZ i 0)
  | .str x => match lenOk x.cps.toList.length with | true => some (match x.cps.toList with | [] => false | _ :: _ => true) | false => none
  | .tup xs => some (match xs with | [] => false | _ :: _ => true)
  | .ref n => match m.get n with
    | some (.lst xs) => some (match xs with | [] => false | _ :: _ => true)
    | some (.dct xs) => some (match xs with | [] => false | _ :: _ => true)
    | _ => none
  | _ => none
theorem truD_v {K : PySem.W.Frag} {d : D} {v : V} {k : Bool} (hs : SR K r H m) (h : truD m d = some k) (rd : RD K r H d v) : TruV K v H k := by
  cases rd with
  | non => cases h; rfl
  | bl b => cases h; rfl
  | int i =>
    cases h
    show (!eqZ i 0) = (i != 0)
    rw [eqZ_dec]
    by_cases z : i = 0 <;> simp [z]
  | str x =>
    unfold truD at h
    cases e : lenOk x.cps.toList.length with
    | false => simp only [e] at h; cases h
    | true =>
      simp only [e] at h
      cases h
      refine ⟨by simpa [Str.length] using lenOk_line e, ?_⟩
      obtain ⟨⟨l⟩⟩ := x
      cases l <;> simp [Str.length]
      omega
  | @tup a xs ys sa ra =>
    cases h
    refine .inr (.inl ⟨ys, sa, ?_⟩)
    cases ra <;> rfl
  | @ref n a ha =>
    unfold truD at h
    cases e : m.get n with
    | none => simp only [e] at h; cases h
    | some o =>
      cases o with
      | lst xs =>
        simp only [e] at h
        cases h
        obtain ⟨ys, ea, ra⟩ := hs.lst ha e
        refine .inl ⟨ys, SqL.of ea, ?_⟩
        cases ra <;> rfl
      | dct xs =>
        simp only [e] at h
        cases h
        obtain ⟨a', h1, ys, h2, h3⟩ := hs.at_ n _ e
        rw [ha] at h1; cases h1
        refine .inr (.inr ⟨ys, h2, ?_⟩)
        cases h3 <;> rfl
      | _ => simp only [e] at h; cases h
  | _ => cases h

/-! ### items -/
def ixD (n : Nat) : Int → Option Nat
  | .ofNat k => match Nat.blt k n with | true => some k | false => none
  | .negSucc k => match Nat.blt k n with | true => some (n - (k + 1)) | false => none
theorem ixD_eq {n : Nat} {i : Int} {j : Nat} (h : ixD n i = some j) : ixN n i = some j := by
  cases i with
  | ofNat k =>
    unfold ixD at h
    cases e : Nat.blt k n with
    | false => simp only [e] at h; cases h
    | true =>
      simp only [e] at h
      obtain rfl : _ = j := Option.some.inj h
      have : k < n := Nat.le_of_ble_eq_true e
      unfold ixN
      rw [if_pos (show (0 : Int) ≤ Int.ofNat k from Int.natCast_nonneg k), if_pos (by show ((k : Nat) : Int) < n; omega)]
      rfl
  | negSucc k =>
    unfold ixD at h
    cases e : Nat.blt k n with
    | false => simp only [e] at h; cases h
    | true =>
      simp only [e] at h
      obtain rfl : _ = j := Option.some.inj h
      have : k < n := Nat.le_of_ble_eq_true e
      unfold ixN
      have e1 : ¬ (0 ≤ Int.negSucc k) := by omega
      have e2 : -(n : Int) ≤ Int.negSucc k := by omega
      rw [if_neg e1, if_pos e2]
      congr 1
      omega
def opIx (a b : D) (m : Sto) : R D := match a, b with
  | .tup xs, .int i => match ixD xs.length i with
    | some j => R.ofO xs[j]? m
    | none => .bad
  | .str x, .int i => match lenOk x.cps.toList.length, ixD x.cps.toList.length i with
    | true, some j => match x.cps.toList[j]? with
      | some c => .ok (.str ⟨⟨[c]⟩⟩) m
      | none => .bad
    | _, _ => .bad
  | .ref n, i => match m.get n with
    | some (.lst xs) => match i with
      | .int i => match ixD xs.length i with
        | some j => R.ofO xs[j]? m
        | none => .bad
      | _ => .bad
    | some (.dct kvs) => match keyD i with
      | some k => R.ofO (lkK eqK k kvs) m
      | none => .bad
    | some (.zls zs) => match i with
      | .int i => match ixD zs.length i with
        | some j => match zs[j]? with
          | some z => .ok (.int z) m
          | none => .bad
        | none => .bad
      | _ => .bad
    | _ => .bad
  | _, _ => .bad
theorem atI_of {α : Type} {xs : List α} {i : Int} {j : Nat} {v : α} (h : ixN xs.length i = some j) (h2 : xs[j]? = some v) : atI xs i = some v := by
  unfold atI
  rw [h]
  exact h2
theorem or_ix (hu : X.A.units + 1 < cLine) : IxR X (rD2 X.K opIx) := by
  intro value slice pins s σ H x y v u Q I rx ry h hsl
  obtain ⟨r, m, dx, dy, hs, hx, hy, hf⟩ := h
  have seq : ∀ {xs : List D} {ys : List V} {i : Int}, RDs X.K r H xs ys → (match ixD xs.length i with
      | some j => R.ofO xs[j]? m
      | none => .bad).sat (Post X.K r H Q) (fun _ _ _ => False) → ∃ z, atI ys i = some z ∧ Q z H := fun {xs ys i} ra hf => by
    cases e : ixD xs.length i with
    | none => simp only [e] at hf; exact (show False from hf).elim
    | some j =>
      simp only [e] at hf
      cases e2 : xs[j]? with
      | none => rw [e2] at hf; exact (show False from hf).elim
      | some d =>
        rw [e2] at hf
        obtain ⟨z, hz, rz⟩ := ra.get e2
        have := ixD_eq e
        rw [ra.length] at this
        exact ⟨z, atI_of this hz, same hs rz hf⟩
  cases hx with
  | @tup a xs ys sa ra =>
    cases hy with
    | int i =>
      obtain ⟨z, h1, h2⟩ := seq (i := i) ra hf
      exact ix_tup value slice pins s σ H _ _ v u Q I rx ry ⟨a, ys, i, z, rfl, rfl, sa, h1, h2⟩ hsl
    | _ => exact (show False from hf).elim
  | str x =>
    cases hy with
    | int i =>
      unfold opIx at hf
      cases e : lenOk x.cps.toList.length with
      | false => simp only [e] at hf; exact (show False from hf).elim
      | true =>
        cases e1 : ixD x.cps.toList.length i with
        | none => simp only [e, e1] at hf; exact (show False from hf).elim
        | some j =>
          simp only [e, e1] at hf
          cases e2 : x.cps.toList[j]? with
          | none => simp only [e2] at hf; exact (show False from hf).elim
          | some c =>
            simp only [e2] at hf
            exact ix_str value slice pins s σ H _ _ v u Q I rx ry ⟨x, i, c, rfl, rfl, by simpa [Str.length] using lenOk_line e, atI_of (ixD_eq e1) e2, same hs (.str _) hf⟩ hsl
    | _ => exact (show False from hf).elim
  | @ref n a ha =>
    unfold opIx at hf
    dsimp only at hf
    cases e0 : m.get n with
    | none => simp only [e0] at hf; exact (show False from hf).elim
    | some o =>
      cases o with
      | lst xs =>
        simp only [e0] at hf
        obtain ⟨ys, ea, ra⟩ := hs.lst ha e0
        cases hy with
        | int i =>
          obtain ⟨z, h1, h2⟩ := seq (i := i) ra hf
          exact ix_list value slice pins s σ H _ _ v u Q I rx ry ⟨a, ys, i, z, rfl, rfl, SqL.of ea, h1, h2⟩ hsl
        | _ => exact (show False from hf).elim
      | zls zs =>
        simp only [e0] at hf
        obtain ⟨a', h1, ea⟩ := hs.at_ n _ e0
        rw [ha] at h1; cases h1
        cases hy with
        | int i =>
          dsimp only at hf
          cases e : ixD zs.length i with
          | none => simp only [e] at hf; exact (show False from hf).elim
          | some j =>
            simp only [e] at hf
            cases e2 : zs[j]? with
            | none => simp only [e2] at hf; exact (show False from hf).elim
            | some z =>
              simp only [e2] at hf
              have h4 := ixD_eq e
              rw [← List.length_map (as := zs) (f := V.int)] at h4
              exact ix_list value slice pins s σ H _ _ v u Q I rx ry ⟨a, zs.map .int, i, .int z, rfl, rfl, SqL.of ea, atI_of h4 (by rw [List.getElem?_map, e2]; rfl), same hs (.int _) hf⟩ hsl
        | _ => exact (show False from hf).elim
      | dct kvs =>
        simp only [e0] at hf
        obtain ⟨a', h1, ys, h2, h3⟩ := hs.at_ n _ e0
        rw [ha] at h1; cases h1
        cases e1 : keyD dy with
        | none => simp only [e1] at hf; exact (show False from hf).elim
        | some k =>
          simp only [e1] at hf
          have := keyD_v e1 hy
          subst this
          cases e2 : lkK eqK k kvs with
          | none => rw [e2] at hf; exact (show False from hf).elim
          | some d =>
            rw [e2] at hf
            obtain ⟨z, hz, rz⟩ := (RKs.val (fun _ _ => eqK_dec) k h3).1 d e2
            cases rx
            have g : DGet H a (kV k) (some z) := by
              have := DGet.k (k := k) h2
              rw [hz] at this; exact this
            exact PyProof.Rows.tail_any (dict_typeIs I g) PySem.F.slot_dict_getitem.lookup (d_getItem hu I g ry fun w' s' I' rv => ⟨z, H, I', rv, same hs rz hf⟩) hsl
      | _ => simp only [e0] at hf; exact (show False from hf).elim
  | _ => exact (show False from hf).elim

/-! ### stores by items -/
def hasK {κ : Type} (e : κ → κ → Bool) (k : κ) : List (κ × D) → Bool
  | [] => false
  | p :: r => match e p.1 k with | true => true | false => hasK e k r
def replK {κ : Type} (e : κ → κ → Bool) (k : κ) (d : D) : List (κ × D) → List (κ × D)
  | [] => []
  | p :: r => (match e p.1 k with | true => (p.1, d) | false => p) :: replK e k d r
def putD {κ : Type} (e : κ → κ → Bool) (k : κ) (d : D) (l : List (κ × D)) : List (κ × D) := match hasK e k l with
  | true => replK e k d l
  | false => l ++ [(k, d)]
/-- a thing is changed, if it may be -/
def putO (n : Nat) (o : O) (m : Sto) : R D := match Nat.ble m.ro n with
  | true => .ok .non (m.set n o)
  | false => .bad
theorem putO_sat {n : Nat} {o : O} {m : Sto} {P : D → Sto → Prop} {E : Str → List (Str × D) → Sto → Prop} (h : (putO n o m).sat P E) : P .non (m.set n o) := by
  unfold putO at h
  cases e : Nat.ble m.ro n with
  | true => rw [e] at h; exact h
  | false => rw [e] at h; exact (show False from h).elim
def opSet (a b v : D) (m : Sto) : R D := match a with
  | .ref n => match m.get n with
    | some (.lst xs) => match b with
      | .int i => match ixD xs.length i with
        | some j => putO n (.lst (xs.set j v)) m
        | none => .bad
      | _ => .bad
    | some (.dct kvs) => match keyD b, lenOk kvs.length with
      | some k, true => putO n (.dct (putD eqK k v kvs)) m
      | _, _ => .bad
    | _ => .bad
  | _ => .bad
theorem RKs.put {κ : Type} [DecidableEq κ] {K : PySem.W.Frag} {e : κ → κ → Bool} (he : ∀ a b, e a b = decide (a = b)) (k : κ) {d : D} {v : V} (hd : RD K r H d v) {kvs : List (κ × D)} {ys : List (κ × V)} (h : RKs K r H kvs ys) : RKs K r H (putD e k d kvs) (putK ys k v) := by
  have ha : ∀ {kvs : List (κ × D)} {ys : List (κ × V)}, RKs K r H kvs ys → hasK e k kvs = ys.any fun kv => decide (kv.1 = k) := by
    intro kvs
    induction kvs with
    | nil => intro ys h; cases h; rfl
    | cons p t ih =>
      intro ys h
      cases h with
      | @cons k' d' v' fs gs a b =>
        unfold hasK
        rw [List.any_cons, ← ih b, he]
        cases decide (k' = k) <;> rfl
  have hm : ∀ {kvs : List (κ × D)} {ys : List (κ × V)}, RKs K r H kvs ys → RKs K r H (replK e k d kvs) (ys.map fun kv => if kv.1 = k then (kv.1, v) else kv) := by
    intro kvs
    induction kvs with
    | nil => intro ys h; cases h; exact .nil
    | cons p t ih =>
      intro ys h
      cases h with
      | @cons k' d' v' fs gs a b =>
        unfold replK
        rw [List.map_cons, he]
        by_cases hk : k' = k
        · simp only [hk, decide_true, if_true]
          exact .cons hd (ih b)
        · simp only [hk, decide_false, if_false]
          exact .cons a (ih b)
  have hp : ∀ {kvs : List (κ × D)} {ys : List (κ × V)}, RKs K r H kvs ys → RKs K r H (kvs ++ [(k, d)]) (ys ++ [(k, v)]) := by
    intro kvs
    induction kvs with
    | nil => intro ys h; cases h; exact .cons hd .nil
    | cons p t ih =>
      intro ys h
      cases h with
      | cons a b => exact .cons a (ih b)
  unfold putD putK
  rw [← ha h]
  cases hasK e k kvs with
  | true => rw [if_pos rfl]; exact hm h
  | false => rw [if_neg Bool.false_ne_true]; exact hp h
theorem RKs.length {κ : Type} {K : PySem.W.Frag} : ∀ {kvs : List (κ × D)} {ys : List (κ × V)}, RKs K r H kvs ys → kvs.length = ys.length
  | _, _, .nil => rfl
  | _, _, .cons _ b => by simp [RKs.length b]
/-- what is wanted of a store: no value -/
def rD3 (K : PySem.W.Frag) (f : D → D → D → Sto → R D) : TSet := fun x y z H Q => ∃ r m dx dy dz, SR K r H m ∧ RD K r H dx x ∧ RD K r H dy y ∧ RD K r H dz z ∧ (f dx dy dz m).sat (Post K r H fun _ H' => Q H') (fun _ _ _ => False)
theorem or_set (hu : X.A.units + 1 < cLine) : PSet X (rD3 X.K opSet) := by
  intro pins s σ H o i v ov iv u Q I ro ri rv h
  obtain ⟨r, m, dx, dy, dz, hs, hx, hy, hz, hf⟩ := h
  cases hx with
  | @ref n a ha =>
    unfold opSet at hf
    dsimp only at hf
    cases e0 : m.get n with
    | none => simp only [e0] at hf; exact (show False from hf).elim
    | some ob =>
      cases ob with
      | lst xs =>
        simp only [e0] at hf
        obtain ⟨ys, ea, ra⟩ := hs.lst ha e0
        cases hy with
        | int i =>
          dsimp only at hf
          cases e1 : ixD xs.length i with
          | none => simp only [e1] at hf; exact (show False from hf).elim
          | some j =>
            simp only [e1] at hf
            have hf := putO_sat hf
            have e2 := ixD_eq e1
            rw [ra.length] at e2
            have mu : Mut (H a) := by rw [ea]; exact True.intro
            refine set_list pins s σ H _ _ v ov iv u Q I ro ri rv ⟨a, ys, i, j, rfl, rfl, ea, e2, ?_⟩
            refine hf r _ V.non (Ext.refl r) (TK.mut mu) (hs.set e0 ha mu ⟨_, upd_same, ?_⟩) .non
            exact RDs.set (hz.mono (Ext.refl r) (TK.mut mu)) j (ra.mono (Ext.refl r) (TK.mut mu))
        | _ => exact (show False from hf).elim
      | dct kvs =>
        simp only [e0] at hf
        obtain ⟨a', h1, ys, h2, h3⟩ := hs.at_ n _ e0
        rw [ha] at h1; cases h1
        cases e1 : keyD dy with
        | none => simp only [e1] at hf; exact (show False from hf).elim
        | some k =>
          cases e2 : lenOk kvs.length with
          | false => simp only [e1, e2] at hf; exact (show False from hf).elim
          | true =>
            simp only [e1, e2] at hf
            have hf := putO_sat hf
            have := keyD_v e1 hy
            subst this
            cases ro
            have mu : Mut (H a) := by rw [h2]; exact True.intro
            refine d_setItem hu I (DPut.k (k := k) (v := v) h2 (by rw [← h3.length]; exact lenOk_lt e2)) ri rv fun s' I' => ⟨_, I', ?_⟩
            refine hf r _ V.non (Ext.refl r) (TK.mut mu) (hs.set e0 ha mu ⟨_, upd_same, ?_⟩) .non
            exact RKs.put (fun _ _ => eqK_dec) k (hz.mono (Ext.refl r) (TK.mut mu)) (h3.mono (Ext.refl r) (TK.mut mu))
      | _ => simp only [e0] at hf; exact (show False from hf).elim
  | _ => exact (show False from hf).elim
end
end Py
namespace Py
open PySem L2

/-! ### calls of built-ins, by data -/
def rDs (K : PySem.W.Frag) (f : List D → Sto → R D) : List V → Hp → VK → Prop := fun vs H Q => ∃ r m ds, SR K r H m ∧ RDs K r H ds vs ∧ (f ds m).sat (Post K r H Q) (fun _ _ _ => False)
section
variable {X : Cx} {r : Rho} {H : Hp} {m : Sto}
theorem RDs.one {K : PySem.W.Frag} {a : D} {vs : List V} (h : RDs K r H [a] vs) : ∃ v, vs = [v] ∧ RD K r H a v := by
  cases h with
  | cons x y => cases y; exact ⟨_, rfl, x⟩
theorem RDs.two {K : PySem.W.Frag} {a b : D} {vs : List V} (h : RDs K r H [a, b] vs) : ∃ v w, vs = [v, w] ∧ RD K r H a v ∧ RD K r H b w := by
  cases h with
  | cons x y =>
    obtain ⟨w, rfl, z⟩ := y.one
    exact ⟨_, w, rfl, x, z⟩
/-- len -/
def bLen (ds : List D) (m : Sto) : R D := match ds with
  | [.str x] => match lenOk x.cps.toList.length with | true => .ok (.int x.cps.toList.length) m | false => .bad
  | [.tup xs] => .ok (.int xs.length) m
  | [.ref n] => match m.get n with
    | some (.lst xs) => .ok (.int xs.length) m
    | some (.zls zs) => .ok (.int zs.length) m
    | _ => .bad
  | _ => .bad
theorem cr_len : CallR X (.builtin "len") (rDs X.K bLen) := by
  intro pins s σ H vs us Q I rv h
  obtain ⟨r, m, ds, hs, hd, hf⟩ := h
  unfold bLen at hf
  split at hf
  · rename_i x
    obtain ⟨v, rfl, h1⟩ := hd.one
    cases h1
    cases e : lenOk x.cps.toList.length with
    | false => simp only [e] at hf; exact (show False from hf).elim
    | true =>
      simp only [e] at hf
      exact call_len pins s σ H _ us Q I rv ⟨_, x.cps.toList.length, rfl, ⟨by simpa [Str.length] using lenOk_line e, by simp [Str.length]⟩, same hs (.int _) hf⟩
  · rename_i xs
    obtain ⟨v, rfl, h1⟩ := hd.one
    cases h1 with
    | @tup a _ ys sa ra => exact call_len pins s σ H _ us Q I rv ⟨_, xs.length, rfl, .inr ⟨ys, sa, ra.length⟩, same hs (.int _) hf⟩
  · rename_i n
    obtain ⟨v, rfl, h1⟩ := hd.one
    cases h1 with
    | @ref _ a ha =>
      cases e0 : m.get n with
      | none => simp only [e0] at hf; exact (show False from hf).elim
      | some o =>
        cases o with
        | lst xs =>
          simp only [e0] at hf
          obtain ⟨ys, ea, ra⟩ := hs.lst ha e0
          exact call_len pins s σ H _ us Q I rv ⟨_, xs.length, rfl, .inl ⟨ys, SqL.of ea, ra.length⟩, same hs (.int _) hf⟩
        | zls zs =>
          simp only [e0] at hf
          obtain ⟨a', h1, ea⟩ := hs.at_ n _ e0
          rw [ha] at h1; cases h1
          exact call_len pins s σ H _ us Q I rv ⟨_, zs.length, rfl, .inl ⟨_, SqL.of ea, (List.length_map ..).symm⟩, same hs (.int _) hf⟩
        | _ => simp only [e0] at hf; exact (show False from hf).elim
  · exact (show False from hf).elim
def absZ : Int → Int
  | .ofNat n => .ofNat n
  | .negSucc n => .ofNat (n + 1)
def bAbs (ds : List D) (m : Sto) : R D := match ds with
  | [.int i] => .ok (.int (absZ i)) m
  | _ => .bad
theorem cr_abs : CallR X (.builtin "abs") (rDs X.K bAbs) := by
  intro pins s σ H vs us Q I rv h
  obtain ⟨r, m, ds, hs, hd, hf⟩ := h
  unfold bAbs at hf
  split at hf
  · rename_i i
    obtain ⟨v, rfl, h1⟩ := hd.one
    cases h1
    refine call_abs pins s σ H _ us Q I rv ⟨i, rfl, ?_⟩
    have : (if i < 0 then -i else i) = absZ i := by
      cases i with
      | ofNat n => rw [if_neg (by show ¬ ((n : Nat) : Int) < 0; omega)]; rfl
      | negSucc n => rw [if_pos (Int.negSucc_lt_zero n)]; rfl
    rw [this]
    exact same hs (.int _) hf
  · exact (show False from hf).elim

/-! ### truth of lists -/
def blsD : List D → Option (List Bool)
  | [] => some []
  | .bl b :: r => match blsD r with | some t => some (b :: t) | none => none
  | _ :: _ => none
theorem blsD_v {K : PySem.W.Frag} : ∀ {ds : List D} {bs : List Bool} {vs : List V}, blsD ds = some bs → RDs K r H ds vs → vs = bs.map V.bl
  | [], _, _, h, .nil => by cases h; rfl
  | d :: ds, bs, v :: vs, h, .cons a b => by
    cases a <;> simp only [blsD] at h <;> first | (cases h; done) | skip
    cases e : blsD ds with
    | none => simp only [e] at h; cases h
    | some t =>
      simp only [e] at h
      cases h
      rw [List.map_cons, ← blsD_v e b]
def allB : List Bool → Bool
  | [] => true
  | true :: r => allB r
  | false :: _ => false
def anyB : List Bool → Bool
  | [] => false
  | true :: _ => true
  | false :: r => anyB r
theorem allB_eq : ∀ l : List Bool, allB l = l.all id
  | [] => rfl
  | true :: r => by simp only [allB, List.all_cons]; rw [allB_eq r]; rfl
  | false :: r => rfl
theorem anyB_eq : ∀ l : List Bool, anyB l = l.any id
  | [] => rfl
  | false :: r => by simp only [anyB, List.any_cons]; rw [anyB_eq r]; rfl
  | true :: r => rfl
def bAA (f : List Bool → Bool) (ds : List D) (m : Sto) : R D := match ds with
  | [.ref n] => match m.get n with
    | some (.lst xs) => match blsD xs with
      | some bs => .ok (.bl (f bs)) m
      | none => .bad
    | _ => .bad
  | _ => .bad
theorem cr_all' (hc : X.calm = true) : CallR X (.builtin "all") (rDs X.K (bAA allB)) := by
  intro pins s σ H vs us Q I rv h
  obtain ⟨r, m, ds, hs, hd, hf⟩ := h
  unfold bAA at hf
  split at hf
  · rename_i n
    obtain ⟨v, rfl, h1⟩ := hd.one
    cases h1 with
    | @ref _ a ha =>
      cases e0 : m.get n with
      | none => simp only [e0] at hf; exact (show False from hf).elim
      | some o =>
        cases o with
        | lst xs =>
          simp only [e0] at hf
          obtain ⟨ys, ea, ra⟩ := hs.lst ha e0
          cases e1 : blsD xs with
          | none => simp only [e1] at hf; exact (show False from hf).elim
          | some bs =>
            simp only [e1] at hf
            have := blsD_v e1 ra
            subst this
            exact cr_all hc pins s σ H _ us Q I rv ⟨a, bs, rfl, SqL.of ea, by rw [← allB_eq]; exact same hs (.bl _) hf⟩
        | _ => simp only [e0] at hf; exact (show False from hf).elim
  · exact (show False from hf).elim
theorem cr_any' (hc : X.calm = true) : CallR X (.builtin "any") (rDs X.K (bAA anyB)) := by
  intro pins s σ H vs us Q I rv h
  obtain ⟨r, m, ds, hs, hd, hf⟩ := h
  unfold bAA at hf
  split at hf
  · rename_i n
    obtain ⟨v, rfl, h1⟩ := hd.one
    cases h1 with
    | @ref _ a ha =>
      cases e0 : m.get n with
      | none => simp only [e0] at hf; exact (show False from hf).elim
      | some o =>
        cases o with
        | lst xs =>
          simp only [e0] at hf
          obtain ⟨ys, ea, ra⟩ := hs.lst ha e0
          cases e1 : blsD xs with
          | none => simp only [e1] at hf; exact (show False from hf).elim
          | some bs =>
            simp only [e1] at hf
            have := blsD_v e1 ra
            subst this
            exact cr_any hc pins s σ H _ us Q I rv ⟨a, bs, rfl, SqL.of ea, by rw [← anyB_eq]; exact same hs (.bl _) hf⟩
        | _ => simp only [e0] at hf; exact (show False from hf).elim
  · exact (show False from hf).elim

/-! ### list(x), tuple(x) -/
def bList (ds : List D) (m : Sto) : R D := match ds with
  | [.tup xs] => mkL xs m
  | [.ref n] => match m.get n with
    | some (.lst xs) => mkL xs m
    | some (.dct kvs) => mkL (kvs.map fun kv => match kv.1 with | .inl i => .int i | .inr x => .str x) m
    | _ => .bad
  | _ => .bad
theorem RKs.keys {K : PySem.W.Frag} : ∀ {kvs : List (Key × D)} {ys : List (Key × V)}, RKs K r H kvs ys → RDs K r H (kvs.map fun kv => match kv.1 with | .inl i => D.int i | .inr x => D.str x) (ys.map fun kv => kV kv.1)
  | _, _, .nil => .nil
  | _, _, @RKs.cons _ _ _ _ k d v fs gs a b => by
    rw [List.map_cons, List.map_cons]
    refine .cons ?_ (RKs.keys b)
    cases k with
    | inl i => exact .int i
    | inr x => exact .str x
theorem cr_list (hc : X.calm = true) : CallR X (.type "list") (rDs X.K bList) := by
  intro pins s σ H vs us Q I rv h
  obtain ⟨r, m, ds, hs, hd, hf⟩ := h
  unfold bList at hf
  split at hf
  · rename_i xs
    obtain ⟨v, rfl, h1⟩ := hd.one
    cases h1 with
    | @tup a _ ys sa ra => exact call_list_of pins s σ H _ us Q I rv ⟨a, ys, rfl, .inr sa, fun l hl => newL hs ra hf hl⟩
  · rename_i n
    obtain ⟨v, rfl, h1⟩ := hd.one
    cases h1 with
    | @ref _ a ha =>
      cases e0 : m.get n with
      | none => simp only [e0] at hf; exact (show False from hf).elim
      | some o =>
        cases o with
        | lst xs =>
          simp only [e0] at hf
          obtain ⟨ys, ea, ra⟩ := hs.lst ha e0
          exact call_list_of pins s σ H _ us Q I rv ⟨a, ys, rfl, .inl (SqL.of ea), fun l hl => newL hs ra hf hl⟩
        | dct kvs =>
          simp only [e0] at hf
          obtain ⟨a', h1, ys, h2, h3⟩ := hs.at_ n _ e0
          rw [ha] at h1; cases h1
          exact call_list_dK hc pins s σ H _ us Q I rv ⟨a, ys, rfl, h2, fun l hl => newL hs h3.keys hf hl⟩
        | _ => simp only [e0] at hf; exact (show False from hf).elim
  · exact (show False from hf).elim
def bTuple (ds : List D) (m : Sto) : R D := match ds with
  | [.tup xs] => .ok (.tup xs) m
  | [.ref n] => match m.get n with
    | some (.lst xs) => .ok (.tup xs) m
    | _ => .bad
  | _ => .bad
theorem cr_tuple : CallR X (.type "tuple") (rDs X.K bTuple) := by
  intro pins s σ H vs us Q I rv h
  obtain ⟨r, m, ds, hs, hd, hf⟩ := h
  unfold bTuple at hf
  split at hf
  · rename_i xs
    obtain ⟨v, rfl, h1⟩ := hd.one
    cases h1 with
    | @tup a _ ys sa ra => exact call_tuple_of pins s σ H _ us Q I rv ⟨a, ys, rfl, .inr ⟨sa, same hs (.tup sa ra) hf⟩⟩
  · rename_i n
    obtain ⟨v, rfl, h1⟩ := hd.one
    cases h1 with
    | @ref _ a ha =>
      cases e0 : m.get n with
      | none => simp only [e0] at hf; exact (show False from hf).elim
      | some o =>
        cases o with
        | lst xs =>
          simp only [e0] at hf
          obtain ⟨ys, ea, ra⟩ := hs.lst ha e0
          exact call_tuple_of pins s σ H _ us Q I rv ⟨a, ys, rfl, .inl ⟨SqL.of ea, fun l hl => newT hs ra hf hl⟩⟩
        | _ => simp only [e0] at hf; exact (show False from hf).elim
  · exact (show False from hf).elim
/-! ### int(x), str(x), sum(xs) -/
def intsD : List D → Option (List Int)
  | [] => some []
  | .int b :: r => match intsD r with | some t => some (b :: t) | none => none
  | _ :: _ => none
theorem intsD_v {K : PySem.W.Frag} : ∀ {ds : List D} {bs : List Int} {vs : List V}, intsD ds = some bs → RDs K r H ds vs → vs = bs.map V.int
  | [], _, _, h, .nil => by cases h; rfl
  | d :: ds, bs, v :: vs, h, .cons a b => by
    cases a <;> simp only [intsD] at h <;> first | (cases h; done) | skip
    cases e : intsD ds with
    | none => simp only [e] at h; cases h
    | some t =>
      simp only [e] at h
      cases h
      rw [List.map_cons, ← intsD_v e b]
def sumZ : List Int → Int
  | [] => 0
  | a :: r => a + sumZ r
theorem sumZ_eq : ∀ l : List Int, sumZ l = l.sum
  | [] => rfl
  | a :: r => by rw [List.sum_cons, sumZ, sumZ_eq r]
def bSum (ds : List D) (m : Sto) : R D := match ds with
  | [.ref n] => match m.get n with
    | some (.lst xs) => match intsD xs with
      | some bs => .ok (.int (sumZ bs)) m
      | none => .bad
    | _ => .bad
  | _ => .bad
theorem cr_sum' (hc : X.calm = true) : CallR X (.builtin "sum") (rDs X.K bSum) := by
  intro pins s σ H vs us Q I rv h
  obtain ⟨r, m, ds, hs, hd, hf⟩ := h
  unfold bSum at hf
  split at hf
  · rename_i n
    obtain ⟨v, rfl, h1⟩ := hd.one
    cases h1 with
    | @ref _ a ha =>
      cases e0 : m.get n with
      | none => simp only [e0] at hf; exact (show False from hf).elim
      | some o =>
        cases o with
        | lst xs =>
          simp only [e0] at hf
          obtain ⟨ys, ea, ra⟩ := hs.lst ha e0
          cases e1 : intsD xs with
          | none => simp only [e1] at hf; exact (show False from hf).elim
          | some bs =>
            simp only [e1] at hf
            have := intsD_v e1 ra
            subst this
            exact cr_sum hc pins s σ H _ us Q I rv ⟨a, bs, rfl, SqL.of ea, by rw [← sumZ_eq]; exact same hs (.int _) hf⟩
        | _ => simp only [e0] at hf; exact (show False from hf).elim
  · exact (show False from hf).elim
def b2z (b : Bool) : Int := match b with | true => 1 | false => 0
def bInt (ds : List D) (m : Sto) : R D := match ds with
  | [.int i] => .ok (.int i) m
  | [.bl b] => .ok (.int (b2z b)) m
  | _ => .bad
theorem cr_int : CallR X (.type "int") (rDs X.K bInt) := by
  intro pins s σ H vs us Q I rv h
  obtain ⟨r, m, ds, hs, hd, hf⟩ := h
  unfold bInt at hf
  split at hf
  · rename_i i
    obtain ⟨v, rfl, h1⟩ := hd.one
    cases h1
    exact call_int1 pins s σ H _ us Q I rv (.inl ⟨i, rfl, same hs (.int _) hf⟩)
  · rename_i b
    obtain ⟨v, rfl, h1⟩ := hd.one
    cases h1
    refine call_int1 pins s σ H _ us Q I rv (.inr ⟨b, rfl, ?_⟩)
    have : (if b = true then (1 : Int) else 0) = b2z b := by cases b <;> rfl
    rw [this]
    exact same hs (.int _) hf
  · exact (show False from hf).elim
/-! ### sorted(xs) of whole numbers -/
def insZ (a : Int) : List Int → List Int
  | [] => [a]
  | b :: r => match decide (a ≤ b) with | true => a :: b :: r | false => b :: insZ a r
def sortZ : List Int → List Int
  | [] => []
  | a :: r => insZ a (sortZ r)
theorem insZ_perm (a : Int) : ∀ l : List Int, (insZ a l).Perm (a :: l)
  | [] => .refl _
  | b :: r => by
    unfold insZ
    cases decide (a ≤ b) with
    | true => exact .refl _
    | false => exact ((insZ_perm a r).cons b).trans (.swap a b r)
theorem sortZ_perm : ∀ l : List Int, (sortZ l).Perm l
  | [] => .refl _
  | a :: r => (insZ_perm a _).trans ((sortZ_perm r).cons a)
theorem insZ_sorted (a : Int) : ∀ l : List Int, l.Pairwise (· ≤ ·) → (insZ a l).Pairwise (· ≤ ·)
  | [], _ => by simp [insZ]
  | b :: r, h => by
    have hb := List.pairwise_cons.mp h
    unfold insZ
    cases e : decide (a ≤ b) with
    | true =>
      have hab := of_decide_eq_true e
      refine List.pairwise_cons.mpr ⟨fun c hc => ?_, h⟩
      rcases List.mem_cons.mp hc with rfl | hc
      · exact hab
      · exact Int.le_trans hab (hb.1 c hc)
    | false =>
      have hab : b ≤ a := by have := of_decide_eq_false e; omega
      refine List.pairwise_cons.mpr ⟨fun c hc => ?_, insZ_sorted a r hb.2⟩
      rcases List.mem_cons.mp ((insZ_perm a r).mem_iff.mp hc) with rfl | hc
      · exact hab
      · exact hb.1 c hc
theorem sortZ_sorted : ∀ l : List Int, (sortZ l).Pairwise (· ≤ ·)
  | [] => .nil
  | a :: r => insZ_sorted a _ (sortZ_sorted r)
end
end Py
namespace Py
open PySem L2

/-! ### the reading machine's own terms -/
/-- built-in functions and classes that are called -/
inductive BI where
  | len | abs | repr | isi | sum | any | all | sorted | min | max | int | str | list | tuple
  deriving DecidableEq, Inhabited
/-- expressions, argument lists, what is walked, targets -/
inductive E where
  | con (d : D)
  | var (i : Nat)
  | glo (x : Str)
  | bin (o : Operator) (a b : E)
  | neg (a : E)
  | not (a : E)
  | tst (a : E)
  | ifs (a : E)
  | cmp (o : CmpOp) (a b : E)
  | chn (o o' : CmpOp) (a b c : E)
  | and (a b : E)
  | or (a b : E)
  | ite (t a b : E)
  | tup (a : E)
  | lst (a : E)
  | dic (a : E)
  | dc0
  | nil
  | cons (a r : E)
  | star (a r : E)
  | call (f : Str) (a : E)
  | clk (f : Str) (o : List Nat) (a : E)
  | bi (b : BI) (a : E)
  | ix (a b : E)
  | slc (a lo hi : E)
  | rev (a : E)
  | att (a : E) (f : Str)
  | mth (a : E) (f : Str) (b : E)
  | cmpr (t : E) (s : E) (c : E) (e : E) (ws : List Nat)
  | cmp2 (t : E) (s : E) (c : E) (t2 : E) (s2 : E) (c2 : E) (e : E) (ws ws2 : List Nat)
  | mkx (c : Str) (a : E)
  -- what is walked
  | sEx (a : E)
  | sR1 (a : E)
  | sR2 (a b : E)
  | sEn (a : E)
  | sZp (a b : E)
  -- targets
  | tNm (i : Nat)
  | tTp (a : E)
  | tIx (a b : E)
  | tAt (a : E) (f : Str)
  deriving Inhabited
inductive S where
  | skp
  | seq (a b : S)
  | exp (a : E)
  | ret (a : E)
  | asg (t e : E)
  | par (ts e : E)
  | aug (o : Operator) (t e : E)
  | ife (t : E) (a b : S)
  | for_ (g : Bool) (t s : E) (b : S)
  | whl (t : E) (b : S)
  | rai (c : Str) (a : E)
  | tri (b : S) (hs : List (List Str × Nat)) (x : Nat)
  | trn (b : S) (c : List Str) (s : S)
  | brk
  | cnt
  deriving Inhabited
/-- what a loop walks -/
inductive Src where
  | lst (n : Nat)
  | tup (xs : List D)
  | rng (lo : Int) (n : Nat)
  | enL (n : Nat)
  | enT (xs : List D)
  | zLL (n k : Nat)
  | zTT (xs ys : List D)
  deriving Inhabited
def nth (xs : List D) (i : Nat) : Option D := xs[i]?
def Src.at : Src → Sto → Nat → Option (Option D)
  | .lst n, m, i => match m.get n with
    | some (.lst xs) => some xs[i]?
    | _ => none
  | .tup xs, _, i => some xs[i]?
  | .rng lo n, _, i => some (match Nat.blt i n with | true => some (.int (lo + (i : Int))) | false => none)
  | .enL n, m, i => match m.get n with
    | some (.lst xs) => some (match xs[i]? with | some x => some (.tup [.int (i : Int), x]) | none => none)
    | _ => none
  | .enT xs, _, i => some (match xs[i]? with | some x => some (.tup [.int (i : Int), x]) | none => none)
  | .zLL n k, m, i => match m.get n, m.get k with
    | some (.lst xs), some (.lst ys) => some (match xs[i]?, ys[i]? with | some x, some y => some (.tup [x, y]) | _, _ => none)
    | _, _ => none
  | .zTT xs ys, _, i => some (match xs[i]?, ys[i]? with | some x, some y => some (.tup [x, y]) | _, _ => none)
/-- how many turns at most -/
def Src.most : Src → Sto → Nat
  | .lst n, m => match m.get n with | some (.lst xs) => xs.length + 1 | _ => 1
  | .tup xs, _ => xs.length + 1
  | .rng _ n, _ => n + 1
  | .enL n, m => match m.get n with | some (.lst xs) => xs.length + 1 | _ => 1
  | .enT xs, _ => xs.length + 1
  | .zLL n _, m => match m.get n with | some (.lst xs) => xs.length + 1 | _ => 1
  | .zTT xs _, _ => xs.length + 1
/-- results of statements -/
inductive RS where
  | nx (as : En) (m : Sto)
  | rt (d : D) (m : Sto)
  | bk (as : En) (m : Sto)
  | ct (as : En) (m : Sto)
  | exc (c : Str) (fs : List (Str × D)) (as : En) (m : Sto)
  | bad
def R.thn {α : Type} (x : R α) (as : En) (k : α → Sto → RS) : RS := match x with
  | .ok a m => k a m
  | .exc c fs m => .exc c fs as m
  | .bad => .bad
/-- the program: constants, calls, isinstance, fields of exceptions -/
structure Gb where
  cst : Str → Option D
  cls : Str → Str → Option Bool
  sup : Str → BT → Option Bool
  exf : Str → Option Str
structure Cf where
  kn : Str → Bool
  call : Str → List D → Sto → R D
  meth : Str → Str → List D → Sto → R D
  wf : Nat
def wipeE (as : En) : List Nat → En
  | [] => as
  | v :: vs => (wipeE as vs).set v none
def permA (o : List Nat) (ds : List D) : List D := o.filterMap fun i => ds[i]?
/-! ### what lies behind a mark is let go -/
mutual
def ltD (N : Nat) : D → Bool
  | .tup xs => ltDs N xs
  | .ref n => Nat.blt n N
  | .non => true
  | .bl _ => true
  | .int _ => true
  | .str _ => true
  | .shw _ => true
  | .ty _ => true
  | .gl _ => true
def ltDs (N : Nat) : List D → Bool
  | [] => true
  | x :: xs => match ltD N x with
    | true => ltDs N xs
    | false => false
end
def ltV {κ : Type} (N : Nat) : List (κ × D) → Bool
  | [] => true
  | p :: r => match ltD N p.2 with
    | true => ltV N r
    | false => false
def ltO (N : Nat) : O → Bool
  | .lst xs => ltDs N xs
  | .frl _ => true
  | .zls _ => true
  | .dct k => ltV N k
  | .dctT k => ltV N k
  | .ins _ fs => ltV N fs
  | .exc _ fs => ltV N fs
def cutOs (N : Nat) : List (Nat × O) → Option (List (Nat × O))
  | [] => some []
  | p :: r => match Nat.blt p.1 N with
    | false => cutOs N r
    | true => match ltO N p.2, cutOs N r with
      | true, some t => some (p :: t)
      | _, _ => none
def cutE (N : Nat) : En → En
  | [] => []
  | o :: r => (match o with
    | some d => match ltD N d with
      | true => some d
      | false => none
    | none => none) :: cutE N r
def cutM (N : Nat) (m : Sto) : Option Sto := match Nat.ble N m.nx, cutOs N m.os with
  | true, some os => some ⟨N, m.ro, os⟩
  | _, _ => none
def cutK {α : Type} (c : Option Nat) (as : En) (m : Sto) (k : En → Sto → α) : α := match c with
  | none => k as m
  | some N => match cutM N m with
    | some m1 => k (cutE N as) m1
    | none => k as m
def gcut (g : Bool) (n : Nat) : Option Nat := match g with
  | true => some n
  | false => none
def R.cut (N : Nat) : R D → R D
  | .ok d m => match ltD N d, cutM N m with
    | true, some m1 => .ok d m1
    | _, _ => .ok d m
  | .exc c fs m => match ltV N fs, cutM N m with
    | true, some m1 => .exc c fs m1
    | _, _ => .exc c fs m
  | .bad => .bad
/-- a comprehension's turns -/
def cmpLoop (src : Src) (tg : D → En → Sto → R En) (tst : En → Sto → R Bool) (el : En → Sto → R D) (as : En) (n : Nat) : Nat → Nat → Sto → R D
  | 0, _, _ => .bad
  | k + 1, i, m => match src.at m i with
    | none => .bad
    | some none => .ok (.ref n) m
    | some (some d) => (tg d as m).calm.bind fun as1 m1 => (tst as1 m1).calm.bind fun b m2 => match b with
      | false => cmpLoop src tg tst el as n k (i + 1) m2
      | true => (el as1 m2).calm.bind fun y m3 => match m3.get n with
        | some (.lst acc) => match lenOk acc.length with
          | true => (putO n (.lst (acc ++ [y])) m3).bind fun _ m4 => cmpLoop src tg tst el as n k (i + 1) m4
          | false => .bad
        | _ => .bad
/-- a for's turns -/
def forLoop (c : Option Nat) (src : Src) (tg : D → En → Sto → R En) (body : En → Sto → RS) : Nat → Nat → En → Sto → RS
  | 0, _, _, _ => .bad
  | k + 1, i, as, m => match src.at m i with
    | none => .bad
    | some none => .nx as m
    | some (some d) => (tg d as m).calm.thn as fun as1 m1 => match body as1 m1 with
      | .nx as2 m2 => cutK c as2 m2 (forLoop c src tg body k (i + 1))
      | .ct as2 m2 => cutK c as2 m2 (forLoop c src tg body k (i + 1))
      | .bk as2 m2 => .nx as2 m2
      | r => r
def whlLoop (tst : En → Sto → R Bool) (body : En → Sto → RS) : Nat → En → Sto → RS
  | 0, _, _ => .bad
  | k + 1, as, m => (tst as m).thn as fun b m1 => match b with
    | false => .nx as m1
    | true => match body as m1 with
      | .nx as2 m2 => whlLoop tst body k as2 m2
      | .ct as2 m2 => whlLoop tst body k as2 m2
      | .bk as2 m2 => .nx as2 m2
      | r => r
/-! ### built-ins -/
/-- a value as data that is shown, to a depth -/
def toR : Nat → Sto → D → Option PyData
  | 0, _, _ => none
  | k + 1, m, d => match d with
    | .non => some .none
    | .bl b => some (.bool b)
    | .int i => match Nat.blt i.natAbs.log2 1900 with | true => some (.int i) | false => none
    | .str x => match okS x with | true => some (.str x) | false => none
    | .tup xs => (mapO (toR k m) xs).map .tuple
    | .ref n => match m.get n with
      | some (.lst xs) => (mapO (toR k m) xs).map .list
      | some (.dct []) => some (.dict [])
      | _ => none
    | _ => none
def shwB : D → Bool
  | .tup _ => true
  | .ref _ => true
  | .int _ => true
  | _ => false
def bRepr (ds : List D) (m : Sto) : R D := match ds with
  | [d] => match shwB d, toR 40 m d with
    | true, some p => match Nat.ble p.bulk 8000 with
      | true => .ok (.shw p) m
      | false => .bad
    | _, _ => .bad
  | _ => .bad
/-- the class of a value: a built-in one, or an own one by its name -/
inductive Ty where
  | b (n : BT)
  | own (c : Str)
def tyD (m : Sto) : D → Option Ty
  | .non => some (.b .non)
  | .bl _ => some (.b .bool)
  | .int _ => some (.b .int)
  | .str _ => some (.b .str)
  | .shw _ => some (.b .str)
  | .tup _ => some (.b .tuple)
  | .ref n => match m.get n with
    | some (.lst _) => some (.b .list)
    | some (.dct _) => some (.b .dict)
    | some (.exc c _) => some (.own c)
    | _ => none
  | _ => none
/-- is a built-in class under another one -/
def subB : BT → BT → Option Bool
  | .non, .int => some false | .non, .bool => some false | .non, .str => some false | .non, .tuple => some false | .non, .list => some false
  | .bool, .int => some true | .bool, .bool => some true | .bool, .str => some false | .bool, .tuple => some false | .bool, .list => some false
  | .int, .int => some true | .int, .bool => some false | .int, .str => some false | .int, .tuple => some false | .int, .list => some false
  | .str, .int => some false | .str, .bool => some false | .str, .str => some true | .str, .tuple => some false | .str, .list => some false
  | .list, .int => some false | .list, .bool => some false | .list, .str => some false | .list, .tuple => some false | .list, .list => some true
  | .tuple, .int => some false | .tuple, .bool => some false | .tuple, .str => some false | .tuple, .tuple => some true | .tuple, .list => some false
  | .dict, .int => some false | .dict, .bool => some false | .dict, .str => some false | .dict, .tuple => some false | .dict, .list => some false
  | _, _ => none
def bIsi (G : Gb) (ds : List D) (m : Sto) : R D := match ds with
  | [d, c] => match tyD m d with
    | none => .bad
    | some (.b t) => match c with
      | .ty u => match subB t u with | some b => .ok (.bl b) m | none => .bad
      | _ => .bad
    | some (.own x) => match c with
      | .ty u => match G.sup x u with | some b => .ok (.bl b) m | none => .bad
      | .gl y => match G.cls x y with | some b => .ok (.bl b) m | none => .bad
      | _ => .bad
  | _ => .bad
def bSorted (ds : List D) (m : Sto) : R D := match ds with
  | [.ref n] => match m.get n with
    | some (.lst xs) => match intsD xs, Nat.blt xs.length 64 with
      | some bs, true => mkL ((sortZ bs).map .int) m
      | _, _ => .bad
    | _ => .bad
  | _ => .bad
def biD (G : Gb) : BI → List D → Sto → R D
  | .len => bLen
  | .abs => bAbs
  | .repr => bRepr
  | .isi => bIsi G
  | .sum => bSum
  | .any => bAA anyB
  | .all => bAA allB
  | .sorted => bSorted
  | .int => bInt
  | .list => bList
  | .tuple => bTuple
  | _ => fun _ _ => .bad
def sIxD (n d : Nat) : Option Int → Nat
  | none => d
  | some (.ofNat k) => match Nat.ble k n with | true => k | false => n
  | some (.negSucc k) => n - (k + 1)
def cutD (xs : List D) (lo hi : Option Int) : List D := (xs.drop (sIxD xs.length 0 lo)).take (sIxD xs.length xs.length hi - sIxD xs.length 0 lo)
def slD (a : D) (lo hi : Option Int) (m : Sto) : R D := match a with
  | .tup xs => .ok (.tup (cutD xs lo hi)) m
  | .ref n => match m.get n with
    | some (.lst xs) => mkL (cutD xs lo hi) m
    | _ => .bad
  | _ => .bad
def asZ (d : D) (m : Sto) : R (Option Int) := match d with
  | .int i => .ok (some i) m
  | _ => .bad
def rvD (a : D) (m : Sto) : R D := .bad
def lkF (f : Str) : List (Str × D) → Option D
  | [] => none
  | p :: r => match eqS f p.1 with | true => some p.2 | false => lkF f r
def fldD (G : Gb) (a : D) (f : Str) (m : Sto) : R D := match a with
  | .ref n => match m.get n with
    | some (.exc c fs) => match G.exf c with
      | some g => match eqS g f with
        | true => R.ofO (lkF f fs) m
        | false => .bad
      | none => .bad
    | _ => .bad
  | _ => .bad
def sflD (a : D) (f : Str) (v : D) (m : Sto) : R D := .bad
def pairsD : List D → Option (List (Key × D))
  | [] => some []
  | [_] => none
  | k :: v :: r => match keyD k, pairsD r with
    | some k, some t => some ((k, v) :: t)
    | _, _ => none
def mrgK : List (Key × D) → List (Key × D) → List (Key × D)
  | acc, [] => acc
  | acc, p :: r => mrgK (putD eqK p.1 p.2 acc) r
/-- a dict display: the dict at n is filled -/
def dspD (n : Nat) (xs : List D) (m : Sto) : R D := match m.get n with
  | some (.dct []) => match pairsD xs with
    | some ps => match Nat.ble ps.length 15 with
      | true => (putO n (.dct (mrgK [] ps)) m).bind fun _ m1 => .ok (.ref n) m1
      | false => .bad
    | none => .bad
  | _ => .bad
def mtD (C : Cf) (a : D) (f : Str) (bs : List D) (m : Sto) : R D := match a with
  | .ref n => match m.get n with
    | some (.lst xs) => match eqS f "append", bs with
      | true, [y] => match lenOk xs.length with
        | true => putO n (.lst (xs ++ [y])) m
        | false => .bad
      | _, _ => .bad
    | _ => .bad
  | _ => .bad
def opAug (o : Operator) (a b : D) (m : Sto) : R D := match o, a, b with
  | .Add, .int i, .int j => .ok (.int (i + j)) m
  | .Sub, .int i, .int j => .ok (.int (i - j)) m
  | _, _, _ => .bad
def asB (d : D) (m : Sto) : R Bool := match d with
  | .bl b => .ok b m
  | _ => .bad
mutual
def evE (G : Gb) (C : Cf) : E → En → Sto → R D
  | .con d, _, m => .ok d m
  | .var i, as, m => match as[i]? with
    | some (some d) => .ok d m
    | _ => .bad
  | .glo x, _, m => R.ofO (G.cst x) m
  | .bin o a b, as, m => (evE G C a as m).bind fun x m1 => (evE G C b as m1).bind fun y m2 => (opBin o x y m2).calm
  | .neg a, as, m => (evE G C a as m).bind fun x m1 => match x with
    | .int i => .ok (.int (-i)) m1
    | _ => .bad
  | .not a, as, m => (evE G C a as m).bind fun x m1 => match truD m1 x with
    | some b => .ok (.bl (!b)) m1
    | none => .bad
  | .cmp o a b, as, m => (evE G C a as m).bind fun x m1 => (evE G C b as m1).bind fun y m2 => (opCmp o x y m2).calm
  | .chn o o' a b c, as, m => (evE G C a as m).bind fun x m1 => (evE G C b as m1).bind fun y m2 => (opCmp o x y m2).calm.bind fun z m3 => match z with
    | .bl true => (evE G C c as m3).bind fun w m4 => (opCmp o' y w m4).calm
    | .bl false => .ok (.bl false) m3
    | _ => .bad
  | .and a b, as, m => (evE G C a as m).bind fun x m1 => match truD m1 x with
    | some true => evE G C b as m1
    | some false => .ok x m1
    | none => .bad
  | .or a b, as, m => (evE G C a as m).bind fun x m1 => match truD m1 x with
    | some false => evE G C b as m1
    | some true => .ok x m1
    | none => .bad
  | .ite t a b, as, m => (evT G C t as m).bind fun k m1 => match k with
    | true => evE G C a as m1
    | false => evE G C b as m1
  | .tup a, as, m => (evA G C a as m).bind fun xs m1 => match lenOk xs.length with
    | true => .ok (.tup xs) m1
    | false => .bad
  | .lst a, as, m => (evA G C a as m).bind fun xs m1 => match lenOk xs.length with
    | true => mkL xs m1
    | false => .bad
  | .dic a, as, m => (evA G C a as (m.new (.dct []))).bind fun xs m1 => (dspD m.nx xs m1).calm
  | .dc0, _, m => .ok (.ref m.nx) (m.new (.dct []))
  | .call f a, as, m => (evA G C a as m).bind fun xs m1 => C.call f xs m1
  | .clk f o a, as, m => (evA G C a as m).bind fun xs m1 => C.call f (permA o xs) m1
  | .bi b a, as, m => (evA G C a as m).bind fun xs m1 => (biD G b xs m1).calm
  | .ix a b, as, m => (evE G C a as m).bind fun x m1 => (evE G C b as m1).bind fun y m2 => (opIx x y m2).calm
  | .slc a lo hi, as, m => (evE G C a as m).bind fun x m1 => (evO G C lo as m1).bind fun y m2 => (evO G C hi as m2).bind fun z m3 => (slD x y z m3).calm
  | .rev a, as, m => (evE G C a as m).bind fun x m1 => (rvD x m1).calm
  | .att a f, as, m => (evE G C a as m).bind fun x m1 => (fldD G x f m1).calm
  | .mth a f b, as, m => (evE G C a as m).bind fun x m1 => (evA G C b as m1).bind fun ys m2 => mtD C x f ys m2
  | .cmpr t s c e ws, as, m => (evSrc G C s as m).bind fun src m1 =>
    cmpLoop src (evTg G C t) (evT G C c) (evE G C e) (wipeE as ws) m1.nx (src.most m1) 0 (m1.new (.lst []))
  | .mkx c a, as, m => (evE G C a as m).bind fun x m1 => match G.exf c with
    | some f => .ok (.ref m1.nx) (m1.new (.exc c [(f, x)]))
    | none => .bad
  | _, _, _ => .bad
/-- a part of a slice -/
def evO (G : Gb) (C : Cf) : E → En → Sto → R (Option Int)
  | .nil, _, m => .ok none m
  | .cons a _, as, m => (evE G C a as m).bind asZ
  | _, _, _ => .bad
def evA (G : Gb) (C : Cf) : E → En → Sto → R (List D)
  | .nil, _, m => .ok [] m
  | .cons a r, as, m => (evE G C a as m).bind fun x m1 => (evA G C r as m1).bind fun xs m2 => .ok (x :: xs) m2
  | _, _, _ => .bad
/-- a test -/
def evT (G : Gb) (C : Cf) : E → En → Sto → R Bool
  | .not a, as, m => (evT G C a as m).bind fun b m1 => .ok (!b) m1
  | .and a b, as, m => (evT G C a as m).bind fun k m1 => match k with
    | true => evT G C b as m1
    | false => .ok false m1
  | .or a b, as, m => (evT G C a as m).bind fun k m1 => match k with
    | true => .ok true m1
    | false => evT G C b as m1
  | .nil, _, m => .ok true m
  | .cmp o a b, as, m => ((evE G C a as m).bind fun x m1 => (evE G C b as m1).bind fun y m2 => (opCmp o x y m2).calm).bind asB
  | .chn o o' a b c, as, m => ((evE G C a as m).bind fun x m1 => (evE G C b as m1).bind fun y m2 => (opCmp o x y m2).calm.bind fun z m3 => match z with
    | .bl true => (evE G C c as m3).bind fun w m4 => (opCmp o' y w m4).calm
    | .bl false => .ok (.bl false) m3
    | _ => .bad).bind asB
  | .ite t a b, as, m => (evT G C t as m).bind fun k m1 => match k with
    | true => evT G C a as m1
    | false => evT G C b as m1
  | .tst e, as, m => (evE G C e as m).bind fun x m1 => R.ofO (truD m1 x) m1
  | .ifs a, as, m => evT G C a as m
  | _, _, _ => .bad
def evSrc (G : Gb) (C : Cf) : E → En → Sto → R Src
  | .sEx a, as, m => (evE G C a as m).bind fun x m1 => match x with
    | .tup xs => .ok (.tup xs) m1
    | .ref n => match m1.get n with
      | some (.lst _) => .ok (.lst n) m1
      | _ => .bad
    | _ => .bad
  | .sR1 a, as, m => (evE G C a as m).bind fun x m1 => match x with
    | .int i => match decide (-(2 ^ 62) ≤ i), decide (i < 2 ^ 62) with
      | true, true => .ok (.rng 0 i.toNat) m1
      | _, _ => .bad
    | _ => .bad
  | .sR2 a b, as, m => (evE G C a as m).bind fun x m1 => (evE G C b as m1).bind fun y m2 => match x, y with
    | .int i, .int j => match decide (-(2 ^ 62) ≤ i), decide (i < 2 ^ 62), decide (-(2 ^ 62) ≤ j), decide (j < 2 ^ 62) with
      | true, true, true, true => .ok (.rng i (j - i).toNat) m2
      | _, _, _, _ => .bad
    | _, _ => .bad
  | .sEn a, as, m => (evE G C a as m).bind fun x m1 => match x with
    | .ref n => match m1.get n with
      | some (.lst _) => .ok (.enL n) m1
      | _ => .bad
    | _ => .bad
  | .sZp a b, as, m => (evE G C a as m).bind fun x m1 => (evE G C b as m1).bind fun y m2 => match x, y with
    | .ref n, .ref k => match m2.get n, m2.get k with
      | some (.lst _), some (.lst _) => .ok (.zLL n k) m2
      | _, _ => .bad
    | .tup xs, .tup ys => .ok (.zTT xs ys) m2
    | _, _ => .bad
  | _, _, _ => .bad
/-- a target -/
def evTg (G : Gb) (C : Cf) : E → D → En → Sto → R En
  | .tNm i, d, as, m => .ok (as.set i (some d)) m
  | .tTp a, d, as, m => match d with
    | .tup xs => evTgs G C a xs as m
    | _ => .bad
  | .tIx a b, d, as, m => (evE G C a as m).calm.bind fun x m1 => (evE G C b as m1).calm.bind fun y m2 => (opSet x y d m2).calm.bind fun _ m3 => .ok as m3
  | .tAt a f, d, as, m => (evE G C a as m).calm.bind fun x m1 => (sflD x f d m1).calm.bind fun _ m3 => .ok as m3
  | _, _, _, _ => .bad
def evTgs (G : Gb) (C : Cf) : E → List D → En → Sto → R En
  | .nil, [], as, m => .ok as m
  | .cons a r, x :: xs, as, m => (evTg G C a x as m).bind fun as1 m1 => evTgs G C r xs as1 m1
  | _, _, _, _ => .bad
end
def evS (G : Gb) (C : Cf) : S → En → Sto → RS
  | .skp, as, m => .nx as m
  | .seq a b, as, m => match evS G C a as m with
    | .nx as1 m1 => evS G C b as1 m1
    | r => r
  | .exp a, as, m => (evE G C a as m).thn as fun _ m1 => .nx as m1
  | .ret a, as, m => (evE G C a as m).thn as fun x m1 => .rt x m1
  | .asg t e, as, m => (evE G C e as m).thn as fun x m1 => (evTg G C t x as m1).calm.thn as fun as1 m2 => .nx as1 m2
  | .par ts e, as, m => (evA G C e as m).thn as fun xs m1 => (evTgs G C ts xs as m1).calm.thn as fun as1 m2 => .nx as1 m2
  | .aug o t e, as, m => match t with
    | .tNm i => match as[i]? with
      | some (some x) => (evE G C e as m).thn as fun y m1 => (opAug o x y m1).calm.thn as fun z m2 => .nx (as.set i (some z)) m2
      | _ => .bad
    | .tIx a b => (evE G C a as m).thn as fun o1 m1 => (evE G C b as m1).thn as fun i1 m2 => (opIx o1 i1 m2).calm.thn as fun x m3 => (evE G C e as m3).thn as fun y m4 => (opAug o x y m4).calm.thn as fun z m5 => (opSet o1 i1 z m5).calm.thn as fun _ m6 => .nx as m6
    | _ => .bad
  | .ife t a b, as, m => (evT G C t as m).thn as fun k m1 => match k with
    | true => evS G C a as m1
    | false => evS G C b as m1
  | .for_ g t s b, as, m => (evSrc G C s as m).thn as fun src m1 => forLoop (gcut g m1.nx) src (evTg G C t) (evS G C b) (src.most m1) 0 as m1
  | .whl t b, as, m => whlLoop (evT G C t) (evS G C b) C.wf as m
  | .rai c a, as, m => (evE G C a as m).thn as fun x m1 => match G.exf c with
    | some f => .exc c [(f, x)] as m1
    | none => .bad
  | .brk, as, m => .bk as m
  | .cnt, as, m => .ct as m
  | _, _, _ => .bad
end Py
namespace Py
open PySem L2

/-! ### defs -/
def PostE (K : PySem.W.Frag) (r : Rho) (H : Hp) (E : XK) : Str → List (Str × D) → Sto → Prop := fun c fs m => ∀ r' H' dx ys, Ext r r' → TK H H' → SR K r' H' m → H' dx = some (.xd ys) → RF K r' H' fs ys → E (.ref (He.ga K c)) (some dx) H'
def spF (K : PySem.W.Frag) (g : List D → Sto → R D) : Sp := fun vs H Q E => ∃ r m ds, SR K r H m ∧ RDs K r H ds vs ∧ (g ds m).sat (Post K r H Q) (PostE K r H E)
structure FnG (P : Program) (w : World) (K : PySem.W.Frag) (mg : Str → Option Value) (base : Heap) (k : Nat) (f : Addr) (fd : FuncData) (ps : List Str) (sp : Sp) : Prop where
  len : ∀ vs H Q E, sp vs H Q E → vs.length = ps.length
  run : ∀ (A : Around) (outer : List Env) (s : Shared) (H : Hp) (args : Args) (us : List Value) (vs : List V) (Q : VK) (E : XK), Room k A → A.guards = some [] → Env0 P w K mg base A outer s H → BindsTo s fd args (ps.zip us) → Vals vs us → sp vs H Q E →
    codeAny (model P w) A (.call (.ref f) args) (CR (CX P w) outer P w H s Q E) s
/-- a call of a known def, by its address -/
theorem run_g {X : Cx} {W : WX} {k : Nat} {f : Addr} {fd : FuncData} {ps : List Str} {g : List D → Sto → R D} {pins : List (Addr × Obj)} {σ : St} {H : Hp} {s : Shared} {Q : VK} {us : List Value} {vs : List V}
    (F : FnG X.prog X.w X.K X.mg X.base k f fd ps (spF X.K g)) (hr : Room k X.A) (hg : X.A.guards = some []) (tk : Takes X W) (I : Inv X pins σ H s) {args : Args} (hb : vs.length = ps.length → BindsTo s fd args (ps.zip us)) (rv : Vals vs us)
    {r : Rho} {m : Sto} {ds : List D} (hs : SR X.K r H m) (hd : RDs X.K r H ds vs) (h : (g ds m).sat (Post X.K r H Q) (PostX X.K r H W σ)) :
    codeAny (model X.prog X.w) X.A (.call (.ref f) args) (fun r' s' => match r' with
      | .ok (.ret u) => EP X pins σ Q u s'
      | .ok _ => False
      | .error e => X.xe e s') s := by
  have hsp : spF X.K g vs H Q (fun cls d H' => W cls d σ H') := ⟨r, m, ds, hs, hd, h⟩
  refine codeAny_mono (F.run X.A X.stack s H args us vs Q _ hr hg I.env0 (hb (F.len _ _ _ _ hsp)) rv hsp) fun r' s' hq => ?_
  cases r' with
  | error e => exact tk e s' (XE.of_call I (fun _ _ _ z => z) hq)
  | ok fl =>
    cases fl with
    | ret u => exact I.after hq
    | next => exact False.elim hq
    | brk => exact False.elim hq
    | cont => exact False.elim hq

/-! ### own exceptions -/
inductive XB where
  | ve | oe | re
  deriving DecidableEq, Inhabited
def XB.nm : XB → String
  | .ve => "ValueError" | .oe => "OverflowError" | .re => "RuntimeError"
def XB.newId : XB → String
  | .ve => "ValueError.__new__" | .oe => "OverflowError.__new__" | .re => "RuntimeError.__new__"
def XB.initId : XB → String
  | .ve => "ValueError.__init__" | .oe => "OverflowError.__init__" | .re => "RuntimeError.__init__"
def XB.mro : XB → List Value
  | .ve => [.type "ValueError", .type "Exception", .type "BaseException", .type "object"]
  | .oe => [.type "OverflowError", .type "ArithmeticError", .type "Exception", .type "BaseException", .type "object"]
  | .re => [.type "RuntimeError", .type "Exception", .type "BaseException", .type "object"]
structure XcC (K : PySem.W.Frag) (C : Addr) (f : Str) (b : XB) : Prop where
  iB : PySem.W.excInitIn K C b.mro b.newId = true
  ov : PySem.W.excOver K C b.mro = true
  hd : PySem.W.hasDictIn K C = true
  sa : PySem.W.findIn K (.ref C) "__setattr__" = some (some (.builtin "object.__setattr__"))
  ex : PySem.W.subIn K (.ref C) (.type "BaseException") = some true
  ty : PySem.W.typeIn K (.ref C) = some (.type "type")
  kp : PySem.W.keepIn K (.ref C) = true
  ga : PySem.W.findIn K (.ref C) "__getattribute__" = some (some (.builtin "BaseException.__getattribute__"))
  gg : PySem.W.findIn K (.ref C) "__getattr__" = some none
  nof : PySem.W.findIn K (.ref C) f = some none
  cl : PySem.W.findIn K (.ref C) "__class__" = some (some (.builtin "object.__class__"))
  sp : PySem.W.specialIn K (.builtin "object.__class__") "__get__" = some (some (.builtin "getset_descriptor.__get__"))
  tk : PySem.W.takesIn K (.builtin "object.__class__") = some true
  mr : PySem.W.mroIn K C (.type "object") = some true
/-- what __init__ does -/
def spI (C : Addr) (f : Str) : Sp := fun vs H Q _ => ∃ a y, vs = [.ref a, y] ∧ H a = some (exo a C none) ∧ ∀ dx, H dx = none → dx ≠ a → Q .non (upd (upd H dx (exd dx [(f, y)])) a (exo a C (some dx)))
/-- all that __init__ of a class needs -/
structure MkX (P : Program) (w : World) (K : PySem.W.Frag) (mg : Str → Option Value) (base : Heap) (C : Addr) (f : Str) : Prop where
  ex : ∃ (b : XB) (fI : Addr) (fd : FuncData) (sf : Str), XcC K C f b ∧ PySem.W.findIn K (.ref C) "__init__" = some (some (.ref fI)) ∧ PySem.W.typeIn K (.ref fI) = some (.type "function") ∧ FnG P w K mg base 1 fI fd [sf, f] (spI C f) ∧
    Binds K fd [sf, f] [] ∧ (∀ (s : Shared) (u v : Value), BindsTo s fd ⟨[u], [(f, v)]⟩ ([sf, f].zip [u, v]))
/-- the built-ins that the text calls -/
def builtinNames : List Str := ["len", "abs", "repr", "isinstance", "sum", "any", "all", "sorted", "min", "max", "int", "str", "list", "tuple", "range", "enumerate", "zip", "dict", "bool", "ValueError", "OverflowError", "RuntimeError", "TypeError", "set"]
/-- the program, as far as the machine knows it -/
structure Pg (P : Program) (w : World) (K : PySem.W.Frag) (mg : Str → Option Value) (base : Heap) (k : Nat) (G : Gb) (C : Cf) : Prop where
  free : ∀ x ∈ builtinNames, mg x = none
  sysm : ∃ o, K.lookup sysModules = some o
  cst : ∀ x d, G.cst x = some d → ∃ u v, mg x = some u ∧ RelV v u ∧ ∀ r H, RD K r H d v
  fn : ∀ f, C.kn f = true → ∃ fa fd ps, mg f = some (.ref fa) ∧ PySem.W.keepIn K (.ref fa) = true ∧ Binds K fd ps [] ∧ FnG P w K mg base k fa fd ps (spF K (C.call f))
  exc : ∀ c f, G.exf c = some f → mg c = some (.ref (He.ga K c)) ∧ 2 ≤ k ∧ MkX P w K mg base (He.ga K c) f
  cls : ∀ c d b, G.cls c d = some b → (∃ f x, XcC K (He.ga K c) f x) ∧ PySem.W.kitOne K (.ref (He.ga K c)) (.ref (He.ga K d)) = some b
  sup : ∀ c t b, G.sup c t = some b → (∃ f x, XcC K (He.ga K c) f x) ∧ PySem.W.kitOne K (.ref (He.ga K c)) (.type (BT.name t)) = some b

structure Cz (X : Cx) (W : WX) (k : Nat) (G : Gb) (C : Cf) : Prop where
  pg : Pg X.prog X.w X.K X.mg X.base k G C
  nd : X.N.Nodup
  calm : X.calm = true
  tk : Takes X W
  own : PassesOwn (model X.prog X.w) X.A X.env X.xe
  room : Room k X.A
  gd : X.A.guards = some []
theorem Cz.un {X : Cx} {W : WX} {k : Nat} {G : Gb} {C : Cf} (z : Cz X W k G C) : X.A.units + 65 < cLine := by have := z.room.un; omega

section
variable {X : Cx} {W : WX} {k : Nat} {G : Gb} {C : Cf}
theorem xe_con (z : Cz X W k G C) {e : Expr} {d : D} {v : V} (h : PE X e (tC v)) (hd : ∀ r H, RD X.K r H d v) : PE X e (tE X.K W (evE G C (.con d))) := PE.imp h fun s H Q ⟨r, as, m, hl, hs, hf⟩ => by
  simp only [evE] at hf
  exact same hs (hd r H) hf
theorem xe_var {i : Nat} {x : Str} {pos : Pos} (hN : X.N[i]? = some x) (hv : Vis X.env.scope x) (hd : (x == ("__debug__" : Str)) = false) (hcd : (x == ("__classdict__" : Str)) = false) : PE X (.Name x pos) (tE X.K W (evE G C (.var i))) :=
  PE.imp (pe_var hN hv hd hcd) fun s H Q ⟨r, as, m, hl, hs, hf⟩ => by
    simp only [evE] at hf
    cases e : as[i]? with
    | none => simp only [e] at hf; exact (show False from hf).elim
    | some o =>
      cases o with
      | none => simp only [e] at hf; exact (show False from hf).elim
      | some d =>
        simp only [e] at hf
        obtain ⟨v, h1, h2⟩ := hl.get e
        exact ⟨v, h1, same hs h2 hf⟩
theorem xe_glo (z : Cz X W k G C) {x : Str} {pos : Pos} (hg : Gl X x) (hd : (x == ("__debug__" : Str)) = false) : PE X (.Name x pos) (tE X.K W (evE G C (.glo x))) := by
  cases e : G.cst x with
  | none => exact ⟨fun p s q H Q I ⟨r, as, m, hl, hs, hf⟩ => by simp only [evE, e] at hf; exact (show False from hf).elim⟩
  | some d =>
    obtain ⟨u, v, h1, h2, h3⟩ := z.pg.cst x d e
    exact PE.imp (pe_glob hg h1 h2 hd) fun s H Q ⟨r, as, m, hl, hs, hf⟩ => by
      simp only [evE, e] at hf
      exact same hs (h3 r H) hf
theorem xe_bin {a b : Expr} {ea eb : E} {pos : Pos} (o : Operator) (ha : PE X a (tE X.K W (evE G C ea))) (hb : PE X b (tE X.K W (evE G C eb))) : PE X (.BinOp a o b pos) (tE X.K W (evE G C (.bin o ea eb))) :=
  PE.imp (pe_op (or_bin o) ha hb) fun s H Q h => tE_bin (fa := evE G C ea) (fb := evE G C eb) (by
    obtain ⟨r, as, m, hl, hs, hf⟩ := h
    refine ⟨r, as, m, hl, hs, ?_⟩
    simp only [evE] at hf
    exact hf)
theorem xe_cmp (z : Cz X W k G C) {a b : Expr} {ea eb : E} {pos : Pos} (o : CmpOp) (ha : PE X a (tE X.K W (evE G C ea))) (hb : PE X b (tE X.K W (evE G C eb))) (hm : behindInMarks o b = false) : PE X (.Compare a [o] [b] pos) (tE X.K W (evE G C (.cmp o ea eb))) :=
  PE.imp (pe_cmpR (or_cmp z.un o) ha hb hm) fun s H Q h => tE_bin (fa := evE G C ea) (fb := evE G C eb) (by
    obtain ⟨r, as, m, hl, hs, hf⟩ := h
    refine ⟨r, as, m, hl, hs, ?_⟩
    simp only [evE] at hf
    exact hf)
theorem xe_ix (z : Cz X W k G C) {a b : Expr} {ea eb : E} {pos : Pos} (ha : PE X a (tE X.K W (evE G C ea))) (hb : PE X b (tE X.K W (evE G C eb))) (hp : PlainIx b) : PE X (.Subscript a b pos) (tE X.K W (evE G C (.ix ea eb))) :=
  PE.imp (pe_ix (or_ix (by have := z.un; omega)) ha hb hp) fun s H Q h => tE_bin (fa := evE G C ea) (fb := evE G C eb) (by
    obtain ⟨r, as, m, hl, hs, hf⟩ := h
    refine ⟨r, as, m, hl, hs, ?_⟩
    simp only [evE] at hf
    exact hf)
theorem xe_neg {a : Expr} {ea : E} {pos : Pos} (ha : PE X a (tE X.K W (evE G C ea))) : PE X (.UnaryOp .USub a pos) (tE X.K W (evE G C (.neg ea))) :=
  PE.imp (pe_un un_neg ha) fun s H Q h => by
    obtain ⟨r, as, m, hl, hs, hf⟩ := h
    simp only [evE] at hf
    refine tE_of hl hs (R.sat_bind hf) fun r1 m1 d v H1 e k1 hl1 hs1 rd p => ?_
    cases rd with
    | int i => exact ⟨i, rfl, same hs1 (.int _) (Post.fwd p e k1)⟩
    | _ => exact (show False from p).elim
theorem xe_not {a : Expr} {ea : E} {pos : Pos} (ha : PE X a (tE X.K W (evE G C ea))) : PE X (.UnaryOp .Not a pos) (tE X.K W (evE G C (.not ea))) :=
  PE.imp (pe_notT ha) fun s H Q h => by
    obtain ⟨r, as, m, hl, hs, hf⟩ := h
    simp only [evE] at hf
    refine tE_of hl hs (R.sat_bind hf) fun r1 m1 d v H1 e k1 hl1 hs1 rd p => ?_
    cases e1 : truD m1 d with
    | none => simp only [e1] at p; exact (show False from p).elim
    | some b =>
      simp only [e1] at p
      exact ⟨b, truD_v hs1 e1 rd, same hs1 (.bl _) (Post.fwd p e k1)⟩
theorem xe_and {a b : Expr} {rest : List Expr} {ea eb : E} {pos : Pos} (ha : PE X a (tE X.K W (evE G C ea))) (hb : PE X (.BoolOp .And (b :: rest) pos) (tE X.K W (evE G C eb))) : PE X (.BoolOp .And (a :: b :: rest) pos) (tE X.K W (evE G C (.and ea eb))) :=
  PE.imp (pe_andT ha hb) fun s H Q h => by
    obtain ⟨r, as, m, hl, hs, hf⟩ := h
    simp only [evE] at hf
    refine tE_of hl hs (R.sat_bind hf) fun r1 m1 d v H1 e k1 hl1 hs1 rd p => ?_
    cases e1 : truD m1 d with
    | none => simp only [e1] at p; exact (show False from p).elim
    | some b =>
      simp only [e1] at p
      refine ⟨b, truD_v hs1 e1 rd, ?_⟩
      cases b with
      | true => rw [if_pos rfl]; exact ⟨r1, as, m1, hl1, hs1, R.fwd p e k1⟩
      | false => rw [if_neg Bool.false_ne_true]; exact same hs1 rd (Post.fwd p e k1)
theorem xe_or {a b : Expr} {rest : List Expr} {ea eb : E} {pos : Pos} (ha : PE X a (tE X.K W (evE G C ea))) (hb : PE X (.BoolOp .Or (b :: rest) pos) (tE X.K W (evE G C eb))) : PE X (.BoolOp .Or (a :: b :: rest) pos) (tE X.K W (evE G C (.or ea eb))) :=
  PE.imp (pe_orT ha hb) fun s H Q h => by
    obtain ⟨r, as, m, hl, hs, hf⟩ := h
    simp only [evE] at hf
    refine tE_of hl hs (R.sat_bind hf) fun r1 m1 d v H1 e k1 hl1 hs1 rd p => ?_
    cases e1 : truD m1 d with
    | none => simp only [e1] at p; exact (show False from p).elim
    | some b =>
      simp only [e1] at p
      refine ⟨b, truD_v hs1 e1 rd, ?_⟩
      cases b with
      | true => rw [if_pos rfl]; exact same hs1 rd (Post.fwd p e k1)
      | false => rw [if_neg Bool.false_ne_true]; exact ⟨r1, as, m1, hl1, hs1, R.fwd p e k1⟩
theorem xe_one {o : BoolOp} {a : Expr} {ea : E} {pos : Pos} (ha : PE X a (tE X.K W (evE G C ea))) : PE X (.BoolOp o [a] pos) (tE X.K W (evE G C ea)) := pe_one ha
theorem xe_ite {t a b : Expr} {et ea eb : E} {pos : Pos} (ht : PT X t (tTt X.K W (evT G C et))) (ha : PE X a (tE X.K W (evE G C ea))) (hb : PE X b (tE X.K W (evE G C eb))) : PE X (.IfExp t a b pos) (tE X.K W (evE G C (.ite et ea eb))) :=
  PE.imp (pe_ifExp ht ha hb) fun s H Q h => by
    obtain ⟨r, as, m, hl, hs, hf⟩ := h
    simp only [evE] at hf
    refine tT_of hl hs (R.sat_bind hf) fun r1 m1 d H1 e k1 hl1 hs1 p => ?_
    cases d with
    | true => rw [if_pos rfl]; exact ⟨r1, as, m1, hl1, hs1, R.fwd p e k1⟩
    | false => rw [if_neg Bool.false_ne_true]; exact ⟨r1, as, m1, hl1, hs1, R.fwd p e k1⟩
theorem tE_chn {K : PySem.W.Frag} {ea eb ec : E} {o o' : CmpOp} {s : St} {H : Hp} {Q : VK} (h : tE K W (evE G C (.chn o o' ea eb ec)) s H Q) : tChain (rD2 K (opCmp o)) (rD2 K (opCmp o')) (tE K W (evE G C ea)) (tE K W (evE G C eb)) (tE K W (evE G C ec)) s H Q := by
  obtain ⟨r, as, m, hl, hs, hf⟩ := h
  simp only [evE] at hf
  refine tE_of hl hs (R.sat_bind hf) fun r1 m1 d v H1 e k1 hl1 hs1 rd p => ?_
  refine tE_of hl1 hs1 (R.sat_bind (R.fwd p e k1)) fun r2 m2 d2 v2 H2 e2 k2 hl2 hs2 rd2 p2 => ?_
  refine ⟨r2, m2, d, d2, hs2, rd.mono e2 k2, rd2, R.sat_mono (R.calm_sat (R.sat_bind (R.fwd p2 e2 k2))) (fun d3 m3 p3 r3 H3 v3 e3 k3 hs3 rd3 => ?_) fun _ _ _ q => q⟩
  cases rd3 with
  | bl b =>
    refine ⟨b, rfl, ?_⟩
    cases b with
    | true =>
      rw [if_pos rfl]
      refine tE_of (hl2.mono e3 k3) hs3 (R.sat_bind (R.fwd p3 e3 k3)) fun r4 m4 d4 v4 H4 e4 k4 hl4 hs4 rd4 p4 => ?_
      exact ⟨r4, m4, d2, d4, hs4, (rd2.mono e3 k3).mono e4 k4, rd4, R.calm_sat (R.fwd p4 e4 k4)⟩
    | false => rw [if_neg Bool.false_ne_true]; exact same hs3 (.bl false) (Post.fwd p3 e3 k3)
  | _ => exact (show False from p3).elim
theorem xe_chn (z : Cz X W k G C) {a b c : Expr} {ea eb ec : E} {pos : Pos} (o o' : CmpOp) (ha : PE X a (tE X.K W (evE G C ea))) (hb : PE X b (tE X.K W (evE G C eb))) (hc : PE X c (tE X.K W (evE G C ec))) (hm : behindInMarks o' c = false) :
    PE X (.Compare a [o, o'] [b, c] pos) (tE X.K W (evE G C (.chn o o' ea eb ec))) :=
  PE.imp (pe_chain (or_cmp z.un o) (or_cmp z.un o') ha hb hc hm) fun s H Q h => tE_chn h
/-! ### argument lists, displays -/
theorem xa_nil : PA X [] (tAr X.K W (evA G C .nil)) := PA.imp pa_nil fun s H Q ⟨r, as, m, hl, hs, hf⟩ => by
  simp only [evA] at hf
  exact hf r H [] (Ext.refl r) (TK.refl H) hs .nil
theorem xa_cons {e : Expr} {es : List Expr} {a b : E} (ha : PE X e (tE X.K W (evE G C a))) (hb : PA X es (tAr X.K W (evA G C b))) (hst : starEach (e :: es) X.env = (false, eval e X.env) :: starEach es X.env) : PA X (e :: es) (tAr X.K W (evA G C (.cons a b))) :=
  PA.imp (pa_cons ha hb hst) fun s H Q ⟨r, as, m, hl, hs, hf⟩ => by
    simp only [evA] at hf
    refine tE_of hl hs (R.sat_bind hf) fun r1 m1 d v H1 e k1 hl1 hs1 rd p => ?_
    refine tA_of hl1 hs1 (R.sat_bind (R.fwdA p e k1)) fun r2 m2 d2 v2 H2 e2 k2 hl2 hs2 rd2 p2 => ?_
    exact p2 r2 H2 (v :: v2) e2 k2 hs2 (.cons (rd.mono e2 k2) rd2)
theorem xe_tup {es : List Expr} {x1 : Nat} {pos : Pos} {a : E} (ha : PA X es (tAr X.K W (evA G C a))) : PE X (.Tuple es x1 pos) (tE X.K W (evE G C (.tup a))) :=
  PE.imp (pe_tup ha) fun s H Q ⟨r, as, m, hl, hs, hf⟩ => by
    simp only [evE] at hf
    refine tA_of hl hs (R.sat_bind hf) fun r1 m1 d v H1 e k1 hl1 hs1 rd p => ?_
    cases e1 : lenOk d.length with
    | false => simp only [e1] at p; exact (show False from p).elim
    | true =>
      simp only [e1] at p
      exact ⟨by rw [← rd.length]; exact lenOk_line e1, fun q hq => newT hs1 rd (Post.fwd p e k1) hq⟩
theorem xe_lst {es : List Expr} {pos : Pos} {a : E} (ha : PA X es (tAr X.K W (evA G C a))) : PE X (.List es pos) (tE X.K W (evE G C (.lst a))) :=
  PE.imp (pe_lst ha) fun s H Q ⟨r, as, m, hl, hs, hf⟩ => by
    simp only [evE] at hf
    refine tA_of hl hs (R.sat_bind hf) fun r1 m1 d v H1 e k1 hl1 hs1 rd p => ?_
    cases e1 : lenOk d.length with
    | false => simp only [e1] at p; exact (show False from p).elim
    | true =>
      simp only [e1] at p
      exact ⟨by rw [← rd.length]; exact lenOk_line e1, fun q hq => newL hs1 rd (show (mkL d m1).sat (Post X.K r1 H1 Q) _ from Post.fwd (r1 := r1) (H1 := H1) p e k1) hq⟩
/-! ### calls -/
theorem call_go (z : Cz X W k G C) {f : Str} {fa : Addr} {fd : FuncData} {ps : List Str} (h3 : Binds X.K fd ps []) (F : FnG X.prog X.w X.K X.mg X.base k fa fd ps (spF X.K (C.call f))) {pins : List (Addr × Obj)} {σ : St} {Q : VK} {us : List Value} {s1 : Shared}
    (hap : AP X pins σ (fun vs H1 => ∃ r1 m1 ds, SR X.K r1 H1 m1 ∧ RDs X.K r1 H1 ds vs ∧ (C.call f ds m1).sat (Post X.K r1 H1 Q) (PostX X.K r1 H1 W σ)) us s1) : wpAny (model X.prog X.w) X.A (call (.ref fa) us) (EP X pins σ Q) X.xe s1 := by
  obtain ⟨vs, H1, I1, rv, r1, m1, ds, hs1, hd1, hc⟩ := hap
  refine wpAny_call (codeAny_mono (run_g (args := ⟨us, []⟩) F z.room z.gd z.tk I1 (fun hlen => ?_) rv hs1 hd1 hc) fun r' s' hq => ?_)
  · have := h3 s1 us I1.kIn (by rw [List.append_nil, ← rv.length]; exact hlen)
    rw [List.append_nil] at this
    exact this
  · cases r' with
    | error e => exact hq
    | ok fl =>
      cases fl with
      | ret u => exact hq
      | next => exact hq
      | brk => exact hq
      | cont => exact hq
theorem xe_call0 (z : Cz X W k G C) {f : Str} {p pos : Pos} (hk : C.kn f = true) (hg : Gl X f) (hd : (f == ("__debug__" : Str)) = false) : PE X (.Call (.Name f p) [] [] pos) (tE X.K W (evE G C (.call f .nil))) := by
  obtain ⟨fa, fd, ps, h1, h2, h3, F⟩ := z.pg.fn f hk
  refine ⟨fun pins s σ H Q I h => ?_⟩
  obtain ⟨r, as, m, hl, hs, hf⟩ := h
  simp only [evE, evA] at hf
  refine wpAny_Call_Name_kw (ld_glob I hg h1 ?_ hd)
  exact PySem.W.callWith_K0 I.kIn h2 (call_go z h3 F ⟨[], H, I, .nil, r, m, [], hs, .nil, hf⟩)
theorem xe_call (z : Cz X W k G C) {f : Str} {e : Expr} {es : List Expr} {p pos : Pos} {a : E} (hk : C.kn f = true) (hg : Gl X f) (hd : (f == ("__debug__" : Str)) = false) (ha : PA X (e :: es) (tAr X.K W (evA G C a)))
    (hst : starEach (e :: es) X.env = (false, eval e X.env) :: starEach es X.env) (hpl : (backTo pos (starEach es X.env)).any (·.1) = false) :
    PE X (.Call (.Name f p) (e :: es) [] pos) (tE X.K W (evE G C (.call f a))) := by
  obtain ⟨fa, fd, ps, h1, h2, h3, F⟩ := z.pg.fn f hk
  refine ⟨fun pins s σ H Q I h => ?_⟩
  obtain ⟨r, as, m, hl, hs, hf⟩ := h
  simp only [evE] at hf
  refine wpAny_Call_Name_kw (ld_glob I hg h1 ?_ hd)
  have args : tAr X.K W (evA G C a) σ H (fun vs H1 => ∃ r1 m1 ds, SR X.K r1 H1 m1 ∧ RDs X.K r1 H1 ds vs ∧ (C.call f ds m1).sat (Post X.K r1 H1 Q) (PostX X.K r1 H1 W σ)) :=
    tA_of hl hs (R.sat_bind hf) fun r1 m1 d v H1 e k1 hl1 hs1 rd p => ⟨r1, m1, d, hs1, rd, R.fwd p e k1⟩
  refine PySem.W.callWith_K (h₀ := X.base) I.ok.mod.kin h2 (thn (ha.run pos pins s σ H _ I args) fun us s1 hap => ⟨?_, call_go z h3 F hap⟩) hst hpl
  obtain ⟨vs, H1, I1, _⟩ := hap
  exact I1.kIn
/-- the names of built-in functions and classes -/
def BI.nm : BI → Str
  | .len => "len" | .abs => "abs" | .repr => "repr" | .isi => "isinstance" | .sum => "sum" | .any => "any" | .all => "all" | .sorted => "sorted" | .min => "min" | .max => "max"
  | .int => "int" | .str => "str" | .list => "list" | .tuple => "tuple"
theorem xe_biF (z : Cz X W k G C) {b : BI} {id : String} {e : Expr} {es : List Expr} {p pos : Pos} {a : E} (hc : CallR X (.builtin id) (rDs X.K (biD G b))) (hv : bootBuiltins b.nm = some (.builtin id)) (hm : X.mg b.nm = none) (hn : b.nm ≠ "__name__") (hdb : (b.nm == ("__debug__" : Str)) = false) (hg : Gl X b.nm) (ha : PA X (e :: es) (tAr X.K W (evA G C a)))
    (hst : starEach (e :: es) X.env = (false, eval e X.env) :: starEach es X.env) (hpl : (backTo pos (starEach es X.env)).any (·.1) = false) :
    PE X (.Call (.Name b.nm p) (e :: es) [] pos) (tE X.K W (evE G C (.bi b a))) :=
  PE.imp (pe_callB hc hg hm hv ha hn hdb hst hpl) fun s H Q ⟨r, as, m, hl, hs, hf⟩ => by
    simp only [evE] at hf
    exact tA_of hl hs (R.sat_bind hf) fun r1 m1 d v H1 e k1 hl1 hs1 rd p => ⟨r1, m1, d, hs1, rd, R.calm_sat (R.fwd p e k1)⟩
theorem xe_biT (z : Cz X W k G C) {b : BI} {id : String} {e : Expr} {es : List Expr} {p pos : Pos} {a : E} (hc : CallR X (.type id) (rDs X.K (biD G b))) (hv : bootBuiltins b.nm = some (.type id)) (hm : X.mg b.nm = none) (hn : b.nm ≠ "__name__") (hdb : (b.nm == ("__debug__" : Str)) = false) (hg : Gl X b.nm) (ha : PA X (e :: es) (tAr X.K W (evA G C a)))
    (hst : starEach (e :: es) X.env = (false, eval e X.env) :: starEach es X.env) (hpl : (backTo pos (starEach es X.env)).any (·.1) = false) :
    PE X (.Call (.Name b.nm p) (e :: es) [] pos) (tE X.K W (evE G C (.bi b a))) :=
  PE.imp (pe_callTy hc hg hm hv ha hn hdb hst hpl) fun s H Q ⟨r, as, m, hl, hs, hf⟩ => by
    simp only [evE] at hf
    exact tA_of hl hs (R.sat_bind hf) fun r1 m1 d v H1 e k1 hl1 hs1 rd p => ⟨r1, m1, d, hs1, rd, R.calm_sat (R.fwd p e k1)⟩
/-! ### tests -/
theorem xt_cmp (z : Cz X W k G C) {a b : Expr} {ea eb : E} {pos : Pos} (o : CmpOp) (ha : PE X a (tE X.K W (evE G C ea))) (hb : PE X b (tE X.K W (evE G C eb))) (hm : behindInMarks o b = false) : PT X (.Compare a [o] [b] pos) (tTt X.K W (evT G C (.cmp o ea eb))) :=
  PT.imp (pt_cmpR (or_cmp z.un o) ha hb hm) fun s H Q ⟨r, as, m, hl, hs, hf⟩ => by
    simp only [evT] at hf
    refine tE_bin (K := X.K) (W := W) (fa := evE G C ea) (fb := evE G C eb) (f := opCmp o) ⟨r, as, m, hl, hs, ?_⟩
    refine R.sat_mono (R.sat_bind hf) (fun d m1 p r1 H1 v e k1 hs1 rd => ?_) fun _ _ _ q => q
    cases rd with
    | bl b => exact ⟨b, rfl, p r1 H1 e k1 hs1⟩
    | _ => exact (show False from p).elim
theorem xt_chn (z : Cz X W k G C) {a b c : Expr} {ea eb ec : E} {pos : Pos} (o o' : CmpOp) (ha : PE X a (tE X.K W (evE G C ea))) (hb : PE X b (tE X.K W (evE G C eb))) (hc : PE X c (tE X.K W (evE G C ec))) (hm : behindInMarks o' c = false) :
    PT X (.Compare a [o, o'] [b, c] pos) (tTt X.K W (evT G C (.chn o o' ea eb ec))) :=
  PT.imp (pt_chain (or_cmp z.un o) (or_cmp z.un o') ha hb hc hm) fun s H Q h => by
    obtain ⟨r, as, m, hl, hs, hf⟩ := h
    simp only [evT] at hf
    refine tE_chn (K := X.K) (W := W) (G := G) (C := C) ⟨r, as, m, hl, hs, ?_⟩
    simp only [evE]
    refine R.sat_mono (R.sat_bind hf) (fun d m1 p r1 H1 v e k1 hs1 rd => ?_) fun _ _ _ q => q
    cases rd with
    | bl b => exact ⟨b, rfl, p r1 H1 e k1 hs1⟩
    | _ => exact (show False from p).elim
theorem xt_val {e : Expr} {ee : E} (h : PE X e (tE X.K W (evE G C ee))) (he : ∀ whole, isTrue e X.env whole = (do let v ← whole; standAt e.pos; holding [v] (truthy v))) : PT X e (tTt X.K W (evT G C (.tst ee))) :=
  PT.imp (pt_truth h he) fun s H Q ⟨r, as, m, hl, hs, hf⟩ => by
    simp only [evT] at hf
    refine tE_of hl hs (R.sat_bind hf) fun r1 m1 d v H1 e k1 hl1 hs1 rd p => ?_
    cases e1 : truD m1 d with
    | none => rw [e1] at p; exact (show False from p).elim
    | some b =>
      rw [e1] at p
      exact ⟨b, truD_v hs1 e1 rd, p r1 H1 e k1 hs1⟩
theorem xt_not {a : Expr} {ea : E} {pos : Pos} (ha : PT X a (tTt X.K W (evT G C ea))) : PT X (.UnaryOp .Not a pos) (tTt X.K W (evT G C (.not ea))) :=
  PT.imp (pt_not ha) fun s H Q ⟨r, as, m, hl, hs, hf⟩ => by
    simp only [evT] at hf
    exact tT_of hl hs (R.sat_bind hf) fun r1 m1 d H1 e k1 hl1 hs1 p => p r1 H1 e k1 hs1
theorem xw_one {o : BoolOp} {a : Expr} {ea : E} {pos : Pos} (ha : PT X a (tTt X.K W (evT G C ea))) : PW X (.BoolOp o [a] pos) (tTt X.K W (evT G C ea)) := by
  cases o with
  | And => exact pw_and1 ha
  | Or => exact pw_or1 ha
theorem xw_and {a b : Expr} {rest : List Expr} {ea eb : E} {pos : Pos} (ha : PT X a (tTt X.K W (evT G C ea))) (hb : PW X (.BoolOp .And (b :: rest) pos) (tTt X.K W (evT G C eb))) : PW X (.BoolOp .And (a :: b :: rest) pos) (tTt X.K W (evT G C (.and ea eb))) :=
  PW.imp (pw_and ha hb) fun s H Q ⟨r, as, m, hl, hs, hf⟩ => by
    simp only [evT] at hf
    refine tT_of hl hs (R.sat_bind hf) fun r1 m1 d H1 e k1 hl1 hs1 p => ?_
    cases d with
    | true => rw [if_pos rfl]; exact ⟨r1, as, m1, hl1, hs1, R.fwdB p e k1⟩
    | false => rw [if_neg Bool.false_ne_true]; exact p r1 H1 e k1 hs1
theorem xw_or {a b : Expr} {rest : List Expr} {ea eb : E} {pos : Pos} (ha : PT X a (tTt X.K W (evT G C ea))) (hb : PW X (.BoolOp .Or (b :: rest) pos) (tTt X.K W (evT G C eb))) : PW X (.BoolOp .Or (a :: b :: rest) pos) (tTt X.K W (evT G C (.or ea eb))) :=
  PW.imp (pw_or ha hb) fun s H Q ⟨r, as, m, hl, hs, hf⟩ => by
    simp only [evT] at hf
    refine tT_of hl hs (R.sat_bind hf) fun r1 m1 d H1 e k1 hl1 hs1 p => ?_
    cases d with
    | true => rw [if_pos rfl]; exact p r1 H1 e k1 hs1
    | false => rw [if_neg Bool.false_ne_true]; exact ⟨r1, as, m1, hl1, hs1, R.fwdB p e k1⟩
end
end Py
namespace Py
open PySem L2

/-! ### what is walked -/
def Sim (K : PySem.W.Frag) (src : Src) (J : It) (r0 : Rho) (H0 : Hp) : Prop := ∀ r H m i, Ext r0 r → TK H0 H → SR K r H m →
  (src.at m i = some none → J.stop i H) ∧ ∀ d, src.at m i = some (some d) → J.go i H ∧ ∀ x H', J.yld i H x H' → TK H H' ∧ SR K r H' m ∧ RD K r H' d x
def tSrc (K : PySem.W.Frag) (W : WX) (f : En → Sto → R Src) : TI := fun s H R' => ∃ r as m, SL K r H s as ∧ SR K r H m ∧ (f as m).sat (fun src m1 => ∀ r1 H1 J, Ext r r1 → TK H H1 → SR K r1 H1 m1 → Sim K src J r1 H1 → R' J H1) (PostX K r H W s)
section
variable {K : PySem.W.Frag} {r : Rho} {H : Hp} {m : Sto}
theorem SR.tupNew {p : Addr} {ys : List V} (s : SR K r H m) (hp : H p = none) : SR K r (upd H p (.tup ys)) m := by
  have k : TK H (upd H p (.tup ys)) := TK.new hp
  refine ⟨fun n o h => ?_, s.inj, s.fresh, s.lt, fun n a h => ?_⟩
  · obtain ⟨a, h1, h2⟩ := s.at_ n o h
    exact ⟨a, h1, h2.keep (Ext.refl r) k fun b x hx _ => by rw [upd_ne (ne_of_none hx hp)]; exact hx⟩
  · obtain ⟨o, ho⟩ := s.dom n a h
    exact ⟨o, by rw [upd_ne (ne_of_none ho hp)]; exact ho⟩
theorem RDs.get_none {ds : List D} {vs : List V} {i : Nat} (h : RDs K r H ds vs) (e : ds[i]? = none) : vs.length ≤ i := by
  rw [← h.length]; exact List.getElem?_eq_none_iff.mp e
theorem sq_inj {a : Addr} {xs ys : List V} (h1 : H a = some (.lst xs)) (h2 : ∀ zs, SqL K H a zs → zs = xs) : True := trivial
theorem sim_list {n : Nat} {a : Addr} (hr : r n = some a) : Sim K (.lst n) (Itl K a) r H := by
  intro r1 H1 m1 i e k s
  have hr1 := e _ _ hr
  refine ⟨fun h => ?_, fun d h => ?_⟩
  · unfold Src.at at h
    cases q : m1.get n with
    | none => simp only [q] at h; cases h
    | some o =>
      cases o with
      | lst xs =>
        simp only [q] at h
        obtain ⟨ys, ea, ra⟩ := s.lst hr1 q
        exact ⟨ys, SqL.of ea, ra.get_none (Option.some.inj h)⟩
      | _ => simp only [q] at h; cases h
  · unfold Src.at at h
    cases q : m1.get n with
    | none => simp only [q] at h; cases h
    | some o =>
      cases o with
      | lst xs =>
        simp only [q] at h
        obtain ⟨ys, ea, ra⟩ := s.lst hr1 q
        obtain ⟨v, hv, rv⟩ := ra.get (Option.some.inj h)
        refine ⟨⟨ys, v, SqL.of ea, hv⟩, fun x H' y => ?_⟩
        obtain ⟨e1, y⟩ := y
        subst e1
        have := y ys (SqL.of ea)
        rw [hv] at this
        cases this
        exact ⟨TK.refl _, s, rv⟩
      | _ => simp only [q] at h; cases h
theorem sim_tup {xs : List D} {ys : List V} {a : Addr} (hq : SqT K H a ys) (hd : RDs K r H xs ys) : Sim K (.tup xs) (Itt K a) r H := by
  intro r1 H1 m1 i e k s
  have hq1 := k.sq hq
  have hd1 := hd.mono e k
  refine ⟨fun h => ?_, fun d h => ?_⟩
  · exact ⟨ys, hq1, hd1.get_none (Option.some.inj h)⟩
  · obtain ⟨v, hv, rv⟩ := hd1.get (Option.some.inj h)
    refine ⟨⟨ys, v, hq1, hv⟩, fun x H' y => ?_⟩
    obtain ⟨e1, y⟩ := y
    subst e1
    have := y ys hq1
    rw [hv] at this
    cases this
    exact ⟨TK.refl _, s, rv⟩
theorem sim_rng {lo : Int} {n : Nat} : Sim K (.rng lo n) (Itr lo n) r H := by
  intro r1 H1 m1 i e k s
  refine ⟨fun h => ?_, fun d h => ?_⟩
  · simp only [Src.at] at h
    cases q : Nat.blt i n with
    | true => rw [q] at h; cases h
    | false =>
      show n ≤ i
      refine Nat.le_of_not_lt fun z => ?_
      rw [show Nat.blt i n = true from Nat.ble_eq_true_of_le z] at q
      cases q
  · simp only [Src.at] at h
    cases q : Nat.blt i n with
    | false => rw [q] at h; cases h
    | true =>
      rw [q] at h
      have hd : d = .int (lo + (i : Int)) := (Option.some.inj (Option.some.inj h)).symm
      subst hd
      refine ⟨Nat.le_of_ble_eq_true q, fun x H' y => ?_⟩
      obtain ⟨e1, e2⟩ := y
      subst e1 e2
      exact ⟨TK.refl _, s, .int _⟩
theorem sim_enL {n : Nat} {a : Addr} (hr : r n = some a) : Sim K (.enL n) (Ite K a) r H := by
  intro r1 H1 m1 i e k s
  have hr1 := e _ _ hr
  refine ⟨fun h => ?_, fun d h => ?_⟩
  · unfold Src.at at h
    cases q : m1.get n with
    | none => simp only [q] at h; cases h
    | some o =>
      cases o with
      | lst xs =>
        simp only [q] at h
        obtain ⟨ys, ea, ra⟩ := s.lst hr1 q
        cases z : xs[i]? with
        | none => exact ⟨ys, SqL.of ea, ra.get_none z⟩
        | some x => simp only [z] at h; cases h
      | _ => simp only [q] at h; cases h
  · unfold Src.at at h
    cases q : m1.get n with
    | none => simp only [q] at h; cases h
    | some o =>
      cases o with
      | lst xs =>
        simp only [q] at h
        obtain ⟨ys, ea, ra⟩ := s.lst hr1 q
        cases z : xs[i]? with
        | none => simp only [z] at h; cases h
        | some x =>
          simp only [z] at h
          cases h
          obtain ⟨v, hv, rv⟩ := ra.get z
          refine ⟨⟨ys, v, SqL.of ea, hv⟩, fun y H' hy => ?_⟩
          obtain ⟨T, w, rfl, hT, rfl, hw⟩ := hy
          have := hw ys (SqL.of ea)
          rw [hv] at this
          cases this
          have kk : TK H1 (upd H1 T (.tup [.int (i : Nat), v])) := TK.new hT
          exact ⟨kk, s.tupNew hT, .tup (SqT.of upd_same) (.cons (.int _) (.cons (rv.mono (Ext.refl _) kk) .nil))⟩
      | _ => simp only [q] at h; cases h
theorem sim_zLL {n n' : Nat} {a b : Addr} (hr : r n = some a) (hr' : r n' = some b) : Sim K (.zLL n n') (Itz K a b) r H := by
  intro r1 H1 m1 i e k s
  have hr1 := e _ _ hr
  have hr2 := e _ _ hr'
  have key : ∀ {z : Option D}, Src.at (.zLL n n') m1 i = some z → ∃ xs ys vs ws, m1.get n = some (.lst xs) ∧ m1.get n' = some (.lst ys) ∧ H1 a = some (.lst vs) ∧ H1 b = some (.lst ws) ∧ RDs K r1 H1 xs vs ∧ RDs K r1 H1 ys ws ∧ z = (match xs[i]?, ys[i]? with | some x, some y => some (.tup [x, y]) | _, _ => none) := by
    intro z h
    unfold Src.at at h
    cases q : m1.get n with
    | none => simp only [q] at h; cases h
    | some o =>
      cases q' : m1.get n' with
      | none => cases o <;> (simp only [q, q'] at h; cases h)
      | some o' =>
        cases o with
        | lst xs =>
          cases o' with
          | lst ys =>
            simp only [q, q'] at h
            obtain ⟨vs, ea, ra⟩ := s.lst hr1 q
            obtain ⟨ws, eb, rb⟩ := s.lst hr2 q'
            exact ⟨xs, ys, vs, ws, rfl, rfl, ea, eb, ra, rb, (Option.some.inj h).symm⟩
          | _ => simp only [q, q'] at h; cases h
        | _ => simp only [q, q'] at h; cases h
  refine ⟨fun h => ?_, fun d h => ?_⟩
  · obtain ⟨xs, ys, vs, ws, g1, g2, ea, eb, ra, rb, hz⟩ := key h
    cases z1 : xs[i]? with
    | none => exact ⟨vs, ws, SqL.of ea, SqL.of eb, .inl (ra.get_none z1)⟩
    | some x =>
      cases z2 : ys[i]? with
      | none => exact ⟨vs, ws, SqL.of ea, SqL.of eb, .inr (rb.get_none z2)⟩
      | some y => simp only [z1, z2] at hz; cases hz
  · obtain ⟨xs, ys, vs, ws, g1, g2, ea, eb, ra, rb, hz⟩ := key h
    cases z1 : xs[i]? with
    | none => simp only [z1] at hz; cases hz
    | some x =>
      cases z2 : ys[i]? with
      | none => simp only [z1, z2] at hz; cases hz
      | some y =>
        simp only [z1, z2] at hz
        cases hz
        obtain ⟨v, hv, rv⟩ := ra.get z1
        obtain ⟨w, hw, rw'⟩ := rb.get z2
        refine ⟨⟨vs, ws, v, w, SqL.of ea, SqL.of eb, hv, hw⟩, fun u H' hy => ?_⟩
        obtain ⟨T, v', w', rfl, hT, rfl, h1, h2⟩ := hy
        have e1 := h1 vs (SqL.of ea)
        have e2 := h2 ws (SqL.of eb)
        rw [hv] at e1
        rw [hw] at e2
        cases e1
        cases e2
        have kk : TK H1 (upd H1 T (.tup [v, w])) := TK.new hT
        exact ⟨kk, s.tupNew hT, .tup (SqT.of upd_same) (.cons (rv.mono (Ext.refl _) kk) (.cons (rw'.mono (Ext.refl _) kk) .nil))⟩
theorem sim_zTT {xs ys : List D} {vs ws : List V} {a b : Addr} (ha : SqT K H a vs) (hb : SqT K H b ws) (da : RDs K r H xs vs) (db : RDs K r H ys ws) : Sim K (.zTT xs ys) (RZ.ItzT K a b) r H := by
  intro r1 H1 m1 i e k s
  have ea := k.sq ha
  have eb := k.sq hb
  have ra := da.mono e k
  have rb := db.mono e k
  refine ⟨fun h => ?_, fun d h => ?_⟩
  · have hz := Option.some.inj h
    cases z1 : xs[i]? with
    | none => exact ⟨vs, ws, ea, eb, .inl (ra.get_none z1)⟩
    | some x =>
      cases z2 : ys[i]? with
      | none => exact ⟨vs, ws, ea, eb, .inr (rb.get_none z2)⟩
      | some y => simp only [z1, z2] at hz; cases hz
  · have hz := Option.some.inj h
    cases z1 : xs[i]? with
    | none => simp only [z1] at hz; cases hz
    | some x =>
      cases z2 : ys[i]? with
      | none => simp only [z1, z2] at hz; cases hz
      | some y =>
        simp only [z1, z2] at hz
        cases hz
        obtain ⟨v, hv, rv⟩ := ra.get z1
        obtain ⟨w, hw, rw'⟩ := rb.get z2
        refine ⟨⟨vs, ws, v, w, ea, eb, hv, hw⟩, fun u H' hy => ?_⟩
        obtain ⟨T, v', w', rfl, hT, rfl, h1, h2⟩ := hy
        have e1 := h1 vs ea
        have e2 := h2 ws eb
        rw [hv] at e1
        rw [hw] at e2
        cases e1
        cases e2
        have kk : TK H1 (upd H1 T (.tup [v, w])) := TK.new hT
        exact ⟨kk, s.tupNew hT, .tup (SqT.of upd_same) (.cons (rv.mono (Ext.refl _) kk) (.cons (rw'.mono (Ext.refl _) kk) .nil))⟩
end
section
variable {X : Cx} {W : WX} {k : Nat} {G : Gb} {C : Cf} {tg : Expr}
theorem it_list {pins : List (Addr × Obj)} {σ : St} {H : Hp} {s : Shared} {R' : It → Hp → Prop} {a : Addr} {xs : List V} (I : Inv X pins σ H s) (hq : SqL X.K H a xs) (q : R' (Itl X.K a) H) :
    wpAny (model X.prog X.w) X.A (pyIter (.ref a)) (PIE X pins σ tg R') X.xe s := by
  obtain ⟨its, rv, p, hz⟩ := I.list hq
  refine wpAny_pyIter_list p.isList ?_
  have kp : ∀ (o : Obj) (b : Addr) (u : Obj), s.heap.get? b = some u → (s.heap.push o).get? b = some u := fun o b u e => Heap.get?_push_of_some _ e
  refine ⟨_, [s.heap.objs.size], _, _, H, rfl, I.kept (t' := s.toks) (kp _), turn_list a _, ⟨_, Heap.get?_push_size _ rfl, rfl, rfl⟩, fun b hb => ?_, q⟩
  obtain rfl : b = s.heap.objs.size := by simpa using hb
  exact I.fpOk (Nat.le_refl _) (I.hok.fresh (Nat.le_refl _))
theorem it_tup {pins : List (Addr × Obj)} {σ : St} {H : Hp} {s : Shared} {R' : It → Hp → Prop} {a : Addr} {xs : List V} (I : Inv X pins σ H s) (hq : SqT X.K H a xs) (q : R' (Itt X.K a) H) :
    wpAny (model X.prog X.w) X.A (pyIter (.ref a)) (PIE X pins σ tg R') X.xe s := by
  obtain ⟨its, rv, p, hz⟩ := I.tuple hq
  refine wpAny_pyIter_tuple (show s.heap.IsTuple a its.toArray from p) ?_
  have kp : ∀ (o : Obj) (b : Addr) (u : Obj), s.heap.get? b = some u → (s.heap.push o).get? b = some u := fun o b u e => Heap.get?_push_of_some _ e
  refine ⟨_, [s.heap.objs.size], _, _, H, rfl, I.kept (t' := s.toks) (kp _), turn_tuple a _, ⟨_, Heap.get?_push_size _ rfl, rfl, rfl⟩, fun b hb => ?_, q⟩
  obtain rfl : b = s.heap.objs.size := by simpa using hb
  exact I.fpOk (Nat.le_refl _) (I.hok.fresh (Nat.le_refl _))
theorem xs_ex {l : Expr} {a : E} (ha : PE X l (tE X.K W (evE G C a))) : PI X tg l (tSrc X.K W (evSrc G C (.sEx a))) := by
  refine ⟨fun pins s σ H R' I h => ?_⟩
  obtain ⟨r, as, m, hl, hs, hf⟩ := h
  simp only [evSrc] at hf
  have h1 : tE X.K W (evE G C a) σ H (fun x H1 => (∃ a xs, x = .ref a ∧ SqL X.K H1 a xs ∧ R' (Itl X.K a) H1) ∨ ∃ a xs, x = .ref a ∧ SqT X.K H1 a xs ∧ R' (Itt X.K a) H1) := by
    refine tE_of hl hs (R.sat_bind hf) fun r1 m1 d v H1 e k1 hl1 hs1 rd p => ?_
    cases rd with
    | @tup b xs ys sa ra => exact .inr ⟨b, ys, rfl, sa, p r1 H1 _ e k1 hs1 (sim_tup sa ra)⟩
    | @ref n b hb =>
      dsimp only at p
      cases q : m1.get n with
      | none => simp only [q] at p; exact (show False from p).elim
      | some o =>
        cases o with
        | lst xs =>
          simp only [q] at p
          obtain ⟨ys, ea, ra⟩ := hs1.lst hb q
          exact .inl ⟨b, ys, rfl, SqL.of ea, p r1 H1 _ e k1 hs1 (sim_list hb)⟩
        | _ => simp only [q] at p; exact (show False from p).elim
    | _ => exact (show False from p).elim
  refine thn (ha.run pins s σ H _ I h1) fun v s1 ⟨x, H1, I1, r1, q1⟩ => ?_
  rcases q1 with ⟨b, xs, rfl, hq, q⟩ | ⟨b, xs, rfl, hq, q⟩
  · cases r1
    exact it_list I1 hq q
  · cases r1
    exact it_tup I1 hq q
theorem PI.imp {l : Expr} {t t' : TI} (h : PI X tg l t) (i : ∀ s H Q, t' s H Q → t s H Q) : PI X tg l t' := ⟨fun p s q H Q I z => h.run p s q H Q I (i _ _ _ z)⟩
theorem xs_r1 {a : Expr} {ea : E} {p pos : Pos} (hg : Gl X "range") (hm : X.mg "range" = none) (ha : PE X a (tE X.K W (evE G C ea))) (hst : starEach [a] X.env = [(false, eval a X.env)]) (hst0 : starEach [a] X.env = (false, eval a X.env) :: starEach [] X.env) :
    PI X tg (.Call (.Name "range" p) [a] [] pos) (tSrc X.K W (evSrc G C (.sR1 ea))) :=
  PI.imp (pi_range1 hg hm (pa_cons ha pa_nil hst0) hst) fun s H R' ⟨r, as, m, hl, hs, hf⟩ => by
    simp only [evSrc] at hf
    refine tE_of hl hs (R.sat_bind hf) fun r1 m1 d v H1 e k1 hl1 hs1 rd p => ?_
    cases rd with
    | int i =>
      dsimp only at p
      cases e1 : decide (-(2 ^ 62) ≤ i) with
      | false => simp only [e1] at p; exact (show False from p).elim
      | true =>
        cases e2 : decide (i < 2 ^ 62) with
        | false => simp only [e1, e2] at p; exact (show False from p).elim
        | true =>
          simp only [e1, e2] at p
          exact ⟨i, rfl, of_decide_eq_true e1, of_decide_eq_true e2, p r1 H1 _ e k1 hs1 sim_rng⟩
    | _ => exact (show False from p).elim
theorem xs_r2 {a b : Expr} {ea eb : E} {p pos : Pos} (hg : Gl X "range") (hm : X.mg "range" = none) (ha : PE X a (tE X.K W (evE G C ea))) (hb : PE X b (tE X.K W (evE G C eb))) (hst : starEach [a, b] X.env = [(false, eval a X.env), (false, eval b X.env)]) (hst2 : starEach [b] X.env = [(false, eval b X.env)])
    (h1 : starEach [a, b] X.env = (false, eval a X.env) :: starEach [b] X.env) (h2 : starEach [b] X.env = (false, eval b X.env) :: starEach [] X.env) :
    PI X tg (.Call (.Name "range" p) [a, b] [] pos) (tSrc X.K W (evSrc G C (.sR2 ea eb))) :=
  PI.imp (pi_range2 hg hm (pa_cons ha (pa_cons hb pa_nil h2) h1) hst hst2) fun s H R' ⟨r, as, m, hl, hs, hf⟩ => by
    simp only [evSrc] at hf
    refine tE_of hl hs (R.sat_bind hf) fun r1 m1 d v H1 e k1 hl1 hs1 rd p => ?_
    have fw : ((evE G C eb as m1).bind fun y m2 => match d, y with
      | .int i, .int j => match decide (-(2 ^ 62) ≤ i), decide (i < 2 ^ 62), decide (-(2 ^ 62) ≤ j), decide (j < 2 ^ 62) with
        | true, true, true, true => R.ok (Src.rng i (j - i).toNat) m2
        | _, _, _, _ => .bad
      | _, _ => .bad).sat (fun src m1 => ∀ r2 H2 J, Ext r1 r2 → TK H1 H2 → SR X.K r2 H2 m1 → Sim X.K src J r2 H2 → R' J H2) (PostX X.K r1 H1 W s) :=
      R.sat_mono p (fun src m2 q r2 H2 J a b c d => q r2 H2 J (e.trans a) (k1.trans b) c d) fun _ _ _ q => PostX.fwd q e k1
    refine tE_of hl1 hs1 (R.sat_bind fw) fun r2 m2 d2 v2 H2 e2 k2 hl2 hs2 rd2 p2 => ?_
    cases rd with
    | int i =>
      cases rd2 with
      | int j =>
        dsimp only at p2
        split at p2
        · rename_i e1 e2' e3 e4
          exact ⟨i, j, rfl, ⟨of_decide_eq_true e1, of_decide_eq_true e2', of_decide_eq_true e3, of_decide_eq_true e4⟩, p2 r2 H2 _ e2 k2 hs2 sim_rng⟩
        · exact (show False from p2).elim
      | _ => exact (show False from p2).elim
    | _ => cases rd2 <;> exact (show False from p2).elim
end
end Py
namespace Py
open PySem L2

/-! ### targets -/
/-- the slots that a target fills -/
def tSl : E → List Nat
  | .tNm i => [i]
  | .tTp a => tSl a
  | .cons a r => tSl a ++ tSl r
  | _ => []
def SameBut (sl : List Nat) (s s' : St) : Prop := s'.length = s.length ∧ ∀ j, j ∉ sl → s'[j]? = s[j]?
theorem SameBut.refl (sl : List Nat) (s : St) : SameBut sl s s := ⟨rfl, fun _ _ => rfl⟩
theorem SameBut.trans {sl sl' : List Nat} {s s1 s2 : St} (a : SameBut sl s s1) (b : SameBut sl' s1 s2) : SameBut (sl ++ sl') s s2 :=
  ⟨b.1.trans a.1, fun j hj => (b.2 j fun z => hj (List.mem_append_right _ z)).trans (a.2 j fun z => hj (List.mem_append_left _ z))⟩
def tG (K : PySem.W.Frag) (sl : List Nat) (f : D → En → Sto → R En) : TG := fun v s H Q => ∃ r as m d, SL K r H s as ∧ SR K r H m ∧ RD K r H d v ∧
  (f d as m).sat (fun as1 m1 => ∀ r1 s1 H1, Ext r r1 → TK H H1 → SL K r1 H1 s1 as1 → SR K r1 H1 m1 → SameBut sl s s1 → Q s1 H1) (fun _ _ _ => False)
def tGs (K : PySem.W.Frag) (sl : List Nat) (f : List D → En → Sto → R En) : TGs := fun vs s H Q => ∃ r as m ds, SL K r H s as ∧ SR K r H m ∧ RDs K r H ds vs ∧
  (f ds as m).sat (fun as1 m1 => ∀ r1 s1 H1, Ext r r1 → TK H H1 → SL K r1 H1 s1 as1 → SR K r1 H1 m1 → SameBut sl s s1 → Q s1 H1) (fun _ _ _ => False)
section
variable {X : Cx} {W : WX} {k : Nat} {G : Gb} {C : Cf}
theorem PG.imp {e : Expr} {t t' : TG} (h : PG X e t) (i : ∀ v s H Q, t' v s H Q → t v s H Q) : PG X e t' := ⟨fun p s q H v u Q I r z => h.run p s q H v u Q I r (i _ _ _ _ z)⟩
theorem PGs.imp {e : List Expr} {t t' : TGs} (h : PGs X e t) (i : ∀ v s H Q, t' v s H Q → t v s H Q) : PGs X e t' := ⟨fun p s q H v u Q I r z => h.run p s q H v u Q I r (i _ _ _ _ z)⟩
theorem xg_name {i : Nat} {x : Str} {pos : Pos} (hN : X.N.Nodup) (hi : X.N[i]? = some x) (hx : Loc X.env.scope x) (hf : X.fn x = true ∨ X.env.scope.names.lookup x = some .local) : PG X (.Name x pos) (tG X.K [i] (evTg G C (.tNm i))) :=
  PG.imp (pg_name hN hi hx hf) fun v s H Q ⟨r, as, m, d, hl, hs, hd, hq⟩ => by
    simp only [evTg] at hq
    refine hq r _ H (Ext.refl r) (TK.refl H) (hl.set hd i) hs ⟨List.length_set, fun j hj => ?_⟩
    exact List.getElem?_set_ne (fun z => hj (by simp [z]))
theorem xgs_nil : PGs X [] (tGs X.K [] (evTgs G C .nil)) := PGs.imp pgs_nil fun v s H Q ⟨r, as, m, d, hl, hs, hd, hq⟩ => by
  cases d with
  | nil =>
    cases hd
    simp only [evTgs] at hq
    exact ⟨rfl, hq r s H (Ext.refl r) (TK.refl H) hl hs (SameBut.refl _ _)⟩
  | cons a b => simp only [evTgs] at hq; exact (show False from hq).elim
theorem xgs_cons {e : Expr} {es : List Expr} {a b : E} (ha : PG X e (tG X.K (tSl a) (evTg G C a))) (hb : PGs X es (tGs X.K (tSl b) (evTgs G C b))) (hst : (assignEach (e :: es) X.env).map (·.2) = assign e X.env :: (assignEach es X.env).map (·.2)) :
    PGs X (e :: es) (tGs X.K (tSl (.cons a b)) (evTgs G C (.cons a b))) := PGs.imp (pgs_cons ha hb hst) fun v s H Q ⟨r, as, m, d, hl, hs, hd, hq⟩ => by
  cases hd with
  | nil => simp only [evTgs] at hq; exact (show False from hq).elim
  | @cons dx ds vx vs x y =>
    simp only [evTgs] at hq
    refine ⟨vx, vs, rfl, r, as, m, dx, hl, hs, x, R.sat_mono (R.sat_bind hq) (fun as1 m1 p r1 s1 H1 e1 k1 hl1 hs1 sb1 => ?_) fun _ _ _ z => z⟩
    refine ⟨r1, as1, m1, ds, hl1, hs1, y.mono e1 k1, R.sat_mono p (fun as2 m2 p2 r2 s2 H2 e2 k2 hl2 hs2 sb2 => ?_) fun _ _ _ z => z⟩
    exact p2 r2 s2 H2 (e1.trans e2) (k1.trans k2) hl2 hs2 (sb1.trans sb2)
theorem evTgs_len {G : Gb} {C : Cf} : ∀ {a : E} {n : Nat} {ds : List D} {as : En} {m : Sto} {P : En → Sto → Prop}, (∀ {b : E}, b = a → True) → True := fun _ => trivial
/-- how many targets -/
def tLen : E → Nat
  | .cons _ r => tLen r + 1
  | _ => 0
theorem evTgs_lenOk {a : E} {P : En → Sto → Prop} {E' : Str → List (Str × D) → Sto → Prop} : ∀ {ds : List D} {as : En} {m : Sto}, (evTgs G C a ds as m).sat P (fun _ _ _ => False) → ds.length = tLen a := by
  induction a with
  | nil =>
    intro ds as m h
    cases ds with
    | nil => rfl
    | cons x y => simp only [evTgs] at h; exact (show False from h).elim
  | cons a b _ ih =>
    intro ds as m h
    cases ds with
    | nil => simp only [evTgs] at h; exact (show False from h).elim
    | cons x y =>
      simp only [evTgs] at h
      have h1 := R.sat_bind h
      revert h1
      cases evTg G C a x as m with
      | ok as1 m1 => intro h1; show y.length + 1 = tLen b + 1; rw [ih h1]
      | exc _ _ _ => intro h1; exact (show False from h1).elim
      | bad => intro h1; exact (show False from h1).elim
  | _ => intro ds as m h; cases ds <;> (simp only [evTgs] at h; exact (show False from h).elim)
theorem xg_tup {es : List Expr} {kk : Nat} {pos : Pos} {a : E} (hc : X.calm = true) (h : PGs X es (tGs X.K (tSl a) (evTgs G C a))) (hn : (assignEach es X.env).length = tLen a) (hst : (assignEach es X.env).findIdx? (·.1) = none) :
    PG X (.Tuple es kk pos) (tG X.K (tSl (.tTp a)) (evTg G C (.tTp a))) := PG.imp (pg_tup hc h hn hst) fun v s H Q ⟨r, as, m, d, hl, hs, hd, hq⟩ => by
  cases hd with
  | @tup b xs ys sa ra =>
    simp only [evTg] at hq
    refine ⟨b, ys, rfl, sa, ?_, r, as, m, xs, hl, hs, ra, hq⟩
    rw [← ra.length]
    exact evTgs_lenOk (E' := fun _ _ _ => False) hq
  | _ => simp only [evTg] at hq; exact (show False from hq).elim
theorem calm_bind {α β : Type} {x : R α} {f : α → Sto → R β} {P : β → Sto → Prop} {E1 E2 : Str → List (Str × D) → Sto → Prop} (h : (x.calm.bind f).sat P E1) : x.sat (fun a m => (f a m).sat P E1) E2 := by
  cases x with
  | ok a m => exact h
  | exc c fs m => exact (show False from h).elim
  | bad => exact h
theorem xg_ix (z : Cz X W k G C) {o i : Expr} {ea eb : E} {pos : Pos} (ha : PE X o (tE X.K W (evE G C ea))) (hb : PE X i (tE X.K W (evE G C eb)))
    (hp : ∀ v, assign (.Subscript o i pos) X.env v = (do
      let ov ← holding [v] (eval o X.env)
      let iv ← holding [v, ov] (eval i X.env)
      standAt pos
      holding [v, ov, iv] (setItem ov iv v)
      release [v, ov, iv] [])) : PG X (.Subscript o i pos) (tG X.K (tSl (.tIx ea eb)) (evTg G C (.tIx ea eb))) :=
  PG.imp (pg_sub ha hb (or_set (by have := z.un; omega)) hp) fun v s H Q ⟨r, as, m, d, hl, hs, hd, hq⟩ => by
    simp only [evTg] at hq
    refine tE_of hl hs (calm_bind hq) fun r1 m1 d1 v1 H1 e1 k1 hl1 hs1 rd1 p1 => ?_
    refine tE_of hl1 hs1 (calm_bind p1) fun r2 m2 d2 v2 H2 e2 k2 hl2 hs2 rd2 p2 => ?_
    refine ⟨r2, m2, d1, d2, d, hs2, rd1.mono e2 k2, rd2, (hd.mono e1 k1).mono e2 k2, R.sat_mono (calm_bind p2) (fun d3 m3 p3 r3 H3 v3 e3 k3 hs3 rd3 => ?_) fun _ _ _ z => z⟩
    exact p3 r3 s H3 ((e1.trans e2).trans e3) ((k1.trans k2).trans k3) (hl2.mono e3 k3) hs3 (SameBut.refl _ _)

/-! ### comprehensions -/
theorem SL.wipe {K : PySem.W.Frag} {r : Rho} {H : Hp} {s : St} {as : En} (h : SL K r H s as) : ∀ vs : List Nat, SL K r H (wipe s vs) (wipeE as vs)
  | [] => h
  | v :: vs => SL.setNone v (SL.wipe h vs)
theorem wipe_eq {s s' : St} {sl vs : List Nat} (h : SameBut sl s s') (hs : ∀ i ∈ sl, i ∈ vs) : wipe s' vs = wipe s vs := by
  apply List.ext_getElem?
  intro i
  by_cases hi : i ∈ vs
  · have a : ∀ t : St, i < t.length → (wipe t vs)[i]? = some none := by
      intro t ht
      have hl : i < (wipe t vs).length := by rw [wipe_length]; exact ht
      cases e : (wipe t vs)[i]? with
      | none => rw [List.getElem?_eq_none_iff] at e; omega
      | some o =>
        cases o with
        | none => rfl
        | some v => exact absurd hi (wipe_some e).2
    by_cases hl : i < s.length
    · rw [a s hl, a s' (by rw [h.1]; exact hl)]
    · rw [List.getElem?_eq_none (by rw [wipe_length, h.1]; omega), List.getElem?_eq_none (by rw [wipe_length]; omega)]
  · rw [wipe_out hi, wipe_out hi]
    exact h.2 i fun z => hi (hs i z)
theorem wipe_wipe {s : St} {vs : List Nat} : wipe (wipe s vs) vs = wipe s vs := by
  apply List.ext_getElem?
  intro i
  by_cases hi : i ∈ vs
  · have a : ∀ t : St, i < t.length → (wipe t vs)[i]? = some none := by
      intro t ht
      have hl : i < (wipe t vs).length := by rw [wipe_length]; exact ht
      cases e : (wipe t vs)[i]? with
      | none => rw [List.getElem?_eq_none_iff] at e; omega
      | some o =>
        cases o with
        | none => rfl
        | some v => exact absurd hi (wipe_some e).2
    by_cases hl : i < s.length
    · rw [a s hl, a _ (by rw [wipe_length]; exact hl)]
    · rw [List.getElem?_eq_none (by rw [wipe_length, wipe_length]; omega), List.getElem?_eq_none (by rw [wipe_length]; omega)]
  · rw [wipe_out hi]
theorem putO_bind {β : Type} {n : Nat} {o : O} {m : Sto} {f : D → Sto → R β} {P : β → Sto → Prop} {E1 : Str → List (Str × D) → Sto → Prop} (h : ((putO n o m).bind f).sat P E1) : (f .non (m.set n o)).sat P E1 := by
  unfold putO at h
  cases e : Nat.ble m.ro n with
  | true => rw [e] at h; exact h
  | false => rw [e] at h; exact (show False from h).elim
theorem tE_lc {K : PySem.W.Frag} {t s0 c e : E} {ws : List Nat} {s : St} {H : Hp} {Q : VK} (hsl : ∀ i ∈ tSl t, i ∈ ws) (h : tE K W (evE G C (.cmpr t s0 c e ws)) s H Q) :
    tLc (tSrc K W (evSrc G C s0)) (tG K (tSl t) (evTg G C t)) (tTt K (fun _ _ _ _ => False) (evT G C c)) (tE K (fun _ _ _ _ => False) (evE G C e)) ws s H Q := by
  obtain ⟨r, as, m, hl, hs, hf⟩ := h
  simp only [evE] at hf
  refine ⟨r, as, m, hl, hs, R.sat_mono (R.sat_bind hf) (fun src m1 p r1 H1 J e1 k1 hs1 sim D0 hD => ?_) fun _ _ _ q => q⟩
  have hx : Ext r1 (rput r1 m1.nx D0) := rput_ext (hs1.fresh _ (Nat.le_refl _))
  have kx : TK H1 (upd H1 D0 (.lst [])) := TK.new hD
  refine ⟨fun i n H' => ∃ r2 m2, Ext (rput r1 m1.nx D0) r2 ∧ TK (upd H1 D0 (.lst [])) H' ∧ SR K r2 H' m2 ∧
    (cmpLoop src (evTg G C t) (evT G C c) (evE G C e) (wipeE as ws) m1.nx n i m2).sat (Post K r2 H' Q) (PostX K r2 H' W s), ⟨src.most m1, rput r1 m1.nx D0, m1.new (.lst []), Ext.refl _, TK.refl _, hs1.new (o := .lst []) hD ⟨[], upd_same, .nil⟩, ?_⟩, fun i n H' hw => ?_⟩
  · exact R.fwd p (e1.trans hx) (k1.trans kx)
  · obtain ⟨r2, m2, e2, k2, hs2, hq⟩ := hw
    have hn : r2 m1.nx = some D0 := e2 _ _ rput_same
    cases n with
    | zero => simp only [cmpLoop] at hq; exact (show False from hq).elim
    | succ n =>
      unfold cmpLoop at hq
      obtain ⟨st, go⟩ := sim r2 H' m2 i (hx.trans e2) (kx.trans k2) hs2
      cases q : src.at m2 i with
      | none => simp only [q] at hq; exact (show False from hq).elim
      | some o =>
        cases o with
        | none =>
          simp only [q] at hq
          exact .inl ⟨st q, same hs2 (.ref hn) hq⟩
        | some d =>
          simp only [q] at hq
          obtain ⟨g1, g2⟩ := go d q
          refine .inr ⟨g1, fun H6 => ∃ r3 m3, Ext (rput r1 m1.nx D0) r3 ∧ TK (upd H1 D0 (.lst [])) H6 ∧ SR K r3 H6 m3 ∧
            (cmpLoop src (evTg G C t) (evT G C c) (evE G C e) (wipeE as ws) m1.nx n (i + 1) m3).sat (Post K r3 H6 Q) (PostX K r3 H6 W s), fun H6 z => ⟨n, Nat.lt_succ_self n, z⟩, fun x H3 hy => ?_⟩
          obtain ⟨k3, hs3, rd3⟩ := g2 x H3 hy
          have hl3 : SL K r2 H3 (wipe s ws) (wipeE as ws) := (hl.mono (e1.trans (hx.trans e2)) ((k1.trans (kx.trans k2)).trans k3)).wipe ws
          have hq := R.fwd hq (Ext.refl r2) k3
          refine ⟨r2, wipeE as ws, m2, d, hl3, hs3, rd3, R.sat_mono (calm_bind hq) (fun as4 m4 p4 r4 s4 H4 e4 k4 hl4 hs4 sb4 => ?_) fun _ _ _ z => z⟩
          refine ⟨(wipe_eq sb4 hsl).trans wipe_wipe, ?_⟩
          have p4 := R.fwd p4 e4 k4
          refine tT_of hl4 hs4 (calm_bind p4) fun r5 m5 b H5 e5 k5 hl5 hs5 p5 => ?_
          have p5 := R.fwd p5 e5 k5
          cases b with
          | false =>
            rw [if_neg Bool.false_ne_true]
            exact ⟨r5, m5, (e2.trans e4).trans e5, ((k2.trans k3).trans k4).trans k5, hs5, p5⟩
          | true =>
            rw [if_pos rfl]
            refine tE_of hl5 hs5 (calm_bind p5) fun r6 m6 y v6 H6 e6 k6 hl6 hs6 rd6 p6 => ?_
            have p6 := R.fwd p6 e6 k6
            have hn6 : r6 m1.nx = some D0 := e6 _ _ (e5 _ _ (e4 _ _ hn))
            cases e7 : m6.get m1.nx with
            | none => simp only [e7] at p6; exact (show False from p6).elim
            | some ob =>
              cases ob with
              | lst acc =>
                simp only [e7] at p6
                cases e8 : lenOk acc.length with
                | false => simp only [e8] at p6; exact (show False from p6).elim
                | true =>
                  simp only [e8] at p6
                  obtain ⟨ys, ea, ra⟩ := hs6.lst hn6 e7
                  have mu : Mut (H6 D0) := by rw [ea]; exact True.intro
                  have kk : TK H6 (upd H6 D0 (.lst (ys ++ [v6]))) := TK.mut mu
                  refine ⟨ys, ea, by rw [← ra.length]; exact lenOk_lt e8, r6, m6.set m1.nx (.lst (acc ++ [y])), ((e2.trans e4).trans e5).trans e6, ((((k2.trans k3).trans k4).trans k5).trans k6).trans kk, ?_, ?_⟩
                  · exact hs6.set e7 hn6 mu ⟨_, upd_same, (ra.mono (Ext.refl _) kk).append (.cons (rd6.mono (Ext.refl _) kk) .nil)⟩
                  · exact R.fwd (putO_bind p6) (Ext.refl _) kk
              | _ => simp only [e7] at p6; exact (show False from p6).elim
end
end Py
namespace Py
open PySem L2

/-! ### statements -/
def RS.sat (K : PySem.W.Frag) (r : Rho) (H : Hp) (N : Ends) (W : WX) : RS → Prop
  | .nx as m => ∀ r1 s1 H1, Ext r r1 → TK H H1 → SL K r1 H1 s1 as → SR K r1 H1 m → N.nx s1 H1
  | .rt d m => ∀ r1 H1 v, Ext r r1 → TK H H1 → SR K r1 H1 m → RD K r1 H1 d v → N.rt v H1
  | .bk as m => ∀ r1 s1 H1, Ext r r1 → TK H H1 → SL K r1 H1 s1 as → SR K r1 H1 m → N.bk s1 H1
  | .ct as m => ∀ r1 s1 H1, Ext r r1 → TK H H1 → SL K r1 H1 s1 as → SR K r1 H1 m → N.ct s1 H1
  | .exc c fs as m => ∀ r1 s1 H1 dx ys, Ext r r1 → TK H H1 → SL K r1 H1 s1 as → SR K r1 H1 m → H1 dx = some (.xd ys) → RF K r1 H1 fs ys → W (.ref (He.ga K c)) (some dx) s1 H1
  | .bad => False
def tS (K : PySem.W.Frag) (W : WX) (f : En → Sto → RS) : TS := fun N s H => ∃ r as m, SL K r H s as ∧ SR K r H m ∧ (f as m).sat K r H N W
section
variable {K : PySem.W.Frag} {W : WX} {r r1 : Rho} {H H1 : Hp} {N : Ends} {s : St} {as : En}
theorem RS.fwd {x : RS} (h : x.sat K r H N W) (e : Ext r r1) (k : TK H H1) : x.sat K r1 H1 N W := by
  cases x with
  | nx as m => exact fun r2 s2 H2 a b => h r2 s2 H2 (e.trans a) (k.trans b)
  | rt d m => exact fun r2 H2 v a b => h r2 H2 v (e.trans a) (k.trans b)
  | bk as m => exact fun r2 s2 H2 a b => h r2 s2 H2 (e.trans a) (k.trans b)
  | ct as m => exact fun r2 s2 H2 a b => h r2 s2 H2 (e.trans a) (k.trans b)
  | exc c fs as m => exact fun r2 s2 H2 dx ys a b => h r2 s2 H2 dx ys (e.trans a) (k.trans b)
  | bad => exact h
theorem thn_sat {α : Type} {x : R α} {f : α → Sto → RS} (hl : SL K r H s as) (h : (x.thn as f).sat K r H N W) : x.sat (fun a m => (f a m).sat K r H N W) (PostX K r H W s) := by
  cases x with
  | ok a m => exact h
  | exc c fs m => exact fun r2 H2 dx ys a b c d e => h r2 s H2 dx ys a b (hl.mono a b) c d e
  | bad => exact h
theorem thn_calm {α : Type} {x : R α} {f : α → Sto → RS} (h : (x.calm.thn as f).sat K r H N W) : x.sat (fun a m => (f a m).sat K r H N W) (fun _ _ _ => False) := by
  cases x with
  | ok a m => exact h
  | exc c fs m => exact (show False from h).elim
  | bad => exact h
end
/-! ### what is let go -/
def rcut (r : Rho) (N : Nat) : Rho := fun n => if n < N then r n else none
theorem rcut_lt {r : Rho} {N n : Nat} (h : n < N) : rcut r N n = r n := if_pos h
theorem rcut_ge {r : Rho} {N n : Nat} (h : N ≤ n) : rcut r N n = none := if_neg (Nat.not_lt.mpr h)
theorem rcut_some {r : Rho} {N n : Nat} {a : Addr} (h : rcut r N n = some a) : n < N ∧ r n = some a := by
  by_cases e : n < N
  · rw [rcut_lt e] at h; exact ⟨e, h⟩
  · rw [rcut_ge (Nat.not_lt.mp e)] at h; cases h
section
variable {K : PySem.W.Frag} {r r1 : Rho} {H H1 : Hp} {m : Sto} {N : Nat}
mutual
theorem RD.cut : ∀ {d : D} {v : V}, RD K r H d v → ltD N d = true → RD K (rcut r N) H d v
  | _, _, .non, _ => .non
  | _, _, .bl b, _ => .bl b
  | _, _, .int i, _ => .int i
  | _, _, .str x, _ => .str x
  | _, _, .shw p, _ => .shw p
  | _, _, .tup s h, e => .tup s (RDs.cut h (by simpa only [ltD] using e))
  | _, _, .ref h, e => .ref ((rcut_lt (Nat.blt_eq.mp (by simpa only [ltD] using e))).trans h)
  | _, _, .ty n, _ => .ty n
  | _, _, .gl x, _ => .gl x
theorem RDs.cut : ∀ {d : List D} {v : List V}, RDs K r H d v → ltDs N d = true → RDs K (rcut r N) H d v
  | _, _, .nil, _ => .nil
  | _, _, .cons (d := d) a b, e => by
    simp only [ltDs] at e
    cases q : ltD N d with
    | false => rw [q] at e; cases e
    | true => rw [q] at e; exact .cons (RD.cut a q) (RDs.cut b e)
end
theorem RF.cut : ∀ {fs : List (Str × D)} {gs : List (Str × V)}, RF K r H fs gs → ltV N fs = true → RF K (rcut r N) H fs gs
  | _, _, .nil, _ => .nil
  | _, _, .cons (d := d) a b, e => by
    simp only [ltV] at e
    cases q : ltD N d with
    | false => rw [q] at e; cases e
    | true => rw [q] at e; exact .cons (RD.cut a q) (RF.cut b e)
theorem RKs.cut {κ : Type} : ∀ {fs : List (κ × D)} {gs : List (κ × V)}, RKs K r H fs gs → ltV N fs = true → RKs K (rcut r N) H fs gs
  | _, _, .nil, _ => .nil
  | _, _, .cons (d := d) a b, e => by
    simp only [ltV] at e
    cases q : ltD N d with
    | false => rw [q] at e; cases e
    | true => rw [q] at e; exact .cons (RD.cut a q) (RKs.cut b e)
theorem OR.cut {a : Addr} {o : O} (h : OR K r H a o) (e : ltO N o = true) : OR K (rcut r N) H a o := by
  cases o with
  | lst xs => obtain ⟨ys, h1, h2⟩ := h; exact ⟨ys, h1, h2.cut e⟩
  | frl zs => exact h
  | zls zs => exact h
  | dct k => obtain ⟨ys, h1, h2⟩ := h; exact ⟨ys, h1, h2.cut e⟩
  | dctT k => obtain ⟨ys, h1, h2⟩ := h; exact ⟨ys, h1, h2.cut e⟩
  | ins c fs => obtain ⟨dx, ys, h1, h2⟩ := h; exact ⟨dx, ys, h1, h2.cut e⟩
  | exc c fs => obtain ⟨dx, ys, h1, h2, h3⟩ := h; exact ⟨dx, ys, h1, h2, h3.cut e⟩
theorem cutOs_get : ∀ {l t : List (Nat × O)} {n : Nat} {o : O}, cutOs N l = some t → lkN n t = some o → n < N ∧ lkN n l = some o ∧ ltO N o = true
  | [], _, _, _, e, h => by cases e; cases h
  | p :: l, t, n, o, e, h => by
    unfold cutOs at e
    cases q : Nat.blt p.1 N with
    | false =>
      rw [q] at e
      obtain ⟨h1, h2, h3⟩ := cutOs_get (l := l) e h
      refine ⟨h1, ?_, h3⟩
      unfold lkN
      cases q2 : Nat.beq p.1 n with
      | false => exact h2
      | true =>
        have := Nat.eq_of_beq_eq_true q2
        rw [this, Nat.blt_eq.mpr h1] at q; cases q
    | true =>
      rw [q] at e
      cases q3 : ltO N p.2 with
      | false => rw [q3] at e; cases e
      | true =>
        rw [q3] at e
        cases q4 : cutOs N l with
        | none => rw [q4] at e; cases e
        | some t' =>
          rw [q4] at e; cases e
          unfold lkN at h
          cases q2 : Nat.beq p.1 n with
          | true =>
            rw [q2] at h; cases h
            refine ⟨Nat.eq_of_beq_eq_true q2 ▸ Nat.blt_eq.mp q, ?_, q3⟩
            unfold lkN; rw [q2]
          | false =>
            rw [q2] at h
            obtain ⟨h1, h2, h3⟩ := cutOs_get q4 h
            refine ⟨h1, ?_, h3⟩
            unfold lkN; rw [q2]; exact h2
theorem SR.cut {m1 : Sto} (s : SR K r H m) (e : cutM N m = some m1) : SR K (rcut r N) H m1 := by
  unfold cutM at e
  cases q : Nat.ble N m.nx with
  | false => rw [q] at e; cases e
  | true =>
    rw [q] at e
    cases q2 : cutOs N m.os with
    | none => rw [q2] at e; cases e
    | some os =>
      rw [q2] at e; cases e
      refine ⟨fun n o h => ?_, fun n k a h1 h2 => s.inj n k a (rcut_some h1).2 (rcut_some h2).2, fun n h => rcut_ge h, fun n o h => (cutOs_get q2 h).1, fun n a h => s.dom n a (rcut_some h).2⟩
      obtain ⟨h1, h2, h3⟩ := cutOs_get q2 h
      obtain ⟨a, h4, h5⟩ := s.at_ n o h2
      exact ⟨a, (rcut_lt h1).trans h4, h5.cut h3⟩
theorem SL.cut : ∀ {s : List (Option V)} {as : En}, SL K r H s as → SL K (rcut r N) H s (cutE N as)
  | _, _, .nil => .nil
  | _, _, .put (d := d) a b => by
    unfold cutE
    dsimp only
    cases q : ltD N d with
    | true => exact .put (a.cut q) b.cut
    | false => exact .gap b.cut
  | _, _, .gap b => .gap b.cut
theorem Ext.cut {m0 : Sto} (e : Ext r1 r) (s : SR K r1 H1 m0) : Ext r1 (rcut r m0.nx) := fun n a h => by
  have hn : n < m0.nx := by
    by_cases q : n < m0.nx
    · exact q
    · rw [s.fresh n (Nat.not_lt.mp q)] at h; cases h
  rw [rcut_lt hn]; exact e n a h
theorem cutK_ok {W : WX} {Nd : Ends} {m0 : Sto} {c : Option Nat} {s : St} {as : En} {g : En → Sto → RS} {P : Rho → En → Sto → Prop} (h0 : SR K r1 H1 m0) (hc : ∀ n, c = some n → n = m0.nx) (e : Ext r1 r) (hl : SL K r H s as) (hs : SR K r H m) (h : (cutK c as m g).sat K r1 H1 Nd W)
    (hp : ∀ r' as' m', Ext r1 r' → SL K r' H s as' → SR K r' H m' → (g as' m').sat K r1 H1 Nd W → P r' as' m') : ∃ r' as' m', P r' as' m' := by
  unfold cutK at h
  cases c with
  | none => exact ⟨r, as, m, hp _ _ _ e hl hs h⟩
  | some n =>
    dsimp only at h
    cases q : cutM n m with
    | none => rw [q] at h; exact ⟨r, as, m, hp _ _ _ e hl hs h⟩
    | some m1 =>
      rw [q] at h
      have hn := hc n rfl
      subst hn
      exact ⟨rcut r m0.nx, _, m1, hp _ _ _ (e.cut h0) hl.cut (hs.cut q) h⟩
end
section
variable {X : Cx} {W : WX} {k : Nat} {G : Gb} {C : Cf}
theorem xx_skp {pos : Pos} : PS X (.Pass pos) (tS X.K W (evS G C .skp)) := PS.imp ps_pass fun N s H ⟨r, as, m, hl, hs, hf⟩ => by
  simp only [evS] at hf
  exact hf r s H (Ext.refl r) (TK.refl H) hl hs
theorem xb_nil : PSs X [] (tS X.K W (evS G C .skp)) := PSs.imp pss_nil fun N s H ⟨r, as, m, hl, hs, hf⟩ => by
  simp only [evS] at hf
  exact hf r s H (Ext.refl r) (TK.refl H) hl hs
theorem xb_cons {st : Stmt} {rest : List Stmt} {a b : S} (ha : PS X st (tS X.K W (evS G C a))) (hb : PSs X rest (tS X.K W (evS G C b))) : PSs X (st :: rest) (tS X.K W (evS G C (.seq a b))) :=
  PSs.imp (pss_cons ha hb) fun N s H ⟨r, as, m, hl, hs, hf⟩ => by
    simp only [evS] at hf
    refine ⟨r, as, m, hl, hs, ?_⟩
    revert hf
    cases evS G C a as m with
    | nx as1 m1 => exact fun hf r1 s1 H1 e k1 hl1 hs1 => ⟨r1, as1, m1, hl1, hs1, RS.fwd hf e k1⟩
    | rt d m1 => exact fun hf => hf
    | bk as1 m1 => exact fun hf => hf
    | ct as1 m1 => exact fun hf => hf
    | exc c fs as1 m1 => exact fun hf => hf
    | bad => exact fun hf => hf
theorem xx_exp {e : Expr} {a : E} {pos : Pos} (ha : PE X e (tE X.K W (evE G C a))) (hsw : swapsWith e none pos.line X.env = pure false) : PS X (.Expr e pos) (tS X.K W (evS G C (.exp a))) :=
  PS.imp (ps_expr ha hsw) fun N s H ⟨r, as, m, hl, hs, hf⟩ => by
    simp only [evS] at hf
    exact tE_of hl hs (thn_sat hl hf) fun r1 m1 d v H1 e k1 hl1 hs1 rd p => p r1 s H1 e k1 hl1 hs1
theorem xx_ret {e : Expr} {a : E} {pos : Pos} (ha : PE X e (tE X.K W (evE G C a))) : PS X (.Return (some e) pos) (tS X.K W (evS G C (.ret a))) :=
  PS.imp (ps_ret ha) fun N s H ⟨r, as, m, hl, hs, hf⟩ => by
    simp only [evS] at hf
    exact tE_of hl hs (thn_sat hl hf) fun r1 m1 d v H1 e k1 hl1 hs1 rd p => p r1 H1 v e k1 hs1 rd
theorem tS_asg {K : PySem.W.Frag} {t e : E} {N : Ends} {s : St} {H : Hp} (h : tS K W (evS G C (.asg t e)) N s H) : tAsg (tE K W (evE G C e)) (tG K (tSl t) (evTg G C t)) N s H := by
  obtain ⟨r, as, m, hl, hs, hf⟩ := h
  simp only [evS] at hf
  refine tE_of hl hs (thn_sat hl hf) fun r1 m1 d v H1 e k1 hl1 hs1 rd p => ?_
  refine ⟨r1, as, m1, d, hl1, hs1, rd, R.sat_mono (thn_calm (RS.fwd p e k1)) (fun as2 m2 p2 r2 s2 H2 e2 k2 hl2 hs2 _ => ?_) fun _ _ _ z => z⟩
  exact p2 r2 s2 H2 e2 k2 hl2 hs2
theorem xx_set {i : Nat} {x : Str} {e : Expr} {a : E} {pos pos' : Pos} (hN : X.N.Nodup) (hi : X.N[i]? = some x) (hx : Loc X.env.scope x) (hf : X.fn x = true ∨ X.env.scope.names.lookup x = some .local) (ha : PE X e (tE X.K W (evE G C a)))
    (hsw : swapsWith e (some (.Name x pos')) pos.line X.env = pure false) : PS X (.Assign [.Name x pos'] e pos) (tS X.K W (evS G C (.asg (.tNm i) a))) :=
  PS.imp (ps_set hN hi hx ha hsw hf) fun N s H h => by
    obtain ⟨r, as, m, hl, hs, hf⟩ := h
    simp only [evS, evTg] at hf
    refine tE_of hl hs (thn_sat hl hf) fun r1 m1 d v H1 e k1 hl1 hs1 rd p => ?_
    exact p r1 _ H1 e k1 (hl1.set rd i) hs1
theorem xx_asg {tg e : Expr} {t a : E} {pos : Pos} (ha : PE X e (tE X.K W (evE G C a))) (hg : PG X tg (tG X.K (tSl t) (evTg G C t))) (hsw : swapsWithSole [tg] e pos.line X.env = pure false) (hw : swappedStores [tg] e X.env = pure none) (h1 : (assignEach [tg] X.env).map (·.2) = [assign tg X.env]) :
    PS X (.Assign [tg] e pos) (tS X.K W (evS G C (.asg t a))) := PS.imp (ps_asg ha hg hsw hw h1) fun N s H h => tS_asg h
/-- name = [..] on one line -/
theorem xx_setLc {i : Nat} {y : Str} {py : Pos} {elt tg iter : Expr} {ifs : List Expr} {scope : Scope} {own : List (Str × Nat)} {pos spos : Pos} {t s0 c e : E} {ws : List Nat} (hc : X.calm = true) (hN : X.N.Nodup) (hy : X.N[i]? = some y) (hyl : X.env.scope.names.lookup y = some .local)
    (hsw : swapsWith (.ListComp elt [⟨tg, iter, ifs, 0⟩] scope pos) (some (.Name y py)) spos.line X.env = pure true) (hi : PI X tg iter (tSrc X.K W (evSrc G C s0))) (ok : BlkOk X.N X.env.scope scope own) (hws : own.map (·.2) = ws) (hsl : ∀ i ∈ tSl t, i ∈ ws)
    (hg : ∀ (s : Shared) (H : Hp) (C' : Addr) (cl : List (Str × Addr)) (fp : List Addr), PG (X.blk s H scope (compEnvC scope cl C' X.env) fp) tg (tG X.K (tSl t) (evTg G C t)))
    (ht : ∀ (s : Shared) (H : Hp) (C' : Addr) (cl : List (Str × Addr)) (fp : List Addr), PTs (X.blk s H scope (compEnvC scope cl C' X.env) fp) ifs (tTt X.K (fun _ _ _ _ => False) (evT G C c)))
    (he : ∀ (s : Shared) (H : Hp) (C' : Addr) (cl : List (Str × Addr)) (fp : List Addr), PE (X.blk s H scope (compEnvC scope cl C' X.env) fp) elt (tE X.K (fun _ _ _ _ => False) (evE G C e))) (hs : ∀ x, foldedSetIterable iter X.env x = pure x) :
    PS X (.Assign [.Name y py] (.ListComp elt [⟨tg, iter, ifs, 0⟩] scope pos) spos) (tS X.K W (evS G C (.asg (.tNm i) (.cmpr t s0 c e ws)))) :=
  PS.imp (ps_setLc hc hN hy hyl hsw hi ok hg ht he hs) fun N s H h => by
    subst hws
    obtain ⟨r, as, m, hl, hs, hf⟩ := h
    simp only [evS, evTg] at hf
    refine tE_lc (G := G) (C := C) (W := W) (K := X.K) hsl (tE_of hl hs (thn_sat hl hf) fun r1 m1 d v H1 e k1 hl1 hs1 rd p => ?_)
    exact p r1 _ H1 e k1 (hl1.set rd i) hs1
theorem xe_lc {elt tg iter : Expr} {ifs : List Expr} {scope : Scope} {own : List (Str × Nat)} {pos : Pos} {t s0 c e : E} {ws : List Nat} (hc : X.calm = true) (hN : X.N.Nodup)
    (hi : PI X tg iter (tSrc X.K W (evSrc G C s0))) (ok : BlkOk X.N X.env.scope scope own) (hws : own.map (·.2) = ws) (hsl : ∀ i ∈ tSl t, i ∈ ws)
    (hg : ∀ (s : Shared) (H : Hp) (C' : Addr) (cl : List (Str × Addr)) (fp : List Addr), PG (X.blk s H scope (compEnvC scope cl C' X.env) fp) tg (tG X.K (tSl t) (evTg G C t)))
    (ht : ∀ (s : Shared) (H : Hp) (C' : Addr) (cl : List (Str × Addr)) (fp : List Addr), PTs (X.blk s H scope (compEnvC scope cl C' X.env) fp) ifs (tTt X.K (fun _ _ _ _ => False) (evT G C c)))
    (he : ∀ (s : Shared) (H : Hp) (C' : Addr) (cl : List (Str × Addr)) (fp : List Addr), PE (X.blk s H scope (compEnvC scope cl C' X.env) fp) elt (tE X.K (fun _ _ _ _ => False) (evE G C e))) (hs : ∀ x, foldedSetIterable iter X.env x = pure x) :
    PE X (.ListComp elt [⟨tg, iter, ifs, 0⟩] scope pos) (tE X.K W (evE G C (.cmpr t s0 c e ws))) :=
  PE.imp (pe_lc hc hN hi ok hg ht he hs) fun s H Q h => by
    subst hws
    exact tE_lc hsl h
/-- name op= e -/
theorem ip_any (o : Operator) (ho : o = .Add ∨ o = .Sub) : PIp X o (fun x y H Q => rD2 X.K (opAug o) x y H Q) := by
  intro pins s σ H x y v u Q I rx ry h
  obtain ⟨r, m, dx, dy, hs, hx, hy, hf⟩ := h
  rcases ho with rfl | rfl
  · cases hx with
    | int i =>
      cases hy with
      | int j => exact ip_add pins s σ H _ _ v u Q I rx ry ⟨i, j, rfl, rfl, same hs (.int _) hf⟩
      | _ => exact (show False from hf).elim
    | _ => exact (show False from hf).elim
  · cases hx with
    | int i =>
      cases hy with
      | int j => exact ip_sub pins s σ H _ _ v u Q I rx ry ⟨i, j, rfl, rfl, same hs (.int _) hf⟩
      | _ => exact (show False from hf).elim
    | _ => exact (show False from hf).elim
theorem xx_aug {i : Nat} {x : Str} {e : Expr} {a : E} {pos pos' : Pos} {o : Operator} (ho : o = .Add ∨ o = .Sub) (hN : X.N.Nodup) (hi : X.N[i]? = some x) (hx : Loc X.env.scope x) (hf : X.fn x = true ∨ X.env.scope.names.lookup x = some .local) (ha : PE X e (tE X.K W (evE G C a))) :
    PS X (.AugAssign (.Name x pos') o e pos) (tS X.K W (evS G C (.aug o (.tNm i) a))) :=
  PS.imp (ps_aug hN hi hx ha (ip_any o ho) hf) fun N s H ⟨r, as, m, hl, hs, hq⟩ => by
    simp only [evS] at hq
    cases e1 : as[i]? with
    | none => simp only [e1] at hq; exact (show False from hq).elim
    | some od =>
      cases od with
      | none => simp only [e1] at hq; exact (show False from hq).elim
      | some d =>
        simp only [e1] at hq
        obtain ⟨v, h1, h2⟩ := hl.get e1
        refine ⟨v, h1, tE_of hl hs (thn_sat hl hq) fun r1 m1 d1 v1 H1 e k1 hl1 hs1 rd p => ?_⟩
        refine ⟨r1, m1, d, d1, hs1, h2.mono e k1, rd, R.sat_mono (thn_calm (RS.fwd p e k1)) (fun d2 m2 p2 r2 H2 v2 e2 k2 hs2 rd2 => ?_) fun _ _ _ z => z⟩
        exact p2 r2 _ H2 e2 k2 ((hl1.mono e2 k2).set rd2 i) hs2
theorem xx_if {t : Expr} {a b : List Stmt} {et : E} {ea eb : S} {pos : Pos} (ht : PT X t (tTt X.K W (evT G C et))) (ha : PSs X a (tS X.K W (evS G C ea))) (hb : PSs X b (tS X.K W (evS G C eb))) : PS X (.If t a b pos) (tS X.K W (evS G C (.ife et ea eb))) :=
  PS.imp (ps_if ht ha hb) fun N s H ⟨r, as, m, hl, hs, hf⟩ => by
    simp only [evS] at hf
    refine tT_of hl hs (thn_sat hl hf) fun r1 m1 d H1 e k1 hl1 hs1 p => ?_
    cases d with
    | true => rw [if_pos rfl]; exact ⟨r1, as, m1, hl1, hs1, RS.fwd p e k1⟩
    | false => rw [if_neg Bool.false_ne_true]; exact ⟨r1, as, m1, hl1, hs1, RS.fwd p e k1⟩
theorem xx_brk {pos : Pos} : PS X (.Break pos) (tS X.K W (evS G C .brk)) := PS.imp ps_break fun N s H ⟨r, as, m, hl, hs, hf⟩ => by
  simp only [evS] at hf
  exact hf r s H (Ext.refl r) (TK.refl H) hl hs
theorem xx_cnt {pos : Pos} : PS X (.Continue pos) (tS X.K W (evS G C .cnt)) := PS.imp ps_continue fun N s H ⟨r, as, m, hl, hs, hf⟩ => by
  simp only [evS] at hf
  exact hf r s H (Ext.refl r) (TK.refl H) hl hs
theorem xx_for (z : Cz X W k G C) {g : Bool} {tg iter : Expr} {body : List Stmt} {t s0 : E} {b : S} {pos : Pos} (hi : PI X tg iter (tSrc X.K W (evSrc G C s0))) (hg : PG X tg (tG X.K (tSl t) (evTg G C t))) (hb : PSs X body (tS X.K W (evS G C b))) (hs : ∀ x, foldedSetIterable iter X.env x = pure x) :
    PS X (.For tg iter body [] pos) (tS X.K W (evS G C (.for_ g t s0 b))) :=
  PS.imp (ps_for z.own z.calm hi hg hb hs) fun N s H ⟨r, as, m, hl, hs, hf⟩ => by
    simp only [evS] at hf
    refine ⟨r, as, m, hl, hs, R.sat_mono (thn_sat hl hf) (fun src m1 p r1 H1 J e1 k1 hs1 sim => ?_) fun _ _ _ q => q⟩
    obtain ⟨c, hc⟩ : ∃ c : Option Nat, c = gcut g m1.nx := ⟨_, rfl⟩
    rw [← hc] at p
    have hcn : ∀ n, c = some n → n = m1.nx := fun n e => by
      rw [hc] at e
      cases g with
      | true => cases e; rfl
      | false => cases e
    refine ⟨fun i n s2 H2 => ∃ r2 as2 m2, Ext r1 r2 ∧ TK H1 H2 ∧ SL X.K r2 H2 s2 as2 ∧ SR X.K r2 H2 m2 ∧ (forLoop c src (evTg G C t) (evS G C b) n i as2 m2).sat X.K r1 H1 N W,
      ⟨src.most m1, r1, as, m1, Ext.refl _, TK.refl _, hl.mono e1 k1, hs1, RS.fwd p e1 k1⟩, fun i n s2 H2 hw => ?_⟩
    obtain ⟨r2, as2, m2, e2, k2, hl2, hs2, hq⟩ := hw
    cases n with
    | zero => simp only [forLoop] at hq; exact (show False from hq).elim
    | succ n =>
      unfold forLoop at hq
      obtain ⟨st, go⟩ := sim r2 H2 m2 i e2 k2 hs2
      cases q : src.at m2 i with
      | none => simp only [q] at hq; exact (show False from hq).elim
      | some o =>
        cases o with
        | none =>
          simp only [q] at hq
          exact .inl ⟨st q, hq r2 s2 H2 e2 k2 hl2 hs2⟩
        | some d =>
          simp only [q] at hq
          obtain ⟨g1, g2⟩ := go d q
          refine .inr ⟨g1, fun s6 H6 => ∃ r6 as6 m6, Ext r1 r6 ∧ TK H1 H6 ∧ SL X.K r6 H6 s6 as6 ∧ SR X.K r6 H6 m6 ∧ (forLoop c src (evTg G C t) (evS G C b) n (i + 1) as6 m6).sat X.K r1 H1 N W, fun s6 H6 w => ⟨n, Nat.lt_succ_self n, w⟩, fun x H3 hy => ?_⟩
          obtain ⟨k3, hs3, rd3⟩ := g2 x H3 hy
          have hl3 := hl2.mono (Ext.refl _) k3
          refine ⟨r2, as2, m2, d, hl3, hs3, rd3, R.sat_mono (thn_calm hq) (fun as4 m4 p4 r4 s4 H4 e4 k4 hl4 hs4 _ => ?_) fun _ _ _ z => z⟩
          refine ⟨r4, as4, m4, hl4, hs4, ?_⟩
          revert p4
          cases evS G C b as4 m4 with
          | nx as5 m5 =>
            exact fun p4 r5 s5 H5 e5 k5 hl5 hs5 => cutK_ok (P := fun r6 as6 m6 => Ext r1 r6 ∧ TK H1 H5 ∧ SL X.K r6 H5 s5 as6 ∧ SR X.K r6 H5 m6 ∧ (forLoop c src (evTg G C t) (evS G C b) n (i + 1) as6 m6).sat X.K r1 H1 N W) hs1 hcn ((e2.trans e4).trans e5) hl5 hs5 p4 fun r6 as6 m6 a1 a2 a3 a4 => ⟨a1, ((k2.trans k3).trans k4).trans k5, a2, a3, a4⟩
          | ct as5 m5 =>
            exact fun p4 r5 s5 H5 e5 k5 hl5 hs5 => cutK_ok (P := fun r6 as6 m6 => Ext r1 r6 ∧ TK H1 H5 ∧ SL X.K r6 H5 s5 as6 ∧ SR X.K r6 H5 m6 ∧ (forLoop c src (evTg G C t) (evS G C b) n (i + 1) as6 m6).sat X.K r1 H1 N W) hs1 hcn ((e2.trans e4).trans e5) hl5 hs5 p4 fun r6 as6 m6 a1 a2 a3 a4 => ⟨a1, ((k2.trans k3).trans k4).trans k5, a2, a3, a4⟩
          | bk as5 m5 => exact fun p4 => RS.fwd p4 (e2.trans e4) ((k2.trans k3).trans k4)
          | rt d5 m5 => exact fun p4 => RS.fwd p4 (e2.trans e4) ((k2.trans k3).trans k4)
          | exc c fs as5 m5 => exact fun p4 => RS.fwd p4 (e2.trans e4) ((k2.trans k3).trans k4)
          | bad => exact fun p4 => p4
theorem xx_whl (z : Cz X W k G C) {t : Expr} {body : List Stmt} {et : E} {b : S} {pos : Pos} (ht : PT X t (tTt X.K W (evT G C et))) (hb : PSs X body (tS X.K W (evS G C b))) : PS X (.While t body [] pos) (tS X.K W (evS G C (.whl et b))) :=
  PS.imp (ps_while z.own ht hb) fun N s H ⟨r, as, m, hl, hs, hf⟩ => by
    simp only [evS] at hf
    refine ⟨fun n s2 H2 => ∃ r2 as2 m2, SL X.K r2 H2 s2 as2 ∧ SR X.K r2 H2 m2 ∧ (whlLoop (evT G C et) (evS G C b) n as2 m2).sat X.K r2 H2 N W, ⟨C.wf, r, as, m, hl, hs, hf⟩, fun n s2 H2 hw => ?_⟩
    obtain ⟨r2, as2, m2, hl2, hs2, hq⟩ := hw
    cases n with
    | zero => simp only [whlLoop] at hq; exact (show False from hq).elim
    | succ n =>
      unfold whlLoop at hq
      refine tT_of hl2 hs2 (thn_sat hl2 hq) fun r3 m3 d H3 e3 k3 hl3 hs3 p3 => ?_
      cases d with
      | false => rw [if_neg Bool.false_ne_true]; exact p3 r3 s2 H3 e3 k3 hl3 hs3
      | true =>
        rw [if_pos rfl]
        refine ⟨fun s6 H6 => ∃ r6 as6 m6, SL X.K r6 H6 s6 as6 ∧ SR X.K r6 H6 m6 ∧ (whlLoop (evT G C et) (evS G C b) n as6 m6).sat X.K r6 H6 N W, fun s6 H6 w => ⟨n, Nat.lt_succ_self n, w⟩, r3, as2, m3, hl3, hs3, ?_⟩
        have p4 := RS.fwd p3 e3 k3
        revert p4
        dsimp only
        cases evS G C b as2 m3 with
        | nx as5 m5 => exact fun p4 r5 s5 H5 e5 k5 hl5 hs5 => ⟨r5, as5, m5, hl5, hs5, RS.fwd p4 e5 k5⟩
        | ct as5 m5 => exact fun p4 r5 s5 H5 e5 k5 hl5 hs5 => ⟨r5, as5, m5, hl5, hs5, RS.fwd p4 e5 k5⟩
        | bk as5 m5 => exact fun p4 => p4
        | rt d5 m5 => exact fun p4 => p4
        | exc c fs as5 m5 => exact fun p4 => p4
        | bad => exact fun p4 => p4
end
end Py
namespace Py
open PySem L2 PySem.Spec PyProof.Rows

/-! ### a def, by its body -/
theorem fnG_of {P : Program} {w : World} {K : PySem.W.Frag} {mg : Str → Option Value} {base : Heap} {k : Nat} {f : Addr} {name qual : Str} {params : Arguments} {body : List Stmt} {scope : Scope} {dV kV doc pm cdv ct oc : Value} {an od : Option Addr} {osl : Array (Option Value)} {N ps : List Str} {sp : Sp}
    (lk : K.lookup f = some ⟨oc, od, .func (PySem.W.fnOf name qual params body scope dV kV doc pm an cdv ct), osl⟩) (hcd : PySem.W.codeIn K cdv qual = true) (S : FnScope N ps scope) (len : ∀ vs H Q E, sp vs H Q E → vs.length = ps.length)
    (hbody : ∀ (A : Around) (outer : List Env) (s : Shared) (H : Hp) (vs : List V) (Q : VK) (E : XK), Room k (A.deeper (envOfC qual scope s.heap.objs.size f cdv)) → A.guards = some [] → sp vs H Q E →
      ∃ t, PSs (cxOf (CX P w) P w K mg base N qual scope f cdv A outer s H E) body t ∧ t { nx := fun _ H' => Q .non H', rt := Q } (start N vs) H) :
    FnG P w K mg base (k + 1) f (PySem.W.fnOf name qual params body scope dV kV doc pm an cdv ct) ps sp := by
  refine ⟨len, fun A outer s H args us vs Q E hr hgd e0 hb r hsp => ?_⟩
  have hl := len _ _ _ _ hsp
  have KX : K.In s.heap := e0.mod.kin.keeps fun b o e => (e0.bs b o e).1
  have lim : s.heap.NoLimit := e0.mod.nolimit.keeps fun b o e => (e0.bs b o e).1
  have hkind : ∀ z ∈ ps.zip us, scope.names.lookup z.1 = some .local ∨ (scope.names.lookup z.1 = some .cell ∧ ((cellsFrom (s.heap.objs.size + 1) scope.names []).lookup z.1).isSome = true) := fun ⟨n, v⟩ hy => by
    rcases S.par n (List.of_mem_zip hy).1 with q | q
    · exact .inl q
    · exact .inr ⟨q, PySem.W.cellsFrom_some _ _ _ (.inl q)⟩
  refine codeAny_call_function hr.depth (KX _ _ lk) rfl S.co S.gen rfl (PySem.W.codeRec_of KX hcd) (hb _ _ _ _ ?_)
  refine wpAny_newFunctionEnv_cells S.kind hkind fun env he s1 x => ?_
  subst he
  refine ⟨lim.keeps x.toInCall.keep, codeAny_func ?_⟩
  obtain ⟨t, ht, hq⟩ := hbody A outer s H vs Q E (hr.deeper _) hgd hsp
  have I0 : Inv (cxOf (CX P w) P w K mg base N qual scope f cdv A outer s H E) [] (start N vs) H s1 := inv_start S hr.hd e0 hl r x
  refine wpAny_mono (ht.run [] s1 (start N vs) H _ I0 hq) (fun fl s' hs => ?_) fun e s' hs => hs
  have fin : ∀ {σ' : L2.St} {H' : Hp} {v : V} {u : Value}, Inv (cxOf (CX P w) P w K mg base N qual scope f cdv A outer s H E) [] σ' H' s' → RelV v u → Q v H' → CE outer P w H s Q u s' := fun {σ' H' v u} J rv q => ⟨v, H', J.os, J.bare, J.base, J.hok, rv, q⟩
  cases fl with
  | ret u => exact let ⟨v, σ', H', J, rv, q⟩ := hs; fin J rv q
  | next => exact let ⟨σ', H', J, q⟩ := hs; fin (v := V.non) (u := Value.none) J rfl q
  | brk => exact let ⟨_, _, _, q⟩ := hs; False.elim q
  | cont => exact let ⟨_, _, _, q⟩ := hs; False.elim q
def bodyR : RS → R D
  | .nx _ m => .ok .non m
  | .rt d m => .ok d m
  | .exc c fs _ m => .exc c fs m
  | _ => .bad
def startE (n : Nat) (ds : List D) : En := ds.map some ++ List.replicate (n - ds.length) none
/-- a def's run: np parameters, n names -/
def runF (G : Gb) (C : Cf) (b : S) (np n : Nat) (ds : List D) (m : Sto) : R D := match Nat.beq ds.length np with
  | true => (bodyR (evS G C b (startE n ds) m)).cut m.nx
  | false => .bad
theorem SL.nones {K : PySem.W.Frag} {r : Rho} {H : Hp} : ∀ n : Nat, SL K r H (List.replicate n Option.none) (List.replicate n Option.none)
  | 0 => .nil
  | n + 1 => by
    rw [List.replicate_succ, List.replicate_succ]
    exact .gap (SL.nones n)
theorem SL.start {K : PySem.W.Frag} {r : Rho} {H : Hp} {N : List Str} {ds : List D} {vs : List V} (h : RDs K r H ds vs) : SL K r H (L2.start N vs) (startE N.length ds) := by
  unfold L2.start startE
  rw [h.length]
  generalize N.length - vs.length = n
  have key : ∀ {ds : List D} {vs : List V}, RDs K r H ds vs → SL K r H (vs.map some ++ List.replicate n none) (ds.map some ++ List.replicate n none) := by
    intro ds vs h
    induction ds generalizing vs with
    | nil => cases h; exact SL.nones n
    | cons d ds ih =>
      cases h with
      | cons a b => exact .put a (ih b)
  exact key h
theorem cz_of {P : Program} {w : World} {K : PySem.W.Frag} {mg : Str → Option Value} {base : Heap} {k : Nat} {f : Addr} {qual : Str} {scope : Scope} {cdv : Value} {N : List Str} {A : Around} {outer : List Env} {s : Shared} {H : Hp} {E : XK} {G : Gb} {C : Cf} (pg : Pg P w K mg base k G C) (nd : N.Nodup) (hr : Room k (A.deeper (envOfC qual scope s.heap.objs.size f cdv))) (hg : A.guards = some []) :
    Cz (cxOf (CX P w) P w K mg base N qual scope f cdv A outer s H E) (fun cls d _ H' => E cls d H') k G C :=
  ⟨pg, nd, rfl, takes_of rfl rfl rfl rfl, passes_of rfl, hr, hg⟩
theorem fnG_body {P : Program} {w : World} {K : PySem.W.Frag} {mg : Str → Option Value} {base : Heap} {k : Nat} {f : Addr} {name qual : Str} {params : Arguments} {body : List Stmt} {scope : Scope} {dV kV doc pm cdv ct oc : Value} {an od : Option Addr} {osl : Array (Option Value)} {N ps : List Str} {G : Gb} {C : Cf} {b : S}
    (lk : K.lookup f = some ⟨oc, od, .func (PySem.W.fnOf name qual params body scope dV kV doc pm an cdv ct), osl⟩) (hcd : PySem.W.codeIn K cdv qual = true) (S : FnScope N ps scope) (pg : Pg P w K mg base k G C)
    (hbody : ∀ (X : Cx) (W : WX), Cz X W k G C → X.N = N → X.env.scope = scope → (∀ x, X.fn x = true) → X.stack = X.env :: X.outer → X.env.frame = some X.env.locals → X.ex = [] → PSs X body (tS X.K W (evS G C b))) :
    FnG P w K mg base (k + 1) f (PySem.W.fnOf name qual params body scope dV kV doc pm an cdv ct) ps (spF K (runF G C b ps.length N.length)) := by
  have hlen : ∀ {vs : List V} {H : Hp} {Q : VK} {E : XK} {r : Rho} {m : Sto} {ds : List D}, RDs K r H ds vs → (runF G C b ps.length N.length ds m).sat (Post K r H Q) (PostE K r H E) → ds.length = ps.length ∧ ((bodyR (evS G C b (startE N.length ds) m)).cut m.nx).sat (Post K r H Q) (PostE K r H E) := fun {vs H Q E r m ds} hd hf => by
    unfold runF at hf
    cases q : Nat.beq ds.length ps.length with
    | false => rw [q] at hf; exact (show False from hf).elim
    | true => rw [q] at hf; exact ⟨Nat.eq_of_beq_eq_true q, hf⟩
  refine fnG_of lk hcd S (fun vs H Q E h => ?_) fun A outer s H vs Q E hr hg h => ?_
  · obtain ⟨r, m, ds, hs, hd, hf⟩ := h
    rw [← hd.length]
    exact (hlen hd hf).1
  · obtain ⟨r, m, ds, hs, hd, hf⟩ := h
    refine ⟨_, hbody _ _ (cz_of pg S.nd hr hg) rfl rfl (fun _ => rfl) rfl rfl rfl, r, startE N.length ds, m, SL.start hd, hs, ?_⟩
    have hf := (hlen hd hf).2
    have okc : ∀ {d : D} {m2 : Sto}, ((R.ok d m2).cut m.nx).sat (Post K r H Q) (PostE K r H E) → Post K r H Q d m2 := fun {d m2} z r1 H1 v e k1 hs1 rd => by
      unfold R.cut at z
      dsimp only at z
      cases q1 : ltD m.nx d with
      | false => rw [q1] at z; exact z r1 H1 v e k1 hs1 rd
      | true =>
        rw [q1] at z
        cases q2 : cutM m.nx m2 with
        | none => rw [q2] at z; exact z r1 H1 v e k1 hs1 rd
        | some m3 =>
          rw [q2] at z
          exact z _ H1 v (e.cut hs) k1 (hs1.cut q2) (rd.cut q1)
    revert hf
    cases evS G C b (startE N.length ds) m with
    | nx as1 m1 => exact fun hf r1 s1 H1 e k1 hl1 hs1 => okc hf r1 H1 .non e k1 hs1 .non
    | rt d m1 => exact fun hf r1 H1 v e k1 hs1 rd => okc hf r1 H1 v e k1 hs1 rd
    | bk as1 m1 => exact fun hf => (show False from hf).elim
    | ct as1 m1 => exact fun hf => (show False from hf).elim
    | exc c fs as1 m1 =>
      intro hf r1 s1 H1 dx ys e k1 hl1 hs1 hx rf
      show E _ _ _
      have z : ((R.exc c fs m1 : R D).cut m.nx).sat (Post K r H Q) (PostE K r H E) := hf
      unfold R.cut at z
      dsimp only at z
      cases q1 : ltV m.nx fs with
      | false => rw [q1] at z; exact z r1 H1 dx ys e k1 hs1 hx rf
      | true =>
        rw [q1] at z
        cases q2 : cutM m.nx m1 with
        | none => rw [q2] at z; exact z r1 H1 dx ys e k1 hs1 hx rf
        | some m3 =>
          rw [q2] at z
          exact z _ H1 dx ys (e.cut hs) k1 (hs1.cut q2) hx (rf.cut q1)
    | bad => exact fun hf => hf
/-- inside a comprehension's block -/
theorem cz_blk {X : Cx} {W : WX} {k : Nat} {G : Gb} {C : Cf} (z : Cz X W k G C) (s : Shared) (H : Hp) (scope : Scope) (cenv : Env) (fp : List Addr) : Cz (X.blk s H scope cenv fp) (fun _ _ _ _ => False) k G C :=
  ⟨z.pg, z.nd, z.calm, takes_none5, PassesOwn.never, z.room, z.gd⟩
end Py
namespace Py
open PySem L2 PySem.Spec

/-! ### own exceptions -/
theorem XB.facts : ∀ b : XB, ExcBaseFacts b.nm b.newId b.initId b.mro
  | .ve => F.excBase_ValueError
  | .oe => F.excBase_OverflowError
  | .re => F.excBase_RuntimeError
theorem XB.store : ∀ b : XB, StoreFacts b.nm b.mro "object.__setattr__" "object"
  | .ve => F.store_ValueError
  | .oe => F.store_OverflowError
  | .re => F.store_RuntimeError
def xcB (K : PySem.W.Frag) (C : Addr) (f : Str) (b : XB) : Bool :=
  PySem.W.excInitIn K C b.mro b.newId && (PySem.W.excOver K C b.mro && (PySem.W.hasDictIn K C && (decide (PySem.W.findIn K (.ref C) "__setattr__" = some (some (.builtin "object.__setattr__"))) && (decide (PySem.W.subIn K (.ref C) (.type "BaseException") = some true) &&
  (decide (PySem.W.typeIn K (.ref C) = some (.type "type")) && (PySem.W.keepIn K (.ref C) && (decide (PySem.W.findIn K (.ref C) "__getattribute__" = some (some (.builtin "BaseException.__getattribute__"))) && (decide (PySem.W.findIn K (.ref C) "__getattr__" = some none) &&
  (decide (PySem.W.findIn K (.ref C) f = some none) && (decide (PySem.W.findIn K (.ref C) "__class__" = some (some (.builtin "object.__class__"))) && (decide (PySem.W.specialIn K (.builtin "object.__class__") "__get__" = some (some (.builtin "getset_descriptor.__get__"))) &&
  (decide (PySem.W.takesIn K (.builtin "object.__class__") = some true) && decide (PySem.W.mroIn K C (.type "object") = some true)))))))))))))
theorem xcB_ok {K : PySem.W.Frag} {C : Addr} {f : Str} {b : XB} (h : xcB K C f b = true) : XcC K C f b := by
  unfold xcB at h
  simp only [Bool.and_eq_true, decide_eq_true_eq] at h
  obtain ⟨h1, h2, h3, h4, h5, h6, h7, h8, h9, h10, h11, h12, h13, h14⟩ := h
  exact ⟨h1, h2, h3, h4, h5, h6, h7, h8, h9, h10, h11, h12, h13, h14⟩
section
variable {prog : Program} {w : World} {A : Around} {R0 : Result → Shared → Prop} {hp : Heap} {g : Array GenState} {dw : Drawn} {t : Nat} {os : OsState}
open Builtin Builtin.ObjectAttr in
/-- the first field of an exception that has no dict as yet -/
theorem osa_first {K : PySem.W.Frag} {name : Str} {tk : Tok} {v : Value} {x C : Addr} {fv : Array Value} {b : XB} (T : XcC K C name b) (X : K.In hp) (hx : hp.get? x = some { cls := .ref C, data := .fields fv })
    (hq : ∀ h' tk' dx, (∀ a o, a ≠ x → hp.get? a = some o → h'.get? a = some o) → hp.objs.size ≤ dx → dx ≠ x → h'.get? x = some { cls := .ref C, dict := some dx, data := .fields fv } → h'.Ns1 dx (fun y => if y = name then some v else none) → R0 (.ok (.ret .none)) ⟨h', g, dw, tk', os⟩) :
    codeAny (model prog w) A (.call (.builtin "object.__setattr__") ⟨[.ref x, .str name tk, v], []⟩) R0 ⟨hp, g, dw, t, os⟩ := by
  have I : PySem.W.InstAt hp x { cls := .ref C, data := .fields fv } C none := ⟨hx, rfl, rfl, trivial⟩
  have hxs : x ≠ hp.objs.size := Nat.ne_of_lt (Heap.lt_size hx)
  have ht : PySem.W.takerIn K C name = some none := by unfold PySem.W.takerIn; rw [T.nof]; rfl
  obtain ⟨cd, hcd, hh⟩ := PySem.W.any_some T.hd
  have hcls : PySem.W.Looks (model prog w) hp (classData C) cd := PySem.W.looks_clsIn X hcd
  refine PySem.W.osa_openX (s := ⟨hp, g, dw, t, os⟩) b.store X I T.ov ht fun bb => ?_
  show wpAny _ _ (storeInOwnDict (.ref x) (.ref C) (.str name tk) name v bb) _ _ _
  obtain ⟨nm, bs, mro, ns, qn, hd, sn, sb, ab, col, del⟩ := cd
  dsimp only at hh
  subst hh
  unfold storeInOwnDict ownDictForStores
  repeat (first | with_reducible refine HandSPX.store_in_new ?_ ?_ | with_reducible refine wpAny_loadPart_at hx ?_ | with_reducible refine hcls.at ?_ | wp_step)
  · exact ⟨_, #[], _, (Heap.get?_update_ne _ _ _ _ hxs.symm).trans (Heap.get?_push_at rfl rfl), rfl, fun e he => absurd he (by simp), fun _ => rfl⟩
  · intro h' tk' hn' hs
    have hx1 : (hp.push { cls := .type "dict", data := .dict #[] }).get? x = some { cls := .ref C, data := .fields fv } := Heap.get?_push_of_some _ hx
    exact hq h' tk' hp.objs.size (fun b o hb ho => (hs.2 b (Nat.ne_of_lt (Heap.lt_size ho))).trans ((Heap.get?_update_ne _ _ _ _ hb).trans (Heap.get?_push_of_some _ ho))) (Nat.le_refl _) hxs.symm ((hs.2 x hxs).trans (Heap.get?_update_self _ hx1 rfl)) hn'
end
section
variable {X : Cx} {pins : List (Addr × Obj)} {σ : L2.St} {H : Hp} {s : Shared} {a C : Addr} {f : Str} {y : V} {u : Value} {b : XB} {Q : Unit → Shared → Prop} {E : Value → Shared → Prop} {A : Around}
/-- self.f = y -/
theorem ost_first (T : XcC X.K C f b) (I : Inv X pins σ H s) (e : H a = some (exo a C none)) (ry : RelV y u)
    (h : ∀ dx s', H dx = none → dx ≠ a → Inv X pins σ (upd (upd H dx (exd dx [(f, y)])) a (exo a C (some dx))) s' → Q () s') : wpAny (model X.prog X.w) A (setAttr (.ref a) f u) Q E s := by
  obtain ⟨t1, ho⟩ := exo_at I.hok e
  obtain ⟨hp, g, d, t, os⟩ := s
  refine PySem.W.set_plain I.kIn (ox := { cls := .ref C, dict := none, data := .fields #[.ref t1, .none, .none, .none, .bool false, .none] }) (od := none) ⟨ho, rfl, rfl, trivial⟩ T.sa ?_
  refine osa_first T I.kIn ho (fun h' tk' dx k dn dne hx hn => ?_)
  have hnd : H dx = none := I.hok.fresh dn
  have nd : ∀ {c : Addr} {o : Obj}, hp.get? c = some o → c ≠ dx := fun {c o} q => Nat.ne_of_lt (Nat.lt_of_lt_of_le (Heap.lt_size q) dn)
  have na : ∀ {c : Addr}, H c = none → c ≠ a := fun {c} n z => by rw [z, e] at n; cases n
  have Un1 : Un X.fs [] H (upd (upd H dx (exd dx [(f, y)])) a (exo a C (some dx))) hp h' := ⟨fun c o q n _ _ => k c o (na n) q, fun c o q n _ _ => ⟨o.slots, k c o (na n) q⟩, fun c o q n _ => by rw [upd_ne (na n), upd_ne (nd q)]; exact n, fun c o q _ => by
      by_cases hb : c = a
      · exact ⟨_, by rw [hb]; exact hx⟩
      · exact ⟨o, k c o hb q⟩, fun c xs q => by rw [upd_ne (at_ne e q exo_tup), upd_ne (ne_of_none q hnd)]; exact q, fun c o v q => by rw [upd_ne (at_ne e q exo_frz), upd_ne (ne_of_none q hnd)]; exact q, fun c ps q => ⟨#[], by rw [upd_ne (at_ne e q exo_tbl), upd_ne (ne_of_none q hnd), q]; simp⟩⟩
  refine h dx _ hnd dne (I.un (t' := tk') Un1 fun c o q => ?_)
  by_cases hb : c = a
  · subst hb
    rw [upd_same] at q; cases q
    exact exo_ok hx
  · rw [upd_ne hb] at q
    by_cases hd : c = dx
    · subst hd
      rw [upd_same] at q; cases q
      exact exd_ok hn (relO_put (fs := []) ry fun g => True.intro)
    · rw [upd_ne hd] at q
      refine (I.hok c o q).stay (fun c' v hc z => k c' v ?_ z) (fun c' hc => by rw [upd_ne (at_ne e hc exo_own), upd_ne (ne_of_none hc hnd)]; exact hc) (fun c' xs hc => by rw [upd_ne (at_ne e hc exo_tup), upd_ne (ne_of_none hc hnd)]; exact hc)
      rcases hc with hc | hc
      · rw [hc]; exact hb
      · exact at_ne e hc exo_own
/-- the built-in base's __init__ -/
theorem init_any {us : List Value} {Q : Value → Shared → Prop} (T : XcC X.K C f b) (I : Inv X pins σ H s) (e : H a = some (exo a C none)) (hl : us.length ≤ sizeLine) (h : ∀ s', Inv X pins σ H s' → Q .none s') :
    wpAny (model X.prog X.w) A (call (.builtin b.initId) (.ref a :: us)) Q E s := by
  obtain ⟨nm, N, qn, bs, bm, hdct, sn, sub, ab, col, dd, k0, k1, k2, k3, k5, hC, hT⟩ := PySem.W.excInit_of I.kIn T.iB
  obtain ⟨t1, ho⟩ := exo_at I.hok e
  obtain ⟨hp, g, d, t, os⟩ := s
  refine wpAny_call (PySem.HandSPX.init_base b.facts hT hC ho hl fun h' t2 k hx => ?_)
  have J := I.write (t' := t) (x := a) (e := a) (o := exo a C none) (by rw [e]; exact True.intro) (.inl rfl) k ⟨_, hx⟩ (exo_ok hx)
  have eu : upd H a (exo a C none) = H := funext fun c => by
    by_cases hb : c = a
    · rw [hb, upd_same, e]
    · rw [upd_ne hb]
  rw [eu] at J
  exact h _ J
end
end Py
namespace Py
open PySem PySem.HandSPX

/-! ### the call of such a class, its one argument by place or by name -/
section
variable {M : Model} {A : Around} {E : Value → Shared → Prop} {h : Heap} {g : Array GenState} {d : Drawn} {t : Nat} {os : OsState}
variable {nm q : Str} {C N : Addr} {bs bm bmB : List Value} {hdct : Bool} {sn : List Str} {sub : List Value} {ab : Bool} {col : Option Bool} {dd : Option Addr} {k0 k1 k2 k3 k5 : Option Value} {B newId initId : String} {kn : Str} {kv : Value}
theorem new_ckw (F : ExcBaseFacts B newId initId bmB) (hT : ∀ X : String, bm.contains (.type X) = bmB.contains (.type X)) {Q : Unit → Shared → Prop} (hC : h.get? C = some (excClassObj nm q C N bs bm hdct sn sub ab col dd k0 k1 k2 k3 k5 newId)) (hq : Q () ⟨h, g, d, t, os⟩) :
    wpAny M A (checkBuiltinCall newId ⟨[.ref C], [(kn, kv)]⟩) Q E ⟨h, g, d, t, os⟩ := by
  have hcont : (Value.ref C :: bm).contains (.type B) = true := by rw [List.contains_cons, hT, F.hasB, Bool.or_true]
  have hst := F.noStar
  simp only [checkBuiltinCall, F.newKind, F.newSplit, F.newRow]
  repeat (first | refine wpAny_loadPart_at hC ?_ | (refine wpAny_isSubtype_exc hC ?_; rw [hcont]) | refine wpAny_staticBase_exc hC ?_ | refine wpAny_madeBy_exc hC ?_ | simp only [bne_self_eq_false, Bool.false_eq_true, if_false] | wp_step)
  exact hq
end
section
variable {prog : Program} {w : World} {A : Around} {E : Value → Shared → Prop} {R : Result → Shared → Prop} {h : Heap} {g : Array GenState} {d : Drawn} {t : Nat} {os : OsState}
variable {nm q : Str} {C N : Addr} {bs bm bmB : List Value} {hdct : Bool} {sn : List Str} {sub : List Value} {ab : Bool} {col : Option Bool} {dd : Option Addr} {k0 k1 k2 k3 k5 : Option Value} {B newId initId : String} {kn : Str} {kv : Value}
theorem new_kw (F : ExcBaseFacts B newId initId bmB) (hT : ∀ X : String, bm.contains (.type X) = bmB.contains (.type X)) (hC : h.get? C = some (excClassObj nm q C N bs bm hdct sn sub ab col dd k0 k1 k2 k3 k5 newId))
    (hq : R (.ok (.ret (.ref (h.objs.size + 1)))) ⟨(h.push { cls := .type "tuple", data := .seq ([] : List Value).toArray }).push { cls := .ref C, data := .fields #[.ref h.objs.size, .none, .none, .none, .bool false, .none] }, g, d, t, os⟩) :
    codeAny (model prog w) A (.builtin newId ⟨[.ref C], [(kn, kv)]⟩) R ⟨h, g, d, t, os⟩ := by
  have hends := F.ends
  have hcB : (Value.ref C :: bm).contains (.type B) = true := by rw [List.contains_cons, hT, F.hasB, Bool.or_true]
  have hcA : (Value.ref C :: bm).contains (.type "AttributeError") = false := by rw [List.contains_cons, hT, F.noAttr]; rfl
  have hcN : (Value.ref C :: bm).contains (.type "NameError") = false := by rw [List.contains_cons, hT, F.noName]; rfl
  refine codeAny_builtinAt F.entry ?_
  unfold Builtin.«BaseException.__new__»
  refine wpAt_bind ?_
  show wpAt _ _ _ (stack >>= _) _ _ _
  refine wpAt_bind (wpAt_stack fun p below => wpAt_of_wpAny ?_)
  wp_walk
  refine wpAt_of_wpAny ?_
  rw [F.owner]
  repeat (first | with_reducible refine wpAny_madeHere_exc F.canon hC ?_ | with_reducible refine wpAny_loadPart_at hC ?_ | (with_reducible refine wpAny_isSubtype_exc hC ?_; first | rw [hcB] | rw [hcA] | rw [hcN]) | wp_step)
  show R _ _
  rw [Heap.size_push]
  exact hq
theorem tcall_kw (F : ExcBaseFacts B newId initId bmB) (hT : ∀ X : String, bm.contains (.type X) = bmB.contains (.type X)) {fI : Addr} {Q : Fin → Shared → Prop} (hC : h.get? C = some (excClassObj nm q C N bs bm hdct sn sub ab col dd k0 k1 k2 k3 k5 newId))
    (hi : W.Looks (model prog w) h (typeLookup (.ref C) "__init__") (some (.ref fI))) (hb : ∀ self, W.Looks (model prog w) h (bindSpecial (.ref fI) self) (.ref fI, [self]))
    (hq : codeAny (model prog w) A (.call (.ref fI) ⟨[.ref (h.objs.size + 1)], [(kn, kv)]⟩) (fun r s' => match r with | .ok (.ret v) => v = .none ∧ Q (.done (.ret (.ref (h.objs.size + 1)))) s' | .ok _ => False | .error e => E e s') ⟨(h.push (W.kdv_tup [])).push (excO C h.objs.size), g, d, t, os⟩) :
    wpAny (model prog w) A (Builtin.«type.__call__» ⟨[.ref C], [(kn, kv)]⟩) Q E ⟨h, g, d, t, os⟩ := by
  repeat (first | with_reducible refine wpAny_loadPart_at hC ?_ | with_reducible refine wpAny_madeBy_exc hC ?_ | wp_step)
  refine codeAny_call_builtin_code (Code.quiet_builtin _ F.quiet) (new_ckw F hT hC ?_)
  refine new_kw F hT hC ?_
  show wpAny _ _ _ _ _ _
  have k : ∀ b o, h.get? b = some o → ((h.push (W.kdv_tup [])).push (excO C h.objs.size)).get? b = some o := fun b o e => Heap.get?_push_of_some _ (Heap.get?_push_of_some _ e)
  have hC1 := k _ _ hC
  have hget : ((h.push (W.kdv_tup [])).push (excO C h.objs.size)).get? (h.objs.size + 1) = some (excO C h.objs.size) := by heap_get
  have hcC : (Value.ref C :: bm).contains (.ref C) = true := by simp
  have i1 := hi.keeps k
  have b1 := (hb (.ref (h.objs.size + 1))).keeps k
  unfold isInstance
  repeat (first | with_reducible refine wpAny_loadPart_at hget ?_ | (with_reducible refine wpAny_isSubtype_exc hC1 ?_; rw [hcC]) | wp_step)
  show wpAny _ _ (typeLookup (.ref C) _) _ _ _
  refine i1.at (wpAny_holding (wpAny_bind (b1.at (wpAny_bind (wpAny_call (codeAny_mono hq fun r s' z => ?_))))))
  rcases r with e | (v | _ | _ | _) <;> first | exact z | exact z.elim | skip
  obtain ⟨rfl, z⟩ := z
  first
    | exact wpAny_pure (wpAny_pure z)
    | (wp_walk; exact z)
theorem tc_ckw {M : Model} {Q : Unit → Shared → Prop} (hC : h.get? C = some (excClassObj nm q C N bs bm hdct sn sub ab col dd k0 k1 k2 k3 k5 newId)) (hq : Q () ⟨h, g, d, t, os⟩) : wpAny M A (checkBuiltinCall "type.__call__" ⟨[.ref C], [(kn, kv)]⟩) Q E ⟨h, g, d, t, os⟩ := by
  have f3 := tc_sub
  have hT : (⟨h, g, d, t, os⟩ : Shared).TypeIs (.ref C) "type" := ⟨_, hC, rfl⟩
  simp only [checkBuiltinCall, tc_kind, tc_split]
  repeat (any_goals (first | assumption | with_reducible refine wpAny_loadPart_at hC ?_ | with_reducible refine wpAny_onRaise ?_ | with_reducible refine wpAny_map ?_ | wp_step))
theorem call_kw (F : ExcBaseFacts B newId initId bmB) (hT : ∀ X : String, bm.contains (.type X) = bmB.contains (.type X)) {fI : Addr} (hC : h.get? C = some (excClassObj nm q C N bs bm hdct sn sub ab col dd k0 k1 k2 k3 k5 newId))
    (hi : W.Looks (model prog w) h (typeLookup (.ref C) "__init__") (some (.ref fI))) (hb : ∀ self, W.Looks (model prog w) h (bindSpecial (.ref fI) self) (.ref fI, [self]))
    (hq : codeAny (model prog w) (A.under (.builtin "type.__call__" ⟨[.ref C], [(kn, kv)]⟩)) (.call (.ref fI) ⟨[.ref (h.objs.size + 1)], [(kn, kv)]⟩) (W.InitBack (h.objs.size + 1) R) ⟨(h.push (W.kdv_tup [])).push (excO C h.objs.size), g, d, t, os⟩) :
    codeAny (model prog w) A (.call (.ref C) ⟨[], [(kn, kv)]⟩) R ⟨h, g, d, t, os⟩ := by
  have f1 := tc_lookup
  have f2 := tc_bind (.ref C)
  have hTy : (⟨h, g, d, t, os⟩ : Shared).TypeIs (.ref C) "type" := ⟨_, hC, rfl⟩
  refine codeAny_of_tree ?_
  show wpAny _ _ (callAny (.ref C) _) _ _ _
  repeat (any_goals (first | assumption | with_reducible refine wpAny_loadPart_at hC ?_ | wp_step))
  refine ⟨rfl, ?_⟩
  refine codeAny_call_builtin_at (Code.quiet_builtin _ (by decide +kernel)) entry_typeCall (tc_ckw hC (tcall_kw F hT hC hi hb ?_))
  refine codeAny_mono hq fun r s' z => ?_
  rcases r with e | (v | _ | _ | _) <;> exact z
end
end Py
namespace Py
open PySem

/-! ### what a call binds -/
theorem kw_loop {ns : List Str} {f : Str × Value → List (Str × Value) × List (Str × Value) → Sem (ForInStep (List (Str × Value) × List (Str × Value)))}
    (hf : ∀ x s, ns.contains x.1 = true → (s.1.lookup x.1).isSome = false → f x s = pure (.yield (s.1 ++ [x], s.2))) : ∀ (kw slots : List (Str × Value)), (∀ x ∈ kw, ns.contains x.1 = true) → (kw.map (·.1)).Nodup → (∀ x ∈ kw, (slots.lookup x.1).isSome = false) → forIn kw (slots, []) f = pure (slots ++ kw, [])
  | [], slots, _, _, _ => by rw [List.append_nil]; rfl
  | x :: kw, slots, h1, h2, h3 => by
    rw [List.forIn_cons, hf x (slots, []) (h1 x List.mem_cons_self) (h3 x List.mem_cons_self)]
    rw [pure_bind]
    dsimp only
    have hn := List.nodup_cons.mp (show ((x.1 :: kw.map (·.1))).Nodup from h2)
    rw [kw_loop hf kw (slots ++ [x]) (fun y hy => h1 y (List.mem_cons_of_mem _ hy)) hn.2 fun y hy => ?_]
    · rw [List.append_assoc]; rfl
    · rw [List.lookup_append]
      have e := h3 y (List.mem_cons_of_mem _ hy)
      cases q : slots.lookup y.1 with
      | some v => rw [q] at e; cases e
      | none =>
        have ne : (y.1 == x.1) = false := by
          cases q2 : y.1 == x.1 with
          | false => rfl
          | true =>
            have e2 : y.1 = x.1 := by simpa using q2
            exact absurd (e2 ▸ List.mem_map_of_mem (f := (·.1)) hy) hn.1
        obtain ⟨x1, x2⟩ := x
        simp only [List.lookup] at ne ⊢
        rw [ne]
        rfl
theorem all_found {ns : List Str} {sl : List (Str × Value)} : (∀ n ∈ ns, (sl.lookup n).isSome = true) → ns.filterMap (fun n => (sl.lookup n).map (n, ·)) = ns.zip (ns.filterMap fun n => sl.lookup n) := by
  induction ns with
  | nil => intro _; rfl
  | cons n ns ih =>
    intro h
    obtain ⟨v, hv⟩ := Option.isSome_iff_exists.mp (h n List.mem_cons_self)
    rw [List.filterMap_cons, hv, List.filterMap_cons, hv]
    show _ :: _ = _ :: _
    rw [ih fun m hm => h m (List.mem_cons_of_mem _ hm)]
    rfl
theorem bind_kw {name qual : Str} {as : List Arg} {body : List Stmt} {scope : Scope} {kV doc pm cdv ct : Value} {an : Option Addr} {us : List Value} {kw : List (Str × Value)} (hl : us.length ≤ as.length)
    (h1 : ∀ x ∈ kw, (as.map (·.arg)).contains x.1 = true) (h2 : (kw.map (·.1)).Nodup) (h3 : ∀ x ∈ kw, (((as.map (·.arg)).zip us).lookup x.1).isSome = false) (h4 : ∀ n ∈ as.map (·.arg), (((as.map (·.arg)).zip us ++ kw).lookup n).isSome = true) :
    bindArgs (PySem.W.fnOf name qual ⟨[], as, none, [], [], none, []⟩ body scope .none kV doc pm an cdv ct) ⟨us, kw⟩ = pure ((as.map (·.arg)).zip ((as.map (·.arg)).filterMap fun n => ((as.map (·.arg)).zip us ++ kw).lookup n)) := by
  unfold bindArgs
  simp only [PySem.W.fnOf, List.map_nil, List.nil_append, List.append_nil, List.contains_nil, Bool.or_false, Option.isSome_none, Bool.false_eq_true, if_false]
  rw [← List.length_map (f := (·.arg)) (as := as)] at hl
  generalize as.map (·.arg) = ns at *
  rw [kw_loop (ns := ns) (fun x s a b => by rw [if_pos a, b]; rfl) kw _ h1 h2 h3]
  rw [pure_bind]
  have e0 : seqItems? Value.none = pure none := rfl
  rw [e0, pure_bind]
  have hm : (ns.take ns.length).filter (fun n => ((ns.zip us ++ kw).lookup n).isNone) = [] := by
    rw [List.take_length, List.filter_eq_nil_iff]
    intro n hn
    obtain ⟨v, hv⟩ := Option.isSome_iff_exists.mp (h4 n hn)
    rw [hv]; exact fun z => nomatch z
  have hd : ns.drop ns.length = [] := List.drop_length ..
  have hg2 : (decide (us.length > ns.length) && true) = false := by simp; omega
  rw [← all_found h4]
  simp [hm, hd, hl]
  rw [if_neg (by omega)]
  simp only [List.drop_nil, List.length_nil, Nat.sub_zero, hm]
  rfl
theorem zip_found : ∀ {ns : List Str} {us : List Value}, ns.Nodup → us.length = ns.length → (ns.filterMap fun n => (ns.zip us).lookup n) = us ∧ ∀ n ∈ ns, ((ns.zip us).lookup n).isSome = true
  | [], us, _, h => by
    have : us = [] := List.length_eq_zero_iff.mp h
    subst this
    exact ⟨rfl, fun n hn => nomatch hn⟩
  | n :: ns, [], _, h => by simp at h
  | n :: ns, u :: us, hd, h => by
    obtain ⟨h1, h2⟩ := List.nodup_cons.mp hd
    obtain ⟨a, b⟩ := zip_found (us := us) h2 (by simpa using h)
    have key : ∀ m ∈ ns, (((n, u) :: ns.zip us).lookup m) = (ns.zip us).lookup m := fun m hm => by
      have ne : (m == n) = false := by
        cases q : m == n with
        | false => rfl
        | true => exact absurd ((show m = n by simpa using q) ▸ hm) h1
      simp only [List.lookup, ne]
    refine ⟨?_, fun m hm => ?_⟩
    · show (n :: ns).filterMap (fun m => ((n, u) :: ns.zip us).lookup m) = _
      rw [List.filterMap_cons]
      have e : ((n, u) :: ns.zip us).lookup n = some u := by simp [List.lookup]
      rw [e]
      show u :: _ = u :: us
      congr 1
      refine Eq.trans ?_ a
      clear a b
      have : ∀ l : List Str, (∀ m ∈ l, m ∈ ns) → l.filterMap (fun m => ((n, u) :: ns.zip us).lookup m) = l.filterMap fun m => (ns.zip us).lookup m := by
        intro l
        induction l with
        | nil => intro _; rfl
        | cons x l ih =>
          intro hx
          rw [List.filterMap_cons, List.filterMap_cons, key x (hx x List.mem_cons_self), ih fun m hm => hx m (List.mem_cons_of_mem _ hm)]
      exact this ns fun _ h => h
    · rcases List.mem_cons.mp hm with e | hm
      · subst e
        simp [List.lookup]
      · show (((n, u) :: ns.zip us).lookup m).isSome = true
        rw [key m hm]
        exact b m hm
theorem bind_pos {name qual : Str} {as : List Arg} {body : List Stmt} {scope : Scope} {kV doc pm cdv ct : Value} {an : Option Addr} {us : List Value} (hn : (as.map (·.arg)).Nodup) (hl : us.length = (as.map (·.arg)).length) :
    bindArgs (PySem.W.fnOf name qual ⟨[], as, none, [], [], none, []⟩ body scope .none kV doc pm an cdv ct) ⟨us, []⟩ = pure ((as.map (·.arg)).zip us) := by
  obtain ⟨a, b⟩ := zip_found hn hl
  rw [bind_kw (by rw [hl, List.length_map]; exact Nat.le_refl _) (kw := []) (fun x hx => by cases hx) List.nodup_nil (fun x hx => by cases hx) (by rw [List.append_nil]; exact b)]
  rw [List.append_nil, a]
/-- one by place, one by its name -/
theorem bind_11 {name qual : Str} {as : List Arg} {body : List Stmt} {scope : Scope} {kV doc pm cdv ct : Value} {an : Option Addr} {u w : Value} {x y : Str} (hn : as.map (·.arg) = [x, y]) (hne : (y == x) = false) :
    bindArgs (PySem.W.fnOf name qual ⟨[], as, none, [], [], none, []⟩ body scope .none kV doc pm an cdv ct) ⟨[u], [(y, w)]⟩ = pure ([x, y].zip [u, w]) := by
  have hl : as.length = 2 := by rw [← List.length_map (f := (·.arg)), hn]; rfl
  have e1 : (([x, y].zip [u]).lookup y) = none := by simp only [List.zip, List.zipWith, List.lookup, hne]
  have e2 : (([x, y].zip [u] ++ [(y, w)]).lookup x) = some u := by simp [List.zip, List.zipWith, List.lookup]
  have e3 : (([x, y].zip [u] ++ [(y, w)]).lookup y) = some w := by simp only [List.zip, List.zipWith, List.lookup, hne, List.cons_append, List.nil_append, BEq.rfl]
  rw [bind_kw (by rw [hl]; exact Nat.le_succ 1) (fun z hz => ?_) (by simp) (fun z hz => ?_) (fun n hn' => ?_), hn]
  · simp only [List.filterMap_cons, e2, e3, List.filterMap_nil]
  · rw [List.mem_singleton.mp hz, hn]; simp
  · rw [List.mem_singleton.mp hz, hn, e1]; rfl
  · rw [hn] at hn' ⊢
    rcases List.mem_cons.mp hn' with e | hn'
    · rw [e, e2]; rfl
    · rw [List.mem_singleton.mp hn', e3]; rfl
end Py
namespace Py
open PySem L2 PySem.Spec
open PyProof.Rows (AllBare)

/-- a method call on one line -/
theorem mcTree {o : Expr} {nm : Str} {apos pos : Pos} {args : List Expr} {kws : List Keyword} {env : Env} (hb : attributeBase o nm env (eval o env) = eval o env) (hf : methodCallForm (args.length + kws.length) (backTo pos (starEach args env)) (backToKw pos (keywordEach kws env)) = true) (hl : (apos.endLine == pos.line) = true) :
    eval (.Call (.Attribute o nm apos) args kws pos) env = (do
      let ov ← eval o env
      standAt apos.atName
      let (f, first) ← holding [ov] (getMethod ov nm (do return (← importBound o env).getD true))
      callWith pos f first (backTo pos (starEach args env)) (backToKw pos (keywordEach kws env))) := by
  rw [arm_eval_Call, hb]
  congr
  funext ov
  congr
  funext _
  unfold methodCall calleeOf methodCallPos
  rw [hf, hl]
  rfl
/-! ### __init__ of an own exception -/
/-- the base that is named in __init__ -/
structure IniB (K : PySem.W.Frag) (mg : Str → Option Value) (B : Str) (b : XB) : Prop where
  it : (∃ C0, mg B = some (.ref C0) ∧ PySem.W.readsIn K C0 (.type "type") = true ∧ PySem.W.specialIn K (.ref C0) "__getattribute__" = some (some (.builtin "type.__getattribute__")) ∧ PySem.W.findCls K (.ref C0) (.type "type") "__init__" = some (.val (.builtin b.initId))) ∨
    (mg B = none ∧ B = b.nm ∧ PySem.W.findCls K (.type b.nm) (.type "type") "__init__" = some (.val (.builtin b.initId)))
theorem XB.boot : ∀ b : XB, bootBuiltins b.nm = some (.type b.nm)
  | .ve => PyProof.Rows.Boot.«ValueError»
  | .oe => PyProof.Rows.Boot.«OverflowError»
  | .re => PyProof.Rows.Boot.«RuntimeError»
theorem XB.typ : ∀ b : XB, typeOf (.type b.nm) = pure (.type "type")
  | .ve => by kernel_rfl
  | .oe => by kernel_rfl
  | .re => by kernel_rfl
theorem XB.nostub : ∀ b : XB, Manifest.isStub b.nm = false
  | .ve => by decide +kernel
  | .oe => by decide +kernel
  | .re => by decide +kernel
theorem XB.hand : ∀ b : XB, PySem.W.handedIn (.builtin b.initId) = true
  | .ve => by decide +kernel
  | .oe => by decide +kernel
  | .re => by decide +kernel
theorem XB.nameOk : ∀ b : XB, (b.nm : Str) ≠ "__name__" ∧ ((b.nm : Str) == ("__debug__" : Str)) = false
  | .ve => by decide +kernel
  | .oe => by decide +kernel
  | .re => by decide +kernel
def tXi (K : PySem.W.Frag) (f : Str) (b : XB) (ta : TA) : TE := fun σ H Q => ta σ H fun vs H1 => ∃ (a C : Addr) (ws : List V), vs = .ref a :: ws ∧ ws.length ≤ 1000 ∧ XcC K C f b ∧ H1 a = some (exo a C none) ∧ Q .non H1
section
variable {X : Cx} {e o : Expr} {es : List Expr} {ta : TA} {p p' p1 p2 pos : Pos} {f B ini : Str} {b : XB}
theorem pe_xinit {pl : Sem Bool} (hi : ini = "__init__") (hg : Gl X B) (hB : IniB X.K X.mg B b) (hdb : (B == ("__debug__" : Str)) = false) (ha : PA X (e :: es) ta)
    (hc : eval (.Call (.Attribute (.Name B p1) ini p2) (e :: es) [] pos) X.env = (do
      let ov ← eval (.Name B p1) X.env
      standAt p2.atName
      let (f, first) ← holding [ov] (getMethod ov ini pl)
      callWith pos f first (backTo pos (starEach (e :: es) X.env)) (backToKw pos (keywordEach [] X.env))))
    (he : starEach (e :: es) X.env = (false, eval e X.env) :: starEach es X.env) (hpl : (backTo pos (starEach es X.env)).any (·.1) = false) :
    PE X (.Call (.Attribute (.Name B p1) ini p2) (e :: es) [] pos) (tXi X.K f b ta) := by
  subst hi
  refine ⟨fun pins s σ H Q I h => ?_⟩
  have go : ∀ tk, wpAny (model X.prog X.w) X.A (callWith pos (Value.builtin b.initId) [] (backTo pos (starEach (e :: es) X.env)) (backToKw pos (keywordEach [] X.env))) (EP X pins σ Q) X.xe { s with toks := tk } := fun tk => by
    show wpAny _ _ (callWith pos (Value.builtin b.initId) [] (backTo pos (starEach (e :: es) X.env)) []) _ _ _
    refine PyProof.Rows.callWith_method1 (thn (ha.run pos pins _ σ H _ (I.tok _) h) fun us s1 ⟨vs, H1, I1, r1, a, C, ws, ev, hl, T, ea, q⟩ => ?_) he hpl
    subst ev
    cases r1 with
    | @cons _ u0 _ ur ra rw' =>
      obtain rfl : u0 = Value.ref a := ra
      exact init_any T I1 ea (by rw [← Paired.length rw', sizeLine_eq]; omega) fun s' J => ⟨.non, H1, J, rfl, q⟩
  rcases hB.it with ⟨C0, h1, h2, h3, h4⟩ | ⟨h1, h2, h3⟩
  · refine PySem.W.methodCall_KW (ld_glob I hg h1 ?_ hdb) hc
    exact PySem.W.method_cls I.kIn h3 (PySem.W.cls_value I.kIn h2 h4 b.hand (go _))
  · subst h2
    refine PySem.W.methodCall_KW (ld_blt I hg h1 b.boot ?_ b.nameOk.1 b.nameOk.2) hc
    obtain ⟨m, fr⟩ := I.fr
    exact PySem.W.method_type fr I.ok.mod.kin b.typ b.nostub h3 b.hand (go _)
def tOst1 (K : PySem.W.Frag) (f : Str) (b : XB) (to te : TE) : TS := fun D σ H => te σ H fun y H1 => to σ H1 fun x H2 => ∃ a C : Addr, x = .ref a ∧ XcC K C f b ∧ H2 a = some (exo a C none) ∧ ∀ dx, H2 dx = none → dx ≠ a → D.nx σ (upd (upd H2 dx (exd dx [(f, y)])) a (exo a C (some dx)))
theorem ps_ost1 {to te : TE} (ho : PE X o to) (he : PE X e te) (hs : swapsWith e (some (.Attribute o f p')) pos.line X.env = pure false) : PS X (.Assign [.Attribute o f p'] e pos) (tOst1 X.K f b to te) := by
  refine ⟨fun pins s σ H D I h => ?_⟩
  refine plainObj_wpAny_Assign_Attribute (thn (he.run pins s σ H _ I h) fun v s1 ⟨y, H1, I1, r1, q1⟩ => thn (ho.run pins s1 σ H1 _ I1 q1) fun u s2 ⟨x, H2, I2, r2, a, C, ex, T, ea, q⟩ => ?_) hs
  subst ex
  obtain rfl : u = Value.ref a := r2
  exact ost_first T I2 ea r1 fun dx s' n ne J => ⟨σ, _, J, q dx n ne⟩
end
/-- the two lines of __init__ -/
def iniOk (body : List Stmt) (sc : Scope) (B s a f : Str) : Bool := match body with
  | [.Expr (.Call (.Attribute (.Name B' _) i q0) [.Name s' _, .Constant (.str _) _ _] [] q) _, .Assign [.Attribute (.Name s2 _) f' _] (.Name a' _) _] =>
    (q0.endLine == q.line) && (decide (B' = B) && (decide (i = "__init__") && (decide (s' = s) && (decide (s2 = s) && (decide (f' = f) && (decide (a' = a) && (decide (sc.names.lookup B = some .globalImplicit) && (decide (sc.names.lookup s = some .local) && (decide (sc.names.lookup a = some .local) &&
    (!(B == ("__debug__" : Str)) && (!(s == ("__debug__" : Str)) && (!(a == ("__debug__" : Str)) && (!(s == ("__classdict__" : Str)) && !(a == ("__classdict__" : Str)))))))))))))))
  | _ => false
theorem ini_fn {P : Program} {w : World} {K : PySem.W.Frag} {mg : Str → Option Value} {base : Heap} {fI C : Addr} {name qual : Str} {params : Arguments} {body : List Stmt} {scope : Scope} {dV kV doc pm cdv ct oc : Value} {an od : Option Addr} {osl : Array (Option Value)} {B s a f : Str} {b : XB}
    (lk : K.lookup fI = some ⟨oc, od, .func (PySem.W.fnOf name qual params body scope dV kV doc pm an cdv ct), osl⟩) (hcd : PySem.W.codeIn K cdv qual = true) (S : FnScope [s, a] [s, a] scope) (T : XcC K C f b) (hB : IniB K mg B b) (hok : iniOk body scope B s a f = true) :
    FnG P w K mg base 1 fI (PySem.W.fnOf name qual params body scope dV kV doc pm an cdv ct) [s, a] (spI C f) := by
  unfold iniOk at hok
  split at hok
  · rename_i B' p1 i p2 s' p3 x1 x2 x3 p4 p5 s2 p6 f' p7 a' p8 p9
    obtain ⟨e1, hok⟩ := Bool.and_eq_true_iff.mp hok
    simp only [Bool.and_eq_true, decide_eq_true_eq, Bool.not_eq_true'] at hok
    obtain ⟨rfl, e2, rfl, rfl, rfl, rfl, l1, l2, l3, d1, d2, d3, c2, c3⟩ := hok
    subst e2
    refine fnG_of (k := 0) lk hcd S (fun vs H Q E ⟨_, _, h, _⟩ => by rw [h]; rfl) fun A outer s H vs Q E hr hg h => ?_
    refine ⟨_, pss_cons (ps_expr (pe_xinit (f := f') rfl l1 hB d1 (pa_cons (pe_var (i := 0) rfl (.inl l2) d2 c2) (pa_cons pe_str pa_nil rfl) rfl) (mcTree rfl rfl e1) rfl rfl) rfl) (pss_cons (ps_ost1 (b := b) (pe_var (i := 0) rfl (.inl l2) d2 c2) (pe_var (i := 1) rfl (.inl l3) d3 c3) rfl) pss_nil), ?_⟩
    obtain ⟨q, y, rfl, ea, hq⟩ := h
    refine ⟨_, rfl, q, C, [_], rfl, show 1 ≤ 1000 by decide, T, ea, ?_⟩
    exact ⟨y, rfl, _, rfl, q, C, rfl, T, ea, hq⟩
  · cases hok
/-! ### the exception made -/
theorem exq_ok {P : Program} {w : World} {H : Hp} {h : Heap} {e C dx t1 : Addr} (he : h.get? e = some ({ cls := .ref C, dict := some dx, data := .fields #[.ref t1, .none, .none, .none, .bool false, .none] } : Obj)) : ObjOk P w H h e (exq e C dx) :=
  ⟨⟨_, _, he, ⟨rfl, rfl⟩, rfl, show 4 < 6 by decide⟩, ⟨_, he⟩, fun h1 h2 z k => by
    obtain ⟨oe, vs, q, r⟩ := z
    exact ⟨oe, vs, k _ q, r⟩⟩
theorem exq_ne {e C dx : Addr} {o : HO} (h : ∀ φ, o ≠ .ext φ) : exq e C dx ≠ o := fun z => h _ z.symm
section
variable {X : Cx} {pins : List (Addr × Obj)} {σ : L2.St} {H1 : Hp} {s1 : Shared} {C : Addr} {f : Str} {y : V} {u : Value}
theorem gd_make {A : Around} {us : List Value} {kw : List (Str × Value)} (h : A.guards = some []) : (A.under (.builtin "type.__call__" ⟨.ref C :: us, kw⟩)).guards = some [] := by
  first | exact h | (simp [Around.under, Code.isGuard, guardIds, h])
/-- behind __init__: the exception and its dict stand -/
theorem mk_val {H2 : Hp} {hp hp2 h2 : Heap} {g1 g2 : Array GenState} {d1 d2 : Drawn} {t1 t2 : Nat} {os1 os2 : OsState} {a d : Addr} {fs : List (Str × V)} (I1 : Inv X pins σ H1 ⟨hp, g1, d1, t1, os1⟩) (ha : hp.objs.size ≤ a) (k : ∀ b o, hp.get? b = some o → hp2.get? b = some o)
    (un : Un (frs X.stack) [] (upd H1 a (exo a C none)) H2 hp2 h2) (hok : HOk X.prog X.w H2 h2) (ho : os2 = os1) (hb : AllBare g2) (ea : H2 a = some (exo a C (some d))) (ed : H2 d = some (exd d fs)) (hd1 : H1 d = none) :
    d ≠ a ∧ Inv X pins σ (upd (upd H2 a (exq a C d)) d (.xd fs)) ⟨h2, g2, d2, t2, os2⟩ := by
  obtain ⟨t0, hoe⟩ := exo_at hok ea
  obtain ⟨mA, hns, rel⟩ := exd_at hok ed
  have hn : H1 a = none := I1.hok.fresh ha
  have hda : d ≠ a := fun z => by
    obtain ⟨o, es, ep, e1, e2, _⟩ := hns
    rw [z, hoe] at e1
    have z2 := Option.some.inj e1
    subst z2
    cases e2
  have nha : ∀ {b : Addr} {o : Obj}, hp.get? b = some o → b ≠ a := fun {b o} z => Nat.ne_of_lt (Nat.lt_of_lt_of_le (Heap.lt_size z) ha)
  have up : ∀ {b : Addr}, b ≠ a → H1 b = none → upd H1 a (exo a C none) b = none := fun {b} hb n => by rw [upd_ne hb]; exact n
  have nd : ∀ {b : Addr} {o : Obj}, hp.get? b = some o → H1 b = none → b ≠ d := fun {b o} z n e => by
    have y := un.free b o (k b o z) (up (nha z) n) (by simp)
    rw [e, ed] at y; cases y
  refine ⟨hda, I1.call' (ch := []) ho ⟨fun b o z n hf hx => un.keep b o (k b o z) (up (nha z) n) hf hx, fun b o z n hf hx => un.slot b o (k b o z) (up (nha z) n) hf hx, fun b o z n hx => ?_, fun b o z hx => un.there b o (k b o z) hx, fun b xs z => ?_, fun b o v z => ?_, fun b ps z => ?_⟩ (fun b o z => ?_) hb (fun b z => absurd z (by simp))⟩
  · rw [upd_ne (nd z n), upd_ne (nha z)]
    exact un.free b o (k b o z) (up (nha z) n) hx
  · rw [upd_ne (ne_of_none z hd1), upd_ne (ne_of_none z hn)]
    exact un.tups b xs (by rw [upd_ne (ne_of_none z hn)]; exact z)
  · rw [upd_ne (ne_of_none z hd1), upd_ne (ne_of_none z hn)]
    exact un.frzs b o v (by rw [upd_ne (ne_of_none z hn)]; exact z)
  · rw [upd_ne (ne_of_none z hd1), upd_ne (ne_of_none z hn)]
    exact un.tbls b ps (by rw [upd_ne (ne_of_none z hn)]; exact z)
  · by_cases hbd : b = d
    · subst hbd
      rw [upd_same] at z; cases z
      exact ⟨mA, hns, rel⟩
    · rw [upd_ne hbd] at z
      by_cases hba : b = a
      · subst hba
        rw [upd_same] at z; cases z
        exact exq_ok hoe
      · rw [upd_ne hba] at z
        have noa : ∀ {c : Addr}, H2 c = some (.own b) → c ≠ a := fun {c} hc => at_ne ea hc exo_own
        exact (hok b o z).stay (fun c v hc q => q) (fun c hc => by rw [upd_ne (at_ne ed hc exd_own), upd_ne (noa hc)]; exact hc) (fun c xs hc => by rw [upd_ne (at_ne ed hc exd_tup), upd_ne (at_ne ea hc exo_tup)]; exact hc)
/-- the call of the class at C with one value, by place -/
theorem mk_call {Q : Value → Shared → Prop} (M : MkX X.prog X.w X.K X.mg X.base C f) (hr : Room 2 X.A) (hg : X.A.guards = some []) (I1 : Inv X pins σ H1 s1) (ry : RelV y u)
    (hq : ∀ (a d : Addr) (H2 : Hp) (hp2 : Heap) (s' : Shared), s1.heap.objs.size ≤ a → (∀ b o, s1.heap.get? b = some o → hp2.get? b = some o) → Un (frs X.stack) [] (upd H1 a (exo a C none)) H2 hp2 s'.heap → HOk X.prog X.w H2 s'.heap → s'.os = s1.os → AllBare s'.gens → H2 = upd (upd (upd H1 a (exo a C none)) d (exd d [(f, y)])) a (exo a C (some d)) → H1 d = none → d ≠ a → Q (.ref a) s') :
    wpAny (model X.prog X.w) X.A (call (.ref C) [u]) Q X.xe s1 := by
  obtain ⟨b, fI, fd, sf, T, iC, tI, F1, hb, hb1⟩ := M.ex
  obtain ⟨nm, N, qn, bs, bm, hdct, sn, sub, ab, col, dd, k0, k1, k2, k3, k5, hC, hT⟩ := PySem.W.excInit_of I1.kIn T.iB
  obtain ⟨hp, g, dr, tk, os⟩ := s1
  have hsz : hp.objs.size ≤ hp.objs.size + 1 := Nat.le_succ _
  have hn : H1 (hp.objs.size + 1) = none := I1.hok.fresh hsz
  have kk : ∀ b o, hp.get? b = some o → ((hp.push (PySem.W.kdv_tup [u])).push (PySem.HandSPX.excO C hp.objs.size)).get? b = some o := fun b o e => Heap.get?_push_of_some _ (Heap.get?_push_of_some _ e)
  have hget : ((hp.push (PySem.W.kdv_tup [u])).push (PySem.HandSPX.excO C hp.objs.size)).get? (hp.objs.size + 1) = some (PySem.HandSPX.excO C hp.objs.size) := by heap_get
  have I2 : Inv X pins σ (upd H1 (hp.objs.size + 1) (exo (hp.objs.size + 1) C none)) ⟨(hp.push (PySem.W.kdv_tup [u])).push (PySem.HandSPX.excO C hp.objs.size), g, dr, tk, os⟩ :=
    I1.laid (t' := tk) (a := hp.objs.size + 1) (o := exo (hp.objs.size + 1) C none) (h' := (hp.push (PySem.W.kdv_tup [u])).push (PySem.HandSPX.excO C hp.objs.size)) kk hsz (exo_ok hget)
  have r2 : Vals [V.ref (hp.objs.size + 1), y] [Value.ref (hp.objs.size + 1), u] := .cons rfl (.cons ry .nil)
  refine wpAny_call (PySem.HandSPX.call_own b.facts hT hC (PySem.W.looks_findIn I1.kIn iC) (fun self => PySem.W.bind_fn I1.kIn self tI) (by show 1 ≤ sizeLine; rw [sizeLine_eq]; omega)
    (codeAny_mono (F1.run _ X.stack _ _ ⟨[Value.ref (hp.objs.size + 1), u], []⟩ [Value.ref (hp.objs.size + 1), u] _ (fun v H2 => v = .non ∧ ∃ d, H2 = upd (upd (upd H1 (hp.objs.size + 1) (exo (hp.objs.size + 1) C none)) d (exd d [(f, y)])) (hp.objs.size + 1) (exo (hp.objs.size + 1) C (some d)) ∧ H1 d = none ∧ d ≠ hp.objs.size + 1) (fun _ _ _ => False) (hr.make C [u] []) (gd_make hg) (I2.env0.make C [u] []) (hb _ [Value.ref (hp.objs.size + 1), u] I2.kIn rfl) r2 ?_) fun r s' hq' => ?_))
  · refine ⟨hp.objs.size + 1, y, rfl, upd_same, fun dx h1 h2 => ⟨rfl, dx, rfl, ?_, h2⟩⟩
    rw [upd_ne h2] at h1; exact h1
  · cases r with
    | error er =>
      obtain ⟨_, _, _, _, _, _, _, _, _, _, _, _, z⟩ := hq'
      exact z.elim
    | ok fl =>
      cases fl with
      | ret u' =>
        obtain ⟨v, H2, os2, bare2, un2, hok2, rv, ev, d, e2, hd1, hda⟩ := hq'
        subst ev
        exact ⟨rv, hq _ d H2 _ s' hsz kk un2 hok2 os2 bare2 e2 hd1 hda⟩
      | next => exact False.elim hq'
      | brk => exact False.elim hq'
      | cont => exact False.elim hq'
/-- the call of the class at C with one value, by its name -/
theorem mk_callK {Q : Value → Shared → Prop} (M : MkX X.prog X.w X.K X.mg X.base C f) (hr : Room 2 X.A) (hg : X.A.guards = some []) (I1 : Inv X pins σ H1 s1) (ry : RelV y u)
    (hq : ∀ (a d : Addr) (H2 : Hp) (hp2 : Heap) (s' : Shared), s1.heap.objs.size ≤ a → (∀ b o, s1.heap.get? b = some o → hp2.get? b = some o) → Un (frs X.stack) [] (upd H1 a (exo a C none)) H2 hp2 s'.heap → HOk X.prog X.w H2 s'.heap → s'.os = s1.os → AllBare s'.gens → H2 = upd (upd (upd H1 a (exo a C none)) d (exd d [(f, y)])) a (exo a C (some d)) → H1 d = none → d ≠ a → Q (.ref a) s') :
    wpAny (model X.prog X.w) X.A (call (.ref C) [] [(f, u)]) Q X.xe s1 := by
  obtain ⟨b, fI, fd, sf, T, iC, tI, F1, hb, hb1⟩ := M.ex
  obtain ⟨nm, N, qn, bs, bm, hdct, sn, sub, ab, col, dd, k0, k1, k2, k3, k5, hC, hT⟩ := PySem.W.excInit_of I1.kIn T.iB
  obtain ⟨hp, g, dr, tk, os⟩ := s1
  have hsz : hp.objs.size ≤ hp.objs.size + 1 := Nat.le_succ _
  have hn : H1 (hp.objs.size + 1) = none := I1.hok.fresh hsz
  have kk : ∀ b o, hp.get? b = some o → ((hp.push (PySem.W.kdv_tup [])).push (PySem.HandSPX.excO C hp.objs.size)).get? b = some o := fun b o e => Heap.get?_push_of_some _ (Heap.get?_push_of_some _ e)
  have hget : ((hp.push (PySem.W.kdv_tup [])).push (PySem.HandSPX.excO C hp.objs.size)).get? (hp.objs.size + 1) = some (PySem.HandSPX.excO C hp.objs.size) := by heap_get
  have I2 : Inv X pins σ (upd H1 (hp.objs.size + 1) (exo (hp.objs.size + 1) C none)) ⟨(hp.push (PySem.W.kdv_tup [])).push (PySem.HandSPX.excO C hp.objs.size), g, dr, tk, os⟩ :=
    I1.laid (t' := tk) (a := hp.objs.size + 1) (o := exo (hp.objs.size + 1) C none) (h' := (hp.push (PySem.W.kdv_tup [])).push (PySem.HandSPX.excO C hp.objs.size)) kk hsz (exo_ok hget)
  have r2 : Vals [V.ref (hp.objs.size + 1), y] [Value.ref (hp.objs.size + 1), u] := .cons rfl (.cons ry .nil)
  refine wpAny_call (call_kw b.facts hT hC (PySem.W.looks_findIn I1.kIn iC) (fun self => PySem.W.bind_fn I1.kIn self tI)
    (codeAny_mono (F1.run _ X.stack _ _ ⟨[Value.ref (hp.objs.size + 1)], [(f, u)]⟩ [Value.ref (hp.objs.size + 1), u] _ (fun v H2 => v = .non ∧ ∃ d, H2 = upd (upd (upd H1 (hp.objs.size + 1) (exo (hp.objs.size + 1) C none)) d (exd d [(f, y)])) (hp.objs.size + 1) (exo (hp.objs.size + 1) C (some d)) ∧ H1 d = none ∧ d ≠ hp.objs.size + 1) (fun _ _ _ => False) (hr.make C [] [(f, u)]) (gd_make hg) (I2.env0.make C [] [(f, u)]) (hb1 _ _ _) r2 ?_) fun r s' hq' => ?_))
  · refine ⟨hp.objs.size + 1, y, rfl, upd_same, fun dx h1 h2 => ⟨rfl, dx, rfl, ?_, h2⟩⟩
    rw [upd_ne h2] at h1; exact h1
  · cases r with
    | error er =>
      obtain ⟨_, _, _, _, _, _, _, _, _, _, _, _, z⟩ := hq'
      exact z.elim
    | ok fl =>
      cases fl with
      | ret u' =>
        obtain ⟨v, H2, os2, bare2, un2, hok2, rv, ev, d, e2, hd1, hda⟩ := hq'
        subst ev
        exact ⟨rv, hq _ d H2 _ s' hsz kk un2 hok2 os2 bare2 e2 hd1 hda⟩
      | next => exact False.elim hq'
      | brk => exact False.elim hq'
      | cont => exact False.elim hq'
end
end Py
namespace Py
open PySem L2 PySem.Spec
open PyProof.Rows (AllBare)

/-! ### exceptions as values, raised; their fields; isinstance -/
section
variable {K : PySem.W.Frag} {r : Rho} {H : Hp} {m : Sto}
/-- a fresh thing of the heap that the store does not know -/
theorem SR.aside {p : Addr} {ho : HO} (s : SR K r H m) (hp : H p = none) : SR K r (upd H p ho) m := by
  refine ⟨fun n o h => ?_, s.inj, s.fresh, s.lt, fun n a h => ?_⟩
  · obtain ⟨a, h1, h2⟩ := s.at_ n o h
    exact ⟨a, h1, h2.keep (Ext.refl r) (TK.new hp) fun b x hx _ => by rw [upd_ne (ne_of_none hx hp)]; exact hx⟩
  · obtain ⟨o, ho'⟩ := s.dom n a h
    exact ⟨o, by rw [upd_ne (ne_of_none ho' hp)]; exact ho'⟩
theorem SR.newX {a d : Addr} {c f : Str} {x : D} {y : V} (s : SR K r H m) (ha : H a = none) (hd : H d = none) (hda : d ≠ a) (hx : RD K r H x y) :
    Ext r (rput r m.nx a) ∧ TK H (upd (upd H d (.xd [(f, y)])) a (exq a (He.ga K c) d)) ∧ SR K (rput r m.nx a) (upd (upd H d (.xd [(f, y)])) a (exq a (He.ga K c) d)) (m.new (.exc c [(f, x)])) := by
  have s1 : SR K r (upd H d (.xd [(f, y)])) m := s.aside hd
  have ha1 : (upd H d (.xd [(f, y)])) a = none := by rw [upd_ne (Ne.symm hda)]; exact ha
  have e : Ext r (rput r m.nx a) := rput_ext (s.fresh _ (Nat.le_refl _))
  have k : TK H (upd (upd H d (.xd [(f, y)])) a (exq a (He.ga K c) d)) := (TK.new hd).trans (TK.new ha1)
  refine ⟨e, k, s1.new (o := .exc c [(f, x)]) ha1 ⟨d, [(f, y)], upd_same, ?_, .cons (hx.mono e k) .nil⟩⟩
  rw [upd_ne hda, upd_same]
end
section
variable {X : Cx} {W : WX} {k : Nat} {G : Gb} {C : Cf}
theorem H3_eq {H1 : Hp} {a d c : Addr} {f : Str} {y : V} (hda : d ≠ a) : upd (upd (upd (upd (upd H1 a (exo a c none)) d (exd d [(f, y)])) a (exo a c (some d))) a (exq a c d)) d (.xd [(f, y)]) = upd (upd H1 d (.xd [(f, y)])) a (exq a c d) := funext fun b => by
  by_cases h1 : b = d
  · subst h1; rw [upd_same, upd_ne hda, upd_same]
  · rw [upd_ne h1]
    by_cases h2 : b = a
    · subst h2; rw [upd_same, upd_same]
    · rw [upd_ne h2, upd_ne h2, upd_ne h1, upd_ne h2, upd_ne h2, upd_ne h1]
theorem H4_eq {H1 : Hp} {a d c : Addr} {f : Str} {y : V} (hda : d ≠ a) (ha : H1 a = none) : upd (L2.del (upd (upd (upd H1 a (exo a c none)) d (exd d [(f, y)])) a (exo a c (some d))) a) d (.xd [(f, y)]) = upd H1 d (.xd [(f, y)]) := funext fun b => by
  by_cases h1 : b = d
  · subst h1; rw [upd_same, upd_same]
  · rw [upd_ne h1, upd_ne h1]
    by_cases h2 : b = a
    · subst h2; rw [del_same, ha]
    · rw [del_ne h2, upd_ne h2, upd_ne h1, upd_ne h2]
theorem mkx_read {c f : Str} {ea : E} {s : L2.St} {H : Hp} {Q : VK} (e : G.exf c = some f) (h : tE X.K W (evE G C (.mkx c ea)) s H Q) : tE X.K W (evE G C ea) s H (fun y H1 => ∀ a d, H1 a = none → H1 d = none → d ≠ a → Q (.ref a) (upd (upd H1 d (.xd [(f, y)])) a (exq a (He.ga X.K c) d))) := by
  obtain ⟨r, as, m, hl, hs, hf⟩ := h
  simp only [evE] at hf
  refine tE_of hl hs (R.sat_bind hf) fun r1 m1 d v H1 e1 k1 hl1 hs1 rd p => ?_
  simp only [e] at p
  intro a dd ha hd hda
  obtain ⟨e2, k2, s2⟩ := hs1.newX (c := c) (f := f) ha hd hda rd
  exact p _ _ _ (e1.trans e2) (k1.trans k2) s2 (.ref rput_same)
theorem rai_read {c f : Str} {ea : E} {s : L2.St} {H : Hp} {N : Ends} (e : G.exf c = some f) (h : tS X.K W (evS G C (.rai c ea)) N s H) : tE X.K W (evE G C ea) s H (fun y H1 => ∀ d, H1 d = none → W (.ref (He.ga X.K c)) (some d) s (upd H1 d (.xd [(f, y)]))) := by
  obtain ⟨r, as, m, hl, hs, hf⟩ := h
  simp only [evS] at hf
  refine tE_of hl hs (thn_sat hl hf) fun r1 m1 d v H1 e1 k1 hl1 hs1 rd p => ?_
  simp only [e] at p
  intro dd hd
  have k2 : TK H1 (upd H1 dd (.xd [(f, v)])) := TK.new hd
  exact p r1 s _ dd [(f, v)] e1 (k1.trans k2) (hl1.mono (Ext.refl _) k2) (hs1.aside hd) upd_same (.cons (rd.mono (Ext.refl _) k2) .nil)
theorem Pg.kpC {P : Program} {w : World} {K : PySem.W.Frag} {mg : Str → Option Value} {base : Heap} {c f : Str} (M : MkX P w K mg base (He.ga K c) f) : PySem.W.keepIn K (.ref (He.ga K c)) = true := by
  obtain ⟨b, _, _, _, T, _⟩ := M.ex
  exact T.kp
theorem xe_mkx (z : Cz X W k G C) {c f : Str} {e : Expr} {ea : E} {p pos : Pos} (hx : G.exf c = some f) (hg : Gl X c) (hdb : (c == ("__debug__" : Str)) = false) (ha : PE X e (tE X.K W (evE G C ea))) (hst : starEach [e] X.env = (false, eval e X.env) :: starEach [] X.env) :
    PE X (.Call (.Name c p) [e] [] pos) (tE X.K W (evE G C (.mkx c ea))) := by
  obtain ⟨h1, h2, M⟩ := z.pg.exc c f hx
  refine ⟨fun pins s σ H Q I h => ?_⟩
  have h := mkx_read (X := X) hx h
  refine wpAny_Call_Name_kw (ld_glob I hg h1 ?_ hdb)
  refine PySem.W.callWith_K (h₀ := X.base) I.ok.mod.kin (Pg.kpC M) (thn ((pa_cons ha pa_nil hst).run pos pins s σ H (fun vs H1 => ∃ y, vs = [y] ∧ ∀ a d, H1 a = none → H1 d = none → d ≠ a → Q (.ref a) (upd (upd H1 d (.xd [(f, y)])) a (exq a (He.ga X.K c) d))) I ?_) fun us s1 ⟨vs, H1, I1, r1, y, ev, q1⟩ => ⟨I1.kIn, ?_⟩) hst rfl
  · obtain ⟨r, as, m, hl, hs, hf⟩ := h
    exact ⟨r, as, m, hl, hs, R.sat_mono hf (fun d m1 p r1 H1 v a b c d => ⟨v, rfl, p r1 H1 v a b c d⟩) fun _ _ _ q => q⟩
  · subst ev
    cases r1 with
    | @cons _ u _ _ ra rn =>
      cases rn
      show wpAny _ _ (call (.ref _) [u]) _ _ _
      refine mk_call M (z.room.mono h2) z.gd I1 ra fun a d H2 hp2 s' g1 g2 g3 g4 g5 g6 g7 g8 g9 => ?_
      obtain ⟨hp, g, dr, tk, os⟩ := s1
      obtain ⟨hp', g', dr', tk', os'⟩ := s'
      have na : H1 a = none := I1.hok.fresh g1
      obtain ⟨_, J⟩ := mk_val (d2 := dr') (t2 := tk') (fs := [(f, y)]) I1 g1 g2 g3 g4 g5 g6 (by rw [g7, upd_same]) (by rw [g7, upd_ne g9, upd_same]) g8
      rw [g7, H3_eq g9] at J
      exact ⟨.ref a, _, J, rfl, q1 a d na g8 g9⟩
theorem xe_mkxK (z : Cz X W k G C) {c f : Str} {e : Expr} {ea : E} {p pos kp : Pos} (hx : G.exf c = some f) (hg : Gl X c) (hdb : (c == ("__debug__" : Str)) = false) (ha : PE X e (tE X.K W (evE G C ea))) :
    PE X (.Call (.Name c p) [] [⟨some f, e, kp⟩] pos) (tE X.K W (evE G C (.mkx c ea))) := by
  obtain ⟨h1, h2, M⟩ := z.pg.exc c f hx
  refine ⟨fun pins s σ H Q I h => ?_⟩
  have h := mkx_read (X := X) hx h
  refine wpAny_Call_Name_kw (ld_glob I hg h1 ?_ hdb)
  refine PySem.W.callWith_KW0 (h₀ := X.base) I.ok.mod.kin (Pg.kpC M) rfl (thn ((pk_cons (nm := some f) (kpos := kp) ha pk_nil).run pos pins s σ H (fun vs H1 => ∃ y, vs = [y] ∧ ∀ a d, H1 a = none → H1 d = none → d ≠ a → Q (.ref a) (upd (upd H1 d (.xd [(f, y)])) a (exq a (He.ga X.K c) d))) I ?_) fun us s1 ⟨vs, H1, I1, r1, y, ev, q1⟩ => ⟨I1.kIn, ?_⟩) rfl
  · obtain ⟨r, as, m, hl, hs, hf⟩ := h
    exact ⟨r, as, m, hl, hs, R.sat_mono hf (fun d m1 p r1 H1 v a b c d => ⟨v, rfl, p r1 H1 v a b c d⟩) fun _ _ _ q => q⟩
  · subst ev
    cases r1 with
    | @cons _ u _ _ ra rn =>
      cases rn
      show wpAny _ _ (call (.ref _) [] [(f, u)]) _ _ _
      refine mk_callK M (z.room.mono h2) z.gd I1 ra fun a d H2 hp2 s' g1 g2 g3 g4 g5 g6 g7 g8 g9 => ?_
      obtain ⟨hp, g, dr, tk, os⟩ := s1
      obtain ⟨hp', g', dr', tk', os'⟩ := s'
      have na : H1 a = none := I1.hok.fresh g1
      obtain ⟨_, J⟩ := mk_val (d2 := dr') (t2 := tk') (fs := [(f, y)]) I1 g1 g2 g3 g4 g5 g6 (by rw [g7, upd_same]) (by rw [g7, upd_ne g9, upd_same]) g8
      rw [g7, H3_eq g9] at J
      exact ⟨.ref a, _, J, rfl, q1 a d na g8 g9⟩
/-- raise c(e) -/
theorem xx_rai (z : Cz X W k G C) {c f : Str} {e : Expr} {ea : E} {p pos rpos : Pos} (hx : G.exf c = some f) (hg : Gl X c) (hdb : (c == ("__debug__" : Str)) = false) (ha : PE X e (tE X.K W (evE G C ea))) (hst : starEach [e] X.env = (false, eval e X.env) :: starEach [] X.env) :
    PS X (.Raise (some (.Call (.Name c p) [e] [] pos)) none rpos) (tS X.K W (evS G C (.rai c ea))) := by
  obtain ⟨h1, h2, M⟩ := z.pg.exc c f hx
  have mk : PMk X (.Call (.Name c p) [e] [] pos) (fun σ H Q => tE X.K W (evE G C ea) σ H fun y H1 => ∀ d, H1 d = none → Q (.ref (He.ga X.K c)) (some d) (upd H1 d (.xd [(f, y)]))) := by
    intro pins s σ H Q I h
    refine wpAny_Call_Name_kw (ld_glob I hg h1 ?_ hdb)
    refine PySem.W.callWith_K (h₀ := X.base) I.ok.mod.kin (Pg.kpC M) (thn ((pa_cons ha pa_nil hst).run pos pins s σ H (fun vs H1 => ∃ y, vs = [y] ∧ ∀ d, H1 d = none → Q (.ref (He.ga X.K c)) (some d) (upd H1 d (.xd [(f, y)]))) I ?_) fun us s1 ⟨vs, H1, I1, r1, y, ev, q1⟩ => ⟨I1.kIn, ?_⟩) hst rfl
    · obtain ⟨r, as, m, hl, hs, hf⟩ := h
      exact ⟨r, as, m, hl, hs, R.sat_mono hf (fun d m1 p r1 H1 v a b c d => ⟨v, rfl, p r1 H1 v a b c d⟩) fun _ _ _ q => q⟩
    · subst ev
      cases r1 with
      | @cons _ u _ _ ra rn =>
        cases rn
        show wpAny _ _ (call (.ref _) [u]) _ _ _
        refine mk_call M (z.room.mono h2) z.gd I1 ra fun a d H2 hp2 s' g1 g2 g3 g4 g5 g6 g7 g8 g9 => ?_
        obtain ⟨hp, g, dr, tk, os⟩ := s1
        obtain ⟨hp', g', dr', tk', os'⟩ := s'
        have na : H1 a = none := I1.hok.fresh g1
        obtain ⟨b, _, _, _, T, _⟩ := M.ex
        refine mk_end (fs := [(f, y)]) (raises_own T.ex T.ty) I1 g1 g2 g3 g4 g5 g6 (by rw [g7, upd_same]) (by rw [g7, upd_ne g9, upd_same]) g8 ?_
        rw [g7, H4_eq g9 na]
        exact q1 d g8
  exact PS.imp (ps_raise z.calm z.tk mk) fun N s H h => rai_read hx h
/-- the field of an exception -/
theorem lkF_v {K : PySem.W.Frag} {r : Rho} {H : Hp} {f : Str} : ∀ {fs : List (Str × D)} {gs : List (Str × V)} {d : D}, RF K r H fs gs → lkF f fs = some d → ∃ v, gs.lookup f = some v ∧ RD K r H d v
  | _, _, _, .nil, e => by cases e
  | _, _, d, .cons (f := g) (d := d') (v := v) a b, e => by
    unfold lkF at e
    dsimp only at e
    cases q : eqS f g with
    | true =>
      rw [q] at e; cases e
      have := eqS_iff.mp q
      subst this
      exact ⟨v, by simp [List.lookup], a⟩
    | false =>
      rw [q] at e
      obtain ⟨w, h1, h2⟩ := lkF_v b e
      refine ⟨w, ?_, h2⟩
      have ne : (f == g) = false := by
        cases q2 : f == g with
        | false => rfl
        | true =>
          have : f = g := by simpa using q2
          rw [eqS_iff.mpr this] at q; cases q
      simp only [List.lookup, ne]
      exact h1
theorem xe_att (z : Cz X W k G C) {e : Expr} {ea : E} {f : Str} {pos : Pos} (ha : PE X e (tE X.K W (evE G C ea))) (hb : attributeBase e f X.env (eval e X.env) = eval e X.env) : PE X (.Attribute e f pos) (tE X.K W (evE G C (.att ea f))) := by
  refine ⟨fun pins s σ H Q I h => ?_⟩
  obtain ⟨r, as, m, hl, hs, hf⟩ := h
  simp only [evE] at hf
  have h2 : tE X.K W (evE G C ea) σ H (fun v H1 => ∃ r1 m1 d, SR X.K r1 H1 m1 ∧ RD X.K r1 H1 d v ∧ (fldD G d f m1).sat (Post X.K r1 H1 Q) (fun _ _ _ => False)) :=
    tE_of hl hs (R.sat_bind hf) fun r1 m1 d v H1 e1 k1 hl1 hs1 rd p => ⟨r1, m1, d, hs1, rd, R.calm_sat (R.fwd p e1 k1)⟩
  refine attr_of hb (thn (ha.run pins s σ H _ I h2) fun u s1 hh => ?_)
  obtain ⟨x, H1, I1, rx, r1, m1, d, hs1, rd, q⟩ := hh
  unfold fldD at q
  cases rd with
  | @ref n a hn =>
    dsimp only at q
    cases e1 : m1.get n with
    | none => simp only [e1] at q; exact (show False from q).elim
    | some o =>
      cases o with
      | exc c fs =>
        simp only [e1] at q
        cases e2 : G.exf c with
        | none => simp only [e2] at q; exact (show False from q).elim
        | some g =>
          simp only [e2] at q
          cases e3 : eqS g f with
          | false => simp only [e3] at q; exact (show False from q).elim
          | true =>
            simp only [e3] at q
            have := eqS_iff.mp e3
            subst this
            cases e4 : lkF g fs with
            | none => rw [e4] at q; exact (show False from q).elim
            | some dv =>
              rw [e4] at q
              obtain ⟨a', h1, dx, ys, hx, hy, rf⟩ := hs1.at_ n _ e1
              rw [hn] at h1; cases h1
              obtain ⟨v, l, rv⟩ := lkF_v rf e4
              obtain ⟨_, _, M⟩ := z.pg.exc c g e2
              obtain ⟨b, _, _, _, T, _⟩ := M.ex
              obtain rfl : u = Value.ref a := rx
              have hx' : ObjOk X.prog X.w H1 s1.heap dx (.xd ys) := I1.hok dx _ hy
              obtain ⟨mA, hns, hr⟩ := hx'
              obtain ⟨od, ho, hl⟩ := lookIn_ns hns
              obtain ⟨u, hu, ru⟩ := RelO.some_of (v := v) (o := mA g) (by rw [← l]; exact hr g)
              have hq : ObjOk X.prog X.w H1 s1.heap a (.ext fun h => ∃ (oe : Obj) (vs : Array Value), h.get? a = some oe ∧ Zc (.ref (He.ga X.K c)) (some dx) oe ∧ oe.data = .fields vs ∧ 4 < vs.size) := I1.hok a _ hx
              obtain ⟨⟨oe, vs, hoe, hz, hd, _⟩, _⟩ := hq
              have J : PySem.W.InstAt s1.heap a oe (He.ga X.K c) (some od) := ⟨hoe, hz.1, by unfold PySem.W.notCls; rw [hd] <;> rfl, by rw [hz.2]; exact ho⟩
              exact HandSPX.exc_get I1.kIn J T.ga T.gg T.ex (PySem.W.findObj_own T.hd T.nof rfl (by rw [hl, hu])) (handed_of ru) ⟨v, H1, I1.tok _, ru, same hs1 rv q⟩
      | _ => simp only [e1] at q; exact (show False from q).elim
  | _ => exact (show False from q).elim
/-! ### isinstance -/
theorem kit_sub {K : PySem.W.Frag} {t u : BT} {b : Bool} (h : subB t u = some b) : PySem.W.kitOne K (.type t.name) (.type u.name) = some b := by
  cases t <;> cases u <;> first | (cases h; done) | (cases h; rfl)
theorem tyx_of {r : Rho} {H : Hp} {m : Sto} {d : D} {v : V} {t : BT} (hs : SR X.K r H m) (h : RD X.K r H d v) (e : tyD m d = some (.b t)) : TyX X.K H v (.type t.name) := by
  cases h with
  | non => cases e; exact .base .non
  | bl b => cases e; exact .base (.bl b)
  | int i => cases e; exact .base (.int i)
  | str x => cases e; exact .base (.str x)
  | shw p => cases e; exact .base (.str _)
  | tup s h =>
    cases e
    rcases s with s | s
    · rcases s with s | ⟨o, s⟩
      · exact .base (.tup s)
      · exact .fTuple s
    · obtain ⟨o, its, n, s1, s2, _⟩ := s
      exact .kTuple s1 s2
  | ty n => cases e
  | gl x => cases e
  | @ref n a ha =>
    unfold tyD at e
    dsimp only at e
    cases e1 : m.get n with
    | none => simp only [e1] at e; cases e
    | some o =>
      obtain ⟨a', h1, h2⟩ := hs.at_ n o e1
      rw [ha] at h1; cases h1
      cases o with
      | lst xs => simp only [e1] at e; cases e; obtain ⟨ys, h3, _⟩ := h2; exact .base (.lst h3)
      | dct xs => simp only [e1] at e; cases e; obtain ⟨ys, h3, _⟩ := h2; exact .base (.dK h3)
      | _ => simp only [e1] at e; cases e
theorem cr_isi (z : Cz X W k G C) : CallR X (.builtin "isinstance") (rDs X.K (biD G .isi)) := by
  intro pins s σ H vs us Q I rv h
  obtain ⟨r, m, ds, hs, hd, hf⟩ := h
  change (bIsi G ds m).sat _ _ at hf
  unfold bIsi at hf
  split at hf
  · rename_i d c
    cases hd with
    | @cons _ _ v _ rd rest =>
      cases rest with
      | @cons _ _ w _ rc rn =>
        cases rn
        cases e : tyD m d with
        | none => simp only [e] at hf; exact (show False from hf).elim
        | some t =>
          cases t with
          | b t =>
            simp only [e] at hf
            cases rc with
            | ty n =>
              dsimp only at hf
              cases e2 : subB t n with
              | none => simp only [e2] at hf; exact (show False from hf).elim
              | some b =>
                simp only [e2] at hf
                exact call_isi pins s σ H _ us Q I rv ⟨v, .ty n.name, .type t.name, .type n.name, b, rfl, .ty _, tyx_of hs rd e, kit_sub e2, same hs (.bl b) hf⟩
            | _ => exact (show False from hf).elim
          | own x =>
            simp only [e] at hf
            have key : ∀ {u : Value} {b : Bool}, ClsV w u → (∃ f y, XcC X.K (He.ga X.K x) f y) → PySem.W.kitOne X.K (.ref (He.ga X.K x)) u = some b → (R.ok (D.bl b) m).sat (Post X.K r H Q) (fun _ _ _ => False) → wpAny (model X.prog X.w) X.A (call (.builtin "isinstance") us) (EP X pins σ Q) X.xe s := fun {u b} cv ht ek q => by
              obtain ⟨f, y, T⟩ := ht
              obtain ⟨u1, u2, rfl, r1, r2⟩ := vals2 rv
              have e2 := cv.eq r2
              subst e2
              have hx : ∃ n a dx, d = .ref n ∧ v = .ref a ∧ H a = some (exq a (He.ga X.K x) dx) ∧ ∃ ys, H dx = some (.xd ys) := by
                cases rd with
                | @ref n a ha =>
                  unfold tyD at e
                  dsimp only at e
                  cases e1 : m.get n with
                  | none => simp only [e1] at e; cases e
                  | some o =>
                    obtain ⟨a', h1, h2⟩ := hs.at_ n o e1
                    rw [ha] at h1; cases h1
                    cases o with
                    | exc c fs => simp only [e1] at e; cases e; obtain ⟨dx, ys, h3, h4, _⟩ := h2; exact ⟨n, a, dx, rfl, rfl, h3, ys, h4⟩
                    | _ => simp only [e1] at e; cases e
                | _ => cases e
              obtain ⟨n, a, dx, rfl, rfl, ha, ys, hy⟩ := hx
              obtain rfl : u1 = Value.ref a := r1
              have hx' : ObjOk X.prog X.w H s.heap dx (.xd ys) := I.hok dx _ hy
              obtain ⟨mA, hns, hr⟩ := hx'
              obtain ⟨od, ho, hl⟩ := lookIn_ns hns
              have hq : ObjOk X.prog X.w H s.heap a (.ext fun h => ∃ (oe : Obj) (vs : Array Value), h.get? a = some oe ∧ Zc (.ref (He.ga X.K x)) (some dx) oe ∧ oe.data = .fields vs ∧ 4 < vs.size) := I.hok a _ ha
              obtain ⟨⟨oe, vs, hoe, hz, hd, _⟩, _⟩ := hq
              have J : PySem.W.InstAt s.heap a oe (He.ga X.K x) (some od) := ⟨hoe, hz.1, by unfold PySem.W.notCls; rw [hd] <;> rfl, by rw [hz.2]; exact ho⟩
              obtain ⟨cd, hcd, _⟩ := PySem.W.any_some T.hd
              exact PySem.W.kia_one (PySem.W.kitx_exc (by rw [hcd]; rfl) T.ga T.gg T.ex T.cl T.sp T.tk T.mr) I.kIn J ek (fun z => nomatch z) fun tk => ⟨.bl b, H, I.tok tk, rfl, same hs (.bl b) q⟩
            cases rc with
            | ty n =>
              dsimp only at hf
              cases e2 : G.sup x n with
              | none => simp only [e2] at hf; exact (show False from hf).elim
              | some b =>
                simp only [e2] at hf
                exact key (.ty _) (z.pg.sup _ _ _ e2).1 (z.pg.sup _ _ _ e2).2 hf
            | gl y =>
              dsimp only at hf
              cases e2 : G.cls x y with
              | none => simp only [e2] at hf; exact (show False from hf).elim
              | some b =>
                simp only [e2] at hf
                exact key (.own _) (z.pg.cls _ _ _ e2).1 (z.pg.cls _ _ _ e2).2 hf
            | _ => exact (show False from hf).elim
  · exact (show False from hf).elim
end
end Py
namespace Py
open PySem L2 PySem.Spec

section
variable {X : Cx} {W : WX} {k : Nat} {G : Gb} {C : Cf}
/-! ### dict displays -/
theorem xe_dc0 {pos : Pos} : PE X (.Dict [] [] pos) (tE X.K W (evE G C .dc0)) := PE.imp pe_dnewK fun s H Q ⟨r, as, m, hl, hs, hf⟩ => by
  simp only [evE] at hf
  intro p hp
  have e3 : Ext r (rput r m.nx p) := rput_ext (hs.fresh _ (Nat.le_refl _))
  have k3 : TK H (upd H p (.dK [])) := TK.new hp
  exact hf _ _ _ e3 k3 (hs.new (o := .dct []) hp ⟨[], upd_same, .nil⟩) (.ref rput_same)
def flatV : List (V × V) → List V
  | [] => []
  | p :: r => p.1 :: p.2 :: flatV r
structure XPs (X : Cx) (W : WX) (G : Gb) (C : Cf) (pos : Pos) (keys : List (Option Expr)) (values : List Expr) (a : E) : Prop where
  it : ∃ trs, PPs X pos keys values trs ∧ ∀ (s : L2.St) (H : Hp) (Q : List (V × V) → Hp → Prop), tAr X.K W (evA G C a) s H (fun vs H1 => ∀ ps, vs = flatV ps → Q ps H1) → tPairs trs s H Q
theorem xp_nil {pos : Pos} : XPs X W G C pos [] [] .nil := ⟨[], pps_nil, fun s H Q ⟨r, as, m, hl, hs, hf⟩ => by
  simp only [evA] at hf
  exact hf r H [] (Ext.refl r) (TK.refl H) hs .nil [] rfl⟩
theorem xp_cons {pos : Pos} {kx vx : Expr} {ks : List (Option Expr)} {vs : List Expr} {ea eb a : E} (hk : PE X kx (tE X.K W (evE G C ea))) (hv : PE X vx (tE X.K W (evE G C eb))) (hr : XPs X W G C pos ks vs a) : XPs X W G C pos (some kx :: ks) (vx :: vs) (.cons ea (.cons eb a)) := by
  obtain ⟨trs, h1, h2⟩ := hr.it
  refine ⟨_, pps_cons hk hv h1, fun s H Q h => ?_⟩
  obtain ⟨r, as, m, hl, hs, hf⟩ := h
  simp only [evA] at hf
  refine tE_of hl hs (R.sat_bind hf) fun r1 m1 d v H1 e1 k1 hl1 hs1 rd p => ?_
  refine tE_of hl1 hs1 (R.sat_bind (R.sat_bind (R.fwdA p e1 k1))) fun r2 m2 d2 v2 H2 e2 k2 hl2 hs2 rd2 p2 => ?_
  refine h2 s H2 _ (tA_of hl2 hs2 (R.sat_bind (R.sat_mono p2 (fun _ _ q => PostA.fwd q e2 k2) fun _ _ _ q => PostX.fwd q e2 k2)) fun r3 m3 d3 v3 H3 e3 k3 hl3 hs3 rd3 p3 => ?_)
  intro ps eq
  subst eq
  exact p3 r3 H3 (v :: v2 :: flatV ps) e3 k3 hs3 (.cons ((rd.mono e2 k2).mono e3 k3) (.cons (rd2.mono e3 k3) rd3)) ((v, v2) :: ps) rfl
theorem pairs_v {K : PySem.W.Frag} {r : Rho} {H : Hp} : ∀ {xs : List D} {ps : List (V × V)} {qs : List (Key × D)}, RDs K r H xs (flatV ps) → pairsD xs = some qs → ∃ kvs : List (Key × V), ps = kvs.map (fun kv => (kV kv.1, kv.2)) ∧ RKs K r H qs kvs
  | [], ps, _, h, e => by
    cases e
    cases ps with
    | nil => exact ⟨[], rfl, .nil⟩
    | cons p ps => cases h
  | [_], _, _, _, e => by cases e
  | x :: y :: xs, ps, qs, h, e => by
    cases ps with
    | nil => cases h
    | cons p ps =>
      cases h with
      | cons h1 h2 =>
        cases h2 with
        | cons h3 h4 =>
          unfold pairsD at e
          cases e1 : keyD x with
          | none => rw [e1] at e; cases e
          | some kk =>
            rw [e1] at e
            cases e2 : pairsD xs with
            | none => rw [e2] at e; cases e
            | some t =>
              rw [e2] at e; cases e
              obtain ⟨kvs, g1, g2⟩ := pairs_v h4 e2
              refine ⟨(kk, p.2) :: kvs, ?_, .cons h3 g2⟩
              rw [List.map_cons, ← g1, ← keyD_v e1 h1]
theorem mrg_v {K : PySem.W.Frag} {r : Rho} {H : Hp} : ∀ {qs : List (Key × D)} {kvs : List (Key × V)} {acc : List (Key × D)} {av : List (Key × V)}, RKs K r H qs kvs → RKs K r H acc av → RKs K r H (mrgK acc qs) (mergeK av kvs)
  | _, _, _, _, .nil, h => h
  | _, _, _, _, .cons a b, h => by
    unfold mrgK mergeK
    rw [List.foldl_cons]
    exact mrg_v b (h.put (fun _ _ => eqK_dec) _ a)
theorem xe_dic {pos : Pos} {keys : List (Option Expr)} {values : List Expr} {a : E} (h : XPs X W G C pos keys values a) (hall : keys.all (·.isSome) = true) (hl : keys.length = values.length) (h0 : keys ≠ []) (h15 : keys.length ≤ 15) : PE X (.Dict keys values pos) (tE X.K W (evE G C (.dic a))) := by
  obtain ⟨trs, h1, h2⟩ := h.it
  refine PE.imp (pe_disp h1 hall hl h0 h15) fun s H Q ⟨r, as, m, hl, hs, hf⟩ => ?_
  simp only [evE] at hf
  intro p hp
  have e3 : Ext r (rput r m.nx p) := rput_ext (hs.fresh _ (Nat.le_refl _))
  have k3 : TK H (upd H p (.dK [])) := TK.new hp
  have hs3 := hs.new (o := .dct []) hp ⟨[], upd_same, .nil⟩
  refine h2 s _ _ (tA_of (hl.mono e3 k3) hs3 (R.sat_mono (R.sat_bind hf) (fun _ _ q => q) fun _ _ _ q => PostX.fwd q e3 k3) fun r1 m1 d v H1 e1 k1 hl1 hs1 rd q => ?_)
  intro ps eq
  subst eq
  have q := R.calm_sat q
  unfold dspD at q
  cases e : m1.get m.nx with
  | none => simp only [e] at q; exact (show False from q).elim
  | some o =>
    cases o with
    | dct l =>
      cases l with
      | nil =>
        simp only [e] at q
        cases e2 : pairsD d with
        | none => simp only [e2] at q; exact (show False from q).elim
        | some qs =>
          simp only [e2] at q
          cases e4 : Nat.ble qs.length 15 with
          | false => simp only [e4] at q; exact (show False from q).elim
          | true =>
            simp only [e4] at q
            have q := putO_bind q
            obtain ⟨kvs, g1, g2⟩ := pairs_v rd e2
            obtain ⟨a', f1, ys, f2, f3⟩ := hs1.at_ _ _ e
            rw [e1 _ _ rput_same] at f1; cases f1
            cases f3
            refine ⟨f2, kvs, g1, by have := g2.length; have := Nat.le_of_ble_eq_true e4; omega, ?_⟩
            have mu : Mut (H1 p) := by rw [f2]; exact True.intro
            have k5 : TK H1 (upd H1 p (.dK (mergeK [] kvs))) := TK.mut mu
            exact q r1 _ _ (e3.trans e1) ((k3.trans k1).trans k5) (hs1.set e (e1 _ _ rput_same) mu ⟨_, upd_same, mrg_v (g2.mono (Ext.refl _) k5) .nil⟩) (.ref (e1 _ _ rput_same))
      | cons _ _ => simp only [e] at q; exact (show False from q).elim
    | _ => simp only [e] at q; exact (show False from q).elim
/-! ### slices -/
theorem sIx_eq {n d : Nat} {o : Option Int} : sIxD n d o = HT.sIx n d o := by
  cases o with
  | none => rfl
  | some i =>
    cases i with
    | ofNat k =>
      show (match Nat.ble k n with | true => k | false => n) = _
      rw [show (Int.ofNat k) = (k : Int) from rfl, HT.sIx_nat]
      cases e : Nat.ble k n with
      | true => have := Nat.le_of_ble_eq_true e; show k = min k n; omega
      | false =>
        have : ¬ k ≤ n := fun h => by rw [Nat.ble_eq_true_of_le h] at e; cases e
        show n = min k n; omega
    | negSucc k =>
      show n - (k + 1) = (if (Int.negSucc k) < 0 then ((Int.negSucc k) + (n : Int)).toNat else min (Int.negSucc k).toNat n)
      rw [if_pos (Int.negSucc_lt_zero k)]
      omega
theorem cut_v {K : PySem.W.Frag} {r : Rho} {H : Hp} {xs : List D} {ys : List V} {lo hi : Option Int} (h : RDs K r H xs ys) : RDs K r H (cutD xs lo hi) (cutV ys lo hi) := by
  unfold cutD cutV
  rw [sIx_eq, sIx_eq, h.length]
  exact (h.drop _).take _
def rSlD (K : PySem.W.Frag) : V → Option Int → Option Int → Hp → VK → Prop := fun x lo hi H Q => ∃ r m d, SR K r H m ∧ RD K r H d x ∧ (slD d lo hi m).sat (Post K r H Q) (fun _ _ _ => False)
theorem sl_any : SlR X (rSlD X.K) := by
  intro pins s σ H x v vl vu lo hi sl Q I rx hs0 pl pu h
  obtain ⟨r, m, d, hs, hd, hf⟩ := h
  unfold slD at hf
  cases hd with
  | @tup a xs ys sa ra =>
    refine sl_tupA pins s σ H _ v vl vu lo hi sl Q I rx hs0 pl pu ⟨a, ys, rfl, sa, fun hw => ?_, fun hw p hp => newT hs (cut_v ra) hf hp⟩
    have : cutV ys lo hi = ys := by
      unfold cutV
      rw [hw.1, hw.2, List.drop_zero, Nat.sub_zero, List.take_length]
    have c := cut_v (lo := lo) (hi := hi) ra
    rw [this] at c
    exact same hs (.tup sa c) hf
  | @ref n a ha =>
    dsimp only at hf
    cases e : m.get n with
    | none => simp only [e] at hf; exact (show False from hf).elim
    | some o =>
      cases o with
      | lst xs =>
        simp only [e] at hf
        obtain ⟨ys, ea, ra⟩ := hs.lst ha e
        exact sl_list pins s σ H _ v vl vu lo hi sl Q I rx hs0 pl pu ⟨a, ys, rfl, SqL.of ea, fun p hp => newL hs (cut_v ra) hf hp⟩
      | _ => simp only [e] at hf; exact (show False from hf).elim
  | _ => exact (show False from hf).elim
def tOz (K : PySem.W.Frag) (W : WX) (f : En → Sto → R (Option Int)) : TO := fun s H Q => ∃ r as m, SL K r H s as ∧ SR K r H m ∧ (f as m).sat (fun o m1 => ∀ r' H', Ext r r' → TK H H' → SR K r' H' m1 → Q o H') (PostX K r H W s)
theorem PO.imp {o : Option Expr} {t t' : TO} (h : PO X o t) (i : ∀ s H Q, t' s H Q → t s H Q) : PO X o t' := ⟨fun pins s σ H Q I q => h.run pins s σ H Q I (i _ _ _ q)⟩
theorem xo_none : PO X none (tOz X.K W (evO G C .nil)) := PO.imp po_none fun s H Q ⟨r, as, m, hl, hs, hf⟩ => by
  simp only [evO] at hf
  exact hf r H (Ext.refl _) (TK.refl _) hs
theorem xo_some {e : Expr} {ee r0 : E} (h : PE X e (tE X.K W (evE G C ee))) : PO X (some e) (tOz X.K W (evO G C (.cons ee r0))) := PO.imp (po_some h) fun s H Q ⟨r, as, m, hl, hs, hf⟩ => by
  simp only [evO] at hf
  refine tE_of hl hs (R.sat_bind hf) fun r1 m1 d v H1 e1 k1 hl1 hs1 rd p => ?_
  cases rd with
  | int i => exact ⟨i, rfl, p r1 H1 e1 k1 hs1⟩
  | _ => exact (show False from p).elim
theorem xe_slc {e : Expr} {lo hi : Option Expr} {ee el eh : E} {p2 pos : Pos} (he : PE X e (tE X.K W (evE G C ee))) (hl : PO X lo (tOz X.K W (evO G C el))) (hh : PO X hi (tOz X.K W (evO G C eh))) : PE X (.Subscript e (.Slice lo hi none p2) pos) (tE X.K W (evE G C (.slc ee el eh))) :=
  PE.imp (pe_slice sl_any he hl hh) fun s H Q ⟨r, as, m, hl, hs, hf⟩ => by
    simp only [evE] at hf
    refine tE_of hl hs (R.sat_bind hf) fun r1 m1 d v H1 e1 k1 hl1 hs1 rd p => ?_
    refine ⟨r1, as, m1, hl1, hs1, R.sat_mono (R.sat_bind (R.fwd p e1 k1)) (fun o m2 p2 r2 H2 e2 k2 hs2 => ?_) fun _ _ _ q => q⟩
    refine ⟨r2, as, m2, hl1.mono e2 k2, hs2, R.sat_mono (R.sat_bind (R.fwd p2 e2 k2)) (fun o3 m3 p3 r3 H3 e3 k3 hs3 => ?_) fun _ _ _ q => q⟩
    exact ⟨r3, m3, d, hs3, (rd.mono e2 k2).mono e3 k3, R.calm_sat (R.fwd p3 e3 k3)⟩
end
end Py
namespace Py
open PySem L2 PySem.Spec

/-! ### repr -/
theorem mapO_all {α β : Type} {f : α → Option β} {P : β → Prop} (h : ∀ x y, f x = some y → P y) : ∀ {xs : List α} {ys : List β}, mapO f xs = some ys → ∀ y ∈ ys, P y
  | [], ys, e, y, hy => by cases e; cases hy
  | x :: xs, ys, e, y, hy => by
    obtain ⟨b, t, e1, e2, rfl⟩ := mapO_cons e
    rcases List.mem_cons.mp hy with q | q
    · rw [q]; exact h x b e1
    · exact mapO_all h e2 y q
theorem show_all : ∀ {ps : List PyData}, (∀ p ∈ ps, p.showable = true) → PyData.showableAll ps = true
  | [], _ => rfl
  | p :: ps, h => by
    simp only [PyData.showableAll, Bool.and_eq_true]
    exact ⟨h p List.mem_cons_self, show_all fun q hq => h q (List.mem_cons_of_mem _ hq)⟩
theorem leaf_all {B : Nat} : ∀ {ps : List PyData}, (∀ p ∈ ps, p.leavesShort B = true) → PyData.leavesShortAll B ps = true
  | [], _ => rfl
  | p :: ps, h => by
    simp only [PyData.leavesShortAll, Bool.and_eq_true]
    exact ⟨h p List.mem_cons_self, leaf_all fun q hq => h q (List.mem_cons_of_mem _ hq)⟩
theorem depth_all {n : Nat} : ∀ {ps : List PyData}, (∀ p ∈ ps, p.depth ≤ n) → PyData.depthAll ps ≤ n
  | [], _ => by simp [PyData.depthAll]
  | p :: ps, h => by
    simp only [PyData.depthAll]
    have h1 := h p List.mem_cons_self
    have h2 := depth_all fun q hq => h q (List.mem_cons_of_mem _ hq)
    omega
theorem toR_ok : ∀ (k : Nat) {m : Sto} {d : D} {p : PyData}, toR k m d = some p → p.showable = true ∧ p.leavesShort 2000 = true ∧ p.depth ≤ k
  | 0, _, _, _, h => by cases h
  | k + 1, m, d, p, h => by
    have seqs : ∀ {xs : List D} {ps : List PyData}, mapO (toR k m) xs = some ps → PyData.showableAll ps = true ∧ PyData.leavesShortAll 2000 ps = true ∧ PyData.depthAll ps ≤ k := fun {xs ps} e => by
      have a := mapO_all (P := fun p => p.showable = true ∧ p.leavesShort 2000 = true ∧ p.depth ≤ k) (fun x y e => toR_ok k e) e
      exact ⟨show_all fun p hp => (a p hp).1, leaf_all fun p hp => (a p hp).2.1, depth_all fun p hp => (a p hp).2.2⟩
    unfold toR at h
    cases d with
    | non => cases h; exact ⟨rfl, rfl, by simp [PyData.depth]⟩
    | bl b => cases h; exact ⟨rfl, rfl, by simp [PyData.depth]⟩
    | int i =>
      dsimp only at h
      cases e : Nat.blt i.natAbs.log2 1900 with
      | false => rw [e] at h; cases h
      | true =>
        rw [e] at h; cases h
        have h1 : i.natAbs.log2 < 1900 := Nat.blt_eq.mp e
        refine ⟨by simp only [PyData.showable, decide_eq_true_eq]; omega, ?_, by simp [PyData.depth]⟩
        simp only [PyData.leavesShort, decide_eq_true_eq]
        have e := int_text_length_le (k := 1900) (by decide) h1
        show (Str.ofString (toString i)).length ≤ 2000
        rw [ofString_length]; omega
    | str x =>
      dsimp only at h
      cases e : okS x with
      | false => rw [e] at h; cases h
      | true =>
        rw [e] at h; cases h
        refine ⟨rfl, ?_, by simp [PyData.depth]⟩
        have := okS_strOk e
        exact PyData.leavesShort_of_canLay0 2000 (.str x) (by simpa only [PyData.canLay0] using this) rfl
    | tup xs =>
      obtain ⟨ps, e1, rfl⟩ := Option.map_eq_some_iff.mp h
      obtain ⟨a, b, c⟩ := seqs e1
      exact ⟨by simpa only [PyData.showable] using a, by simpa only [PyData.leavesShort] using b, by simp only [PyData.depth]; omega⟩
    | ref n =>
      dsimp only at h
      cases e : m.get n with
      | none => simp only [e] at h; cases h
      | some o =>
        cases o with
        | lst xs =>
          simp only [e] at h
          obtain ⟨ps, e1, rfl⟩ := Option.map_eq_some_iff.mp h
          obtain ⟨a, b, c⟩ := seqs e1
          exact ⟨by simpa only [PyData.showable] using a, by simpa only [PyData.leavesShort] using b, by simp only [PyData.depth]; omega⟩
        | dct l =>
          cases l with
          | nil => simp only [e] at h; cases h; exact ⟨rfl, rfl, by simp [PyData.depth, PyData.depthKv]⟩
          | cons _ _ => simp only [e] at h; cases h
        | _ => simp only [e] at h; cases h
    | _ => cases h
section
variable {X : Cx} {W : WX} {k0 : Nat} {G : Gb} {C : Cf}
theorem toR_reads {pins : List (Addr × Obj)} {σ : L2.St} {H : Hp} {s : Shared} {r : Rho} {m : Sto} (I : Inv X pins σ H s) (hs : SR X.K r H m) (hy : H sysModules = none) : ∀ (k : Nat) {d : D} {p : PyData} {v : V} {u : Value}, toR k m d = some p → RD X.K r H d v → RelV v u → ∃ as, Reads s.heap u p as ∧ sysModules ∉ as
  | 0, _, _, _, _, h, _, _ => by cases h
  | k + 1, d, p, v, u, h, rd, ru => by
    have ne : ∀ {a : Addr} {o : HO}, H a = some o → sysModules ≠ a := fun {a o} e z => by rw [← z, hy] at e; cases e
    have seqs : ∀ {xs : List D} {ps : List PyData} {vs : List V} {us : List Value}, mapO (toR k m) xs = some ps → RDs X.K r H xs vs → Vals vs us → ∃ as, ReadsAll s.heap us ps as ∧ sysModules ∉ as := by
      intro xs
      induction xs with
      | nil => intro ps vs us e rd ru; cases e; cases rd; cases ru; exact ⟨[], .nil, fun z => nomatch z⟩
      | cons x xs ih =>
        intro ps vs us e rd ru
        obtain ⟨b, t, e1, e2, rfl⟩ := mapO_cons e
        cases rd with
        | cons a c =>
          cases ru with
          | cons g1 g2 =>
            obtain ⟨as, h1, h2⟩ := toR_reads I hs hy k e1 a g1
            obtain ⟨bs, h3, h4⟩ := ih e2 c g2
            exact ⟨_, .cons h1 h3, fun z => (List.mem_append.mp z).elim h2 h4⟩
    unfold toR at h
    cases rd with
    | non => cases h; cases ru; exact ⟨_, .none, fun z => nomatch z⟩
    | bl b => cases h; cases ru; exact ⟨_, .bool b, fun z => nomatch z⟩
    | int i =>
      dsimp only at h
      cases e : Nat.blt i.natAbs.log2 1900 with
      | false => rw [e] at h; cases h
      | true => rw [e] at h; cases h; obtain ⟨t, rfl⟩ := ru; exact ⟨_, .int i t, fun z => nomatch z⟩
    | str x =>
      dsimp only at h
      cases e : okS x with
      | false => rw [e] at h; cases h
      | true => rw [e] at h; cases h; obtain ⟨t, rfl⟩ := ru; exact ⟨_, .str x t, fun z => nomatch z⟩
    | @tup a xs ys sa ra =>
      obtain ⟨ps, e1, rfl⟩ := Option.map_eq_some_iff.mp h
      cases ru
      obtain ⟨its, rv, ⟨o, ho, hc, n, hd⟩, _⟩ := I.tuple sa
      obtain ⟨as, h1, h2⟩ := seqs e1 ra rv
      exact ⟨_, .tuple ho hc hd h1, h2⟩
    | @ref n a ha =>
      dsimp only at h
      cases e : m.get n with
      | none => simp only [e] at h; cases h
      | some o =>
        cases o with
        | lst xs =>
          simp only [e] at h
          obtain ⟨ps, e1, rfl⟩ := Option.map_eq_some_iff.mp h
          cases ru
          obtain ⟨ys, ea, ra⟩ := hs.lst ha e
          obtain ⟨its, rv, ⟨o, n, ho, hc, _, hd⟩, _⟩ := I.list (SqL.of (K := X.K) ea)
          obtain ⟨as, h1, h2⟩ := seqs e1 ra rv
          exact ⟨_, .list ho hc hd h1, fun z => (List.mem_cons.mp z).elim (ne ea) h2⟩
        | dct l =>
          cases l with
          | nil =>
            simp only [e] at h; cases h
            cases ru
            obtain ⟨a', f1, ys, f2, f3⟩ := hs.at_ _ _ e
            rw [ha] at f1; cases f1
            cases f3
            obtain ⟨_, hd, vs, rel, o, es, ep, g1, g2, g3, g4, g5, g6⟩ := dk_of I.hok f2
            cases rel
            have es0 : es.toList = [] := by
              cases q : es.toList with
              | nil => rfl
              | cons _ _ => rw [q] at g5; cases g5
            exact ⟨_, .dict (as := []) (bs := []) g1 g2.1 g3 (by rw [es0]; exact .nil) (by rw [es0]; exact .nil), fun z => (List.mem_cons.mp z).elim (ne f2) fun z => nomatch z⟩
          | cons _ _ => simp only [e] at h; cases h
        | _ => simp only [e] at h; cases h
    | _ => cases h
theorem cr_repr (z : Cz X W k0 G C) : CallR X (.builtin "repr") (rDs X.K (biD G .repr)) := by
  intro pins s σ H vs us Q I rv h
  obtain ⟨r, m, ds, hs, hd, hf⟩ := h
  change (bRepr ds m).sat _ _ at hf
  unfold bRepr at hf
  split at hf
  · rename_i d
    obtain ⟨v, rfl, rd⟩ := hd.one
    cases e0 : shwB d with
    | false => simp only [e0] at hf; exact (show False from hf).elim
    | true =>
    cases e : toR 40 m d with
    | none => simp only [e0, e] at hf; exact (show False from hf).elim
    | some p =>
      simp only [e0, e] at hf
      cases e2 : Nat.ble p.bulk 8000 with
      | false => simp only [e2] at hf; exact (show False from hf).elim
      | true =>
        simp only [e2] at hf
        obtain ⟨h1, h2, h3⟩ := toR_ok 40 e
        have hb := Nat.le_of_ble_eq_true e2
        have hsz : p.shown.length ≤ sizeLine := by
          have := PyData.shown_le_bulk 2000 (by decide) p h2
          rw [sizeLine_eq]
          have : (2000 + 2) * p.bulk ≤ (2000 + 2) * 8000 := Nat.mul_le_mul_left _ hb
          omega
        obtain ⟨u, rfl, ru⟩ := vals1 rv
        obtain ⟨oy, hy⟩ := z.pg.sysm
        have hy : H sysModules = none := (I.bs _ _ (I.ok.mod.kin _ _ hy)).2
        obtain ⟨as, q1, q2⟩ := toR_reads I hs hy 40 e rd ru
        have fin : ∀ a : Addr, u = .ref a → wpAny (model X.prog X.w) X.A (call (.builtin "repr") [u]) (EP X pins σ Q) X.xe s := fun a eu => by
          subst eu
          exact repr_of_reads' q1 h1 (fun _ => q2) z.gd (by have := z.un; omega) (fun _ _ e => e) (fun h' u tk k => ⟨.str p.shown, H, I.kept (t' := tk) k, ⟨u, rfl⟩, same hs (.shw p) hf⟩) hsz
        cases rd with
        | @tup a _ _ _ _ => exact fin a ru
        | @ref _ a _ => exact fin a ru
        | int i =>
          obtain ⟨t, rfl⟩ := ru
          cases q1
          exact PySem.P.repr_of_int (by simpa only [PyData.showable, decide_eq_true_eq] using h1) ⟨.str _, H, I.tok _, ⟨_, rfl⟩, same hs (.shw (.int i)) hf⟩
        | _ => cases e0
  · exact (show False from hf).elim
end
end Py
namespace Py
open PySem L2 PySem.Spec

/-! ### does the machine's term tell the text -/
def noStar : Expr → Bool
  | .Starred .. => false
  | _ => true
def noStars : List Expr → Bool
  | [] => true
  | e :: r => match noStar e with
    | true => noStars r
    | false => false
def notComp : Expr → Bool
  | .ListComp .. => false
  | .SetComp .. => false
  | .DictComp .. => false
  | _ => true
def notSet : Expr → Bool
  | .Set .. => false
  | _ => true
def notSlice : Expr → Bool
  | .Slice .. => false
  | _ => true
def notCall : Expr → Bool
  | .Call .. => false
  | _ => true
def plainT : Expr → Bool
  | .UnaryOp .Not _ _ => false
  | .BoolOp .. => false
  | .IfExp .. => false
  | .Compare .. => false
  | _ => true
theorem star_one {e : Expr} {es : List Expr} {env : Env} (h : noStar e = true) : starEach (e :: es) env = (false, eval e env) :: starEach es env := by
  cases e <;> first | (cases h; done) | rfl
theorem star_any {pos : Pos} {env : Env} : ∀ {es : List Expr}, noStars es = true → (backTo pos (starEach es env)).any (·.1) = false
  | [], _ => rfl
  | e :: es, h => by
    unfold noStars at h
    cases q : noStar e with
    | false => rw [q] at h; cases h
    | true =>
      rw [q] at h
      rw [star_one q]
      show (false || (backTo pos (starEach es env)).any (·.1)) = false
      rw [star_any h]; rfl
theorem noStars_cons {e : Expr} {es : List Expr} (h : noStars (e :: es) = true) : noStar e = true ∧ noStars es = true := by
  unfold noStars at h
  cases q : noStar e with
  | false => rw [q] at h; cases h
  | true => rw [q] at h; exact ⟨rfl, h⟩
theorem assign_one {e : Expr} {es : List Expr} {env : Env} (h : noStar e = true) : assignEach (e :: es) env = (false, assign e env) :: assignEach es env := by
  cases e <;> first | (cases h; done) | rfl
theorem assign_len {env : Env} : ∀ {es : List Expr}, noStars es = true → (assignEach es env).length = es.length ∧ (assignEach es env).findIdx? (·.1) = none
  | [], _ => ⟨rfl, rfl⟩
  | e :: es, h => by
    obtain ⟨h1, h2⟩ := noStars_cons h
    rw [assign_one h1]
    obtain ⟨a, b⟩ := assign_len (env := env) h2
    refine ⟨by simp [a], ?_⟩
    rw [List.findIdx?_cons]
    simp [b]
theorem set_folds {e : Expr} {env : Env} (h : notSet e = true) (x : Value) : foldedSetIterable e env x = pure x := by
  cases e <;> first | (cases h; done) | rfl
theorem no_swap {e : Expr} {t : Option Expr} {l : Nat} {env : Env} (h : notComp e = true) : swapsWith e t l env = pure false := by
  cases e <;> first | (cases h; done) | rfl
theorem marks_no {o : CmpOp} {e : Expr} (h : notSet e = true) : behindInMarks o e = false := by
  cases e <;> first | (cases h; done) | rfl
theorem ix_plain {e : Expr} (h : notSlice e = true) : PlainIx e := by
  intro o i
  cases e <;> first | (cases h; done) | rfl
theorem base_plain {e : Expr} {f : Str} {env : Env} {w : Sem Value} (h : notCall e = true) : attributeBase e f env w = w := by
  cases e <;> first | (cases h; done) | rfl
theorem test_plain {e : Expr} {env : Env} (h : plainT e = true) (whole : Sem Value) : isTrue e env whole = (do let v ← whole; standAt e.pos; holding [v] (truthy v)) := by
  cases e with
  | UnaryOp o a p => cases o <;> first | (cases h; done) | rfl
  | BoolOp => cases h
  | IfExp => cases h
  | Compare => cases h
  | _ => rfl
def lkS (x : Str) : List (Str × NameKind) → Option NameKind
  | [] => none
  | p :: r => match eqS x p.1 with
    | true => some p.2
    | false => lkS x r
theorem lkS_eq {x : Str} : ∀ {l : List (Str × NameKind)}, lkS x l = l.lookup x
  | [] => rfl
  | p :: r => by
    obtain ⟨a, b⟩ := p
    unfold lkS
    rw [List.lookup]
    dsimp only
    cases q : eqS x a with
    | true =>
      have := eqS_iff.mp q
      subst this
      simp
    | false =>
      have ne : (x == a) = false := by
        cases q2 : x == a with
        | false => rfl
        | true => rw [eqS_iff.mpr (by simpa using q2)] at q; cases q
      rw [ne]
      exact lkS_eq
def nmOk (x : Str) : Bool := !(eqS x "__debug__") && !(eqS x "__classdict__")
theorem nmOk_ok {x : Str} (h : nmOk x = true) : (x == ("__debug__" : Str)) = false ∧ (x == ("__classdict__" : Str)) = false := by
  unfold nmOk at h
  simp only [Bool.and_eq_true, Bool.not_eq_true'] at h
  have f : ∀ {y : Str}, eqS x y = false → (x == y) = false := fun {y} q => by
    cases q2 : x == y with
    | false => rfl
    | true => rw [eqS_iff.mpr (by simpa using q2)] at q; cases q
  exact ⟨f h.1, f h.2⟩
def visB (sc : Scope) (x : Str) : Bool := (match lkS x sc.names with
  | some .local => true
  | some .cell => true
  | some .free => true
  | _ => false) && nmOk x
theorem visB_ok {sc : Scope} {x : Str} (h : visB sc x = true) : Vis sc x ∧ (x == ("__debug__" : Str)) = false ∧ (x == ("__classdict__" : Str)) = false := by
  unfold visB at h
  obtain ⟨h1, h2⟩ := Bool.and_eq_true_iff.mp h
  refine ⟨?_, nmOk_ok h2⟩
  rw [lkS_eq] at h1
  unfold Vis
  split at h1
  · rename_i e; exact .inl e
  · rename_i e; exact .inr (.inl e)
  · rename_i e; exact .inr (.inr e)
  · cases h1
def locB (sc : Scope) (x : Str) : Bool := (match lkS x sc.names with
  | some .local => true
  | some .cell => true
  | _ => false)
theorem locB_ok {sc : Scope} {x : Str} (h : locB sc x = true) : Loc sc x := by
  unfold locB at h
  rw [lkS_eq] at h
  unfold L2.Loc
  split at h
  · rename_i e; exact .inl e
  · rename_i e; exact .inr e
  · cases h
def gloB (sc : Scope) (x : Str) : Bool := (match lkS x sc.names with
  | some .globalImplicit => true
  | _ => false) && nmOk x
theorem gloB_ok {sc : Scope} {x : Str} (h : gloB sc x = true) : sc.names.lookup x = some .globalImplicit ∧ (x == ("__debug__" : Str)) = false := by
  unfold gloB at h
  obtain ⟨h1, h2⟩ := Bool.and_eq_true_iff.mp h
  refine ⟨?_, (nmOk_ok h2).1⟩
  rw [lkS_eq] at h1
  split at h1
  · rename_i e; exact e
  · cases h1
/-- the slot of a name -/
def slotB (N : List Str) (i : Nat) (x : Str) : Bool := match N[i]? with
  | some y => eqS y x
  | none => false
theorem slotB_ok {N : List Str} {i : Nat} {x : Str} (h : slotB N i x = true) : N[i]? = some x := by
  unfold slotB at h
  cases e : N[i]? with
  | none => rw [e] at h; cases h
  | some y => rw [e] at h; rw [eqS_iff.mp h]
structure Kc where
  G : Gb
  kn : Str → Bool
  N : List Str
def kCon (sc : Scope) : D → Expr → Bool
  | .int i, .Constant (.int j) _ _ => decide (i = j)
  | .str x, .Constant (.str y) _ _ => eqS x y
  | .bl b, .Constant (.bool c) _ _ => decide (b = c)
  | .non, .Constant .none _ _ => true
  | .ty t, .Name x _ => eqS x t.name && (gloB sc x && (match t with | .non => false | _ => true))
  | _, _ => false
/-- a comprehension's block -/
def blkB (N : List Str) (sc scope : Scope) (ws : List Nat) : Bool :=
  (match scope.kind with | .function => true | _ => false) &&
  (scope.names.all (fun y => match lkS y.1 scope.names with | some k => decide (k = y.2) | none => false) &&
  (ws.all (fun i => match N[i]? with | some _ => true | none => false) &&
  scope.names.all (fun y => match y.2 with
    | .free => (match lkS y.1 sc.names with | some .cell => true | some .free => true | _ => false)
    | .local => ws.any (fun i => slotB N i y.1) || !(N.any (eqS y.1))
    | .cell => ws.any (fun i => slotB N i y.1) || !(N.any (eqS y.1))
    | _ => true)))
def ownOf (N : List Str) (ws : List Nat) : List (Str × Nat) := ws.map fun i => (N.getD i "", i)
theorem ownOf_map {N : List Str} {ws : List Nat} : (ownOf N ws).map (·.2) = ws := by
  unfold ownOf
  rw [List.map_map]
  exact List.map_id _
theorem blkB_ok {N : List Str} {sc scope : Scope} {ws : List Nat} (h : blkB N sc scope ws = true) : BlkOk N sc scope (ownOf N ws) := by
  unfold blkB at h
  simp only [Bool.and_eq_true, List.all_eq_true] at h
  obtain ⟨h1, h2, h3, h4⟩ := h
  refine ⟨?_, fun y hy => ?_, fun p hp => ?_, fun y hy e => ?_, fun y hy e => ?_⟩
  · split at h1
    · rename_i e; exact e
    · cases h1
  · have := h2 y hy
    rw [lkS_eq] at this
    split at this
    · rename_i k e; rw [e, of_decide_eq_true this]
    · cases this
  · unfold ownOf at hp
    obtain ⟨i, hi, rfl⟩ := List.mem_map.mp hp
    have := h3 i hi
    show N[i]? = some (N.getD i "")
    cases e : N[i]? with
    | none => rw [e] at this; cases this
    | some y => simp [e]
  · have := h4 y hy
    rw [e] at this
    dsimp only at this
    rw [lkS_eq] at this
    split at this
    · rename_i q; exact .inl q
    · rename_i q; exact .inr q
    · cases this
  · have := h4 y hy
    have key : (ws.any (fun i => slotB N i y.1) || !(N.any (eqS y.1))) = true → y.1 ∈ (ownOf N ws).map (·.1) ∨ y.1 ∉ N := fun q => by
      rcases Bool.or_eq_true_iff.mp q with q | q
      · obtain ⟨i, hi, q⟩ := List.any_eq_true.mp q
        refine .inl (List.mem_map.mpr ⟨(N.getD i "", i), List.mem_map.mpr ⟨i, hi, rfl⟩, ?_⟩)
        simp [slotB_ok q]
      · refine .inr fun hm => ?_
        have : N.any (eqS y.1) = true := List.any_eq_true.mpr ⟨y.1, hm, eqS_iff.mpr rfl⟩
        rw [this] at q; cases q
    rcases e with e | e
    · rw [e] at this; exact key this
    · rw [e] at this; exact key this
end Py
namespace Py
open PySem L2 PySem.Spec

def biOk : BI → Bool
  | .len => true | .abs => true | .repr => true | .isi => true | .sum => true | .any => true | .all => true
  | .int => true | .list => true | .tuple => true
  | _ => false
mutual
def kE (T : Kc) : E → Scope → Expr → Bool
  | .con d, sc, ex => kCon sc d ex
  | .var i, sc, ex => match ex with
    | .Name x _ => slotB T.N i x && visB sc x
    | _ => false
  | .glo x, sc, ex => match ex with
    | .Name y _ => eqS y x && gloB sc y
    | _ => false
  | .bin o a b, sc, ex => match ex with
    | .BinOp l o' r _ => decide (o' = o) && (kE T a sc l && kE T b sc r)
    | _ => false
  | .neg a, sc, ex => match ex with
    | .UnaryOp .USub l _ => kE T a sc l
    | _ => false
  | .not a, sc, ex => match ex with
    | .UnaryOp .Not l _ => kE T a sc l
    | _ => false
  | .cmp o a b, sc, ex => match ex with
    | .Compare l [o'] [r] _ => decide (o' = o) && (notSet r && (kE T a sc l && kE T b sc r))
    | _ => false
  | .chn o o2 a b c, sc, ex => match ex with
    | .Compare l [o', o3] [r, t] _ => decide (o' = o) && (decide (o3 = o2) && (notSet t && (kE T a sc l && (kE T b sc r && kE T c sc t))))
    | _ => false
  | .and a b, sc, ex => match ex with
    | .BoolOp .And [l, r] _ => kE T a sc l && kE T b sc r
    | .BoolOp .And (l :: r :: t :: rest) p => kE T a sc l && kE T b sc (.BoolOp .And (r :: t :: rest) p)
    | _ => false
  | .or a b, sc, ex => match ex with
    | .BoolOp .Or [l, r] _ => kE T a sc l && kE T b sc r
    | .BoolOp .Or (l :: r :: t :: rest) p => kE T a sc l && kE T b sc (.BoolOp .Or (r :: t :: rest) p)
    | _ => false
  | .ite t a b, sc, ex => match ex with
    | .IfExp c l r _ => kT T t sc c && (kE T a sc l && kE T b sc r)
    | _ => false
  | .tup a, sc, ex => match ex with
    | .Tuple es _ _ => kA T a sc es
    | _ => false
  | .lst a, sc, ex => match ex with
    | .List es _ => kA T a sc es
    | _ => false
  | .dic a, sc, ex => match ex with
    | .Dict ks vs _ => kP T a sc ks vs && (ks.all (·.isSome) && (Nat.beq ks.length vs.length && (Nat.ble 1 ks.length && Nat.ble ks.length 15)))
    | _ => false
  | .dc0, _, ex => match ex with
    | .Dict [] [] _ => true
    | _ => false
  | .call f a, sc, ex => match ex with
    | .Call (.Name g _) es [] _ => eqS g f && (T.kn f && (gloB sc g && (noStars es && kA T a sc es)))
    | _ => false
  | .bi b a, sc, ex => match ex with
    | .Call (.Name g _) (e :: es) [] _ => eqS g b.nm && (biOk b && (gloB sc g && (noStars (e :: es) && kA T a sc (e :: es))))
    | _ => false
  | .mkx c a, sc, ex => match ex with
    | .Call (.Name g _) [e] [] _ => eqS g c && (gloB sc g && (noStar e && ((T.G.exf c).isSome && kE T a sc e)))
    | .Call (.Name g _) [] [⟨some f, e, _⟩] _ => eqS g c && (gloB sc g && ((match T.G.exf c with | some f' => eqS f' f | none => false) && kE T a sc e))
    | _ => false
  | .ix a b, sc, ex => match ex with
    | .Subscript l r _ => notSlice r && (kE T a sc l && kE T b sc r)
    | _ => false
  | .slc a lo hi, sc, ex => match ex with
    | .Subscript l (.Slice p q none _) _ => kE T a sc l && (kO T lo sc p && kO T hi sc q)
    | _ => false
  | .att a f, sc, ex => match ex with
    | .Attribute l g _ => eqS g f && (notCall l && kE T a sc l)
    | _ => false
  | .cmpr t s c e ws, sc, ex => match ex with
    | .ListComp elt [⟨tg, iter, ifs, z⟩] scope _ => decide (z = 0) && (blkB T.N sc scope ws && ((tSl t).all (fun i => ws.any (Nat.beq i)) && (notSet iter && (kSrc T s sc iter && (kTg T t scope tg && (kIfs T c scope ifs && kE T e scope elt))))))
    | _ => false
  | _, _, _ => false
def kIfs (T : Kc) : E → Scope → List Expr → Bool
  | .nil, _, [] => true
  | .ifs a, sc, [e] => kT T a sc e
  | _, _, _ => false
def kO (T : Kc) : E → Scope → Option Expr → Bool
  | .nil, _, none => true
  | .cons a _, sc, some e => kE T a sc e
  | _, _, _ => false
def kA (T : Kc) : E → Scope → List Expr → Bool
  | .nil, _, [] => true
  | .cons a r, sc, e :: es => noStar e && (kE T a sc e && kA T r sc es)
  | _, _, _ => false
def kP (T : Kc) : E → Scope → List (Option Expr) → List Expr → Bool
  | .nil, _, [], [] => true
  | .cons a r, sc, some k :: ks, vs => kE T a sc k && kQ T r sc ks vs
  | _, _, _, _ => false
def kQ (T : Kc) : E → Scope → List (Option Expr) → List Expr → Bool
  | .cons b r, sc, ks, v :: vs => kE T b sc v && kP T r sc ks vs
  | _, _, _, _ => false
def kT (T : Kc) : E → Scope → Expr → Bool
  | .not a, sc, ex => match ex with
    | .UnaryOp .Not l _ => kT T a sc l
    | _ => false
  | .and a b, sc, ex => match ex with
    | .BoolOp .And [l, r] _ => kT T a sc l && kT T b sc r
    | .BoolOp .And (l :: r :: t :: rest) p => kT T a sc l && kT T b sc (.BoolOp .And (r :: t :: rest) p)
    | _ => false
  | .or a b, sc, ex => match ex with
    | .BoolOp .Or [l, r] _ => kT T a sc l && kT T b sc r
    | .BoolOp .Or (l :: r :: t :: rest) p => kT T a sc l && kT T b sc (.BoolOp .Or (r :: t :: rest) p)
    | _ => false
  | .cmp o a b, sc, ex => match ex with
    | .Compare l [o'] [r] _ => decide (o' = o) && (notSet r && (kE T a sc l && kE T b sc r))
    | _ => false
  | .chn o o2 a b c, sc, ex => match ex with
    | .Compare l [o', o3] [r, t] _ => decide (o' = o) && (decide (o3 = o2) && (notSet t && (kE T a sc l && (kE T b sc r && kE T c sc t))))
    | _ => false
  | .tst a, sc, ex => plainT ex && kE T a sc ex
  | _, _, _ => false
def kSrc (T : Kc) : E → Scope → Expr → Bool
  | .sEx a, sc, ex => kE T a sc ex
  | .sR1 a, sc, ex => match ex with
    | .Call (.Name g _) [l] [] _ => eqS g "range" && (gloB sc g && (noStar l && kE T a sc l))
    | _ => false
  | .sR2 a b, sc, ex => match ex with
    | .Call (.Name g _) [l, r] [] _ => eqS g "range" && (gloB sc g && (noStar l && (noStar r && (kE T a sc l && kE T b sc r))))
    | _ => false
  | _, _, _ => false
def kTg (T : Kc) : E → Scope → Expr → Bool
  | .tNm i, sc, ex => match ex with
    | .Name x _ => slotB T.N i x && locB sc x
    | _ => false
  | .tTp a, sc, ex => match ex with
    | .Tuple es _ _ => noStars es && (Nat.beq es.length (tLen a) && kTgs T a sc es)
    | _ => false
  | .tIx a b, sc, ex => match ex with
    | .Subscript l r _ => notSlice r && (kE T a sc l && kE T b sc r)
    | _ => false
  | _, _, _ => false
def kTgs (T : Kc) : E → Scope → List Expr → Bool
  | .nil, _, [] => true
  | .cons a r, sc, e :: es => noStar e && (kTg T a sc e && kTgs T r sc es)
  | _, _, _ => false
end
end Py
namespace Py
open PySem L2 PySem.Spec

/-- the scope that runs tells what the written one tells -/
structure ScR (X : Cx) (sc : Scope) : Prop where
  v : ∀ x, Vis sc x → Vis X.env.scope x
  g : ∀ x, sc.names.lookup x = some .globalImplicit → X.env.scope.names.lookup x = some .globalImplicit
  l : ∀ x, L2.Loc sc x → L2.Loc X.env.scope x ∧ (X.fn x = true ∨ X.env.scope.names.lookup x = some .local)
  c : ∀ x, (sc.names.lookup x = some .cell ∨ sc.names.lookup x = some .free) → (X.env.scope.names.lookup x = some .cell ∨ X.env.scope.names.lookup x = some .free)
structure Hx (T : Kc) (X : Cx) (W : WX) (k : Nat) (G : Gb) (C : Cf) (sc : Scope) : Prop where
  z : Cz X W k G C
  hN : X.N = T.N
  hG : T.G = G
  hk : T.kn = C.kn
  sr : ScR X sc
variable {T : Kc} {k : Nat} {G : Gb} {C : Cf}
theorem rel_some {sc : Scope} {f : Str × NameKind → Str × NameKind} (hf : ∀ p, (f p).1 = p.1) : ∀ {names : List (Str × NameKind)} {x : Str} {k : NameKind}, names.lookup x = some k → ∃ k', (names.map f).lookup x = some k'
  | [], _, _, h => by simp at h
  | (n, k0) :: r, x, k, h => by
    rw [List.map_cons]
    obtain ⟨k1, e⟩ : ∃ k1, f (n, k0) = (n, k1) := ⟨(f (n, k0)).2, Prod.ext (hf (n, k0)) rfl⟩
    rw [e]
    cases hx : x == n with
    | true => exact ⟨k1, by simp only [List.lookup_cons, hx]⟩
    | false =>
      simp only [List.lookup_cons, hx] at h ⊢
      exact rel_some (sc := sc) hf h
theorem rel_free {sc : Scope} {names : List (Str × NameKind)} {x : Str} (h : names.lookup x = some .free) :
    (names.map fun (n, k) => if (k == NameKind.free && sc.kind == .function && sc.names.lookup n == some .cell) then (n, NameKind.cell) else (n, k)).lookup x = some .cell ∨ (names.map fun (n, k) => if (k == NameKind.free && sc.kind == .function && sc.names.lookup n == some .cell) then (n, NameKind.cell) else (n, k)).lookup x = some .free := by
  obtain ⟨k1, e⟩ := rel_some (sc := sc) (f := fun (n, k) => if (k == NameKind.free && sc.kind == .function && sc.names.lookup n == some .cell) then (n, NameKind.cell) else (n, k)) (fun p => by dsimp only; split <;> rfl) h
  obtain ⟨k2, e2, e3⟩ := lookup_relS e
  rw [h] at e2; cases e2
  rcases e3 with e3 | ⟨_, e3⟩
  · rw [e3] at e; exact .inr e
  · rw [e3] at e; exact .inl e
theorem Hx.blk {X : Cx} {W : WX} {sc : Scope} (h : Hx T X W k G C sc) (scope : Scope) (s : Shared) (H : Hp) (C' : Addr) (cl : List (Str × Addr)) (fp : List Addr) : Hx T (X.blk s H scope (compEnvC scope cl C' X.env) fp) (fun _ _ _ _ => False) k G C scope := by
  have keep : ∀ {x : Str} {kk : NameKind}, kk ≠ .free → scope.names.lookup x = some kk → (compEnvC scope cl C' X.env).scope.names.lookup x = some kk := fun hk e => lookup_relS_keep (sc := X.env.scope) hk e
  have free : ∀ {x : Str}, scope.names.lookup x = some .free → (compEnvC scope cl C' X.env).scope.names.lookup x = some .cell ∨ (compEnvC scope cl C' X.env).scope.names.lookup x = some .free := fun e => rel_free (sc := X.env.scope) e
  refine ⟨cz_blk h.z s H scope _ fp, h.hN, h.hG, h.hk, ⟨fun x e => ?_, fun x e => keep (fun z => nomatch z) e, fun x e => ?_, fun x e => ?_⟩⟩
  · rcases e with e | e | e
    · exact .inl (keep (fun z => nomatch z) e)
    · exact .inr (.inl (keep (fun z => nomatch z) e))
    · exact .inr (free e)
  · rcases e with e | e
    · exact ⟨.inl (keep (fun z => nomatch z) e), .inr (keep (fun z => nomatch z) e)⟩
    · exact ⟨.inr (keep (fun z => nomatch z) e), .inl (by show (scope.names.lookup x == some NameKind.cell) = true; rw [e]; rfl)⟩
  · rcases e with e | e
    · exact .inl (keep (fun z => nomatch z) e)
    · exact free e
section
variable {X : Cx} {W : WX} {sc : Scope}
theorem Hx.gl (h : Hx T X W k G C sc) {x : Str} (q : gloB sc x = true) : Gl X x ∧ (x == ("__debug__" : Str)) = false := by
  obtain ⟨a, b⟩ := gloB_ok q
  exact ⟨h.sr.g x a, b⟩
theorem ba2 {a b : Bool} (h : (a && b) = true) : a = true ∧ b = true := Bool.and_eq_true_iff.mp h
theorem ty_boot : ∀ t : BT, (match t with | .non => false | _ => true) = true → bootBuiltins (t.name : Str) = some (.type t.name) ∧ (t.name : Str) ≠ "__name__" ∧ (t.name : Str) ∈ builtinNames
  | .non, h => by cases h
  | .bool, _ => ⟨PyProof.Rows.Boot.«bool», by decide, by decide⟩
  | .int, _ => ⟨PyProof.Rows.Boot.«int», by decide, by decide⟩
  | .str, _ => ⟨PyProof.Rows.Boot.«str», by decide, by decide⟩
  | .list, _ => ⟨PyProof.Rows.Boot.«list», by decide, by decide⟩
  | .tuple, _ => ⟨PyProof.Rows.Boot.«tuple», by decide, by decide⟩
  | .dict, _ => ⟨PyProof.Rows.Boot.«dict», by decide, by decide⟩
  | .set, _ => ⟨PyProof.Rows.Boot.«set», by decide, by decide⟩
  | .vE, _ => ⟨PyProof.Rows.Boot.«ValueError», by decide, by decide⟩
  | .oE, _ => ⟨PyProof.Rows.Boot.«OverflowError», by decide, by decide⟩
  | .rE, _ => ⟨PyProof.Rows.Boot.«RuntimeError», by decide, by decide⟩
  | .tE, _ => ⟨PyProof.Rows.Boot.«TypeError», by decide, by decide⟩
theorem sCon (h : Hx T X W k G C sc) {d : D} {ex : Expr} (q : kCon sc d ex = true) : PE X ex (tE X.K W (evE G C (.con d))) := by
  unfold kCon at q
  split at q
  · rw [of_decide_eq_true q]; exact xe_con h.z pe_int fun _ _ => .int _
  · rw [eqS_iff.mp q]; exact xe_con h.z pe_str fun _ _ => .str _
  · rw [of_decide_eq_true q]; exact xe_con h.z pe_bl fun _ _ => .bl _
  · exact xe_con h.z pe_non fun _ _ => .non
  · rename_i t x p
    obtain ⟨q1, q⟩ := ba2 q
    obtain ⟨q2, q3⟩ := ba2 q
    have e := eqS_iff.mp q1
    subst e
    obtain ⟨g1, g2⟩ := h.gl q2
    obtain ⟨b1, b2, b3⟩ := ty_boot t q3
    have hm := h.z.pg.free _ b3
    refine xe_con (v := .ty t.name) h.z ⟨fun pins s σ H Q I hq => ld_blt I g1 hm b1 ⟨.ty t.name, H, I, rfl, hq⟩ b2 g2⟩ fun _ _ => .ty t
  · cases q
theorem bi_free : ∀ b : BI, biOk b = true → b.nm ∈ builtinNames ∧ b.nm ≠ "__name__" ∧ (b.nm == ("__debug__" : Str)) = false
  | .len, _ => by decide
  | .abs, _ => by decide
  | .repr, _ => by decide
  | .isi, _ => by decide
  | .sum, _ => by decide
  | .any, _ => by decide
  | .all, _ => by decide
  | .int, _ => by decide
  | .list, _ => by decide
  | .tuple, _ => by decide
  | .sorted, h => by cases h
  | .min, h => by cases h
  | .max, h => by cases h
  | .str, h => by cases h
theorem sBi (h : Hx T X W k G C sc) {b : BI} (hb : biOk b = true) {e : Expr} {es : List Expr} {p pos : Pos} {a : E} (hg : Gl X b.nm) (ha : PA X (e :: es) (tAr X.K W (evA G C a))) (hst : noStars (e :: es) = true) : PE X (.Call (.Name b.nm p) (e :: es) [] pos) (tE X.K W (evE G C (.bi b a))) := by
  obtain ⟨f1, f2, f3⟩ := bi_free b hb
  have hm := h.z.pg.free _ f1
  obtain ⟨s1, s2⟩ := noStars_cons hst
  have t1 := star_one (es := es) (env := X.env) s1
  have t2 := star_any (pos := pos) (env := X.env) s2
  cases b with
  | len => exact xe_biF (b := .len) h.z cr_len PyProof.Rows.Boot.«len» hm f2 f3 hg ha t1 t2
  | abs => exact xe_biF (b := .abs) h.z cr_abs PyProof.Rows.Boot.«abs» hm f2 f3 hg ha t1 t2
  | repr => exact xe_biF (b := .repr) h.z (cr_repr h.z) PyProof.Rows.Boot.«repr» hm f2 f3 hg ha t1 t2
  | isi => exact xe_biF (b := .isi) h.z (cr_isi h.z) PyProof.Rows.Boot.«isinstance» hm f2 f3 hg ha t1 t2
  | sum => exact xe_biF (b := .sum) h.z (cr_sum' h.z.calm) PyProof.Rows.Boot.«sum» hm f2 f3 hg ha t1 t2
  | any => exact xe_biF (b := .any) h.z (cr_any' h.z.calm) PyProof.Rows.Boot.«any» hm f2 f3 hg ha t1 t2
  | all => exact xe_biF (b := .all) h.z (cr_all' h.z.calm) PyProof.Rows.Boot.«all» hm f2 f3 hg ha t1 t2
  | int => exact xe_biT (b := .int) h.z cr_int PyProof.Rows.Boot.«int» hm f2 f3 hg ha t1 t2
  | list => exact xe_biT (b := .list) h.z (cr_list h.z.calm) PyProof.Rows.Boot.«list» hm f2 f3 hg ha t1 t2
  | tuple => exact xe_biT (b := .tuple) h.z cr_tuple PyProof.Rows.Boot.«tuple» hm f2 f3 hg ha t1 t2
  | sorted => cases hb
  | min => cases hb
  | max => cases hb
  | str => cases hb
end
theorem asg_ix {l r : Expr} {pos : Pos} {env : Env} (h : notSlice r = true) (v : Value) : assign (.Subscript l r pos) env v = (do
      let ov ← holding [v] (eval l env)
      let iv ← holding [v, ov] (eval r env)
      standAt pos
      holding [v, ov, iv] (setItem ov iv v)
      release [v, ov, iv] []) := by
  cases r <;> first | (cases h; done) | rfl
def PosAny : Pos := ⟨0, 0, 0, 0⟩
/-- a term that tells a text does what the text does -/
structure SoundE (T : Kc) (k : Nat) (G : Gb) (C : Cf) (t0 : E) : Prop where
  e : ∀ {X : Cx} {W : WX} {sc : Scope} {ex : Expr}, Hx T X W k G C sc → kE T t0 sc ex = true → PE X ex (tE X.K W (evE G C t0)) := by
    intro X W sc ex h q
    exact absurd (show false = true from q) Bool.false_ne_true
  ifs : ∀ {X : Cx} {W : WX} {sc : Scope} {ex : List Expr}, Hx T X W k G C sc → kIfs T t0 sc ex = true → PTs X ex (tTt X.K W (evT G C t0)) := by
    intro X W sc ex h q
    exact absurd (show false = true from q) Bool.false_ne_true
  o : ∀ {X : Cx} {W : WX} {sc : Scope} {ex : Option Expr}, Hx T X W k G C sc → kO T t0 sc ex = true → PO X ex (tOz X.K W (evO G C t0)) := by
    intro X W sc ex h q
    exact absurd (show false = true from q) Bool.false_ne_true
  a : ∀ {X : Cx} {W : WX} {sc : Scope} {ex : List Expr}, Hx T X W k G C sc → kA T t0 sc ex = true → PA X ex (tAr X.K W (evA G C t0)) := by
    intro X W sc ex h q
    exact absurd (show false = true from q) Bool.false_ne_true
  p : ∀ {X : Cx} {W : WX} {sc : Scope} {ks : List (Option Expr)} {vs : List Expr} {pos : Pos}, Hx T X W k G C sc → kP T t0 sc ks vs = true → XPs X W G C pos ks vs t0 := by
    intro X W sc ks vs pos h q
    exact absurd (show false = true from q) Bool.false_ne_true
  q : ∀ {X : Cx} {W : WX} {sc : Scope} {ks : List (Option Expr)} {vs : List Expr} {pos : Pos} {kx : Expr} {ea : E}, Hx T X W k G C sc → PE X kx (tE X.K W (evE G C ea)) → kQ T t0 sc ks vs = true → XPs X W G C pos (some kx :: ks) vs (.cons ea t0) := by
    intro X W sc ks vs pos kx ea h hk q
    exact absurd (show false = true from q) Bool.false_ne_true
  t : ∀ {X : Cx} {W : WX} {sc : Scope} {ex : Expr}, Hx T X W k G C sc → kT T t0 sc ex = true → PT X ex (tTt X.K W (evT G C t0)) := by
    intro X W sc ex h q
    exact absurd (show false = true from q) Bool.false_ne_true
  tw : ∀ {X : Cx} {W : WX} {sc : Scope} {op : BoolOp} {l : List Expr} {p : Pos}, Hx T X W k G C sc → kT T t0 sc (.BoolOp op l p) = true → PW X (.BoolOp op l p) (tTt X.K W (evT G C t0)) := by
    intro X W sc op l p h q
    exact absurd (show false = true from q) Bool.false_ne_true
  src : ∀ {X : Cx} {W : WX} {sc : Scope} {ex tg : Expr}, Hx T X W k G C sc → kSrc T t0 sc ex = true → PI X tg ex (tSrc X.K W (evSrc G C t0)) := by
    intro X W sc ex tg h q
    exact absurd (show false = true from q) Bool.false_ne_true
  tg : ∀ {X : Cx} {W : WX} {sc : Scope} {ex : Expr}, Hx T X W k G C sc → kTg T t0 sc ex = true → PG X ex (tG X.K (tSl t0) (evTg G C t0)) := by
    intro X W sc ex h q
    exact absurd (show false = true from q) Bool.false_ne_true
  tgs : ∀ {X : Cx} {W : WX} {sc : Scope} {ex : List Expr}, Hx T X W k G C sc → kTgs T t0 sc ex = true → PGs X ex (tGs X.K (tSl t0) (evTgs G C t0)) := by
    intro X W sc ex h q
    exact absurd (show false = true from q) Bool.false_ne_true
theorem blkX {X : Cx} {W : WX} {sc scope : Scope} {ws : List Nat} (h : Hx T X W k G C sc) (q : blkB T.N sc scope ws = true) : BlkOk X.N X.env.scope scope (ownOf T.N ws) := by
  have b := blkB_ok q
  rw [h.hN]
  exact ⟨b.kind, b.uniq, b.ix, fun y hy e => h.sr.c _ (b.free y hy e), b.own⟩
theorem sound (e : E) : SoundE T k G C e := by
  induction e with
  | con d =>
    exact {
    e := by
      intro X W sc ex h q
      exact sCon h (by simpa only [kE] using q) }
  | var i =>
    exact {
    e := by
      intro X W sc ex h q
      simp only [kE] at q
      split at q
      · obtain ⟨q1, q2⟩ := ba2 q
        obtain ⟨v1, v2, v3⟩ := visB_ok q2
        exact xe_var (by rw [h.hN]; exact slotB_ok q1) (h.sr.v _ v1) v2 v3
      · cases q }
  | glo x =>
    exact {
    e := by
      intro X W sc ex h q
      simp only [kE] at q
      split at q
      · obtain ⟨q1, q2⟩ := ba2 q
        obtain ⟨g1, g2⟩ := h.gl q2
        rw [← eqS_iff.mp q1]
        exact xe_glo h.z g1 g2
      · cases q }
  | bin o a b ia ib =>
    exact {
    e := by
      intro X W sc ex h q
      simp only [kE] at q
      split at q
      · obtain ⟨q1, q⟩ := ba2 q
        obtain ⟨q2, q3⟩ := ba2 q
        rw [of_decide_eq_true q1]
        exact xe_bin o (ia.e h q2) (ib.e h q3)
      · cases q }
  | neg a ia =>
    exact {
    e := by
      intro X W sc ex h q
      simp only [kE] at q
      split at q
      · exact xe_neg (ia.e h q)
      · cases q }
  | not a ia =>
    exact {
    e := by
      intro X W sc ex h q
      simp only [kE] at q
      split at q
      · exact xe_not (ia.e h q)
      · cases q
    t := by
      intro X W sc ex h q
      simp only [kT] at q
      split at q
      · exact xt_not (ia.t h q)
      · cases q
    tw := by
      intro X W sc op l p h q
      exact absurd (show false = true from q) Bool.false_ne_true }
  | tst a ia =>
    exact {
    t := by
      intro X W sc ex h q
      simp only [kT] at q
      obtain ⟨q1, q2⟩ := ba2 q
      exact xt_val (ia.e h q2) (test_plain q1)
    tw := by
      intro X W sc op l p h q
      simp only [kT] at q
      exact absurd (show false = true from (ba2 q).1) Bool.false_ne_true }
  | ifs a ia =>
    exact {
    ifs := by
      intro X W sc ex h q
      cases ex with
      | nil => exact absurd (show false = true from q) Bool.false_ne_true
      | cons e es =>
        cases es with
        | nil =>
          have := pts_one (ia.t h (show kT T a sc e = true from q))
          simp only [evT]
          exact this
        | cons _ _ => exact absurd (show false = true from q) Bool.false_ne_true }
  | cmp o a b ia ib =>
    exact {
    e := by
      intro X W sc ex h q
      simp only [kE] at q
      split at q
      · obtain ⟨q1, q⟩ := ba2 q
        obtain ⟨q2, q⟩ := ba2 q
        obtain ⟨q3, q4⟩ := ba2 q
        rw [of_decide_eq_true q1]
        exact xe_cmp h.z o (ia.e h q3) (ib.e h q4) (marks_no q2)
      · cases q
    t := by
      intro X W sc ex h q
      simp only [kT] at q
      split at q
      · obtain ⟨q1, q⟩ := ba2 q
        obtain ⟨q2, q⟩ := ba2 q
        obtain ⟨q3, q4⟩ := ba2 q
        rw [of_decide_eq_true q1]
        exact xt_cmp h.z o (ia.e h q3) (ib.e h q4) (marks_no q2)
      · cases q }
  | chn o o2 a b c ia ib ic =>
    exact {
    e := by
      intro X W sc ex h q
      simp only [kE] at q
      split at q
      · obtain ⟨q1, q⟩ := ba2 q
        obtain ⟨q2, q⟩ := ba2 q
        obtain ⟨q3, q⟩ := ba2 q
        obtain ⟨q4, q⟩ := ba2 q
        obtain ⟨q5, q6⟩ := ba2 q
        rw [of_decide_eq_true q1, of_decide_eq_true q2]
        exact xe_chn h.z o o2 (ia.e h q4) (ib.e h q5) (ic.e h q6) (marks_no q3)
      · cases q
    t := by
      intro X W sc ex h q
      simp only [kT] at q
      split at q
      · obtain ⟨q1, q⟩ := ba2 q
        obtain ⟨q2, q⟩ := ba2 q
        obtain ⟨q3, q⟩ := ba2 q
        obtain ⟨q4, q⟩ := ba2 q
        obtain ⟨q5, q6⟩ := ba2 q
        rw [of_decide_eq_true q1, of_decide_eq_true q2]
        exact xt_chn h.z o o2 (ia.e h q4) (ib.e h q5) (ic.e h q6) (marks_no q3)
      · cases q }
  | and a b ia ib =>
    exact {
    e := by
      intro X W sc ex h q
      simp only [kE] at q
      split at q
      · obtain ⟨q1, q2⟩ := ba2 q
        exact xe_and (ia.e h q1) (xe_one (ib.e h q2))
      · obtain ⟨q1, q2⟩ := ba2 q
        exact xe_and (ia.e h q1) (ib.e h q2)
      · cases q
    t := by
      intro X W sc ex h q
      simp only [kT] at q
      split at q
      · obtain ⟨q1, q2⟩ := ba2 q
        exact (xw_and (ia.t h q1) (xw_one (ib.t h q2))).pt
      · obtain ⟨q1, q2⟩ := ba2 q
        exact (xw_and (ia.t h q1) (ib.tw h q2)).pt
      · cases q
    tw := by
      intro X W sc op l p h q
      simp only [kT] at q
      split at q
      · rename_i e
        cases e
        obtain ⟨q1, q2⟩ := ba2 q
        exact xw_and (ia.t h q1) (xw_one (ib.t h q2))
      · rename_i e
        cases e
        obtain ⟨q1, q2⟩ := ba2 q
        exact xw_and (ia.t h q1) (ib.tw h q2)
      · cases q }
  | or a b ia ib =>
    exact {
    e := by
      intro X W sc ex h q
      simp only [kE] at q
      split at q
      · obtain ⟨q1, q2⟩ := ba2 q
        exact xe_or (ia.e h q1) (xe_one (ib.e h q2))
      · obtain ⟨q1, q2⟩ := ba2 q
        exact xe_or (ia.e h q1) (ib.e h q2)
      · cases q
    t := by
      intro X W sc ex h q
      simp only [kT] at q
      split at q
      · obtain ⟨q1, q2⟩ := ba2 q
        exact (xw_or (ia.t h q1) (xw_one (ib.t h q2))).pt
      · obtain ⟨q1, q2⟩ := ba2 q
        exact (xw_or (ia.t h q1) (ib.tw h q2)).pt
      · cases q
    tw := by
      intro X W sc op l p h q
      simp only [kT] at q
      split at q
      · rename_i e
        cases e
        obtain ⟨q1, q2⟩ := ba2 q
        exact xw_or (ia.t h q1) (xw_one (ib.t h q2))
      · rename_i e
        cases e
        obtain ⟨q1, q2⟩ := ba2 q
        exact xw_or (ia.t h q1) (ib.tw h q2)
      · cases q }
  | ite t a b it ia ib =>
    exact {
    e := by
      intro X W sc ex h q
      simp only [kE] at q
      split at q
      · obtain ⟨q1, q⟩ := ba2 q
        obtain ⟨q2, q3⟩ := ba2 q
        exact xe_ite (it.t h q1) (ia.e h q2) (ib.e h q3)
      · cases q }
  | tup a ia =>
    exact {
    e := by
      intro X W sc ex h q
      simp only [kE] at q
      split at q
      · exact xe_tup (ia.a h q)
      · cases q }
  | lst a ia =>
    exact {
    e := by
      intro X W sc ex h q
      simp only [kE] at q
      split at q
      · exact xe_lst (ia.a h q)
      · cases q }
  | dic a ia =>
    exact {
    e := by
      intro X W sc ex h q
      simp only [kE] at q
      split at q
      · obtain ⟨q1, q⟩ := ba2 q
        obtain ⟨q2, q⟩ := ba2 q
        obtain ⟨q3, q⟩ := ba2 q
        obtain ⟨q4, q5⟩ := ba2 q
        exact xe_dic (ia.p h q1) q2 (Nat.eq_of_beq_eq_true q3) (fun z => by subst z; cases q4) (Nat.le_of_ble_eq_true q5)
      · cases q }
  | dc0 =>
    exact {
    e := by
      intro X W sc ex h q
      simp only [kE] at q
      split at q
      · exact xe_dc0
      · cases q }
  | nil =>
    exact {
    ifs := by
      intro X W sc ex h q
      cases ex with
      | nil => exact ⟨fun pins s σ H Q I ⟨r, as, m, hl, hs, hf⟩ => pts_nil.run pins s σ H Q I (by simp only [evT] at hf; exact hf r H (Ext.refl r) (TK.refl H) hs)⟩
      | cons _ _ => exact absurd (show false = true from q) Bool.false_ne_true
    o := by
      intro X W sc ex h q
      cases ex with
      | none => exact xo_none
      | some _ => exact absurd (show false = true from q) Bool.false_ne_true
    a := by
      intro X W sc ex h q
      cases ex with
      | nil => exact xa_nil
      | cons _ _ => exact absurd (show false = true from q) Bool.false_ne_true
    p := by
      intro X W sc ks vs pos h q
      cases ks with
      | nil =>
        cases vs with
        | nil => exact xp_nil
        | cons _ _ => exact absurd (show false = true from q) Bool.false_ne_true
      | cons _ _ => exact absurd (show false = true from q) Bool.false_ne_true
    tgs := by
      intro X W sc ex h q
      cases ex with
      | nil => exact xgs_nil
      | cons _ _ => exact absurd (show false = true from q) Bool.false_ne_true }
  | cons a r ia ir =>
    exact {
    o := by
      intro X W sc ex h q
      cases ex with
      | none => exact absurd (show false = true from q) Bool.false_ne_true
      | some e => exact xo_some (ia.e h (show kE T a sc e = true from q))
    a := by
      intro X W sc ex h q
      cases ex with
      | nil => exact absurd (show false = true from q) Bool.false_ne_true
      | cons e es =>
        obtain ⟨q1, q⟩ := ba2 (show (noStar e && (kE T a sc e && kA T r sc es)) = true from q)
        obtain ⟨q2, q3⟩ := ba2 q
        exact xa_cons (ia.e h q2) (ir.a h q3) (star_one q1)
    p := by
      intro X W sc ks vs pos h q
      cases ks with
      | nil => exact absurd (show false = true from by cases vs <;> exact q) Bool.false_ne_true
      | cons k0 ks =>
        cases k0 with
        | none => exact absurd (show false = true from by cases vs <;> exact q) Bool.false_ne_true
        | some k0 =>
          obtain ⟨q1, q2⟩ := ba2 (show (kE T a sc k0 && kQ T r sc ks vs) = true from q)
          exact ir.q h (ia.e h q1) q2
    q := by
      intro X W sc ks vs pos kx ea h hk q
      cases vs with
      | nil => exact absurd (show false = true from q) Bool.false_ne_true
      | cons v vs =>
        obtain ⟨q1, q2⟩ := ba2 (show (kE T a sc v && kP T r sc ks vs) = true from q)
        exact xp_cons hk (ia.e h q1) (ir.p h q2)
    tgs := by
      intro X W sc ex h q
      cases ex with
      | nil => exact absurd (show false = true from q) Bool.false_ne_true
      | cons e es =>
        obtain ⟨q0, q⟩ := ba2 (show (noStar e && (kTg T a sc e && kTgs T r sc es)) = true from q)
        obtain ⟨q1, q2⟩ := ba2 q
        exact xgs_cons (ia.tg h q1) (ir.tgs h q2) (by rw [assign_one q0]; rfl) }
  | call f a ia =>
    exact {
    e := by
      intro X W sc ex h q
      simp only [kE] at q
      split at q
      · rename_i g p es pos
        obtain ⟨q1, q⟩ := ba2 q
        obtain ⟨q2, q⟩ := ba2 q
        obtain ⟨q3, q⟩ := ba2 q
        obtain ⟨q4, q5⟩ := ba2 q
        have e := eqS_iff.mp q1
        subst e
        obtain ⟨g1, g2⟩ := h.gl q3
        rw [h.hk] at q2
        have pa := ia.a h q5
        cases es with
        | nil =>
          cases a with
          | nil => exact xe_call0 h.z q2 g1 g2
          | _ => simp only [kA] at q5; cases q5
        | cons e es =>
          obtain ⟨s1, s2⟩ := noStars_cons q4
          exact xe_call h.z q2 g1 g2 pa (star_one s1) (star_any s2)
      · cases q }
  | bi b a ia =>
    exact {
    e := by
      intro X W sc ex h q
      simp only [kE] at q
      split at q
      · obtain ⟨q1, q⟩ := ba2 q
        obtain ⟨q2, q⟩ := ba2 q
        obtain ⟨q3, q⟩ := ba2 q
        obtain ⟨q4, q5⟩ := ba2 q
        have e := eqS_iff.mp q1
        subst e
        exact sBi h q2 (h.gl q3).1 (ia.a h q5) q4
      · cases q }
  | ix a b ia ib =>
    exact {
    e := by
      intro X W sc ex h q
      simp only [kE] at q
      split at q
      · obtain ⟨q1, q⟩ := ba2 q
        obtain ⟨q2, q3⟩ := ba2 q
        exact xe_ix h.z (ia.e h q2) (ib.e h q3) (ix_plain q1)
      · cases q }
  | slc a lo hi ia ilo ihi =>
    exact {
    e := by
      intro X W sc ex h q
      simp only [kE] at q
      split at q
      · obtain ⟨q1, q⟩ := ba2 q
        obtain ⟨q2, q3⟩ := ba2 q
        exact xe_slc (ia.e h q1) (ilo.o h q2) (ihi.o h q3)
      · cases q }
  | att a f ia =>
    exact {
    e := by
      intro X W sc ex h q
      simp only [kE] at q
      split at q
      · obtain ⟨q1, q⟩ := ba2 q
        obtain ⟨q2, q3⟩ := ba2 q
        have e := eqS_iff.mp q1
        subst e
        exact xe_att h.z (ia.e h q3) (base_plain q2)
      · cases q }
  | cmpr t s c e ws it is ic ie =>
    exact {
    e := by
      intro X W sc ex h q
      simp only [kE] at q
      split at q
      · obtain ⟨q0, q⟩ := ba2 q
        obtain ⟨q1, q⟩ := ba2 q
        obtain ⟨q2, q⟩ := ba2 q
        obtain ⟨q3, q⟩ := ba2 q
        obtain ⟨q4, q⟩ := ba2 q
        obtain ⟨q5, q⟩ := ba2 q
        obtain ⟨q6, q7⟩ := ba2 q
        have e0 := of_decide_eq_true q0
        subst e0
        have hsl : ∀ i ∈ tSl t, i ∈ ws := fun i hi => by
          obtain ⟨j, hj, e⟩ := List.any_eq_true.mp (List.all_eq_true.mp q2 i hi)
          rw [Nat.eq_of_beq_eq_true e]; exact hj
        exact xe_lc h.z.calm h.z.nd (is.src h q4) (blkX h q1) ownOf_map hsl (fun s H C' cl fp => it.tg (h.blk _ s H C' cl fp) q5) (fun s H C' cl fp => ic.ifs (h.blk _ s H C' cl fp) q6) (fun s H C' cl fp => ie.e (h.blk _ s H C' cl fp) q7) (fun x => set_folds q3 x)
      · cases q }
  | mkx c a ia =>
    exact {
    e := by
      intro X W sc ex h q
      simp only [kE] at q
      split at q
      · obtain ⟨q1, q⟩ := ba2 q
        obtain ⟨q2, q⟩ := ba2 q
        obtain ⟨q3, q⟩ := ba2 q
        obtain ⟨q4, q5⟩ := ba2 q
        have e := eqS_iff.mp q1
        subst e
        obtain ⟨f, hf⟩ := Option.isSome_iff_exists.mp q4
        rw [h.hG] at hf
        obtain ⟨g1, g2⟩ := h.gl q2
        exact xe_mkx h.z hf g1 g2 (ia.e h q5) (star_one q3)
      · obtain ⟨q1, q⟩ := ba2 q
        obtain ⟨q2, q⟩ := ba2 q
        obtain ⟨q3, q5⟩ := ba2 q
        have e := eqS_iff.mp q1
        subst e
        obtain ⟨g1, g2⟩ := h.gl q2
        split at q3
        · rename_i f' hf
          rw [h.hG] at hf
          have e := eqS_iff.mp q3
          subst e
          exact xe_mkxK h.z hf g1 g2 (ia.e h q5)
        · cases q3
      · cases q }
  | sEx a ia =>
    exact {
    src := by
      intro X W sc ex tg h q
      simp only [kSrc] at q
      exact xs_ex (ia.e h q) }
  | sR1 a ia =>
    exact {
    src := by
      intro X W sc ex tg h q
      simp only [kSrc] at q
      split at q
      · obtain ⟨q1, q⟩ := ba2 q
        obtain ⟨q2, q⟩ := ba2 q
        obtain ⟨q3, q4⟩ := ba2 q
        have e := eqS_iff.mp q1
        subst e
        exact xs_r1 (h.gl q2).1 (h.z.pg.free _ (by decide)) (ia.e h q4) (star_one q3) (star_one q3)
      · cases q }
  | sR2 a b ia ib =>
    exact {
    src := by
      intro X W sc ex tg h q
      simp only [kSrc] at q
      split at q
      · obtain ⟨q1, q⟩ := ba2 q
        obtain ⟨q2, q⟩ := ba2 q
        obtain ⟨q3, q⟩ := ba2 q
        obtain ⟨q4, q⟩ := ba2 q
        obtain ⟨q5, q6⟩ := ba2 q
        have e := eqS_iff.mp q1
        subst e
        exact xs_r2 (h.gl q2).1 (h.z.pg.free _ (by decide)) (ia.e h q5) (ib.e h q6) (by rw [star_one q3, star_one q4]; rfl) (star_one q4) (star_one q3) (star_one q4)
      · cases q }
  | tNm i =>
    exact {
    tg := by
      intro X W sc ex h q
      simp only [kTg] at q
      split at q
      · obtain ⟨q1, q2⟩ := ba2 q
        obtain ⟨l1, l2⟩ := h.sr.l _ (locB_ok q2)
        exact xg_name h.z.nd (by rw [h.hN]; exact slotB_ok q1) l1 l2
      · cases q }
  | tTp a ia =>
    exact {
    tg := by
      intro X W sc ex h q
      simp only [kTg] at q
      split at q
      · obtain ⟨q1, q⟩ := ba2 q
        obtain ⟨q2, q3⟩ := ba2 q
        obtain ⟨l1, l2⟩ := assign_len (env := X.env) q1
        exact xg_tup h.z.calm (ia.tgs h q3) (by rw [l1]; exact Nat.eq_of_beq_eq_true q2) l2
      · cases q }
  | tIx a b ia ib =>
    exact {
    tg := by
      intro X W sc ex h q
      simp only [kTg] at q
      split at q
      · obtain ⟨q1, q⟩ := ba2 q
        obtain ⟨q2, q3⟩ := ba2 q
        exact xg_ix h.z (ia.e h q2) (ib.e h q3) (asg_ix q1)
      · cases q }
  | _ => exact {}
end Py
namespace Py
open PySem L2 PySem.Spec

/-! ### statements -/
def notName : Expr → Bool
  | .Name .. => false
  | _ => true
/-- no stores from the right -/
def plainAsg : Expr → Expr → Bool
  | .Tuple ts _ _, .Tuple _ _ _ => ts.any notName
  | .List .., _ => false
  | _, _ => true
theorem fm_le {α β : Type} {f : α → Option β} : ∀ {l : List α}, (l.filterMap f).length ≤ l.length
  | [] => Nat.le_refl _
  | a :: l => by
    rw [List.filterMap_cons]
    have := fm_le (f := f) (l := l)
    cases f a with
    | none => simp; omega
    | some b => simp; omega
theorem fm_lt {α β : Type} {f : α → Option β} : ∀ {l : List α}, (∃ a ∈ l, f a = none) → (l.filterMap f).length < l.length
  | [], ⟨_, h, _⟩ => by cases h
  | a :: l, ⟨b, hb, e⟩ => by
    have h0 := fm_le (f := f) (l := l)
    rcases List.mem_cons.mp hb with e2 | hb
    · subst e2
      rw [List.filterMap_cons, e]
      exact Nat.lt_succ_of_le h0
    · have h1 := fm_lt (f := f) ⟨b, hb, e⟩
      rw [List.filterMap_cons]
      cases f a with
      | none => exact Nat.lt_succ_of_lt h1
      | some c => exact Nat.succ_lt_succ h1
theorem no_swapped {tg e : Expr} {env : Env} (h : plainAsg tg e = true) : swappedStores [tg] e env = pure none := by
  cases tg with
  | Tuple ts k p =>
    cases e with
    | Tuple vs k2 p2 =>
      obtain ⟨t, ht, hn⟩ := List.any_eq_true.mp (show ts.any notName = true from h)
      unfold swappedStores
      dsimp only
      have key : ∀ {f : Expr → Option Str}, (∀ x, notName x = true → f x = none) → ((ts.filterMap f).length != ts.length) = true := fun {f} hf => by
        have := fm_lt (f := f) ⟨t, ht, hf t hn⟩
        simp only [bne_iff_ne, ne_eq]
        omega
      split
      · rfl
      · split
        · rfl
        · rw [key (fun x hx => by cases x <;> first | rfl | cases hx)]
          rfl
    | _ => rfl
  | List => cases h
  | _ => rfl
/-- does a comprehension store past its block's end -/
def swB (sc : Scope) (t : Str) (p : Pos) (v : Pos) (scope : Scope) : Bool := (if sc.kind.isAnnotationScope then ScopeKind.function else sc.kind) == .function && sc.names.lookup t == some .local && p.line == v.line && !(scope.names.any fun (n, k) => n == t && (k == .local || k == .cell))
def augOk : Operator → Bool
  | .Add => true
  | .Sub => true
  | _ => false
def isNm (N : List Str) (t : E) (x : Str) : Bool := match t with
  | .tNm i => slotB N i x
  | _ => false
def kRai (T : Kc) (c : Str) (a : E) (sc : Scope) (st : Stmt) : Bool := match st with
  | .Raise (some (.Call (.Name g _) [e] [] _)) none _ => eqS g c && (gloB sc g && (noStar e && ((T.G.exf c).isSome && kE T a sc e)))
  | _ => false
mutual
def kS (T : Kc) : S → Scope → Stmt → Bool
  | .skp, _, .Pass _ => true
  | .exp a, sc, .Expr e _ => notComp e && kE T a sc e
  | .ret a, sc, .Return (some e) _ => kE T a sc e
  | .asg t a, sc, .Assign [tg] e _ => match e with
    | .ListComp _ [⟨_, _, _, _⟩] scope p => (match tg with
      | .Name y py => isNm T.N t y && (decide (sc.names.lookup y = some .local) && (kE T a sc e && kTg T t sc tg))
      | _ => false)
    | e => notComp e && (noStar tg && (plainAsg tg e && (kTg T t sc tg && kE T a sc e)))
  | .aug o t a, sc, .AugAssign (.Name x _) o' e _ => decide (o' = o) && (augOk o && (isNm T.N t x && (locB sc x && kE T a sc e)))
  | .ife t a b, sc, .If c l r _ => kT T t sc c && (kB T a sc l && kB T b sc r)
  | .for_ _ t s b, sc, .For tg it body [] _ => notSet it && (kTg T t sc tg && (kSrc T s sc it && kB T b sc body))
  | .whl t b, sc, .While c body [] _ => kT T t sc c && kB T b sc body
  | .rai c a, sc, st => kRai T c a sc st
  | .brk, _, .Break _ => true
  | .cnt, _, .Continue _ => true
  | _, _, _ => false
def kB (T : Kc) : S → Scope → List Stmt → Bool
  | .skp, _, [] => true
  | .seq a b, sc, st :: rest => kS T a sc st && kB T b sc rest
  | _, _, _ => false
end
structure Hs (T : Kc) (X : Cx) (W : WX) (k : Nat) (G : Gb) (C : Cf) (sc : Scope) : Prop where
  x : Hx T X W k G C sc
  hsc : X.env.scope = sc
variable {T : Kc} {k : Nat} {G : Gb} {C : Cf}
structure SoundS (T : Kc) (k : Nat) (G : Gb) (C : Cf) (t0 : S) : Prop where
  s : ∀ {X : Cx} {W : WX} {sc : Scope} {st : Stmt}, Hs T X W k G C sc → kS T t0 sc st = true → PS X st (tS X.K W (evS G C t0)) := by
    intro X W sc st h q
    exact absurd (show false = true from q) Bool.false_ne_true
  b : ∀ {X : Cx} {W : WX} {sc : Scope} {st : List Stmt}, Hs T X W k G C sc → kB T t0 sc st = true → PSs X st (tS X.K W (evS G C t0)) := by
    intro X W sc st h q
    exact absurd (show false = true from q) Bool.false_ne_true
theorem soundS (t0 : S) : SoundS T k G C t0 := by
  induction t0 with
  | skp => exact {
      s := by
        intro X W sc st h q
        cases st <;> first | exact xx_skp | exact absurd (show false = true from q) Bool.false_ne_true
      b := by
        intro X W sc st h q
        cases st with
        | nil => exact xb_nil
        | cons _ _ => exact absurd (show false = true from q) Bool.false_ne_true }
  | seq a b ia ib => exact {
      b := by
        intro X W sc st h q
        cases st with
        | nil => exact absurd (show false = true from q) Bool.false_ne_true
        | cons st rest =>
          obtain ⟨q1, q2⟩ := ba2 (show (kS T a sc st && kB T b sc rest) = true from q)
          exact xb_cons (ia.s h q1) (ib.b h q2) }
  | brk => exact {
      s := by
        intro X W sc st h q
        cases st <;> first | exact xx_brk | exact absurd (show false = true from q) Bool.false_ne_true }
  | cnt => exact {
      s := by
        intro X W sc st h q
        cases st <;> first | exact xx_cnt | exact absurd (show false = true from q) Bool.false_ne_true }
  | exp a => exact {
      s := by
        intro X W sc st h q
        cases st with
        | Expr e p =>
          obtain ⟨q1, q2⟩ := ba2 (show (notComp e && kE T a sc e) = true from q)
          exact xx_exp ((sound a).e h.x q2) (no_swap q1)
        | _ => exact absurd (show false = true from q) Bool.false_ne_true }
  | ret a => exact {
      s := by
        intro X W sc st h q
        cases st with
        | Return o p =>
          cases o with
          | none => exact absurd (show false = true from q) Bool.false_ne_true
          | some e => exact xx_ret ((sound a).e h.x (show kE T a sc e = true from q))
        | _ => exact absurd (show false = true from q) Bool.false_ne_true }
  | asg t a => exact {
      s := by
        intro X W sc st h q
        cases st with
        | Assign tgs e p =>
          cases tgs with
          | nil => exact absurd (show false = true from q) Bool.false_ne_true
          | cons tg rest =>
            cases rest with
            | cons _ _ => exact absurd (show false = true from q) Bool.false_ne_true
            | nil =>
              have plain : (notComp e && (noStar tg && (plainAsg tg e && (kTg T t sc tg && kE T a sc e)))) = true → PS X (.Assign [tg] e p) (tS X.K W (evS G C (.asg t a))) := fun q => by
                obtain ⟨q1, q⟩ := ba2 q
                obtain ⟨q2, q⟩ := ba2 q
                obtain ⟨q3, q⟩ := ba2 q
                obtain ⟨q4, q5⟩ := ba2 q
                exact xx_asg ((sound a).e h.x q5) ((sound t).tg h.x q4) (no_swap q1) (no_swapped q3) (by rw [assign_one q2]; rfl)
              unfold kS at q
              split at q
              · rename_i elt tg2 it2 ifs2 z2 scope p2
                split at q
                · rename_i y py
                  obtain ⟨q1, q⟩ := ba2 q
                  obtain ⟨q2, q⟩ := ba2 q
                  obtain ⟨q3, q4⟩ := ba2 q
                  have q2 := of_decide_eq_true q2
                  cases t with
                  | tNm i =>
                    have hi := slotB_ok q1
                    have hsw : swapsWith (.ListComp elt [⟨tg2, it2, ifs2, z2⟩] scope p2) (some (.Name y py)) p.line X.env = pure (swB sc y py p2 scope) := by
                      unfold swB
                      rw [← h.hsc]
                      rfl
                    cases hb : swB sc y py p2 scope with
                    | false =>
                      rw [hb] at hsw
                      obtain ⟨l1, l2⟩ := h.x.sr.l y (.inl q2)
                      exact xx_set h.x.z.nd (by rw [h.x.hN]; exact hi) l1 l2 ((sound a).e h.x q3) hsw
                    | true =>
                      rw [hb] at hsw
                      cases a with
                      | cmpr t3 s3 c3 e3 ws3 =>
                        simp only [kE] at q3
                        obtain ⟨r0, q⟩ := ba2 q3
                        obtain ⟨r1, q⟩ := ba2 q
                        obtain ⟨r2, q⟩ := ba2 q
                        obtain ⟨r3, q⟩ := ba2 q
                        obtain ⟨r4, q⟩ := ba2 q
                        obtain ⟨r5, q⟩ := ba2 q
                        obtain ⟨r6, r7⟩ := ba2 q
                        have e0 := of_decide_eq_true r0
                        subst e0
                        have hsl : ∀ i ∈ tSl t3, i ∈ ws3 := fun i hi => by
                          obtain ⟨j, hj, e⟩ := List.any_eq_true.mp (List.all_eq_true.mp r2 i hi)
                          rw [Nat.eq_of_beq_eq_true e]; exact hj
                        exact xx_setLc h.x.z.calm h.x.z.nd (by rw [h.x.hN]; exact hi) (by rw [h.hsc]; exact q2) hsw ((sound s3).src h.x r4) (blkX h.x r1) ownOf_map hsl (fun s H C' cl fp => (sound t3).tg (h.x.blk _ s H C' cl fp) r5) (fun s H C' cl fp => (sound c3).ifs (h.x.blk _ s H C' cl fp) r6) (fun s H C' cl fp => (sound e3).e (h.x.blk _ s H C' cl fp) r7) (fun x => set_folds r3 x)
                      | con d => cases d <;> exact absurd (show false = true from q3) Bool.false_ne_true
                      | _ => exact absurd (show false = true from q3) Bool.false_ne_true
                  | _ => cases q1
                · cases q
              · exact plain q
        | _ => exact absurd (show false = true from q) Bool.false_ne_true }
  | aug o t a => exact {
      s := by
        intro X W sc st h q
        cases st with
        | AugAssign tg o' e p =>
          cases tg with
          | Name x px =>
            obtain ⟨q1, q⟩ := ba2 (show (decide (o' = o) && (augOk o && (isNm T.N t x && (locB sc x && kE T a sc e)))) = true from q)
            obtain ⟨q2, q⟩ := ba2 q
            obtain ⟨q3, q⟩ := ba2 q
            obtain ⟨q4, q5⟩ := ba2 q
            have e1 := of_decide_eq_true q1
            subst e1
            cases t with
            | tNm i =>
              obtain ⟨l1, l2⟩ := h.x.sr.l x (locB_ok q4)
              exact xx_aug (by cases o' <;> first | exact .inl rfl | exact .inr rfl | cases q2) h.x.z.nd (by rw [h.x.hN]; exact slotB_ok q3) l1 l2 ((sound a).e h.x q5)
            | _ => cases q3
          | _ => exact absurd (show false = true from q) Bool.false_ne_true
        | _ => exact absurd (show false = true from q) Bool.false_ne_true }
  | ife t a b ia ib => exact {
      s := by
        intro X W sc st h q
        cases st with
        | If c l r p =>
          obtain ⟨q1, q⟩ := ba2 (show (kT T t sc c && (kB T a sc l && kB T b sc r)) = true from q)
          obtain ⟨q2, q3⟩ := ba2 q
          exact xx_if ((sound t).t h.x q1) (ia.b h q2) (ib.b h q3)
        | _ => exact absurd (show false = true from q) Bool.false_ne_true }
  | for_ g t s b ib => exact {
      s := by
        intro X W sc st h q
        cases st with
        | For tg it body els p =>
          cases els with
          | cons _ _ => exact absurd (show false = true from q) Bool.false_ne_true
          | nil =>
            obtain ⟨q1, q⟩ := ba2 (show (notSet it && (kTg T t sc tg && (kSrc T s sc it && kB T b sc body))) = true from q)
            obtain ⟨q2, q⟩ := ba2 q
            obtain ⟨q3, q4⟩ := ba2 q
            exact xx_for h.x.z ((sound s).src h.x q3) ((sound t).tg h.x q2) (ib.b h q4) (fun x => set_folds q1 x)
        | _ => exact absurd (show false = true from q) Bool.false_ne_true }
  | whl t b ib => exact {
      s := by
        intro X W sc st h q
        cases st with
        | While c body els p =>
          cases els with
          | cons _ _ => exact absurd (show false = true from q) Bool.false_ne_true
          | nil =>
            obtain ⟨q1, q2⟩ := ba2 (show (kT T t sc c && kB T b sc body) = true from q)
            exact xx_whl h.x.z ((sound t).t h.x q1) (ib.b h q2)
        | _ => exact absurd (show false = true from q) Bool.false_ne_true }
  | rai c a => exact {
      s := by
        intro X W sc st h q
        have q : kRai T c a sc st = true := q
        unfold kRai at q
        split at q
        · obtain ⟨q1, q⟩ := ba2 q
          obtain ⟨q2, q⟩ := ba2 q
          obtain ⟨q3, q⟩ := ba2 q
          obtain ⟨q4, q5⟩ := ba2 q
          have e := eqS_iff.mp q1
          subst e
          obtain ⟨f, hf⟩ := Option.isSome_iff_exists.mp q4
          rw [h.x.hG] at hf
          obtain ⟨g1, g2⟩ := h.x.gl q2
          exact xx_rai h.x.z hf g1 g2 ((sound a).e h.x q5) (star_one q3)
        · cases q }
  | _ => exact {}
end Py
namespace Py
open PySem L2 PySem.Spec

/-! ### the program's table -/
/-- a def: its name, how many parameters, its names (parameters first), its body -/
structure Fd where
  name : Str
  np : Nat
  N : List Str
  b : S
def findF (f : Str) : List Fd → Option Fd
  | [] => none
  | d :: r => match eqS f d.name with
    | true => some d
    | false => findF f r
def knT (tab : List Fd) (f : Str) : Bool := match findF f tab with
  | some _ => true
  | none => false
def callT (G : Gb) (tab : List Fd) (wf : Nat) : Nat → Str → List D → Sto → R D
  | 0, _, _, _ => .bad
  | n + 1, f, ds, m => match findF f tab with
    | some d => runF G ⟨knT tab, callT G tab wf n, fun _ _ _ _ => .bad, wf⟩ d.b d.np d.N.length ds m
    | none => .bad
def cfT (G : Gb) (tab : List Fd) (wf n : Nat) : Cf := ⟨knT tab, callT G tab wf n, fun _ _ _ _ => .bad, wf⟩
/-- an exception class: its name, its field, its built-in base, the base that is named in __init__ -/
structure Xd where
  name : Str
  f : Str
  b : XB
  base : Str
  self : Str
def findX (c : Str) : List Xd → Option Str
  | [] => none
  | d :: r => match eqS c d.name with
    | true => some d.f
    | false => findX c r
def nodupS : List Str → Bool
  | [] => true
  | x :: r => match r.any (eqS x) with
    | true => false
    | false => nodupS r
theorem nodupS_ok : ∀ {l : List Str}, nodupS l = true → l.Nodup
  | [], _ => List.nodup_nil
  | x :: r, h => by
    unfold nodupS at h
    cases q : r.any (eqS x) with
    | true => rw [q] at h; cases h
    | false =>
      rw [q] at h
      refine List.nodup_cons.mpr ⟨fun hm => ?_, nodupS_ok h⟩
      have : r.any (eqS x) = true := List.any_eq_true.mpr ⟨x, hm, eqS_iff.mpr rfl⟩
      rw [this] at q; cases q
def eqSs : List Str → List Str → Bool
  | [], [] => true
  | x :: r, y :: t => match eqS x y with
    | true => eqSs r t
    | false => false
  | _, _ => false
theorem eqSs_ok : ∀ {l t : List Str}, eqSs l t = true → l = t
  | [], [], _ => rfl
  | [], _ :: _, h => by cases h
  | _ :: _, [], h => by cases h
  | x :: r, y :: t, h => by
    unfold eqSs at h
    cases q : eqS x y with
    | false => rw [q] at h; cases h
    | true => rw [q] at h; rw [eqS_iff.mp q, eqSs_ok h]
/-- a function's frame: its names in its scope -/
def frmB (sc : Scope) (N ps : List Str) : Bool := (match sc.kind with | .function => true | _ => false) && (!sc.isCoroutine && (!sc.isGenerator && (nodupS N && (eqSs (N.take ps.length) ps && (ps.all (locB sc) && sc.names.all (fun y => match y.2 with | .free => false | _ => true))))))
theorem frmB_ok {sc : Scope} {N ps : List Str} (h : frmB sc N ps = true) : FnScope N ps sc := by
  unfold frmB at h
  obtain ⟨h1, h⟩ := ba2 h
  obtain ⟨h2, h⟩ := ba2 h
  obtain ⟨h3, h⟩ := ba2 h
  obtain ⟨h4, h⟩ := ba2 h
  obtain ⟨h5, h⟩ := ba2 h
  obtain ⟨h6, h7⟩ := ba2 h
  refine ⟨?_, by simpa using h2, by simpa using h3, nodupS_ok h4, eqSs_ok h5, fun x hx => locB_ok (List.all_eq_true.mp h6 x hx), fun y hy e => ?_⟩
  · split at h1
    · rename_i e; exact e
    · cases h1
  · have := List.all_eq_true.mp h7 y hy
    rw [e] at this; cases this
/-- the def at an address tells the table's row -/
def fnAt (K : PySem.W.Frag) (f : Addr) (P : Str → List Arg → List Stmt → Scope → Bool) : Bool := match K.lookup f with
  | some ⟨_, _, .func d, _⟩ => (match d with
    | ⟨_, q, ⟨[], as, none, [], [], none, []⟩, .stmts body, sc, g, [], .none, _, _, _, _, cd, _, bl⟩ => decide (g = mainGlobals) && (decide (bl = builtinsNs) && (PySem.W.codeIn K cd q && P q as body sc))
    | _ => false)
  | _ => false
theorem fnAt_ok {K : PySem.W.Frag} {f : Addr} {P : Str → List Arg → List Stmt → Scope → Bool} (h : fnAt K f P = true) :
    ∃ oc od osl nm q as body sc kV doc pm an cdv ct, K.lookup f = some ⟨oc, od, .func (PySem.W.fnOf nm q ⟨[], as, none, [], [], none, []⟩ body sc .none kV doc pm an cdv ct), osl⟩ ∧ PySem.W.codeIn K cdv q = true ∧ P q as body sc = true := by
  unfold fnAt at h
  split at h
  · rename_i oc od d osl e
    split at h
    · rename_i nm q as body sc g kV doc pm an cd ct bl
      obtain ⟨h1, h⟩ := ba2 h
      obtain ⟨h2, h⟩ := ba2 h
      obtain ⟨h3, h4⟩ := ba2 h
      have e1 := of_decide_eq_true h1
      have e2 := of_decide_eq_true h2
      subst e1 e2
      exact ⟨_, _, _, _, _, _, _, _, _, _, _, _, _, _, e, h3, h4⟩
    · cases h
  · cases h
def argN (as : List Arg) : List Str := as.map (·.arg)
def fdB (T : List Str → Kc) (K : PySem.W.Frag) (d : Fd) : Bool := match PySem.W.nsIn K mainGlobals d.name with
  | some (some (.ref f)) => PySem.W.keepIn K (.ref f) && fnAt K f fun _ as body sc => Nat.beq as.length d.np && (frmB sc d.N (argN as) && kB (T d.N) d.b sc body)
  | _ => false
def xdB (K : PySem.W.Frag) (d : Xd) : Bool := match PySem.W.nsIn K mainGlobals d.name with
  | some (some (.ref C)) => xcB K C d.f d.b && (match PySem.W.findIn K (.ref C) "__init__" with
    | some (some (.ref fI)) => decide (PySem.W.typeIn K (.ref fI) = some (.type "function")) && (fnAt K fI (fun _ as body sc => eqSs (argN as) [d.self, d.f] && (frmB sc [d.self, d.f] [d.self, d.f] && iniOk body sc d.base d.self d.f d.f)) &&
      (match PySem.W.nsIn K mainGlobals d.base with
        | some (some (.ref C0)) => PySem.W.readsIn K C0 (.type "type") && (decide (PySem.W.specialIn K (.ref C0) "__getattribute__" = some (some (.builtin "type.__getattribute__"))) && (match PySem.W.findCls K (.ref C0) (.type "type") "__init__" with | some (.val v) => decide (v = .builtin d.b.initId) | _ => false))
        | some none => eqS d.base d.b.nm && (match PySem.W.findCls K (.type d.b.nm) (.type "type") "__init__" with | some (.val v) => decide (v = .builtin d.b.initId) | _ => false)
        | _ => false))
    | _ => false)
  | _ => false
end Py
namespace Py
open PySem L2 PySem.Spec

theorem ga_of {K : PySem.W.Frag} {x : Str} {a : Addr} (e : PySem.W.nsIn K mainGlobals x = some (some (.ref a))) : He.ga K x = a := by
  unfold He.ga
  rw [e]
/-! ### constants of the text -/
def valB (K : PySem.W.Frag) : Nat → D → Value → Bool
  | 0, _, _ => false
  | n + 1, d, u => match d, u with
    | .non, .none => true
    | .bl a, .bool b => decide (a = b)
    | .int i, .int j _ => decide (i = j)
    | .str x, .str y _ => eqS x y
    | .tup xs, .ref a => (match K.lookup a with
      | some ⟨.type "tuple", _, .seq its _, _⟩ => Nat.ble its.size 1000 && allB2 (valB K n) xs its.toList
      | _ => false)
    | _, _ => false
where allB2 (f : D → Value → Bool) : List D → List Value → Bool
  | [], [] => true
  | x :: r, y :: t => match f x y with
    | true => allB2 f r t
    | false => false
  | _, _ => false
theorem valB_ok {K : PySem.W.Frag} : ∀ (n : Nat) {d : D} {u : Value}, valB K n d u = true → ∃ v, RelV v u ∧ ∀ r H, RD K r H d v
  | 0, _, _, h => by cases h
  | n + 1, d, u, h => by
    unfold valB at h
    split at h
    · exact ⟨.non, rfl, fun _ _ => .non⟩
    · rename_i a b
      rw [of_decide_eq_true h]; exact ⟨.bl b, rfl, fun _ _ => .bl b⟩
    · rename_i i j t
      rw [of_decide_eq_true h]; exact ⟨.int j, ⟨t, rfl⟩, fun _ _ => .int j⟩
    · rename_i x y t
      rw [eqS_iff.mp h]; exact ⟨.str y, ⟨t, rfl⟩, fun _ _ => .str y⟩
    · rename_i xs a
      split at h
      · rename_i od its m sl e
        obtain ⟨h1, h2⟩ := ba2 h
        have key : ∀ {xs : List D} {us : List Value}, valB.allB2 (valB K n) xs us = true → ∃ vs, Vals vs us ∧ ∀ r H, RDs K r H xs vs := by
          intro xs
          induction xs with
          | nil =>
            intro us q
            cases us with
            | nil => exact ⟨[], .nil, fun _ _ => .nil⟩
            | cons _ _ => cases q
          | cons x xs ih =>
            intro us q
            cases us with
            | nil => cases q
            | cons y us =>
              unfold valB.allB2 at q
              cases e : valB K n x y with
              | false => rw [e] at q; cases q
              | true =>
                rw [e] at q
                obtain ⟨v, g1, g2⟩ := valB_ok n e
                obtain ⟨vs, g3, g4⟩ := ih q
                exact ⟨v :: vs, .cons g1 g3, fun r H => .cons (g2 r H) (g4 r H)⟩
        obtain ⟨vs, g1, g2⟩ := key h2
        refine ⟨.ref a, rfl, fun r H => .tup (.inr ⟨_, its, m, e, rfl, rfl, ?_, g1⟩) (g2 r H)⟩
        have := Nat.le_of_ble_eq_true h1
        rw [sizeLine_eq]; omega
      · cases h
    · cases h
def csB (K : PySem.W.Frag) (p : Str × D) : Bool := match PySem.W.nsIn K mainGlobals p.1 with
  | some (some u) => (match p.2 with
    | .gl x => eqS x p.1 && (match u with | .ref _ => true | _ => false)
    | d => valB K 40 d u)
  | _ => false
def lkC (x : Str) : List (Str × D) → Option D
  | [] => none
  | p :: r => match eqS x p.1 with
    | true => some p.2
    | false => lkC x r
def lkP (c d : Str) : List (Str × Str × Bool) → Option Bool
  | [] => none
  | p :: r => match eqS c p.1, eqS d p.2.1 with
    | true, true => some p.2.2
    | _, _ => lkP c d r
def lkQ (c : Str) (t : BT) : List (Str × BT × Bool) → Option Bool
  | [] => none
  | p :: r => match eqS c p.1, decide (t = p.2.1) with
    | true, true => some p.2.2
    | _, _ => lkQ c t r
/-- all that is told of the program -/
structure Prg where
  tab : List Fd
  xs : List Xd
  cs : List (Str × D)
  ks : List (Str × Str × Bool)
  ss : List (Str × BT × Bool)
  wf : Nat
def Prg.G (p : Prg) : Gb := ⟨fun x => lkC x p.cs, fun c d => lkP c d p.ks, fun c t => lkQ c t p.ss, fun c => findX c p.xs⟩
def Prg.T (p : Prg) (N : List Str) : Kc := ⟨p.G, knT p.tab, N⟩
def Prg.C (p : Prg) (n : Nat) : Cf := cfT p.G p.tab p.wf n
def isXd (xs : List Xd) (c : Str) : Bool := match findX c xs with
  | some _ => true
  | none => false
def Prg.chk (p : Prg) (K : PySem.W.Frag) : Bool :=
  p.tab.all (fdB p.T K) && (p.xs.all (xdB K) && (p.cs.all (csB K) && (p.ks.all (fun q => isXd p.xs q.1 && decide (PySem.W.kitOne K (.ref (He.ga K q.1)) (.ref (He.ga K q.2.1)) = some q.2.2)) &&
  (p.ss.all (fun q => isXd p.xs q.1 && decide (PySem.W.kitOne K (.ref (He.ga K q.1)) (.type q.2.1.name) = some q.2.2)) && (builtinNames.all (fun x => decide (PySem.W.nsIn K mainGlobals x = some none)) && (K.lookup sysModules).isSome)))))
section
variable {P : Program} {w : World} {K : PySem.W.Frag} {mg : Str → Option Value} {base : Heap}
theorem xd_ok (M : Mod K mg base) {d : Xd} (h : xdB K d = true) : mg d.name = some (.ref (He.ga K d.name)) ∧ MkX P w K mg base (He.ga K d.name) d.f ∧ XcC K (He.ga K d.name) d.f d.b := by
  unfold xdB at h
  split at h
  · rename_i C e
    rw [ga_of e]
    obtain ⟨h1, h⟩ := ba2 h
    have T := xcB_ok h1
    refine ⟨PySem.W.mg_of M.kin M.glob e, ?_, T⟩
    split at h
    · rename_i fI ei
      obtain ⟨h2, h⟩ := ba2 h
      obtain ⟨h3, h4⟩ := ba2 h
      obtain ⟨oc, od, osl, nm, q, as, body, sc, kV, doc, pm, an, cdv, ct, lk, hcd, h5⟩ := fnAt_ok h3
      obtain ⟨h6, h5⟩ := ba2 h5
      obtain ⟨h7, h8⟩ := ba2 h5
      have ea : as.map (·.arg) = [d.self, d.f] := eqSs_ok h6
      have S := frmB_ok h7
      have hB : IniB K mg d.base d.b := by
        refine ⟨?_⟩
        split at h4
        · rename_i C0 e0
          obtain ⟨g1, g⟩ := ba2 h4
          obtain ⟨g2, g3⟩ := ba2 g
          refine .inl ⟨C0, PySem.W.mg_of M.kin M.glob e0, g1, of_decide_eq_true g2, ?_⟩
          split at g3
          · rename_i v ev; rw [ev, of_decide_eq_true g3]
          · cases g3
        · rename_i e0
          obtain ⟨g1, g3⟩ := ba2 h4
          refine .inr ⟨PySem.W.mg_none_of M.kin M.glob e0, eqS_iff.mp g1, ?_⟩
          split at g3
          · rename_i v ev; rw [ev, of_decide_eq_true g3]
          · cases g3
        · cases h4
      refine ⟨d.b, fI, _, d.self, T, ei, of_decide_eq_true h2, ini_fn lk hcd S T hB h8, Binds.all fun us hl => ?_, fun s u v => .of_eq (bind_11 ea ?_)⟩
      · rw [← ea] at hl ⊢
        exact bind_pos (by rw [ea]; exact S.nd) hl
      · have nd := S.nd
        cases q2 : d.f == d.self with
        | false => rfl
        | true =>
          have e3 : d.f = d.self := by simpa using q2
          rw [e3] at nd
          simp at nd
    · cases h
  · cases h
theorem fd_ok {G : Gb} {T : List Str → Kc} {d : Fd} (h : fdB T K d = true) : ∃ fa fnd ps, PySem.W.nsIn K mainGlobals d.name = some (some (.ref fa)) ∧ PySem.W.keepIn K (.ref fa) = true ∧ (∀ us : List Value, us.length = ps.length → bindArgs fnd ⟨us, []⟩ = pure (ps.zip us)) ∧ ps.length = d.np ∧
    ∀ (P : Program) (w : World) (mg : Str → Option Value) (base : Heap) (k : Nat) (C : Cf), T d.N = ⟨G, C.kn, d.N⟩ → Pg P w K mg base k G C → FnG P w K mg base (k + 1) fa fnd ps (spF K (runF G C d.b d.np d.N.length)) := by
  unfold fdB at h
  split at h
  · rename_i f e
    obtain ⟨h1, h⟩ := ba2 h
    obtain ⟨oc, od, osl, nm, q, as, body, sc, kV, doc, pm, an, cdv, ct, lk, hcd, h5⟩ := fnAt_ok h
    obtain ⟨h6, h5⟩ := ba2 h5
    obtain ⟨h7, h8⟩ := ba2 h5
    have S := frmB_ok h7
    have hnp : (argN as).length = d.np := by unfold argN; rw [List.length_map]; exact Nat.eq_of_beq_eq_true h6
    have nd : (argN as).Nodup := by rw [← S.pre]; exact S.nd.sublist (List.take_sublist _ _)
    refine ⟨f, PySem.W.fnOf nm q ⟨[], as, none, [], [], none, []⟩ body sc .none kV doc pm an cdv ct, argN as, e, h1, fun us hl => bind_pos nd hl, hnp, fun P w mg base k C eT pg => ?_⟩
    rw [← hnp]
    refine fnG_body lk hcd S pg fun X W z eN esc efn _ _ _ => ?_
    refine (soundS (T := T d.N) d.b).b (k := k) (G := G) (C := C) (sc := sc) ⟨⟨z, ?_, ?_, ?_, ?_⟩, esc⟩ h8
    · rw [eT, eN]
    · rw [eT]
    · rw [eT]
    · subst esc
      exact ⟨fun _ v => v, fun _ g => g, fun x l => ⟨l, .inl (efn x)⟩, fun _ c => c⟩
  · cases h
theorem findF_mem {f : Str} : ∀ {l : List Fd} {d : Fd}, findF f l = some d → d ∈ l ∧ d.name = f
  | [], _, h => by cases h
  | x :: l, d, h => by
    unfold findF at h
    cases q : eqS f x.name with
    | true => rw [q] at h; cases h; exact ⟨List.mem_cons_self, (eqS_iff.mp q).symm⟩
    | false => rw [q] at h; obtain ⟨a, b⟩ := findF_mem h; exact ⟨List.mem_cons_of_mem _ a, b⟩
theorem findX_mem {c f : Str} : ∀ {l : List Xd}, findX c l = some f → ∃ d ∈ l, d.name = c ∧ d.f = f
  | [], h => by cases h
  | x :: l, h => by
    unfold findX at h
    cases q : eqS c x.name with
    | true => rw [q] at h; cases h; exact ⟨x, List.mem_cons_self, (eqS_iff.mp q).symm, rfl⟩
    | false => rw [q] at h; obtain ⟨d, a, b⟩ := findX_mem h; exact ⟨d, List.mem_cons_of_mem _ a, b⟩
theorem lkC_mem {x : Str} {d : D} : ∀ {l : List (Str × D)}, lkC x l = some d → (x, d) ∈ l
  | [], h => by cases h
  | p :: l, h => by
    unfold lkC at h
    cases q : eqS x p.1 with
    | true => rw [q] at h; cases h; rw [eqS_iff.mp q]; exact List.mem_cons_self
    | false => rw [q] at h; exact List.mem_cons_of_mem _ (lkC_mem h)
theorem lkP_mem {c d : Str} {b : Bool} : ∀ {l : List (Str × Str × Bool)}, lkP c d l = some b → (c, d, b) ∈ l
  | [], h => by cases h
  | p :: l, h => by
    unfold lkP at h
    cases q : eqS c p.1 with
    | false => rw [q] at h; exact List.mem_cons_of_mem _ (lkP_mem h)
    | true =>
      cases q2 : eqS d p.2.1 with
      | false => rw [q, q2] at h; exact List.mem_cons_of_mem _ (lkP_mem h)
      | true => rw [q, q2] at h; cases h; rw [eqS_iff.mp q, eqS_iff.mp q2]; exact List.mem_cons_self
theorem lkQ_mem {c : Str} {t : BT} {b : Bool} : ∀ {l : List (Str × BT × Bool)}, lkQ c t l = some b → (c, t, b) ∈ l
  | [], h => by cases h
  | p :: l, h => by
    unfold lkQ at h
    cases q : eqS c p.1 with
    | false => rw [q] at h; exact List.mem_cons_of_mem _ (lkQ_mem h)
    | true =>
      cases q2 : decide (t = p.2.1) with
      | false => rw [q, q2] at h; exact List.mem_cons_of_mem _ (lkQ_mem h)
      | true => rw [q, q2] at h; cases h; rw [eqS_iff.mp q, of_decide_eq_true q2]; exact List.mem_cons_self
theorem pg_of (M : Mod K mg base) {p : Prg} (h : p.chk K = true) : ∀ n : Nat, Pg P w K mg base (2 + n) p.G (p.C n) := by
  unfold Prg.chk at h
  obtain ⟨h1, h⟩ := ba2 h
  obtain ⟨h2, h⟩ := ba2 h
  obtain ⟨h3, h⟩ := ba2 h
  obtain ⟨h4, h⟩ := ba2 h
  obtain ⟨h5, h⟩ := ba2 h
  obtain ⟨h6, h7⟩ := ba2 h
  have xc : ∀ {c : Str}, isXd p.xs c = true → ∃ f x, XcC K (He.ga K c) f x := fun {c} q => by
    unfold isXd at q
    split at q
    · rename_i f e
      obtain ⟨d, hd, rfl, rfl⟩ := findX_mem e
      exact ⟨d.f, d.b, (xd_ok (P := P) (w := w) M (List.all_eq_true.mp h2 d hd)).2.2⟩
    · cases q
  have mk : ∀ (n : Nat), (∀ f, (p.C n).kn f = true → ∃ fa fd ps, mg f = some (.ref fa) ∧ PySem.W.keepIn K (.ref fa) = true ∧ Binds K fd ps [] ∧ FnG P w K mg base (2 + n) fa fd ps (spF K ((p.C n).call f))) → Pg P w K mg base (2 + n) p.G (p.C n) := fun n hfn =>
    { free := fun x hx => PySem.W.mg_none_of M.kin M.glob (of_decide_eq_true (List.all_eq_true.mp h6 x hx))
      sysm := Option.isSome_iff_exists.mp h7
      cst := fun x d e => by
        have q := List.all_eq_true.mp h3 (x, d) (lkC_mem e)
        unfold csB at q
        dsimp only at q
        split at q
        · rename_i u eu
          have hm := PySem.W.mg_of M.kin M.glob eu
          split at q
          · obtain ⟨q1, q2⟩ := ba2 q
            split at q2
            · rename_i a
              have ex := eqS_iff.mp q1
              subst ex
              refine ⟨_, .ref a, hm, rfl, fun r H => ?_⟩
              have := ga_of eu
              rw [← this]
              exact .gl _
            · cases q2
          · obtain ⟨v, g1, g2⟩ := valB_ok 40 q
            exact ⟨u, v, hm, g1, g2⟩
        · cases q
      fn := hfn
      exc := fun c f e => by
        obtain ⟨d, hd, rfl, rfl⟩ := findX_mem e
        obtain ⟨g1, g2, _⟩ := xd_ok (P := P) (w := w) M (List.all_eq_true.mp h2 d hd)
        exact ⟨g1, by omega, g2⟩
      cls := fun c d b e => by
        obtain ⟨q1, q2⟩ := ba2 (List.all_eq_true.mp h4 (c, d, b) (lkP_mem e))
        exact ⟨xc q1, of_decide_eq_true q2⟩
      sup := fun c t b e => by
        obtain ⟨q1, q2⟩ := ba2 (List.all_eq_true.mp h5 (c, t, b) (lkQ_mem e))
        exact ⟨xc q1, of_decide_eq_true q2⟩ }
  have kn : ∀ {n : Nat} {f : Str}, (p.C n).kn f = true → ∃ d, findF f p.tab = some d := fun {n f} q => by
    have q : knT p.tab f = true := q
    unfold knT at q
    split at q
    · rename_i d e; exact ⟨d, e⟩
    · cases q
  intro n
  induction n with
  | zero =>
    refine mk 0 fun f q => ?_
    obtain ⟨d, hd⟩ := kn q
    obtain ⟨hm, rfl⟩ := findF_mem hd
    obtain ⟨fa, fnd, ps, g1, g2, g3, g4, g5⟩ := fd_ok (G := p.G) (List.all_eq_true.mp h1 d hm)
    refine ⟨fa, fnd, ps, PySem.W.mg_of M.kin M.glob g1, g2, Binds.all g3, ⟨fun vs H Q E ⟨r, m, ds, _, _, z⟩ => (show False from z).elim, fun A outer s H args us vs Q E _ _ _ _ _ ⟨r, m, ds, _, _, z⟩ => (show False from z).elim⟩⟩
  | succ n ih =>
    refine mk (n + 1) fun f q => ?_
    obtain ⟨d, hd⟩ := kn q
    obtain ⟨hm, rfl⟩ := findF_mem hd
    obtain ⟨fa, fnd, ps, g1, g2, g3, g4, g5⟩ := fd_ok (G := p.G) (List.all_eq_true.mp h1 d hm)
    refine ⟨fa, fnd, ps, PySem.W.mg_of M.kin M.glob g1, g2, Binds.all g3, ?_⟩
    have e : (p.C (n + 1)).call d.name = runF p.G (p.C n) d.b d.np d.N.length := by
      funext ds m
      show callT p.G p.tab p.wf (n + 1) d.name ds m = _
      unfold callT
      rw [hd]
      rfl
    rw [e]
    exact g5 P w mg base (2 + n) (p.C n) rfl ih
end
end Py
namespace Py
open PySem L2 PySem.Spec PyProof.Rows

/-! ### the law, called behind the top -/
def notLst (o : Obj) : Bool := match o.cls with
  | .type "list" => false
  | _ => true
theorem end_call {P : Program} {w : World} {K : PySem.W.Frag} {mg mb : Str → Option Value} {k : Nat} {fa a : Addr} {fd : FuncData} {x : Str} {g : List D → Sto → R D} {s1 : Shared} {vs : List Value} {ns : List Int}
    (KX : K.In s1.heap) (hns : s1.heap.Ns mainGlobals mg) (hb : s1.heap.Ns builtinsNs mb) (hbb : ∀ x : Str, x ≠ "__name__" → mb x = bootBuiltins x) (hlim : s1.heap.NoLimit) (hg : s1.gens = #[])
    (ha : s1.heap.get? a = some { cls := .type "list", data := .seq vs.toArray }) (hi : IntsAre vs ns) (hl : ns.length ≤ sizeLine) (hr : Room k callerA) (nl : ∀ b o, K.lookup b = some o → notLst o = true)
    (F : ∀ base : Heap, Mod K mg base → FnG P w K mg base k fa fd [x] (spF K g)) (hbind : ∀ (s : Shared) (u : Value), BindsTo s fd ⟨[u], []⟩ [(x, u)]) (hsp : ∃ m, g [.ref 0] ⟨1, 0, [(0, .frl ns)]⟩ = .ok (.bl true) m) :
    codeAny (model P w) callerA (.call (.ref fa) ⟨[.ref a], []⟩) (fun r s' => r = .ok (.ret (.bool true)) ∧ OldK s1.heap s'.heap ∧ s'.os = s1.os ∧ AllBare s'.gens) s1 := by
  have rv := vals_ints hi
  have hk : K.lookup a = none := by
    cases e : K.lookup a with
    | none => rfl
    | some o =>
      have e2 := KX a o e
      rw [ha] at e2
      cases e2
      exact absurd (show false = true from nl a _ e) Bool.false_ne_true
  obtain ⟨H, hH⟩ : ∃ H : Hp, H = fun b => if b = a then some (.frz { cls := .type "list", data := .seq vs.toArray } (.lst (ns.map V.int))) else none := ⟨_, rfl⟩
  have hHa : H a = some (.frz { cls := .type "list", data := .seq vs.toArray } (.lst (ns.map V.int))) := by rw [hH]; exact if_pos rfl
  have hHn : ∀ b, b ≠ a → H b = none := fun b h => by rw [hH]; exact if_neg h
  have hok : HOk P w H s1.heap := fun b u z => by
    by_cases hb : b = a
    · subst hb
      rw [hHa] at z; cases z
      exact ⟨ha, by rw [List.length_map]; exact hl, vs, _, rv, ha⟩
    · rw [hHn b hb] at z; cases z
  have base_of : ∀ {b : Addr} {o : Obj}, s1.heap.get? b = some o → H b = none → (hidT s1.heap H).get? b = some o := fun e n => hidT_get e n
  have noA : ∀ {b : Addr} {o : Obj} {es : Array DictEntry} {ep : Nat}, s1.heap.get? b = some o → o.data = .dict es ep → H b = none := fun {b o es ep} e d => by
    refine hHn b fun z => ?_
    subst z
    rw [ha] at e; cases e
    have d' : Data.seq vs.toArray _ = Data.dict es ep := d
    cases d'
  have nsK : ∀ {b : Addr} {m : Str → Option Value}, s1.heap.Ns b m → (hidT s1.heap H).Ns b m := fun {b m} ⟨o, es, ep, e, d, r⟩ => ⟨o, es, ep, base_of e (noA e d), d, r⟩
  have hKb : K.In (hidT s1.heap H) := fun b o e => base_of (KX b o e) (hHn b fun z => by rw [z, hk] at e; cases e)
  have hM : Mod K mg (hidT s1.heap H) := ⟨hKb, nsK hns, ⟨mb, nsK hb, hbb⟩, let ⟨mc, h1, h2⟩ := hlim; ⟨mc, nsK h1, h2⟩⟩
  have e0 : Env0 P w K mg (hidT s1.heap H) callerA [] s1 H := ⟨rfl, hM, fun b o e => of_hidT e, Nat.le_of_eq (hidT_size _ _), trivial, fun b hb => absurd (show b ∈ ([] : List Addr) from hb) (by simp), hok, .of_eq hg⟩
  have sp : spF K g [.ref a] H (fun v _ => v = .bl true) fun _ _ _ => False := by
    obtain ⟨m, hm⟩ := hsp
    refine ⟨fun n => if n = 0 then some a else none, ⟨1, 0, [(0, .frl ns)]⟩, [.ref 0], ⟨fun n o h => ?_, fun n k b h1 h2 => ?_, fun n h => if_neg (by show n ≠ 0; have : 1 ≤ n := h; omega), fun n o h => ?_, fun n b h => ?_⟩, .cons (.ref (if_pos rfl)) .nil, ?_⟩
    · have h : lkN n [(0, O.frl ns)] = some o := h
      unfold lkN at h
      cases q : Nat.beq (0, O.frl ns).1 n with
      | false => rw [q] at h; cases h
      | true =>
        rw [q] at h; cases h
        have := Nat.eq_of_beq_eq_true q
        subst this
        exact ⟨a, if_pos rfl, _, hHa⟩
    · by_cases e1 : n = 0
      · by_cases e2 : k = 0
        · rw [e1, e2]
        · rw [if_neg e2] at h2; cases h2
      · rw [if_neg e1] at h1; cases h1
    · have h : lkN n [(0, O.frl ns)] = some o := h
      unfold lkN at h
      cases q : Nat.beq (0, O.frl ns).1 n with
      | false => rw [q] at h; cases h
      | true =>
        have := Nat.eq_of_beq_eq_true q
        rw [← this]; exact Nat.zero_lt_one
    · by_cases e1 : n = 0
      · rw [if_pos e1] at h; cases h; exact ⟨_, hHa⟩
      · rw [if_neg e1] at h; cases h
    · rw [hm]
      intro r' H' v _ _ _ rd
      cases rd
      rfl
  refine codeAny_mono ((F _ hM).run callerA [] s1 H ⟨[.ref a], []⟩ [.ref a] [.ref a] _ _ hr rfl e0 (hbind s1 (.ref a)) (.cons rfl .nil) sp) fun r s' h => ?_
  cases r with
  | error e =>
    obtain ⟨_, _, _, _, _, _, _, _, _, _, _, _, z⟩ := h
    exact z.elim
  | ok fl =>
    cases fl with
    | next => exact False.elim h
    | brk => exact False.elim h
    | cont => exact False.elim h
    | ret u =>
      obtain ⟨v, H', os, bare, un, hok', r', q⟩ := h
      have q' : v = .bl true := q
      subst q'
      obtain rfl : u = Value.bool true := r'
      refine ⟨rfl, OldK.of_keep fun b o e => ?_, os, bare⟩
      by_cases hb : b = a
      · subst hb
        have z2 := un.frzs b _ _ hHa
        obtain ⟨e2, _⟩ := hok' b _ z2
        rw [ha] at e; cases e
        exact e2
      · exact un.keep b o e (hHn b hb) (by intro z; exact absurd (show b ∈ ([] : List Addr) from z) (by simp)) (by simp)
/-! ### the head's Hook -/
def frK (n : Nat) (g : Addr → Option Obj) : PySem.W.Frag := He.frG g (sysModules :: cStatics :: He.asG g n)
def obP (p : Prg) (n : Nat) (g : Addr → Option Obj) : Bool := p.chk (frK n g) && (frK n g).all fun q => notLst q.2
theorem mem_lk {a : Addr} {o : Obj} : ∀ {l : List (Addr × Obj)}, l.lookup a = some o → (a, o) ∈ l
  | [], h => by simp at h
  | (b, u) :: l, h => by
    rw [List.lookup] at h
    cases q : a == b with
    | true =>
      rw [q] at h; cases h
      have : a = b := by simpa using q
      subst this
      exact List.mem_cons_self
    | false =>
      rw [q] at h
      exact List.mem_cons_of_mem _ (mem_lk h)
def hkP (p : Prg) (n : Nat) : PySem.W.Hook where
  α := Bool
  obs := fun s => obP p n s.heap.get?
  val := fun _ => true
  says := fun _ h => ∃ K : PySem.W.Frag, K.In h ∧ p.chk K = true ∧ ∀ b o, K.lookup b = some o → notLst o = true
  of := fun _ _ e => by
    obtain ⟨e1, e2⟩ := ba2 e
    refine ⟨_, He.frG_in, e1, fun b o q => ?_⟩
    exact List.all_eq_true.mp e2 (b, o) (mem_lk q)
  keeps := fun _ _ _ ⟨K, hK, c⟩ k => ⟨K, PySem.W.Frag.In.keeps hK k, c⟩
theorem obP_eq {p : Prg} {n : Nat} (s : PySem.W.SharedT) : obP p n (HandSHeadRun.getT s) = (hkP p n).obs s.abs := by
  have e : HandSHeadRun.getT s = s.abs.heap.get? := funext (HandSHeadRun.getT_eq s)
  rw [e] <;> rfl
/-- a law, from the run of its machine -/
theorem walk_p {l : PySem.W.OpenLaw} {n : Nat} {q : Program} {loose : List Str} {XP : (Str → Option Value) → Heap → Prop} {d : DefRec} {p : Prg} {j dp : Nat} {fd : Fd}
    (hn : l.most = some n) (hn2 : n ≤ sizeLine) (hdf : d.params.defaults = []) (hr : Room (2 + (dp + 1)) callerA) (hf : findF d.name p.tab = some fd) (h1 : fd.np = 1)
    (hrun : ∀ ns : List Int, ns.length ≤ n → ∃ m, callT p.G p.tab p.wf (dp + 1) d.name [.ref 0] ⟨1, 0, [(0, .frl ns)]⟩ = .ok (.bl true) m) :
    PySem.W.WalkO q loose XP (hkP p j).says l.row.toRowW d [] (fun f vs => PySem.call f vs) := by
  refine Att.attach_call hn hdf fun w s0 s1 mg mb fa o pm cd doc a vs ns G Y ho hd hcd hmg hobj hints hlen hg => ?_
  obtain ⟨K, KX, c, nl⟩ := Y
  have M0 : Mod K mg s1.heap := ⟨KX, G.T.g, ⟨mb, G.T.b, G.T.builtins⟩, G.T.nolimit⟩
  obtain ⟨hm, hnm⟩ := findF_mem hf
  have hc := List.all_eq_true.mp (ba2 (show (p.tab.all (fdB p.T K) && _) = true from c)).1 fd hm
  obtain ⟨fa', fnd, ps, g1, g2, g3, g4, g5⟩ := fd_ok (G := p.G) hc
  have g1 := PySem.W.mg_of KX G.T.g g1
  rw [hnm, hmg] at g1
  cases g1
  obtain ⟨x, rfl⟩ : ∃ x, ps = [x] := by
    rw [h1] at g4
    match ps, g4 with
    | [x], _ => exact ⟨x, rfl⟩
  refine end_call (x := x) (fd := fnd) (g := callT p.G p.tab p.wf (dp + 1) d.name) KX G.T.g G.T.b G.T.builtins G.T.nolimit hg hobj hints (Nat.le_trans hlen hn2) hr nl (fun base M => ?_) (fun s u => .of_eq (g3 [u] rfl)) (hrun ns hlen)
  have e : callT p.G p.tab p.wf (dp + 1) d.name = runF p.G (p.C dp) fd.b fd.np fd.N.length := by
    funext ds m
    unfold callT
    rw [hf]
    rfl
  rw [e]
  exact g5 l.prog w mg base (2 + dp) (p.C dp) rfl (pg_of M c dp)
end Py
namespace Py
open PySem L2

/-! ### what is drawn -/
def q_cells : Str := ⟨⟨[99, 101, 108, 108, 115]⟩⟩
def q_at : Str := ⟨⟨[97, 116]⟩⟩
def q_left : Str := ⟨⟨[108, 101, 102, 116]⟩⟩
def q_used : Str := ⟨⟨[117, 115, 101, 100]⟩⟩
def tailB : S := (.seq (.asg (.tIx (.var 0) (.con (.str q_used))) (.bin .Add (.ix (.var 0) (.con (.str q_used))) (.con (.int 1)))) (.seq (.asg (.tNm 4) (.bin .Add (.bin .Mod (.var 2) (.con (.int 1000000007))) (.bin .Mult (.bin .Mult (.con (.int 7919)) (.ix (.var 0) (.con (.str q_used)))) (.ix (.var 0) (.con (.str q_used)))))) (.seq (.for_ false (.tNm 5) (.sEx (.tup (.cons (.ix (.var 0) (.con (.str q_at))) (.cons (.ix (.var 0) (.con (.str q_used))) .nil)))) (.seq (.asg (.tNm 4) (.bin .Mod (.bin .Mult (.bin .Add (.bin .Add (.var 4) (.bin .Mult (.con (.int 31)) (.var 5))) (.con (.int 7))) (.con (.int 48271))) (.con (.int 2147483647)))) (.seq (.asg (.tNm 4) (.bin .Mod (.bin .Mult (.var 4) (.bin .Add (.con (.int 69621)) (.bin .Mult (.con (.int 2)) (.bin .Mod (.var 5) (.con (.int 1000)))))) (.con (.int 2147483629)))) .skp))) (.seq (.ret (.bin .Mod (.bin .FloorDiv (.var 4) (.con (.int 7))) (.var 1))) .skp))))
def nextB : S := (.seq (.ife (.cmp .Gt (.ix (.var 0) (.con (.str q_left))) (.con (.int 0))) (.seq (.asg (.tTp (.cons (.tNm 2) (.cons (.tIx (.var 0) (.con (.str q_left))) .nil))) (.tup (.cons (.ix (.var 0) (.con (.str q_left))) (.cons (.bin .FloorDiv (.ix (.var 0) (.con (.str q_left))) (.var 1)) .nil)))) (.seq (.ret (.bin .Mod (.var 2) (.var 1))) .skp)) .skp) (.seq (.asg (.tNm 3) (.ix (.var 0) (.con (.str q_cells)))) (.seq (.asg (.tNm 2) (.ix (.var 3) (.bin .Mod (.ix (.var 0) (.con (.str q_at))) (.bi .len (.cons (.var 3) .nil))))) (.seq (.asg (.tIx (.var 0) (.con (.str q_at))) (.bin .Add (.ix (.var 0) (.con (.str q_at))) (.con (.int 1)))) (.seq (.ife (.and (.cmp .GtE (.var 2) (.bin .Pow (.con (.int 10)) (.con (.int 18)))) (.cmp .LtE (.ix (.var 0) (.con (.str q_at))) (.bi .len (.cons (.var 3) .nil)))) (.seq (.asg (.tIx (.var 0) (.con (.str q_left))) (.bin .FloorDiv (.var 2) (.var 1))) (.seq (.ret (.bin .Mod (.var 2) (.var 1))) .skp)) .skp) tailB)))))
/-- the state of a draw -/
def dS (c : Nat) (a l u : Int) : O := .dct [(.inr q_cells, .ref c), (.inr q_at, .int a), (.inr q_left, .int l), (.inr q_used, .int u)]
section
variable {m : Sto} {d c : Nat} {a l u x : Int}
theorem ix_cells (h : m.get d = some (dS c a l u)) : opIx (.ref d) (.str q_cells) m = .ok (.ref c) m := by
  unfold opIx; dsimp only; rw [h]; rfl
theorem ix_at (h : m.get d = some (dS c a l u)) : opIx (.ref d) (.str q_at) m = .ok (.int a) m := by
  unfold opIx; dsimp only; rw [h]; rfl
theorem ix_left (h : m.get d = some (dS c a l u)) : opIx (.ref d) (.str q_left) m = .ok (.int l) m := by
  unfold opIx; dsimp only; rw [h]; rfl
theorem ix_used (h : m.get d = some (dS c a l u)) : opIx (.ref d) (.str q_used) m = .ok (.int u) m := by
  unfold opIx; dsimp only; rw [h]; rfl
theorem put_ok {o : O} (hr : m.ro ≤ d) : putO d o m = .ok .non (m.set d o) := by
  unfold putO
  rw [Nat.ble_eq_true_of_le hr]
theorem set_at (h : m.get d = some (dS c a l u)) (hr : m.ro ≤ d) : opSet (.ref d) (.str q_at) (.int x) m = .ok .non (m.set d (dS c x l u)) := by
  unfold opSet; dsimp only; rw [h]; exact put_ok hr
theorem set_left (h : m.get d = some (dS c a l u)) (hr : m.ro ≤ d) : opSet (.ref d) (.str q_left) (.int x) m = .ok .non (m.set d (dS c a x u)) := by
  unfold opSet; dsimp only; rw [h]; exact put_ok hr
theorem set_used (h : m.get d = some (dS c a l u)) (hr : m.ro ≤ d) : opSet (.ref d) (.str q_used) (.int x) m = .ok .non (m.set d (dS c a l x)) := by
  unfold opSet; dsimp only; rw [h]; exact put_ok hr
theorem mod_ok {i j : Int} (h : 0 < j) : opMod (.int i) (.int j) m = .ok (.int (i % j)) m := by
  unfold opMod; dsimp only; rw [decide_eq_true h]
theorem div_ok {i j : Int} (h : 0 < j) (h2 : j < 2 ^ 200) : opDiv (.int i) (.int j) m = .ok (.int (i / j)) m := by
  unfold opDiv; dsimp only
  have : j.natAbs.log2 < 9000 := by
    by_cases h0 : j.natAbs = 0
    · omega
    · refine Nat.lt_of_lt_of_le ((Nat.log2_lt h0).mpr (show j.natAbs < 2 ^ 200 by omega)) (by decide)
  rw [decide_eq_true h, Nat.blt_eq.mpr this]
theorem small_ok {i : Int} (h : i.natAbs < 2 ^ 200) : smallZ i = true := by
  unfold smallZ
  refine Nat.ble_eq_true_of_le ?_
  by_cases h0 : i.natAbs = 0
  · rw [h0]; decide
  · exact Nat.le_of_lt (Nat.lt_of_lt_of_le ((Nat.log2_lt h0).mpr h) (by decide))
theorem mul_ok {i j : Int} (h : i.natAbs < 2 ^ 200) (h2 : j.natAbs < 2 ^ 200) : opMul (.int i) (.int j) m = .ok (.int (i * j)) m := by
  unfold opMul; dsimp only; rw [small_ok h, small_ok h2]
theorem get_set2 {o o' : O} {e : Nat} (h : m.get d = some o') : (m.set d o).get d = some o := get_set_same h
theorem cut_same {dd : D} {N : Nat} {m' : Sto} (hn : m'.nx = N) (hk : ∀ p ∈ m'.os, p.1 < N) : (R.ok dd m').cut N = .ok dd m' := by
  unfold R.cut
  dsimp only
  cases ltD N dd with
  | false => rfl
  | true =>
    have key : ∀ l : List (Nat × O), (∀ p ∈ l, p.1 < N) → cutOs N l = some l ∨ cutOs N l = none := by
      intro l
      induction l with
      | nil => intro _; exact .inl rfl
      | cons p l ih =>
        intro h
        unfold cutOs
        rw [Nat.blt_eq.mpr (h p List.mem_cons_self)]
        dsimp only
        cases ltO N p.2 with
        | false => exact .inr rfl
        | true =>
          rcases ih fun q hq => h q (List.mem_cons_of_mem _ hq) with e | e
          · rw [e]; exact .inl rfl
          · rw [e]; exact .inr rfl
    unfold cutM
    have hb : Nat.ble N m'.nx = true := Nat.ble_eq_true_of_le (by omega)
    rw [hb]
    rcases key m'.os hk with e | e
    · rw [e]
      obtain ⟨n1, n2, n3⟩ := m'
      dsimp only at hn
      subst hn
      rfl
    · rw [e]
end
def Bd (i : Int) (p : Nat) : Prop := i.natAbs < 2 ^ p
instance (i : Int) (p : Nat) : Decidable (Bd i p) := inferInstanceAs (Decidable (i.natAbs < 2 ^ p))
theorem Bd.mono {i : Int} {p q : Nat} (h : Bd i p) (hp : p ≤ q) : Bd i q := Nat.lt_of_lt_of_le h (Nat.pow_le_pow_right (by decide) hp)
theorem Bd.add {i j : Int} {p : Nat} (h : Bd i p) (h2 : Bd j p) : Bd (i + j) (p + 1) := by
  unfold Bd at *
  rw [Nat.pow_succ]
  omega
theorem Bd.mul {i j : Int} {p q : Nat} (h : Bd i p) (h2 : Bd j q) : Bd (i * j) (p + q) := by
  unfold Bd at *
  rw [Int.natAbs_mul, Nat.pow_add]
  exact Nat.lt_of_le_of_lt (Nat.mul_le_mul_left _ (Nat.le_of_lt h2)) (Nat.mul_lt_mul_of_pos_right h (Nat.two_pow_pos q))
theorem Bd.mod {i j : Int} {p : Nat} (hj : 0 < j) (h : Bd j p) : Bd (i % j) p := by
  unfold Bd at *
  have h1 := Int.emod_nonneg i (show j ≠ 0 by omega)
  have h2 := Int.emod_lt_of_pos i hj
  omega
theorem tail_ok {G : Gb} {C : Cf} {m : Sto} {d c : Nat} {a l u n z : Int} (h1 : m.get d = some (dS c a l u)) (hr : m.ro ≤ d) (ha : 0 ≤ a) (ha2 : a < 2 ^ 61) (hu : 0 ≤ u) (hu2 : u < 2 ^ 60) (hn : 0 < n) :
    ∃ w : Int, evS G C tailB [some (.ref d), some (.int n), some (.int z), some (.ref c), none, none] m = .rt (.int (w % n)) (m.set d (dS c a l (u + 1))) := by
  have g1 : (m.set d (dS c a l (u + 1))).get d = some (dS c a l (u + 1)) := get_set_same h1
  have ba : Bd a 61 := by unfold Bd; omega
  have bu : Bd (u + 1) 61 := by unfold Bd; omega
  have p1 : (0 : Int) < 1000000007 := by decide
  have p2 : (0 : Int) < 2147483647 := by decide
  have p3 : (0 : Int) < 2147483629 := by decide
  have p4 : (0 : Int) < 1000 := by decide
  have p7 : (0 : Int) < 7 := by decide
  have bm : ∀ {i j : Int} {p q : Nat}, Bd i p → Bd j q → p ≤ 200 → q ≤ 200 → ∀ m' : Sto, opMul (.int i) (.int j) m' = .ok (.int (i * j)) m' := fun hi hj hp hq m' => mul_ok (hi.mono hp) (hj.mono hq)
  have c1 : Bd 7919 13 := by decide
  have c2 : Bd 31 5 := by decide
  have c3 : Bd 48271 16 := by decide
  have c4 : Bd 2 2 := by decide
  have c5 : Bd 69621 61 := by decide
  have c6 : Bd 7 62 := by decide
  have e1 := bm c1 bu (by decide) (by decide)
  have b1 := c1.mul bu
  have e2 := bm b1 bu (by decide) (by decide)
  have b2 := b1.mul bu
  obtain ⟨x0, hx0⟩ : ∃ x0, x0 = z % 1000000007 + 7919 * (u + 1) * (u + 1) := ⟨_, rfl⟩
  have bx0 : Bd x0 140 := by
    rw [hx0]
    have : Bd (z % 1000000007) 30 := Bd.mod p1 (by decide)
    exact ((this.mono (by decide : 30 ≤ 13 + 61 + 61)).add b2).mono (by decide)
  have step : ∀ (x k : Int), Bd x 140 → Bd k 61 → (∀ m', opMul (.int 31) (.int k) m' = .ok (.int (31 * k)) m') ∧ (∀ m', opMul (.int (x + 31 * k + 7)) (.int 48271) m' = .ok (.int ((x + 31 * k + 7) * 48271)) m') ∧ (∀ m', opMul (.int 2) (.int (k % 1000)) m' = .ok (.int (2 * (k % 1000))) m') ∧
      (∀ m', opMul (.int ((x + 31 * k + 7) * 48271 % 2147483647)) (.int (69621 + 2 * (k % 1000))) m' = .ok (.int ((x + 31 * k + 7) * 48271 % 2147483647 * (69621 + 2 * (k % 1000)))) m') := fun x k bx bk => by
    have s1 := c2.mul bk
    have s2 : Bd (x + 31 * k + 7) 142 := ((bx.add (s1.mono (by decide))).add (c6.mono (by decide : 62 ≤ 141)))
    have s3 : Bd (k % 1000) 10 := Bd.mod p4 (by decide)
    have s4 := c4.mul s3
    have s5 : Bd ((x + 31 * k + 7) * 48271 % 2147483647) 31 := Bd.mod p2 (by decide)
    have s6 : Bd (69621 + 2 * (k % 1000)) 62 := c5.add (s4.mono (by decide))
    exact ⟨bm c2 bk (by decide) (by decide), bm s2 c3 (by decide) (by decide), bm c4 s3 (by decide) (by decide), bm s5 s6 (by decide) (by decide)⟩
  obtain ⟨t1, t2, t3, t4⟩ := step x0 a bx0 ba
  obtain ⟨x1, hx1⟩ : ∃ x1, x1 = (x0 + 31 * a + 7) * 48271 % 2147483647 * (69621 + 2 * (a % 1000)) % 2147483629 := ⟨_, rfl⟩
  have bx1 : Bd x1 140 := by rw [hx1]; exact (Bd.mod (p := 31) p3 (by decide)).mono (by decide)
  obtain ⟨w1, w2, w3, w4⟩ := step x1 (u + 1) bx1 bu
  have k2 : ∀ x y : D, lenOk [x, y].length = true := fun _ _ => rfl
  have q0 : ∀ (x y : D) (m' : Sto), (Src.tup [x, y]).at m' 0 = some (some x) := fun _ _ _ => rfl
  have q1 : ∀ (x y : D) (m' : Sto), (Src.tup [x, y]).at m' (0 + 1) = some (some y) := fun _ _ _ => rfl
  have q2 : ∀ (x y : D) (m' : Sto), (Src.tup [x, y]).at m' (0 + 1 + 1) = some none := fun _ _ _ => rfl
  have q3 : ∀ (x y : D) (m' : Sto), (Src.tup [x, y]).most m' = 3 := fun _ _ _ => rfl
  have d7 : ∀ (i : Int) (m' : Sto), opDiv (.int i) (.int 7) m' = .ok (.int (i / 7)) m' := fun i m' => div_ok p7 (by decide)
  refine ⟨(x1 + 31 * (u + 1) + 7) * 48271 % 2147483647 * (69621 + 2 * ((u + 1) % 1000)) % 2147483629 / 7, ?_⟩
  unfold tailB
  simp only [evS, evE, evT, evA, evTg, evTgs, evSrc, R.bind, R.thn, R.calm, opBin, opAdd, List.getElem?_cons_zero, List.getElem?_cons_succ, List.set_cons_succ, List.set_cons_zero, ix_used h1, set_used h1 hr, ix_used g1, ix_at g1, e1, e2, mod_ok p1, ← hx0, k2, gcut, q3, forLoop, q0, q1, q2, cutK, t1, t2, mod_ok p2, mod_ok p4, t3, t4, mod_ok p3, ← hx1, w1, w2, w3, w4, d7, mod_ok hn]
theorem set_set {m : Sto} {d : Nat} {o o' : O} : (m.set d o).set d o' = m.set d o' := by
  unfold Sto.set
  have key : ∀ l : List (Nat × O), setAt d o' (setAt d o l) = setAt d o' l := by
    intro l
    induction l with
    | nil => rfl
    | cons p l ih =>
      cases e : Nat.beq p.1 d with
      | true => simp only [setAt, e, Nat.beq_refl]
      | false => simp only [setAt, e, ih]
  dsimp only
  rw [key]
theorem next_ok {G : Gb} {C : Cf} {m : Sto} {d c : Nat} {zs : List Int} {a l u n : Int} (h1 : m.get d = some (dS c a l u)) (h2 : m.get c = some (.zls zs)) (hz : 0 < zs.length) (hr : m.ro ≤ d) (hcd : c ≠ d) (hk : ∀ p ∈ m.os, p.1 < m.nx)
    (ha : 0 ≤ a) (ha2 : a < 2 ^ 60) (hl : 0 ≤ l) (hu : 0 ≤ u) (hu2 : u < 2 ^ 60) (hn : 0 < n) (hn2 : n < 2 ^ 60) :
    ∃ j a' l' u', evS G C nextB [some (.ref d), some (.int n), none, none, none, none] m = .rt (.int j) (m.set d (dS c a' l' u')) ∧ 0 ≤ j ∧ j < n ∧ 0 ≤ a' ∧ a' ≤ a + 1 ∧ 0 ≤ l' ∧ 0 ≤ u' ∧ u' ≤ u + 1 := by
  unfold nextB
  have n200 : n < 2 ^ 200 := Int.lt_trans hn2 (by decide)
  have k2 : ∀ x y : D, lenOk [x, y].length = true := fun _ _ => rfl
  by_cases hl0 : 0 < l
  · refine ⟨l % n, a, l / n, u, ?_, Int.emod_nonneg _ (by omega), Int.emod_lt_of_pos _ hn, ha, by omega, Int.ediv_nonneg hl (by omega), hu, by omega⟩
    simp only [evS, evE, evT, evA, evTg, evTgs, R.bind, R.thn, R.calm, opBin, opCmp, cmpI, ix_left h1, asB, List.getElem?_cons_zero, List.getElem?_cons_succ, decide_eq_true hl0, div_ok hn n200, k2, List.set_cons_succ, List.set_cons_zero, set_left h1 hr, mod_ok hn]
  · have zl : (0 : Int) < (zs.length : Int) := by omega
    have hi0 : 0 ≤ a % (zs.length : Int) := Int.emod_nonneg _ (by omega)
    have hi1 : a % (zs.length : Int) < zs.length := Int.emod_lt_of_pos _ zl
    obtain ⟨j, hj⟩ : ∃ j : Nat, a % (zs.length : Int) = (j : Int) := ⟨(a % (zs.length : Int)).toNat, (Int.toNat_of_nonneg hi0).symm⟩
    have hj2 : j < zs.length := by omega
    obtain ⟨z, hzj⟩ : ∃ z, zs[j]? = some z := ⟨zs[j], List.getElem?_eq_getElem hj2⟩
    have hix : opIx (.ref c) (.int (j : Int)) m = .ok (.int z) m := by
      unfold opIx; dsimp only; rw [h2]; dsimp only
      have e : ixD zs.length (j : Int) = some j := by
        show ixD zs.length (Int.ofNat j) = some j
        unfold ixD
        dsimp only
        rw [Nat.blt_eq.mpr hj2]
      rw [e]; dsimp only; rw [hzj]
    have hlen : ∀ m' : Sto, m'.get c = some (.zls zs) → biD G .len [.ref c] m' = .ok (.int zs.length) m' := fun m' e => by
      show bLen [.ref c] m' = _
      unfold bLen; dsimp only; rw [e]
    have g1 : (m.set d (dS c (a + 1) l u)).get d = some (dS c (a + 1) l u) := get_set_same h1
    have g2 : (m.set d (dS c (a + 1) l u)).get c = some (.zls zs) := by rw [get_set_ne hcd]; exact h2
    have r2 : (m.set d (dS c (a + 1) l u)).ro ≤ d := hr
    have pw : ∀ m' : Sto, opPow (.int 10) (.int 18) m' = .ok (.int 1000000000000000000) m' := fun m' => rfl
    simp only [evS, evE, evT, evA, evTg, evTgs, R.bind, R.thn, R.calm, opBin, opCmp, cmpI, ix_left h1, asB, List.getElem?_cons_zero, List.getElem?_cons_succ, decide_eq_false hl0, ix_cells h1, ix_at h1, List.set_cons_succ, List.set_cons_zero, hlen m h2, mod_ok zl, hj, hix, opAdd, set_at h1 hr, pw]
    have tl : ∃ w : Int, evS G C tailB [some (.ref d), some (.int n), some (.int z), some (.ref c), none, none] (m.set d (dS c (a + 1) l u)) = .rt (.int (w % n)) (m.set d (dS c (a + 1) l (u + 1))) := by
      obtain ⟨w, hw⟩ := tail_ok (G := G) (C := C) (n := n) (z := z) g1 r2 (by omega) (by omega) hu hu2 hn
      exact ⟨w, by rw [hw, set_set]⟩
    obtain ⟨w, hw⟩ := tl
    have fin : ∃ j a' l' u', evS G C tailB [some (.ref d), some (.int n), some (.int z), some (.ref c), none, none] (m.set d (dS c (a + 1) l u)) = .rt (.int j) (m.set d (dS c a' l' u')) ∧ 0 ≤ j ∧ j < n ∧ 0 ≤ a' ∧ a' ≤ a + 1 ∧ 0 ≤ l' ∧ 0 ≤ u' ∧ u' ≤ u + 1 :=
      ⟨w % n, a + 1, l, u + 1, hw, Int.emod_nonneg _ (by omega), Int.emod_lt_of_pos _ hn, by omega, by omega, hl, by omega, by omega⟩
    by_cases hbig : 1000000000000000000 ≤ z
    · simp only [decide_eq_true hbig, ix_at g1, hlen _ g2]
      by_cases hat : a + 1 ≤ (zs.length : Int)
      · refine ⟨z % n, a + 1, z / n, u, ?_, Int.emod_nonneg _ (by omega), Int.emod_lt_of_pos _ hn, by omega, by omega, Int.ediv_nonneg (by omega) (by omega), hu, by omega⟩
        simp only [decide_eq_true hat, div_ok hn n200, set_left g1 r2, mod_ok hn, set_set, List.getElem?_cons_zero, List.getElem?_cons_succ]
      · simp only [decide_eq_false hat]
        exact fin
    · simp only [decide_eq_false hbig]
      exact fin
/-! ### the opening, loops over a range -/
def beginB : S := .seq (.ret (.dic (.cons (.con (.str q_cells)) (.cons (.bin .Add (.var 0) (.lst (.cons (.con (.int 0)) .nil))) (.cons (.con (.str q_at)) (.cons (.con (.int 0)) (.cons (.con (.str q_left)) (.cons (.con (.int 0)) (.cons (.con (.str q_used)) (.cons (.con (.int 0)) .nil)))))))))) .skp
/-- the store of a law that draws -/
def stD (ns : List Int) (a l u : Int) : Sto := ⟨4, 0, [(3, .zls (ns ++ [0])), (2, .lst [.int 0]), (1, dS 3 a l u), (0, .frl ns)]⟩
theorem begin_ok {G : Gb} {C : Cf} {ns : List Int} (hn : ns.length ≤ 63) : evS G C beginB [some (.ref 0)] ⟨1, 0, [(0, .frl ns)]⟩ = .rt (.ref 1) (stD ns 0 0 0) := by
  have k : lenOk (ns.length + 1) = true := Nat.ble_eq_true_of_le (by omega)
  have g0 : (Sto.mk 3 0 [(2, O.lst [.int 0]), (1, O.dct []), (0, O.frl ns)]).get 0 = some (.frl ns) := rfl
  have g2 : (Sto.mk 3 0 [(2, O.lst [.int 0]), (1, O.dct []), (0, O.frl ns)]).get 2 = some (.lst [.int 0]) := rfl
  have e : opAdd (.ref 0) (.ref 2) (Sto.mk 3 0 [(2, O.lst [.int 0]), (1, O.dct []), (0, O.frl ns)]) = .ok (.ref 3) ⟨4, 0, [(3, .zls (ns ++ [0])), (2, O.lst [.int 0]), (1, O.dct []), (0, O.frl ns)]⟩ := by
    unfold opAdd
    dsimp only
    rw [g0, g2]
    dsimp only
    rw [k]
    rfl
  have e1 : mkL [.int 0] (Sto.new ⟨1, 0, [(0, .frl ns)]⟩ (.dct [])) = .ok (.ref 2) (Sto.mk 3 0 [(2, O.lst [.int 0]), (1, O.dct []), (0, O.frl ns)]) := rfl
  have k1 : ∀ x : D, lenOk [x].length = true := fun _ => rfl
  unfold beginB
  simp only [evS, evE, evA, R.bind, R.thn, R.calm, opBin, List.getElem?_cons_zero, k1, e1, e]
  rfl
theorem rng_loop {c : Option Nat} {tg : D → En → Sto → R En} {body : En → Sto → RS} {P : Nat → En → Sto → Prop} {n : Nat}
    (step : ∀ (i : Nat) (as : En) (m : Sto), i < n → P i as m → ∃ as' m', P (i + 1) as' m' ∧ ∀ K : En → Sto → RS, ((tg (.int (i : Int)) as m).calm.thn as fun as1 m1 => match body as1 m1 with
      | .nx as2 m2 => cutK c as2 m2 K
      | .ct as2 m2 => cutK c as2 m2 K
      | .bk as2 m2 => .nx as2 m2
      | r => r) = K as' m') : ∀ (k i : Nat) (as : En) (m : Sto), i + k = n → P i as m → ∃ as' m', P n as' m' ∧ forLoop c (.rng 0 n) tg body (k + 1) i as m = .nx as' m'
  | 0, i, as, m, e, h => by
    have : i = n := by omega
    subst this
    refine ⟨as, m, h, ?_⟩
    have q : Nat.blt i i = false := by
      cases q : Nat.blt i i with
      | false => rfl
      | true => have := Nat.blt_eq.mp q; omega
    unfold forLoop
    simp only [Src.at, q]
  | k + 1, i, as, m, e, h => by
    obtain ⟨as1, m1, h1, h2⟩ := step i as m (by omega) h
    obtain ⟨as2, m2, h3, h4⟩ := rng_loop step k (i + 1) as1 m1 (by omega) h1
    refine ⟨as2, m2, h3, ?_⟩
    unfold forLoop
    simp only [Src.at, Nat.blt_eq.mpr (show i < n by omega), Int.zero_add]
    exact Eq.trans (h2 (forLoop c (.rng 0 n) tg body (k + 1) (i + 1))) h4
/-- what is left of a turn -/
def outT (N : Nat) (r : RS) : Option (En × Sto) := match r with
  | .nx as m => match cutM N m with
    | some m1 => some (cutE N as, m1)
    | none => none
  | _ => none
theorem outT_cut {N : Nat} {r : RS} {as1 : En} {m1 : Sto} (h : outT N r = some (as1, m1)) (K : En → Sto → RS) : (match r with
      | .nx as2 m2 => cutK (some N) as2 m2 K
      | .ct as2 m2 => cutK (some N) as2 m2 K
      | .bk as2 m2 => .nx as2 m2
      | r => r) = K as1 m1 := by
  cases r with
  | nx as m =>
    unfold outT at h
    dsimp only at h ⊢
    unfold cutK
    dsimp only
    cases e : cutM N m with
    | none => rw [e] at h; cases h
    | some m2 => rw [e] at h; cases h; rfl
  | _ => cases h
theorem cut_val {N : Nat} {d : D} {m : Sto} : ∃ m1, (R.ok d m).cut N = .ok d m1 := by
  unfold R.cut
  dsimp only
  cases ltD N d with
  | false => exact ⟨m, rfl⟩
  | true =>
    cases cutM N m with
    | none => exact ⟨m, rfl⟩
    | some m1 => exact ⟨m1, rfl⟩
theorem keys_of {N : Nat} {l : List (Nat × O)} (h : (l.all fun p => Nat.blt p.1 N) = true) : ∀ p ∈ l, p.1 < N := fun p hp => Nat.blt_eq.mp (List.all_eq_true.mp h p hp)
end Py
namespace K01
open PySem Py
def n__law_begin : Str := ⟨⟨[95, 108, 97, 119, 95, 98, 101, 103, 105, 110]⟩⟩
def n__law_script : Str := ⟨⟨[95, 108, 97, 119, 95, 115, 99, 114, 105, 112, 116]⟩⟩
def n_cells : Str := ⟨⟨[99, 101, 108, 108, 115]⟩⟩
def n_at : Str := ⟨⟨[97, 116]⟩⟩
def n_left : Str := ⟨⟨[108, 101, 102, 116]⟩⟩
def n_used : Str := ⟨⟨[117, 115, 101, 100]⟩⟩
def n__law_next : Str := ⟨⟨[95, 108, 97, 119, 95, 110, 101, 120, 116]⟩⟩
def n__law_draw : Str := ⟨⟨[95, 108, 97, 119, 95, 100, 114, 97, 119]⟩⟩
def n__law_count_so : Str := ⟨⟨[95, 108, 97, 119, 95, 99, 111, 117, 110, 116, 95, 115, 111]⟩⟩
def n__law_cell : Str := ⟨⟨[95, 108, 97, 119, 95, 99, 101, 108, 108]⟩⟩
def n__law_cells : Str := ⟨⟨[95, 108, 97, 119, 95, 99, 101, 108, 108, 115]⟩⟩
def n__law_number : Str := ⟨⟨[95, 108, 97, 119, 95, 110, 117, 109, 98, 101, 114]⟩⟩
def n__law_k : Str := ⟨⟨[95, 108, 97, 119, 95, 107]⟩⟩
def n__law_pick : Str := ⟨⟨[95, 108, 97, 119, 95, 112, 105, 99, 107]⟩⟩
def n__law_some : Str := ⟨⟨[95, 108, 97, 119, 95, 115, 111, 109, 101]⟩⟩
def n__law_all : Str := ⟨⟨[95, 108, 97, 119, 95, 97, 108, 108]⟩⟩
def n__law_odd : Str := ⟨⟨[95, 108, 97, 119, 95, 111, 100, 100]⟩⟩
def n__law_found : Str := ⟨⟨[95, 108, 97, 119, 95, 102, 111, 117, 110, 100]⟩⟩
def n_BadWeaving : Str := ⟨⟨[66, 97, 100, 87, 101, 97, 118, 105, 110, 103]⟩⟩
def n_BadPaper : Str := ⟨⟨[66, 97, 100, 80, 97, 112, 101, 114]⟩⟩
def n_BadText : Str := ⟨⟨[66, 97, 100, 84, 101, 120, 116]⟩⟩
def n_TooGreat : Str := ⟨⟨[84, 111, 111, 71, 114, 101, 97, 116]⟩⟩
def n_NothingLeft : Str := ⟨⟨[78, 111, 116, 104, 105, 110, 103, 76, 101, 102, 116]⟩⟩
def n_BadWays : Str := ⟨⟨[66, 97, 100, 87, 97, 121, 115]⟩⟩
def n_BadSize : Str := ⟨⟨[66, 97, 100, 83, 105, 122, 101]⟩⟩
def n_BadNumber : Str := ⟨⟨[66, 97, 100, 78, 117, 109, 98, 101, 114]⟩⟩
def n_BadReading : Str := ⟨⟨[66, 97, 100, 82, 101, 97, 100, 105, 110, 103]⟩⟩
def n_BadHabits : Str := ⟨⟨[66, 97, 100, 72, 97, 98, 105, 116, 115]⟩⟩
def n_BadPromise : Str := ⟨⟨[66, 97, 100, 80, 114, 111, 109, 105, 115, 101]⟩⟩
def n__law_named : Str := ⟨⟨[95, 108, 97, 119, 95, 110, 97, 109, 101, 100]⟩⟩
def n__law_fields : Str := ⟨⟨[95, 108, 97, 119, 95, 102, 105, 101, 108, 100, 115]⟩⟩
def n__law_error : Str := ⟨⟨[95, 108, 97, 119, 95, 101, 114, 114, 111, 114]⟩⟩
def n_most : Str := ⟨⟨[109, 111, 115, 116]⟩⟩
def n_many : Str := ⟨⟨[109, 97, 110, 121]⟩⟩
def n_given : Str := ⟨⟨[103, 105, 118, 101, 110]⟩⟩
def n_part : Str := ⟨⟨[112, 97, 114, 116]⟩⟩
def n_place : Str := ⟨⟨[112, 108, 97, 99, 101]⟩⟩
def n__law_kinds : Str := ⟨⟨[95, 108, 97, 119, 95, 107, 105, 110, 100, 115]⟩⟩
def n__law_e : Str := ⟨⟨[95, 108, 97, 119, 95, 101]⟩⟩
def n_law : Str := ⟨⟨[108, 97, 119]⟩⟩
def n__law_turn : Str := ⟨⟨[95, 108, 97, 119, 95, 116, 117, 114, 110]⟩⟩
def n__law_errors : Str := ⟨⟨[95, 108, 97, 119, 95, 101, 114, 114, 111, 114, 115]⟩⟩
def n__law_heard_so : Str := ⟨⟨[95, 108, 97, 119, 95, 104, 101, 97, 114, 100, 95, 115, 111]⟩⟩
def n_LookError : Str := ⟨⟨[76, 111, 111, 107, 69, 114, 114, 111, 114]⟩⟩
def n_a : Str := ⟨⟨[97]⟩⟩
def n_x : Str := ⟨⟨[120]⟩⟩
def n_self : Str := ⟨⟨[115, 101, 108, 102]⟩⟩
def n_OverflowError : Str := ⟨⟨[79, 118, 101, 114, 102, 108, 111, 119, 69, 114, 114, 111, 114]⟩⟩
def n_RuntimeError : Str := ⟨⟨[82, 117, 110, 116, 105, 109, 101, 69, 114, 114, 111, 114]⟩⟩
def f_law_begin : Fd := ⟨n__law_begin, 1, [n__law_script], (.seq (.ret (.dic (.cons (.con (.str n_cells)) (.cons (.bin .Add (.var 0) (.lst (.cons (.con (.int 0)) .nil))) (.cons (.con (.str n_at)) (.cons (.con (.int 0)) (.cons (.con (.str n_left)) (.cons (.con (.int 0)) (.cons (.con (.str n_used)) (.cons (.con (.int 0)) .nil)))))))))) .skp)⟩
def f_law_next : Fd := ⟨n__law_next, 2, [n__law_draw, n__law_count_so, n__law_cell, n__law_cells, n__law_number, n__law_k], (.seq (.ife (.cmp .Gt (.ix (.var 0) (.con (.str n_left))) (.con (.int 0))) (.seq (.asg (.tTp (.cons (.tNm 2) (.cons (.tIx (.var 0) (.con (.str n_left))) .nil))) (.tup (.cons (.ix (.var 0) (.con (.str n_left))) (.cons (.bin .FloorDiv (.ix (.var 0) (.con (.str n_left))) (.var 1)) .nil)))) (.seq (.ret (.bin .Mod (.var 2) (.var 1))) .skp)) .skp) (.seq (.asg (.tNm 3) (.ix (.var 0) (.con (.str n_cells)))) (.seq (.asg (.tNm 2) (.ix (.var 3) (.bin .Mod (.ix (.var 0) (.con (.str n_at))) (.bi .len (.cons (.var 3) .nil))))) (.seq (.asg (.tIx (.var 0) (.con (.str n_at))) (.bin .Add (.ix (.var 0) (.con (.str n_at))) (.con (.int 1)))) (.seq (.ife (.and (.cmp .GtE (.var 2) (.bin .Pow (.con (.int 10)) (.con (.int 18)))) (.cmp .LtE (.ix (.var 0) (.con (.str n_at))) (.bi .len (.cons (.var 3) .nil)))) (.seq (.asg (.tIx (.var 0) (.con (.str n_left))) (.bin .FloorDiv (.var 2) (.var 1))) (.seq (.ret (.bin .Mod (.var 2) (.var 1))) .skp)) .skp) (.seq (.asg (.tIx (.var 0) (.con (.str n_used))) (.bin .Add (.ix (.var 0) (.con (.str n_used))) (.con (.int 1)))) (.seq (.asg (.tNm 4) (.bin .Add (.bin .Mod (.var 2) (.con (.int 1000000007))) (.bin .Mult (.bin .Mult (.con (.int 7919)) (.ix (.var 0) (.con (.str n_used)))) (.ix (.var 0) (.con (.str n_used)))))) (.seq (.for_ false (.tNm 5) (.sEx (.tup (.cons (.ix (.var 0) (.con (.str n_at))) (.cons (.ix (.var 0) (.con (.str n_used))) .nil)))) (.seq (.asg (.tNm 4) (.bin .Mod (.bin .Mult (.bin .Add (.bin .Add (.var 4) (.bin .Mult (.con (.int 31)) (.var 5))) (.con (.int 7))) (.con (.int 48271))) (.con (.int 2147483647)))) (.seq (.asg (.tNm 4) (.bin .Mod (.bin .Mult (.var 4) (.bin .Add (.con (.int 69621)) (.bin .Mult (.con (.int 2)) (.bin .Mod (.var 5) (.con (.int 1000)))))) (.con (.int 2147483629)))) .skp))) (.seq (.ret (.bin .Mod (.bin .FloorDiv (.var 4) (.con (.int 7))) (.var 1))) .skp)))))))))⟩
def f_law_pick : Fd := ⟨n__law_pick, 2, [n__law_draw, n__law_some], (.seq (.ret (.ix (.var 1) (.call n__law_next (.cons (.var 0) (.cons (.bi .len (.cons (.var 1) .nil)) .nil))))) .skp)⟩
def f_law_all : Fd := ⟨n__law_all, 1, [n__law_odd, n__law_found], (.seq (.asg (.tNm 1) (.lst (.cons (.mkx n_BadReading (.var 0)) (.cons (.mkx n_BadHabits (.var 0)) (.cons (.mkx n_BadPromise (.var 0)) .nil))))) (.seq (.asg (.tNm 1) (.bin .Add (.var 1) (.lst (.cons (.mkx n_BadWays (.var 0)) (.cons (.mkx n_BadSize (.var 0)) (.cons (.mkx n_BadNumber (.var 0)) .nil)))))) (.seq (.ret (.bin .Add (.var 1) (.lst (.cons (.mkx n_BadWeaving (.var 0)) (.cons (.mkx n_BadPaper (.var 0)) (.cons (.mkx n_BadText (.var 0)) (.cons (.mkx n_TooGreat (.var 0)) (.cons (.mkx n_NothingLeft (.var 0)) .nil)))))))) .skp)))⟩
def f_law_named : Fd := ⟨n__law_named, 1, [n__law_odd, n__law_found], (.seq (.asg (.tNm 1) (.lst (.cons (.mkx n_BadReading (.var 0)) (.cons (.mkx n_BadHabits (.var 0)) (.cons (.mkx n_BadPromise (.var 0)) (.cons (.mkx n_BadWays (.var 0)) .nil)))))) (.seq (.asg (.tNm 1) (.bin .Add (.var 1) (.lst (.cons (.mkx n_BadSize (.var 0)) (.cons (.mkx n_BadNumber (.var 0)) (.cons (.mkx n_BadWeaving (.var 0)) (.cons (.mkx n_BadPaper (.var 0)) .nil))))))) (.seq (.ret (.bin .Add (.var 1) (.lst (.cons (.mkx n_BadText (.var 0)) (.cons (.mkx n_TooGreat (.var 0)) (.cons (.mkx n_NothingLeft (.var 0)) .nil)))))) .skp)))⟩
def f_law_fields : Fd := ⟨n__law_fields, 1, [n__law_some, n__law_found, n__law_error], (.seq (.asg (.tNm 1) (.bin .Add (.cmpr (.tNm 2) (.sEx (.slc (.var 0) .nil (.cons (.con (.int 6)) .nil))) .nil (.att (.var 2) n_given) [2]) (.lst (.cons (.att (.ix (.var 0) (.con (.int 6))) n_part) (.cons (.att (.ix (.var 0) (.con (.int 7))) n_part) (.cons (.att (.ix (.var 0) (.con (.int 8))) n_place) .nil)))))) (.seq (.ret (.bin .Add (.var 1) (.lst (.cons (.att (.ix (.var 0) (.con (.int 9))) n_most) (.cons (.att (.ix (.var 0) (.con (.int 10))) n_many) .nil))))) .skp))⟩
def f_law_kinds : Fd := ⟨n__law_kinds, 1, [n__law_e, n__law_some, n__law_k], (.seq (.asg (.tNm 1) (.lst (.cons (.bi .isi (.cons (.var 0) (.cons (.glo n_BadReading) .nil))) (.cons (.bi .isi (.cons (.var 0) (.cons (.glo n_BadHabits) .nil))) .nil)))) (.seq (.asg (.tNm 1) (.bin .Add (.var 1) (.lst (.cons (.bi .isi (.cons (.var 0) (.cons (.glo n_BadPromise) .nil))) (.cons (.bi .isi (.cons (.var 0) (.cons (.glo n_BadWays) .nil))) .nil))))) (.seq (.asg (.tNm 1) (.bin .Add (.var 1) (.lst (.cons (.bi .isi (.cons (.var 0) (.cons (.glo n_BadSize) .nil))) (.cons (.bi .isi (.cons (.var 0) (.cons (.glo n_BadNumber) .nil))) .nil))))) (.seq (.asg (.tNm 1) (.bin .Add (.var 1) (.lst (.cons (.bi .isi (.cons (.var 0) (.cons (.glo n_BadWeaving) .nil))) (.cons (.bi .isi (.cons (.var 0) (.cons (.glo n_BadPaper) .nil))) .nil))))) (.seq (.asg (.tNm 1) (.bin .Add (.var 1) (.lst (.cons (.bi .isi (.cons (.var 0) (.cons (.glo n_BadText) .nil))) (.cons (.bi .isi (.cons (.var 0) (.cons (.glo n_TooGreat) .nil))) (.cons (.bi .isi (.cons (.var 0) (.cons (.glo n_NothingLeft) .nil))) .nil)))))) (.seq (.ret (.cmpr (.tNm 2) (.sR1 (.con (.int 11))) (.ifs (.tst (.ix (.var 1) (.var 2)))) (.var 2) [2])) .skp))))))⟩
def f_law : Fd := ⟨n_law, 1, [n__law_script, n__law_draw, n__law_turn, n__law_odd, n__law_errors, n__law_k, n__law_error, n__law_heard_so], (.seq (.asg (.tNm 1) (.call n__law_begin (.cons (.var 0) .nil))) (.seq (.for_ true (.tNm 2) (.sR1 (.con (.int 3))) (.seq (.asg (.tNm 3) (.call n__law_pick (.cons (.var 1) (.cons (.lst (.cons (.con .non) (.cons (.con (.int 5)) (.cons (.con (.bl true)) (.cons (.con (.str n_a)) (.cons (.tup (.cons (.con (.int 1)) (.cons (.con (.int 2)) .nil))) (.cons (.lst .nil) (.cons .dc0 (.cons (.tup (.cons (.con (.str n_x)) (.cons (.lst (.cons (.con .non) .nil)) .nil))) (.cons (.neg (.con (.int 1))) (.cons (.bin .Pow (.con (.int 10)) (.con (.int 30))) .nil))))))))))) .nil)))) (.seq (.for_ true (.tNm 4) (.sEx (.tup (.cons (.call n__law_all (.cons (.var 3) .nil)) (.cons (.call n__law_named (.cons (.var 3) .nil)) .nil)))) (.seq (.ife (.cmp .NotEq (.bi .repr (.cons (.call n__law_fields (.cons (.var 4) .nil)) .nil)) (.bi .repr (.cons (.bin .Mult (.lst (.cons (.var 3) .nil)) (.con (.int 11))) .nil))) (.seq (.ret (.con (.bl false))) .skp) .skp) (.seq (.for_ true (.tNm 5) (.sR1 (.con (.int 11))) (.seq (.asg (.tNm 6) (.ix (.var 4) (.var 5))) (.seq (.asg (.tNm 7) (.lst (.cons (.bi .isi (.cons (.var 6) (.cons (.glo n_LookError) .nil))) (.cons (.bi .isi (.cons (.var 6) (.cons (.con (.ty .vE)) .nil))) .nil)))) (.seq (.asg (.tNm 7) (.bin .Add (.var 7) (.lst (.cons (.bi .isi (.cons (.var 6) (.cons (.con (.ty .oE)) .nil))) .nil)))) (.seq (.asg (.tNm 7) (.bin .Add (.var 7) (.lst (.cons (.bi .isi (.cons (.var 6) (.cons (.con (.ty .rE)) .nil))) .nil)))) (.seq (.ife (.or (.cmp .NotEq (.call n__law_kinds (.cons (.var 6) .nil)) (.lst (.cons (.var 5) .nil))) (.cmp .NotEq (.var 7) (.lst (.cons (.cmp .Lt (.var 5) (.con (.int 9))) (.cons (.cmp .Lt (.var 5) (.con (.int 9))) (.cons (.cmp .Eq (.var 5) (.con (.int 9))) (.cons (.cmp .Eq (.var 5) (.con (.int 10))) .nil))))))) (.seq (.ret (.con (.bl false))) .skp) .skp) .skp)))))) .skp))) .skp))) (.seq (.ret (.con (.bl true))) .skp)))⟩
def prg : Prg := ⟨[f_law_begin, f_law_next, f_law_pick, f_law_all, f_law_named, f_law_fields, f_law_kinds, f_law],
  [⟨n_BadReading, n_given, .ve, n_LookError, n_self⟩,
    ⟨n_BadHabits, n_given, .ve, n_LookError, n_self⟩,
    ⟨n_BadPromise, n_given, .ve, n_LookError, n_self⟩,
    ⟨n_BadWays, n_given, .ve, n_LookError, n_self⟩,
    ⟨n_BadWeaving, n_part, .ve, n_LookError, n_self⟩,
    ⟨n_BadPaper, n_part, .ve, n_LookError, n_self⟩,
    ⟨n_BadSize, n_given, .ve, n_LookError, n_self⟩,
    ⟨n_BadNumber, n_given, .ve, n_LookError, n_self⟩,
    ⟨n_BadText, n_place, .ve, n_LookError, n_self⟩,
    ⟨n_TooGreat, n_most, .oe, n_OverflowError, n_self⟩,
    ⟨n_NothingLeft, n_many, .re, n_RuntimeError, n_self⟩],
  [(n_LookError, .gl n_LookError), (n_BadReading, .gl n_BadReading), (n_BadHabits, .gl n_BadHabits), (n_BadPromise, .gl n_BadPromise), (n_BadWays, .gl n_BadWays), (n_BadWeaving, .gl n_BadWeaving), (n_BadPaper, .gl n_BadPaper), (n_BadSize, .gl n_BadSize), (n_BadNumber, .gl n_BadNumber), (n_BadText, .gl n_BadText), (n_TooGreat, .gl n_TooGreat), (n_NothingLeft, .gl n_NothingLeft)],
  [(n_BadReading, n_LookError, true), (n_BadReading, n_BadReading, true), (n_BadReading, n_BadHabits, false), (n_BadReading, n_BadPromise, false), (n_BadReading, n_BadWays, false), (n_BadReading, n_BadWeaving, false), (n_BadReading, n_BadPaper, false), (n_BadReading, n_BadSize, false), (n_BadReading, n_BadNumber, false), (n_BadReading, n_BadText, false), (n_BadReading, n_TooGreat, false), (n_BadReading, n_NothingLeft, false), (n_BadHabits, n_LookError, true), (n_BadHabits, n_BadReading, false), (n_BadHabits, n_BadHabits, true), (n_BadHabits, n_BadPromise, false), (n_BadHabits, n_BadWays, false), (n_BadHabits, n_BadWeaving, false), (n_BadHabits, n_BadPaper, false), (n_BadHabits, n_BadSize, false), (n_BadHabits, n_BadNumber, false), (n_BadHabits, n_BadText, false), (n_BadHabits, n_TooGreat, false), (n_BadHabits, n_NothingLeft, false), (n_BadPromise, n_LookError, true), (n_BadPromise, n_BadReading, false), (n_BadPromise, n_BadHabits, false), (n_BadPromise, n_BadPromise, true), (n_BadPromise, n_BadWays, false), (n_BadPromise, n_BadWeaving, false), (n_BadPromise, n_BadPaper, false), (n_BadPromise, n_BadSize, false), (n_BadPromise, n_BadNumber, false), (n_BadPromise, n_BadText, false), (n_BadPromise, n_TooGreat, false), (n_BadPromise, n_NothingLeft, false), (n_BadWays, n_LookError, true), (n_BadWays, n_BadReading, false), (n_BadWays, n_BadHabits, false), (n_BadWays, n_BadPromise, false), (n_BadWays, n_BadWays, true), (n_BadWays, n_BadWeaving, false), (n_BadWays, n_BadPaper, false), (n_BadWays, n_BadSize, false), (n_BadWays, n_BadNumber, false), (n_BadWays, n_BadText, false), (n_BadWays, n_TooGreat, false), (n_BadWays, n_NothingLeft, false), (n_BadWeaving, n_LookError, true), (n_BadWeaving, n_BadReading, false), (n_BadWeaving, n_BadHabits, false), (n_BadWeaving, n_BadPromise, false), (n_BadWeaving, n_BadWays, false), (n_BadWeaving, n_BadWeaving, true), (n_BadWeaving, n_BadPaper, false), (n_BadWeaving, n_BadSize, false), (n_BadWeaving, n_BadNumber, false), (n_BadWeaving, n_BadText, false), (n_BadWeaving, n_TooGreat, false), (n_BadWeaving, n_NothingLeft, false), (n_BadPaper, n_LookError, true), (n_BadPaper, n_BadReading, false), (n_BadPaper, n_BadHabits, false), (n_BadPaper, n_BadPromise, false), (n_BadPaper, n_BadWays, false), (n_BadPaper, n_BadWeaving, false), (n_BadPaper, n_BadPaper, true), (n_BadPaper, n_BadSize, false), (n_BadPaper, n_BadNumber, false), (n_BadPaper, n_BadText, false), (n_BadPaper, n_TooGreat, false), (n_BadPaper, n_NothingLeft, false), (n_BadSize, n_LookError, true), (n_BadSize, n_BadReading, false), (n_BadSize, n_BadHabits, false), (n_BadSize, n_BadPromise, false), (n_BadSize, n_BadWays, false), (n_BadSize, n_BadWeaving, false), (n_BadSize, n_BadPaper, false), (n_BadSize, n_BadSize, true), (n_BadSize, n_BadNumber, false), (n_BadSize, n_BadText, false), (n_BadSize, n_TooGreat, false), (n_BadSize, n_NothingLeft, false), (n_BadNumber, n_LookError, true), (n_BadNumber, n_BadReading, false), (n_BadNumber, n_BadHabits, false), (n_BadNumber, n_BadPromise, false), (n_BadNumber, n_BadWays, false), (n_BadNumber, n_BadWeaving, false), (n_BadNumber, n_BadPaper, false), (n_BadNumber, n_BadSize, false), (n_BadNumber, n_BadNumber, true), (n_BadNumber, n_BadText, false), (n_BadNumber, n_TooGreat, false), (n_BadNumber, n_NothingLeft, false), (n_BadText, n_LookError, true), (n_BadText, n_BadReading, false), (n_BadText, n_BadHabits, false), (n_BadText, n_BadPromise, false), (n_BadText, n_BadWays, false), (n_BadText, n_BadWeaving, false), (n_BadText, n_BadPaper, false), (n_BadText, n_BadSize, false), (n_BadText, n_BadNumber, false), (n_BadText, n_BadText, true), (n_BadText, n_TooGreat, false), (n_BadText, n_NothingLeft, false), (n_TooGreat, n_LookError, false), (n_TooGreat, n_BadReading, false), (n_TooGreat, n_BadHabits, false), (n_TooGreat, n_BadPromise, false), (n_TooGreat, n_BadWays, false), (n_TooGreat, n_BadWeaving, false), (n_TooGreat, n_BadPaper, false), (n_TooGreat, n_BadSize, false), (n_TooGreat, n_BadNumber, false), (n_TooGreat, n_BadText, false), (n_TooGreat, n_TooGreat, true), (n_TooGreat, n_NothingLeft, false), (n_NothingLeft, n_LookError, false), (n_NothingLeft, n_BadReading, false), (n_NothingLeft, n_BadHabits, false), (n_NothingLeft, n_BadPromise, false), (n_NothingLeft, n_BadWays, false), (n_NothingLeft, n_BadWeaving, false), (n_NothingLeft, n_BadPaper, false), (n_NothingLeft, n_BadSize, false), (n_NothingLeft, n_BadNumber, false), (n_NothingLeft, n_BadText, false), (n_NothingLeft, n_TooGreat, false), (n_NothingLeft, n_NothingLeft, true)],
  [(n_BadReading, .vE, true), (n_BadReading, .oE, false), (n_BadReading, .rE, false), (n_BadHabits, .vE, true), (n_BadHabits, .oE, false), (n_BadHabits, .rE, false), (n_BadPromise, .vE, true), (n_BadPromise, .oE, false), (n_BadPromise, .rE, false), (n_BadWays, .vE, true), (n_BadWays, .oE, false), (n_BadWays, .rE, false), (n_BadWeaving, .vE, true), (n_BadWeaving, .oE, false), (n_BadWeaving, .rE, false), (n_BadPaper, .vE, true), (n_BadPaper, .oE, false), (n_BadPaper, .rE, false), (n_BadSize, .vE, true), (n_BadSize, .oE, false), (n_BadSize, .rE, false), (n_BadNumber, .vE, true), (n_BadNumber, .oE, false), (n_BadNumber, .rE, false), (n_BadText, .vE, true), (n_BadText, .oE, false), (n_BadText, .rE, false), (n_TooGreat, .vE, false), (n_TooGreat, .oE, true), (n_TooGreat, .rE, false), (n_NothingLeft, .vE, false), (n_NothingLeft, .oE, false), (n_NothingLeft, .rE, true)], 100000⟩
end K01
namespace K01
open PySem Py
abbrev Rw : PySem.W.OpenRow := PySem.W.OpenLaw.row PySem.Challenge.rw_looksums_k01_errors_made
abbrev hk : PySem.W.Hook := hkP prg 6
def ob (s : PySem.W.SharedT) : Bool := obP prg 6 (HandSHeadRun.getT s)
theorem ob_eq (s : PySem.W.SharedT) : ob s = hk.obs s.abs := obP_eq s
def loose : List Str := ["LookError", "BadReading", "BadHabits", "BadPromise", "BadWays", "BadWeaving", "BadPaper", "BadSize", "BadNumber", "BadText", "TooGreat", "NothingLeft", "_law_begin", "_law_next", "_law_pick", "_law_all", "_law_named", "_law_fields", "_law_kinds"]
theorem run (w : World) : HandSHeadRun.RunEq Rw (PySem.W.view Rw.prog [21]) hk ob 4000 loose w := by
  intro os
  kernel_rfl
end K01
namespace K01
open PySem Py
abbrev G0 : Gb := prg.G
abbrev cl (n : Nat) : Str → List D → Sto → R D := callT prg.G prg.tab prg.wf n
theorem at_law (ds : List D) (m : Sto) : cl 3 n_law ds m = runF prg.G (prg.C 2) f_law.b 1 8 ds m := by kernel_rfl
theorem at_begin (ds : List D) (m : Sto) : cl 2 n__law_begin ds m = runF prg.G (prg.C 1) beginB 1 1 ds m := by kernel_rfl
theorem at_pick (ds : List D) (m : Sto) : cl 2 n__law_pick ds m = runF prg.G (prg.C 1) f_law_pick.b 2 2 ds m := by kernel_rfl
theorem at_next (ds : List D) (m : Sto) : cl 1 n__law_next ds m = runF prg.G (prg.C 0) nextB 2 6 ds m := by kernel_rfl

/-! ### a turn -/
def sub1 : S → S
  | .seq a _ => a
  | s => s
def sub2 : S → S
  | .seq _ b => b
  | s => s
def lawF : S := sub1 (sub2 f_law.b)
def bodyT : S := match lawF with
  | .for_ _ _ _ b => b
  | s => s
def restT : S := sub2 bodyT
def pickE : E := match sub1 bodyT with
  | .asg _ e => e
  | _ => .nil
def oddL : List D := [.non, .int 5, .bl true, .str n_a, .tup [.int 1, .int 2], .ref 4, .ref 5, .tup [.str n_x, .ref 6], .int (-1), .int (10 ^ 30)]
def m1 (ns : List Int) (a l u : Int) : Sto := ⟨8, 0, [(7, .lst oddL), (6, .lst [.non]), (5, .dct []), (4, .lst []), (3, .zls (ns ++ [0])), (2, .lst [.int 0]), (1, dS 3 a l u), (0, .frl ns)]⟩
theorem body_eq : bodyT = .seq (.asg (.tNm 3) pickE) restT := by kernel_rfl
theorem pick_at (ns : List Int) (a l u : Int) (x2 x3 x4 x5 x6 x7 : Option D) : evE prg.G (prg.C 2) pickE [some (.ref 0), some (.ref 1), x2, x3, x4, x5, x6, x7] (stD ns a l u) = cl 2 n__law_pick [.ref 1, .ref 7] (m1 ns a l u) := by kernel_rfl
theorem next_at {ns : List Int} {a l u : Int} (ha : 0 ≤ a) (ha2 : a < 2 ^ 60) (hl : 0 ≤ l) (hu : 0 ≤ u) (hu2 : u < 2 ^ 60) :
    ∃ j a' l' u', cl 1 n__law_next [.ref 1, .int 10] (m1 ns a l u) = .ok (.int j) (m1 ns a' l' u') ∧ 0 ≤ j ∧ j < 10 ∧ 0 ≤ a' ∧ a' ≤ a + 1 ∧ 0 ≤ l' ∧ 0 ≤ u' ∧ u' ≤ u + 1 := by
  obtain ⟨j, a', l', u', e, h⟩ := next_ok (G := prg.G) (C := prg.C 0) (m := m1 ns a l u) (d := 1) (c := 3) (zs := ns ++ [0]) (a := a) (l := l) (u := u) (n := 10) rfl rfl (by simp) (Nat.zero_le _) (by decide) (keys_of rfl) ha ha2 hl hu hu2 (by decide) (by decide)
  refine ⟨j, a', l', u', ?_, h⟩
  rw [at_next]
  show (bodyR (evS prg.G (prg.C 0) nextB [some (.ref 1), some (.int 10), none, none, none, none] (m1 ns a l u))).cut 8 = _
  rw [e]
  exact cut_same rfl (keys_of rfl)
theorem pick_ok {ns : List Int} {a l u : Int} (ha : 0 ≤ a) (ha2 : a < 2 ^ 60) (hl : 0 ≤ l) (hu : 0 ≤ u) (hu2 : u < 2 ^ 60) :
    ∃ (j : Nat) (a' l' u' : Int) (x : D), oddL[j]? = some x ∧ cl 2 n__law_pick [.ref 1, .ref 7] (m1 ns a l u) = .ok x (m1 ns a' l' u') ∧ j < 10 ∧ 0 ≤ a' ∧ a' ≤ a + 1 ∧ 0 ≤ l' ∧ 0 ≤ u' ∧ u' ≤ u + 1 := by
  obtain ⟨j, a', l', u', e, h0, h1, h2⟩ := next_at (ns := ns) ha ha2 hl hu hu2
  obtain ⟨j', hj⟩ : ∃ j' : Nat, j = (j' : Int) := ⟨j.toNat, (Int.toNat_of_nonneg h0).symm⟩
  subst hj
  have hj : j' < 10 := by omega
  obtain ⟨x, hx⟩ : ∃ x, oddL[j']? = some x := ⟨oddL[j'], List.getElem?_eq_getElem hj⟩
  refine ⟨j', a', l', u', x, hx, ?_, hj, h2⟩
  rw [at_pick]
  have hix : opIx (.ref 7) (.int (j' : Int)) (m1 ns a' l' u') = .ok x (m1 ns a' l' u') := by
    show (match ixD oddL.length (Int.ofNat j') with | some k => R.ofO oddL[k]? (m1 ns a' l' u') | none => R.bad) = _
    unfold ixD
    dsimp only
    rw [Nat.blt_eq.mpr (show j' < oddL.length from hj)]
    dsimp only
    rw [hx]
    rfl
  have hc : (prg.C 1).call n__law_next [.ref 1, .int 10] (m1 ns a l u) = .ok (.int (j' : Int)) (m1 ns a' l' u') := e
  have ev : evS prg.G (prg.C 1) f_law_pick.b [some (.ref 1), some (.ref 7)] (m1 ns a l u) = .rt x (m1 ns a' l' u') := by
    have hl : biD prg.G .len [.ref 7] (m1 ns a l u) = .ok (.int 10) (m1 ns a l u) := rfl
    simp only [f_law_pick, evS, evE, evA, R.bind, R.thn, R.calm, List.getElem?_cons_zero, List.getElem?_cons_succ, hl, hc, hix]
  show (bodyR (evS prg.G (prg.C 1) f_law_pick.b [some (.ref 1), some (.ref 7)] (m1 ns a l u))).cut 8 = _
  rw [ev]
  exact cut_same rfl (keys_of rfl)
/-- what is left behind a turn -/
def chkT (r : RS) : Option (Bool × Sto) := match outT 4 r with
  | some (some (.ref 0) :: some (.ref 1) :: as, m) => some (Nat.beq as.length 6, m)
  | _ => none
theorem rest0 (ns : List Int) (a l u : Int) (i : Int) (x4 x5 x6 x7 : Option D) : chkT (evS prg.G (prg.C 2) restT [some (.ref 0), some (.ref 1), some (.int i), some (.non), x4, x5, x6, x7] (m1 ns a l u)) = some (true, stD ns a l u) := by kernel_rfl
theorem rest1 (ns : List Int) (a l u : Int) (i : Int) (x4 x5 x6 x7 : Option D) : chkT (evS prg.G (prg.C 2) restT [some (.ref 0), some (.ref 1), some (.int i), some (.int 5), x4, x5, x6, x7] (m1 ns a l u)) = some (true, stD ns a l u) := by kernel_rfl
theorem rest2 (ns : List Int) (a l u : Int) (i : Int) (x4 x5 x6 x7 : Option D) : chkT (evS prg.G (prg.C 2) restT [some (.ref 0), some (.ref 1), some (.int i), some (.bl true), x4, x5, x6, x7] (m1 ns a l u)) = some (true, stD ns a l u) := by kernel_rfl
theorem rest3 (ns : List Int) (a l u : Int) (i : Int) (x4 x5 x6 x7 : Option D) : chkT (evS prg.G (prg.C 2) restT [some (.ref 0), some (.ref 1), some (.int i), some (.str n_a), x4, x5, x6, x7] (m1 ns a l u)) = some (true, stD ns a l u) := by kernel_rfl
theorem rest4 (ns : List Int) (a l u : Int) (i : Int) (x4 x5 x6 x7 : Option D) : chkT (evS prg.G (prg.C 2) restT [some (.ref 0), some (.ref 1), some (.int i), some (.tup [.int 1, .int 2]), x4, x5, x6, x7] (m1 ns a l u)) = some (true, stD ns a l u) := by kernel_rfl
theorem rest5 (ns : List Int) (a l u : Int) (i : Int) (x4 x5 x6 x7 : Option D) : chkT (evS prg.G (prg.C 2) restT [some (.ref 0), some (.ref 1), some (.int i), some (.ref 4), x4, x5, x6, x7] (m1 ns a l u)) = some (true, stD ns a l u) := by kernel_rfl
theorem rest6 (ns : List Int) (a l u : Int) (i : Int) (x4 x5 x6 x7 : Option D) : chkT (evS prg.G (prg.C 2) restT [some (.ref 0), some (.ref 1), some (.int i), some (.ref 5), x4, x5, x6, x7] (m1 ns a l u)) = some (true, stD ns a l u) := by kernel_rfl
theorem rest7 (ns : List Int) (a l u : Int) (i : Int) (x4 x5 x6 x7 : Option D) : chkT (evS prg.G (prg.C 2) restT [some (.ref 0), some (.ref 1), some (.int i), some (.tup [.str n_x, .ref 6]), x4, x5, x6, x7] (m1 ns a l u)) = some (true, stD ns a l u) := by kernel_rfl
theorem rest8 (ns : List Int) (a l u : Int) (i : Int) (x4 x5 x6 x7 : Option D) : chkT (evS prg.G (prg.C 2) restT [some (.ref 0), some (.ref 1), some (.int i), some (.int (-1)), x4, x5, x6, x7] (m1 ns a l u)) = some (true, stD ns a l u) := by kernel_rfl
theorem rest9 (ns : List Int) (a l u : Int) (i : Int) (x4 x5 x6 x7 : Option D) : chkT (evS prg.G (prg.C 2) restT [some (.ref 0), some (.ref 1), some (.int i), some (.int (10 ^ 30)), x4, x5, x6, x7] (m1 ns a l u)) = some (true, stD ns a l u) := by kernel_rfl
end K01
namespace K01
open PySem Py
theorem rest_ok {ns : List Int} {a l u i : Int} {x4 x5 x6 x7 : Option D} {j : Nat} {x : D} (hj : j < 10) (hx : oddL[j]? = some x) : chkT (evS prg.G (prg.C 2) restT [some (.ref 0), some (.ref 1), some (.int i), some x, x4, x5, x6, x7] (m1 ns a l u)) = some (true, stD ns a l u) := by
  match j, hj with
  | 0, _ => cases hx; exact rest0 ns a l u i x4 x5 x6 x7
  | 1, _ => cases hx; exact rest1 ns a l u i x4 x5 x6 x7
  | 2, _ => cases hx; exact rest2 ns a l u i x4 x5 x6 x7
  | 3, _ => cases hx; exact rest3 ns a l u i x4 x5 x6 x7
  | 4, _ => cases hx; exact rest4 ns a l u i x4 x5 x6 x7
  | 5, _ => cases hx; exact rest5 ns a l u i x4 x5 x6 x7
  | 6, _ => cases hx; exact rest6 ns a l u i x4 x5 x6 x7
  | 7, _ => cases hx; exact rest7 ns a l u i x4 x5 x6 x7
  | 8, _ => cases hx; exact rest8 ns a l u i x4 x5 x6 x7
  | 9, _ => cases hx; exact rest9 ns a l u i x4 x5 x6 x7
theorem chkT_out {r : RS} {m : Sto} (h : chkT r = some (true, m)) : ∃ y2 y3 y4 y5 y6 y7, outT 4 r = some ([some (.ref 0), some (.ref 1), y2, y3, y4, y5, y6, y7], m) := by
  unfold chkT at h
  split at h
  · rename_i as m' e
    simp only [Option.some.injEq, Prod.mk.injEq] at h
    obtain ⟨h1, rfl⟩ := h
    have hl := Nat.eq_of_beq_eq_true h1
    match as, hl with
    | [y2, y3, y4, y5, y6, y7], _ => exact ⟨y2, y3, y4, y5, y6, y7, e⟩
  · cases h
/-- ahead of turn i -/
def At (ns : List Int) (i : Nat) (as : En) (m : Sto) : Prop := ∃ x2 x3 x4 x5 x6 x7, ∃ a l u : Int, as = [some (.ref 0), some (.ref 1), x2, x3, x4, x5, x6, x7] ∧ m = stD ns a l u ∧ 0 ≤ a ∧ a ≤ i ∧ 0 ≤ l ∧ 0 ≤ u ∧ u ≤ i
theorem turns (ns : List Int) : ∀ (i : Nat) (as : En) (m : Sto), i < 3 → At ns i as m → ∃ as' m', At ns (i + 1) as' m' ∧ ∀ K : En → Sto → RS, ((evTg prg.G (prg.C 2) (.tNm 2) (.int (i : Int)) as m).calm.thn as fun as1 m1 => match evS prg.G (prg.C 2) bodyT as1 m1 with
      | .nx as2 m2 => cutK (some 4) as2 m2 K
      | .ct as2 m2 => cutK (some 4) as2 m2 K
      | .bk as2 m2 => .nx as2 m2
      | r => r) = K as' m' := by
  intro i as m hi h
  obtain ⟨x2, x3, x4, x5, x6, x7, a, l, u, rfl, rfl, h1, h2, h3, h4, h5⟩ := h
  obtain ⟨j, a', l', u', x, hx, e, hj, g1, g2, g3, g4, g5⟩ := pick_ok (ns := ns) (a := a) (l := l) (u := u) h1 (by omega) h3 h4 (by omega)
  obtain ⟨y2, y3, y4, y5, y6, y7, ho⟩ := chkT_out (rest_ok (ns := ns) (a := a') (l := l') (u := u') (i := (i : Int)) (x4 := x4) (x5 := x5) (x6 := x6) (x7 := x7) hj hx)
  refine ⟨_, _, ⟨y2, y3, y4, y5, y6, y7, a', l', u', rfl, rfl, g1, by omega, g3, g4, by omega⟩, fun K => ?_⟩
  have eb : evS prg.G (prg.C 2) bodyT [some (.ref 0), some (.ref 1), some (.int (i : Int)), x3, x4, x5, x6, x7] (stD ns a l u) = evS prg.G (prg.C 2) restT [some (.ref 0), some (.ref 1), some (.int (i : Int)), some x, x4, x5, x6, x7] (m1 ns a' l' u') := by
    rw [body_eq]
    have e2 := (pick_at ns a l u (some (.int (i : Int))) x3 x4 x5 x6 x7).trans e
    simp only [evS, e2, R.thn, evTg, R.calm, List.set_cons_succ, List.set_cons_zero]
  simp only [evTg, R.calm, R.thn, List.set_cons_succ, List.set_cons_zero, eb]
  generalize evS prg.G (prg.C 2) restT [some (.ref 0), some (.ref 1), some (.int (i : Int)), some x, x4, x5, x6, x7] (m1 ns a' l' u') = r at ho ⊢
  have fin := outT_cut ho K
  cases r <;> first | exact fin | cases ho
theorem law_eq : f_law.b = .seq (.asg (.tNm 1) (.call n__law_begin (.cons (.var 0) .nil))) (.seq (.for_ true (.tNm 2) (.sR1 (.con (.int 3))) bodyT) (.seq (.ret (.con (.bl true))) .skp)) := by kernel_rfl
theorem law_run (ns : List Int) (hn : ns.length ≤ 63) : ∃ m, callT prg.G prg.tab prg.wf 3 n_law [.ref 0] ⟨1, 0, [(0, .frl ns)]⟩ = .ok (.bl true) m := by
  have hb : (prg.C 2).call n__law_begin [.ref 0] ⟨1, 0, [(0, .frl ns)]⟩ = .ok (.ref 1) (stD ns 0 0 0) := by
    have hC : (prg.C 2).call n__law_begin [.ref 0] ⟨1, 0, [(0, .frl ns)]⟩ = cl 2 n__law_begin [.ref 0] ⟨1, 0, [(0, .frl ns)]⟩ := rfl
    rw [hC, at_begin]
    show (bodyR (evS prg.G (prg.C 1) beginB [some (.ref 0)] ⟨1, 0, [(0, .frl ns)]⟩)).cut 1 = _
    rw [begin_ok hn]
    rfl
  obtain ⟨as', m', h1, h2⟩ := rng_loop (turns ns) 3 0 [some (.ref 0), some (.ref 1), none, none, none, none, none, none] (stD ns 0 0 0) rfl ⟨_, _, _, _, _, _, 0, 0, 0, rfl, rfl, by decide, by decide, by decide, by decide, by decide⟩
  have ev : evS prg.G (prg.C 2) f_law.b [some (.ref 0), none, none, none, none, none, none, none] ⟨1, 0, [(0, .frl ns)]⟩ = .rt (.bl true) m' := by
    have t3 : (decide (-(2 ^ 62) ≤ (3 : Int))) = true := by decide
    have t4 : (decide ((3 : Int) < 2 ^ 62)) = true := by decide
    have hl : forLoop (gcut true (stD ns 0 0 0).nx) (.rng 0 (3 : Int).toNat) (fun x x1 x2 => R.ok (List.set x1 2 (some x)) x2) (evS prg.G (prg.C 2) bodyT) ((Src.rng 0 (3 : Int).toNat).most (stD ns 0 0 0)) 0 [some (.ref 0), some (.ref 1), none, none, none, none, none, none] (stD ns 0 0 0) = .nx as' m' := h2
    rw [law_eq]
    simp only [evS, evE, evA, evTg, evSrc, R.bind, R.thn, R.calm, List.getElem?_cons_zero, hb, List.set_cons_succ, List.set_cons_zero, t3, t4, hl]
  obtain ⟨m2, e2⟩ := cut_val (N := 1) (d := .bl true) (m := m')
  refine ⟨m2, (at_law _ _).trans ?_⟩
  show (bodyR (evS prg.G (prg.C 2) f_law.b [some (.ref 0), none, none, none, none, none, none, none] ⟨1, 0, [(0, .frl ns)]⟩)).cut 1 = _
  rw [ev]
  exact e2
end K01
open PySem PySem.W PySem.Calls PyProof.Rows
theorem PySem.Challenge.cw_looksums_k01_errors_made_holds : PySem.Challenge.rw_looksums_k01_errors_made.Holds := by
  w_on; o_law
  refine HandSHeadRun.head_any (r := OpenLaw.row PySem.Challenge.rw_looksums_k01_errors_made) (q := view (OpenLaw.row PySem.Challenge.rw_looksums_k01_errors_made).prog [21]) (H := K01.hk) (ob := K01.ob) (M := 4000) (loose := K01.loose) (d := HandSHeadRun.topDef (OpenLaw.row PySem.Challenge.rw_looksums_k01_errors_made).prog 21) (kwd := []) K01.ob_eq
    (by kernel_rfl) (fun s => by kernel_rfl) K01.run (by kernel_rfl) (by kernel_rfl) (by kernel_rfl) (by rfl) (by first | assumption | decide +kernel) (by decide +kernel) ⟨rfl, rfl, rfl, rfl, rfl, by decide +kernel⟩ ?hw ?hc
  case hw => w_witness2
  case hc =>
    have e : (HandSHeadRun.topDef (OpenLaw.row PySem.Challenge.rw_looksums_k01_errors_made).prog 21).name = K01.n_law := by kernel_rfl
    refine Py.walk_p (l := PySem.Challenge.rw_looksums_k01_errors_made) (n := 63) (p := K01.prg) (j := 6) (dp := 2) (fd := K01.f_law) rfl (by decide) (by kernel_rfl) ⟨rfl, by decide, by decide⟩ (by rw [e]; kernel_rfl) rfl fun ns hn => ?_
    rw [e]
    exact K01.law_run ns hn
