import PyProof.Rows.All
import Wide.All
import OpenK.AllK
import Wide.FinOn
import HandS.ForMost
import HandS.ForExc
import HandS.CallSlots
import HandS.Wide
import HandS.Gcd
import HandS.IsInst
import HandS.Deep
import HandS.Style
import HandS.Star
import PyProof.ReprRoads
import HandS.RaiseMore
import HandS.Defaults
import HandS.ExcInit
import HandS.FStr
import HandS.Lambda
import KE.KExcSuper
import HandS.ExcIs
import HandS.ExcField
import KE.KExcIs
import HandS.Dict
import HandS.EndTab
import HandS.EndOwn
import PySem.Challenge.RW_closedfields_k29_sets_refused
set_option Elab.async false
set_option linter.all false
set_option maxRecDepth 100000
/-! Dl1: the data level: values as trees of data, what a program computes as a plain function over data; the readings of HandS are filled by it. -/
namespace DL
open PySem PySem.Spec PyProof.Rows L2

/-! ### data -/
inductive D where
  | non
  | bl (b : Bool)
  | int (i : Int)
  | str (s : Str)
  | lst (l : List D)
  | tup (l : List D)
  | dct (l : List (D × D))
  | ins (c : Str) (fs : List (Str × D))
  | exc (c : Str) (fs : List (Str × D))
  | ref (a : Addr)
instance : Inhabited D := ⟨.non⟩
/-- the state of what draws: the cells, how many were begun, what is left of a great one -/
structure Pen where
  cells : List Int
  at_ : Int
  left : Int
instance : Inhabited Pen := ⟨⟨[], 0, 0⟩⟩
structure Exc where
  cls : Str
  args : List (Str × D)
/-- a computation: none where nothing is said of it -/
def M (α : Type) := Pen → Option (Except Exc α × Pen)
def pureM {α : Type} (a : α) : M α := fun st => some (.ok a, st)
def failM {α : Type} : M α := fun _ => none
def throwM {α : Type} (x : Exc) : M α := fun st => some (.error x, st)
def bindM {α β : Type} (f : M α) (g : α → M β) : M β := fun st => match f st with
  | none => none
  | some (.error x, st') => some (.error x, st')
  | some (.ok a, st') => g a st'
instance : Monad M where
  pure := pureM
  bind := bindM
theorem bindM_ok {α β : Type} {f : M α} {g : α → M β} {a : α} {st st' : Pen} (h : f st = some (.ok a, st')) : bindM f g st = g a st' := by unfold bindM; rw [h]
theorem bindM_err {α β : Type} {f : M α} {g : α → M β} {x : Exc} {st st' : Pen} (h : f st = some (.error x, st')) : bindM f g st = some (.error x, st') := by unfold bindM; rw [h]
@[simp] theorem pureM_st {α : Type} (a : α) (st : Pen) : pureM a st = some (.ok a, st) := rfl
@[simp] theorem bindM_pure {α β : Type} (a : α) (g : α → M β) : bindM (pureM a) g = g a := rfl
/-- an error is not served -/
def noErr {α : Type} (f : M α) : M α := fun st => match f st with
  | some (.ok a, st') => some (.ok a, st')
  | _ => none
theorem noErr_ok {α : Type} {f : M α} {a : α} {st st' : Pen} (h : f st = some (.ok a, st')) : noErr f st = some (.ok a, st') := by unfold noErr; rw [h]

/-- at a: an exception of the class cls, its own dict at d -/
def exv (cls : Value) (d : Option Addr) (a : Addr) : HO := .ext fun h => ∃ (oe : Obj) (vs : Array Value), h.get? a = some oe ∧ Zc cls d oe ∧ oe.data = .fields vs
/-! ### the module: its written part, its names -/
/-- pa: where the pen stands; T: what else may change; tok: what is known of that -/
structure Gh where
  pa : Option Addr
  T : Addr → Prop
  tok : Hp → Hp → Prop
  apart : ∀ p, pa = some p → ¬ T p
  stable : ∀ G H G' H' : Hp, tok G H → Same G G' → (∀ b, T b → H' b = H b) → (∀ b o, H b = some o → (∀ l, o ≠ .lst l) → H' b = some o) → tok G' H'
structure Md where
  K : PySem.W.Frag
  mg : Str → Option Value
  gh : Gh → Prop
mutual
/-- v stands for the data d in the frozen heap G -/
inductive Rep (m : Md) (G : Hp) : V → D → Prop
  | non : Rep m G .non .non
  | bl (b : Bool) : Rep m G (.bl b) (.bl b)
  | int (i : Int) : Rep m G (.int i) (.int i)
  | str (x : Str) : Rep m G (.str x) (.str x)
  | lst {a : Addr} {xs : List V} {ds : List D} : G a = some (.lst xs) → RepL m G xs ds → Rep m G (.ref a) (.lst ds)
  | tup {a : Addr} {xs : List V} {ds : List D} : SqT m.K G a xs → RepL m G xs ds → Rep m G (.ref a) (.tup ds)
  | dct {a : Addr} {kvs : List (Key × V)} {ds : List (D × D)} : G a = some (.dK kvs) → RepL m G (kvs.map (kV ·.1)) (ds.map (·.1)) → RepL m G (kvs.map (·.2)) (ds.map (·.2)) → Rep m G (.ref a) (.dct ds)
  | ins {a C dx : Addr} {c : Str} {vs : List (Str × V)} {fs : List (Str × D)} : G a = some (.ins C dx vs) → m.mg c = some (.ref C) → vs.map (·.1) = fs.map (·.1) → RepL m G (vs.map (·.2)) (fs.map (·.2)) → Rep m G (.ref a) (.ins c fs)
  | exc {a C dd : Addr} {c : Str} {vs : List (Str × V)} {fs : List (Str × D)} : G a = some (exv (.ref C) (some dd) a) → G dd = some (.xd vs) → m.mg c = some (.ref C) → vs.map (·.1) = fs.map (·.1) → RepL m G (vs.map (·.2)) (fs.map (·.2)) → Rep m G (.ref a) (.exc c fs)
  | ref (a : Addr) : Rep m G (.ref a) (.ref a)
inductive RepL (m : Md) (G : Hp) : List V → List D → Prop
  | nil : RepL m G [] []
  | cons {v : V} {vs : List V} {d : D} {ds : List D} : Rep m G v d → RepL m G vs ds → RepL m G (v :: vs) (d :: ds)
end
theorem SqT.same {K : PySem.W.Frag} {H H' : Hp} {a : Addr} {xs : List V} (e : Same H H') (h : SqT K H a xs) : SqT K H' a xs := by
  rcases h with (h | ⟨o, h⟩) | h
  · exact .inl (.inl (e _ _ h))
  · exact .inl (.inr ⟨o, e _ _ h⟩)
  · exact .inr h
mutual
theorem Rep.same {m : Md} {G G' : Hp} (e : Same G G') : ∀ {v : V} {d : D}, Rep m G v d → Rep m G' v d
  | _, _, .non => .non
  | _, _, .bl b => .bl b
  | _, _, .int i => .int i
  | _, _, .str x => .str x
  | _, _, .lst h r => .lst (e _ _ h) (RepL.same e r)
  | _, _, .tup h r => .tup (SqT.same e h) (RepL.same e r)
  | _, _, .dct h r q => .dct (e _ _ h) (RepL.same e r) (RepL.same e q)
  | _, _, .ins h c n r => .ins (e _ _ h) c n (RepL.same e r)
  | _, _, .exc h q c n r => .exc (e _ _ h) (e _ _ q) c n (RepL.same e r)
  | _, _, .ref a => .ref a
theorem RepL.same {m : Md} {G G' : Hp} (e : Same G G') : ∀ {vs : List V} {ds : List D}, RepL m G vs ds → RepL m G' vs ds
  | _, _, .nil => .nil
  | _, _, .cons h r => .cons (Rep.same e h) (RepL.same e r)
end
section
variable {m : Md} {G : Hp}
theorem RepL.length : ∀ {vs : List V} {ds : List D}, RepL m G vs ds → vs.length = ds.length
  | _, _, .nil => rfl
  | _, _, .cons _ r => by rw [List.length_cons, List.length_cons, RepL.length r]
theorem RepL.get : ∀ {vs : List V} {ds : List D} {i : Nat} {d : D}, RepL m G vs ds → ds[i]? = some d → ∃ v, vs[i]? = some v ∧ Rep m G v d
  | _, _, _, _, .nil, e => by simp at e
  | _, _, 0, _, .cons r _, e => by simp at e; subst e; exact ⟨_, rfl, r⟩
  | _, _, i + 1, d, .cons _ t, e => by
    obtain ⟨u, h1, h2⟩ := RepL.get (i := i) (d := d) t (by simpa using e)
    exact ⟨u, by simpa using h1, h2⟩
theorem RepL.getV : ∀ {vs : List V} {ds : List D} {i : Nat} {v : V}, RepL m G vs ds → vs[i]? = some v → ∃ d, ds[i]? = some d ∧ Rep m G v d
  | _, _, _, _, .nil, e => by simp at e
  | _, _, 0, _, .cons r _, e => by simp at e; subst e; exact ⟨_, rfl, r⟩
  | _, _, i + 1, v, .cons _ t, e => by
    obtain ⟨u, h1, h2⟩ := RepL.getV (i := i) (v := v) t (by simpa using e)
    exact ⟨u, by simpa using h1, h2⟩
theorem RepL.append : ∀ {vs ws : List V} {ds es : List D}, RepL m G vs ds → RepL m G ws es → RepL m G (vs ++ ws) (ds ++ es)
  | _, _, _, _, .nil, s => s
  | _, _, _, _, .cons r t, s => .cons r (RepL.append t s)
theorem RepL.take : ∀ {vs : List V} {ds : List D} (n : Nat), RepL m G vs ds → RepL m G (vs.take n) (ds.take n)
  | _, _, 0, _ => .nil
  | _, _, _ + 1, .nil => .nil
  | _, _, n + 1, .cons r t => .cons r (RepL.take n t)
theorem RepL.drop : ∀ {vs : List V} {ds : List D} (n : Nat), RepL m G vs ds → RepL m G (vs.drop n) (ds.drop n)
  | _, _, 0, r => r
  | _, _, _ + 1, .nil => .nil
  | _, _, n + 1, .cons _ t => RepL.drop n t
theorem RepL.one {v : V} {d : D} (h : Rep m G v d) : RepL m G [v] [d] := .cons h .nil
theorem Rep.int_inv {v : V} {i : Int} (h : Rep m G v (.int i)) : v = .int i := by cases h; rfl
theorem Rep.bl_inv {v : V} {i : Bool} (h : Rep m G v (.bl i)) : v = .bl i := by cases h; rfl
theorem Rep.str_inv {v : V} {i : Str} (h : Rep m G v (.str i)) : v = .str i := by cases h; rfl
theorem Rep.non_inv {v : V} (h : Rep m G v .non) : v = .non := by cases h; rfl
theorem Rep.tup_inv {v : V} {ds : List D} (h : Rep m G v (.tup ds)) : ∃ a xs, v = .ref a ∧ SqT m.K G a xs ∧ RepL m G xs ds := by cases h with | tup h r => exact ⟨_, _, rfl, h, r⟩
theorem Rep.lst_inv {v : V} {ds : List D} (h : Rep m G v (.lst ds)) : ∃ a xs, v = .ref a ∧ G a = some (.lst xs) ∧ RepL m G xs ds := by cases h with | lst h r => exact ⟨_, _, rfl, h, r⟩
theorem Rep.ref_inv {v : V} {a : Addr} (h : Rep m G v (.ref a)) : v = .ref a := by cases h; rfl
end

/-! ### what changes -/
def Gh.away (γ : Gh) (b : Addr) : Prop := γ.pa ≠ some b ∧ ¬ γ.T b
structure Step (γ : Gh) (G H G' H' : Hp) : Prop where
  gg : Same G G'
  sub : Same G' H'
  new : ∀ b, H b ≠ none → G b = none → G' b = none
  keep : ∀ b o, γ.away b → H b = some o → H' b = some o
  live : ∀ b, H b ≠ none → H' b ≠ none
  tok : γ.tok G' H'
theorem Step.refl {γ : Gh} {G H : Hp} (s : Same G H) (t : γ.tok G H) : Step γ G H G H := ⟨Same.refl G, s, fun _ _ h => h, fun _ _ _ h => h, fun _ h => h, t⟩
theorem Step.trans {γ : Gh} {G H G1 H1 G2 H2 : Hp} (a : Step γ G H G1 H1) (b : Step γ G1 H1 G2 H2) : Step γ G H G2 H2 :=
  ⟨a.gg.trans b.gg, b.sub, fun c h1 h2 => b.new c (a.live c h1) (a.new c h1 h2), fun c o h1 h2 => b.keep c o h1 (a.keep c o h1 h2), fun c h => b.live c (a.live c h), b.tok⟩
/-- the pen as it stands -/
structure PenOk (m : Md) (γ : Gh) (st : Pen) (G H : Hp) : Prop where
  pen : ∀ p, γ.pa = some p → G p = none ∧ ∃ q, H p = some (.lst [.ref q, .int st.at_, .int st.left]) ∧ G q = some (.lst (st.cells.map .int))
  live : ∀ b, γ.T b → H b ≠ none ∧ G b = none
  gh : m.gh γ
theorem PenOk.step {m : Md} {γ : Gh} {st : Pen} {G H G' H' : Hp} (p : PenOk m γ st G H) (s : Step γ G H G' H') (e : ∀ b, γ.pa = some b → H' b = H b) : PenOk m γ st G' H' := by
  refine ⟨fun b hb => ?_, fun b hb => ⟨s.live b (p.live b hb).1, s.new b (p.live b hb).1 (p.live b hb).2⟩, p.gh⟩
  obtain ⟨h1, q, h2, h3⟩ := p.pen b hb
  exact ⟨s.new b (by rw [h2]; intro z; cases z) h1, q, by rw [e b hb]; exact h2, s.gg q _ h3⟩

/-! ### slots -/
inductive Sl where
  | no
  | val (d : D)
  | pen
  | own (l : List D)
instance : Inhabited Sl := ⟨.no⟩
def Sl.isOwn : Sl → Bool
  | .own _ => true
  | _ => false
/-- B: the heap ahead of it all -/
def SlOk (m : Md) (γ : Gh) (B G H : Hp) : Sl → Option V → Prop
  | .no, _ => True
  | .val d, x => ∃ v, x = some v ∧ Rep m G v d
  | .pen, x => ∃ p, γ.pa = some p ∧ x = some (.ref p)
  | .own l, x => ∃ p vs, x = some (.ref p) ∧ H p = some (.lst vs) ∧ B p = none ∧ G p = none ∧ γ.away p ∧ RepL m G vs l
theorem SlOk.step {m : Md} {γ : Gh} {B G H G' H' : Hp} (s : Step γ G H G' H') : ∀ {sl : Sl} {x : Option V}, SlOk m γ B G H sl x → SlOk m γ B G' H' sl x
  | .no, _, _ => trivial
  | .val _, _, ⟨v, e, r⟩ => ⟨v, e, r.same s.gg⟩
  | .pen, _, h => h
  | .own _, _, ⟨p, vs, e, h, hb, hg, ha, r⟩ => ⟨p, vs, e, s.keep p _ ha h, hb, s.new p (by rw [h]; intro z; cases z) hg, ha, r.same s.gg⟩
structure EnvOk (m : Md) (γ : Gh) (B0 B : Hp) (σ : L2.St) (G H : Hp) (env : List Sl) (st : Pen) : Prop where
  sub : Same G H
  tok : γ.tok G H
  base : Step γ B0 B G H
  pen : PenOk m γ st G H
  len : env.length = σ.length
  sl : ∀ (i : Nat) (s : Sl) (x : Option V), env[i]? = some s → σ[i]? = some x → SlOk m γ B G H s x
  dis : ∀ (i j : Nat) (s t : Sl) (x : V), i ≠ j → env[i]? = some s → env[j]? = some t → s.isOwn = true → t.isOwn = true → σ[i]? = some (some x) → σ[j]? = some (some x) → False
section
variable {m : Md} {γ : Gh} {B0 B G H G' H' : Hp} {σ : L2.St} {env : List Sl} {st st' : Pen}
theorem EnvOk.step (E : EnvOk m γ B0 B σ G H env st) (s : Step γ G H G' H') (p : PenOk m γ st' G' H') : EnvOk m γ B0 B σ G' H' env st' :=
  ⟨s.sub, s.tok, E.base.trans s, p, E.len, fun i sl x h1 h2 => (E.sl i sl x h1 h2).step s, E.dis⟩
theorem EnvOk.get (E : EnvOk m γ B0 B σ G H env st) {i : Nat} {s : Sl} (h : env[i]? = some s) : ∃ x, σ[i]? = some x ∧ SlOk m γ B G H s x := by
  have hi : i < σ.length := by rw [← E.len]; exact (List.getElem?_eq_some_iff.mp h).1
  exact ⟨σ[i], List.getElem?_eq_getElem hi, E.sl i s _ h (List.getElem?_eq_getElem hi)⟩
theorem EnvOk.val (E : EnvOk m γ B0 B σ G H env st) {i : Nat} {d : D} (h : env[i]? = some (.val d)) : ∃ v, σ[i]? = some (some v) ∧ Rep m G v d := by
  obtain ⟨x, h1, v, e, r⟩ := E.get h
  subst e
  exact ⟨v, h1, r⟩
theorem EnvOk.set (E : EnvOk m γ B0 B σ G H env st) {i : Nat} {v : V} {d : D} (r : Rep m G v d) : EnvOk m γ B0 B (σ.set i (some v)) G H (env.set i (.val d)) st := by
  refine ⟨E.sub, E.tok, E.base, E.pen, by rw [List.length_set, List.length_set]; exact E.len, fun j s x h1 h2 => ?_, fun j k s t x hjk h1 h2 o1 o2 h3 h4 => ?_⟩
  · by_cases e : i = j
    · subst e
      have hl : i < env.length := by
        have := (List.getElem?_eq_some_iff.mp h1).1
        rw [List.length_set] at this
        exact this
      rw [List.getElem?_set_self hl] at h1
      rw [List.getElem?_set_self (by rw [← E.len]; exact hl)] at h2
      cases h1; cases h2
      exact ⟨v, rfl, r⟩
    · rw [List.getElem?_set_ne e] at h1 h2
      exact E.sl j s x h1 h2
  · have ne : ∀ (k : Nat) (t : Sl), (env.set i (.val d))[k]? = some t → t.isOwn = true → k ≠ i := fun k t h o z => by
      subst z
      have hl : k < env.length := by
        have := (List.getElem?_eq_some_iff.mp h).1
        rw [List.length_set] at this
        exact this
      rw [List.getElem?_set_self hl] at h
      cases h
      cases o
    have n1 := ne j s h1 o1
    have n2 := ne k t h2 o2
    rw [List.getElem?_set_ne (Ne.symm n1)] at h1 h3
    rw [List.getElem?_set_ne (Ne.symm n2)] at h2 h4
    exact E.dis j k s t x hjk h1 h2 o1 o2 h3 h4
end

/-! ### what is wanted of a computation -/
/-- an exception's class and own dict, as data -/
def ExcIs (m : Md) (G H : Hp) (x : Exc) (cls : Value) (dd : Option Addr) : Prop := ∃ C d vs, m.mg x.cls = some (.ref C) ∧ cls = .ref C ∧ dd = some d ∧ G d = some (.xd vs) ∧ vs.map (·.1) = x.args.map (·.1) ∧ RepL m G (vs.map (·.2)) (x.args.map (·.2))
def Post {α : Type} (m : Md) (γ : Gh) (G H : Hp) (r : Option (Except Exc α × Pen)) (k : α → Pen → Hp → Hp → Prop) (W : XK) : Prop := match r with
  | none => False
  | some (.ok a, st') => ∀ G' H', Step γ G H G' H' → PenOk m γ st' G' H' → k a st' G' H'
  | some (.error x, st') => ∀ cls dd G' H', Step γ G H G' H' → PenOk m γ st' G' H' → ExcIs m G' H' x cls dd → W cls dd H'
section
variable {α β : Type} {m : Md} {γ : Gh} {G H G1 H1 : Hp} {r : Option (Except Exc α × Pen)} {k k' : α → Pen → Hp → Hp → Prop} {W : XK}
theorem Post.step (P : Post m γ G H r k W) (s : Step γ G H G1 H1) : Post m γ G1 H1 r k W := by
  match r, P with
  | some (.ok a, st'), P => exact fun G' H' s' p => P G' H' (s.trans s') p
  | some (.error x, st'), P => exact fun cls dd G' H' s' p e => P cls dd G' H' (s.trans s') p e
theorem Post.imp (P : Post m γ G H r k W) (h : ∀ a st' G' H', Step γ G H G' H' → PenOk m γ st' G' H' → k a st' G' H' → k' a st' G' H') : Post m γ G H r k' W := by
  match r, P with
  | some (.ok a, st'), P => exact fun G' H' s' p => h a st' G' H' s' p (P G' H' s' p)
  | some (.error x, st'), P => exact P
theorem Post.bind {f : M α} {g : α → M β} {k : β → Pen → Hp → Hp → Prop} {st : Pen} (P : Post m γ G H (bindM f g st) k W) :
    Post m γ G H (f st) (fun a st1 G1 H1 => Post m γ G1 H1 (g a st1) k W) W := by
  unfold bindM at P
  cases e : f st with
  | none => rw [e] at P; exact P
  | some q =>
    obtain ⟨q, st1⟩ := q
    rw [e] at P
    cases q with
    | error x => exact P
    | ok a => exact fun G' H' s p => Post.step P s
/-- nothing more happens -/
theorem Post.now {a : α} {st : Pen} (P : Post m γ G H (some (.ok a, st)) k W) (s : Same G H) (t : γ.tok G H) (p : PenOk m γ st G H) : k a st G H := P G H (Step.refl s t) p
theorem Post.noErr {f : M α} {st : Pen} {W' : XK} (P : Post m γ G H (noErr f st) k W) : Post m γ G H (f st) k W' := by
  unfold DL.noErr at P
  cases e : f st with
  | none => rw [e] at P; exact P
  | some q =>
    obtain ⟨q, st1⟩ := q
    rw [e] at P
    cases q with
    | error x => exact False.elim P
    | ok a => exact P
end

/-! ### readings by data -/
abbrev EM := List Sl → M D
/-- an expression that computes f -/
def tD (m : Md) (W : WX) (f : EM) : TE := fun σ H Q => ∃ γ B0 B G env st, EnvOk m γ B0 B σ G H env st ∧ Post m γ G H (f env st) (fun d _ G' H' => ∀ v, Rep m G' v d → Q v H') fun c d H' => W c d σ H'
def tT (m : Md) (W : WX) (f : List Sl → M Bool) : TT := fun σ H Q => ∃ γ B0 B G env st, EnvOk m γ B0 B σ G H env st ∧ Post m γ G H (f env st) (fun b _ _ H' => Q b H') fun c d H' => W c d σ H'
/-- arguments -/
def ArgOk (m : Md) (γ : Gh) (G : Hp) : Sl → V → Prop
  | .val d, v => Rep m G v d
  | .pen, v => ∃ p, γ.pa = some p ∧ v = .ref p
  | _, _ => False
inductive ArgsOk (m : Md) (γ : Gh) (G : Hp) : List Sl → List V → Prop
  | nil : ArgsOk m γ G [] []
  | cons {s : Sl} {ss : List Sl} {v : V} {vs : List V} : ArgOk m γ G s v → ArgsOk m γ G ss vs → ArgsOk m γ G (s :: ss) (v :: vs)
theorem ArgOk.same {m : Md} {γ : Gh} {G G' : Hp} (e : Same G G') : ∀ {s : Sl} {v : V}, ArgOk m γ G s v → ArgOk m γ G' s v
  | .val _, _, h => Rep.same e h
  | .pen, _, h => h
  | .no, _, h => h
  | .own _, _, h => h
theorem ArgsOk.same {m : Md} {γ : Gh} {G G' : Hp} (e : Same G G') : ∀ {s : List Sl} {v : List V}, ArgsOk m γ G s v → ArgsOk m γ G' s v
  | _, _, .nil => .nil
  | _, _, .cons h r => .cons (h.same e) (ArgsOk.same e r)
theorem ArgsOk.length {m : Md} {γ : Gh} {G : Hp} : ∀ {s : List Sl} {v : List V}, ArgsOk m γ G s v → s.length = v.length
  | _, _, .nil => rfl
  | _, _, .cons _ r => by rw [List.length_cons, List.length_cons, r.length]
abbrev AM := List Sl → M (List Sl)
def tA (m : Md) (W : WX) (f : AM) : TA := fun σ H Q => ∃ γ B0 B G env st, EnvOk m γ B0 B σ G H env st ∧ Post m γ G H (f env st) (fun as _ G' H' => ∀ vs, ArgsOk m γ G' as vs → Q vs H') fun c d H' => W c d σ H'
/-- plain arguments, by their data -/
def tL (m : Md) (W : WX) (f : List Sl → M (List D)) : TA := fun σ H Q => ∃ γ B0 B G env st, EnvOk m γ B0 B σ G H env st ∧ Post m γ G H (f env st) (fun ds _ G' H' => ∀ vs, RepL m G' vs ds → Q vs H') fun c d H' => W c d σ H'
/-- statements -/
inductive Fl where
  | nx
  | ret (d : D)
  | bk
  | ct
abbrev SR := Option (Except Exc Fl × List Sl × Pen)
abbrev SM := List Sl → Pen → SR
def PostS (m : Md) (γ : Gh) (B0 B : Hp) (r : SR) (D : Ends) (W : WX) : Prop := match r with
  | none => False
  | some (fl, env', st') => ∀ σ' G' H', EnvOk m γ B0 B σ' G' H' env' st' → match fl with
    | .ok .nx => D.nx σ' H'
    | .ok .bk => D.bk σ' H'
    | .ok .ct => D.ct σ' H'
    | .ok (.ret d) => ∀ v, Rep m G' v d → D.rt v H'
    | .error x => ∀ cls dd, ExcIs m G' H' x cls dd → W cls dd σ' H'
def tS (m : Md) (W : WX) (f : SM) : TS := fun D σ H => ∃ γ B0 B G env st, EnvOk m γ B0 B σ G H env st ∧ PostS m γ B0 B (f env st) D W
/-- a def's promise -/
def spF (m : Md) (f : List Sl → M D) : Sp := fun vs H Q E => ∃ γ G as st, Same G H ∧ γ.tok G H ∧ PenOk m γ st G H ∧ ArgsOk m γ G as vs ∧ Post m γ G H (f as st) (fun d _ G' H' => ∀ v, Rep m G' v d → Q v H') E
def runF (n : Nat) (body : SM) : List Sl → M D := fun as st => match body (as ++ List.replicate (n - as.length) .no) st with
  | some (.ok (.ret d), _, st') => some (.ok d, st')
  | some (.ok .nx, _, st') => some (.ok .non, st')
  | some (.error x, _, st') => some (.error x, st')
  | _ => none

/-! ### weaker readings -/
section
variable {X : Cx}
theorem PE.imp {e : Expr} {t t' : TE} (h : PE X e t) (w : ∀ σ H Q, t' σ H Q → t σ H Q) : PE X e t' := ⟨fun pins s σ H Q I q => h.run pins s σ H Q I (w _ _ _ q)⟩
theorem PT.imp {e : Expr} {t t' : TT} (h : PT X e t) (w : ∀ σ H Q, t' σ H Q → t σ H Q) : PT X e t' := ⟨fun pins s σ H Q I q => h.run pins s σ H Q I (w _ _ _ q)⟩
theorem PW.imp {e : Expr} {t t' : TT} (h : PW X e t) (w : ∀ σ H Q, t' σ H Q → t σ H Q) : PW X e t' := ⟨fun wh pins s σ H Q I q => h.run wh pins s σ H Q I (w _ _ _ q)⟩
theorem PA.imp {es : List Expr} {t t' : TA} (h : PA X es t) (w : ∀ σ H Q, t' σ H Q → t σ H Q) : PA X es t' := ⟨fun pos pins s σ H Q I q => h.run pos pins s σ H Q I (w _ _ _ q)⟩
theorem PS.imp {st : Stmt} {t t' : TS} (h : PS X st t) (w : ∀ D σ H, t' D σ H → t D σ H) : PS X st t' := ⟨fun pins s σ H D I q => h.run pins s σ H D I (w _ _ _ q)⟩
theorem PSs.imp {st : List Stmt} {t t' : TS} (h : PSs X st t) (w : ∀ D σ H, t' D σ H → t D σ H) : PSs X st t' := ⟨fun pins s σ H D I q => h.run pins s σ H D I (w _ _ _ q)⟩
end
end DL
set_option Elab.async false
set_option linter.all false
set_option maxRecDepth 100000
/-! Dl2: rules by data: expressions. -/
namespace DL
open PySem PySem.Spec PyProof.Rows L2

/-! ### new objects -/
section
variable {m : Md} {γ : Gh} {st : Pen} {G H : Hp} {p : Addr} {o : HO}
theorem Step.alloc (s : Same G H) (t : γ.tok G H) (q : PenOk m γ st G H) (hp : H p = none) : Step γ G H (upd G p o) (upd H p o) := by
  have gp : G p = none := s.free hp
  have gg : Same G (upd G p o) := fun b u e => by rw [upd_ne (ne_of_none e gp)]; exact e
  refine ⟨gg, fun b u e => ?_, fun b h1 h2 => ?_, fun b u _ e => ?_, fun b h => ?_, γ.stable G H _ _ t gg (fun b hb => ?_) fun b u e _ => by rw [upd_ne (ne_of_none e hp)]; exact e⟩
  · by_cases hb : b = p
    · subst hb; rw [upd_same] at e ⊢; exact e
    · rw [upd_ne hb] at e ⊢; exact s b u e
  · have hb : b ≠ p := fun z => h1 (z ▸ hp)
    rw [upd_ne hb]; exact h2
  · rw [upd_ne (ne_of_none e hp)]; exact e
  · have hb : b ≠ p := fun z => h (z ▸ hp)
    rw [upd_ne hb]; exact h
  · exact upd_ne fun z => (q.live b hb).1 (z ▸ hp)
/-- laid, not frozen -/
theorem Step.lay (s : Same G H) (t : γ.tok G H) (q : PenOk m γ st G H) (hp : H p = none) : Step γ G H G (upd H p o) := by
  refine ⟨Same.refl G, fun b u e => ?_, fun b h1 h2 => h2, fun b u _ e => ?_, fun b h => ?_, γ.stable G H _ _ t (Same.refl G) (fun b hb => ?_) fun b u e _ => by rw [upd_ne (ne_of_none e hp)]; exact e⟩
  · rw [upd_ne (ne_of_none (s _ _ e) hp)]; exact s _ _ e
  · rw [upd_ne (ne_of_none e hp)]; exact e
  · have hb : b ≠ p := fun z => h (z ▸ hp)
    rw [upd_ne hb]; exact h
  · exact upd_ne fun z => (q.live b hb).1 (z ▸ hp)
theorem PenOk.alloc (q : PenOk m γ st G H) (s : Same G H) (t : γ.tok G H) (hp : H p = none) : PenOk m γ st (upd G p o) (upd H p o) := by
  refine q.step (Step.alloc s t q hp) fun b hb => ?_
  obtain ⟨_, q, h, _⟩ := q.pen b hb
  exact upd_ne (ne_of_none h hp)
theorem PenOk.lay (q : PenOk m γ st G H) (s : Same G H) (t : γ.tok G H) (hp : H p = none) : PenOk m γ st G (upd H p o) := by
  refine q.step (Step.lay s t q hp) fun b hb => ?_
  obtain ⟨_, q, h, _⟩ := q.pen b hb
  exact upd_ne (ne_of_none h hp)
/-- a tracked object is frozen -/
theorem Step.freeze {B0 B : Hp} (s : Step γ B0 B G H) (hp : H p = some o) (bp : B p = none) (gp : G p = none) : Step γ B0 B (upd G p o) H := by
  have gu : Same G (upd G p o) := fun b u e => by rw [upd_ne (ne_of_none e gp)]; exact e
  refine ⟨s.gg.trans gu, fun b u e => ?_, fun b h1 h2 => ?_, s.keep, s.live, γ.stable G H _ _ s.tok gu (fun _ _ => rfl) fun _ _ e _ => e⟩
  · by_cases hb : b = p
    · subst hb; rw [upd_same] at e; rw [hp]; exact e
    · rw [upd_ne hb] at e; exact s.sub _ _ e
  · have hb : b ≠ p := fun z => h1 (z ▸ bp)
    rw [upd_ne hb]; exact s.new b h1 h2
theorem PenOk.freeze (q : PenOk m γ st G H) (hp : H p = some o) (ap : γ.away p) (gp : G p = none) : PenOk m γ st (upd G p o) H := by
  refine ⟨fun b hb => ?_, fun b hb => ?_, q.gh⟩
  · obtain ⟨h1, r, h2, h3⟩ := q.pen b hb
    have hbp : b ≠ p := fun z => ap.1 (z ▸ hb)
    refine ⟨by rw [upd_ne hbp]; exact h1, r, h2, ?_⟩
    rw [upd_ne (ne_of_none h3 gp)]; exact h3
  · have hbp : b ≠ p := fun z => ap.2 (z ▸ hb)
    rw [upd_ne hbp]; exact q.live b hb
theorem PenOk.away (q : PenOk m γ st G H) (hp : H p = none) : γ.away p := by
  refine ⟨fun z => ?_, fun z => (q.live p z).1 hp⟩
  obtain ⟨_, r, h, _⟩ := q.pen p z
  rw [hp] at h; cases h
end

/-! ### names, constants -/
def eVar (i : Nat) : EM := fun env => match env[i]? with
  | some (.val d) => pureM d
  | _ => failM
def eC (d : D) : EM := fun _ => pureM d
section
variable {X : Cx} {m : Md} {W : WX} {e : Expr}
theorem de_var0 {i : Nat} (h : PE X e (tVar i)) : PE X e (tD m W (eVar i)) := by
  refine PE.imp h fun σ H Q ⟨γ, B0, B, G, env, st, E, P⟩ => ?_
  unfold eVar at P
  cases q : env[i]? with
  | none => rw [q] at P; exact False.elim P
  | some s =>
    rw [q] at P
    cases s with
    | val d =>
      obtain ⟨v, h1, r⟩ := E.val q
      exact ⟨v, h1, (P.now E.sub E.tok E.pen) v r⟩
    | no => exact False.elim P
    | pen => exact False.elim P
    | own l => exact False.elim P
theorem de_c0 {v : V} {d : D} (h : PE X e (tC v)) (r : ∀ G, Rep m G v d) : PE X e (tD m W (eC d)) := by
  refine PE.imp h fun σ H Q ⟨γ, B0, B, G, env, st, E, P⟩ => ?_
  exact (P.now E.sub E.tok E.pen) v (r G)
theorem dv (i : Nat) {x : Str} {pos : Pos} (hN : X.N[i]? = some x := by rfl) (hv : Vis X.env.scope x := by first | exact Or.inl rfl | exact Or.inr (Or.inl rfl) | exact Or.inr (Or.inr rfl)) (hd : (x == ("__debug__" : Str)) = false := by decide)
    (hcd : (x == ("__classdict__" : Str)) = false := by decide) : PE X (.Name x pos) (tD m W (eVar i)) := de_var0 (pe_var hN hv hd hcd)
theorem de_int {i j pos} : PE X (.Constant (.int i) j pos) (tD m W (eC (.int i))) := de_c0 pe_int fun _ => .int i
theorem de_bl {b j pos} : PE X (.Constant (.bool b) j pos) (tD m W (eC (.bl b))) := de_c0 pe_bl fun _ => .bl b
theorem de_non {j pos} : PE X (.Constant .none j pos) (tD m W (eC .non)) := de_c0 pe_non fun _ => .non
theorem de_str {x j pos} : PE X (.Constant (.str x) j pos) (tD m W (eC (.str x))) := de_c0 pe_str fun _ => .str x
/-- a constant of the module -/
theorem de_glob {x : Str} {v : V} {d : D} {u : Value} {pos : Pos} (hg : Gl X x) (hm : X.mg x = some u) (r : RelV v u) (rd : ∀ G, Rep m G v d) (hd : (x == ("__debug__" : Str)) = false := by decide) : PE X (.Name x pos) (tD m W (eC d)) :=
  de_c0 (pe_glob hg hm r hd) rd
end

/-! ### operations by data -/
abbrev KD (m : Md) (Q : VK) : D → Pen → Hp → Hp → Prop := fun d _ G' H' => ∀ v, Rep m G' v d → Q v H'
/-- a two-place operation -/
def OpD (X : Cx) (m : Md) (f : Value → Value → Sem Value) (F : D → D → M D) : Prop := ∃ r : R2, OpR X f r ∧
  ∀ (γ : Gh) (st : Pen) (G H : Hp) (v w : V) (d e : D) (Q : VK) (W : XK), Same G H → γ.tok G H → PenOk m γ st G H → Rep m G v d → Rep m G w e → Post m γ G H (F d e st) (KD m Q) W → r v w H Q
def UnD (X : Cx) (m : Md) (f : Value → Sem Value) (F : D → M D) : Prop := ∃ r : V → Hp → VK → Prop, UnR X f r ∧
  ∀ (γ : Gh) (st : Pen) (G H : Hp) (v : V) (d : D) (Q : VK) (W : XK), Same G H → γ.tok G H → PenOk m γ st G H → Rep m G v d → Post m γ G H (F d st) (KD m Q) W → r v H Q
def CallD (X : Cx) (m : Md) (f : Value) (F : List D → M D) : Prop := ∃ r : List V → Hp → VK → Prop, CallR X f r ∧
  ∀ (γ : Gh) (st : Pen) (G H : Hp) (vs : List V) (ds : List D) (Q : VK) (W : XK), Same G H → γ.tok G H → PenOk m γ st G H → RepL m G vs ds → Post m γ G H (F ds st) (KD m Q) W → r vs H Q
def IxD (X : Cx) (m : Md) (F : D → D → M D) : Prop := ∃ r : R2, IxR X r ∧
  ∀ (γ : Gh) (st : Pen) (G H : Hp) (v w : V) (d e : D) (Q : VK) (W : XK), Same G H → γ.tok G H → PenOk m γ st G H → Rep m G v d → Rep m G w e → Post m γ G H (F d e st) (KD m Q) W → r v w H Q
def e2 (F : D → D → M D) (f g : EM) : EM := fun env => bindM (f env) fun x => bindM (g env) fun y => F x y
def e1 (F : D → M D) (f : EM) : EM := fun env => bindM (f env) F
section
variable {X : Cx} {m : Md} {W : WX} {a b e : Expr} {es : List Expr} {f g : EM} {pos : Pos}
theorem de2 {r : R2} {F : D → D → M D} {e : Expr} (h : PE X e (tOp r (tD m W f) (tD m W g)))
    (hr : ∀ (γ : Gh) (st : Pen) (G H : Hp) (v w : V) (d e : D) (Q : VK) (W : XK), Same G H → γ.tok G H → PenOk m γ st G H → Rep m G v d → Rep m G w e → Post m γ G H (F d e st) (KD m Q) W → r v w H Q) : PE X e (tD m W (e2 F f g)) := by
  refine PE.imp h fun σ H Q ⟨γ, B0, B, G, env, st, E, P⟩ => ?_
  refine ⟨γ, B0, B, G, env, st, E, P.bind.imp fun d st1 G1 H1 s1 p1 P1 v rv => ?_⟩
  refine ⟨γ, B0, B, G1, env, st1, E.step s1 p1, P1.bind.imp fun d2 st2 G2 H2 s2 p2 P2 w rw => ?_⟩
  exact hr γ st2 G2 H2 v w d d2 Q _ s2.sub s2.tok p2 (rv.same s2.gg) rw P2
theorem de1 {r : V → Hp → VK → Prop} {F : D → M D} {e : Expr} (h : PE X e (tUn r (tD m W f)))
    (hr : ∀ (γ : Gh) (st : Pen) (G H : Hp) (v : V) (d : D) (Q : VK) (W : XK), Same G H → γ.tok G H → PenOk m γ st G H → Rep m G v d → Post m γ G H (F d st) (KD m Q) W → r v H Q) : PE X e (tD m W (e1 F f)) := by
  refine PE.imp h fun σ H Q ⟨γ, B0, B, G, env, st, E, P⟩ => ?_
  exact ⟨γ, B0, B, G, env, st, E, P.bind.imp fun d st1 G1 H1 s1 p1 P1 v rv => hr γ st1 G1 H1 v d Q _ s1.sub s1.tok p1 rv P1⟩
theorem de_bin {op : Operator} {F : D → D → M D} (ho : OpD X m (binaryOp op) F) (ha : PE X a (tD m W f)) (hb : PE X b (tD m W g)) : PE X (.BinOp a op b pos) (tD m W (e2 F f g)) := by
  obtain ⟨r, h1, h2⟩ := ho
  exact de2 (pe_op h1 ha hb) h2
theorem de_un {op : UnaryOp} {F : D → M D} (ho : UnD X m (unaryOp op) F) (ha : PE X a (tD m W f)) : PE X (.UnaryOp op a pos) (tD m W (e1 F f)) := by
  obtain ⟨r, h1, h2⟩ := ho
  exact de1 (pe_un h1 ha) h2
theorem de_cmp {op : CmpOp} {F : D → D → M D} (ho : OpD X m (compareOp op) F) (ha : PE X a (tD m W f)) (hb : PE X b (tD m W g)) (hm : behindInMarks op b = false) : PE X (.Compare a [op] [b] pos) (tD m W (e2 F f g)) := by
  obtain ⟨r, h1, h2⟩ := ho
  exact de2 (pe_cmpR h1 ha hb hm) h2
theorem de_ix {F : D → D → M D} (ho : IxD X m F) (ha : PE X a (tD m W f)) (hb : PE X b (tD m W g)) (hs : PlainIx b) : PE X (.Subscript a b pos) (tD m W (e2 F f g)) := by
  obtain ⟨r, h1, h2⟩ := ho
  exact de2 (pe_ix h1 ha hb hs) h2
/-- a value that is True or False -/
def asB : D → M Bool
  | .bl b => pureM b
  | _ => failM
def eB (f : EM) : List Sl → M Bool := fun env => bindM (f env) asB
theorem asB_post {γ : Gh} {G H : Hp} {d : D} {st : Pen} {k : Bool → Pen → Hp → Hp → Prop} {W : XK} (P : Post m γ G H (asB d st) k W) : ∃ b, d = .bl b ∧ Post m γ G H (some (.ok b, st)) k W := by
  cases d with
  | bl b => exact ⟨b, rfl, P⟩
  | non => exact False.elim P
  | int _ => exact False.elim P
  | str _ => exact False.elim P
  | lst _ => exact False.elim P
  | tup _ => exact False.elim P
  | dct _ => exact False.elim P
  | ins _ _ => exact False.elim P
  | exc _ _ => exact False.elim P
  | ref _ => exact False.elim P
theorem dt_of {e : Expr} {t : TE} (h : PT X e (tTest t)) (w : ∀ σ H Q, tD m W f σ H Q → t σ H Q) : PT X e (tT m W (eB f)) := by
  refine PT.imp h fun σ H Q ⟨γ, B0, B, G, env, st, E, P⟩ => ?_
  refine w _ _ _ ⟨γ, B0, B, G, env, st, E, P.bind.imp fun d st1 G1 H1 s1 p1 P1 v rv => ?_⟩
  obtain ⟨b, rfl, P2⟩ := asB_post P1
  exact ⟨b, rv.bl_inv, P2.now s1.sub s1.tok p1⟩
theorem dt_cmp {op : CmpOp} {F : D → D → M D} (ho : OpD X m (compareOp op) F) (ha : PE X a (tD m W f)) (hb : PE X b (tD m W g)) (hm : behindInMarks op b = false) : PT X (.Compare a [op] [b] pos) (tT m W (eB (e2 F f g))) := by
  obtain ⟨r, h1, h2⟩ := ho
  refine dt_of (pt_cmpR h1 ha hb hm) fun σ H Q ⟨γ, B0, B, G, env, st, E, P⟩ => ?_
  refine ⟨γ, B0, B, G, env, st, E, P.bind.imp fun d st1 G1 H1 s1 p1 P1 v rv => ?_⟩
  refine ⟨γ, B0, B, G1, env, st1, E.step s1 p1, P1.bind.imp fun d2 st2 G2 H2 s2 p2 P2 w rw => ?_⟩
  exact h2 γ st2 G2 H2 v w d d2 Q _ s2.sub s2.tok p2 (rv.same s2.gg) rw P2
theorem dt_val (ha : PE X a (tD m W f)) (he : ∀ whole, isTrue a X.env whole = (do let v ← whole; standAt a.pos; holding [v] (truthy v)) := by intro _; rfl) : PT X a (tT m W (eB f)) := by
  refine PT.imp (pt_val ha he) fun σ H Q ⟨γ, B0, B, G, env, st, E, P⟩ => ?_
  refine ⟨γ, B0, B, G, env, st, E, P.bind.imp fun d st1 G1 H1 s1 p1 P1 v rv => ?_⟩
  obtain ⟨b, rfl, P2⟩ := asB_post P1
  exact ⟨b, rv.bl_inv, P2.now s1.sub s1.tok p1⟩

/-! ### and, or, not -/
variable {c : Expr} {rest : List Expr} {fa fb : List Sl → M Bool}
def bAnd (f g : List Sl → M Bool) : List Sl → M Bool := fun env => bindM (f env) fun b => if b = true then g env else pureM false
def bOr (f g : List Sl → M Bool) : List Sl → M Bool := fun env => bindM (f env) fun b => if b = true then pureM true else g env
def bNot (f : List Sl → M Bool) : List Sl → M Bool := fun env => bindM (f env) fun b => pureM (!b)
theorem dw_and1 (ha : PT X a (tT m W fa)) : PW X (.BoolOp .And [a] pos) (tT m W fa) := pw_and1 ha
theorem dw_or1 (ha : PT X a (tT m W fa)) : PW X (.BoolOp .Or [a] pos) (tT m W fa) := pw_or1 ha
theorem dw_and (ha : PT X a (tT m W fa)) (hb : PW X (.BoolOp .And (b :: rest) pos) (tT m W fb)) : PW X (.BoolOp .And (a :: b :: rest) pos) (tT m W (bAnd fa fb)) := by
  refine PW.imp (pw_and ha hb) fun σ H Q ⟨γ, B0, B, G, env, st, E, P⟩ => ?_
  refine ⟨γ, B0, B, G, env, st, E, P.bind.imp fun k st1 G1 H1 s1 p1 P1 => ?_⟩
  cases k with
  | true => exact iteT ⟨γ, B0, B, G1, env, st1, E.step s1 p1, P1⟩
  | false => exact iteF (P1.now s1.sub s1.tok p1)
theorem dw_or (ha : PT X a (tT m W fa)) (hb : PW X (.BoolOp .Or (b :: rest) pos) (tT m W fb)) : PW X (.BoolOp .Or (a :: b :: rest) pos) (tT m W (bOr fa fb)) := by
  refine PW.imp (pw_or ha hb) fun σ H Q ⟨γ, B0, B, G, env, st, E, P⟩ => ?_
  refine ⟨γ, B0, B, G, env, st, E, P.bind.imp fun k st1 G1 H1 s1 p1 P1 => ?_⟩
  cases k with
  | true => exact iteT (P1.now s1.sub s1.tok p1)
  | false => exact iteF ⟨γ, B0, B, G1, env, st1, E.step s1 p1, P1⟩
theorem dt_not (ha : PT X a (tT m W fa)) : PT X (.UnaryOp .Not a pos) (tT m W (bNot fa)) := by
  refine PT.imp (pt_not ha) fun σ H Q ⟨γ, B0, B, G, env, st, E, P⟩ => ?_
  exact ⟨γ, B0, B, G, env, st, E, P.bind.imp fun k st1 G1 H1 s1 p1 P1 => P1.now s1.sub s1.tok p1⟩
/-- as values: all but the last are truths -/
def eAnd (f g : EM) : EM := fun env => bindM (f env) fun d => bindM (asB d) fun b => if b = true then g env else pureM (.bl false)
def eOr (f g : EM) : EM := fun env => bindM (f env) fun d => bindM (asB d) fun b => if b = true then pureM (.bl true) else g env
def eNot (f : EM) : EM := fun env => bindM (f env) fun d => bindM (asB d) fun b => pureM (.bl (!b))
theorem de_one {op} (h : PE X a (tD m W f)) : PE X (.BoolOp op [a] pos) (tD m W f) := pe_one h
theorem asB_bind {γ : Gh} {G H : Hp} {d : D} {st : Pen} {h : Bool → M D} {k : D → Pen → Hp → Hp → Prop} {W : XK} (P : Post m γ G H (bindM (asB d) h st) k W) : ∃ b, d = .bl b ∧ Post m γ G H (h b st) k W := by
  cases d with
  | bl b => exact ⟨b, rfl, P⟩
  | non => exact False.elim P
  | int _ => exact False.elim P
  | str _ => exact False.elim P
  | lst _ => exact False.elim P
  | tup _ => exact False.elim P
  | dct _ => exact False.elim P
  | ins _ _ => exact False.elim P
  | exc _ _ => exact False.elim P
  | ref _ => exact False.elim P
theorem de_and (ha : PE X a (tD m W f)) (hb : PE X (.BoolOp .And (b :: rest) pos) (tD m W g)) : PE X (.BoolOp .And (a :: b :: rest) pos) (tD m W (eAnd f g)) := by
  refine PE.imp (pe_and ha hb) fun σ H Q ⟨γ, B0, B, G, env, st, E, P⟩ => ?_
  refine ⟨γ, B0, B, G, env, st, E, P.bind.imp fun d st1 G1 H1 s1 p1 P1 v rv => ?_⟩
  obtain ⟨k, rfl, P2⟩ := asB_bind P1
  refine ⟨k, rv.bl_inv, ?_⟩
  cases k with
  | true => exact iteT ⟨γ, B0, B, G1, env, st1, E.step s1 p1, P2⟩
  | false => exact iteF (P2.now s1.sub s1.tok p1 _ (.bl false))
theorem de_or (ha : PE X a (tD m W f)) (hb : PE X (.BoolOp .Or (b :: rest) pos) (tD m W g)) : PE X (.BoolOp .Or (a :: b :: rest) pos) (tD m W (eOr f g)) := by
  refine PE.imp (pe_or ha hb) fun σ H Q ⟨γ, B0, B, G, env, st, E, P⟩ => ?_
  refine ⟨γ, B0, B, G, env, st, E, P.bind.imp fun d st1 G1 H1 s1 p1 P1 v rv => ?_⟩
  obtain ⟨k, rfl, P2⟩ := asB_bind P1
  refine ⟨k, rv.bl_inv, ?_⟩
  cases k with
  | true => exact iteT (P2.now s1.sub s1.tok p1 _ (.bl true))
  | false => exact iteF ⟨γ, B0, B, G1, env, st1, E.step s1 p1, P2⟩
theorem de_not (ha : PE X a (tD m W f)) : PE X (.UnaryOp .Not a pos) (tD m W (eNot f)) := by
  refine PE.imp (pe_not ha) fun σ H Q ⟨γ, B0, B, G, env, st, E, P⟩ => ?_
  refine ⟨γ, B0, B, G, env, st, E, P.bind.imp fun d st1 G1 H1 s1 p1 P1 v rv => ?_⟩
  obtain ⟨k, rfl, P2⟩ := asB_bind P1
  exact ⟨k, rv.bl_inv, P2.now s1.sub s1.tok p1 _ (.bl _)⟩
def eIf (c : List Sl → M Bool) (f g : EM) : EM := fun env => bindM (c env) fun b => if b = true then f env else g env
theorem de_if (hc : PT X c (tT m W fa)) (ha : PE X a (tD m W f)) (hb : PE X b (tD m W g)) : PE X (.IfExp c a b pos) (tD m W (eIf fa f g)) := by
  refine PE.imp (pe_ifExp hc ha hb) fun σ H Q ⟨γ, B0, B, G, env, st, E, P⟩ => ?_
  refine ⟨γ, B0, B, G, env, st, E, P.bind.imp fun k st1 G1 H1 s1 p1 P1 => ?_⟩
  cases k with
  | true => exact iteT ⟨γ, B0, B, G1, env, st1, E.step s1 p1, P1⟩
  | false => exact iteF ⟨γ, B0, B, G1, env, st1, E.step s1 p1, P1⟩

/-! ### arguments, displays -/
abbrev LM := List Sl → M (List D)
def lNil : LM := fun _ => pureM []
def lCons (f : EM) (g : LM) : LM := fun env => bindM (f env) fun x => bindM (g env) fun xs => pureM (x :: xs)
theorem dl_nil : PA X [] (tL m W lNil) := by
  refine PA.imp pa_nil fun σ H Q ⟨γ, B0, B, G, env, st, E, P⟩ => ?_
  exact P.now E.sub E.tok E.pen [] .nil
theorem dl_cons {g : LM} (ha : PE X a (tD m W f)) (hr : PA X es (tL m W g)) (hs : starEach (a :: es) X.env = (false, eval a X.env) :: starEach es X.env := by rfl) : PA X (a :: es) (tL m W (lCons f g)) := by
  refine PA.imp (pa_cons ha hr hs) fun σ H Q ⟨γ, B0, B, G, env, st, E, P⟩ => ?_
  refine ⟨γ, B0, B, G, env, st, E, P.bind.imp fun d st1 G1 H1 s1 p1 P1 v rv => ?_⟩
  refine ⟨γ, B0, B, G1, env, st1, E.step s1 p1, P1.bind.imp fun ds st2 G2 H2 s2 p2 P2 vs rvs => ?_⟩
  exact P2.now s2.sub s2.tok p2 (v :: vs) (.cons (rv.same s2.gg) rvs)
def eTup (f : LM) : EM := fun env => bindM (f env) fun l => if l.length ≤ sizeLine then pureM (.tup l) else failM
def eLst (f : LM) : EM := fun env => bindM (f env) fun l => if l.length ≤ sizeLine then pureM (.lst l) else failM
theorem post_if {α : Type} {γ : Gh} {G H : Hp} {c : Prop} [Decidable c] {f : M α} {st : Pen} {k : α → Pen → Hp → Hp → Prop} {W : XK} (P : Post m γ G H ((if c then f else failM) st) k W) : c ∧ Post m γ G H (f st) k W := by
  by_cases h : c
  · rw [if_pos h] at P; exact ⟨h, P⟩
  · rw [if_neg h] at P; exact False.elim P
theorem de_tup {f : LM} {x1} (h : PA X es (tL m W f)) : PE X (.Tuple es x1 pos) (tD m W (eTup f)) := by
  refine PE.imp (pe_tup h) fun σ H Q ⟨γ, B0, B, G, env, st, E, P⟩ => ?_
  refine ⟨γ, B0, B, G, env, st, E, P.bind.imp fun ds st1 G1 H1 s1 p1 P1 vs rvs => ?_⟩
  obtain ⟨hl, P2⟩ := post_if P1
  refine ⟨by rw [rvs.length]; exact hl, fun p hp => ?_⟩
  exact P2 _ _ (Step.alloc s1.sub s1.tok p1 hp) (p1.alloc s1.sub s1.tok hp) _ (.tup (.of upd_same) (rvs.same (Step.alloc s1.sub s1.tok p1 hp (o := .tup vs)).gg))
theorem de_lst {f : LM} (h : PA X es (tL m W f)) : PE X (.List es pos) (tD m W (eLst f)) := by
  refine PE.imp (pe_lst h) fun σ H Q ⟨γ, B0, B, G, env, st, E, P⟩ => ?_
  refine ⟨γ, B0, B, G, env, st, E, P.bind.imp fun ds st1 G1 H1 s1 p1 P1 vs rvs => ?_⟩
  obtain ⟨hl, P2⟩ := post_if P1
  refine ⟨by rw [rvs.length]; exact hl, fun p hp => ?_⟩
  exact P2 _ _ (Step.alloc s1.sub s1.tok p1 hp) (p1.alloc s1.sub s1.tok hp) _ (.lst upd_same (rvs.same (Step.alloc s1.sub s1.tok p1 hp (o := .lst vs)).gg))
/-- (*a, b): the items of a, then the rest -/
def seqOf : D → M (List D)
  | .lst l => pureM l
  | .tup l => pureM l
  | _ => failM
def lStar (f : EM) (g : LM) : LM := fun env => bindM (f env) fun d => bindM (seqOf d) fun l => bindM (g env) fun xs => pureM (l ++ xs)
theorem seqOf_bind {α : Type} {γ : Gh} {G H : Hp} {d : D} {v : V} {st : Pen} {h : List D → M α} {k : α → Pen → Hp → Hp → Prop} {W : XK} (P : Post m γ G H (bindM (seqOf d) h st) k W) (r : Rep m G v d) :
    ∃ a vs l, v = .ref a ∧ (SqT m.K G a vs ∨ SqL m.K G a vs) ∧ RepL m G vs l ∧ Post m γ G H (h l st) k W := by
  cases d with
  | lst l =>
    obtain ⟨a, vs, rfl, h1, h2⟩ := r.lst_inv
    exact ⟨a, vs, l, rfl, .inr (.of h1), h2, P⟩
  | tup l =>
    obtain ⟨a, vs, rfl, h1, h2⟩ := r.tup_inv
    exact ⟨a, vs, l, rfl, .inl h1, h2, P⟩
  | non => exact False.elim P
  | bl _ => exact False.elim P
  | int _ => exact False.elim P
  | str _ => exact False.elim P
  | dct _ => exact False.elim P
  | ins _ _ => exact False.elim P
  | exc _ _ => exact False.elim P
  | ref _ => exact False.elim P
theorem SqTL.same {K : PySem.W.Frag} {H H' : Hp} {a : Addr} {xs : List V} (e : Same H H') (h : SqT K H a xs ∨ SqL K H a xs) : SqT K H' a xs ∨ SqL K H' a xs := h.imp (SqT.same e) (Same.seq e)
theorem dl_star {g : LM} {p : Pos} (ha : PE X a (tD m W f)) (hr : PA X es (tL m W g)) (hK : X.K = m.K := by rfl) (hs : starEach (.Starred a p :: es) X.env = (true, eval a X.env) :: starEach es X.env := by rfl) : PA X (.Starred a p :: es) (tL m W (lStar f g)) := by
  refine PA.imp (StX.pa_star ha hr hs) fun σ H Q ⟨γ, B0, B, G, env, st, E, P⟩ => ?_
  refine ⟨γ, B0, B, G, env, st, E, P.bind.imp fun d st1 G1 H1 s1 p1 P1 v rv => ?_⟩
  obtain ⟨q, vs, l, rfl, h1, h2, P2⟩ := seqOf_bind P1 rv
  refine ⟨q, vs, rfl, by rw [hK]; exact SqTL.same s1.sub h1, ?_⟩
  refine ⟨γ, B0, B, G1, env, st1, E.step s1 p1, P2.bind.imp fun ds st2 G2 H2 s2 p2 P3 ws rws => ?_⟩
  exact P3.now s2.sub s2.tok p2 (vs ++ ws) ((h2.same s2.gg).append rws)

/-! ### built-ins -/
def eL (F : List D → M D) (f : LM) : EM := fun env => bindM (f env) F
theorem de_callB {F : List D → M D} {f : LM} {x : Str} {p : Pos} {id : String} (hc : CallD X m (.builtin id) F) (hm : X.mg x = none) (hv : bootBuiltins x = some (.builtin id)) (ha : PA X (e :: es) (tL m W f)) (hg : Gl X x := by rfl) (hn : x ≠ "__name__" := by decide) (hdb : (x == ("__debug__" : Str)) = false := by decide)
    (he : starEach (e :: es) X.env = (false, eval e X.env) :: starEach es X.env := by rfl) (hpl : (backTo pos (starEach es X.env)).any (·.1) = false := by rfl) : PE X (.Call (.Name x p) (e :: es) [] pos) (tD m W (eL F f)) := by
  obtain ⟨r, h1, h2⟩ := hc
  refine PE.imp (pe_callB h1 hg hm hv ha hn hdb he hpl) fun σ H Q ⟨γ, B0, B, G, env, st, E, P⟩ => ?_
  exact ⟨γ, B0, B, G, env, st, E, P.bind.imp fun ds st1 G1 H1 s1 p1 P1 vs rvs => h2 γ st1 G1 H1 vs ds Q _ s1.sub s1.tok p1 rvs P1⟩
theorem de_callTy {F : List D → M D} {f : LM} {x : Str} {p : Pos} {T : String} (hc : CallD X m (.type T) F) (hm : X.mg x = none) (hv : bootBuiltins x = some (.type T)) (ha : PA X (e :: es) (tL m W f)) (hg : Gl X x := by rfl) (hn : x ≠ "__name__" := by decide) (hdb : (x == ("__debug__" : Str)) = false := by decide)
    (he : starEach (e :: es) X.env = (false, eval e X.env) :: starEach es X.env := by rfl) (hpl : (backTo pos (starEach es X.env)).any (·.1) = false := by rfl) : PE X (.Call (.Name x p) (e :: es) [] pos) (tD m W (eL F f)) := by
  obtain ⟨r, h1, h2⟩ := hc
  refine PE.imp (pe_callTy h1 hg hm hv ha hn hdb he hpl) fun σ H Q ⟨γ, B0, B, G, env, st, E, P⟩ => ?_
  exact ⟨γ, B0, B, G, env, st, E, P.bind.imp fun ds st1 G1 H1 s1 p1 P1 vs rvs => h2 γ st1 G1 H1 vs ds Q _ s1.sub s1.tok p1 rvs P1⟩
/-- a built-in function that the module holds under its name (gcd) -/
theorem de_callF {F : List D → M D} {f : LM} {x : Str} {p : Pos} {id : String} (hc : CallD X m (.builtin id) F) (hm : X.mg x = some (.builtin id)) (ha : PA X (e :: es) (tL m W f)) (hg : Gl X x := by rfl) (hdb : (x == ("__debug__" : Str)) = false := by decide)
    (he : starEach (e :: es) X.env = (false, eval e X.env) :: starEach es X.env := by rfl) (hpl : (backTo pos (starEach es X.env)).any (·.1) = false := by rfl) : PE X (.Call (.Name x p) (e :: es) [] pos) (tD m W (eL F f)) := by
  obtain ⟨r, h1, h2⟩ := hc
  refine PE.imp (pe_callBfun h1 hg hm ha hdb he hpl) fun σ H Q ⟨γ, B0, B, G, env, st, E, P⟩ => ?_
  exact ⟨γ, B0, B, G, env, st, E, P.bind.imp fun ds st1 G1 H1 s1 p1 P1 vs rvs => h2 γ st1 G1 H1 vs ds Q _ s1.sub s1.tok p1 rvs P1⟩
end

/-! ### own defs -/
section
variable {X : Cx} {m : Md} {W : WX} {a e : Expr} {es : List Expr} {f : EM} {pos : Pos}
def aNil : AM := fun _ => pureM []
def aVal (f : EM) (g : AM) : AM := fun env => bindM (f env) fun x => bindM (g env) fun xs => pureM (.val x :: xs)
def aPen (i : Nat) (g : AM) : AM := fun env => match env[i]? with
  | some .pen => bindM (g env) fun xs => pureM (.pen :: xs)
  | _ => failM
theorem da_nil : PA X [] (tA m W aNil) := by
  refine PA.imp pa_nil fun σ H Q ⟨γ, B0, B, G, env, st, E, P⟩ => ?_
  exact P.now E.sub E.tok E.pen [] .nil
theorem da_val {g : AM} (ha : PE X a (tD m W f)) (hr : PA X es (tA m W g)) (hs : starEach (a :: es) X.env = (false, eval a X.env) :: starEach es X.env := by rfl) : PA X (a :: es) (tA m W (aVal f g)) := by
  refine PA.imp (pa_cons ha hr hs) fun σ H Q ⟨γ, B0, B, G, env, st, E, P⟩ => ?_
  refine ⟨γ, B0, B, G, env, st, E, P.bind.imp fun d st1 G1 H1 s1 p1 P1 v rv => ?_⟩
  refine ⟨γ, B0, B, G1, env, st1, E.step s1 p1, P1.bind.imp fun ds st2 G2 H2 s2 p2 P2 vs rvs => ?_⟩
  exact P2.now s2.sub s2.tok p2 (v :: vs) (.cons (show ArgOk m γ G2 (.val d) v from rv.same s2.gg) rvs)
theorem da_pen0 {i : Nat} {g : AM} (ha : PE X a (tVar i)) (hr : PA X es (tA m W g)) (hs : starEach (a :: es) X.env = (false, eval a X.env) :: starEach es X.env := by rfl) : PA X (a :: es) (tA m W (aPen i g)) := by
  refine PA.imp (pa_cons ha hr hs) fun σ H Q ⟨γ, B0, B, G, env, st, E, P⟩ => ?_
  unfold aPen at P
  cases q : env[i]? with
  | none => rw [q] at P; exact False.elim P
  | some s =>
    rw [q] at P
    cases s with
    | val d => exact False.elim P
    | no => exact False.elim P
    | own l => exact False.elim P
    | pen =>
      obtain ⟨x, h1, p, hp, rfl⟩ := E.get q
      refine ⟨_, h1, ?_⟩
      refine ⟨γ, B0, B, G, env, st, E, P.bind.imp fun ds st2 G2 H2 s2 p2 P2 vs rvs => ?_⟩
      exact P2.now s2.sub s2.tok p2 (.ref p :: vs) (.cons (show ArgOk m γ G2 .pen (.ref p) from ⟨p, hp, rfl⟩) rvs)
theorem da_pen (i : Nat) {g : AM} {x : Str} {p : Pos} (hr : PA X es (tA m W g)) (hN : X.N[i]? = some x := by rfl) (hv : Vis X.env.scope x := by first | exact Or.inl rfl | exact Or.inr (Or.inl rfl) | exact Or.inr (Or.inr rfl)) (hd : (x == ("__debug__" : Str)) = false := by decide)
    (hcd : (x == ("__classdict__" : Str)) = false := by decide) (hs : starEach (.Name x p :: es) X.env = (false, eval (.Name x p) X.env) :: starEach es X.env := by rfl) : PA X (.Name x p :: es) (tA m W (aPen i g)) := da_pen0 (pe_var hN hv hd hcd) hr hs
def eCall (F : List Sl → M D) (f : AM) : EM := fun env => bindM (f env) F
theorem ArgsOk.append {γ : Gh} {G : Hp} : ∀ {s t : List Sl} {v w : List V}, ArgsOk m γ G s v → ArgsOk m γ G t w → ArgsOk m γ G (s ++ t) (v ++ w)
  | _, _, _, _, .nil, h => h
  | _, _, _, _, .cons h r, h' => .cons h (ArgsOk.append r h')
theorem ArgsOk.ofRepL {γ : Gh} {G : Hp} : ∀ {ds : List D} {vs : List V}, RepL m G vs ds → ArgsOk m γ G (ds.map .val) vs
  | _, _, .nil => .nil
  | _, _, .cons h r => .cons h (ArgsOk.ofRepL r)
/-- f(..), with defaults dvs that stand for dds -/
theorem de_call {F : List Sl → M D} {f : AM} {x : Str} {p : Pos} {k : Nat} {fa : Addr} {fd : FuncData} {ps : List Str} {dvs : List V} {dds : List D} {ds : List Value} {CX : CXT} (O : FnOk X.prog X.w X.K X.mg X.base CX k fa fd ps (spF m F)) (hr : Room k X.A) (hm : X.mg x = some (.ref fa)) (hk : PySem.W.keepIn X.K (.ref fa) = true) (hb : Binds X.K fd ps ds) (hd : Vals dvs ds) (hdd : ∀ G, RepL m G dvs dds)
    (hx : ∀ σ, PassesAt CX X σ (fun c d H => W c d σ H)) (ha : PA X (e :: es) (tA m W f)) (hg : Gl X x := by rfl) (hdb : (x == ("__debug__" : Str)) = false := by decide) (he : starEach (e :: es) X.env = (false, eval e X.env) :: starEach es X.env := by rfl) (hpl : (backTo pos (starEach es X.env)).any (·.1) = false := by rfl) :
    PE X (.Call (.Name x p) (e :: es) [] pos) (tD m W (eCall (fun as => F (as ++ dds.map .val)) f)) := by
  refine PE.imp (pe_callSD (E := fun σ c d H => W c d σ H) O hr hg hm hk hb hd hx ha hdb he hpl) fun σ H Q ⟨γ, B0, B, G, env, st, E, P⟩ => ?_
  refine ⟨γ, B0, B, G, env, st, E, P.bind.imp fun as st1 G1 H1 s1 p1 P1 vs rvs => ?_⟩
  exact ⟨γ, G1, as ++ dds.map .val, st1, s1.sub, s1.tok, p1, rvs.append (ArgsOk.ofRepL (hdd G1)), P1⟩
/-- .. every parameter given -/
theorem de_call' {F : List Sl → M D} {f : AM} {x : Str} {p : Pos} {k : Nat} {fa : Addr} {fd : FuncData} {ps : List Str} {CX : CXT} (O : FnOk X.prog X.w X.K X.mg X.base CX k fa fd ps (spF m F)) (hr : Room k X.A) (hm : X.mg x = some (.ref fa)) (hk : PySem.W.keepIn X.K (.ref fa) = true) (hb : Binds X.K fd ps [])
    (hx : ∀ σ, PassesAt CX X σ (fun c d H => W c d σ H)) (ha : PA X (e :: es) (tA m W f)) (hg : Gl X x := by rfl) (hdb : (x == ("__debug__" : Str)) = false := by decide) (he : starEach (e :: es) X.env = (false, eval e X.env) :: starEach es X.env := by rfl) (hpl : (backTo pos (starEach es X.env)).any (·.1) = false := by rfl) :
    PE X (.Call (.Name x p) (e :: es) [] pos) (tD m W (eCall F f)) := by
  refine PE.imp (pe_callS (E := fun σ c d H => W c d σ H) O hr hg hm hk hb hx ha hdb he hpl) fun σ H Q ⟨γ, B0, B, G, env, st, E, P⟩ => ?_
  refine ⟨γ, B0, B, G, env, st, E, P.bind.imp fun as st1 G1 H1 s1 p1 P1 vs rvs => ?_⟩
  exact ⟨γ, G1, as, st1, s1.sub, s1.tok, p1, rvs, P1⟩
/-- where no error leaves: in a comprehension -/
abbrev WF : WX := fun _ _ _ _ => False
theorem passF {σ : L2.St} : PassesAt (L2.CX X.prog X.w) X σ (fun c d H => WF c d σ H) := fun _ _ _ e s' _ c => by
  obtain ⟨_, _, _, _, _, _, _, _, _, _, _, _, z⟩ := c
  exact False.elim z
end
end DL
set_option Elab.async false
set_option linter.all false
set_option maxRecDepth 100000
/-! Dl3: rules by data: targets, statements, loops, comprehensions. -/
namespace DL
open PySem PySem.Spec PyProof.Rows L2

/-! ### the environment's changes -/
section
variable {m : Md} {γ : Gh} {B0 B G H G' H' G1 H1 : Hp} {σ : L2.St} {env : List Sl} {st st' : Pen} {i : Nat}
theorem set_get {α : Type} {l : List α} {i j : Nat} {a x : α} (h : (l.set i a)[j]? = some x) : (j = i ∧ x = a ∧ i < l.length) ∨ (j ≠ i ∧ l[j]? = some x) := by
  by_cases e : i = j
  · subst e
    have hl : i < l.length := by
      have := (List.getElem?_eq_some_iff.mp h).1
      rwa [List.length_set] at this
    rw [List.getElem?_set_self hl] at h
    exact .inl ⟨rfl, (Option.some.inj h).symm, hl⟩
  · rw [List.getElem?_set_ne e] at h
    exact .inr ⟨fun z => e z.symm, h⟩
/-- what was not there at first is changed -/
theorem Step.mut {p : Addr} {o : HO} (s : Step γ B0 B G H) (bp : B p = none) (gp : G p = none) (ap : γ.away p) (lp : ∃ l, H p = some (.lst l)) : Step γ B0 B G (L2.upd H p o) := by
  obtain ⟨l0, lp⟩ := lp
  refine ⟨s.gg, fun b u e => ?_, s.new, fun b u ha e => ?_, fun b h => ?_, γ.stable G H _ _ s.tok (Same.refl G) (fun b hb => upd_ne fun z => ap.2 (z ▸ hb)) fun b u e n => by rw [upd_ne fun z => n l0 (by rw [z, lp] at e; exact (Option.some.inj e).symm)]; exact e⟩
  · rw [upd_ne (ne_of_none e gp)]; exact s.sub b u e
  · rw [upd_ne (ne_of_none e bp)]; exact s.keep b u ha e
  · by_cases z : b = p
    · subst z; rw [upd_same]; intro z; cases z
    · rw [upd_ne z]; exact s.live b h
/-- a list that the frame holds alone is changed -/
theorem EnvOk.upd (E : EnvOk m γ B0 B σ G H env st) {l l' : List D} {p : Addr} {vs vs' : List V} (hi : env[i]? = some (.own l)) (hx : σ[i]? = some (some (.ref p))) (hp : H p = some (.lst vs)) (bp : B p = none) (gp : G p = none) (ap : γ.away p) (r : RepL m G vs' l') :
    EnvOk m γ B0 B σ G (L2.upd H p (.lst vs')) (env.set i (.own l')) st := by
  have hsub : Same G (L2.upd H p (.lst vs')) := fun b u e => by rw [upd_ne (ne_of_none e gp)]; exact E.sub b u e
  have tok : γ.tok G (L2.upd H p (.lst vs')) := γ.stable G H _ _ E.tok (Same.refl G) (fun b hb => upd_ne fun z => ap.2 (z ▸ hb)) fun b u e n => by rw [upd_ne fun z => n vs (by rw [z, hp] at e; exact (Option.some.inj e).symm)]; exact e
  refine ⟨hsub, tok, ⟨E.base.gg, hsub, E.base.new, fun b u ha e => ?_, fun b h => ?_, tok⟩, ⟨fun b hb => ?_, fun b hb => ?_, E.pen.gh⟩, by rw [List.length_set]; exact E.len, fun j s x h1 h2 => ?_, fun j k s t x hjk h1 h2 o1 o2 h3 h4 => ?_⟩
  · rw [upd_ne (ne_of_none e bp)]; exact E.base.keep b u ha e
  · by_cases z : b = p
    · subst z; rw [upd_same]; intro z; cases z
    · rw [upd_ne z]; exact E.base.live b h
  · obtain ⟨h1, q, h2, h3⟩ := E.pen.pen b hb
    have z : b ≠ p := fun z => ap.1 (z ▸ hb)
    exact ⟨h1, q, by rw [upd_ne z]; exact h2, h3⟩
  · have z : b ≠ p := fun z => ap.2 (z ▸ hb)
    rw [upd_ne z]; exact E.pen.live b hb
  · rcases set_get h1 with ⟨rfl, rfl, _⟩ | ⟨hne, h1⟩
    · rw [hx] at h2; cases h2
      exact ⟨p, vs', rfl, upd_same, bp, gp, ap, r⟩
    · have q := E.sl j s x h1 h2
      cases s with
      | no => trivial
      | val d => exact q
      | pen => exact q
      | own l2 =>
        obtain ⟨p2, vs2, rfl, h5, h6, h7, h8, h9⟩ := q
        have z : p2 ≠ p := fun z => E.dis j i (.own l2) (.own l) (.ref p2) hne h1 hi rfl rfl h2 (by rw [z]; exact hx)
        exact ⟨p2, vs2, rfl, by rw [upd_ne z]; exact h5, h6, h7, h8, h9⟩
  · have f : ∀ (j : Nat) (s : Sl), (env.set i (.own l'))[j]? = some s → s.isOwn = true → ∃ s', env[j]? = some s' ∧ s'.isOwn = true := fun j s h o => by
      rcases set_get h with ⟨rfl, rfl, _⟩ | ⟨hne, h⟩
      · exact ⟨_, hi, rfl⟩
      · exact ⟨s, h, o⟩
    obtain ⟨s', a1, a2⟩ := f j s h1 o1
    obtain ⟨t', b1, b2⟩ := f k t h2 o2
    exact E.dis j k s' t' x hjk a1 b1 a2 b2 h3 h4
/-- a new list that the frame holds alone -/
theorem EnvOk.new (E : EnvOk m γ B0 B σ G H env st) {p : Addr} {vs : List V} {l : List D} (hp : H p = none) (r : RepL m G vs l) : EnvOk m γ B0 B (σ.set i (some (.ref p))) G (L2.upd H p (.lst vs)) (env.set i (.own l)) st := by
  have bp : B p = none := by
    cases q : B p with
    | none => rfl
    | some o => exact absurd hp (E.base.live p (by rw [q]; intro z; cases z))
  have gp : G p = none := E.sub.free hp
  have s := Step.lay (o := .lst vs) E.sub E.tok E.pen hp
  have E1 := E.step s (E.pen.lay E.sub E.tok hp)
  refine ⟨E1.sub, E1.tok, E1.base, E1.pen, by rw [List.length_set, List.length_set]; exact E.len, fun j s x h1 h2 => ?_, fun j k s t x hjk h1 h2 o1 o2 h3 h4 => ?_⟩
  · rcases set_get h1 with ⟨rfl, rfl, _⟩ | ⟨hne, h1⟩
    · rcases set_get h2 with ⟨_, rfl, _⟩ | ⟨z, _⟩
      · exact ⟨p, vs, rfl, upd_same, bp, gp, E.pen.away hp, r⟩
      · exact absurd rfl z
    · rw [List.getElem?_set_ne (Ne.symm hne)] at h2
      exact E1.sl j s x h1 h2
  · have nw : ∀ (j : Nat) (s : Sl) (x : V), env[j]? = some s → s.isOwn = true → σ[j]? = some (some x) → x ≠ .ref p := fun j s x h o q z => by
      cases s with
      | own l2 =>
        obtain ⟨p2, vs2, e, h5, _⟩ := E.sl j _ _ h q
        cases e; cases z
        rw [hp] at h5; cases h5
      | no => cases o
      | val d => cases o
      | pen => cases o
    have h1' := h1
    have h2' := h2
    clear h1 h2
    rcases set_get h1' with ⟨rfl, rfl, _⟩ | ⟨n1, h1⟩
    · rcases set_get h2' with ⟨rfl, rfl, _⟩ | ⟨n2, h2⟩
      · exact hjk rfl
      · rcases set_get h3 with ⟨_, e, _⟩ | ⟨z, _⟩
        · cases e
          rw [List.getElem?_set_ne (Ne.symm n2)] at h4
          exact nw k t _ h2 o2 h4 rfl
        · exact z rfl
    · rw [List.getElem?_set_ne (Ne.symm n1)] at h3
      rcases set_get h2' with ⟨rfl, rfl, _⟩ | ⟨n2, h2⟩
      · rcases set_get h4 with ⟨_, e, _⟩ | ⟨z, _⟩
        · cases e
          exact nw j s _ h1 o1 h3 rfl
        · exact z rfl
      · rw [List.getElem?_set_ne (Ne.symm n2)] at h4
        exact E.dis j k s t x hjk h1 h2 o1 o2 h3 h4
/-- such a list is data from now on -/
theorem EnvOk.frz (E : EnvOk m γ B0 B σ G H env st) {l : List D} (hi : env[i]? = some (.own l)) : ∃ G', EnvOk m γ B0 B σ G' H (env.set i (.val (.lst l))) st := by
  obtain ⟨x, hx, p, vs, rfl, hp, bp, gp, ap, r⟩ := E.get hi
  have gg : Same G (L2.upd G p (.lst vs)) := fun b u e => by rw [upd_ne (ne_of_none e gp)]; exact e
  have s := E.base.freeze hp bp gp
  refine ⟨L2.upd G p (.lst vs), s.sub, s.tok, s, E.pen.freeze hp ap gp, by rw [List.length_set]; exact E.len, fun j s x h1 h2 => ?_, fun j k s t x hjk h1 h2 o1 o2 h3 h4 => ?_⟩
  · rcases set_get h1 with ⟨rfl, rfl, _⟩ | ⟨hne, h1⟩
    · rw [hx] at h2; cases h2
      exact ⟨.ref p, rfl, .lst upd_same (r.same gg)⟩
    · have q := E.sl j s x h1 h2
      cases s with
      | no => trivial
      | val d =>
        obtain ⟨v, e, rv⟩ := q
        exact ⟨v, e, rv.same gg⟩
      | pen => exact q
      | own l2 =>
        obtain ⟨p2, vs2, rfl, h5, h6, h7, h8, h9⟩ := q
        have z : p2 ≠ p := fun z => E.dis j i (.own l2) (.own l) (.ref p2) hne h1 hi rfl rfl h2 (by rw [z]; exact hx)
        exact ⟨p2, vs2, rfl, h5, h6, by rw [upd_ne z]; exact h7, h8, h9.same gg⟩
  · have ne : ∀ (k : Nat) (t : Sl), (env.set i (.val (.lst l)))[k]? = some t → t.isOwn = true → env[k]? = some t := fun k t h o => by
      rcases set_get h with ⟨_, rfl, _⟩ | ⟨_, h⟩
      · cases o
      · exact h
    exact E.dis j k s t x hjk (ne j s h1 o1) (ne k t h2 o2) o1 o2 h3 h4
/-- a slot forgotten -/
theorem EnvOk.no (E : EnvOk m γ B0 B σ G H env st) (y : Option V) : EnvOk m γ B0 B (σ.set i y) G H (env.set i .no) st := by
  refine ⟨E.sub, E.tok, E.base, E.pen, by rw [List.length_set, List.length_set]; exact E.len, fun j s x h1 h2 => ?_, fun j k s t x hjk h1 h2 o1 o2 h3 h4 => ?_⟩
  · rcases set_get h1 with ⟨_, rfl, _⟩ | ⟨hne, h1⟩
    · trivial
    · rw [List.getElem?_set_ne (Ne.symm hne)] at h2
      exact E.sl j s x h1 h2
  · rcases set_get h1 with ⟨_, rfl, _⟩ | ⟨n1, h1⟩
    · cases o1
    rcases set_get h2 with ⟨_, rfl, _⟩ | ⟨n2, h2⟩
    · cases o2
    rw [List.getElem?_set_ne (Ne.symm n1)] at h3
    rw [List.getElem?_set_ne (Ne.symm n2)] at h4
    exact E.dis j k s t x hjk h1 h2 o1 o2 h3 h4
def wipeE (env : List Sl) : List Nat → List Sl
  | [] => env
  | v :: vs => (wipeE env vs).set v .no
theorem EnvOk.wipe (E : EnvOk m γ B0 B σ G H env st) : ∀ vs : List Nat, EnvOk m γ B0 B (wipe σ vs) G H (wipeE env vs) st
  | [] => E
  | _ :: vs => (EnvOk.wipe E vs).no _
/-- the frozen ground moves up -/
theorem EnvOk.up (E : EnvOk m γ B0 B σ G H env st) (s : Step γ B0 B G1 H1) (g : Same G1 G) : EnvOk m γ G1 B σ G H env st :=
  ⟨E.sub, E.tok, ⟨g, E.sub, fun b h1 h2 => E.base.new b h1 (s.gg.free h2), E.base.keep, E.base.live, E.tok⟩, E.pen, E.len, E.sl, E.dis⟩
theorem EnvOk.down (E : EnvOk m γ G1 B σ G H env st) (s : Step γ B0 B G1 H1) : EnvOk m γ B0 B σ G H env st :=
  ⟨E.sub, E.tok, ⟨s.gg.trans E.base.gg, E.sub, fun b h1 h2 => E.base.new b h1 (s.new b h1 h2), E.base.keep, E.base.live, E.tok⟩, E.pen, E.len, E.sl, E.dis⟩
theorem EnvOk.ext (E : EnvOk m γ B0 B σ G H env st) : EnvOk m γ B0 B (σ ++ [none]) G H (env ++ [.no]) st := by
  have el := E.len
  have back : ∀ (j : Nat) (s : Sl), (env ++ [Sl.no])[j]? = some s → s.isOwn = true → env[j]? = some s ∧ (σ ++ [none])[j]? = σ[j]? := fun j s h o => by
    by_cases hj : j < env.length
    · rw [List.getElem?_append_left hj] at h
      exact ⟨h, List.getElem?_append_left (by omega)⟩
    · rw [List.getElem?_append_right (by omega)] at h
      have := List.mem_of_getElem? h
      simp only [List.mem_singleton] at this
      subst this
      cases o
  refine ⟨E.sub, E.tok, E.base, E.pen, by simp [el], fun j s x h1 h2 => ?_, fun j k s t x hjk h1 h2 o1 o2 h3 h4 => ?_⟩
  · by_cases hj : j < env.length
    · rw [List.getElem?_append_left hj] at h1
      rw [List.getElem?_append_left (by omega)] at h2
      exact E.sl j s x h1 h2
    · rw [List.getElem?_append_right (by omega)] at h1
      have := List.mem_of_getElem? h1
      simp only [List.mem_singleton] at this
      subst this
      trivial
  · obtain ⟨a1, a2⟩ := back j s h1 o1
    obtain ⟨b1, b2⟩ := back k t h2 o2
    rw [a2] at h3
    rw [b2] at h4
    exact E.dis j k s t x hjk a1 b1 o1 o2 h3 h4
theorem EnvOk.pop {x : Option V} {s : Sl} (E : EnvOk m γ B0 B (σ ++ [x]) G H (env ++ [s]) st) : EnvOk m γ B0 B σ G H env st := by
  have el : env.length = σ.length := by
    have := E.len
    simp only [List.length_append, List.length_cons, List.length_nil] at this
    omega
  have up : ∀ (j : Nat) (s' : Sl), env[j]? = some s' → (env ++ [s])[j]? = some s' ∧ (σ ++ [x])[j]? = σ[j]? := fun j s' h => by
    have hj := (List.getElem?_eq_some_iff.mp h).1
    exact ⟨by rw [List.getElem?_append_left hj]; exact h, List.getElem?_append_left (by omega)⟩
  refine ⟨E.sub, E.tok, E.base, E.pen, el, fun j s' y h1 h2 => ?_, fun j k s' t y hjk h1 h2 o1 o2 h3 h4 => ?_⟩
  · obtain ⟨a1, a2⟩ := up j s' h1
    exact E.sl j s' y a1 (a2.trans h2)
  · obtain ⟨a1, a2⟩ := up j s' h1
    obtain ⟨b1, b2⟩ := up k t h2
    exact E.dis j k s' t y hjk a1 b1 o1 o2 (a2.trans h3) (b2.trans h4)
theorem EnvOk.push (E : EnvOk m γ B0 B σ G H env st) {p : Addr} {vs : List V} {l : List D} (hp : H p = none) (r : RepL m G vs l) : EnvOk m γ B0 B (σ ++ [some (.ref p)]) G (L2.upd H p (.lst vs)) (env ++ [.own l]) st := by
  have q := E.ext.new (i := env.length) hp r
  have e1 : (env ++ [Sl.no]).set env.length (.own l) = env ++ [.own l] := by simp
  have e2 : (σ ++ [none]).set env.length (some (.ref p)) = σ ++ [some (V.ref p)] := by rw [E.len]; simp
  rw [e1, e2] at q
  exact q
theorem PostS.up {r : SR} {D : Ends} {W : WX} (P : PostS m γ B0 B r D W) (s : Step γ B0 B G1 H1) : PostS m γ G1 B r D W := by
  match r, P with
  | some (fl, env', st'), P => exact fun σ' G' H' E => P σ' G' H' (E.down s)
end

/-! ### targets -/
def tG (m : Md) (vs : List Nat) (F : D → List Sl → Option (List Sl)) : TG := fun v σ H Q => ∃ γ B0 B G env st d env', EnvOk m γ B0 B σ G H env st ∧ Rep m G v d ∧ F d env = some env' ∧ ∀ σ', EnvOk m γ B0 B σ' G H env' st → (∀ j, j ∉ vs → σ'[j]? = σ[j]?) → σ'.length = σ.length → Q σ' H
def tGs (m : Md) (vs : List Nat) (F : List D → List Sl → Option (List Sl)) : TGs := fun xs σ H Q => ∃ γ B0 B G env st ds env', EnvOk m γ B0 B σ G H env st ∧ RepL m G xs ds ∧ F ds env = some env' ∧ ∀ σ', EnvOk m γ B0 B σ' G H env' st → (∀ j, j ∉ vs → σ'[j]? = σ[j]?) → σ'.length = σ.length → Q σ' H
def gNm (i : Nat) : D → List Sl → Option (List Sl) := fun d env => some (env.set i (.val d))
def gsNil : List D → List Sl → Option (List Sl) := fun ds env => match ds with
  | [] => some env
  | _ => none
def gsCons (F : D → List Sl → Option (List Sl)) (R : List D → List Sl → Option (List Sl)) : List D → List Sl → Option (List Sl) := fun ds env => match ds with
  | [] => none
  | d :: r => match F d env with
    | none => none
    | some env1 => R r env1
def gTp (n : Nat) (F : List D → List Sl → Option (List Sl)) : D → List Sl → Option (List Sl) := fun d env => match d with
  | .tup ds => if ds.length = n then F ds env else none
  | _ => none
section
variable {X : Cx} {m : Md} {tg : Expr} {es : List Expr} {pos : Pos}
theorem PG.imp {t t' : TG} (h : PG X tg t) (w : ∀ v σ H Q, t' v σ H Q → t v σ H Q) : PG X tg t' := ⟨fun pins s σ H v u Q I r q => h.run pins s σ H v u Q I r (w _ _ _ _ q)⟩
theorem PGs.imp {t t' : TGs} (h : PGs X es t) (w : ∀ v σ H Q, t' v σ H Q → t v σ H Q) : PGs X es t' := ⟨fun pins s σ H v u Q I r q => h.run pins s σ H v u Q I r (w _ _ _ _ q)⟩
theorem dg_name {i : Nat} {x : Str} (hN : X.N.Nodup) (hi : X.N[i]? = some x) (hx : Loc X.env.scope x) (hf : X.fn x = true ∨ X.env.scope.names.lookup x = some .local := by first | exact .inl rfl | exact .inr rfl | assumption) : PG X (.Name x pos) (tG m [i] (gNm i)) := by
  refine PG.imp (pg_name hN hi hx hf) fun v σ H Q ⟨γ, B0, B, G, env, st, d, env', E, r, e, q⟩ => ?_
  cases e
  exact q _ (E.set r) (fun j hj => List.getElem?_set_ne fun z => hj (by simp [z])) List.length_set
theorem dgs_nil : PGs X [] (tGs m [] gsNil) := by
  refine PGs.imp pgs_nil fun v σ H Q ⟨γ, B0, B, G, env, st, ds, env', E, r, e, q⟩ => ?_
  cases ds with
  | nil =>
    cases r
    cases e
    exact ⟨rfl, q σ E (fun _ _ => rfl) rfl⟩
  | cons d ds => cases e
theorem dgs_cons {e : Expr} {vs ws : List Nat} {F : D → List Sl → Option (List Sl)} {R : List D → List Sl → Option (List Sl)} (h1 : PG X e (tG m vs F)) (h2 : PGs X es (tGs m ws R))
    (hs : (assignEach (e :: es) X.env).map (·.2) = assign e X.env :: (assignEach es X.env).map (·.2) := by rfl) : PGs X (e :: es) (tGs m (vs ++ ws) (gsCons F R)) := by
  refine PGs.imp (pgs_cons h1 h2 hs) fun xs σ H Q z => ?_
  obtain ⟨γ, B0, B, G, env, st, ds, env', E, r, ee, q⟩ := z
  match xs, ds, r with
  | _, _, .nil => cases ee
  | _, _, .cons (d := d) (ds := ds) rd rr =>
    have ee : (match F d env with | none => none | some env1 => R ds env1) = some env' := ee
    cases ef : F d env with
    | none => rw [ef] at ee; cases ee
    | some env1 =>
      rw [ef] at ee
      refine ⟨_, _, rfl, γ, B0, B, G, env, st, d, env1, E, rd, ef, fun σ1 E1 k1 l1 => ?_⟩
      refine ⟨γ, B0, B, G, env1, st, ds, env', E1, rr, ee, fun σ2 E2 k2 l2 => ?_⟩
      refine q σ2 E2 (fun j hj => ?_) (l2.trans l1)
      rw [List.mem_append, not_or] at hj
      exact (k2 j hj.2).trans (k1 j hj.1)
theorem dg_tup {k : Nat} {n : Nat} {vs : List Nat} {F : List D → List Sl → Option (List Sl)} (hc : X.calm = true) (h : PGs X es (tGs m vs F)) (hK : X.K = m.K := by rfl)
    (hn : (assignEach es X.env).length = n := by rfl) (hst : (assignEach es X.env).findIdx? (·.1) = none := by rfl) : PG X (.Tuple es k pos) (tG m vs (gTp n F)) := by
  refine PG.imp (pg_tup hc h hn hst) fun v σ H Q ⟨γ, B0, B, G, env, st, d, env', E, r, ee, q⟩ => ?_
  cases d with
  | tup ds =>
    obtain ⟨a, xs, rfl, h1, h2⟩ := r.tup_inv
    have ee : (if ds.length = n then F ds env else none) = some env' := ee
    by_cases hl : ds.length = n
    · rw [if_pos hl] at ee
      exact ⟨a, xs, rfl, by rw [hK]; exact SqT.same E.sub h1, by rw [h2.length]; exact hl, γ, B0, B, G, env, st, ds, env', E, h2, ee, q⟩
    · rw [if_neg hl] at ee; cases ee
  | non => cases ee
  | bl _ => cases ee
  | int _ => cases ee
  | str _ => cases ee
  | lst _ => cases ee
  | dct _ => cases ee
  | ins _ _ => cases ee
  | exc _ _ => cases ee
  | ref _ => cases ee
end

/-! ### statements -/
def liftM {α : Type} (f : List Sl → M α) (k : α → List Sl → Pen → SR) : SM := fun env st => match f env st with
  | none => none
  | some (.error x, st') => some (.error x, env, st')
  | some (.ok a, st') => k a env st'
section
variable {m : Md} {γ : Gh} {B0 B G H : Hp} {σ : L2.St} {env : List Sl} {st : Pen} {W : WX} {D : Ends}
theorem PostS.lift {α : Type} {f : List Sl → M α} {k : α → List Sl → Pen → SR} (P : PostS m γ B0 B (liftM f k env st) D W) (E : EnvOk m γ B0 B σ G H env st) :
    Post m γ G H (f env st) (fun a st' _ _ => PostS m γ B0 B (k a env st') D W) fun c dd H' => W c dd σ H' := by
  unfold liftM at P
  cases e : f env st with
  | none => rw [e] at P; exact P
  | some q =>
    obtain ⟨q, st1⟩ := q
    rw [e] at P
    cases q with
    | error x => exact fun cls dd G' H' s p z => P σ G' H' (E.step s p) cls dd z
    | ok a => exact fun G' H' s p => P
end
def sNx : SM := fun env st => some (.ok .nx, env, st)
def sSeq (f g : SM) : SM := fun env st => match f env st with
  | some (.ok .nx, env', st') => g env' st'
  | r => r
def sAsg (i : Nat) (f : EM) : SM := liftM f fun d env st => some (.ok .nx, env.set i (.val d), st)
def sAsgT (f : EM) (F : D → List Sl → Option (List Sl)) : SM := liftM f fun d env st => match F d env with
  | none => none
  | some env' => some (.ok .nx, env', st)
def sExpr (f : EM) : SM := liftM f fun _ env st => some (.ok .nx, env, st)
def sRet (f : EM) : SM := liftM f fun d env st => some (.ok (.ret d), env, st)
def sRetN : SM := fun env st => some (.ok (.ret .non), env, st)
def sIf (c : List Sl → M Bool) (a b : SM) : SM := liftM c fun k env st => if k = true then a env st else b env st
def sBk : SM := fun env st => some (.ok .bk, env, st)
def sCt : SM := fun env st => some (.ok .ct, env, st)
def sNo : SM := fun _ _ => none
def sPar (i j : Nat) (f : LM) : SM := liftM f fun ds env st => match ds with
  | [d, e] => some (.ok .nx, (env.set i (.val d)).set j (.val e), st)
  | _ => none
def sPar3 (i j l : Nat) (f : LM) : SM := liftM f fun ds env st => match ds with
  | [d, e, g] => some (.ok .nx, ((env.set i (.val d)).set j (.val e)).set l (.val g), st)
  | _ => none
def sAug (i : Nat) (F : D → D → M D) (f : EM) : SM := liftM (fun env => bindM (eVar i env) fun x => bindM (f env) fun y => F x y) fun d env st => some (.ok .nx, env.set i (.val d), st)
def sNewL (i : Nat) (f : LM) : SM := liftM f fun ds env st => if ds.length ≤ sizeLine then some (.ok .nx, env.set i (.own ds), st) else none
def sApp (i : Nat) (f : EM) : SM := fun env st => match env[i]? with
  | some (.own l) => liftM f (fun d env st => if l.length < sizeLine then some (.ok .nx, env.set i (.own (l ++ [d])), st) else none) env st
  | _ => none
def sFrz (i : Nat) (g : SM) : SM := fun env st => match env[i]? with
  | some (.own l) => g (env.set i (.val (.lst l))) st
  | _ => g env st
/-- the slot's value is not asked again -/
def sDrop (i : Nat) (g : SM) : SM := fun env st => g (env.set i .no) st
section
variable {X : Cx} {m : Md} {W : WX} {e : Expr} {es : List Expr} {f : EM} {pos : Pos} {s : Stmt} {ss : List Stmt} {u v : SM}
theorem dss_nil : PSs X [] (tS m W sNx) := PSs.imp pss_nil fun D σ H ⟨γ, B0, B, G, env, st, E, P⟩ => P σ G H E
theorem dss_cons (h1 : PS X s (tS m W u)) (h2 : PSs X ss (tS m W v)) : PSs X (s :: ss) (tS m W (sSeq u v)) := by
  refine PSs.imp (pss_cons h1 h2) fun D σ H ⟨γ, B0, B, G, env, st, E, P⟩ => ⟨γ, B0, B, G, env, st, E, ?_⟩
  unfold sSeq at P
  cases q : u env st with
  | none => rw [q] at P; exact P
  | some r =>
    obtain ⟨fl, env', st'⟩ := r
    rw [q] at P
    cases fl with
    | error x => exact P
    | ok fl =>
      cases fl with
      | nx => exact fun σ' G' H' E' => ⟨γ, B0, B, G', env', st', E', P⟩
      | ret d => exact P
      | bk => exact P
      | ct => exact P
theorem dss_one (h1 : PS X s (tS m W u)) : PSs X [s] (tS m W u) := pss_one h1
theorem ds_set {i : Nat} {x : Str} {pos' : Pos} (hN : X.N.Nodup) (he : PE X e (tD m W f)) (hi : X.N[i]? = some x := by rfl) (hx : Loc X.env.scope x := by first | exact Or.inl rfl | exact Or.inr rfl) (hs : swapsWith e (some (.Name x pos')) pos.line X.env = pure false := by rfl) (hf : X.fn x = true ∨ X.env.scope.names.lookup x = some .local := by first | exact .inl rfl | exact .inr rfl | assumption) :
    PS X (.Assign [.Name x pos'] e pos) (tS m W (sAsg i f)) := by
  refine PS.imp (ps_set hN hi hx he hs hf) fun D σ H ⟨γ, B0, B, G, env, st, E, P⟩ => ?_
  exact ⟨γ, B0, B, G, env, st, E, (P.lift E).imp fun d st1 G1 H1 s1 p1 P1 v rv => P1 _ G1 H1 ((E.step s1 p1).set rv)⟩
theorem ds_asg {tg : Expr} {vs : List Nat} {F : D → List Sl → Option (List Sl)} (he : PE X e (tD m W f)) (hg : PG X tg (tG m vs F)) (hs : swapsWithSole [tg] e pos.line X.env = pure false := by rfl) (hw : swappedStores [tg] e X.env = pure none := by rfl)
    (h1 : (assignEach [tg] X.env).map (·.2) = [assign tg X.env] := by rfl) : PS X (.Assign [tg] e pos) (tS m W (sAsgT f F)) := by
  refine PS.imp (ps_asg he hg hs hw h1) fun D σ H ⟨γ, B0, B, G, env, st, E, P⟩ => ?_
  refine ⟨γ, B0, B, G, env, st, E, (P.lift E).imp fun d st1 G1 H1 s1 p1 P1 v rv => ?_⟩
  cases q : F d env with
  | none => rw [q] at P1; exact False.elim P1
  | some env' =>
    rw [q] at P1
    exact ⟨γ, B0, B, G1, env, st1, d, env', E.step s1 p1, rv, q, fun σ' E' _ _ => P1 σ' G1 H1 E'⟩
theorem ds_expr (he : PE X e (tD m W f)) (hs : swapsWith e none pos.line X.env = pure false := by rfl) : PS X (.Expr e pos) (tS m W (sExpr f)) := by
  refine PS.imp (ps_expr he hs) fun D σ H ⟨γ, B0, B, G, env, st, E, P⟩ => ?_
  exact ⟨γ, B0, B, G, env, st, E, (P.lift E).imp fun d st1 G1 H1 s1 p1 P1 v rv => P1 _ G1 H1 (E.step s1 p1)⟩
theorem ds_ret (he : PE X e (tD m W f)) : PS X (.Return (some e) pos) (tS m W (sRet f)) := by
  refine PS.imp (ps_ret he) fun D σ H ⟨γ, B0, B, G, env, st, E, P⟩ => ?_
  exact ⟨γ, B0, B, G, env, st, E, (P.lift E).imp fun d st1 G1 H1 s1 p1 P1 v rv => P1 _ G1 H1 (E.step s1 p1) v rv⟩
theorem ds_retN : PS X (.Return none pos) (tS m W sRetN) := PS.imp ps_retN fun D σ H ⟨γ, B0, B, G, env, st, E, P⟩ => P σ G H E .non .non
theorem ds_if {c : Expr} {a b : List Stmt} {fc : List Sl → M Bool} (hc : PT X c (tT m W fc)) (ha : PSs X a (tS m W u)) (hb : PSs X b (tS m W v)) : PS X (.If c a b pos) (tS m W (sIf fc u v)) := by
  refine PS.imp (ps_if hc ha hb) fun D σ H ⟨γ, B0, B, G, env, st, E, P⟩ => ?_
  refine ⟨γ, B0, B, G, env, st, E, (P.lift E).imp fun k st1 G1 H1 s1 p1 P1 => ?_⟩
  cases k with
  | true => exact iteT ⟨γ, B0, B, G1, env, st1, E.step s1 p1, P1⟩
  | false => exact iteF ⟨γ, B0, B, G1, env, st1, E.step s1 p1, P1⟩
theorem ds_pass : PS X (.Pass pos) (tS m W sNx) := PS.imp ps_pass fun D σ H ⟨γ, B0, B, G, env, st, E, P⟩ => P σ G H E
theorem ds_break : PS X (.Break pos) (tS m W sBk) := PS.imp ps_break fun D σ H ⟨γ, B0, B, G, env, st, E, P⟩ => P σ G H E
theorem ds_continue : PS X (.Continue pos) (tS m W sCt) := PS.imp ps_continue fun D σ H ⟨γ, B0, B, G, env, st, E, P⟩ => P σ G H E
/-- never come to -/
theorem ds_never : PS X s (tS m W sNo) := PS.imp ps_never fun D σ H ⟨γ, B0, B, G, env, st, E, P⟩ => P
theorem dss_never : PSs X ss (tS m W sNo) := PSs.imp pss_never fun D σ H ⟨γ, B0, B, G, env, st, E, P⟩ => P
theorem ds_par {i j : Nat} {x y : Str} {a b : Expr} {f : LM} {px py pt : Pos} {kt k2 pt2} (hc : X.calm = true) (hN : X.N.Nodup) (ha : PA X [a, b] (tL m W f)) (hij : i ≠ j := by decide) (hi : X.N[i]? = some x := by rfl) (hj : X.N[j]? = some y := by rfl)
    (hx : X.env.scope.names.lookup x = some .local := by rfl) (hy : X.env.scope.names.lookup y = some .local := by rfl)
    (hw : swappedStores [.Tuple [.Name x px, .Name y py] kt pt] (.Tuple [a, b] k2 pt2) X.env = pure (some [x, y]) := by rfl)
    (hs : swapsWithSole [.Tuple [.Name x px, .Name y py] kt pt] (.Tuple [a, b] k2 pt2) pos.line X.env = pure false := by rfl) :
    PS X (.Assign [.Tuple [.Name x px, .Name y py] kt pt] (.Tuple [a, b] k2 pt2) pos) (tS m W (sPar i j f)) := by
  refine PS.imp (ps_par hc hN hi hj hij hx hy ha hw hs) fun D σ H ⟨γ, B0, B, G, env, st, E, P⟩ => ?_
  refine ⟨γ, B0, B, G, env, st, E, (P.lift E).imp fun ds st1 G1 H1 s1 p1 P1 vs rvs => ?_⟩
  cases rvs with
  | nil => exact False.elim P1
  | cons r1 t =>
    cases t with
    | nil => exact False.elim P1
    | cons r2 t2 =>
      cases t2 with
      | nil => exact ⟨_, _, rfl, P1 _ G1 H1 (((E.step s1 p1).set r1).set r2)⟩
      | cons _ _ => exact False.elim P1
/-- x op= e -/
def IpD (X : Cx) (m : Md) (op : Operator) (F : D → D → M D) : Prop := ∃ r : TIp, PIp X op r ∧
  ∀ (γ : Gh) (st : Pen) (G H : Hp) (v w : V) (d e : D) (Q : VK) (W : XK), Same G H → γ.tok G H → PenOk m γ st G H → Rep m G v d → Rep m G w e → Post m γ G H (F d e st) (KD m Q) W → r v w H Q
theorem eVar_bind {α : Type} {i : Nat} {h : D → M α} {γ : Gh} {B0 B G H : Hp} {σ : L2.St} {env : List Sl} {st : Pen} {k : α → Pen → Hp → Hp → Prop} {W : XK} (E : EnvOk m γ B0 B σ G H env st) (P : Post m γ G H (bindM (eVar i env) h st) k W) :
    ∃ d v, env[i]? = some (.val d) ∧ σ[i]? = some (some v) ∧ Rep m G v d ∧ Post m γ G H (h d st) k W := by
  unfold eVar at P
  cases q : env[i]? with
  | none => rw [q] at P; exact False.elim P
  | some s =>
    rw [q] at P
    cases s with
    | val d =>
      obtain ⟨v, h1, r⟩ := E.val q
      exact ⟨d, v, rfl, h1, r, P⟩
    | no => exact False.elim P
    | pen => exact False.elim P
    | own l => exact False.elim P
theorem ds_aug {i : Nat} {x : Str} {op : Operator} {F : D → D → M D} {pos' : Pos} (ho : IpD X m op F) (hN : X.N.Nodup) (he : PE X e (tD m W f)) (hi : X.N[i]? = some x := by rfl) (hx : Loc X.env.scope x := by first | exact Or.inl rfl | exact Or.inr rfl) (hf : X.fn x = true ∨ X.env.scope.names.lookup x = some .local := by first | exact .inl rfl | exact .inr rfl | assumption) :
    PS X (.AugAssign (.Name x pos') op e pos) (tS m W (sAug i F f)) := by
  obtain ⟨r, h1, h2⟩ := ho
  refine PS.imp (ps_aug hN hi hx he h1 hf) fun D σ H ⟨γ, B0, B, G, env, st, E, P⟩ => ?_
  obtain ⟨d, v, e1, e2, rd, P0⟩ := eVar_bind E (P.lift E)
  refine ⟨v, e2, γ, B0, B, G, env, st, E, P0.bind.imp fun y st1 G1 H1 s1 p1 P1 w rw => ?_⟩
  refine h2 γ st1 G1 H1 v w d y _ _ s1.sub s1.tok p1 (rd.same s1.gg) rw (P1.imp fun z st2 G2 H2 s2 p2 P2 u ru => ?_)
  exact P2 _ G2 H2 (((E.step s1 p1).step s2 p2).set ru)
theorem ds_newL {i : Nat} {x : Str} {f : LM} {pos' pl : Pos} (hN : X.N.Nodup) (he : PA X es (tL m W f)) (hi : X.N[i]? = some x := by rfl) (hx : Loc X.env.scope x := by first | exact Or.inl rfl | exact Or.inr rfl) (hs : swapsWith (.List es pl) (some (.Name x pos')) pos.line X.env = pure false := by rfl) (hf : X.fn x = true ∨ X.env.scope.names.lookup x = some .local := by first | exact .inl rfl | exact .inr rfl | assumption) :
    PS X (.Assign [.Name x pos'] (.List es pl) pos) (tS m W (sNewL i f)) := by
  refine PS.imp (ps_set hN hi hx (pe_lst he) hs hf) fun D σ H ⟨γ, B0, B, G, env, st, E, P⟩ => ?_
  refine ⟨γ, B0, B, G, env, st, E, (P.lift E).imp fun ds st1 G1 H1 s1 p1 P1 vs rvs => ?_⟩
  by_cases hl : ds.length ≤ sizeLine
  · rw [if_pos hl] at P1
    exact ⟨by rw [rvs.length]; exact hl, fun p hp => P1 _ G1 _ ((E.step s1 p1).new hp rvs)⟩
  · rw [if_neg hl] at P1; exact False.elim P1
theorem ds_app0 {i : Nat} {c : Expr} (h1 : PE X c (tBM X.K "list" rAppend (tVar i) (tCons (tD m W f) tNil))) (hs : swapsWith c none pos.line X.env = pure false) :
    PS X (.Expr c pos) (tS m W (sApp i f)) := by
  refine PS.imp (ps_expr h1 hs) fun D σ H ⟨γ, B0, B, G, env, st, E, P⟩ => ?_
  unfold sApp at P
  cases q : env[i]? with
  | none => rw [q] at P; exact False.elim P
  | some s =>
    rw [q] at P
    cases s with
    | no => exact False.elim P
    | val d => exact False.elim P
    | pen => exact False.elim P
    | own l =>
      obtain ⟨x, hx, p, vs, rfl, hp, bp, gp, ap, r⟩ := E.get q
      refine ⟨_, hx, .inl ⟨rfl, _, .inl (.inl hp)⟩, γ, B0, B, G, env, st, E, (PostS.lift P E).imp fun d st1 G1 H1 s1 p1 P1 v rv => ?_⟩
      by_cases hl : l.length < sizeLine
      · rw [if_pos hl] at P1
        have hp1 := s1.keep p _ ap hp
        have gp1 := s1.new p (by rw [hp]; intro z; cases z) gp
        have r1 := r.same s1.gg
        refine ⟨p, vs, v, rfl, rfl, hp1, by rw [r.length]; exact hl, ?_⟩
        exact P1 _ G1 _ ((E.step s1 p1).upd q hx hp1 bp gp1 ap (r1.append (.one rv)))
      · rw [if_neg hl] at P1; exact False.elim P1
theorem ds_app {i : Nat} {x : Str} {px pa pc : Pos} (he : PE X e (tD m W f)) (hN : X.N[i]? = some x := by rfl) (hv : Vis X.env.scope x := by first | exact Or.inl rfl | exact Or.inr (Or.inl rfl) | exact Or.inr (Or.inr rfl)) (hd : (x == ("__debug__" : Str)) = false := by decide) (hcd : (x == ("__classdict__" : Str)) = false := by decide)
    (hs : swapsWith (.Call (.Attribute (.Name x px) "append" pa) [e] [] pc) none pos.line X.env = pure false := by rfl) (hq : starEach [e] X.env = (false, eval e X.env) :: starEach [] X.env := by rfl)
    (hbase : attributeBase (.Name x px) "append" X.env (eval (.Name x px) X.env) = eval (.Name x px) X.env := by rfl)
    (hfew : ((backTo pc (starEach (e :: []) X.env)).all (fun x => !x.1) && (backToKw pc (keywordEach [] X.env)).all (fun x => x.1.isSome)
      && decide ((e :: []).length + ([] : List Keyword).length + (if ([] : List Keyword).isEmpty then 0 else 1) < 30)) = true := by rfl)
    (hline : (pa.endLine == pc.line) = true := by rfl) (hplain : (backTo pc (starEach [] X.env)).any (·.1) = false := by rfl) :
    PS X (.Expr (.Call (.Attribute (.Name x px) "append" pa) [e] [] pc) pos) (tS m W (sApp i f)) :=
  ds_app0 (pe_bm PySem.F.plainAttrs_list PySem.F.slot_list_append PySem.F.type_list_append mt_append (pe_var hN hv hd hcd) (pa_cons he pa_nil hq) hbase hfew hline hq hplain) hs
/-- ghost: a list that was the frame's own is data from here on -/
theorem dss_frz (i : Nat) (h : PSs X ss (tS m W v)) : PSs X ss (tS m W (sFrz i v)) := by
  refine PSs.imp h fun D σ H ⟨γ, B0, B, G, env, st, E, P⟩ => ?_
  unfold sFrz at P
  split at P
  · rename_i l q
    obtain ⟨G', E'⟩ := E.frz q
    exact ⟨γ, B0, B, G', _, st, E', P⟩
  · exact ⟨γ, B0, B, G, env, st, E, P⟩
theorem ds_frz (i : Nat) (h : PS X s (tS m W v)) : PS X s (tS m W (sFrz i v)) := by
  refine PS.imp h fun D σ H ⟨γ, B0, B, G, env, st, E, P⟩ => ?_
  unfold sFrz at P
  split at P
  · rename_i l q
    obtain ⟨G', E'⟩ := E.frz q
    exact ⟨γ, B0, B, G', _, st, E', P⟩
  · exact ⟨γ, B0, B, G, env, st, E, P⟩
end

/-! ### what is walked -/
structure ItIs (m : Md) (γ : Gh) (G : Hp) (J : It) (items : List D) : Prop where
  go : ∀ (G' H' : Hp) (st : Pen) (i : Nat) (d : D), Same G G' → Same G' H' → γ.tok G' H' → PenOk m γ st G' H' → items[i]? = some d → J.go i H' ∧ ∀ x H'', J.yld i H' x H'' → ∃ G'', Step γ G' H' G'' H'' ∧ PenOk m γ st G'' H'' ∧ Rep m G'' x d
  stop : ∀ (G' H' : Hp) (i : Nat), Same G G' → Same G' H' → items.length ≤ i → J.stop i H'
def tI (m : Md) (W : WX) (f : LM) : TI := fun σ H R => ∃ γ B0 B G env st, EnvOk m γ B0 B σ G H env st ∧ Post m γ G H (f env st) (fun items _ G' H' => ∀ J, ItIs m γ G' J items → R J H') fun c d H' => W c d σ H'
theorem itl_is {m : Md} {γ : Gh} {G : Hp} {a : Addr} {vs : List V} {ds : List D} (h : G a = some (.lst vs)) (r : RepL m G vs ds) : ItIs m γ G (Itl m.K a) ds := by
  refine ⟨fun G' H' st i d s1 s2 t p e => ?_, fun G' H' i s1 s2 hl => ?_⟩
  · obtain ⟨v, e1, e2⟩ := r.get e
    have q : SqL m.K H' a vs := .of (s2 _ _ (s1 _ _ h))
    refine ⟨⟨vs, v, q, e1⟩, fun x H'' ⟨y1, y2⟩ => ?_⟩
    subst y1
    have := y2 vs q
    rw [e1] at this
    cases this
    exact ⟨G', Step.refl s2 t, p, e2.same s1⟩
  · exact ⟨vs, .of (s2 _ _ (s1 _ _ h)), by rw [r.length]; exact hl⟩
theorem itt_is {m : Md} {γ : Gh} {G : Hp} {a : Addr} {vs : List V} {ds : List D} (h : SqT m.K G a vs) (r : RepL m G vs ds) : ItIs m γ G (Itt m.K a) ds := by
  refine ⟨fun G' H' st i d s1 s2 t p e => ?_, fun G' H' i s1 s2 hl => ?_⟩
  · obtain ⟨v, e1, e2⟩ := r.get e
    have q : SqT m.K H' a vs := SqT.same s2 (SqT.same s1 h)
    refine ⟨⟨vs, v, q, e1⟩, fun x H'' ⟨y1, y2⟩ => ?_⟩
    subst y1
    have := y2 vs q
    rw [e1] at this
    cases this
    exact ⟨G', Step.refl s2 t, p, e2.same s1⟩
  · exact ⟨vs, SqT.same s2 (SqT.same s1 h), by rw [r.length]; exact hl⟩
def rangeL (lo : Int) (n : Nat) : List D := (List.range n).map fun (i : Nat) => D.int (lo + (i : Int))
theorem itr_is {m : Md} {γ : Gh} {G : Hp} {lo : Int} {n : Nat} : ItIs m γ G (Itr lo n) (rangeL lo n) := by
  refine ⟨fun G' H' st i d s1 s2 t p e => ?_, fun G' H' i s1 s2 hl => ?_⟩
  · unfold rangeL at e
    rw [List.getElem?_map] at e
    by_cases h : i < n
    · rw [List.getElem?_range h] at e
      cases e
      refine ⟨h, fun x H'' ⟨y1, y2⟩ => ?_⟩
      subst y1 y2
      exact ⟨G', Step.refl s2 t, p, .int _⟩
    · rw [List.getElem?_eq_none (by rw [List.length_range]; omega)] at e; cases e
  · unfold rangeL at hl
    rw [List.length_map, List.length_range] at hl
    exact hl
section
variable {X : Cx} {m : Md} {W : WX} {tg e a b : Expr} {f : EM}
theorem PI.imp {w w' : TI} (h : PI X tg e w) (i : ∀ σ H R, w' σ H R → w σ H R) : PI X tg e w' := ⟨fun pins s σ H R I q => h.run pins s σ H R I (i _ _ _ q)⟩
theorem PI.two {w1 w2 w : TI} (h1 : PI X tg e w1) (h2 : PI X tg e w2) (i : ∀ σ H R, w σ H R → w1 σ H R ∨ w2 σ H R) : PI X tg e w :=
  ⟨fun pins s σ H R I q => (i σ H R q).elim (h1.run pins s σ H R I) (h2.run pins s σ H R I)⟩
def iSeq (f : EM) : LM := fun env => bindM (f env) seqOf
/-- for x in a list, in a tuple -/
theorem di_seq (he : PE X e (tD m W f)) (hK : X.K = m.K := by rfl) : PI X tg e (tI m W (iSeq f)) := by
  refine PI.two (pi_list he) (pi_tup he) fun σ H R ⟨γ, B0, B, G, env, st, E, P⟩ => ?_
  have P := P.bind
  cases q : f env st with
  | none => rw [q] at P; exact False.elim P
  | some r =>
    obtain ⟨r, st1⟩ := r
    cases r with
    | error x =>
      rw [q] at P
      refine .inl ⟨γ, B0, B, G, env, st, E, ?_⟩
      rw [q]
      exact P
    | ok d =>
      rw [q] at P
      cases d with
      | lst l =>
        refine .inl ⟨γ, B0, B, G, env, st, E, ?_⟩
        rw [q]
        intro G1 H1 s1 p1 v rv
        obtain ⟨a, vs, rfl, h1, h2⟩ := rv.lst_inv
        have P2 : Post m γ G1 H1 (some (.ok l, st1)) _ _ := P G1 H1 s1 p1
        refine ⟨a, rfl, ⟨vs, .of (s1.sub _ _ h1)⟩, ?_⟩
        rw [hK]
        exact P2.now s1.sub s1.tok p1 _ (itl_is h1 h2)
      | tup l =>
        refine .inr ⟨γ, B0, B, G, env, st, E, ?_⟩
        rw [q]
        intro G1 H1 s1 p1 v rv
        obtain ⟨a, vs, rfl, h1, h2⟩ := rv.tup_inv
        have P2 : Post m γ G1 H1 (some (.ok l, st1)) _ _ := P G1 H1 s1 p1
        refine ⟨a, rfl, ⟨vs, by rw [hK]; exact SqT.same s1.sub h1⟩, ?_⟩
        rw [hK]
        exact P2.now s1.sub s1.tok p1 _ (itt_is h1 h2)
      | non => refine .inl ⟨γ, B0, B, G, env, st, E, ?_⟩; rw [q]; exact fun G1 H1 s1 p1 => False.elim (P G1 H1 s1 p1)
      | bl _ => refine .inl ⟨γ, B0, B, G, env, st, E, ?_⟩; rw [q]; exact fun G1 H1 s1 p1 => False.elim (P G1 H1 s1 p1)
      | int _ => refine .inl ⟨γ, B0, B, G, env, st, E, ?_⟩; rw [q]; exact fun G1 H1 s1 p1 => False.elim (P G1 H1 s1 p1)
      | str _ => refine .inl ⟨γ, B0, B, G, env, st, E, ?_⟩; rw [q]; exact fun G1 H1 s1 p1 => False.elim (P G1 H1 s1 p1)
      | dct _ => refine .inl ⟨γ, B0, B, G, env, st, E, ?_⟩; rw [q]; exact fun G1 H1 s1 p1 => False.elim (P G1 H1 s1 p1)
      | ins _ _ => refine .inl ⟨γ, B0, B, G, env, st, E, ?_⟩; rw [q]; exact fun G1 H1 s1 p1 => False.elim (P G1 H1 s1 p1)
      | exc _ _ => refine .inl ⟨γ, B0, B, G, env, st, E, ?_⟩; rw [q]; exact fun G1 H1 s1 p1 => False.elim (P G1 H1 s1 p1)
      | ref _ => refine .inl ⟨γ, B0, B, G, env, st, E, ?_⟩; rw [q]; exact fun G1 H1 s1 p1 => False.elim (P G1 H1 s1 p1)
def iRange : List D → M (List D)
  | [.int j] => if -(2 ^ 62) ≤ j ∧ j < 2 ^ 62 then pureM (rangeL 0 j.toNat) else failM
  | [.int i, .int j] => if -(2 ^ 62) ≤ i ∧ i < 2 ^ 62 ∧ -(2 ^ 62) ≤ j ∧ j < 2 ^ 62 then pureM (rangeL i (j - i).toNat) else failM
  | _ => failM
def iL (f : LM) : LM := fun env => bindM (f env) iRange
theorem RepL.one_inv {G : Hp} {vs : List V} {d : D} (h : RepL m G vs [d]) : ∃ v, vs = [v] ∧ Rep m G v d := by
  cases h with | cons r t => cases t; exact ⟨_, rfl, r⟩
theorem RepL.two_inv {G : Hp} {vs : List V} {d e : D} (h : RepL m G vs [d, e]) : ∃ v w, vs = [v, w] ∧ Rep m G v d ∧ Rep m G w e := by
  cases h with | cons r t => cases t with | cons r2 t2 => cases t2; exact ⟨_, _, rfl, r, r2⟩
theorem di_range1 {f : LM} {p pos : Pos} (hm : X.mg "range" = none) (ha : PA X [a] (tL m W f)) (hone : ∀ env st ds st', f env st = some (.ok ds, st') → ds.length = 1) (hg : Gl X "range" := by rfl) (hs : starEach [a] X.env = [(false, eval a X.env)] := by rfl) :
    PI X tg (.Call (.Name "range" p) [a] [] pos) (tI m W (iL f)) := by
  refine PI.imp (pi_range1 hg hm ha hs) fun σ H R ⟨γ, B0, B, G, env, st, E, P⟩ => ?_
  refine ⟨γ, B0, B, G, env, st, E, ?_⟩
  have P := P.bind
  cases q : f env st with
  | none => rw [q] at P; exact P
  | some r =>
    obtain ⟨r, st1⟩ := r
    rw [q] at P
    cases r with
    | error x => exact P
    | ok ds =>
      have hl := hone _ _ _ _ q
      match ds, hl with
      | [d], _ =>
        intro G1 H1 s1 p1 vs rvs
        obtain ⟨v, rfl, rv⟩ := rvs.one_inv
        have P1 := P G1 H1 s1 p1
        cases d with
        | int j =>
          obtain ⟨hj, P2⟩ := post_if P1
          exact ⟨j, by rw [rv.int_inv], hj.1, hj.2, P2.now s1.sub s1.tok p1 _ itr_is⟩
        | non => exact False.elim P1
        | bl _ => exact False.elim P1
        | str _ => exact False.elim P1
        | lst _ => exact False.elim P1
        | tup _ => exact False.elim P1
        | dct _ => exact False.elim P1
        | ins _ _ => exact False.elim P1
        | exc _ _ => exact False.elim P1
        | ref _ => exact False.elim P1
end

theorem di_range2 {X : Cx} {m : Md} {W : WX} {tg a b : Expr} {f : LM} {p pos : Pos} (hm : X.mg "range" = none) (ha : PA X [a, b] (tL m W f)) (htwo : ∀ env st ds st', f env st = some (.ok ds, st') → ds.length = 2) (hg : Gl X "range" := by rfl)
    (hs : starEach [a, b] X.env = [(false, eval a X.env), (false, eval b X.env)] := by rfl) (hs2 : starEach [b] X.env = [(false, eval b X.env)] := by rfl) : PI X tg (.Call (.Name "range" p) [a, b] [] pos) (tI m W (iL f)) := by
  refine PI.imp (pi_range2 hg hm ha hs hs2) fun σ H R ⟨γ, B0, B, G, env, st, E, P⟩ => ?_
  refine ⟨γ, B0, B, G, env, st, E, ?_⟩
  have P := P.bind
  cases q : f env st with
  | none => rw [q] at P; exact P
  | some r =>
    obtain ⟨r, st1⟩ := r
    rw [q] at P
    cases r with
    | error x => exact P
    | ok ds =>
      have hl := htwo _ _ _ _ q
      match ds, hl with
      | [d, e], _ =>
        intro G1 H1 s1 p1 vs rvs
        obtain ⟨v, w, rfl, rv, rw'⟩ := rvs.two_inv
        have P1 := P G1 H1 s1 p1
        have ex : ∃ i j, d = .int i ∧ e = .int j := by
          cases d <;> cases e <;> first | exact ⟨_, _, rfl, rfl⟩ | exact False.elim P1
        obtain ⟨i, j, rfl, rfl⟩ := ex
        obtain ⟨hj, P2⟩ := post_if P1
        exact ⟨i, j, by rw [rv.int_inv, rw'.int_inv], hj, P2.now s1.sub s1.tok p1 _ itr_is⟩
theorem lone {f : EM} : ∀ env st ds st', lCons f lNil env st = some (.ok ds, st') → ds.length = 1 := fun env st ds st' h => by
  unfold lCons bindM at h
  cases e : f env st with
  | none => rw [e] at h; cases h
  | some q =>
    obtain ⟨q, st1⟩ := q
    rw [e] at h
    cases q with
    | error x => cases h
    | ok d => cases h; rfl
theorem ltwo {f g : EM} : ∀ env st ds st', lCons f (lCons g lNil) env st = some (.ok ds, st') → ds.length = 2 := fun env st ds st' h => by
  unfold lCons bindM at h
  cases e : f env st with
  | none => rw [e] at h; cases h
  | some q =>
    obtain ⟨q, st1⟩ := q
    rw [e] at h
    cases q with
    | error x => cases h
    | ok d =>
      dsimp only at h
      cases e2 : g env st1 with
      | none => rw [e2] at h; cases h
      | some q2 =>
        obtain ⟨q2, st2⟩ := q2
        rw [e2] at h
        cases q2 with
        | error x => cases h
        | ok d2 => cases h; rfl
end DL
set_option Elab.async false
set_option linter.all false
set_option maxRecDepth 100000
/-! Dl4: loops, comprehensions, defs by data. -/
namespace DL
open PySem PySem.Spec PyProof.Rows L2

/-! ### for -/
def forD (F : D → List Sl → Option (List Sl)) (u : SM) : List D → SM
  | [], env, st => some (.ok .nx, env, st)
  | d :: ds, env, st => match F d env with
    | none => none
    | some env1 => match u env1 st with
      | some (.ok .nx, e, s) => forD F u ds e s
      | some (.ok .ct, e, s) => forD F u ds e s
      | some (.ok .bk, e, s) => some (.ok .nx, e, s)
      | r => r
def sFor (f : LM) (F : D → List Sl → Option (List Sl)) (u : SM) : SM := liftM f fun items env st => forD F u items env st
section
variable {X : Cx} {m : Md} {W : WX} {tg iter : Expr} {body : List Stmt} {f : LM} {u : SM} {pos : Pos} {F : D → List Sl → Option (List Sl)} {vs : List Nat}
theorem ds_for (hp : PassesOwn (model X.prog X.w) X.A X.env X.xe) (hc : X.calm = true) (hi : PI X tg iter (tI m W f)) (hg : PG X tg (tG m vs F)) (hb : PSs X body (tS m W u))
    (hs : ∀ x, foldedSetIterable iter X.env x = pure x := by intro _; rfl) : PS X (.For tg iter body [] pos) (tS m W (sFor f F u)) := by
  refine PS.imp (ps_for hp hc hi hg hb hs) fun Dn σ H ⟨γ, B0, B, G, env, st, E, P⟩ => ?_
  refine ⟨γ, B0, B, G, env, st, E, (P.lift E).imp fun items st1 G1 H1 s1 p1 P1 J ji => ?_⟩
  have E1 := E.step s1 p1
  have sB := E1.base
  refine ⟨fun i mm σ H => mm = items.length - i ∧ i ≤ items.length ∧ ∃ G env st, EnvOk m γ G1 B σ G H env st ∧ PostS m γ G1 B (forD F u (items.drop i) env st) Dn W, ⟨items.length, by simp, Nat.zero_le _, G1, env, st1, E1.up sB (Same.refl _), P1.up sB⟩, ?_⟩
  rintro i mm σ H ⟨rfl, hi, G, env, st, E, P⟩
  by_cases hlt : i < items.length
  · have ed : items.drop i = items[i] :: items.drop (i + 1) := List.drop_eq_getElem_cons hlt
    rw [ed] at P
    have P : PostS m γ G1 B (match F items[i] env with
      | none => none
      | some env1 => match u env1 st with
        | some (.ok .nx, e, s) => forD F u (items.drop (i + 1)) e s
        | some (.ok .ct, e, s) => forD F u (items.drop (i + 1)) e s
        | some (.ok .bk, e, s) => some (.ok .nx, e, s)
        | r => r) Dn W := P
    cases hF : F items[i] env with
    | none => rw [hF] at P; exact False.elim P
    | some env1 =>
      rw [hF] at P
      dsimp only at P
      obtain ⟨hgo, hy⟩ := ji.go G H st i items[i] E.base.gg E.sub E.tok E.pen (List.getElem?_eq_getElem hlt)
      refine .inr ⟨hgo, fun σ H => i + 1 ≤ items.length ∧ ∃ G env st, EnvOk m γ G1 B σ G H env st ∧ PostS m γ G1 B (forD F u (items.drop (i + 1)) env st) Dn W, fun σ' H' ⟨h1, h2⟩ => ⟨items.length - (i + 1), by omega, rfl, h1, h2⟩, fun x H'' y => ?_⟩
      obtain ⟨G'', s'', p'', rx⟩ := hy x H'' y
      refine ⟨γ, G1, B, G'', env, st, items[i], env1, E.step s'' p'', rx, hF, fun σ' E' _ _ => ⟨γ, G1, B, G'', env1, st, E', ?_⟩⟩
      cases hu : u env1 st with
      | none => rw [hu] at P; exact False.elim P
      | some r =>
        obtain ⟨fl, e, s⟩ := r
        rw [hu] at P
        cases fl with
        | error x => exact P
        | ok fl =>
          cases fl with
          | nx => exact fun σ2 G2 H2 E2 => ⟨hlt, G2, e, s, E2, P⟩
          | ct => exact fun σ2 G2 H2 E2 => ⟨hlt, G2, e, s, E2, P⟩
          | bk => exact P
          | ret d => exact P
  · have ed : items.drop i = [] := List.drop_eq_nil_of_le (by omega)
    rw [ed] at P
    exact .inl ⟨ji.stop G H i E.base.gg E.sub (by omega), P σ G H E⟩
/-! ### while: at most so many turns as the fuel says -/
def whileD (c : List Sl → M Bool) (u : SM) : Nat → SM
  | 0 => fun _ _ => none
  | n + 1 => liftM c fun b env st => if b = true then (match u env st with
      | some (.ok .nx, e, s) => whileD c u n e s
      | some (.ok .ct, e, s) => whileD c u n e s
      | some (.ok .bk, e, s) => some (.ok .nx, e, s)
      | r => r) else some (.ok .nx, env, st)
def sWhile (fuel : List Sl → Nat) (c : List Sl → M Bool) (u : SM) : SM := fun env st => whileD c u (fuel env) env st
theorem ds_while (fuel : List Sl → Nat) {t : Expr} {c : List Sl → M Bool} (hp : PassesOwn (model X.prog X.w) X.A X.env X.xe) (hc : PT X t (tT m W c)) (hb : PSs X body (tS m W u)) : PS X (.While t body [] pos) (tS m W (sWhile fuel c u)) := by
  refine PS.imp (ps_while hp hc hb) fun Dn σ H ⟨γ, B0, B, G, env, st, E, P⟩ => ?_
  refine ⟨fun n σ H => ∃ G env st, EnvOk m γ B0 B σ G H env st ∧ PostS m γ B0 B (whileD c u n env st) Dn W, ⟨fuel env, G, env, st, E, P⟩, ?_⟩
  rintro n σ H ⟨G, env, st, E, P⟩
  cases n with
  | zero => exact False.elim P
  | succ n =>
    refine ⟨γ, B0, B, G, env, st, E, (PostS.lift P E).imp fun b st1 G1 H1 s1 p1 P1 => ?_⟩
    have E1 := E.step s1 p1
    cases b with
    | false => exact iteF (P1 σ G1 H1 E1)
    | true =>
      refine iteT ⟨fun σ H => ∃ G env st, EnvOk m γ B0 B σ G H env st ∧ PostS m γ B0 B (whileD c u n env st) Dn W, fun σ' H' h => ⟨n, Nat.lt_succ_self n, h⟩, γ, B0, B, G1, env, st1, E1, ?_⟩
      have P1 : PostS m γ B0 B (match u env st1 with
        | some (.ok .nx, e, s) => whileD c u n e s
        | some (.ok .ct, e, s) => whileD c u n e s
        | some (.ok .bk, e, s) => some (.ok .nx, e, s)
        | r => r) Dn W := P1
      cases hu : u env st1 with
      | none => rw [hu] at P1; exact False.elim P1
      | some r =>
        obtain ⟨fl, e, s⟩ := r
        rw [hu] at P1
        cases fl with
        | error x => exact P1
        | ok fl =>
          cases fl with
          | nx => exact fun σ2 G2 H2 E2 => ⟨G2, e, s, E2, P1⟩
          | ct => exact fun σ2 G2 H2 E2 => ⟨G2, e, s, E2, P1⟩
          | bk => exact P1
          | ret d => exact P1
end

/-! ### comprehensions -/
def lcD (F : D → List Sl → Option (List Sl)) (c : List Sl → M Bool) (g : EM) (env : List Sl) : List D → M (List D)
  | [] => pureM []
  | d :: ds => match F d env with
    | none => failM
    | some env1 => bindM (noErr (c env1)) fun b => if b = true then bindM (noErr (g env1)) fun y => bindM (lcD F c g env ds) fun ys => pureM (y :: ys) else lcD F c g env ds
def lLc (vs : List Nat) (f : LM) (F : D → List Sl → Option (List Sl)) (c : List Sl → M Bool) (g : EM) : LM := fun env => bindM (f env) fun items => if items.length ≤ sizeLine then lcD F c g (wipeE env vs) items else failM
def eLc (vs : List Nat) (f : LM) (F : D → List Sl → Option (List Sl)) (c : List Sl → M Bool) (g : EM) : EM := fun env => bindM (lLc vs f F c g env) fun ys => pureM (.lst ys)
theorem wipe_in {σ : L2.St} {j : Nat} : ∀ {vs : List Nat}, j ∈ vs → (wipe σ vs)[j]? = if j < σ.length then some none else none
  | v :: vs, h => by
    show ((wipe σ vs).set v none)[j]? = _
    have hl := wipe_length σ vs
    by_cases e : v = j
    · subst e
      by_cases hv : v < σ.length
      · rw [List.getElem?_set_self (by omega), if_pos hv]
      · rw [if_neg hv, List.getElem?_eq_none (by rw [List.length_set]; omega)]
    · rw [List.getElem?_set_ne e]
      exact wipe_in ((List.mem_cons.mp h).resolve_left fun z => e z.symm)
theorem wipe_out {σ : L2.St} {j : Nat} : ∀ {vs : List Nat}, j ∉ vs → (wipe σ vs)[j]? = σ[j]?
  | [], _ => rfl
  | v :: vs, h => by
    rw [List.mem_cons, not_or] at h
    show ((wipe σ vs).set v none)[j]? = _
    rw [List.getElem?_set_ne fun z => h.1 z.symm]
    exact wipe_out h.2
theorem wipe_congr {σ σ2 : L2.St} {vs : List Nat} (hl : σ2.length = (wipe σ vs).length) (h : ∀ j, j ∉ vs → σ2[j]? = (wipe σ vs)[j]?) : wipe σ2 vs = wipe σ vs := by
  rw [wipe_length] at hl
  apply List.ext_getElem?
  intro j
  by_cases hj : j ∈ vs
  · rw [wipe_in hj, wipe_in hj, hl]
  · rw [wipe_out hj, h j hj]
section
variable {α β : Type} {m : Md} {γ : Gh} {G H G1 H1 : Hp} {W : XK}
theorem Post.bindAt {f : M α} {g : α → M β} {k : β → Pen → Hp → Hp → Prop} {st : Pen} (P : Post m γ G1 H1 (bindM f g st) k W) (s : Step γ G1 H1 G H) :
    Post m γ G H (f st) (fun a st' _ _ => Post m γ G1 H1 (g a st') k W) W := by
  unfold bindM at P
  cases e : f st with
  | none => rw [e] at P; exact P
  | some q =>
    obtain ⟨q, st1⟩ := q
    rw [e] at P
    cases q with
    | error x => exact fun cls dd G' H' s' p z => P cls dd G' H' (s.trans s') p z
    | ok a => exact fun G' H' s' p => P
end
theorem bind_assoc {α β δ : Type} (f : M α) (g : α → M β) (h : β → M δ) : bindM (bindM f g) h = bindM f fun a => bindM (g a) h := by
  funext st
  unfold bindM
  cases f st with
  | none => rfl
  | some q =>
    obtain ⟨q, st1⟩ := q
    cases q <;> rfl
section
variable {X : Cx} {m : Md} {W : WX} {f : LM} {F : D → List Sl → Option (List Sl)} {c : List Sl → M Bool} {g : EM} {vs ws : List Nat}
theorem lc_fill {σ : L2.St} {H : Hp} {Q : VK} {γ : Gh} {B0 B G : Hp} {env : List Sl} {st : Pen} (hw : ∀ j ∈ ws, j ∈ vs) (E : EnvOk m γ B0 B σ G H env st) (P : Post m γ G H (eLc vs f F c g env st) (KD m Q) fun cl dd H' => W cl dd σ H') :
    tLc (tI m W f) (tG m ws F) (tT m WF c) (tD m WF g) vs σ H Q := by
  have P : Post m γ G H (bindM (bindM (f env) fun items => if items.length ≤ sizeLine then lcD F c g (wipeE env vs) items else failM) (fun ys => pureM (.lst ys)) st) (KD m Q) fun cl dd H' => W cl dd σ H' := P
  rw [bind_assoc] at P
  refine ⟨γ, B0, B, G, env, st, E, P.bind.imp fun items st1 G1 H1 s1 p1 P1 J ji Da hDa => ?_⟩
  have hcase : items.length ≤ sizeLine ∧ Post m γ G1 H1 (bindM (lcD F c g (wipeE env vs) items) (fun ys => pureM (.lst ys)) st1) (KD m Q) fun cl dd H' => W cl dd σ H' := by
    by_cases hz : items.length ≤ sizeLine
    · rw [if_pos hz] at P1; exact ⟨hz, P1⟩
    · rw [if_neg hz] at P1; exact False.elim P1
  obtain ⟨hz, P1⟩ := hcase
  have E1 := E.step s1 p1
  have aD := p1.away hDa
  have gD1 : G1 Da = none := s1.sub.free hDa
  refine ⟨fun i mm H => mm = items.length - i ∧ i ≤ items.length ∧ ∃ (G : Hp) (st : Pen) (acc : List D), EnvOk m γ G1 B (σ ++ [some (.ref Da)]) G H (env ++ [.own acc]) st ∧ Step γ G1 H1 G H ∧ acc.length ≤ i ∧
      Post m γ G1 H1 (bindM (lcD F c g (wipeE env vs) (items.drop i)) (fun ys => pureM (.lst (acc ++ ys))) st) (KD m Q) fun cl dd H' => W cl dd σ H',
    ⟨items.length, by simp, Nat.zero_le _, G1, st1, [], (E1.up E1.base (Same.refl _)).push hDa .nil, Step.lay s1.sub s1.tok p1 hDa, Nat.le_refl _, by simpa using P1⟩, ?_⟩
  rintro i mm H ⟨rfl, hi, G, st, acc, Ex, sI, hacc, P⟩
  have E := Ex.pop
  obtain ⟨x, hx, p, accV, ep, hp, bp, gp, ap, racc⟩ := Ex.get (i := env.length) (s := .own acc) (by simp)
  rw [E.len] at hx
  simp only [List.getElem?_concat_length, Option.some.injEq] at hx
  subst hx
  simp only [Option.some.injEq, V.ref.injEq] at ep
  subst ep
  by_cases hlt : i < items.length
  · have ed : items.drop i = items[i] :: items.drop (i + 1) := List.drop_eq_getElem_cons hlt
    rw [ed] at P
    have P : Post m γ G1 H1 (bindM (match F items[i] (wipeE env vs) with
      | none => failM
      | some env1 => bindM (noErr (c env1)) fun b => if b = true then bindM (noErr (g env1)) fun y => bindM (lcD F c g (wipeE env vs) (items.drop (i + 1))) fun ys => pureM (y :: ys) else lcD F c g (wipeE env vs) (items.drop (i + 1))) (fun ys => pureM (.lst (acc ++ ys))) st) (KD m Q) fun cl dd H' => W cl dd σ H' := P
    cases hF : F items[i] (wipeE env vs) with
    | none => rw [hF] at P; exact False.elim P
    | some env1 =>
      rw [hF] at P
      dsimp only at P
      rw [bind_assoc] at P
      obtain ⟨hgo, hy⟩ := ji.go G H st i items[i] E.base.gg E.sub E.tok E.pen (List.getElem?_eq_getElem hlt)
      refine .inr ⟨hgo, fun H => i + 1 ≤ items.length ∧ ∃ (G : Hp) (st : Pen) (acc : List D), EnvOk m γ G1 B (σ ++ [some (.ref Da)]) G H (env ++ [.own acc]) st ∧ Step γ G1 H1 G H ∧ acc.length ≤ i + 1 ∧
        Post m γ G1 H1 (bindM (lcD F c g (wipeE env vs) (items.drop (i + 1))) (fun ys => pureM (.lst (acc ++ ys))) st) (KD m Q) fun cl dd H' => W cl dd σ H', fun H' ⟨h1, h2⟩ => ⟨items.length - (i + 1), by omega, rfl, h1, h2⟩, fun x H'' y => ?_⟩
      obtain ⟨G2, s2, p2, rx⟩ := hy x H'' y
      refine ⟨γ, G1, B, G2, wipeE env vs, st, items[i], env1, (E.step s2 p2).wipe vs, rx, hF, fun σ' E' k' l' => ⟨wipe_congr l' fun j hj => k' j fun z => hj (hw j z), ?_⟩⟩
      refine ⟨γ, G1, B, G2, env1, st, E', (P.bindAt (sI.trans s2)).noErr.imp fun b st3 G3 H3 s3 p3 P3 => ?_⟩
      cases b with
      | false => exact iteF ⟨hlt, G3, st3, acc, (Ex.step s2 p2).step s3 p3, (sI.trans s2).trans s3, by omega, P3⟩
      | true =>
        have P3 : Post m γ G1 H1 (bindM (bindM (noErr (g env1)) fun y => bindM (lcD F c g (wipeE env vs) (items.drop (i + 1))) fun ys => pureM (y :: ys)) (fun ys => pureM (.lst (acc ++ ys))) st3) (KD m Q) fun cl dd H' => W cl dd σ H' := P3
        rw [bind_assoc] at P3
        refine iteT ⟨γ, G1, B, G3, env1, st3, E'.step s3 p3, (P3.bindAt ((sI.trans s2).trans s3)).noErr.imp fun y st4 G4 H4 s4 p4 P4 v rv => ?_⟩
        have s24 := (s2.trans s3).trans s4
        have hp4 := s24.keep Da _ ap hp
        have gp4 := s24.new Da (by rw [hp]; intro z; cases z) gp
        have Ex4 := ((Ex.step s2 p2).step s3 p3).step s4 p4
        refine ⟨accV, hp4, by rw [racc.length]; omega, hlt, G4, st4, acc ++ [y], ?_, ?_, by rw [List.length_append]; exact Nat.succ_le_succ hacc, ?_⟩
        · have q := Ex4.upd (i := env.length) (l := acc) (l' := acc ++ [y]) (vs' := accV ++ [v]) (by simp) (by rw [E.len]; simp) hp4 bp gp4 ap ((racc.same s24.gg).append (.one rv))
          simpa using q
        · exact Step.mut (sI.trans s24) hDa gp4 ap ⟨_, hp4⟩
        · rw [bind_assoc] at P4
          have e : (fun ys : List D => bindM (pureM (y :: ys)) fun ys => pureM (D.lst (acc ++ ys))) = fun ys => (pureM (D.lst (acc ++ [y] ++ ys)) : M D) := by
            funext ys
            rw [bindM_pure, List.append_assoc, List.singleton_append]
          rw [e] at P4
          exact P4
  · have ed : items.drop i = [] := List.drop_eq_nil_of_le (by omega)
    rw [ed] at P
    refine .inl ⟨ji.stop G H i E.base.gg E.sub (by omega), ?_⟩
    have P : Post m γ G1 H1 (some (.ok (.lst (acc ++ [])), st)) (KD m Q) _ := P
    rw [List.append_nil] at P
    exact P _ _ (sI.freeze hp hDa gp) (E.pen.freeze hp ap gp) _ (.lst upd_same (racc.same fun b u e => by rw [upd_ne (ne_of_none e gp)]; exact e))
theorem dts_nil : PTs X [] (tT m W fun _ => pureM true) := by
  refine ⟨fun pins s σ H Q I h => pts_nil.run pins s σ H Q I ?_⟩
  obtain ⟨γ, B0, B, G, env, st, E, P⟩ := h
  exact P.now E.sub E.tok E.pen
theorem dts_one {e : Expr} (h : PT X e (tT m W c)) : PTs X [e] (tT m W c) := pts_one h
/-- [elt for target in iter if ..] -/
theorem de_lc {elt tg iter : Expr} {ifs : List Expr} {scope : Scope} {own : List (Str × Nat)} {pos : Pos} (hc : X.calm = true) (hN : X.N.Nodup) (hi : PI X tg iter (tI m W f)) (ok : BlkOk X.N X.env.scope scope own)
    (hg : ∀ (s : Shared) (H : Hp) (C : Addr) (cl : List (Str × Addr)) (fp : List Addr), PG (X.blk s H scope (compEnvC scope cl C X.env) fp) tg (tG m ws F)) (ht : ∀ (s : Shared) (H : Hp) (C : Addr) (cl : List (Str × Addr)) (fp : List Addr), PTs (X.blk s H scope (compEnvC scope cl C X.env) fp) ifs (tT m WF c))
    (he : ∀ (s : Shared) (H : Hp) (C : Addr) (cl : List (Str × Addr)) (fp : List Addr), PE (X.blk s H scope (compEnvC scope cl C X.env) fp) elt (tD m WF g)) (hw : ∀ j ∈ ws, j ∈ own.map (·.2) := by decide) (hs : ∀ x, foldedSetIterable iter X.env x = pure x := by intro _; rfl) :
    PE X (.ListComp elt [⟨tg, iter, ifs, 0⟩] scope pos) (tD m W (eLc (own.map (·.2)) f F c g)) :=
  PE.imp (pe_lc hc hN hi ok hg ht he hs) fun σ H Q ⟨γ, B0, B, G, env, st, E, P⟩ => lc_fill hw E P
theorem ds_setLc {i : Nat} {y : Str} {py : Pos} {elt tg iter : Expr} {ifs : List Expr} {scope : Scope} {own : List (Str × Nat)} {pos spos : Pos} (hc : X.calm = true) (hN : X.N.Nodup) (hsw : swapsWith (.ListComp elt [⟨tg, iter, ifs, 0⟩] scope pos) (some (.Name y py)) spos.line X.env = pure true) (hi : PI X tg iter (tI m W f)) (ok : BlkOk X.N X.env.scope scope own)
    (hg : ∀ (s : Shared) (H : Hp) (C : Addr) (cl : List (Str × Addr)) (fp : List Addr), PG (X.blk s H scope (compEnvC scope cl C X.env) fp) tg (tG m ws F)) (ht : ∀ (s : Shared) (H : Hp) (C : Addr) (cl : List (Str × Addr)) (fp : List Addr), PTs (X.blk s H scope (compEnvC scope cl C X.env) fp) ifs (tT m WF c))
    (he : ∀ (s : Shared) (H : Hp) (C : Addr) (cl : List (Str × Addr)) (fp : List Addr), PE (X.blk s H scope (compEnvC scope cl C X.env) fp) elt (tD m WF g)) (hy : X.N[i]? = some y := by rfl) (hyl : X.env.scope.names.lookup y = some .local := by rfl) (hw : ∀ j ∈ ws, j ∈ own.map (·.2) := by decide) (hs : ∀ x, foldedSetIterable iter X.env x = pure x := by intro _; rfl) :
    PS X (.Assign [.Name y py] (.ListComp elt [⟨tg, iter, ifs, 0⟩] scope pos) spos) (tS m W (sAsg i (eLc (own.map (·.2)) f F c g))) := by
  refine PS.imp (ps_setLc hc hN hy hyl hsw hi ok hg ht he hs) fun D σ H ⟨γ, B0, B, G, env, st, E, P⟩ => ?_
  exact lc_fill hw E ((P.lift E).imp fun d st1 G1 H1 s1 p1 P1 v rv => P1 _ G1 H1 ((E.step s1 p1).set rv))
end

/-! ### defs -/
section
variable {m : Md} {γ : Gh}
theorem start_get {N : List Str} {vs : List V} {i : Nat} : (L2.start N vs)[i]? = if i < vs.length then (vs[i]?).map some else if i < vs.length + (N.length - vs.length) then some none else none := by
  unfold L2.start
  by_cases h : i < vs.length
  · rw [if_pos h, List.getElem?_append_left (by simpa using h), List.getElem?_map]
  · rw [if_neg h, List.getElem?_append_right (by simpa using h), List.getElem?_replicate, List.length_map]
    by_cases h2 : i < vs.length + (N.length - vs.length)
    · rw [if_pos h2, if_pos (by omega)]
    · rw [if_neg h2, if_neg (by omega)]
theorem ArgsOk.at {G : Hp} : ∀ {as : List Sl} {vs : List V} {i : Nat} {s : Sl} {v : V}, ArgsOk m γ G as vs → as[i]? = some s → vs[i]? = some v → ArgOk m γ G s v
  | _, _, _, _, _, .nil, h, _ => by simp at h
  | _, _, 0, _, _, .cons a _, h1, h2 => by simp at h1 h2; subst h1; subst h2; exact a
  | _, _, i + 1, _, _, .cons _ r, h1, h2 => ArgsOk.at (i := i) r (by simpa using h1) (by simpa using h2)
theorem ArgOk.notOwn {G : Hp} : ∀ {s : Sl} {v : V}, ArgOk m γ G s v → s.isOwn = false
  | .val _, _, _ => rfl
  | .pen, _, _ => rfl
  | .no, _, _ => rfl
  | .own _, _, h => False.elim h
theorem ArgsOk.notOwn {G : Hp} : ∀ {as : List Sl} {vs : List V} {i : Nat} {s : Sl}, ArgsOk m γ G as vs → as[i]? = some s → s.isOwn = false
  | _, _, _, _, .nil, h => by simp at h
  | _, _, 0, s, .cons a _, h1 => by
    simp at h1
    subst h1
    exact ArgOk.notOwn a
  | _, _, i + 1, _, .cons _ r, h1 => ArgsOk.notOwn (i := i) r (by simpa using h1)
theorem env_start {G H : Hp} {N : List Str} {as : List Sl} {vs : List V} {st : Pen} (s : Same G H) (t : γ.tok G H) (p : PenOk m γ st G H) (a : ArgsOk m γ G as vs) : EnvOk m γ G H (L2.start N vs) G H (as ++ List.replicate (N.length - as.length) .no) st := by
  have hl := a.length
  have nowE : ∀ (i : Nat) (sl : Sl), (as ++ List.replicate (N.length - as.length) Sl.no)[i]? = some sl → (i < as.length ∧ as[i]? = some sl) ∨ sl = .no := fun i sl h => by
    by_cases hi : i < as.length
    · rw [List.getElem?_append_left hi] at h
      exact .inl ⟨hi, h⟩
    · rw [List.getElem?_append_right (by omega), List.getElem?_replicate] at h
      split at h
      · cases h; exact .inr rfl
      · cases h
  refine ⟨s, t, Step.refl s t, p, ?_, fun i sl x h1 h2 => ?_, fun i j s1 s2 x _ h1 _ o1 _ _ _ => ?_⟩
  · unfold L2.start
    simp only [List.length_append, List.length_map, List.length_replicate]
    omega
  · rcases nowE i sl h1 with ⟨hi, h⟩ | rfl
    · rw [start_get, if_pos (by omega)] at h2
      cases hv : vs[i]? with
      | none => rw [hv] at h2; cases h2
      | some v =>
        rw [hv] at h2
        cases h2
        have q := a.at h hv
        cases sl with
        | no => trivial
        | val d => exact ⟨v, rfl, q⟩
        | pen =>
          obtain ⟨p, hp, rfl⟩ := q
          exact ⟨p, hp, rfl⟩
        | own l => exact False.elim q
    · trivial
  · rcases nowE i s1 h1 with ⟨hi, h⟩ | rfl
    · rw [a.notOwn h] at o1; cases o1
    · cases o1
theorem body_fill {N : List Str} {u : SM} {vs : List V} {H : Hp} {Q : VK} {E : XK} (h : spF m (runF N.length u) vs H Q E) : tS m (fun c d _ H => E c d H) u { nx := fun _ H' => Q .non H', rt := Q } (L2.start N vs) H := by
  obtain ⟨γ, G, as, st, s, t, p, a, P⟩ := h
  refine ⟨γ, G, H, G, _, st, env_start s t p a, ?_⟩
  unfold runF at P
  cases q : u (as ++ List.replicate (N.length - as.length) .no) st with
  | none => rw [q] at P; exact P
  | some r =>
    obtain ⟨fl, env', st'⟩ := r
    rw [q] at P
    cases fl with
    | error x => exact fun σ' G' H' E' cls dd z => P cls dd G' H' E'.base E'.pen z
    | ok fl =>
      cases fl with
      | nx => exact fun σ' G' H' E' => P G' H' E'.base E'.pen .non .non
      | ret d => exact fun σ' G' H' E' v rv => P G' H' E'.base E'.pen v rv
      | bk => exact False.elim P
      | ct => exact False.elim P
/-- the promise speaks of so many arguments alone -/
def argN (n : Nat) (f : List Sl → M D) : List Sl → M D := fun as => if as.length = n then f as else failM
theorem argN_len {n : Nat} {f : List Sl → M D} {vs : List V} {H : Hp} {Q : VK} {E : XK} (h : spF m (argN n f) vs H Q E) : vs.length = n := by
  obtain ⟨γ, G, as, st, s, t, p, a, P⟩ := h
  unfold argN at P
  by_cases hl : as.length = n
  · rw [← a.length]; exact hl
  · rw [if_neg hl] at P; exact False.elim P
theorem argN_use {n : Nat} {f : List Sl → M D} {vs : List V} {H : Hp} {Q : VK} {E : XK} (h : spF m (argN n f) vs H Q E) : spF m f vs H Q E := by
  obtain ⟨γ, G, as, st, s, t, p, a, P⟩ := h
  unfold argN at P
  by_cases hl : as.length = n
  · rw [if_pos hl] at P; exact ⟨γ, G, as, st, s, t, p, a, P⟩
  · rw [if_neg hl] at P; exact False.elim P
end
end DL
set_option Elab.async false
set_option linter.all false
set_option maxRecDepth 100000
/-! Dl5: what operators and built-ins do with data. -/
namespace DL
open PySem PySem.Spec PyProof.Rows L2

/-! ### data that == and repr read -/
mutual
def D.py : D → PyData
  | .non => .none
  | .bl b => .bool b
  | .int i => .int i
  | .str s => .str s
  | .lst l => .list (D.pys l)
  | .tup l => .tuple (D.pys l)
  | .dct _ => .none
  | .ins _ _ => .none
  | .exc _ _ => .none
  | .ref _ => .none
def D.pys : List D → List PyData
  | [] => []
  | d :: ds => d.py :: D.pys ds
end
mutual
def D.plain : D → Bool
  | .non => true
  | .bl _ => true
  | .int _ => true
  | .str _ => true
  | .lst l => D.plains l
  | .tup l => D.plains l
  | .dct _ => false
  | .ins _ _ => false
  | .exc _ _ => false
  | .ref _ => false
def D.plains : List D → Bool
  | [] => true
  | d :: ds => d.plain && D.plains ds
end
section
variable {m : Md} {G H : Hp}
mutual
theorem Rep.dp (e : Same G H) : ∀ {v : V} {d : D}, Rep m G v d → d.plain = true → Dp m.K H v d.py
  | _, _, .non, _ => .non
  | _, _, .bl b, _ => .bl b
  | _, _, .int i, _ => .int i
  | _, _, .str x, _ => .str x
  | _, _, .lst h r, q => .lst (.of (e _ _ h)) (RepL.dp e r (by simpa [D.plain] using q))
  | _, _, .tup h r, q => .tup (SqT.same e h) (RepL.dp e r (by simpa [D.plain] using q))
  | _, _, .dct _ _ _, q => by simp [D.plain] at q
  | _, _, .ins _ _ _ _, q => by simp [D.plain] at q
  | _, _, .ref _, q => by simp [D.plain] at q
theorem RepL.dp (e : Same G H) : ∀ {vs : List V} {ds : List D}, RepL m G vs ds → D.plains ds = true → DpAll m.K H vs (D.pys ds)
  | _, _, .nil, _ => .nil
  | _, _, .cons h r, q => by
    rw [D.plains, Bool.and_eq_true] at q
    exact .cons (Rep.dp e h q.1) (RepL.dp e r q.2)
end
end
/-- what == serves -/
def D.fit (d : D) : Bool := d.plain && SeqAt.shaped d.py
def eqD (a b : D) : Bool := PyData.eqv a.py b.py
def eqM (a b : D) : M D := if (a.fit && b.fit) = true then pureM (.bl (eqD a b)) else failM
def neM (a b : D) : M D := if (a.fit && b.fit) = true then pureM (.bl (!eqD a b)) else failM
section
variable {X : Cx} {m : Md}
theorem fit_and {a b : D} (h : (a.fit && b.fit) = true) : (a.plain = true ∧ SeqAt.shaped a.py = true) ∧ b.plain = true ∧ SeqAt.shaped b.py = true := by
  rw [Bool.and_eq_true] at h
  unfold D.fit at h
  rw [Bool.and_eq_true, Bool.and_eq_true] at h
  exact h
theorem od_eq (hu : X.A.units + 64 < cLine) (hK : X.K = m.K := by rfl) : OpD X m (compareOp .Eq) eqM := by
  refine ⟨_, op_eqD hu, fun γ st G H v w d e Q W s t p rv rw P => ?_⟩
  obtain ⟨hf, P2⟩ := post_if P
  obtain ⟨⟨a1, a2⟩, b1, b2⟩ := fit_and hf
  rw [hK]
  exact ⟨_, _, rv.dp s a1, rw.dp s b1, a2, b2, P2.now s t p _ (.bl _)⟩
theorem od_ne (hu : X.A.units + 64 < cLine) (hK : X.K = m.K := by rfl) : OpD X m (compareOp .NotEq) neM := by
  refine ⟨_, op_neD hu, fun γ st G H v w d e Q W s t p rv rw P => ?_⟩
  obtain ⟨hf, P2⟩ := post_if P
  obtain ⟨⟨a1, a2⟩, b1, b2⟩ := fit_and hf
  rw [hK]
  exact ⟨_, _, rv.dp s a1, rw.dp s b1, a2, b2, P2.now s t p _ (.bl _)⟩
end

/-! ### ints -/
def intM2 (C : Int → Int → Bool) (F : Int → Int → D) : D → D → M D := fun d e => match d, e with
  | .int i, .int j => if C i j = true then pureM (F i j) else failM
  | _, _ => failM
section
variable {X : Cx} {m : Md}
theorem ex_ints {C : Int → Int → Bool} {F : Int → Int → D} {γ : Gh} {G H : Hp} {d e : D} {st : Pen} {k : D → Pen → Hp → Hp → Prop} {W : XK} (P : Post m γ G H (intM2 C F d e st) k W) :
    ∃ i j, d = .int i ∧ e = .int j ∧ C i j = true ∧ Post m γ G H (some (.ok (F i j), st)) k W := by
  cases d <;> cases e <;> first
    | exact False.elim P
    | (rename_i i j
       obtain ⟨h1, h2⟩ := post_if P
       exact ⟨i, j, rfl, rfl, h1, h2⟩)
theorem od_int {f : Value → Value → Sem Value} {Cp : Int → Int → Prop} {g : Int → Int → V} {C : Int → Int → Bool} {F : Int → Int → D} (ho : OpR X f (rI Cp g)) (hC : ∀ i j, C i j = true → Cp i j) (hF : ∀ (G : Hp) i j, Rep m G (g i j) (F i j)) : OpD X m f (intM2 C F) := by
  refine ⟨_, ho, fun γ st G H v w d e Q W s t p rv rw P => ?_⟩
  obtain ⟨i, j, rfl, rfl, hc, P2⟩ := ex_ints P
  exact ⟨i, j, rv.int_inv, rw.int_inv, hC i j hc, P2.now s t p _ (hF G i j)⟩
theorem od_int0 {f : Value → Value → Sem Value} {g : Int → Int → V} {C : Int → Int → Bool} {F : Int → Int → D} (ho : OpR X f (rI0 g)) (hF : ∀ (G : Hp) i j, Rep m G (g i j) (F i j)) : OpD X m f (intM2 C F) := by
  refine ⟨_, ho, fun γ st G H v w d e Q W s t p rv rw P => ?_⟩
  obtain ⟨i, j, rfl, rfl, hc, P2⟩ := ex_ints P
  exact ⟨i, j, rv.int_inv, rw.int_inv, P2.now s t p _ (hF G i j)⟩
def subM : D → D → M D := intM2 (fun _ _ => true) fun i j => .int (i - j)
theorem od_sub : OpD X m (binaryOp .Sub) subM := od_int0 op_sub fun _ _ _ => .int _
def fdivM : D → D → M D := intM2 (fun _ j => decide (0 < j) && decide (j.natAbs.log2 < 9000)) fun i j => .int (i / j)
theorem od_fdiv : OpD X m (binaryOp .FloorDiv) fdivM := od_int op_fdivW (fun i j h => by
  rw [Bool.and_eq_true] at h
  exact ⟨of_decide_eq_true h.1, of_decide_eq_true h.2⟩) fun _ _ _ => .int _
def modM : D → D → M D := intM2 (fun _ j => decide (0 < j)) fun i j => .int (i % j)
theorem od_mod : OpD X m (binaryOp .Mod) modM := od_int op_mod (fun i j h => of_decide_eq_true h) fun _ _ _ => .int _
def powM : D → D → M D := intM2 (fun i j => decide (0 ≤ j) && decide (j ≤ 1000000) && decide (i.natAbs < 2 ^ 64)) fun i j => .int (i ^ j.toNat)
theorem od_pow : OpD X m (binaryOp .Pow) powM := od_int op_pow (fun i j h => by
  rw [Bool.and_eq_true, Bool.and_eq_true] at h
  exact ⟨of_decide_eq_true h.1.1, of_decide_eq_true h.1.2, of_decide_eq_true h.2⟩) fun _ _ _ => .int _
/-- ints, or texts -/
def cmpM (fi : Int → Int → Bool) (fs : Str → Str → Bool) : D → D → M D := fun d e => match d, e with
  | .int i, .int j => pureM (.bl (fi i j))
  | .str i, .str j => pureM (.bl (fs i j))
  | _, _ => failM
theorem ex_cmp {fi : Int → Int → Bool} {fs : Str → Str → Bool} {γ : Gh} {G H : Hp} {d e : D} {st : Pen} {k : D → Pen → Hp → Hp → Prop} {W : XK} (P : Post m γ G H (cmpM fi fs d e st) k W) :
    (∃ i j, d = .int i ∧ e = .int j ∧ Post m γ G H (some (.ok (.bl (fi i j)), st)) k W) ∨ ∃ i j, d = .str i ∧ e = .str j ∧ Post m γ G H (some (.ok (.bl (fs i j)), st)) k W := by
  cases d <;> cases e <;> first
    | exact False.elim P
    | exact .inl ⟨_, _, rfl, rfl, P⟩
    | exact .inr ⟨_, _, rfl, rfl, P⟩
theorem od_cmp {f : Value → Value → Sem Value} {fi : Int → Int → Bool} {fs : Str → Str → Bool} (h1 : OpR X f (rI0 fun i j => .bl (fi i j))) (h2 : OpR X f (fun x y H Q => ∃ i j, x = .str i ∧ y = .str j ∧ Q (.bl (fs i j)) H)) : OpD X m f (cmpM fi fs) := by
  refine ⟨_, h1.or h2, fun γ st G H v w d e Q W s t p rv rw P => ?_⟩
  rcases ex_cmp P with ⟨i, j, rfl, rfl, P2⟩ | ⟨i, j, rfl, rfl, P2⟩
  · exact .inl ⟨i, j, rv.int_inv, rw.int_inv, P2.now s t p _ (.bl _)⟩
  · exact .inr ⟨i, j, rv.str_inv, rw.str_inv, P2.now s t p _ (.bl _)⟩
def ltM : D → D → M D := cmpM (fun i j => decide (i < j)) fun i j => decide (i.cps.toList < j.cps.toList)
theorem od_lt : OpD X m (compareOp .Lt) ltM := od_cmp op_lt op_lt_str
def leM : D → D → M D := cmpM (fun i j => decide (i ≤ j)) fun i j => !decide (j.cps.toList < i.cps.toList)
theorem od_le : OpD X m (compareOp .LtE) leM := od_cmp op_le op_le_str
def gtM : D → D → M D := intM2 (fun _ _ => true) fun i j => .bl (decide (j < i))
theorem od_gt : OpD X m (compareOp .Gt) gtM := od_int0 op_gt fun _ _ _ => .bl _
def geM : D → D → M D := intM2 (fun _ _ => true) fun i j => .bl (decide (j ≤ i))
theorem od_ge : OpD X m (compareOp .GtE) geM := od_int0 op_ge fun _ _ _ => .bl _
def negM : D → M D
  | .int i => pureM (.int (-i))
  | _ => failM
theorem ud_neg : UnD X m (unaryOp .USub) negM := by
  refine ⟨_, un_neg, fun γ st G H v d Q W s t p rv P => ?_⟩
  cases d with
  | int i => exact ⟨i, rv.int_inv, Post.now (st := st) (a := D.int (-i)) P s t p _ (.int _)⟩
  | non => exact False.elim P
  | bl _ => exact False.elim P
  | str _ => exact False.elim P
  | lst _ => exact False.elim P
  | tup _ => exact False.elim P
  | dct _ => exact False.elim P
  | ins _ _ => exact False.elim P
  | exc _ _ => exact False.elim P
  | ref _ => exact False.elim P

/-! ### + -/
def addM : D → D → M D := fun d e => match d, e with
  | .int i, .int j => pureM (.int (i + j))
  | .str i, .str j => if i.length + j.length ≤ sizeLine then pureM (.str (i ++ j)) else failM
  | .lst a, .lst b => if a.length + b.length ≤ sizeLine then pureM (.lst (a ++ b)) else failM
  | .tup a, .tup b => if a ≠ [] ∧ b ≠ [] ∧ a.length + b.length ≤ sizeLine then pureM (.tup (a ++ b)) else failM
  | _, _ => failM
theorem RepL.ne {G : Hp} {vs : List V} {ds : List D} (r : RepL m G vs ds) (h : ds ≠ []) : vs ≠ [] := fun z => by
  subst z
  cases r
  exact h rfl
theorem od_add (hK : X.K = m.K := by rfl) : OpD X m (binaryOp .Add) addM := by
  refine ⟨_, op_add.or (op_add_str.or (op_cat.or op_catT)), fun γ st G H v w d e Q W s t p rv rw P => ?_⟩
  cases d <;> cases e <;> first
    | exact False.elim P
    | skip
  · exact .inl ⟨_, _, rv.int_inv, rw.int_inv, Post.now (a := D.int _) P s t p _ (.int _)⟩
  · obtain ⟨h1, P2⟩ := post_if P
    exact .inr (.inl ⟨_, _, rv.str_inv, rw.str_inv, h1, P2.now s t p _ (.str _)⟩)
  · obtain ⟨h1, P2⟩ := post_if P
    obtain ⟨a, vs, rfl, a1, a2⟩ := rv.lst_inv
    obtain ⟨b, ws, rfl, b1, b2⟩ := rw.lst_inv
    refine .inr (.inr (.inl ⟨a, b, vs, ws, rfl, rfl, s _ _ a1, s _ _ b1, by rw [a2.length, b2.length]; exact h1, fun q hq => ?_⟩))
    have sa := Step.alloc (o := .lst (vs ++ ws)) s t p hq
    exact P2 _ _ sa (p.alloc s t hq) _ (.lst upd_same ((a2.append b2).same sa.gg))
  · obtain ⟨h1, P2⟩ := post_if P
    obtain ⟨a, vs, rfl, a1, a2⟩ := rv.tup_inv
    obtain ⟨b, ws, rfl, b1, b2⟩ := rw.tup_inv
    refine .inr (.inr (.inr ⟨a, b, vs, ws, rfl, rfl, by rw [hK]; exact SqT.same s a1, by rw [hK]; exact SqT.same s b1, a2.ne h1.1, by rw [a2.length, b2.length]; exact h1.2.2, fun z => absurd z (b2.ne h1.2.1), fun _ q hq => ?_⟩))
    have sa := Step.alloc (o := .tup (vs ++ ws)) s t p hq
    exact P2 _ _ sa (p.alloc s t hq) _ (.tup (.of upd_same) ((a2.append b2).same sa.gg))
/-- * of ints: one of them below 2^64, or both together below a million bits -/
def mulOk (i j : Int) : Bool := decide (i.natAbs.log2 + j.natAbs.log2 < 1000000) || (decide (-(2 ^ 64) < i) && decide (i < 2 ^ 64)) || (decide (-(2 ^ 64) < j) && decide (j < 2 ^ 64))
def mulM : D → D → M D := intM2 mulOk fun i j => .int (i * j)
theorem od_mul : OpD X m (binaryOp .Mult) mulM := by
  refine ⟨_, op_mulW.or op_mul, fun γ st G H v w d e Q W s t p rv rw P => ?_⟩
  obtain ⟨i, j, rfl, rfl, hc, P2⟩ := ex_ints P
  have q := P2.now s t p _ (.int _)
  unfold mulOk at hc
  rw [Bool.or_eq_true, Bool.or_eq_true, Bool.and_eq_true, Bool.and_eq_true] at hc
  rcases hc with (hc | hc) | hc
  · have hc' : i.natAbs.log2 + j.natAbs.log2 < 1000000 := of_decide_eq_true hc
    exact .inl ⟨i, j, rv.int_inv, rw.int_inv, hc', q⟩
  · exact .inr ⟨i, j, rv.int_inv, rw.int_inv, .inl ⟨of_decide_eq_true hc.1, of_decide_eq_true hc.2⟩, q⟩
  · exact .inr ⟨i, j, rv.int_inv, rw.int_inv, .inr ⟨of_decide_eq_true hc.1, of_decide_eq_true hc.2⟩, q⟩

/-! ### is -/
def isNM : D → D → M D := fun d e => match e with
  | .non => match d with
    | .non => pureM (.bl true)
    | _ => pureM (.bl false)
  | _ => failM
def notNM : D → D → M D := fun d e => match e with
  | .non => match d with
    | .non => pureM (.bl false)
    | _ => pureM (.bl true)
  | _ => failM
theorem Rep.isN {G : Hp} {v : V} {d : D} (r : Rep m G v d) : decide (v = .non) = (match d with | .non => true | _ => false) := by
  cases r <;> rfl
theorem od_isN : OpD X m (compareOp .Is) isNM := by
  refine ⟨_, op_isN, fun γ st G H v w d e Q W s t p rv rw P => ?_⟩
  cases e <;> first
    | exact False.elim P
    | skip
  refine ⟨rw.non_inv, ?_⟩
  rw [rv.isN]
  cases d <;> exact Post.now (a := D.bl _) P s t p _ (.bl _)
theorem od_notN : OpD X m (compareOp .IsNot) notNM := by
  refine ⟨_, op_notN, fun γ st G H v w d e Q W s t p rv rw P => ?_⟩
  cases e <;> first
    | exact False.elim P
    | skip
  refine ⟨rw.non_inv, ?_⟩
  rw [rv.isN]
  cases d <;> exact Post.now (a := D.bl _) P s t p _ (.bl _)
def blM2 (F : Bool → Bool → Bool) : D → D → M D := fun d e => match d, e with
  | .bl a, .bl b => pureM (.bl (F a b))
  | _, _ => failM
def isBM : D → D → M D := blM2 fun a b => decide (a = b)
def notBM : D → D → M D := blM2 fun a b => !decide (a = b)
theorem od_isB : OpD X m (compareOp .Is) isBM := by
  refine ⟨_, op_isBl, fun γ st G H v w d e Q W s t p rv rw P => ?_⟩
  cases d <;> cases e <;> first
    | exact False.elim P
    | exact ⟨_, _, rv.bl_inv, rw.bl_inv, Post.now (a := D.bl _) P s t p _ (.bl _)⟩
theorem od_notB : OpD X m (compareOp .IsNot) notBM := by
  refine ⟨_, op_notBl, fun γ st G H v w d e Q W s t p rv rw P => ?_⟩
  cases d <;> cases e <;> first
    | exact False.elim P
    | exact ⟨_, _, rv.bl_inv, rw.bl_inv, Post.now (a := D.bl _) P s t p _ (.bl _)⟩

/-! ### in -/
def D.flat : D → Bool
  | .non => true
  | .bl _ => true
  | .int _ => true
  | .str _ => true
  | _ => false
theorem Rep.flat {G : Hp} {v : V} {d : D} (r : Rep m G v d) (h : d.flat = true) : flatV v = true ∧ d.plain = true := by
  cases r <;> first
    | exact ⟨rfl, rfl⟩
    | cases h
theorem eqV_D {G : Hp} {v w : V} {d e : D} (r : Rep m G v d) (q : Rep m G w e) (hd : d.flat = true) (he : e.flat = true) : eqV v w = eqD d e := by
  cases d <;> (try (cases hd; done)) <;> cases e <;> (try (cases he; done)) <;> cases r <;> cases q <;> simp [eqV, eqD, D.py, PyData.eqv]
theorem RepL.flat {G : Hp} : ∀ {vs : List V} {ds : List D}, RepL m G vs ds → ds.all D.flat = true → vs.all flatV = true
  | _, _, .nil, _ => rfl
  | _, _, .cons r t, h => by
    rw [List.all_cons, Bool.and_eq_true] at h ⊢
    exact ⟨(r.flat h.1).1, RepL.flat t h.2⟩
theorem inV_D {G : Hp} {v : V} {d : D} (r : Rep m G v d) (hd : d.flat = true) : ∀ {vs : List V} {ds : List D}, RepL m G vs ds → ds.all D.flat = true → inV v vs = ds.any fun e => eqD e d
  | _, _, .nil, _ => rfl
  | _, _, .cons q t, h => by
    rw [List.all_cons, Bool.and_eq_true] at h
    have ih := inV_D r hd t h.2
    unfold inV at ih ⊢
    rw [List.any_cons, List.any_cons, ih, eqV_D q r h.1 hd]
/-- x in a list or tuple of flat things; a text in a text -/
def inM (F : Bool → Bool) : D → D → M D := fun d e => match e with
  | .lst l => if (d.flat && l.all D.flat) = true then pureM (.bl (F (l.any fun z => eqD z d))) else failM
  | .tup l => if (d.flat && l.all D.flat) = true then pureM (.bl (F (l.any fun z => eqD z d))) else failM
  | .str t => match d with
    | .str s => pureM (.bl (F (!(Builtin.Str.occurrences t s 0 t.length 1).isEmpty)))
    | _ => failM
  | _ => failM
def isInM : D → D → M D := inM fun b => b
def notInM : D → D → M D := inM fun b => !b
theorem od_inG {f : Value → Value → Sem Value} {F : Bool → Bool} {neg : Bool} (hF : ∀ b, F b = if neg = true then !b else b) (h1 : OpR X f (rIn m.K neg)) (h2 : OpR X f (fun x y H Q => ∃ i j, x = .str i ∧ y = .str j ∧ Q (.bl (F (!(Builtin.Str.occurrences j i 0 j.length 1).isEmpty))) H)) : OpD X m f (inM F) := by
  refine ⟨_, h1.or h2, fun γ st G H v w d e Q W s t p rv rw P => ?_⟩
  cases e <;> first
    | exact False.elim P
    | skip
  · cases d <;> first
      | exact False.elim P
      | skip
    exact .inr ⟨_, _, rv.str_inv, rw.str_inv, Post.now (a := D.bl _) P s t p _ (.bl _)⟩
  · obtain ⟨hf, P2⟩ := post_if P
    rw [Bool.and_eq_true] at hf
    obtain ⟨b, ws, rfl, b1, b2⟩ := rw.lst_inv
    refine .inl ⟨b, ws, rfl, .inl (.of (s _ _ b1)), (rv.flat hf.1).1, b2.flat hf.2, ?_⟩
    rw [inV_D rv hf.1 b2 hf.2, ← hF]
    exact P2.now s t p _ (.bl _)
  · obtain ⟨hf, P2⟩ := post_if P
    rw [Bool.and_eq_true] at hf
    obtain ⟨b, ws, rfl, b1, b2⟩ := rw.tup_inv
    refine .inl ⟨b, ws, rfl, .inr (SqT.same s b1), (rv.flat hf.1).1, b2.flat hf.2, ?_⟩
    rw [inV_D rv hf.1 b2 hf.2, ← hF]
    exact P2.now s t p _ (.bl _)
theorem od_in (hK : X.K = m.K := by rfl) : OpD X m (compareOp .In) isInM := od_inG (neg := false) (fun b => by simp) (by rw [← hK]; exact op_in_seq) op_in_str
theorem od_notIn (hK : X.K = m.K := by rfl) : OpD X m (compareOp .NotIn) notInM := od_inG (neg := true) (fun b => by simp) (by rw [← hK]; exact op_notIn_seq) op_notIn_str

/-! ### subscripts -/
def ixM : D → D → M D := fun d e => match e with
  | .int i => match d with
    | .lst l => match atI l i with
      | some x => pureM x
      | none => failM
    | .tup l => match atI l i with
      | some x => pureM x
      | none => failM
    | .str z => if z.length ≤ sizeLine then (match atI z.cps.toList i with
      | some c => pureM (.str ⟨#[c]⟩)
      | none => failM) else failM
    | _ => failM
  | _ => failM
theorem atI_rep {G : Hp} {vs : List V} {ds : List D} {i : Int} {d : D} (r : RepL m G vs ds) (h : atI ds i = some d) : ∃ v, atI vs i = some v ∧ Rep m G v d := by
  unfold atI at h ⊢
  rw [r.length]
  cases e : ixN ds.length i with
  | none => rw [e] at h; cases h
  | some j =>
    rw [e] at h
    exact r.get h
theorem post_some {α : Type} {γ : Gh} {G H : Hp} {o : Option D} {f : D → M α} {st : Pen} {k : α → Pen → Hp → Hp → Prop} {W : XK} (P : Post m γ G H ((match o with | some x => f x | none => failM) st) k W) : ∃ x, o = some x ∧ Post m γ G H (f x st) k W := by
  cases o with
  | none => exact False.elim P
  | some x => exact ⟨x, rfl, P⟩
theorem xd_ix (hK : X.K = m.K := by rfl) : IxD X m ixM := by
  refine ⟨_, ix_seq, fun γ st G H v w d e Q W s t p rv rw P => ?_⟩
  cases e <;> first
    | exact False.elim P
    | skip
  cases d <;> first
    | exact False.elim P
    | skip
  · rename_i i z
    have P : Post m γ G H ((if z.length ≤ sizeLine then (match atI z.cps.toList i with
      | some c => pureM (.str ⟨#[c]⟩)
      | none => failM) else failM) st) (KD m Q) W := P
    obtain ⟨hz, P2⟩ := post_if P
    cases hc : atI z.cps.toList i with
    | none => rw [hc] at P2; exact False.elim P2
    | some c =>
      rw [hc] at P2
      exact .inr (.inr ⟨z, i, c, rv.str_inv, rw.int_inv, hz, hc, Post.now (a := D.str _) P2 s t p _ (.str _)⟩)
  · rename_i i l
    obtain ⟨x, hx, P2⟩ := post_some (o := atI l i) P
    obtain ⟨a, vs, rfl, a1, a2⟩ := rv.lst_inv
    obtain ⟨u, h1, h2⟩ := atI_rep a2 hx
    exact .inl ⟨a, vs, i, u, rfl, rw.int_inv, .of (s _ _ a1), h1, Post.now (a := x) P2 s t p _ h2⟩
  · rename_i i l
    obtain ⟨x, hx, P2⟩ := post_some (o := atI l i) P
    obtain ⟨a, vs, rfl, a1, a2⟩ := rv.tup_inv
    obtain ⟨u, h1, h2⟩ := atI_rep a2 hx
    exact .inr (.inl ⟨a, vs, i, u, rfl, rw.int_inv, by rw [hK]; exact SqT.same s a1, h1, Post.now (a := x) P2 s t p _ h2⟩)
/-- a[lo:hi] of a list -/
def cutD (ds : List D) (lo hi : Option Int) : List D := (ds.drop (HT.sIx ds.length 0 lo)).take (HT.sIx ds.length ds.length hi - HT.sIx ds.length 0 lo)
abbrev OM := List Sl → M (Option Int)
def oNone : OM := fun _ => pureM none
def oSome (f : EM) : OM := fun env => bindM (f env) fun d => match d with
  | .int i => pureM (some i)
  | _ => failM
def tOD (m : Md) (W : WX) (f : OM) : TO := fun σ H Q => ∃ γ B0 B G env st, EnvOk m γ B0 B σ G H env st ∧ Post m γ G H (f env st) (fun o _ _ H' => Q o H') fun c d H' => W c d σ H'
theorem PO.imp {e : Option Expr} {t t' : TO} (h : PO X e t) (w : ∀ σ H Q, t' σ H Q → t σ H Q) : PO X e t' := ⟨fun pins s σ H Q I q => h.run pins s σ H Q I (w _ _ _ q)⟩
theorem do_none {W : WX} : PO X none (tOD m W oNone) := PO.imp po_none fun σ H Q ⟨γ, B0, B, G, env, st, E, P⟩ => P.now E.sub E.tok E.pen
theorem do_some {W : WX} {e : Expr} {f : EM} (h : PE X e (tD m W f)) : PO X (some e) (tOD m W (oSome f)) := by
  refine PO.imp (po_some h) fun σ H Q ⟨γ, B0, B, G, env, st, E, P⟩ => ?_
  refine ⟨γ, B0, B, G, env, st, E, P.bind.imp fun d st1 G1 H1 s1 p1 P1 v rv => ?_⟩
  cases d <;> first
    | exact False.elim P1
    | exact ⟨_, rv.int_inv, Post.now (a := some _) P1 s1.sub s1.tok p1⟩
def eSlL (f : EM) (lo hi : OM) : EM := fun env => bindM (f env) fun d => bindM (lo env) fun i => bindM (hi env) fun j => match d with
  | .lst l => pureM (.lst (cutD l i j))
  | _ => failM
theorem RepL.cut {G : Hp} {vs : List V} {ds : List D} (r : RepL m G vs ds) (lo hi : Option Int) : RepL m G (cutV vs lo hi) (cutD ds lo hi) := by
  unfold cutV cutD
  rw [r.length]
  exact (r.drop _).take _
theorem de_sliceL {W : WX} {e : Expr} {f : EM} {lo hi : Option Expr} {fl fh : OM} {p2 pos : Pos} (he : PE X e (tD m W f)) (hl : PO X lo (tOD m W fl)) (hh : PO X hi (tOD m W fh)) : PE X (.Subscript e (.Slice lo hi none p2) pos) (tD m W (eSlL f fl fh)) := by
  refine PE.imp (pe_slice sl_list he hl hh) fun σ H Q ⟨γ, B0, B, G, env, st, E, P⟩ => ?_
  refine ⟨γ, B0, B, G, env, st, E, P.bind.imp fun d st1 G1 H1 s1 p1 P1 v rv => ?_⟩
  refine ⟨γ, B0, B, G1, env, st1, E.step s1 p1, P1.bind.imp fun i st2 G2 H2 s2 p2 P2 => ?_⟩
  refine ⟨γ, B0, B, G2, env, st2, (E.step s1 p1).step s2 p2, P2.bind.imp fun j st3 G3 H3 s3 p3 P3 => ?_⟩
  cases d <;> first
    | exact False.elim P3
    | skip
  obtain ⟨a, vs, rfl, a1, a2⟩ := (rv.same (s2.trans s3).gg).lst_inv
  refine ⟨a, vs, rfl, .of (s3.sub _ _ a1), fun q hq => ?_⟩
  have sa := Step.alloc (o := .lst (cutV vs i j)) s3.sub s3.tok p3 hq
  exact P3 _ _ sa (p3.alloc s3.sub s3.tok hq) _ (.lst upd_same ((a2.cut i j).same sa.gg))

/-! ### built-ins -/
def lenM : List D → M D := fun ds => match ds with
  | [.lst l] => pureM (.int l.length)
  | [.tup l] => pureM (.int l.length)
  | [.str z] => if z.length ≤ sizeLine then pureM (.int z.length) else failM
  | _ => failM
theorem one_of {α : Type} {γ : Gh} {G H : Hp} {ds : List D} {f : D → M α} {st : Pen} {k : α → Pen → Hp → Hp → Prop} {W : XK} (P : Post m γ G H ((match ds with | [d] => f d | _ => failM) st) k W) : ∃ d, ds = [d] ∧ Post m γ G H (f d st) k W := by
  match ds, P with
  | [d], P => exact ⟨d, rfl, P⟩
theorem cd_len (hK : X.K = m.K := by rfl) : CallD X m (.builtin "len") lenM := by
  refine ⟨_, call_len_seq.or call_len_str, fun γ st G H vs ds Q W s t p rv P => ?_⟩
  match ds, P with
  | [.lst l], P =>
    obtain ⟨v, rfl, r⟩ := rv.one_inv
    obtain ⟨a, vs, rfl, a1, a2⟩ := r.lst_inv
    refine .inl ⟨a, vs, rfl, .inl (.of (s _ _ a1)), ?_⟩
    rw [a2.length]
    exact Post.now (a := D.int _) P s t p _ (.int _)
  | [.tup l], P =>
    obtain ⟨v, rfl, r⟩ := rv.one_inv
    obtain ⟨a, vs, rfl, a1, a2⟩ := r.tup_inv
    refine .inl ⟨a, vs, rfl, .inr (by rw [hK]; exact SqT.same s a1), ?_⟩
    rw [a2.length]
    exact Post.now (a := D.int _) P s t p _ (.int _)
  | [.str z], P =>
    obtain ⟨v, rfl, r⟩ := rv.one_inv
    obtain ⟨h1, P2⟩ := post_if P
    exact .inr ⟨z, by rw [r.str_inv], h1, P2.now s t p _ (.int _)⟩
def absM : List D → M D := fun ds => match ds with
  | [.int i] => pureM (.int (if i < 0 then -i else i))
  | _ => failM
theorem cd_abs : CallD X m (.builtin "abs") absM := by
  refine ⟨_, call_abs, fun γ st G H vs ds Q W s t p rv P => ?_⟩
  match ds, P with
  | [.int i], P =>
    obtain ⟨v, rfl, r⟩ := rv.one_inv
    exact ⟨i, by rw [r.int_inv], Post.now (a := D.int _) P s t p _ (.int _)⟩
def toIntM : List D → M D := fun ds => match ds with
  | [.int i] => pureM (.int i)
  | [.bl b] => pureM (.int (if b then 1 else 0))
  | _ => failM
theorem cd_int : CallD X m (.type "int") toIntM := by
  refine ⟨_, call_int1, fun γ st G H vs ds Q W s t p rv P => ?_⟩
  match ds, P with
  | [.int i], P =>
    obtain ⟨v, rfl, r⟩ := rv.one_inv
    exact .inl ⟨i, by rw [r.int_inv], Post.now (a := D.int _) P s t p _ (.int _)⟩
  | [.bl b], P =>
    obtain ⟨v, rfl, r⟩ := rv.one_inv
    exact .inr ⟨b, by rw [r.bl_inv], Post.now (a := D.int _) P s t p _ (.int _)⟩
def gcdM : List D → M D := fun ds => match ds with
  | [.int i, .int j] => pureM (.int ((Nat.gcd i.natAbs j.natAbs : Nat) : Int))
  | _ => failM
theorem cd_gcd : CallD X m (.builtin "math.gcd") gcdM := by
  refine ⟨_, cr_gcd, fun γ st G H vs ds Q W s t p rv P => ?_⟩
  match ds, P with
  | [.int i, .int j], P =>
    obtain ⟨v, w, rfl, r, r2⟩ := rv.two_inv
    exact ⟨i, j, by rw [r.int_inv, r2.int_inv], Post.now (a := D.int _) P s t p _ (.int _)⟩
def listM : List D → M D := fun ds => match ds with
  | [.lst l] => pureM (.lst l)
  | [.tup l] => pureM (.lst l)
  | _ => failM
theorem cd_list (hK : X.K = m.K := by rfl) : CallD X m (.type "list") listM := by
  refine ⟨_, call_list_of, fun γ st G H vs ds Q W s t p rv P => ?_⟩
  match ds, P with
  | [.lst l], P =>
    obtain ⟨v, rfl, r⟩ := rv.one_inv
    obtain ⟨a, vs, rfl, a1, a2⟩ := r.lst_inv
    refine ⟨a, vs, rfl, .inl (.of (s _ _ a1)), fun q hq => ?_⟩
    have sa := Step.alloc (o := .lst vs) s t p hq
    exact P _ _ sa (p.alloc s t hq) _ (.lst upd_same (a2.same sa.gg))
  | [.tup l], P =>
    obtain ⟨v, rfl, r⟩ := rv.one_inv
    obtain ⟨a, vs, rfl, a1, a2⟩ := r.tup_inv
    refine ⟨a, vs, rfl, .inr (by rw [hK]; exact SqT.same s a1), fun q hq => ?_⟩
    have sa := Step.alloc (o := .lst vs) s t p hq
    exact P _ _ sa (p.alloc s t hq) _ (.lst upd_same (a2.same sa.gg))
def tupleM : List D → M D := fun ds => match ds with
  | [.lst l] => pureM (.tup l)
  | [.tup l] => pureM (.tup l)
  | _ => failM
theorem cd_tuple (hK : X.K = m.K := by rfl) : CallD X m (.type "tuple") tupleM := by
  refine ⟨_, call_tuple_of, fun γ st G H vs ds Q W s t p rv P => ?_⟩
  match ds, P with
  | [.lst l], P =>
    obtain ⟨v, rfl, r⟩ := rv.one_inv
    obtain ⟨a, vs, rfl, a1, a2⟩ := r.lst_inv
    refine ⟨a, vs, rfl, .inl ⟨.of (s _ _ a1), fun q hq => ?_⟩⟩
    have sa := Step.alloc (o := .tup vs) s t p hq
    exact P _ _ sa (p.alloc s t hq) _ (.tup (.of upd_same) (a2.same sa.gg))
  | [.tup l], P =>
    obtain ⟨v, rfl, r⟩ := rv.one_inv
    obtain ⟨a, vs, rfl, a1, a2⟩ := r.tup_inv
    exact ⟨a, vs, rfl, .inr ⟨by rw [hK]; exact SqT.same s a1, Post.now (a := D.tup l) P s t p _ (.tup a1 a2)⟩⟩
def bools : List D → Option (List Bool)
  | [] => some []
  | .bl b :: r => (bools r).map (b :: ·)
  | _ => none
theorem RepL.bools {G : Hp} : ∀ {vs : List V} {ds : List D} {bs : List Bool}, RepL m G vs ds → DL.bools ds = some bs → vs = bs.map .bl
  | _, [], bs, r, h => by
    cases r
    cases h
    rfl
  | _, .bl b :: ds, bs, r, h => by
    unfold DL.bools at h
    cases e : DL.bools ds with
    | none => rw [e] at h; cases h
    | some cs =>
      rw [e] at h
      cases h
      cases r with
      | cons r1 t => rw [r1.bl_inv, RepL.bools t e]; rfl
def allM (F : List Bool → Bool) : List D → M D := fun ds => match ds with
  | [.lst l] => match bools l with
    | some bs => pureM (.bl (F bs))
    | none => failM
  | _ => failM
def allTM : List D → M D := allM fun bs => bs.all id
def anyTM : List D → M D := allM fun bs => bs.any id
theorem cd_allG {f : Value} {F : List Bool → Bool} (h : CallR X f fun vs H Q => ∃ (a : Addr) (bs : List Bool), vs = [V.ref a] ∧ SqL m.K H a (bs.map V.bl) ∧ Q (.bl (F bs)) H) : CallD X m f (allM F) := by
  refine ⟨_, h, fun γ st G H vs ds Q W s t p rv P => ?_⟩
  match ds, P with
  | [.lst l], P =>
    obtain ⟨v, rfl, r⟩ := rv.one_inv
    obtain ⟨a, vs, rfl, a1, a2⟩ := r.lst_inv
    have P : Post m γ G H (((match bools l with
      | some bs => pureM (D.bl (F bs))
      | none => failM) : M D) st) (KD m Q) W := P
    cases e : bools l with
    | none => rw [e] at P; exact False.elim P
    | some bs =>
      rw [e] at P
      have eb := a2.bools e
      subst eb
      exact ⟨a, bs, rfl, .of (s _ _ a1), Post.now (a := D.bl (F bs)) (k := KD m Q) P s t p _ (.bl _)⟩
theorem cd_all (hc : X.calm = true) (hK : X.K = m.K := by rfl) : CallD X m (.builtin "all") allTM := cd_allG (by rw [← hK]; exact cr_all hc)
theorem cd_any (hc : X.calm = true) (hK : X.K = m.K := by rfl) : CallD X m (.builtin "any") anyTM := cd_allG (by rw [← hK]; exact cr_any hc)
/-- repr of data -/
def D.shows (d : D) : Bool := d.plain && d.py.showable && !d.py.hasDict && decide (d.py.shown.length ≤ sizeLine) && decide (d.py.depth ≤ 64)
def reprM : List D → M D := fun ds => match ds with
  | [d] => if d.shows = true then pureM (.str d.py.shown) else failM
  | _ => failM
theorem cr_reprD (hg : X.A.guards = some []) (hu : X.A.units + 70 < cLine) : CallR X (.builtin "repr") fun xs H Q => ∃ x d, xs = [x] ∧ Dp X.K H x d ∧ d.showable = true ∧ d.hasDict = false ∧ d.shown.length ≤ sizeLine ∧ d.depth ≤ 64 ∧ Q (.str d.shown) H := by
  intro pins s σ H xs us Q I r h
  obtain ⟨x, d, rfl, hd, h1, h2, h3, h4, q⟩ := h
  cases r with
  | cons rx rn =>
    cases rn
    obtain ⟨as, rd⟩ := Dp.reads I d x _ hd rx
    cases rd with
    | none => exact PySem.P.repr_of_none ⟨.str _, H, I.tok _, ⟨_, rfl⟩, q⟩
    | bool b => exact PySem.P.repr_of_bool ⟨.str _, H, I.tok _, ⟨_, rfl⟩, q⟩
    | int i t => exact PySem.P.repr_of_int (by simpa [PyData.showable] using h1) ⟨.str _, H, I.tok _, ⟨_, rfl⟩, q⟩
    | str y t => exact PySem.P.repr_of_str ⟨.str _, H, I.tok _, ⟨_, rfl⟩, q⟩ (by simpa [PyData.shown] using h3)
    | list a1 a2 a3 a4 =>
      refine repr_of_reads' (.list a1 a2 a3 a4) h1 (PyData.noDict_hsm h2) hg (by omega) (fun _ _ e => e) (fun h' u tk k => ?_) h3
      exact ⟨.str _, H, I.kept k, ⟨_, rfl⟩, q⟩
    | tuple a1 a2 a3 a4 =>
      refine repr_of_reads' (.tuple a1 a2 a3 a4) h1 (PyData.noDict_hsm h2) hg (by omega) (fun _ _ e => e) (fun h' u tk k => ?_) h3
      exact ⟨.str _, H, I.kept k, ⟨_, rfl⟩, q⟩
    | dict _ _ _ _ _ => cases h2
theorem cd_repr (hg : X.A.guards = some []) (hu : X.A.units + 70 < cLine) (hK : X.K = m.K := by rfl) : CallD X m (.builtin "repr") reprM := by
  refine ⟨_, cr_reprD hg hu, fun γ st G H vs ds Q W s t p rv P => ?_⟩
  match ds, P with
  | [d], P =>
    obtain ⟨v, rfl, r⟩ := rv.one_inv
    obtain ⟨hf, P2⟩ := post_if P
    unfold D.shows at hf
    rw [Bool.and_eq_true, Bool.and_eq_true, Bool.and_eq_true, Bool.and_eq_true] at hf
    obtain ⟨⟨⟨⟨f1, f2⟩, f3⟩, f4⟩, f5⟩ := hf
    exact ⟨v, d.py, rfl, by rw [hK]; exact r.dp s f1, f2, by simpa using f3, of_decide_eq_true f4, of_decide_eq_true f5, P2.now s t p _ (.str _)⟩

/-! ### isinstance -/
def tyName : D → Option String
  | .non => some "NoneType"
  | .bl _ => some "bool"
  | .int _ => some "int"
  | .str _ => some "str"
  | .lst _ => some "list"
  | .tup _ => some "tuple"
  | .dct _ => some "dict"
  | .ins _ _ => none
  | .exc _ _ => none
  | .ref _ => none
theorem tupTy {H : Hp} {a : Addr} {xs : List V} (h : SqT m.K H a xs) : TyX m.K H (.ref a) (.type "tuple") := by
  rcases h with (h | ⟨o, h⟩) | ⟨o, its, n, h, c, _⟩
  · exact .base (.tup h)
  · exact .fTuple h
  · exact .kTuple h c
theorem Rep.ty {G H : Hp} {v : V} {d : D} {n : String} (s : Same G H) (r : Rep m G v d) (h : tyName d = some n) : TyX m.K H v (.type n) := by
  cases r with
  | non => cases h; exact .base .non
  | bl b => cases h; exact .base (.bl b)
  | int i => cases h; exact .base (.int i)
  | str x => cases h; exact .base (.str x)
  | lst e _ => cases h; exact .base (.lst (s _ _ e))
  | tup e _ => cases h; exact tupTy (SqT.same s e)
  | dct e _ _ => cases h; exact .base (.dK (s _ _ e))
  | ins _ _ _ _ => cases h
  | exc _ _ _ _ _ => cases h
  | ref _ => cases h
def kitAnyB (n : String) : List String → Option Bool
  | [] => some false
  | c :: cs => match kitB n c with
    | none => none
    | some true => some true
    | some false => kitAnyB n cs
theorem kitAny_of {K : PySem.W.Frag} {n : String} : ∀ {cs : List String} {b : Bool}, kitAnyB n cs = some b → PySem.W.kitAny K (.type n) (cs.map Value.type) = some b
  | [], _, h => by cases h; rfl
  | c :: cs, b, h => by
    unfold kitAnyB at h
    cases e : kitB n c with
    | none => rw [e] at h; cases h
    | some k =>
      rw [e] at h
      cases k with
      | true =>
        cases h
        exact kitAny_cons (b := true) (kit_ty e) (fun z => by cases z) fun _ => rfl
      | false => exact kitAny_cons (b := false) (kit_ty e) (fun _ => kitAny_of h) fun z => by cases z
/-- isinstance(x, T), isinstance(x, (T, ..)), the types built in -/
def eIsi (cs : List String) (f : EM) : EM := fun env => bindM (f env) fun d => match tyName d with
  | none => failM
  | some n => match kitAnyB n cs with
    | none => failM
    | some b => pureM (.bl b)
theorem isi_post {γ : Gh} {G H : Hp} {d : D} {cs : List String} {st : Pen} {k : D → Pen → Hp → Hp → Prop} {W : XK} (P : Post m γ G H (((match tyName d with
  | none => failM
  | some n => match kitAnyB n cs with
    | none => failM
    | some b => pureM (D.bl b)) : M D) st) k W) : ∃ n b, tyName d = some n ∧ kitAnyB n cs = some b ∧ Post m γ G H (some (.ok (.bl b), st)) k W := by
  cases e : tyName d with
  | none => rw [e] at P; exact False.elim P
  | some n =>
    rw [e] at P
    dsimp only at P
    cases e2 : kitAnyB n cs with
    | none => rw [e2] at P; exact False.elim P
    | some b => rw [e2] at P; exact ⟨n, b, rfl, e2, P⟩
theorem kitOne_of {K : PySem.W.Frag} {n c : String} {b : Bool} (h : kitAnyB n [c] = some b) : PySem.W.kitOne K (.type n) (.type c) = some b := by
  unfold kitAnyB at h
  cases e : kitB n c with
  | none => rw [e] at h; cases h
  | some k =>
    rw [e] at h
    cases k with
    | true => cases h; exact kit_ty e
    | false => cases h; exact kit_ty e
theorem de_isi {W : WX} {a b : Expr} {c : String} {f : EM} {p pos : Pos} (hm : X.mg "isinstance" = none) (ha : PE X a (tD m W f)) (hb : PE X b (tC (.ty c))) (hK : X.K = m.K := by rfl) (hg : Gl X "isinstance" := by rfl)
    (hs : starEach (a :: [b]) X.env = (false, eval a X.env) :: starEach [b] X.env := by rfl) (hs2 : starEach (b :: []) X.env = (false, eval b X.env) :: starEach [] X.env := by rfl) (hpl : (backTo pos (starEach [b] X.env)).any (·.1) = false := by rfl) :
    PE X (.Call (.Name "isinstance" p) [a, b] [] pos) (tD m W (eIsi [c] f)) := by
  refine PE.imp (pe_callB call_isi hg hm boot_isinstance (pa_cons ha (pa_cons hb pa_nil hs2) hs) (by decide) (by decide) hs hpl) fun σ H Q ⟨γ, B0, B, G, env, st, E, P⟩ => ?_
  refine ⟨γ, B0, B, G, env, st, E, P.bind.imp fun d st1 G1 H1 s1 p1 P1 v rv => ?_⟩
  obtain ⟨n, k, e1, e2, P2⟩ := isi_post P1
  refine ⟨v, .ty c, .type n, .type c, k, rfl, .ty c, by rw [hK]; exact rv.ty s1.sub e1, kitOne_of e2, P2.now s1.sub s1.tok p1 _ (.bl _)⟩
/-- the types of a written tuple -/
inductive TyEs (X : Cx) : List Expr → List String → Prop
  | nil : TyEs X [] []
  | cons {e : Expr} {es : List Expr} {c : String} {cs : List String} : PE X e (tC (.ty c)) → TyEs X es cs → starEach (e :: es) X.env = (false, eval e X.env) :: starEach es X.env → TyEs X (e :: es) (c :: cs)
theorem TyEs.pa : ∀ {es : List Expr} {cs : List String}, TyEs X es cs → PA X es fun _ H Q => Q (cs.map V.ty) H
  | _, _, .nil => pa_nil
  | _, _, .cons h t hs => PA.imp (pa_cons h t.pa hs) fun σ H Q q => q
theorem paired_ty : ∀ cs : List String, Paired ClsV (cs.map V.ty) (cs.map Value.type)
  | [] => .nil
  | c :: cs => .cons (.ty c) (paired_ty cs)
theorem de_isiT {W : WX} {a : Expr} {es : List Expr} {cs : List String} {f : EM} {p pos pt : Pos} {kt} (hm : X.mg "isinstance" = none) (ha : PE X a (tD m W f)) (hb : TyEs X es cs) (hz : cs.length ≤ sizeLine := by decide) (hK : X.K = m.K := by rfl) (hg : Gl X "isinstance" := by rfl)
    (hs : starEach (a :: [.Tuple es kt pt]) X.env = (false, eval a X.env) :: starEach [.Tuple es kt pt] X.env := by rfl) (hs2 : starEach (.Tuple es kt pt :: []) X.env = (false, eval (.Tuple es kt pt) X.env) :: starEach [] X.env := by rfl) (hpl : (backTo pos (starEach [.Tuple es kt pt] X.env)).any (·.1) = false := by rfl) :
    PE X (.Call (.Name "isinstance" p) [a, .Tuple es kt pt] [] pos) (tD m W (eIsi cs f)) := by
  refine PE.imp (pe_callB call_isiT hg hm boot_isinstance (pa_cons ha (pa_cons (pe_tup hb.pa) pa_nil hs2) hs) (by decide) (by decide) hs hpl) fun σ H Q ⟨γ, B0, B, G, env, st, E, P⟩ => ?_
  refine ⟨γ, B0, B, G, env, st, E, P.bind.imp fun d st1 G1 H1 s1 p1 P1 v rv => ?_⟩
  obtain ⟨n, k, e1, e2, P2⟩ := isi_post P1
  refine ⟨by rw [List.length_map]; exact hz, fun q hq => ?_⟩
  have sl := Step.lay (o := .tup (cs.map V.ty)) s1.sub s1.tok p1 hq
  exact ⟨v, q, cs.map V.ty, .type n, cs.map Value.type, k, rfl, upd_same, paired_ty cs, by rw [hK]; exact rv.ty sl.sub e1, kitAny_of e2, P2 _ _ sl (p1.lay s1.sub s1.tok hq) _ (.bl _)⟩
end
end DL
set_option Elab.async false
set_option linter.all false
set_option maxRecDepth 100000
/-! Dl6: chains of comparisons, the pen, keyword calls, defs of the text, the law's end. -/
namespace DL
open PySem PySem.Spec PyProof.Rows L2

section
variable {X : Cx} {m : Md} {W : WX} {a b c e : Expr} {es : List Expr} {f g h : EM} {pos : Pos}
/-! ### a < b < c -/
def eChain (F F' : D → D → M D) (f g h : EM) : EM := fun env => bindM (f env) fun x => bindM (g env) fun y => bindM (F x y) fun z => bindM (asB z) fun k => if k = true then bindM (h env) fun w => F' y w else pureM (.bl false)
theorem chain_fill {op op' : CmpOp} {F F' : D → D → M D} {r r' : R2} {σ : L2.St} {H : Hp} {Q : VK}
    (h2 : ∀ (γ : Gh) (st : Pen) (G H : Hp) (v w : V) (d e : D) (Q : VK) (W : XK), Same G H → γ.tok G H → PenOk m γ st G H → Rep m G v d → Rep m G w e → Post m γ G H (F d e st) (KD m Q) W → r v w H Q)
    (h4 : ∀ (γ : Gh) (st : Pen) (G H : Hp) (v w : V) (d e : D) (Q : VK) (W : XK), Same G H → γ.tok G H → PenOk m γ st G H → Rep m G v d → Rep m G w e → Post m γ G H (F' d e st) (KD m Q) W → r' v w H Q)
    (z : tD m W (eChain F F' f g h) σ H Q) : tChain r r' (tD m W f) (tD m W g) (tD m W h) σ H Q := by
  obtain ⟨γ, B0, B, G, env, st, E, P⟩ := z
  refine ⟨γ, B0, B, G, env, st, E, P.bind.imp fun x st1 G1 H1 s1 p1 P1 v rv => ?_⟩
  refine ⟨γ, B0, B, G1, env, st1, E.step s1 p1, P1.bind.imp fun y st2 G2 H2 s2 p2 P2 w rw => ?_⟩
  refine h2 γ st2 G2 H2 v w x y _ _ s2.sub s2.tok p2 (rv.same s2.gg) rw (P2.bind.imp fun z st3 G3 H3 s3 p3 P3 u ru => ?_)
  obtain ⟨k, rfl, P4⟩ := asB_bind P3
  refine ⟨k, ru.bl_inv, ?_⟩
  cases k with
  | false => exact iteF (P4.now s3.sub s3.tok p3 _ (.bl false))
  | true =>
    refine iteT ⟨γ, B0, B, G3, env, st3, ((E.step s1 p1).step s2 p2).step s3 p3, (Post.bind P4).imp fun t st5 G5 H5 s5 p5 P5 u2 r2 => ?_⟩
    exact h4 γ st5 G5 H5 w u2 y t Q _ s5.sub s5.tok p5 (rw.same (s3.trans s5).gg) r2 P5
theorem de_chain {op op' : CmpOp} {F F' : D → D → M D} (ho : OpD X m (compareOp op) F) (ho' : OpD X m (compareOp op') F') (ha : PE X a (tD m W f)) (hb : PE X b (tD m W g)) (hc : PE X c (tD m W h)) (hm : lastMarks [op, op'] [b, c] = false) : PE X (.Compare a [op, op'] [b, c] pos) (tD m W (eChain F F' f g h)) := by
  obtain ⟨r, h1, h2⟩ := ho
  obtain ⟨r', h3, h4⟩ := ho'
  exact PE.imp (pe_chain h1 h3 ha hb hc hm) fun σ H Q z => chain_fill (op := op) (op' := op') h2 h4 z
theorem dt_chain {op op' : CmpOp} {F F' : D → D → M D} (ho : OpD X m (compareOp op) F) (ho' : OpD X m (compareOp op') F') (ha : PE X a (tD m W f)) (hb : PE X b (tD m W g)) (hc : PE X c (tD m W h)) (hm : lastMarks [op, op'] [b, c] = false) : PT X (.Compare a [op, op'] [b, c] pos) (tT m W (eB (eChain F F' f g h))) := by
  obtain ⟨r, h1, h2⟩ := ho
  obtain ⟨r', h3, h4⟩ := ho'
  exact dt_of (pt_chain h1 h3 ha hb hc hm) fun σ H Q z => chain_fill (op := op) (op' := op') h2 h4 z

/-! ### the pen -/
def Pen.at' (st : Pen) : Nat → Option D
  | 0 => some (.lst (st.cells.map .int))
  | 1 => some (.int st.at_)
  | 2 => some (.int st.left)
  | _ => none
/-- pen[k] -/
def ePen (i k : Nat) : EM := fun env st => match env[i]? with
  | some .pen => match st.at' k with
    | some d => some (.ok d, st)
    | none => none
  | _ => none
theorem repL_ints {G : Hp} : ∀ ns : List Int, RepL m G (ns.map .int) (ns.map .int)
  | [] => .nil
  | n :: ns => .cons (.int n) (repL_ints ns)
theorem EnvOk.pen_at {γ : Gh} {B0 B G H : Hp} {σ : L2.St} {env : List Sl} {st : Pen} {i : Nat} (E : EnvOk m γ B0 B σ G H env st) (h : env[i]? = some .pen) :
    ∃ p q, γ.pa = some p ∧ σ[i]? = some (some (.ref p)) ∧ H p = some (.lst [.ref q, .int st.at_, .int st.left]) ∧ G q = some (.lst (st.cells.map .int)) ∧ G p = none := by
  obtain ⟨x, h1, p, hp, rfl⟩ := E.get h
  obtain ⟨g, q, a, b⟩ := E.pen.pen p hp
  exact ⟨p, q, hp, h1, a, b, g⟩
theorem pen_rep {G : Hp} {st : Pen} {k : Nat} {q : Addr} {d : D} (hq : G q = some (.lst (st.cells.map .int))) (h : st.at' k = some d) : ∃ v, [V.ref q, .int st.at_, .int st.left][k]? = some v ∧ Rep m G v d := by
  match k, h with
  | 0, h => cases h; exact ⟨_, rfl, .lst hq (repL_ints _)⟩
  | 1, h => cases h; exact ⟨_, rfl, .int _⟩
  | 2, h => cases h; exact ⟨_, rfl, .int _⟩
theorem ePen_post {γ : Gh} {B0 B G H : Hp} {σ : L2.St} {env : List Sl} {st : Pen} {i k : Nat} {K : D → Pen → Hp → Hp → Prop} {W : XK} (P : Post m γ G H (ePen i k env st) K W) : env[i]? = some .pen ∧ ∃ d, st.at' k = some d ∧ Post m γ G H (some (.ok d, st)) K W := by
  unfold ePen at P
  split at P
  · rename_i hi
    cases e : st.at' k with
    | none => rw [e] at P; exact False.elim P
    | some d => rw [e] at P; exact ⟨hi, d, rfl, P⟩
  · exact False.elim P
theorem de_pen0 {i k : Nat} {o : Expr} {j : Nat} {pk : Pos} (ho : PE X o (tVar i)) (hs : PlainIx (.Constant (.int (k : Int)) j pk)) : PE X (.Subscript o (.Constant (.int (k : Int)) j pk) pos) (tD m W (ePen i k)) := by
  refine PE.imp (pe_ix ix_list ho pe_int hs) fun σ H Q ⟨γ, B0, B, G, env, st, E, P⟩ => ?_
  obtain ⟨hi, d, hd, P2⟩ := ePen_post (B0 := B0) (B := B) (σ := σ) P
  obtain ⟨p, q, hp, hx, h1, h2, h3⟩ := E.pen_at hi
  obtain ⟨v, e1, e2⟩ := pen_rep h2 hd
  exact ⟨_, hx, p, _, (k : Int), v, rfl, rfl, .of h1, atI_nat e1, P2.now E.sub E.tok E.pen v e2⟩
def Pen.put (st : Pen) (k : Nat) (d : D) : Option Pen := match k, d with
  | 1, .int n => some { st with at_ := n }
  | 2, .int n => some { st with left := n }
  | _, _ => none
def sPen (i k : Nat) (f : EM) : SM := liftM f fun d env st => match env[i]? with
  | some .pen => match st.put k d with
    | some st' => some (.ok .nx, env, st')
    | none => none
  | _ => none
theorem put_is {st st' : Pen} {k : Nat} {d : D} (h : st.put k d = some st') : ∃ n, d = .int n ∧ (k = 1 ∨ k = 2) ∧ st'.cells = st.cells ∧ ∀ q : Addr, [V.ref q, .int st.at_, .int st.left].set k (.int n) = [.ref q, .int st'.at_, .int st'.left] := by
  unfold Pen.put at h
  split at h
  · cases h; exact ⟨_, rfl, .inl rfl, rfl, fun _ => rfl⟩
  · cases h; exact ⟨_, rfl, .inr rfl, rfl, fun _ => rfl⟩
  · cases h
theorem EnvOk.penSet {γ : Gh} {B0 B G H : Hp} {σ : L2.St} {env : List Sl} {st st' : Pen} {i : Nat} {p q : Addr} {vs : List V} (E : EnvOk m γ B0 B σ G H env st) (hp : γ.pa = some p) (h2 : G q = some (.lst (st'.cells.map .int))) (g : G p = none) (hh : ∃ l, H p = some (.lst l)) :
    EnvOk m γ B0 B σ G (L2.upd H p (.lst [.ref q, .int st'.at_, .int st'.left])) env st' := by
  have ap := γ.apart p hp
  have hsub : Same G (L2.upd H p (.lst [.ref q, .int st'.at_, .int st'.left])) := fun b u e => by rw [upd_ne (ne_of_none e g)]; exact E.sub b u e
  have hne : ∀ b, γ.away b → b ≠ p := fun b hb z => hb.1 (z ▸ hp)
  have tok : γ.tok G (L2.upd H p (.lst [.ref q, .int st'.at_, .int st'.left])) := γ.stable G H _ _ E.tok (Same.refl G) (fun b hb => upd_ne fun z => ap (z ▸ hb)) fun b u e n => by
    obtain ⟨l0, hh⟩ := hh
    rw [upd_ne fun z => n l0 (by rw [z, hh] at e; exact (Option.some.inj e).symm)]; exact e
  refine ⟨hsub, tok, ⟨E.base.gg, hsub, E.base.new, fun b u ha e => ?_, fun b hb => ?_, tok⟩, ⟨fun b hb => ?_, fun b hb => ?_, E.pen.gh⟩, E.len, fun j s x h1 h3 => ?_, E.dis⟩
  · rw [upd_ne (hne b ha)]; exact E.base.keep b u ha e
  · by_cases z : b = p
    · subst z; rw [upd_same]; intro z; cases z
    · rw [upd_ne z]; exact E.base.live b hb
  · rw [hp] at hb; cases hb
    exact ⟨g, q, upd_same, h2⟩
  · have z : b ≠ p := fun z => ap (z ▸ hb)
    rw [upd_ne z]; exact E.pen.live b hb
  · have q := E.sl j s x h1 h3
    cases s with
    | no => trivial
    | val d => exact q
    | pen => exact q
    | own l =>
      obtain ⟨p2, vs2, rfl, h5, h6, h7, h8, h9⟩ := q
      exact ⟨p2, vs2, rfl, by rw [upd_ne (hne p2 h8)]; exact h5, h6, h7, h8, h9⟩
theorem ds_pen0 {i k : Nat} {tg : Expr} (he : PE X e (tD m W f)) (hg : PG X tg (gSub (tVar i) (tC (.int (k : Int))) rSetL)) (hs : swapsWithSole [tg] e pos.line X.env = pure false) (hw : swappedStores [tg] e X.env = pure none)
    (h1 : (assignEach [tg] X.env).map (·.2) = [assign tg X.env]) : PS X (.Assign [tg] e pos) (tS m W (sPen i k f)) := by
  refine PS.imp (ps_asg he hg hs hw h1) fun Dn σ H z => ?_
  obtain ⟨γ, B0, B, G, env, st, E, P⟩ := z
  refine ⟨γ, B0, B, G, env, st, E, (P.lift E).imp fun d st1 G1 H1 s1 p1 P1 v rv => ?_⟩
  have E1 := E.step s1 p1
  cases hi : env[i]? with
  | none => rw [hi] at P1; exact False.elim P1
  | some sl =>
    rw [hi] at P1
    cases sl with
    | no => exact False.elim P1
    | val d => exact False.elim P1
    | own l => exact False.elim P1
    | pen =>
      dsimp only at P1
      obtain ⟨p, q, hp, hx, h1, h2, h3⟩ := E1.pen_at hi
      cases e : st1.put k d with
      | none => rw [e] at P1; exact False.elim P1
      | some st' =>
        rw [e] at P1
        obtain ⟨n, rfl, hk, hc, hl⟩ := put_is e
        have ev := rv.int_inv
        subst ev
        refine ⟨_, hx, p, _, (k : Int), k, rfl, rfl, h1, ?_, ?_⟩
        · rcases hk with rfl | rfl <;> rfl
        · rw [hl q]
          exact P1 σ G1 _ (E1.penSet (i := i) (vs := []) hp (by rw [hc]; exact h2) h3 ⟨_, h1⟩)
theorem ds_pen (i k : Nat) {x : Str} {px pk pos' : Pos} {j : Nat} (he : PE X e (tD m W f)) (hN : X.N[i]? = some x := by rfl) (hv : Vis X.env.scope x := by first | exact Or.inl rfl | exact Or.inr (Or.inl rfl) | exact Or.inr (Or.inr rfl)) (hd : (x == ("__debug__" : Str)) = false := by decide) (hcd : (x == ("__classdict__" : Str)) = false := by decide)
    (hs : swapsWithSole [.Subscript (.Name x px) (.Constant (.int (k : Int)) j pk) pos'] e pos.line X.env = pure false := by rfl) (hw : swappedStores [.Subscript (.Name x px) (.Constant (.int (k : Int)) j pk) pos'] e X.env = pure none := by rfl)
    (h1 : (assignEach [.Subscript (.Name x px) (.Constant (.int (k : Int)) j pk) pos'] X.env).map (·.2) = [assign (.Subscript (.Name x px) (.Constant (.int (k : Int)) j pk) pos') X.env] := by rfl)
    (ha : ∀ v, assign (.Subscript (.Name x px) (.Constant (.int (k : Int)) j pk) pos') X.env v = (do
      let ov ← holding [v] (eval (.Name x px) X.env)
      let iv ← holding [v, ov] (eval (.Constant (.int (k : Int)) j pk) X.env)
      standAt pos'
      holding [v, ov, iv] (setItem ov iv v)
      release [v, ov, iv] []) := by intro _; rfl) : PS X (.Assign [.Subscript (.Name x px) (.Constant (.int (k : Int)) j pk) pos'] e pos) (tS m W (sPen i k f)) :=
  ds_pen0 he (pg_sub (pe_var hN hv hd hcd) pe_int set_list ha) hs hw h1
theorem de_pen (i k : Nat) {x : Str} {px pk : Pos} {j : Nat} (hN : X.N[i]? = some x := by rfl) (hv : Vis X.env.scope x := by first | exact Or.inl rfl | exact Or.inr (Or.inl rfl) | exact Or.inr (Or.inr rfl)) (hd : (x == ("__debug__" : Str)) = false := by decide) (hcd : (x == ("__classdict__" : Str)) = false := by decide)
    (hs : PlainIx (.Constant (.int (k : Int)) j pk) := by exact fun _ _ => rfl) : PE X (.Subscript (.Name x px) (.Constant (.int (k : Int)) j pk) pos) (tD m W (ePen i k)) := de_pen0 (pe_var hN hv hd hcd) hs
end
end DL
set_option Elab.async false
set_option linter.all false
set_option maxRecDepth 100000
/-! Dl7: more statements, keyword calls, defs of the text, the law's end. -/
namespace DL
open PySem PySem.Spec PyProof.Rows L2

section
variable {X : Cx} {m : Md} {W : WX} {a b c e : Expr} {es : List Expr} {f g h : EM} {pos : Pos}
/-! ### x, y = [..], e: the first is the frame's own list -/
def sParL (i j : Nat) (f : LM) (g : EM) : SM := liftM f fun ds env st => if ds.length ≤ sizeLine then liftM g (fun d env st => some (.ok .nx, (env.set i (.own ds)).set j (.val d), st)) env st else none
theorem ds_parL {i j : Nat} {x y : Str} {b : Expr} {f : LM} {px py pt pl : Pos} {kt k2 pt2} (hc : X.calm = true) (hN : X.N.Nodup) (ha : PA X es (tL m W f)) (hb : PE X b (tD m W g)) (hij : i ≠ j := by decide) (hi : X.N[i]? = some x := by rfl) (hj : X.N[j]? = some y := by rfl)
    (hx : X.env.scope.names.lookup x = some .local := by rfl) (hy : X.env.scope.names.lookup y = some .local := by rfl)
    (hw : swappedStores [.Tuple [.Name x px, .Name y py] kt pt] (.Tuple [.List es pl, b] k2 pt2) X.env = pure (some [x, y]) := by rfl)
    (hs : swapsWithSole [.Tuple [.Name x px, .Name y py] kt pt] (.Tuple [.List es pl, b] k2 pt2) pos.line X.env = pure false := by rfl)
    (s1 : starEach (.List es pl :: [b]) X.env = (false, eval (.List es pl) X.env) :: starEach [b] X.env := by rfl) (s2 : starEach (b :: []) X.env = (false, eval b X.env) :: starEach [] X.env := by rfl) :
    PS X (.Assign [.Tuple [.Name x px, .Name y py] kt pt] (.Tuple [.List es pl, b] k2 pt2) pos) (tS m W (sParL i j f g)) := by
  refine PS.imp (ps_par hc hN hi hj hij hx hy (pa_cons (pe_lst ha) (pa_cons hb pa_nil s2) s1) hw hs) fun D σ H ⟨γ, B0, B, G, env, st, E, P⟩ => ?_
  refine ⟨γ, B0, B, G, env, st, E, (P.lift E).imp fun ds st1 G1 H1 t1 p1 P1 vs rvs => ?_⟩
  by_cases hl : ds.length ≤ sizeLine
  · rw [if_pos hl] at P1
    refine ⟨by rw [rvs.length]; exact hl, fun p hp => ?_⟩
    have E1 := E.step t1 p1
    have sl := Step.lay (o := .lst vs) t1.sub t1.tok p1 hp
    have E2 := E1.step sl (p1.lay t1.sub t1.tok hp)
    refine ⟨γ, B0, B, G1, env, st1, E2, (PostS.lift P1 E2).imp fun d st2 G2 H2 t2 p2 P2 v rv => ?_⟩
    exact ⟨_, _, rfl, P2 _ G2 H2 (((E1.new hp rvs).step t2 p2).set rv)⟩
  · rw [if_neg hl] at P1; exact False.elim P1

/-! ### f(k = e, ..): all parameters by their names -/
theorem PK.imp {kws : List Keyword} {t t' : TA} (h : PK X kws t) (w : ∀ σ H Q, t' σ H Q → t σ H Q) : PK X kws t' := ⟨fun pos pins s σ H Q I q => h.run pos pins s σ H Q I (w _ _ _ q)⟩
theorem dk_nil : PK X [] (tL m W lNil) := by
  refine PK.imp pk_nil fun σ H Q ⟨γ, B0, B, G, env, st, E, P⟩ => ?_
  exact P.now E.sub E.tok E.pen [] .nil
theorem dk_cons {g : LM} {kws : List Keyword} {nm : Option Str} {kpos : Pos} (ha : PE X a (tD m W f)) (hr : PK X kws (tL m W g)) : PK X (⟨nm, a, kpos⟩ :: kws) (tL m W (lCons f g)) := by
  refine PK.imp (pk_cons ha hr) fun σ H Q ⟨γ, B0, B, G, env, st, E, P⟩ => ?_
  refine ⟨γ, B0, B, G, env, st, E, P.bind.imp fun d st1 G1 H1 s1 p1 P1 v rv => ?_⟩
  refine ⟨γ, B0, B, G1, env, st1, E.step s1 p1, P1.bind.imp fun ds st2 G2 H2 s2 p2 P2 vs rvs => ?_⟩
  exact P2.now s2.sub s2.tok p2 (v :: vs) (.cons (rv.same s2.gg) rvs)
def permute {α : Type} (perm : List Nat) (l : List α) : List α := perm.filterMap fun i => l[i]?
theorem Vals.permute {vs : List V} {us : List Value} (r : Vals vs us) : ∀ perm : List Nat, Vals (DL.permute perm vs) (DL.permute perm us)
  | [] => .nil
  | i :: perm => by
    have ih := Vals.permute r perm
    unfold DL.permute at ih ⊢
    rw [List.filterMap_cons, List.filterMap_cons]
    cases e : vs[i]? with
    | none => rw [Vals.none_of r e]; exact ih
    | some v =>
      obtain ⟨u, h1, h2⟩ := Vals.get r e
      rw [h1]
      exact .cons h2 ih
theorem RepL.permute {G : Hp} {vs : List V} {ds : List D} (r : RepL m G vs ds) : ∀ perm : List Nat, RepL m G (DL.permute perm vs) (DL.permute perm ds)
  | [] => .nil
  | i :: perm => by
    have ih := RepL.permute r perm
    unfold DL.permute at ih ⊢
    rw [List.filterMap_cons, List.filterMap_cons]
    cases e : ds[i]? with
    | none =>
      have hn : vs[i]? = none := List.getElem?_eq_none (by rw [r.length]; exact List.getElem?_eq_none_iff.mp e)
      rw [hn]; exact ih
    | some d =>
      obtain ⟨v, h1, h2⟩ := r.get e
      rw [h1]
      exact .cons h2 ih
def eCallK (F : List Sl → M D) (perm : List Nat) (f : LM) : EM := fun env => bindM (f env) fun ds => F ((permute perm ds).map .val)
theorem de_callK {F : List Sl → M D} {f : LM} {x : Str} {p : Pos} {k : Nat} {fa : Addr} {fd : FuncData} {ps ks : List Str} {perm : List Nat} {CX : CXT} {kws : List Keyword} (O : FnOk X.prog X.w X.K X.mg X.base CX k fa fd ps (spF m F)) (hr : Room k X.A) (hm : X.mg x = some (.ref fa)) (hk : PySem.W.keepIn X.K (.ref fa) = true)
    (hb : ∀ (s : Shared) (ws : List Value), ws.length = ks.length → BindsTo s fd ⟨[], ks.zip ws⟩ (ps.zip (permute perm ws))) (hx : ∀ σ, PassesAt CX X σ (fun c d H => W c d σ H)) (ha : PK X kws (tL m W f)) (hlen : ∀ env st ds st', f env st = some (.ok ds, st') → ds.length = ks.length)
    (hks : (backToKw pos (keywordEach kws X.env)).filterMap (·.1) = ks := by rfl) (hall : (backToKw pos (keywordEach kws X.env)).all (·.1.isSome) = true := by rfl) (hg : Gl X x := by rfl) (hdb : (x == ("__debug__" : Str)) = false := by decide)
    (hpl : ((backTo pos (starEach [] X.env)).any (·.1) || (backToKw pos (keywordEach kws X.env)).any (·.1.isNone)) = false := by rfl) : PE X (.Call (.Name x p) [] kws pos) (tD m W (eCallK F perm f)) := by
  refine ⟨fun pins s σ H Q I h => ?_⟩
  obtain ⟨γ, B0, B, G, env, st, E, P⟩ := h
  refine wpAny_Call_Name_kw (ld_glob I hg hm ?_ hdb)
  refine PySem.W.callWith_KW0 (h₀ := X.base) I.ok.mod.kin hk hall ?_ hpl
  have P := P.bind
  cases q : f env st with
  | none => rw [q] at P; exact False.elim P
  | some r =>
    obtain ⟨r, st1⟩ := r
    have key := ha.run pos pins s σ H (fun zs H2 => zs.length = ks.length ∧ spF m F (permute perm zs) H2 Q fun c d H => W c d σ H) I
    rw [hks]
    refine thn (key ⟨γ, B0, B, G, env, st, E, ?_⟩) fun ws s2 z => ?_
    · rw [q] at P ⊢
      cases r with
      | error x => exact P
      | ok ds =>
        have hl := hlen _ _ _ _ q
        intro G1 H1 s1 p1 vs rvs
        exact ⟨by rw [rvs.length]; exact hl, γ, G1, _, st1, s1.sub, s1.tok, p1, ArgsOk.ofRepL (rvs.permute perm), P G1 H1 s1 p1⟩
    · obtain ⟨zs, H2, I2, rz, l2, q2⟩ := z
      refine ⟨I2.kIn, ?_⟩
      refine wpAny_call (codeAny_mono (O.run X.A X.stack s2 H2 ⟨[], ks.zip ws⟩ (permute perm ws) (permute perm zs) Q _ hr I2.env0 (hb s2 ws (by rw [← rz.length]; exact l2)) (Vals.permute rz perm) q2) fun r s' hq => ?_)
      cases r with
      | error e => exact hx σ pins H2 s2 e s' I2 hq
      | ok fl =>
        cases fl with
        | ret u => exact I2.after hq
        | next => exact False.elim hq
        | brk => exact False.elim hq
        | cont => exact False.elim hq
end
theorem len_lNil : ∀ env st ds st', lNil env st = some (.ok ds, st') → ds.length = 0 := fun env st ds st' h => by cases h; rfl
theorem len_lCons {f : EM} {g : LM} {n : Nat} (hg : ∀ env st ds st', g env st = some (.ok ds, st') → ds.length = n) : ∀ env st ds st', lCons f g env st = some (.ok ds, st') → ds.length = n + 1 := fun env st ds st' h => by
  unfold lCons bindM at h
  cases e : f env st with
  | none => rw [e] at h; cases h
  | some q =>
    obtain ⟨q, st1⟩ := q
    rw [e] at h
    cases q with
    | error x => cases h
    | ok d =>
      dsimp only at h
      cases e2 : g env st1 with
      | none => rw [e2] at h; cases h
      | some q2 =>
        obtain ⟨q2, st2⟩ := q2
        rw [e2] at h
        cases q2 with
        | error x => cases h
        | ok d2 => cases h; rw [List.length_cons, hg _ _ _ _ e2]

/-! ### defs of the text -/
section
variable {P : Program} {w : World} {K : PySem.W.Frag} {mg : Str → Option Value} {gh : Gh → Prop} {base : Heap} {x qual : Str} {st : Stmt} {dvs : List V} {kws : List (Str × V)} {f : Addr} {fd : FuncData} {N ps : List Str} {k : Nat} {u : SM}
theorem fn_d (F : FunD K x qual (defArgs st) (defBody st) (defScope st) dvs kws f fd) (S : FnScope N ps (defScope st))
    (hb : ∀ (cdv : Value) (A : Around) (outer : List Env) (s : Shared) (H : Hp) (E : XK), Room k (A.deeper (envOfC qual (defScope st) s.heap.objs.size f cdv)) → PSs (cxOf (L2.CX P w) P w K mg base N qual (defScope st) f cdv A outer s H E) (defBody st) (tS ⟨K, mg, gh⟩ (fun c d _ H => E c d H) u)) :
    FnOk P w K mg base (L2.CX P w) (k + 1) f fd ps (spF ⟨K, mg, gh⟩ (argN ps.length (runF N.length u))) :=
  F.ok S (fun vs H Q E h => argN_len h) fun cdv A outer s H vs Q E hr h => ⟨_, hb cdv A outer s H E hr, body_fill (argN_use h)⟩
/-- by the names alone: nothing lacks -/
theorem kw_binds {ks : List Str} {perm : List Nat} (F : FunD K x qual (defArgs st) (defBody st) (defScope st) [] kws f fd)
    (h : ∀ (kV doc pm : Value) (an : Option Addr) (cdv ct : Value) (ws : List Value), ws.length = ks.length → bindArgs (PySem.W.fnOf x qual (defArgs st) (defBody st) (defScope st) .none kV doc pm an cdv ct) ⟨[], ks.zip ws⟩ = pure (ps.zip (permute perm ws))) :
    ∀ (s : Shared) (ws : List Value), ws.length = ks.length → BindsTo s fd ⟨[], ks.zip ws⟩ (ps.zip (permute perm ws)) := fun s ws hl => by
  obtain ⟨oc, od, dV, kV, doc, pm, an, cdv, ct, osl, rfl, lk, hcd, hD, hK⟩ := F.ex
  rcases hD with ⟨_, rfl⟩ | ⟨e, _⟩
  · exact .of_eq (h kV doc pm an cdv ct ws hl)
  · exact absurd rfl e
end

/-! ### the law: called once, from nowhere, so that no guard stands -/
/-- as FnOk, at the law's own call alone -/
def LawRun (P : Program) (w : World) (K : PySem.W.Frag) (mg : Str → Option Value) (base : Heap) (f : Addr) (fd : FuncData) (ps : List Str) (sp : Sp) : Prop :=
  ∀ (outer : List Env) (s : Shared) (H : Hp) (us : List Value) (vs : List V) (Q : VK) (E : XK), Env0 P w K mg base callerA outer s H → BindsTo s fd ⟨us, []⟩ (ps.zip us) → Vals vs us → sp vs H Q E →
    codeAny (model P w) callerA (.call (.ref f) ⟨us, []⟩) (CR (L2.CX P w) outer P w H s Q E) s
section
variable {P : Program} {w : World} {K : PySem.W.Frag} {mg : Str → Option Value} {base : Heap} {x qual : Str} {st : Stmt} {f : Addr} {fd : FuncData} {N ps : List Str} {k : Nat} {sp : Sp}
theorem law_run (F : FunD K x qual (defArgs st) (defBody st) (defScope st) [] [] f fd) (S : FnScope N ps (defScope st)) (len : ∀ vs H Q E, sp vs H Q E → vs.length = ps.length) (room : Room (k + 1) callerA)
    (hb : ∀ (cdv : Value) (outer : List Env) (s : Shared) (H : Hp) (vs : List V) (Q : VK) (E : XK), Room k (callerA.deeper (envOfC qual (defScope st) s.heap.objs.size f cdv)) → sp vs H Q E →
      ∃ t, PSs (cxOf (L2.CX P w) P w K mg base N qual (defScope st) f cdv callerA outer s H E) (defBody st) t ∧ t { nx := fun _ H' => Q .non H', rt := Q } (L2.start N vs) H) : LawRun P w K mg base f fd ps sp := by
  obtain ⟨oc, od, dV, kV, doc, pm, an, cdv, ct, osl, rfl, lk, hcd, _, _⟩ := F.ex
  intro outer s H us vs Q E e0 bd r hsp
  have n1 := len _ _ _ _ hsp
  have inK : K.In s.heap := e0.mod.kin.keeps fun q z hz => (e0.bs q z hz).1
  have noLim : s.heap.NoLimit := e0.mod.nolimit.keeps fun q z hz => (e0.bs q z hz).1
  have kinds : ∀ y ∈ ps.zip us, (defScope st).names.lookup y.1 = some .local ∨ ((defScope st).names.lookup y.1 = some .cell ∧ ((cellsFrom (s.heap.objs.size + 1) (defScope st).names []).lookup y.1).isSome = true) := by
    rintro ⟨nm, vv⟩ hy
    have := S.par nm (List.of_mem_zip hy).1
    exact this.imp id fun z => ⟨z, PySem.W.cellsFrom_some _ _ _ (.inl z)⟩
  refine codeAny_call_function room.depth (inK _ _ lk) rfl S.co S.gen rfl (PySem.W.codeRec_of inK hcd) (bd _ _ _ _ ?_)
  refine wpAny_newFunctionEnv_cells S.kind kinds fun ev hev s1 hx => ?_
  subst hev
  refine ⟨noLim.keeps hx.toInCall.keep, codeAny_func ?_⟩
  obtain ⟨t, ht, hq⟩ := hb cdv outer s H vs Q E (room.deeper _) hsp
  have I0 := inv_start (CX := L2.CX P w) (qual := qual) (f := f) (cd := cdv) (E := E) S room.hd e0 n1 r hx
  refine wpAny_mono (ht.run [] s1 _ H _ I0 hq) (fun fl s' done => ?_) fun _ _ z => z
  cases fl with
  | ret uu => obtain ⟨vv, σ', H', J, rv, q⟩ := done; exact ⟨vv, H', J.os, J.bare, J.base, J.hok, rv, q⟩
  | next => obtain ⟨σ', H', J, q⟩ := done; exact ⟨.non, H', J.os, J.bare, J.base, J.hok, rfl, q⟩
  | brk => obtain ⟨_, _, _, q⟩ := done; exact False.elim q
  | cont => obtain ⟨_, _, _, q⟩ := done; exact False.elim q
/-- the script's call -/
theorem law_end {mb : Str → Option Value} {a : Addr} {s₁ : Shared} {vs : List Value} {ns : List Int} {arg : Str} (inK : K.In s₁.heap) (gN : s₁.heap.Ns mainGlobals mg) (bN : s₁.heap.Ns builtinsNs mb) (bB : ∀ y : Str, y ≠ "__name__" → mb y = bootBuiltins y) (noLim : s₁.heap.NoLimit) (noG : s₁.gens = #[])
    (at_ : s₁.heap.get? a = some { cls := .type "list", data := .seq vs.toArray }) (hints : IntsAre vs ns) (fits : ns.length ≤ sizeLine)
    (F : ∀ base : Heap, K.In base → base.Ns mainGlobals mg → LawRun P w K mg base f fd [arg] sp) (bind1 : ∀ (s : Shared) (u : Value), BindsTo s fd ⟨[u], []⟩ [(arg, u)])
    (want : ∀ H : Hp, Only H → SqL K H a (ns.map V.int) → sp [.ref a] H (fun v _ => v = .bl true) fun _ _ _ => False) :
    codeAny (model P w) callerA (.call (.ref f) ⟨[.ref a], []⟩) (fun r s' => r = .ok (.ret (.bool true)) ∧ OldK s₁.heap s'.heap ∧ s'.os = s₁.os ∧ AllBare s'.gens) s₁ := by
  have rvs := vals_ints hints
  have step : ∀ H : Hp, Only H → SqL K H a (ns.map V.int) → HOk P w H s₁.heap → (∀ b u, H b = some u → b = a ∧ K.lookup a = none) →
      codeAny (model P w) callerA (.call (.ref f) ⟨[.ref a], []⟩) (fun r s' => r = .ok (.ret (.bool true)) ∧ OldK s₁.heap s'.heap ∧ s'.os = s₁.os ∧ AllBare s'.gens) s₁ := by
    intro H only sq hok isA
    have free : ∀ {b : Addr} {o : Obj}, s₁.heap.get? b = some o → (∀ vs n, o.data ≠ .seq vs n) → H b = none := fun {b o} e d => by
      cases q : H b with
      | none => rfl
      | some u =>
        obtain ⟨rfl, _⟩ := isA b u q
        rw [at_] at e
        cases e
        exact absurd rfl (d _ _)
    have hid : ∀ {b : Addr} {mm : Str → Option Value}, s₁.heap.Ns b mm → (hidT s₁.heap H).Ns b mm := by
      rintro b mm ⟨o, es, ep, e, d, r⟩
      exact ⟨o, es, ep, hidT_get e (free e fun _ _ z => by rw [d] at z; cases z), d, r⟩
    have inKb : K.In (hidT s₁.heap H) := fun b o e => hidT_get (inK b o e) (by
      cases q : H b with
      | none => rfl
      | some u =>
        obtain ⟨rfl, z⟩ := isA b u q
        rw [z] at e
        cases e)
    obtain ⟨mc, l1, l2⟩ := noLim
    have e0 : Env0 P w K mg (hidT s₁.heap H) callerA [] s₁ H :=
      ⟨rfl, ⟨inKb, hid gN, ⟨mb, hid bN, bB⟩, ⟨mc, hid l1, l2⟩⟩, fun _ _ z => of_hidT z, Nat.le_of_eq (hidT_size _ _), trivial, fun b z => absurd (show b ∈ ([] : List Addr) from z) (by simp), hok, .of_eq noG⟩
    refine codeAny_mono (F _ inKb (hid gN) [] s₁ H [.ref a] [.ref a] _ _ e0 (bind1 s₁ (.ref a)) (.cons rfl .nil) (want H only sq)) fun r s' done => ?_
    cases r with
    | error ee =>
      obtain ⟨_, _, _, _, _, _, _, _, _, _, _, _, z⟩ := done
      exact False.elim z
    | ok fl =>
      cases fl with
      | next => exact False.elim done
      | brk => exact False.elim done
      | cont => exact False.elim done
      | ret uu =>
        obtain ⟨vv, H', os, bare, un, hok', rr, hv⟩ := done
        have hv' : vv = .bl true := hv
        subst hv'
        obtain rfl : uu = Value.bool true := rr
        refine ⟨rfl, OldK.of_keep fun b o e => ?_, os, bare⟩
        cases q : H b with
        | none => exact un.keep b o e q (by intro z; exact absurd (show b ∈ ([] : List Addr) from z) (by simp)) (by simp)
        | some uu =>
          rcases only b with z | ⟨ob, xs, z⟩
          · rw [q] at z; cases z
          · obtain ⟨e1, _⟩ := hok b _ z
            obtain ⟨e2, _⟩ := hok' b _ (un.frzs b ob _ z)
            rw [e] at e1
            cases e1
            exact e2
  have ln : ns.length = vs.length := by
    have := rvs.length
    simpa using this
  cases hk : K.lookup a with
  | some o =>
    have e := inK a o hk
    rw [at_] at e
    cases e
    refine step (fun _ => none) (fun _ => .inl rfl) (.inr ⟨_, vs.toArray, _, hk, rfl, rfl, rfl, by rw [List.size_toArray, ← ln]; exact fits, by simpa using rvs⟩) (fun b u z => by cases (show (none : Option HO) = some u from z)) fun b u z => by cases (show (none : Option HO) = some u from z)
  | none =>
    have on : ∀ b u, (if b = a then some (HO.frz { cls := .type "list", data := .seq vs.toArray } (.lst (ns.map V.int))) else none) = some u → b = a ∧ u = .frz { cls := .type "list", data := .seq vs.toArray } (.lst (ns.map V.int)) := fun b u z => by
      by_cases hb : b = a
      · rw [if_pos hb] at z; cases z; exact ⟨hb, rfl⟩
      · rw [if_neg hb] at z; cases z
    refine step (fun b => if b = a then some (.frz { cls := .type "list", data := .seq vs.toArray } (.lst (ns.map V.int))) else none) (fun b => ?_) (.inl (.inr ⟨{ cls := .type "list", data := .seq vs.toArray }, if_pos rfl⟩)) (fun b u z => ?_) fun b u z => ⟨(on b u z).1, hk⟩
    · by_cases hb : b = a
      · exact .inr ⟨_, _, if_pos hb⟩
      · exact .inl (if_neg hb)
    · obtain ⟨rfl, rfl⟩ := on b u z
      exact ⟨at_, by rw [List.length_map]; exact fits, vs, _, rvs, at_⟩
end
theorem walk_law {l : PySem.W.OpenLaw} {n : Nat} {q : Program} {loose : List Str} {XP : (Str → Option Value) → Heap → Prop} {YP : World → Heap → Prop} {d : DefRec} {K : Params → PySem.W.Frag} {sp : World → Sp} {x : Str}
    (hn : l.most = some n) (hn2 : n ≤ sizeLine) (hdf : d.params.defaults = []) (hY : ∀ (w : World) (h : Heap), YP w h → (K w.params).In h)
    (F : ∀ (w : World) (mg : Str → Option Value) (fa : Addr) (h : Heap), (K w.params).In h → h.Ns mainGlobals mg → mg d.name = some (.ref fa) →
      ∃ fd : FuncData, (∀ (s : Shared) (u : Value), BindsTo s fd ⟨[u], []⟩ [(x, u)]) ∧ ∀ base : Heap, (K w.params).In base → base.Ns mainGlobals mg → LawRun l.prog w (K w.params) mg base fa fd [x] (sp w))
    (hsp : ∀ (w : World) (H : Hp) (a : Addr) (ns : List Int), ns.length ≤ n → Only H → SqL (K w.params) H a (ns.map V.int) → sp w [.ref a] H (fun v _ => v = .bl true) fun _ _ _ => False) :
    PySem.W.WalkO q loose XP YP l.row.toRowW d [] (fun f vs => PySem.call f vs) := by
  refine Att.attach_call hn hdf fun w s₀ s₁ mg mb fa o pm cd doc a vs ns Gd Y _ _ _ hmg ho hi hl hg => ?_
  have inK := hY w _ Y
  obtain ⟨fd, b1, hF⟩ := F w mg fa _ inK Gd.T.g hmg
  exact law_end inK Gd.T.g Gd.T.b Gd.T.builtins Gd.T.nolimit hg ho hi (Nat.le_trans hl hn2) hF b1 fun H z q => hsp w H a ns hl z q
end DL
set_option Elab.async false
set_option linter.all false
set_option maxRecDepth 100000
/-! Dl8: in-place operators, fuel. -/
namespace DL
open PySem PySem.Spec PyProof.Rows L2
/-- so many turns as the number in slot i says, and one more -/
def fuelV (i : Nat) : List Sl → Nat := fun env => match env[i]? with
  | some (.val (.int n)) => n.toNat + 1
  | _ => 0
section
variable {X : Cx} {m : Md}
theorem ipd_int {op : Operator} {g : Int → Int → Int} (h : PIp X op (ipI g)) : IpD X m op (intM2 (fun _ _ => true) fun i j => .int (g i j)) := by
  refine ⟨_, h, fun γ st G H v w d e Q W s t p rv rw P => ?_⟩
  obtain ⟨i, j, rfl, rfl, _, P2⟩ := ex_ints P
  exact ⟨i, j, rv.int_inv, rw.int_inv, P2.now s t p _ (.int _)⟩
theorem ds_par3 {W : WX} {i j l : Nat} {x y z : Str} {a b c : Expr} {f : LM} {px py pz pt pos : Pos} {kt k2 pt2} (hc : X.calm = true) (hN : X.N.Nodup) (ha : PA X [a, b, c] (tL m W f)) (hij : i ≠ j := by decide) (hil : i ≠ l := by decide) (hjl : j ≠ l := by decide) (hi : X.N[i]? = some x := by rfl) (hj : X.N[j]? = some y := by rfl) (hl : X.N[l]? = some z := by rfl)
    (hx : X.env.scope.names.lookup x = some .local := by rfl) (hy : X.env.scope.names.lookup y = some .local := by rfl) (hz : X.env.scope.names.lookup z = some .local := by rfl)
    (hw : swappedStores [.Tuple [.Name x px, .Name y py, .Name z pz] kt pt] (.Tuple [a, b, c] k2 pt2) X.env = pure (some [x, y, z]) := by rfl)
    (hs : swapsWithSole [.Tuple [.Name x px, .Name y py, .Name z pz] kt pt] (.Tuple [a, b, c] k2 pt2) pos.line X.env = pure false := by rfl) :
    PS X (.Assign [.Tuple [.Name x px, .Name y py, .Name z pz] kt pt] (.Tuple [a, b, c] k2 pt2) pos) (tS m W (sPar3 i j l f)) := by
  refine PS.imp (ps_par3 hc hN hi hj hl hij hil hjl hx hy hz ha hw hs) fun D σ H ⟨γ, B0, B, G, env, st, E, P⟩ => ?_
  refine ⟨γ, B0, B, G, env, st, E, (P.lift E).imp fun ds st1 G1 H1 s1 p1 P1 vs rvs => ?_⟩
  cases rvs with
  | nil => exact False.elim P1
  | cons r1 t =>
    cases t with
    | nil => exact False.elim P1
    | cons r2 t2 =>
      cases t2 with
      | nil => exact False.elim P1
      | cons r3 t3 =>
        cases t3 with
        | nil => exact ⟨_, _, _, rfl, P1 _ G1 H1 ((((E.step s1 p1).set r1).set r2).set r3)⟩
        | cons _ _ => exact False.elim P1
def iaddM : D → D → M D := intM2 (fun _ _ => true) fun i j => .int (i + j)
theorem ipd_add : IpD X m .Add iaddM := ipd_int ip_add
theorem ipd_sub : IpD X m .Sub subM := ipd_int ip_sub
end
end DL
namespace DL
open PySem L2
theorem relabel_eq (sc : Scope) (env : Env) : relabel sc env = relS sc env.scope := rfl
end DL
set_option linter.all false
set_option maxRecDepth 100000
/-! Dl9: how mirrors are reckoned out. -/
namespace DL
open PySem PySem.Spec PyProof.Rows L2
section
variable {α β : Type} {f g h : EM} {env : List Sl} {st st1 : Pen}
@[simp] theorem bindM_ap (f : M α) (g : α → M β) (st : Pen) : bindM f g st = match f st with
  | none => none
  | some (.error x, s) => some (.error x, s)
  | some (.ok a, s) => g a s := rfl
@[simp] theorem noErr_ap (f : M α) (st : Pen) : noErr f st = match f st with
  | some (.ok a, s) => some (.ok a, s)
  | _ => none := rfl
@[simp] theorem eVar_ap (i : Nat) (env : List Sl) : eVar i env = match env[i]? with
  | some (.val d) => pureM d
  | _ => failM := rfl
@[simp] theorem failM_ap (st : Pen) : (failM : M α) st = none := rfl
@[simp] theorem eC_ap (d : D) (env : List Sl) : eC d env = pureM d := rfl
@[simp] theorem e2_ap (F : D → D → M D) (f g : EM) (env : List Sl) : e2 F f g env = bindM (f env) fun x => bindM (g env) fun y => F x y := rfl
@[simp] theorem e1_ap (F : D → M D) (f : EM) (env : List Sl) : e1 F f env = bindM (f env) F := rfl
@[simp] theorem eB_ap (f : EM) (env : List Sl) : eB f env = bindM (f env) asB := rfl
@[simp] theorem asB_bl (b : Bool) : asB (.bl b) = pureM b := rfl
@[simp] theorem bAnd_ap (f g : List Sl → M Bool) (env : List Sl) : bAnd f g env = bindM (f env) fun b => if b = true then g env else pureM false := rfl
@[simp] theorem bOr_ap (f g : List Sl → M Bool) (env : List Sl) : bOr f g env = bindM (f env) fun b => if b = true then pureM true else g env := rfl
@[simp] theorem bNot_ap (f : List Sl → M Bool) (env : List Sl) : bNot f env = bindM (f env) fun b => pureM (!b) := rfl
@[simp] theorem eAnd_ap (f g : EM) (env : List Sl) : eAnd f g env = bindM (f env) fun d => bindM (asB d) fun b => if b = true then g env else pureM (.bl false) := rfl
@[simp] theorem eOr_ap (f g : EM) (env : List Sl) : eOr f g env = bindM (f env) fun d => bindM (asB d) fun b => if b = true then pureM (.bl true) else g env := rfl
@[simp] theorem eNot_ap (f : EM) (env : List Sl) : eNot f env = bindM (f env) fun d => bindM (asB d) fun b => pureM (.bl (!b)) := rfl
@[simp] theorem eIf_ap (c : List Sl → M Bool) (f g : EM) (env : List Sl) : eIf c f g env = bindM (c env) fun b => if b = true then f env else g env := rfl
@[simp] theorem lNil_ap (env : List Sl) : lNil env = pureM [] := rfl
@[simp] theorem lCons_ap (f : EM) (g : LM) (env : List Sl) : lCons f g env = bindM (f env) fun x => bindM (g env) fun xs => pureM (x :: xs) := rfl
@[simp] theorem lStar_ap (f : EM) (g : LM) (env : List Sl) : lStar f g env = bindM (f env) fun d => bindM (seqOf d) fun l => bindM (g env) fun xs => pureM (l ++ xs) := rfl
@[simp] theorem seqOf_lst (l : List D) : seqOf (.lst l) = pureM l := rfl
@[simp] theorem seqOf_tup (l : List D) : seqOf (.tup l) = pureM l := rfl
@[simp] theorem eTup_ap (f : LM) (env : List Sl) : eTup f env = bindM (f env) fun l => if l.length ≤ sizeLine then pureM (.tup l) else failM := rfl
@[simp] theorem eLst_ap (f : LM) (env : List Sl) : eLst f env = bindM (f env) fun l => if l.length ≤ sizeLine then pureM (.lst l) else failM := rfl
@[simp] theorem eL_ap (F : List D → M D) (f : LM) (env : List Sl) : eL F f env = bindM (f env) F := rfl
@[simp] theorem aNil_ap (env : List Sl) : aNil env = pureM [] := rfl
@[simp] theorem aVal_ap (f : EM) (g : AM) (env : List Sl) : aVal f g env = bindM (f env) fun x => bindM (g env) fun xs => pureM (.val x :: xs) := rfl
@[simp] theorem aPen_ap (i : Nat) (g : AM) (env : List Sl) : aPen i g env = match env[i]? with
  | some .pen => bindM (g env) fun xs => pureM (.pen :: xs)
  | _ => failM := rfl
@[simp] theorem eCall_ap (F : List Sl → M D) (f : AM) (env : List Sl) : eCall F f env = bindM (f env) F := rfl
@[simp] theorem eCallK_ap (F : List Sl → M D) (perm : List Nat) (f : LM) (env : List Sl) : eCallK F perm f env = bindM (f env) fun ds => F ((permute perm ds).map .val) := rfl
@[simp] theorem eChain_ap (F F' : D → D → M D) (f g h : EM) (env : List Sl) : eChain F F' f g h env = bindM (f env) fun x => bindM (g env) fun y => bindM (F x y) fun z => bindM (asB z) fun k => if k = true then bindM (h env) fun w => F' y w else pureM (.bl false) := rfl
@[simp] theorem ePen_ap (i k : Nat) (env : List Sl) (st : Pen) : ePen i k env st = match env[i]? with
  | some .pen => match st.at' k with
    | some d => some (.ok d, st)
    | none => none
  | _ => none := rfl
@[simp] theorem iSeq_ap (f : EM) (env : List Sl) : iSeq f env = bindM (f env) seqOf := rfl
@[simp] theorem iL_ap (f : LM) (env : List Sl) : iL f env = bindM (f env) iRange := rfl
@[simp] theorem liftM_ap (f : List Sl → M α) (k : α → List Sl → Pen → SR) (env : List Sl) (st : Pen) : liftM f k env st = match f env st with
  | none => none
  | some (.error x, st') => some (.error x, env, st')
  | some (.ok a, st') => k a env st' := rfl
@[simp] theorem sNx_ap (env : List Sl) (st : Pen) : sNx env st = some (.ok .nx, env, st) := rfl
@[simp] theorem sNo_ap (env : List Sl) (st : Pen) : sNo env st = none := rfl
@[simp] theorem sRetN_ap (env : List Sl) (st : Pen) : sRetN env st = some (.ok (.ret .non), env, st) := rfl
@[simp] theorem sSeq_ap (f g : SM) (env : List Sl) (st : Pen) : sSeq f g env st = match f env st with
  | some (.ok .nx, env', st') => g env' st'
  | r => r := rfl
@[simp] theorem sAsg_ap (i : Nat) (f : EM) : sAsg i f = liftM f fun d env st => some (.ok .nx, env.set i (.val d), st) := rfl
@[simp] theorem sAsgT_ap (f : EM) (F : D → List Sl → Option (List Sl)) : sAsgT f F = liftM f fun d env st => match F d env with
  | none => none
  | some env' => some (.ok .nx, env', st) := rfl
@[simp] theorem sExpr_ap (f : EM) : sExpr f = liftM f fun _ env st => some (.ok .nx, env, st) := rfl
@[simp] theorem sRet_ap (f : EM) : sRet f = liftM f fun d env st => some (.ok (.ret d), env, st) := rfl
@[simp] theorem sIf_ap (c : List Sl → M Bool) (a b : SM) : sIf c a b = liftM c fun k env st => if k = true then a env st else b env st := rfl
@[simp] theorem sPar_ap (i j : Nat) (f : LM) : sPar i j f = liftM f fun ds env st => match ds with
  | [d, e] => some (.ok .nx, (env.set i (.val d)).set j (.val e), st)
  | _ => none := rfl
@[simp] theorem sPar3_ap (i j l : Nat) (f : LM) : sPar3 i j l f = liftM f fun ds env st => match ds with
  | [d, e, g] => some (.ok .nx, ((env.set i (.val d)).set j (.val e)).set l (.val g), st)
  | _ => none := rfl
@[simp] theorem sAug_ap (i : Nat) (F : D → D → M D) (f : EM) : sAug i F f = liftM (fun env => bindM (eVar i env) fun x => bindM (f env) fun y => F x y) fun d env st => some (.ok .nx, env.set i (.val d), st) := rfl
@[simp] theorem sNewL_ap (i : Nat) (f : LM) : sNewL i f = liftM f fun ds env st => if ds.length ≤ sizeLine then some (.ok .nx, env.set i (.own ds), st) else none := rfl
@[simp] theorem sParL_ap (i j : Nat) (f : LM) (g : EM) : sParL i j f g = liftM f fun ds env st => if ds.length ≤ sizeLine then liftM g (fun d env st => some (.ok .nx, (env.set i (.own ds)).set j (.val d), st)) env st else none := rfl
@[simp] theorem sApp_ap (i : Nat) (f : EM) (env : List Sl) (st : Pen) : sApp i f env st = match env[i]? with
  | some (.own l) => liftM f (fun d env st => if l.length < sizeLine then some (.ok .nx, env.set i (.own (l ++ [d])), st) else none) env st
  | _ => none := rfl
@[simp] theorem sFrz_ap (i : Nat) (g : SM) (env : List Sl) (st : Pen) : sFrz i g env st = match env[i]? with
  | some (.own l) => g (env.set i (.val (.lst l))) st
  | _ => g env st := rfl
@[simp] theorem sPen_ap (i k : Nat) (f : EM) : sPen i k f = liftM f fun d env st => match env[i]? with
  | some .pen => match st.put k d with
    | some st' => some (.ok .nx, env, st')
    | none => none
  | _ => none := rfl
@[simp] theorem sFor_ap (f : LM) (F : D → List Sl → Option (List Sl)) (u : SM) : sFor f F u = liftM f fun items env st => forD F u items env st := rfl
@[simp] theorem sWhile_ap (fuel : List Sl → Nat) (c : List Sl → M Bool) (u : SM) (env : List Sl) (st : Pen) : sWhile fuel c u env st = whileD c u (fuel env) env st := rfl
@[simp] theorem gNm_ap (i : Nat) (d : D) (env : List Sl) : gNm i d env = some (env.set i (.val d)) := rfl
@[simp] theorem gTp_ap (n : Nat) (F : List D → List Sl → Option (List Sl)) (ds : List D) (env : List Sl) : gTp n F (.tup ds) env = if ds.length = n then F ds env else none := rfl
@[simp] theorem gsNil_ap (env : List Sl) : gsNil [] env = some env := rfl
@[simp] theorem gsCons_ap (F : D → List Sl → Option (List Sl)) (R : List D → List Sl → Option (List Sl)) (d : D) (r : List D) (env : List Sl) : gsCons F R (d :: r) env = match F d env with
  | none => none
  | some env1 => R r env1 := rfl
@[simp] theorem argN_ap (n : Nat) (f : List Sl → M D) (as : List Sl) : argN n f as = if as.length = n then f as else failM := rfl
@[simp] theorem runF_ap (n : Nat) (u : SM) (as : List Sl) (st : Pen) : runF n u as st = match u (as ++ List.replicate (n - as.length) .no) st with
  | some (.ok (.ret d), _, st') => some (.ok d, st')
  | some (.ok .nx, _, st') => some (.ok .non, st')
  | some (.error x, _, st') => some (.error x, st')
  | _ => none := rfl
@[simp] theorem fuelV_ap (i : Nat) (env : List Sl) : fuelV i env = match env[i]? with
  | some (.val (.int n)) => n.toNat + 1
  | _ => 0 := rfl
@[simp] theorem lLc_ap (vs : List Nat) (f : LM) (F : D → List Sl → Option (List Sl)) (c : List Sl → M Bool) (g : EM) (env : List Sl) : lLc vs f F c g env = bindM (f env) fun items => if items.length ≤ sizeLine then lcD F c g (wipeE env vs) items else failM := rfl
@[simp] theorem eLc_ap (vs : List Nat) (f : LM) (F : D → List Sl → Option (List Sl)) (c : List Sl → M Bool) (g : EM) (env : List Sl) : eLc vs f F c g env = bindM (lLc vs f F c g env) fun ys => pureM (.lst ys) := rfl
/-! ### operators on ints -/
@[simp] theorem addM_int (i j : Int) : addM (.int i) (.int j) = pureM (.int (i + j)) := rfl
@[simp] theorem iaddM_int (i j : Int) : iaddM (.int i) (.int j) = pureM (.int (i + j)) := rfl
@[simp] theorem subM_int (i j : Int) : subM (.int i) (.int j) = pureM (.int (i - j)) := rfl
@[simp] theorem mulM_int (i j : Int) : mulM (.int i) (.int j) = if mulOk i j = true then pureM (.int (i * j)) else failM := rfl
@[simp] theorem fdivM_int (i j : Int) : fdivM (.int i) (.int j) = if (decide (0 < j) && decide (j.natAbs.log2 < 9000)) = true then pureM (.int (i / j)) else failM := rfl
@[simp] theorem modM_int (i j : Int) : modM (.int i) (.int j) = if decide (0 < j) = true then pureM (.int (i % j)) else failM := rfl
@[simp] theorem powM_int (i j : Int) : powM (.int i) (.int j) = if (decide (0 ≤ j) && decide (j ≤ 1000000) && decide (i.natAbs < 2 ^ 64)) = true then pureM (.int (i ^ j.toNat)) else failM := rfl
@[simp] theorem ltM_int (i j : Int) : ltM (.int i) (.int j) = pureM (.bl (decide (i < j))) := rfl
@[simp] theorem leM_int (i j : Int) : leM (.int i) (.int j) = pureM (.bl (decide (i ≤ j))) := rfl
@[simp] theorem gtM_int (i j : Int) : gtM (.int i) (.int j) = pureM (.bl (decide (j < i))) := rfl
@[simp] theorem geM_int (i j : Int) : geM (.int i) (.int j) = pureM (.bl (decide (j ≤ i))) := rfl
@[simp] theorem eqM_int (i j : Int) : eqM (.int i) (.int j) = pureM (.bl (i == j)) := rfl
@[simp] theorem neM_int (i j : Int) : neM (.int i) (.int j) = pureM (.bl (!(i == j))) := rfl
@[simp] theorem eqM_bl (i j : Bool) : eqM (.bl i) (.bl j) = pureM (.bl (i == j)) := rfl
@[simp] theorem neM_bl (i j : Bool) : neM (.bl i) (.bl j) = pureM (.bl (!(i == j))) := rfl
@[simp] theorem lenM_lst (l : List D) : lenM [.lst l] = pureM (.int l.length) := rfl
@[simp] theorem lenM_tup (l : List D) : lenM [.tup l] = pureM (.int l.length) := rfl
@[simp] theorem absM_int (i : Int) : absM [.int i] = pureM (.int (if i < 0 then -i else i)) := rfl
@[simp] theorem toIntM_int (i : Int) : toIntM [.int i] = pureM (.int i) := rfl
@[simp] theorem toIntM_bl (b : Bool) : toIntM [.bl b] = pureM (.int (if b then 1 else 0)) := rfl
@[simp] theorem gcdM_int (i j : Int) : gcdM [.int i, .int j] = pureM (.int ((Nat.gcd i.natAbs j.natAbs : Nat) : Int)) := rfl
@[simp] theorem listM_lst (l : List D) : listM [.lst l] = pureM (.lst l) := rfl
@[simp] theorem listM_tup (l : List D) : listM [.tup l] = pureM (.lst l) := rfl
@[simp] theorem tupleM_lst (l : List D) : tupleM [.lst l] = pureM (.tup l) := rfl
@[simp] theorem tupleM_tup (l : List D) : tupleM [.tup l] = pureM (.tup l) := rfl
end
end DL
set_option linter.all false
set_option maxRecDepth 100000
/-! Lem0: facts of data that hold for every program. -/
namespace DL
open PySem PySem.Spec PyProof.Rows L2
theorem plains_ints : ∀ ns : List Int, D.plains (ns.map .int) = true
  | [] => rfl
  | n :: ns => by rw [List.map_cons, D.plains, plains_ints ns]; rfl
theorem pys_ints : ∀ ns : List Int, D.pys (ns.map .int) = ns.map PyData.int
  | [] => rfl
  | n :: ns => by rw [List.map_cons, D.pys, pys_ints ns]; rfl
theorem lay_ints : ∀ ns : List Int, PyData.canLayAll0 (ns.map PyData.int) = true
  | [] => rfl
  | n :: ns => by rw [List.map_cons, PyData.canLayAll0, lay_ints ns]; rfl
theorem depth_ints : ∀ ns : List Int, PyData.depthAll (ns.map PyData.int) = 0
  | [] => rfl
  | n :: ns => by rw [List.map_cons, PyData.depthAll, depth_ints ns]; rfl
theorem fit_lst_ints (ns : List Int) : (D.lst (ns.map .int)).fit = true := by
  unfold D.fit SeqAt.shaped
  simp only [D.plain, D.py, plains_ints, pys_ints, PyData.canLay0, lay_ints, PyData.depth, depth_ints]
  rfl
theorem fit_tup_ints (ns : List Int) : (D.tup (ns.map .int)).fit = true := by
  unfold D.fit SeqAt.shaped
  simp only [D.plain, D.py, plains_ints, pys_ints, PyData.canLay0, lay_ints, PyData.depth, depth_ints]
  rfl
theorem fit_lay {d : D} (h : d.fit = true) : d.py.canLay0 = true := by
  unfold D.fit SeqAt.shaped at h
  rw [Bool.and_eq_true, Bool.and_eq_true] at h
  exact h.2.1
theorem eqD_self {d : D} (h : d.fit = true) : eqD d d = true := SeqAt.eqv_refl _ (fit_lay h)
theorem eqM_self {d : D} (h : d.fit = true) : eqM d d = pureM (.bl true) := by
  unfold eqM
  rw [h, eqD_self h]
  rfl
theorem neM_self {d : D} (h : d.fit = true) : neM d d = pureM (.bl false) := by
  unfold neM
  rw [h, eqD_self h]
  rfl
theorem eqM_ints_nil (ns : List Int) : eqM (.lst (ns.map .int)) (.lst []) = pureM (.bl ns.isEmpty) := by
  unfold eqM
  rw [fit_lst_ints, show (D.lst []).fit = true from rfl]
  cases ns <;> rfl
theorem neM_ints_nil (ns : List Int) : neM (.lst (ns.map .int)) (.lst []) = pureM (.bl (!ns.isEmpty)) := by
  unfold neM
  rw [fit_lst_ints, show (D.lst []).fit = true from rfl]
  cases ns <;> rfl
theorem ixM_lst {l : List D} {i : Int} {j : Nat} {d : D} (h : i = (j : Int)) (e : l[j]? = some d) : ixM (.lst l) (.int i) = pureM d := by
  subst h
  unfold ixM
  dsimp only
  rw [atI_nat e]
theorem ixM_tup {l : List D} {i : Int} {j : Nat} {d : D} (h : i = (j : Int)) (e : l[j]? = some d) : ixM (.tup l) (.int i) = pureM d := by
  subst h
  unfold ixM
  dsimp only
  rw [atI_nat e]
@[simp] theorem ixM_tup0 (d : D) (l : List D) : ixM (.tup (d :: l)) (.int 0) = pureM d := ixM_tup (j := 0) rfl rfl
@[simp] theorem ixM_tup1 (c d : D) (l : List D) : ixM (.tup (c :: d :: l)) (.int 1) = pureM d := ixM_tup (j := 1) rfl rfl
@[simp] theorem ixM_tup2 (b c d : D) (l : List D) : ixM (.tup (b :: c :: d :: l)) (.int 2) = pureM d := ixM_tup (j := 2) rfl rfl
@[simp] theorem ixM_lst0 (d : D) (l : List D) : ixM (.lst (d :: l)) (.int 0) = pureM d := ixM_lst (j := 0) rfl rfl
@[simp] theorem ixM_lst1 (c d : D) (l : List D) : ixM (.lst (c :: d :: l)) (.int 1) = pureM d := ixM_lst (j := 1) rfl rfl
@[simp] theorem ixM_lst2 (b c d : D) (l : List D) : ixM (.lst (b :: c :: d :: l)) (.int 2) = pureM d := ixM_lst (j := 2) rfl rfl
structure PenGood (st : Pen) (n : Nat) : Prop where
  at0 : 0 ≤ st.at_
  atn : st.at_ ≤ (n : Int)
  left : 0 ≤ st.left
theorem PenGood.mono {st : Pen} {n k : Nat} (g : PenGood st n) (h : n ≤ k) : PenGood st k := ⟨g.at0, by have := g.atn; omega, g.left⟩
end DL
set_option Elab.async false
set_option linter.all false
set_option maxRecDepth 100000
set_option maxHeartbeats 2000000
/-! Dx1: an own exception over ValueError whose __init__ says super().__init__(e) ahead of its stores. -/
namespace DL
open PySem PySem.Spec PyProof.Rows L2
/-- the names of such an __init__ -/
structure SupScope (N P : List Str) (sc : Scope) : Prop where
  kind : sc.kind = .function
  co : sc.isCoroutine = false
  gen : sc.isGenerator = false
  nd : N.Nodup
  all : N = P
  par : ∀ x ∈ P, sc.names.lookup x = some .local
  nocell : ∀ y ∈ sc.names, y.2 ≠ .cell
  free : ∀ y ∈ sc.names, y.2 = .free → y.1 = "__class__"
  sup : sc.names.lookup ("super" : Str) = some .globalImplicit
  cls : sc.names.lookup ("__class__" : Str) = some .free
abbrev enS (qual : Str) (scope : Scope) (L f cda cc : Addr) : Env := PySem.W.ksEnv qual scope L f (.ref cda) cc
/-- the context of such an __init__ -/
def cxS (P : Program) (w : World) (K : PySem.W.Frag) (mg : Str → Option Value) (base : Heap) (N : List Str) (qual : Str) (scope : Scope) (f cda cc : Addr) (A : Around) (outer : List Env) (s : Shared) (H : Hp) (E : XK) : Cx where
  prog := P
  w := w
  K := K
  mg := mg
  base := base
  A := A.deeper (enS qual scope s.heap.objs.size f cda cc)
  N := N
  s_0 := s
  H_0 := H
  env := enS qual scope s.heap.objs.size f cda cc
  outer := outer
  stack := enS qual scope s.heap.objs.size f cda cc :: outer
  ex := []
  calm := true
  fn := fun _ => false
  pn := []
  xe := fun e s' => wpAny (model P w) (A.deeper (enS qual scope s.heap.objs.size f cda cc)) (leaving (enS qual scope s.heap.objs.size f cda cc) e) (fun _ s'' => C8.CX0 outer H s E e s'') (fun e' s'' => C8.CX0 outer H s E e' s'') s'
theorem lookup_mem_nd {α : Type} {k : Str} {v : α} : ∀ {l : List (Str × α)}, (l.map (·.1)).Nodup → (k, v) ∈ l → l.lookup k = some v
  | [], _, h => nomatch h
  | (a, b) :: l, nd, h => by
    rw [List.map_cons, List.nodup_cons] at nd
    rw [List.lookup_cons]
    by_cases e : k = a
    · subst e
      rw [beq_self_eq_true]
      rcases List.mem_cons.mp h with z | z
      · cases z
        rfl
      · exact absurd (List.mem_map_of_mem (f := (·.1)) z) nd.1
    · have e' : (k == a) = false := by simpa using e
      rw [e']
      rcases List.mem_cons.mp h with z | z
      · cases z
        exact absurd rfl e
      · exact lookup_mem_nd nd.2 z
theorem zip_rev_lookup {α : Type} {ps : List Str} {us : List α} {i : Nat} {y : Str} {u : α} (nd : ps.Nodup) (hl : us.length = ps.length) (hp : ps[i]? = some y) (hu : us[i]? = some u) : (ps.zip us).reverse.lookup y = some u := by
  refine lookup_mem_nd ?_ ?_
  · rw [List.map_reverse, List.map_fst_zip (by omega)]
    unfold List.Nodup
    rw [List.pairwise_reverse]
    exact nd.imp fun h => Ne.symm h
  · rw [List.mem_reverse]
    have : (ps.zip us)[i]? = some (y, u) := by
      rw [List.getElem?_zip_eq_some]
      exact ⟨hp, hu⟩
    exact List.mem_of_getElem? this
section
variable {P : Program} {w : World} {K : PySem.W.Frag} {mg : Str → Option Value} {base : Heap} {N ps : List Str} {qual : Str} {scope : Scope} {f cda cc : Addr} {A : Around} {outer : List Env} {s : Shared} {H : Hp} {E : XK} {us : List Value} {vs : List V}
theorem invS_start {h₀ : Heap} {tk : Nat} {cl cv : Value} {cld : Option Addr} {csl : Array (Option Value)} (S : SupScope N ps scope) (hd : A.handled = none) (e0 : Env0 P w K mg base A outer s H) (hl : vs.length = ps.length) (r : Vals vs us)
    (hcell : K.lookup cc = some ⟨cl, cld, .cell (some cv), csl⟩)
    (hns : h₀.Ns s.heap.objs.size fun x => (ps.zip us).reverse.lookup x) (kp : ∀ b o, s.heap.get? b = some o → h₀.get? b = some o) :
    Inv (cxS P w K mg base N qual scope f cda cc A outer s H E) [] (L2.start N vs) H { s with heap := h₀, toks := tk } := by
  have kc : base.get? cc = some ⟨cl, cld, .cell (some cv), csl⟩ := e0.mod.kin _ _ hcell
  have noA : ∀ b : Addr, b ∉ (cxS P w K mg base N qual scope f cda cc A outer s H E).ex := fun b z => absurd (show b ∈ ([] : List Addr) from z) (by simp)
  have cl1 : ∀ {y : Str} {c : Addr}, ([("__class__", cc)] : List (Str × Addr)).lookup y = some c → y = "__class__" ∧ c = cc := fun {y c} e => by
    rw [List.lookup_cons] at e
    cases hy : (y == ("__class__" : Str)) with
    | true =>
      rw [hy] at e
      exact ⟨by simpa using hy, (Option.some.inj e).symm⟩
    | false =>
      rw [hy] at e
      cases e
  refine ⟨⟨e0.mod, S.kind, rfl, rfl, Nat.le_refl _, fun y z c h1 h2 => ?_, fun y hy => ?_, fun y c z _ => ?_, fun _ => hd, Around.frames_deeper e0.frames, .inr ⟨rfl, rfl⟩, fun b z => absurd z (noA b), e0.bs, e0.bsz, fun b _ _ => noA b, fun b z => absurd z (noA b), e0.funs, e0.frf⟩,
    rfl, e0.bare, Un.kept kp, ⟨_, hns, fun i y v h1 h2 h3 => ?_⟩, fun y c h => ?_, e0.hok.fresh (Nat.le_refl _), fun y c h => ?_, fun p hp => absurd (show p ∈ ([] : List (Addr × Obj)) from hp) (by simp), e0.hok.kept kp, ?_⟩
  · rw [(cl1 h1).1, (cl1 h2).1]
  · have hy : scope.names.lookup y = some .cell ∨ scope.names.lookup y = some .free := hy
    rcases hy with hy | hy
    · exact absurd rfl (S.nocell _ (PySem.mem_of_lookup hy))
    · have e := S.free _ (PySem.mem_of_lookup hy) rfl
      have e : y = "__class__" := e
      subst e
      exact ⟨cc, rfl⟩
  · have z : false = true := z
    cases z
  · have hi : i < vs.length := by
      unfold L2.start at h2
      by_cases hi : i < vs.length
      · exact hi
      · rw [List.getElem?_append_right (by simpa using hi)] at h2
        rw [List.getElem?_replicate] at h2
        split at h2 <;> cases h2
    have ha : vs[i]? = some v := by
      unfold L2.start at h2
      rw [List.getElem?_append_left (by simpa using hi), List.getElem?_map] at h2
      cases e : vs[i]? with
      | none => rw [e] at h2; cases h2
      | some a => rw [e] at h2; cases h2; rfl
    obtain ⟨u, hu, rv⟩ := r.get ha
    have h1 : N[i]? = some y := h1
    rw [S.all] at h1
    have nd : ps.Nodup := by rw [← S.all]; exact S.nd
    exact ⟨u, rv, .inl ⟨S.par y (List.mem_of_getElem? h1), zip_rev_lookup nd (by rw [← r.length, hl]) h1 hu⟩⟩
  · obtain ⟨_, e⟩ := cl1 h
    subst e
    exact ⟨_, _, kp _ _ (e0.bs _ _ kc).1, rfl⟩
  · obtain ⟨_, e⟩ := cl1 h
    subst e
    exact (e0.bs _ _ kc).2
  · unfold L2.start
    show _ = N.length
    rw [List.length_append, List.length_map, List.length_replicate, S.all]
    omega
end
/-- what is wanted of the class C at hand, D's __init__ being run -/
structure SupC (K : PySem.W.Frag) (C D : Addr) : Prop where
  oex : OexC K C
  sup : PySem.W.ks_superIn K C D "__init__" = some (some (.builtin "ValueError.__init__"))
  sub : PySem.W.subIn K (.ref C) (.type "ValueError") = some true
  mro : PySem.W.mroIn K C (.ref D) = some true
  isc : (PySem.W.clsIn K D).isSome = true
def spS (K : PySem.W.Frag) (N ps : List Str) (D : Addr) (ta : TA) (t : TS) : Sp := fun vs H Q _ => vs.length = ps.length ∧ ∃ a C, vs[0]? = some (.ref a) ∧ SupC K C D ∧ H a = some (exo a C none) ∧
  ta (L2.start N vs) H fun ws H1 => ws.length ≤ 1000 ∧ H1 a = some (exo a C none) ∧ t { nx := fun _ H' => Q .non H', rt := Q } (L2.start N vs) H1
theorem init_ok {P : Program} {w : World} {K : PySem.W.Frag} {mg : Str → Option Value} {base : Heap} {k : Nat} {N ps : List Str} {name qual : Str} {scope : Scope} {f cda cc D : Addr} {params : Arguments} {e : Expr} {rest : List Stmt} {dV kV doc pm ct oc ccl cl : Value} {an od cdd cld : Option Addr}
    {osl ccs csl : Array (Option Value)} {vsC : Array Value} {file : Str} {tf : Tok} {ar : Arg} {p0 p1 p2 p3 p4 : Pos} {ta : TA} {t : TS}
    (lk : K.lookup f = some ⟨oc, od, .func (PySem.W.ksFn name qual params (.Expr (.Call (.Attribute (.Call (.Name "super" p0) [] [] p1) "__init__" p2) [e] [] p3) p4 :: rest) scope dV kV doc pm an (.ref cda) ct cc), osl⟩)
    (hcd : PySem.W.codeIn K (.ref cda) qual = true) (hcode : K.lookup cda = some ⟨ccl, cdd, .fields vsC, ccs⟩) (hvs : vsC[2]? = some (.str file tf)) (hfile : ((P.main.file : Str) == file) = true) (htop : (P.main.scope.names.lookup ("super" : Str)).isSome = false)
    (hcell : K.lookup cc = some ⟨cl, cld, .cell (some (.ref D)), csl⟩) (S : SupScope N ps scope) (hh : (params.posonlyargs ++ params.args).head? = some ar) (hps : ps[0]? = some ar.arg) (hsup : mg "super" = none) (hno : PySem.W.nsIn K cStatics "thirdparty.any" = some none)
    (he : ∀ A outer s H E, Room k (A.deeper (enS qual scope s.heap.objs.size f cda cc)) → PA (cxS P w K mg base N qual scope f cda cc A outer s H E) [e] ta) (hr : ∀ A outer s H E, Room k (A.deeper (enS qual scope s.heap.objs.size f cda cc)) → PSs (cxS P w K mg base N qual scope f cda cc A outer s H E) rest t)
    (pl : Env → Sem Bool) (hev : ∀ env : Env, eval (.Call (.Attribute (.Call (.Name "super" p0) [] [] p1) "__init__" p2) [e] [] p3) env = (do
      let ov ← attributeBase (.Call (.Name "super" p0) [] [] p1) "__init__" env (eval (.Call (.Name "super" p0) [] [] p1) env)
      standAt p2.atName
      let (f, first) ← holding [ov] (getMethod ov "__init__" (pl env))
      callWith p3 f first (backTo p3 (starEach [e] env)) []))
    (hsw : ∀ env : Env, swapsWith (.Call (.Attribute (.Call (.Name "super" p0) [] [] p1) "__init__" p2) [e] [] p3) none p4.line env = pure false := by intro _; rfl)
    (hst : ∀ env : Env, starEach [e] env = (false, eval e env) :: starEach [] env := by intro _; rfl) :
    FnOk P w K mg base C8.CX0 (k + 1) f (PySem.W.ksFn name qual params (.Expr (.Call (.Attribute (.Call (.Name "super" p0) [] [] p1) "__init__" p2) [e] [] p3) p4 :: rest) scope dV kV doc pm an (.ref cda) ct cc) ps (spS K N ps D ta t) := by
  refine ⟨fun vs H Q E h => h.1, fun A outer s H args us vs Q E hr0 e0 hb r h => ?_⟩
  obtain ⟨hl, a, C, h0, SC, ea, hq⟩ := h
  have KX : K.In s.heap := e0.mod.kin.keeps fun b o e => (e0.bs b o e).1
  have lim : s.heap.NoLimit := e0.mod.nolimit.keeps fun b o e => (e0.bs b o e).1
  refine PySem.ks_codeAny_call_defAt (binds := ps.zip us) hr0.depth (KX _ _ lk) rfl lim (PySem.W.codeRec_of KX hcd) rfl hb S.nocell (fun y hy => S.par _ (List.of_mem_zip (show (y.1, y.2) ∈ ps.zip us from hy)).1) (fun h₀ hns kp => ?_) S.co S.gen S.kind
  show PySem.wpAt (model P w) (A.deeper (enS qual scope s.heap.objs.size f cda cc)) (.func _ (enS qual scope s.heap.objs.size f cda cc)) (execs _ (enS qual scope s.heap.objs.size f cda cc)) (fun f s' => CR C8.CX0 outer P w H s Q E (.ok (.ret (match f with | .ret v => v | _ => .none))) s') (cxS P w K mg base N qual scope f cda cc A outer s H E).xe _
  have I : Inv (cxS P w K mg base N qual scope f cda cc A outer s H E) [] (L2.start N vs) H { s with heap := h₀, toks := s.toks + (ps.zip us).length } := invS_start S hr0.hd e0 hl r hcell hns kp
  generalize hs1 : ({ s with heap := h₀, toks := s.toks + (ps.zip us).length } : Shared) = s1 at I
  have hns1 : s1.heap.Ns s.heap.objs.size fun x => (ps.zip us).reverse.lookup x := by rw [← hs1]; exact hns
  clear hs1
  have nd : ps.Nodup := by rw [← S.all]; exact S.nd
  obtain ⟨u0, hu0, ru0⟩ := r.get h0
  obtain rfl : u0 = Value.ref a := ru0
  have hself : (ps.zip us).reverse.lookup ar.arg = some (.ref a) := zip_rev_lookup nd (by rw [← r.length, hl]) hps hu0
  obtain ⟨nm, q, NC, bs, bm, sn, sub, ab, col, dd, k0, k1, k2, k3, k5, hC, hbm⟩ := SC.oex.cls
  obtain ⟨t1, ho⟩ := exo_at I.hok ea
  obtain ⟨cdD, hcdD⟩ := Option.isSome_iff_exists.mp SC.isc
  obtain ⟨oD, hD1, hD2⟩ : ∃ oD, s1.heap.get? D = some oD ∧ oD.data = .cls cdD := by
    unfold PySem.W.clsIn at hcdD
    split at hcdD
    · rename_i c d cd' sl ho
      cases hcdD
      exact ⟨_, I.kIn _ _ ho, rfl⟩
    · cases hcdD
  refine PySem.ks_wpAt_execs_cons (PySem.ks_wpAt_Expr_any (PySem.ks_wpAt_MethodCall (PySem.ks_wpAt_super_base (env := enS qual scope s.heap.objs.size f cda cc) S.sup S.cls (by decide) rfl (I.kIn _ _ lk) rfl hh rfl (I.kIn _ _ hcode) rfl hvs hfile htop ?_) (hev _)) (by unfold interactive; simp [S.kind]) (hsw _))
  obtain ⟨mb, hb1, hb2⟩ := I.mod.blt
  refine PySem.W.ks_loadName_global S.kind S.sup (Calls.loadGlobal_builtin (by exact I.mod.glob.keeps I.bk) hsup (by exact hb1.keeps I.bk) ((hb2 _ (by decide)).trans (show bootBuiltins "super" = some (.type "super") by decide +kernel)) ⟨rfl, ?_⟩)
  refine wpAny_loadName_free S.kind S.cls rfl ⟨_, I.kIn _ _ hcell, rfl⟩ ?_
  refine wpAny_loadName_local S.kind (S.par _ (List.mem_of_getElem? hps)) hns1 hself ?_
  refine PySem.ks_wpAny_isType_cls hD1 hD2 ⟨rfl, ?_⟩
  obtain ⟨hp, g, d, tk, os⟩ := s1
  refine PySem.ks_wpAny_call_super hD1 hD2 ho rfl (fun c z => by cases z) (PySem.W.looks_mroIn I.kIn SC.mro) (fun h' hso kh => ?_)
  have J : Inv (cxS P w K mg base N qual scope f cda cc A outer s H E) [] (L2.start N vs) H ⟨h', g, d, tk, os⟩ := I.kept (t' := tk) kh
  obtain ⟨t2, ho2⟩ := exo_at J.hok ea
  have hlen : hp.objs.size < h'.objs.size := Heap.lt_size hso
  have hclC : PySem.W.clsIn K C = some { name := nm, bases := bs, mro := .ref C :: bm, ns := NC, qualname := q, hasDict := true, slotNames := sn, subclasses := sub, abstract := ab, collection := col, hasDel := false } := by unfold PySem.W.clsIn; rw [hC] <;> rfl
  have IA : PySem.W.InstAt h' a { cls := .ref C, dict := none, data := .fields #[.ref t2, .none, .none, .none, .bool false, .none] } C none := ⟨ho2, rfl, rfl, trivial⟩
  have sup' := SC.sup
  unfold PySem.W.ks_superIn at sup'
  rw [hclC] at sup'
  refine PySem.W.kxs_getMethod PySem.W.kxs_ValueError hso (PySem.W.looks_opaque J.kIn hno) (l₀ := .ref C :: bm) (fun A Q E s k q => wpAny_bind ((PySem.W.looks_clsIn J.kIn hclC) A _ E s k (wpAny_pure q))) rfl J.kIn sup' (IA.type.andThen (PySem.W.looks_subIn J.kIn SC.sub)) (PySem.W.ks_ne J.kIn IA hclC) (by decide) ?_
  have ku : ∀ b o, h'.get? b = some o → (h'.push (PySem.W.kxs_mw "ValueError.__init__" a)).get? b = some o := fun b o z => Heap.get?_push_of_some _ z
  have hu : (h'.push (PySem.W.kxs_mw "ValueError.__init__" a)).get? h'.objs.size = some (PySem.W.kxs_mw "ValueError.__init__" a) := Heap.get?_push_at rfl rfl
  have J1 : Inv (cxS P w K mg base N qual scope f cda cc A outer s H E) [] (L2.start N vs) H ⟨h'.push (PySem.W.kxs_mw "ValueError.__init__" a), g, d, tk + 1, os⟩ := J.kept (t' := tk + 1) ku
  have J2 : Inv (cxS P w K mg base N qual scope f cda cc A outer s H E) [(h'.objs.size, PySem.W.kxs_mw "ValueError.__init__" a)] (L2.start N vs) H ⟨h'.push (PySem.W.kxs_mw "ValueError.__init__" a), g, d, tk + 1, os⟩ :=
    ⟨J1.ok, J1.os, J1.bare, J1.base, J1.loc, J1.cell, J1.free, J1.freeC, fun p hp => by
      have hp : p ∈ ([] : List (Addr × Obj)) ++ [(h'.objs.size, PySem.W.kxs_mw "ValueError.__init__" a)] := hp
      rw [List.nil_append, List.mem_singleton] at hp
      subst hp
      exact ⟨hu, J.hok.fresh (Nat.le_refl _), fun z => absurd (J.lt) (by rw [← z]; exact Nat.lt_irrefl _), J.nofs (Nat.le_refl _), fun v z => by cases z⟩, J1.hok, J1.len⟩
  have hr1 := hr0.deeper (enS qual scope s.heap.objs.size f cda cc)
  show wpAny (model P w) _ (callWith p3 (.ref h'.objs.size) [] (backTo p3 (starEach [e] _)) []) _ _ _
  rw [hst]
  refine PySem.W.kxs_callWith (i := "ValueError.__init__") (x := a) rfl (Calls.evalArgs_plain ?_)
  have ha := (he A outer s H E hr1).run p3 _ _ _ _ _ J2 hq
  rw [hst] at ha
  refine thn ha fun us1 s2 hz => ?_
  obtain ⟨ws, H1, I1, r1, hlw, ea1, hq1⟩ := hz
  obtain ⟨pu, _, _, _, _⟩ := I1.pin (h'.objs.size, PySem.W.kxs_mw "ValueError.__init__" a) (by show _ ∈ ([] : List (Addr × Obj)) ++ _; simp)
  refine ⟨pu, ?_⟩
  obtain ⟨t3, ho3⟩ := exo_at I1.hok ea1
  have hus : us1.length ≤ sizeLine := by
    rw [← Paired.length r1, sizeLine_eq]
    omega
  obtain ⟨hp2, g2, d2, tk2, os2⟩ := s2
  show wpAny (model P w) _ (call (.ref h'.objs.size) us1) _ _ _
  refine wpAny_call (codeAny_of_tree ?_)
  show wpAny _ (A.deeper _).in1 (callAny (.ref h'.objs.size) ⟨us1, []⟩) _ _ _
  simp only [callAny]
  refine wpAny_bind (wpAny_load pu ?_)
  simp only [PySem.W.kxs_mw, show (Value.type "method-wrapper" == Value.type "method" || Value.type "method-wrapper" == Value.type "builtin_function_or_method" || Value.type "method-wrapper" == Value.type "method-wrapper") = true by decide, if_true]
  refine PySem.W.KFB.if_so (by decide) ?_
  refine wpAny_bind (PySem.W.check_bound_init F.excBase_ValueError.toExcCallFacts (I1.kIn _ _ hC) ho3 rfl ?_)
  refine wpAny_bind (wpAny_pure (wpAny_pure ?_))
  refine ⟨plainId_quiet F.excBase_ValueError.init.plain _, codeAny_builtin F.excBase_ValueError.initEntry ?_⟩
  refine PySem.W.exc_init_tree (cls := .ref C) (t0 := t3) (dv := none) (c2 := .none) (c3 := .none) (b4 := .bool false) ho3 hus fun h4 k4 ho4 _ => ?_
  have I2 := I1.write (t' := tk2) (x := a) (e := a) (o := exo a C none) (by rw [ea1]; exact True.intro) (.inl rfl) k4 ⟨_, ho4⟩ (exo_ok ho4)
  have eu : upd H1 a (exo a C none) = H1 := by
    funext b
    by_cases hb : b = a
    · rw [hb, upd_same, ea1]
    · rw [upd_ne hb]
  rw [eu] at I2
  have I3 : Inv (cxS P w K mg base N qual scope f cda cc A outer s H E) [] (L2.start N vs) H1 ⟨h4, g2, d2, tk2, os2⟩ := ⟨I2.ok, I2.os, I2.bare, I2.base, I2.loc, I2.cell, I2.free, I2.freeC, fun p hp => absurd (show p ∈ ([] : List (Addr × Obj)) from hp) (by simp), I2.hok, I2.len⟩
  refine PySem.wpAt_of_wpAny (wpAny_mono ((hr A outer s H E hr1).run [] _ _ _ _ I3 hq1) (fun fl s' hs => ?_) fun e s' hs => hs)
  have fin : ∀ {σ' : L2.St} {H' : Hp} {v : V} {u : Value}, Inv (cxS P w K mg base N qual scope f cda cc A outer s H E) [] σ' H' s' → L2.RelV v u → Q v H' → CE outer P w H s Q u s' :=
    fun {σ' H' v u} J rv q => ⟨v, H', J.os, J.bare, J.base, J.hok, rv, q⟩
  cases fl with
  | ret u =>
    obtain ⟨v, σ', H', J, rv, q⟩ := hs
    exact fin J rv q
  | next =>
    obtain ⟨σ', H', J, q⟩ := hs
    exact fin (v := V.non) (u := Value.none) J rfl q
  | brk =>
    obtain ⟨_, _, _, q⟩ := hs
    exact False.elim q
  | cont =>
    obtain ⟨_, _, _, q⟩ := hs
    exact False.elim q
end DL
set_option Elab.async false
set_option linter.all false
set_option maxRecDepth 100000
set_option maxHeartbeats 2000000
/-! Dx2: a caught exception that is kept behind its try. -/
namespace DL
open PySem PySem.Spec PyProof.Rows L2
theorem exv_ok {P : Program} {w : World} {H : Hp} {h : Heap} {a : Addr} {cls : Value} {d : Option Addr} {oe : Obj} {vs : Array Value} (e : h.get? a = some oe) (z : Zc cls d oe) (hd : oe.data = .fields vs) : ObjOk P w H h a (exv cls d a) :=
  ⟨⟨oe, vs, e, z, hd⟩, ⟨oe, e⟩, fun _ _ ⟨o, v, q, r⟩ k => ⟨o, v, k o q, r⟩⟩
theorem exv_at {P : Program} {w : World} {H : Hp} {h : Heap} {a : Addr} {cls : Value} {d : Option Addr} (hok : HOk P w H h) (e : H a = some (exv cls d a)) : ∃ (oe : Obj) (vs : Array Value), h.get? a = some oe ∧ Zc cls d oe ∧ oe.data = .fields vs := (hok a _ e).1
section
variable {X : Cx} {pins : List (Addr × Obj)} {σ : L2.St} {H : Hp} {s : Shared}
theorem inv_track {a : Addr} {oe : Obj} {vs : Array Value} {cls : Value} {d : Option Addr} (I : Inv X pins σ H s) (h0 : X.s_0.heap.get? a = none) (hn : H a = none) (nL : a ≠ X.env.locals) (np : ∀ p ∈ X.pn ++ pins, p.1 ≠ a)
    (he : s.heap.get? a = some oe) (hz : Zc cls d oe) (hd : oe.data = .fields vs) : Inv X pins σ (upd H a (exv cls d a)) s := by
  have na : ∀ {b : Addr} {o : Obj}, X.s_0.heap.get? b = some o → b ≠ a := fun {b o} e z => by
    rw [z, h0] at e
    cases e
  have up : ∀ {b : Addr} {o : HO}, H b = some o → b ≠ a := fun {b o} e z => by
    rw [z, hn] at e
    cases e
  refine ⟨I.ok, I.os, I.bare, ⟨I.base.keep, I.base.slot, fun b o e n hx => ?_, I.base.there, fun b xs e => ?_, fun b o v e => ?_, fun b ps e => ?_⟩, I.loc, I.cell, ?_, fun y c e => ?_, fun p hp => ?_, fun b o e => ?_, I.len⟩
  · rw [upd_ne (na e)]
    exact I.base.free b o e n hx
  · have z := I.base.tups b xs e
    rw [upd_ne (up z)]
    exact z
  · have z := I.base.frzs b o v e
    rw [upd_ne (up z)]
    exact z
  · obtain ⟨more, z⟩ := I.base.tbls b ps e
    exact ⟨more, by rw [upd_ne (up z)]; exact z⟩
  · rw [upd_ne (Ne.symm nL)]
    exact I.free
  · have ca : c ≠ a := fun z => by
      obtain ⟨v, o, ho, hc⟩ := I.cell y c e
      rw [z, he] at ho
      cases ho
      rw [hd] at hc
      cases hc
    rw [upd_ne ca]
    exact I.freeC y c e
  · obtain ⟨e1, e2, e3⟩ := I.pin p hp
    exact ⟨e1, by rw [upd_ne (np p hp)]; exact e2, e3⟩
  · by_cases hb : b = a
    · subst hb
      rw [upd_same] at e
      cases e
      exact exv_ok he hz hd
    · rw [upd_ne hb] at e
      exact (I.hok b o e).stay (fun c v hc z => z) (fun c hc => by rw [upd_ne (up hc)]; exact hc) (fun c xs hc => by rw [upd_ne (up hc)]; exact hc)
end
/-- what the clause 'except x as n' wishes, the exception kept behind it -/
def wKeep (K : PySem.W.Frag) (c : Value) (i : Nat) (ts : Addr → Value → Option Addr → TS) (Wout : WX) (D : Ends) : WX := fun cls d σ H =>
  ∃ b, PySem.W.exmOne K cls c = some b ∧ (b = true → ∀ a, H a = none → ts a cls d { nx := fun σ' H' => H' a = none → D.nx (σ'.set i none) (upd H' a (exv cls d a)), rt := fun _ _ => False, bk := fun _ _ => False, ct := fun _ _ => False } (σ.set i (some (.ref a))) H) ∧
    (b = false → Wout cls d σ H)
section
variable {X : Cx} {x n : Str} {c : Value} {i : Nat} {body suite : List Stmt} {b₀ : Stmt} {np pos pos' : Pos} {tb : WX → TS} {ts : Addr → Value → Option Addr → TS} {Wout : WX}
/-- try: body / except x as n: suite, the suite runs through -/
theorem ps_try_keep (hx : X.ex = []) (hs : X.stack = X.env :: X.outer) (hf : X.env.frame = some X.env.locals) (hN : X.N.Nodup) (hi : X.N[i]? = some n) (hln : X.env.kindOf n = some .local) (hc : Names X x c) (tk : Takes X Wout)
    (hb : ∀ (W : WX) (pn : List (Addr × Obj)) (xe : Value → Shared → Prop), Takes (X.tr pn xe) W → PassesOwn (model X.prog X.w) X.A X.env xe → PSs (X.tr pn xe) body (tb W))
    (hsu : ∀ (a : Addr) (oe : Obj) (cls : Value) (d : Option Addr) (pn : List (Addr × Obj)), Zc cls d oe → (∃ vs, oe.data = .fields vs) → PSs (X.suite a ((a, oe) :: pn)) (b₀ :: suite) (ts a cls d)) :
    PS X (.Try body [.ExceptHandler (some (.Name x np)) (some n) (b₀ :: suite) pos'] [] [] pos) (fun D σ H => tb (wKeep X.K c i ts Wout D) D σ H) := by
  refine ⟨fun pins s0 σ0 H0 D I0 h0 => ?_⟩
  have okX := I0.ok
  have frX : X.A.frames = some (X.env :: X.outer) := by rw [okX.frames, hs]
  refine wpAny_Try_except ?_
  have body' := hb (wKeep X.K c i ts Wout D) (X.pn ++ pins) (fun e s₁ => wpAny (model X.prog X.w) X.A (noteFrame e X.env) (fun _ s₂ => wpAny (model X.prog X.w) X.A (setFlight e none) (fun _ s₃ => wpAny (model X.prog X.w) X.A (handleBy e X.env [.ExceptHandler (some (.Name x np)) (some n) (b₀ :: suite) pos']) (SP X pins D) X.xe s₃) X.xe s₂) X.xe s₁)
  refine wpAny_mono ((body' (fun u s1 q1 => ?_) PassesOwn.looking).run [] s0 σ0 H0 D (I0.toTry _) h0) (fun fl s1 q1 => ?_) (fun e s1 q1 => q1)
  · obtain ⟨a, B, sI, pinsI, σI, HI, cls, d, rfl, JI, nb, up, sky, na, os, ag, b, hb1, hyes, hno⟩ := q1
    have J : Inv X pins σI HI sI := JI.ofTry okX
    have skyX : Sky B (X.env :: X.outer) a (Zc cls d) X.env.locals s1.heap := by rw [← hs]; exact sky
    -- it is new since the entry
    have Ba : B.get? a = none := by
      rcases sky with z | z | z
      · exact z.2.1
      · exact z.2.1
      · exact z.2.1
    show wpAny (model X.prog X.w) X.A (noteFrame (.ref a) X.env) _ _ _
    refine Sky.land Zc.steady frX hf skyX fun h3 fl3 up3 => ?_
    have J3 : Inv X pins σI HI { s1 with heap := h3 } := J.landed nb fl3.1 (up.trans up3) os ag
    obtain ⟨oe3, vs3, he3, hz3, hd3⟩ := fl3.there
    have nfr : a ∉ frs (X.env :: X.outer) := fun hm => by
      obtain ⟨_, o', e', hnf⟩ := fl3.2.2.1.mem hm
      rw [he3] at e'
      cases e'
      exact hnf _ hd3
    have nL : a ≠ X.env.locals := fun z => nfr (List.mem_filterMap.mpr ⟨X.env, List.mem_cons_self, by rw [hf, z]⟩)
    have nF : a ∉ X.fs := fun hm => by
      obtain ⟨e, he, q⟩ := List.mem_filterMap.mp hm
      exact nfr (List.mem_filterMap.mpr ⟨e, List.mem_cons_of_mem _ he, q⟩)
    have sIa : sI.heap.get? a = none := by
      cases z : sI.heap.get? a with
      | none => rfl
      | some o =>
        have z2 := nb a o z (by rw [hs]; exact nfr)
        rw [Ba] at z2
        cases z2
    have s0a : X.s_0.heap.get? a = none := by
      cases z : X.s_0.heap.get? a with
      | none => rfl
      | some o =>
        obtain ⟨o', z2⟩ := J.base.there a o z (by rw [hx]; simp)
        rw [sIa] at z2
        cases z2
    have npin : ∀ p ∈ X.pn ++ pins, p.1 ≠ a := fun p hp z => by
      have z2 := (J.pin p hp).1
      rw [z, sIa] at z2
      cases z2
    have S3 := J3.suite he3 hd3 na nL nF
    refine wpAny_handleBy_cons (codeAny_handlers_test ?_) (by intro q; cases q)
    have LT : PySem.W.Looks (model X.prog X.w) h3 (typeOf (.ref a)) cls := fun A Q E s k q => wpAny_typeOf_ref (k _ _ he3) (by rw [hz3.1]; exact q)
    have LM := PySem.W.exm_one (M := model X.prog X.w) J3.kIn LT hb1
    have test : ∀ {Q : Value → Shared → Prop} {E : Value → Shared → Prop}, Q c { s1 with heap := h3 } → wpAny (model X.prog X.w) (X.A.mark (some (.ref a))) (eval (.Name x np) X.env) Q E { s1 with heap := h3 } := fun {Q E} q => by
      obtain ⟨hg, hdbg, hm | ⟨hm, hv, hnn⟩⟩ := hc
      · exact ld_glob S3 hg hm q hdbg
      · exact ld_blt S3 hg hm hv q hnn hdbg
    refine test (LM.here ?_)
    cases b with
    | true =>
      refine codeAny_handlers_suite_as ?_
      refine HandSPX.lands_againZ fl3 fun h4 fl4 up4 => ?_
      have J4 : Inv X pins σI HI { s1 with heap := h4 } := J.landed nb fl4.1 ((up.trans up3).trans up4) os ag
      obtain ⟨oe4, vs4, he4, hz4, hd4⟩ := fl4.there
      have S4 := J4.suite he4 hd4 na nL nF
      refine store_ok (X := X.suite a ((a, oe4) :: (X.pn ++ pins))) (v := .ref a) S4 hN hi (.inl hln) rfl (fun s5 S5 => ?_) (.inr hln)
      refine wpAny_mono ((hsu a oe4 cls d (X.pn ++ pins) hz4 ⟨_, hd4⟩).run [] s5 _ HI _ S5 (hyes rfl a na)) (fun f s6 hsp => ?_) (fun _ _ z => False.elim z)
      cases f with
      | next =>
        obtain ⟨σ6, H6, S6, q6⟩ := hsp
        obtain ⟨p1, p2, _⟩ := S6.pin (a, oe4) (by rw [List.append_nil]; exact List.mem_cons_self)
        have T6 := inv_track (cls := cls) (d := d) (S6.unsuite okX) s0a p2 nL npin p1 hz4 hd4
        exact gone_ok T6 hN hi hln fun s7 J7 => ⟨_, _, J7, q6 p2⟩
      | brk =>
        obtain ⟨_, _, _, q6⟩ := hsp
        exact q6.elim
      | cont =>
        obtain ⟨_, _, _, q6⟩ := hsp
        exact q6.elim
      | ret u =>
        obtain ⟨_, _, _, _, _, q6⟩ := hsp
        exact q6.elim
    | false =>
      show wpAny _ X.A (handleBy (.ref a) X.env []) _ _ _
      refine wpAny_handleBy_nil ?_
      obtain ⟨k1, k2, k3, oe, vs, T, oT, ts', he, hz, hd, h1, hr⟩ := id fl3
      unfold PySem.passOn
      refine wpAny_bind (wpAny_field he hd h1 ?_)
      rw [if_neg (show ¬ ((Value.ref T == Value.none) = true) from by simp)]
      have last : wpAny (model X.prog X.w) X.A (setFlight (.ref a) X.env.frame) (fun _ s4 => wpAny (model X.prog X.w) X.A (throw (.ref a) : Sem Flow) (SP X pins D) X.xe s4) X.xe { s1 with heap := h3 } := by
        rw [hf]
        refine HandSPX.setFlight_upZ fl3 fun h4 hh4 up4 => wpAny_throw (tk _ _ ?_)
        exact ⟨a, B, sI, pins, σI, HI, cls, d, rfl, J, nb, (up.trans up3).trans up4, .inr (.inr (by rw [hs]; exact hh4)), na, os, ag, hno rfl⟩
      first
        | exact wpAny_bind (wpAny_pure (wpAny_bind last))
        | exact wpAny_bind last
  · cases fl with
    | next =>
      obtain ⟨σ', H', J', q⟩ := q1
      exact wpAny_execs_nil ⟨σ', H', J'.ofTry okX, q⟩
    | brk =>
      obtain ⟨σ', H', J', q⟩ := q1
      exact ⟨σ', H', J'.ofTry okX, q⟩
    | cont =>
      obtain ⟨σ', H', J', q⟩ := q1
      exact ⟨σ', H', J'.ofTry okX, q⟩
    | ret u =>
      obtain ⟨v, σ', H', J', r, q⟩ := q1
      exact ⟨v, σ', H', J'.ofTry okX, r, q⟩
end
end DL
set_option Elab.async false
set_option linter.all false
set_option maxRecDepth 100000
set_option maxHeartbeats 2000000
/-! Dx3: isinstance and a field of an exception that is kept behind its try. -/
namespace DL
open PySem PySem.Spec PyProof.Rows L2
/-- at a: such an exception of the class at D, with these fields -/
def ExAt (H : Hp) (a D : Addr) (fs : List (Str × V)) : Prop := ∃ dd, H a = some (exv (.ref D) (some dd) a) ∧ H dd = some (.xd fs)
theorem kit_exv {X : Cx} {pins : List (Addr × Obj)} {σ : L2.St} {H : Hp} {s : Shared} {a D : Addr} {fs : List (Str × V)} (I : Inv X pins σ H s) (e : ExAt H a D fs) (C : ExcC X.K D) :
    ∃ P, PySem.W.KitX X.K (.ref a) (.ref D) P ∧ P s.heap := by
  obtain ⟨dd, ha, hd⟩ := e
  obtain ⟨oe, vs, he, hz, hdat⟩ := exv_at I.hok ha
  obtain ⟨mA, hns, hr⟩ := (show ObjOk X.prog X.w H s.heap dd (.xd fs) from I.hok dd _ hd)
  obtain ⟨od, ho, hl⟩ := lookIn_ns hns
  have hcl : (PySem.W.clsIn X.K D).isSome = true := by
    obtain ⟨cd, hc, _⟩ := PySem.W.any_some C.hd
    rw [hc]
    rfl
  exact ⟨_, PySem.W.kitx_exc (od := some od) (ox := oe) hcl C.hg C.hk C.hs C.ha C.hn C.ht C.hm, ⟨he, hz.1, by unfold PySem.W.notCls; rw [hdat] <;> rfl, by rw [hz.2]; exact ho⟩⟩
/-- isinstance(x, c) -/
def rIsV (K : PySem.W.Frag) : List V → Hp → VK → Prop := fun xs H Q => ∃ (a D : Addr) (fs : List (Str × V)) (c : V) (u : Value) (b : Bool), xs = [.ref a, c] ∧ ExAt H a D fs ∧ ExcC K D ∧ ClsV c u ∧ PySem.W.kitOne K (.ref D) u = some b ∧ Q (.bl b) H
/-- isinstance(x, (c1, c2, ..)) -/
def rIsVT (K : PySem.W.Frag) : List V → Hp → VK → Prop := fun xs H Q => ∃ (a D : Addr) (fs : List (Str × V)) (tp : Addr) (cs : List V) (us : List Value) (b : Bool), xs = [.ref a, .ref tp] ∧ ExAt H a D fs ∧ ExcC K D ∧ H tp = some (.tup cs) ∧ Paired ClsV cs us ∧ PySem.W.kitAny K (.ref D) us = some b ∧ Q (.bl b) H
section
variable {X : Cx}
theorem call_isV : CallR X (.builtin "isinstance") (rIsV X.K) := by
  intro pins s σ H xs us Q I r h
  obtain ⟨a, D, fs, c, u, b, rfl, ha, C, k, e, q⟩ := h
  obtain ⟨u1, u2, rfl, r1, r2⟩ := vals2 r
  obtain rfl : u1 = Value.ref a := r1
  have e2 := k.eq r2
  subst e2
  obtain ⟨P, Z, p⟩ := kit_exv I ha C
  exact PySem.W.kia_one Z I.kIn p e (fun z => nomatch z) fun tk => ⟨.bl b, H, I.tok tk, rfl, q⟩
theorem call_isVT : CallR X (.builtin "isinstance") (rIsVT X.K) := by
  intro pins s σ H xs us Q I r h
  obtain ⟨a, D, fs, tp, cs, ws, b, rfl, ha, C, hT, k, e, q⟩ := h
  obtain ⟨u1, u2, rfl, r1, r2⟩ := vals2 r
  obtain rfl : u1 = Value.ref a := r1
  obtain rfl : u2 = Value.ref tp := r2
  obtain ⟨P, Z, p⟩ := kit_exv I ha C
  obtain ⟨_, its, rv, o, h1, h2, n, h3⟩ := (show ObjOk X.prog X.w H s.heap tp (.tup cs) from I.hok tp _ hT)
  have e3 := ClsV.all k rv
  subst e3
  obtain ⟨oc, od, dt, sl⟩ := o
  simp only at h2 h3
  subst h2 h3
  exact PySem.W.kia_tup Z I.kIn p h1 e (fun z => nomatch z) fun tk => ⟨.bl b, H, I.tok tk, rfl, q⟩
/-- e.f -/
def tXv (K : PySem.W.Frag) (f : Str) (te : TE) : TE := fun σ H Q => te σ H fun x H1 => ∃ (a D : Addr) (fs : List (Str × V)) (v : V), x = .ref a ∧ ExAt H1 a D fs ∧ XfC K D ∧ PySem.W.findIn K (.ref D) f = some none ∧ fs.lookup f = some v ∧ Q v H1
theorem pe_xv {e : Expr} {te : TE} {pos : Pos} {n : Str} (he : PE X e te) (hb : attributeBase e n X.env (eval e X.env) = eval e X.env := by rfl) : PE X (.Attribute e n pos) (tXv X.K n te) := by
  refine ⟨fun pins s σ H Q I h => ?_⟩
  refine attr_of hb (thn (he.run pins s σ H _ I h) fun u s1 hh => ?_)
  obtain ⟨x, H1, I1, rx, a, D, fs, v, ex, ea, T, hno, l, q⟩ := hh
  subst ex
  obtain rfl : u = Value.ref a := rx
  obtain ⟨dd, ha, hd⟩ := ea
  obtain ⟨oe, vs, hge, hz, hdat⟩ := exv_at I1.hok ha
  obtain ⟨mA, hns, hr⟩ := (show ObjOk X.prog X.w H1 s1.heap dd (.xd fs) from I1.hok dd _ hd)
  obtain ⟨od, ho, hl⟩ := lookIn_ns hns
  obtain ⟨u, hu, ru⟩ := RelO.some_of (v := v) (o := mA n) (by rw [← l]; exact hr n)
  have J : PySem.W.InstAt s1.heap a oe D (some od) := ⟨hge, hz.1, by unfold PySem.W.notCls; rw [hdat] <;> rfl, by rw [hz.2]; exact ho⟩
  exact HandSPX.exc_get I1.kIn J T.ga T.gg T.exC (PySem.W.findObj_own T.hdC hno rfl (by rw [hl, hu])) (handed_of ru) ⟨v, H1, I1.tok _, ru, q⟩
end
end DL
set_option Elab.async false
set_option linter.all false
set_option maxRecDepth 100000
set_option maxHeartbeats 2000000
/-! Dx4: a lambda that may have a default, handed to a def that calls it. -/
namespace DL
open PySem PySem.Spec PyProof.Rows L2 LamX
abbrev lamFn (qual : Str) (params : Arguments) (body : Expr) (scope : Scope) (clos : List (Str × Addr)) (dV pm cdv ctv : Value) : FuncData :=
  { name := "<lambda>", qualname := qual, params, body := .expr body, scope, globals := mainGlobals, closure := clos, defaults := dV, kwdefaults := .none, doc := .none, pyModule := pm, annotations := none, code := cdv, closureTuple := ctv, builtins := builtinsNs }
abbrev lamObj (qual : Str) (params : Arguments) (body : Expr) (scope : Scope) (clos : List (Str × Addr)) (dV pm : Value) (c' : Addr) (ctv : Value) : Obj :=
  { cls := .type "function", data := .func (lamFn qual params body scope clos dV pm (.ref c') ctv) }
section
variable {M : Model} {A : Around} {E : Value → Shared → Prop} {s : Shared} {qual : Str} {params : Arguments} {body : Expr} {scope : Scope} {env : Env} {c P : Addr} {ps : Array Value} {pos : Pos} {fl : Nat} {mg : Str → Option Value} {clos : List (Str × Addr)} {dV : Value} {Q : Value → Shared → Prop}
open PySem.W
theorem lam_tail_new (hcl : closureFor scope env = pure clos) (hge0 : env.globals = mainGlobals) (hg : s.heap.Ns mainGlobals mg) (hcode : env.code = .ref c) (C : CodeHd s.heap c P) (hP : s.heap.get? P = some (tabObj ps)) (ht : TriplesOk ps.toList)
    (hnf : codeAmong pos ps.toList = none) (hgP : mainGlobals ≠ P) (hb : s.heap.BuiltinsAt mg P)
    (h : ∀ c' ctv h' tk, Heap.ExtBut P s.heap h' → s.heap.objs.size ≤ c' → c' < h'.objs.size → h'.CodeRec (.ref c') qual → h'.get? P = some (tabObj (ps ++ #[rawInt pos.line, rawInt pos.col, .ref c'])) →
      Q (.ref h'.objs.size) { s with heap := h'.push (lamObj qual params body scope clos dV ((mg "__name__").getD .none) c' ctv), toks := tk }) :
    wpAny M A (makeTail "<lambda>" qual params (.expr body) scope env dV .none none pos fl) Q E s := by
  obtain ⟨bm, ob, hbm, hne0, _, hneP, hbo, hcls, hdict, hdata⟩ := hb
  unfold makeTail
  rw [hcl, hge0]
  refine wpAny_bind (wpAny_pure ?_)
  cases clos with
  | nil =>
    simp only [List.isEmpty_nil, if_true]
    refine wpAny_bind (wpAny_pure (wpAny_bind (wpAny_functionCodeX hcode (C.code hP ht) (C.tab hP) hnf fun c' h' tk hx hge hlt _ hrec htb _ => ?_)))
    have gx := hg.extBut hx hgP
    refine wpAny_bind (wpAny_builtinsFor gx hbm hne0 (hx _ _ hneP hbo) hcls hdict hdata (wpAny_bind (wpAny_nsGet gx ?_)))
    exact wpAny_bind (wpAny_pure (wpAny_newObj_type (h c' .none h' tk hx hge hlt hrec htb.2) (by size_fits)))
  | cons q r =>
    simp only [List.isEmpty_cons, Bool.false_eq_true, if_false]
    have up : ∀ {oT : Obj} (b : Addr) (o : Obj), s.heap.get? b = some o → (s.heap.push oT).get? b = some o := fun b o e => Heap.get?_push_of_some _ e
    refine wpAny_bind (wpAny_newTextTuple (wpAny_bind (wpAny_functionCodeX hcode ((C.keeps up).code (up _ _ hP) ht) ((C.keeps up).tab (up _ _ hP)) hnf fun c' h' tk hx hge hlt _ hrec htb _ => ?_)))
    have gx := (hg.push _).extBut hx hgP
    have hx2 : Heap.ExtBut P s.heap h' := fun b o hb' e => hx b o hb' (up b o e)
    have hge2 : s.heap.objs.size ≤ c' := Nat.le_trans (by rw [Heap.size_push]; omega) hge
    refine wpAny_bind (wpAny_builtinsFor gx hbm hne0 (hx2 _ _ hneP hbo) hcls hdict hdata (wpAny_bind (wpAny_nsGet gx ?_)))
    exact wpAny_bind (wpAny_pure (wpAny_newObj_type (h c' _ h' tk hx2 hge2 hlt hrec htb.2) (by size_fits)))
theorem lam_tail_hit {cv : Value} (hcl : closureFor scope env = pure clos) (hge0 : env.globals = mainGlobals) (hg : s.heap.Ns mainGlobals mg) (hcode : env.code = .ref c) (C : CodeHd s.heap c P) (hP : s.heap.get? P = some (tabObj ps)) (ht : TriplesOk ps.toList)
    (hf : codeAmong pos ps.toList = some cv) (hb : s.heap.BuiltinsAt mg P)
    (h : ∀ (ctv : Value) (h' : Heap) (tk : Tok), (∀ b o, s.heap.get? b = some o → h'.get? b = some o) → s.heap.objs.size ≤ h'.objs.size →
      Q (.ref h'.objs.size) { s with heap := h'.push { cls := .type "function", data := .func (lamFn qual params body scope clos dV ((mg "__name__").getD .none) cv ctv) }, toks := tk }) :
    wpAny M A (makeTail "<lambda>" qual params (.expr body) scope env dV .none none pos fl) Q E s := by
  obtain ⟨bm, ob, hbm, hne0, _, hneP, hbo, hcls, hdict, hdata⟩ := hb
  unfold makeTail
  rw [hcl, hge0]
  refine wpAny_bind (wpAny_pure ?_)
  cases clos with
  | nil =>
    simp only [List.isEmpty_nil, if_true]
    refine wpAny_bind (wpAny_pure (wpAny_bind (wpAny_functionCode_hit hcode (C.code hP ht) hf (wpAny_bind (wpAny_builtinsFor hg hbm hne0 hbo hcls hdict hdata (wpAny_bind (wpAny_nsGet hg ?_)))))))
    exact wpAny_bind (wpAny_pure (wpAny_newObj_type (h .none s.heap s.toks (fun _ _ e => e) (Nat.le_refl _)) (by size_fits)))
  | cons q r =>
    simp only [List.isEmpty_cons, Bool.false_eq_true, if_false]
    have up : ∀ {oT : Obj} (b : Addr) (o : Obj), s.heap.get? b = some o → (s.heap.push oT).get? b = some o := fun b o e => Heap.get?_push_of_some _ e
    refine wpAny_bind (wpAny_newTextTuple (wpAny_bind (wpAny_functionCode_hit hcode ((C.keeps up).code (up _ _ hP) ht) hf (wpAny_bind (wpAny_builtinsFor (hg.push _) hbm hne0 (up _ _ hbo) hcls hdict hdata (wpAny_bind (wpAny_nsGet (hg.push _) ?_)))))))
    exact wpAny_bind (wpAny_pure (wpAny_newObj_type (h _ _ s.toks up (by rw [Heap.size_push]; omega)) (by size_fits)))
end
section
variable {X : Cx} {pins : List (Addr × Obj)} {σ : L2.St} {H : Hp} {s : Shared}
theorem nofr_new (I : Inv X pins σ H s) {f : Addr} (hf : s.heap.objs.size ≤ f) : f ∉ frs X.stack := fun z => by
  rcases List.mem_cons.mp (I.stkSub _ z) with e | e
  · have h1 := I.lt
    rw [← e] at h1
    exact Nat.lt_irrefl _ (Nat.lt_of_lt_of_le h1 hf)
  · exact I.nofs hf e
/-- the lambda's object is made: its code object is new, or found in the table -/
theorem lam_tail {T : List (Addr × Str)} {c P : Addr} {params : Arguments} {body : Expr} {scope : Scope} {pos : Pos} {fl : Nat} {dV : Value} {E : Value → Shared → Prop} {Q : Value → Shared → Prop} (I : Inv X pins σ H s) (TB : TabB X.base X.mg c P) (hcode : X.env.code = .ref c)
    (hm : (P, X.env.qual ++ "<lambda>") ∈ T) (hu : ∀ p ∈ T, p.1 = P → p.2 = X.env.qual ++ "<lambda>") (hT : Tabs T H) (hfree : ∀ y ∈ scope.names, y.2 = .free → ∃ c, X.env.cells.lookup y.1 = some c)
    (h : ∀ (f c' : Addr) (pm ctv : Value) (H1 : Hp) (s' : Shared), Inv X pins σ H1 s' → (∀ b o, b ≠ P → H b = some o → H1 b = some o) → ExtN H H1 → Tabs T H1 → (∀ b o, b ≠ P → s.heap.get? b = some o → s'.heap.get? b = some o) → (∀ b, s.heap.get? b ≠ none → H b = none → H1 b = none) →
      s'.heap.get? f = some (lamObj (X.env.qual ++ "<lambda>") params body scope (cloFrom X.env.cells scope.names []) dV pm c' ctv) → H1 f = none → f ∉ frs X.stack → H1 c' = some (CodeO c' (X.env.qual ++ "<lambda>")) → Q (.ref f) s') :
    wpAny (model X.prog X.w) X.A (makeTail "<lambda>" (X.env.qual ++ "<lambda>") params (.expr body) scope X.env dV .none none pos fl) Q E s := by
  obtain ⟨ps, hP, ht, ha⟩ := hT _ hm
  have bP : s.heap.BuiltinsAt X.mg P := TB.bm.keeps I.bk
  have hPo : s.heap.get? P = some { cls := .none, data := .fields ps } := I.hok P _ hP
  cases hc : codeAmong pos ps.toList with
  | none =>
    refine lam_tail_new (mg := X.mg) (c := c) (P := P) (ps := ps) (closure_ok hfree) I.ok.glob (I.mod.glob.keeps I.bk) hcode (TB.code.keeps I.bk) hPo ht hc TB.gP bP fun c' ctv h' tk hx hge hlt hrec htb => ?_
    obtain ⟨c2, oc, vs, t, e2, hoc, hd, hv⟩ := hrec
    cases e2
    have hsz : s.heap.objs.size ≤ h'.objs.size := Nat.le_trans hge (Nat.le_of_lt hlt)
    have nC : H c' = none := I.hok.fresh hge
    have I1 := inv_table (t' := tk) (more := #[rawInt pos.line, rawInt pos.col, .ref c']) (h' := h'.push (lamObj (X.env.qual ++ "<lambda>") params body scope (cloFrom X.env.cells scope.names []) dV ((X.mg "__name__").getD .none) c' ctv)) I hP
      (fun b o hb e => Heap.get?_push_of_some _ (hx b o hb e)) (Heap.get?_push_of_some _ htb) hge ⟨oc, vs, t, Heap.get?_push_of_some _ hoc, hd, hv⟩
    have hE : ExtN H (upd (upd H P (.tbl (ps ++ #[rawInt pos.line, rawInt pos.col, .ref c']))) c' (CodeO c' (X.env.qual ++ "<lambda>"))) := fun b o e n => by
      rw [upd_ne (ne_of_none e nC), upd_ne (fun z => n ps (Option.some.inj (e.symm.trans (by rw [z]; exact hP))))]
      exact e
    have eL : (ps ++ #[rawInt pos.line, rawInt pos.col, .ref c']).toList = ps.toList ++ [rawInt pos.line, rawInt pos.col, .ref c'] := by simp
    refine h h'.objs.size c' ((X.mg "__name__").getD .none) ctv _ _ I1 (fun b o hb e => by rw [upd_ne (ne_of_none e nC), upd_ne hb]; exact e) hE (fun p hp => ?_) (fun b o hb e => Heap.get?_push_of_some _ (hx b o hb e)) (fun b e n => ?_) (Heap.get?_push_size _ rfl) ?_ (nofr_new I hsz) upd_same
    · by_cases hb : p.1 = P
      · rw [hu p hp hb, hb]
        refine ⟨_, by rw [upd_ne (ne_of_none hP nC), upd_same], by rw [eL]; exact PySem.TriplesOk_snoc _ _ _ _ ht, fun p' cv hcv => ?_⟩
        rw [eL] at hcv
        rcases among_app _ ht hcv with z | z
        · obtain ⟨c0, e1, e2⟩ := ha p' cv z
          exact ⟨c0, e1, hE _ _ e2 codeO_ne⟩
        · exact ⟨c', z, upd_same⟩
      · obtain ⟨ps', a1, a2, a3⟩ := hT p hp
        refine ⟨ps', by rw [upd_ne (ne_of_none a1 nC), upd_ne hb]; exact a1, a2, fun p' cv hcv => ?_⟩
        obtain ⟨c0, e1, e2⟩ := a3 p' cv hcv
        exact ⟨c0, e1, hE _ _ e2 codeO_ne⟩
    · have n1 : b ≠ c' := fun z => by
        cases e2 : s.heap.get? b with
        | none => exact e e2
        | some o => exact Nat.lt_irrefl _ (Nat.lt_of_lt_of_le (Heap.lt_size e2) (by rw [z]; exact hge))
      have n2 : b ≠ P := fun z => by
        rw [z, hP] at n
        cases n
      rw [upd_ne n1, upd_ne n2]
      exact n
    · have n1 : h'.objs.size ≠ c' := Nat.ne_of_gt hlt
      have n2 : h'.objs.size ≠ P := Nat.ne_of_gt (Nat.lt_of_lt_of_le (Heap.lt_size hPo) hsz)
      rw [upd_ne n1, upd_ne n2]
      exact I.hok.fresh hsz
  | some cv =>
    obtain ⟨c', e, hco⟩ := ha pos cv hc
    subst e
    refine lam_tail_hit (mg := X.mg) (c := c) (P := P) (ps := ps) (closure_ok hfree) I.ok.glob (I.mod.glob.keeps I.bk) hcode (TB.code.keeps I.bk) hPo ht hc bP fun ctv h' tk hx hsz => ?_
    have up : ∀ b o, s.heap.get? b = some o → (h'.push (lamObj (X.env.qual ++ "<lambda>") params body scope (cloFrom X.env.cells scope.names []) dV ((X.mg "__name__").getD .none) c' ctv)).get? b = some o := fun b o e => Heap.get?_push_of_some _ (hx b o e)
    exact h h'.objs.size c' ((X.mg "__name__").getD .none) ctv H _ (I.kept (t' := tk) up) (fun b o _ e => e) (ExtN.refl H) hT (fun b o _ e => up b o e) (fun b _ n => n) (Heap.get?_push_size _ rfl) (I.hok.fresh hsz) (nofr_new I hsz) hco
end
end DL
set_option Elab.async false
set_option linter.all false
set_option maxRecDepth 100000
set_option maxHeartbeats 2000000
/-! Dx5: such a lambda handed to a def of one parameter, which calls it. -/
namespace DL
open PySem PySem.Spec PyProof.Rows L2 LamX
/-- what stands as the defaults -/
def DfAt (ds : List Value) (dV : Value) (h : Heap) : Prop := (ds = [] ∧ dV = .none) ∨ ∃ T, dV = .ref T ∧ h.get? T = some ({ cls := .type "tuple", data := .seq ds.toArray } : Obj)
/-- the names of such a lambda: bs its parameters (each by its default) -/
structure LamD (N : List Str) (sc scope : Scope) (binds : List (Str × Value)) : Prop where
  kind : scope.kind = .function
  co : scope.isCoroutine = false
  gen : scope.isGenerator = false
  nocell : ∀ y ∈ scope.names, y.2 ≠ .cell
  loc : ∀ y ∈ scope.names, y.2 = .local → y.1 ∉ N
  free : ∀ y ∈ scope.names, y.2 = .free → sc.names.lookup y.1 = some .cell ∨ sc.names.lookup y.1 = some .free
  bnd : ∀ y ∈ binds, scope.names.lookup y.1 = some .local
theorem LamD.has {X : Cx} {scope : Scope} {binds : List (Str × Value)} (L : LamD X.N X.env.scope scope binds) (ok : X.Ok) : ∀ y ∈ scope.names, y.2 = .free → ∃ c, X.env.cells.lookup y.1 = some c := fun y hy e => by
  rcases L.free y hy e with k | k
  · exact ok.has _ (.inl k)
  · exact ok.has _ (.inr k)
section
variable {X : Cx} {pins : List (Addr × Obj)} {σ : L2.St} {H HZ : Hp} {s s1 : Shared}
theorem lam_startD {A : Around} {outer : List Env} {E : XK} {scope : Scope} {f c' : Addr} {h₁ : Heap} {tk : Nat} {binds : List (Str × Value)} {m1 : Str → Option Value} (I : Inv X pins σ H s) (L : LamD X.N X.env.scope scope binds) (e0 : Env0 X.prog X.w X.K X.mg X.base A outer s1 HZ) (hd : A.handled = none)
    (un : Un (frs X.stack) [] H HZ s.heap s1.heap) (hns : h₁.Ns s1.heap.objs.size m1) (kp : ∀ b o, s1.heap.get? b = some o → h₁.get? b = some o) :
    Inv (lamCx X A outer s1 HZ E scope f c') [] σ HZ { s1 with heap := h₁, toks := tk } := by
  have hfree := L.has I.ok
  have cm : ∀ {y c}, (cloFrom X.env.cells scope.names []).lookup y = some c → X.env.cells.lookup y = some c := fun {y c} e => by
    rcases cloFrom_mem (PySem.mem_of_lookup e) with hm | ⟨h1, h2⟩
    · cases hm
    · obtain ⟨c1, hc⟩ := hfree _ h1 rfl
      have hc : X.env.cells.lookup y = some c1 := hc
      have e2 : c = c1 := by
        rw [h2, hc] <;> rfl
      rw [e2]
      exact hc
  have look : ∀ {y}, scope.names.lookup y = some .free → ∃ c, (cloFrom X.env.cells scope.names []).lookup y = some c := fun {y} hl => by
    have hy : (y, NameKind.free) ∈ scope.names := PySem.mem_of_lookup hl
    exact mem_lookup (cloFrom_has (cells := X.env.cells) (acc := []) hy)
  have cellK : ∀ {c : Addr} {v : Option Value}, H c = none → s.heap.IsCell c v → h₁.IsCell c v := fun {c v} n ⟨o, ho, hd⟩ => by
    obtain ⟨sl, q⟩ := un.any ho n (by simp)
    exact ⟨_, kp _ _ q, hd⟩
  have noA : ∀ b : Addr, b ∉ (lamCx X A outer s1 HZ E scope f c').ex := fun b z => absurd (show b ∈ ([] : List Addr) from z) (by simp)
  refine ⟨⟨e0.mod, L.kind, rfl, rfl, Nat.le_refl _, fun y z c e1 e2 => I.ok.inj y z c (cm e1) (cm e2), fun y hy => ?_, fun y c z _ => ?_, fun _ => hd, Around.frames_deeper e0.frames, .inr ⟨rfl, rfl⟩, fun b z => absurd z (noA b), e0.bs, e0.bsz, fun b _ _ => noA b,
      fun b z => absurd z (noA b), e0.funs, e0.frf⟩,
    rfl, e0.bare, Un.kept kp, ⟨_, hns, fun i y v e1 e2 e3 => ?_⟩, fun y c e => ?_, e0.hok.fresh (Nat.le_refl _), fun y c e => ?_, fun q hq => absurd (show q ∈ ([] : List (Addr × Obj)) ++ [] from hq) (by simp), e0.hok.kept kp, I.len⟩
  · have hy : scope.names.lookup y = some .cell ∨ scope.names.lookup y = some .free := hy
    rcases hy with hy | hy
    · exact absurd rfl (L.nocell _ (PySem.mem_of_lookup hy))
    · exact look hy
  · have z : false = true := z
    cases z
  · have e3 : Vis scope y := e3
    have e1 : X.N[i]? = some y := e1
    rcases e3 with k | k | k
    · exact absurd (List.mem_of_getElem? e1) (L.loc _ (PySem.mem_of_lookup k) rfl)
    · exact absurd rfl (L.nocell _ (PySem.mem_of_lookup k))
    · obtain ⟨m, hn, hl⟩ := I.loc
      have hvis : Vis X.env.scope y := (L.free _ (PySem.mem_of_lookup k) rfl).elim (fun k => .inr (.inl k)) (fun k => .inr (.inr k))
      obtain ⟨w', r, q⟩ := hl i y v e1 e2 hvis
      obtain ⟨c2, h2⟩ := look k
      refine ⟨w', r, .inr ⟨.inr k, c2, h2, ?_⟩⟩
      have c1 := cm h2
      rcases q with ⟨k', _⟩ | ⟨_, c3, e', z⟩
      · have k' : X.env.scope.names.lookup y = some .local := k'
        rcases L.free _ (PySem.mem_of_lookup k) rfl with k2 | k2 <;> rw [show X.env.scope.names.lookup y = _ from k2] at k' <;> cases k'
      · rw [c1] at e'
        cases e'
        exact cellK (I.freeC y _ c1) z
  · obtain ⟨w', z⟩ := I.cell y c (cm e)
    exact ⟨w', cellK (I.freeC y c (cm e)) z⟩
  · obtain ⟨v, o, ho, hd⟩ := I.cell y c (cm e)
    exact un.free c o ho (I.freeC y c (cm e)) (by simp)
/-- x(), in the def that got the lambda -/
theorem pe_actD {CXg : CXT} {Eg : XK} {Ng : List Str} {qg : Str} {sg : Scope} {g f c' : Addr} {cdg pm ctv dV : Value} {params : Arguments} {body : Expr} {scope : Scope} {k i : Nat} {a : Str} {pn : List (Addr × Obj)} {xe : Value → Shared → Prop} {W : WX} {E : XK} {tb : TE} {p1 p2 : Pos} {binds : List (Str × Value)} {ds : List Value}
    (I : Inv X pins σ H s) (L : LamD X.N X.env.scope scope binds) (hf : s.heap.get? f = some (lamObj (X.env.qual ++ "<lambda>") params body scope (cloFrom X.env.cells scope.names []) dV pm c' ctv)) (hfn : H f = none) (hfr : f ∉ frs X.stack)
    (hdT : DfAt ds dV s.heap) (hTn : ∀ T, dV = .ref T → H T = none ∧ T ∉ frs X.stack)
    (hbind : ∀ s2 : Shared, DfAt ds dV s2.heap → BindsTo s2 (lamFn (X.env.qual ++ "<lambda>") params body scope (cloFrom X.env.cells scope.names []) dV pm (.ref c') ctv) ⟨[], []⟩ binds)
    (tk : Takes ((cxOf CXg X.prog X.w X.K X.mg X.base Ng qg sg g cdg X.A X.stack s H Eg).tr pn xe) W) (hr : Room (k + 1) (X.A.deeper (envOfC qg sg s.heap.objs.size g cdg)))
    (hbody : ∀ (A : Around) (outer : List Env) (s : Shared) (H : Hp), Room k (A.deeper (lamEnv X scope s.heap.objs.size f c')) → PE (lamCx X A outer s H E scope f c') body tb)
    (hN : Ng[i]? = some a) (hv : Vis sg a) (hd : (a == ("__debug__" : Str)) = false := by decide) (hcd : (a == ("__classdict__" : Str)) = false := by decide) :
    PE ((cxOf CXg X.prog X.w X.K X.mg X.base Ng qg sg g cdg X.A X.stack s H Eg).tr pn xe) (.Call (.Name a p1) [] [] p2)
      (fun σZ HZ Q => (∀ cls d H', E cls d H' → W cls d σZ H') ∧ σZ[i]? = some (some (.ref f)) ∧ HZ c' = some (CodeO c' (X.env.qual ++ "<lambda>")) ∧ tb σ HZ Q) := by
  refine ⟨fun pinsZ sZ σZ HZ Q IZ h => ?_⟩
  obtain ⟨hW, hs, hc, ht⟩ := h
  refine wpAny_Call_Name_kw (thn ((pe_var (pos := p1) (i := i) hN hv hd hcd).run pinsZ sZ σZ HZ (fun v H1 => v = .ref f ∧ H1 = HZ) IZ ⟨.ref f, hs, rfl, rfl⟩) fun u s1 ⟨v, H1, I1, r1, q1⟩ => ?_)
  obtain ⟨ev, eH⟩ := q1
  subst ev
  rw [eH] at I1
  obtain rfl : u = Value.ref f := r1
  have keep : ∀ {b : Addr} {o : Obj}, s.heap.get? b = some o → H b = none → b ∉ frs X.stack → s1.heap.get? b = some o := fun {b o} e1 e2 e3 => I1.base.keep b o e1 e2 e3 (fun z => nomatch (show b ∈ ([] : List Addr) from z))
  have of1 := keep hf hfn hfr
  have dT1 : DfAt ds dV s1.heap := by
    rcases hdT with z | ⟨T, e1, e2⟩
    · exact .inl z
    · obtain ⟨n1, n2⟩ := hTn T e1
      exact .inr ⟨T, e1, keep e2 n1 n2⟩
  refine PySem.W.callWith_F0 ⟨_, _, _, _, of1⟩ ?_
  have un : Un (frs X.stack) [] H HZ s.heap s1.heap := I1.base
  obtain ⟨⟨oc, vs, t, hoc, hdc, hvc⟩, _, _⟩ := I1.hok c' _ hc
  have rc : codeAny (model X.prog X.w) (X.A.deeper (envOfC qg sg s.heap.objs.size g cdg)) (.call (.ref f) ⟨[], []⟩) (CR (L2.CX X.prog X.w) (envOfC qg sg s.heap.objs.size g cdg :: X.stack) X.prog X.w HZ s1 Q E) s1 := by
    refine PySem.W.kla_callFunE hr.depth of1 rfl L.co L.gen rfl ⟨c', oc, vs, t, rfl, hoc, hdc, hvc⟩ ?_
    refine hbind s1 dT1 _ _ _ _ (wpAny_newFunctionEnv L.nocell L.bnd (fun h₁ hns hsb => ⟨I1.nolimit.fresh _ hsb, ?_⟩) L.kind)
    show codeAny _ _ (.expr body (lamEnv X scope s1.heap.objs.size f c')) _ _
    have kp : ∀ b o, s1.heap.get? b = some o → h₁.get? b = some o := fun b o e => hsb.extBut b o (Nat.ne_of_lt (Heap.lt_size e)) (Heap.get?_push_of_some _ e)
    have J : Inv (lamCx X (X.A.deeper (envOfC qg sg s.heap.objs.size g cdg)) (envOfC qg sg s.heap.objs.size g cdg :: X.stack) s1 HZ E scope f c') [] σ HZ { s1 with heap := h₁, toks := s1.toks + binds.length } := lam_startD I L I1.env0 hr.hd un hns kp
    refine PySem.W.kla_codeExpr (wpAny_mono ((hbody _ _ s1 HZ (hr.deeper _)).run [] _ _ HZ Q J ht) (fun v s' hq => ?_) fun e s' hq => hq)
    obtain ⟨w', H', J', rv, q⟩ := hq
    exact ⟨w', H', J'.os, J'.bare, J'.base, J'.hok, rv, q⟩
  have hx := passAt tk σZ
  refine wpAny_call (codeAny_mono rc fun r s' hq => ?_)
  cases r with
  | error e =>
    obtain ⟨a2, B2, H2, cls, d, z1, z2, z3, z4, z5, z6, z7, z8⟩ := (show L2.CX X.prog X.w (envOfC qg sg s.heap.objs.size g cdg :: X.stack) HZ s1 E e s' from hq)
    exact hx pinsZ HZ s1 e s' I1 ⟨a2, B2, H2, cls, d, z1, z2, z3, z4, z5, z6, z7, hW _ _ _ z8⟩
  | ok fl =>
    cases fl with
    | ret u => exact I1.after hq
    | next => exact False.elim hq
    | brk => exact False.elim hq
    | cont => exact False.elim hq
end
end DL
set_option Elab.async false
set_option linter.all false
set_option maxRecDepth 100000
set_option maxHeartbeats 2000000
/-! Dx6: raise C(text), by data. -/
namespace DL
open PySem PySem.Spec PyProof.Rows L2
/-- super().__init__'s argument: f'..{x}' of a text in slot 1 -/
def taI1 : TA := fun σ H Q => ∃ y : Str, σ[1]? = some (some (.str y)) ∧ y.length ≤ 1000 ∧ ∀ z : Str, Q [.str z] H
/-- self.fld = x, both slots told -/
def tI1 (K : PySem.W.Frag) (fld : Str) : TS := fun D σ H => ∃ (a C : Addr) (v : V), σ[0]? = some (some (.ref a)) ∧ σ[1]? = some (some v) ∧ OexC K C ∧ PySem.W.findIn K (.ref C) fld = some none ∧ H a = some (exo a C none) ∧
  ∀ dx, H dx = none → dx ≠ a → D.nx σ (upd (upd H dx (exd dx [(fld, v)])) a (exo a C (some dx)))
section
variable {X : Cx} {fld pre : Str} {j : Nat} {p1 p2 p3 p4 p5 p6 p7 : Pos}
theorem pa_i1 (hpre : pre.length ≤ 100000) (h0 : X.N[1]? = some fld) (hv : Vis X.env.scope fld) (hd : (fld == ("__debug__" : Str)) = false) (hcd : (fld == ("__classdict__" : Str)) = false) :
    PA X [.JoinedStr [.Constant (.str pre) j p1, .FormattedValue (.Name fld p2) (-1) none p3] p4] taI1 := by
  refine PA.imp (pa_cons (pe_joined (.cons pe_str (.cons (pe_fmt (pe_var (i := 1) h0 hv hd hcd)) .nil))) pa_nil rfl) fun σ H Q ⟨y, e, hy, q⟩ => ?_
  have hs := sizeLine_eq
  refine ⟨pre, rfl, ?_, .str y, e, .inl ⟨y, rfl, by omega, y, rfl, ?_, q _⟩⟩
  · rw [PySem.Str.length_append]
    have : Str.empty.length = 0 := rfl
    omega
  · rw [PySem.Str.length_append, PySem.Str.length_append]
    have : Str.empty.length = 0 := rfl
    omega
theorem ps_i1 (h0 : X.N[0]? = some ("self" : Str)) (h1 : X.N[1]? = some fld) (hv0 : Vis X.env.scope ("self" : Str)) (hv : Vis X.env.scope fld) (hd : (fld == ("__debug__" : Str)) = false) (hcd : (fld == ("__classdict__" : Str)) = false)
    (hs : swapsWith (.Name fld p2) (some (.Attribute (.Name "self" p3) fld p4)) p5.line X.env = pure false) : PSs X [.Assign [.Attribute (.Name "self" p3) fld p4] (.Name fld p2) p5] (tI1 X.K fld) := by
  refine PSs.imp (pss_one (ps_ost (pe_var (i := 0) h0 hv0) (pe_var (i := 1) h1 hv hd hcd) hs)) fun D σ H ⟨a, C, v, e0, e1, T, hno, ea, q⟩ => ?_
  exact ⟨v, e1, .ref a, e0, a, C, rfl, T, hno, .inl ⟨ea, q⟩⟩
end
/-- raise c(y): the exception's one field -/
def sRaise1 (c fld : Str) (f : EM) : SM := liftM f fun d env st => match d with
  | .str y => if y.length ≤ 1000 then some (.error ⟨c, [(fld, .str y)]⟩, env, st) else none
  | _ => none
theorem made_heap {H1 : Hp} {a C dx : Addr} {fs : List (Str × V)} (ha : H1 a = none) (hne : dx ≠ a) : upd (del (upd (upd (upd H1 a (exo a C none)) dx (exd dx fs)) a (exo a C (some dx))) a) dx (.xd fs) = upd H1 dx (.xd fs) := by
  funext b
  by_cases e : b = dx
  · subst e
    rw [upd_same, upd_same]
  · rw [upd_ne e, upd_ne e]
    by_cases e2 : b = a
    · subst e2
      rw [del_same, ha]
    · rw [del_ne e2, upd_ne e2, upd_ne e, upd_ne e2]
section
variable {X : Cx} {m : Md} {W : WX} {c fld : Str} {C fI : Addr} {k : Nat} {fd : FuncData} {e : Expr} {f : EM} {p pos pos' : Pos}
theorem ds_raise1 (hc : X.calm = true) (tk : Takes X W) (S : SupC X.K C C) (hno : PySem.W.findIn X.K (.ref C) fld = some none) (iC : PySem.W.findIn X.K (.ref C) "__init__" = some (some (.ref fI))) (tI : PySem.W.typeIn X.K (.ref fI) = some (.type "function"))
    (F1 : FnOk X.prog X.w X.K X.mg X.base C8.CX0 k fI fd ["self", fld] (spS X.K ["self", fld] ["self", fld] C taI1 (tI1 X.K fld))) (hr : Room (k + 1) X.A) (hb : Binds X.K fd ["self", fld] []) (hm : X.mg c = some (.ref C)) (hx0 : Passes C8.CX0 X (fun _ _ _ => False)) (ha : PE X e (tD m W f)) (hmg : X.mg = m.mg := by rfl) (hg : Gl X c := by rfl)
    (hdb : (c == ("__debug__" : Str)) = false := by decide) (he : starEach (e :: []) X.env = (false, eval e X.env) :: starEach [] X.env := by rfl) (hpl : (backTo pos (starEach [] X.env)).any (·.1) = false := by rfl) :
    PS X (.Raise (some (.Call (.Name c p) [e] [] pos)) none pos') (tS m W (sRaise1 c fld f)) := by
  refine PS.imp (ps_raise hc tk (pmk_oex S.oex iC tI F1 hr hb (.nil) hx0 hg hm (pa_cons ha pa_nil he) hdb he hpl)) fun D σ H ⟨γ, B0, B, G, env, st, E, P⟩ => ?_
  unfold sRaise1 at P
  refine ⟨γ, B0, B, G, env, st, E, (P.lift E).imp fun d st1 G1 H1 s1 p1 P1 v rv => ?_⟩
  cases d with
  | str y =>
    dsimp only at P1
    by_cases hy : y.length ≤ 1000
    · rw [if_pos hy] at P1
      have ev := rv.str_inv
      subst ev
      have E1 := E.step s1 p1
      refine ⟨by simp, fun a ha1 => ⟨rfl, a, C, rfl, S, upd_same, y, rfl, hy, fun z => ⟨by simp, upd_same, a, C, .str y, rfl, rfl, S.oex, hno, upd_same, fun dx hdx hne => ?_⟩⟩⟩
      rw [upd_ne hne] at hdx
      refine ⟨rfl, dx, [(fld, .str y)], upd_same, by rw [upd_ne hne, upd_same], hdx, ?_⟩
      rw [made_heap ha1 hne]
      have sl := Step.alloc (o := .xd [(fld, V.str y)]) s1.sub s1.tok p1 hdx
      exact P1 σ _ _ (E1.step sl (p1.alloc s1.sub s1.tok hdx)) _ _ ⟨C, dx, [(fld, .str y)], by rw [← hmg]; exact hm, rfl, rfl, upd_same, rfl, .cons (.str y) .nil⟩
    · rw [if_neg hy] at P1
      exact P1.elim
  | _ => exact False.elim P1
end
end DL
set_option Elab.async false
set_option linter.all false
set_option maxRecDepth 100000
set_option maxHeartbeats 2000000
/-! Dx7: an exception class of one field, what the written part says of it. -/
namespace DL
open PySem PySem.Spec PyProof.Rows L2
/-- the __init__ of a class of one field -/
abbrev initBody1 (pre fld : Str) (j : Nat) (p0 p1 p2 p3 p4 q1 q2 q3 q4 q5 q6 q7 q8 : Pos) : List Stmt :=
  [.Expr (.Call (.Attribute (.Call (.Name "super" p0) [] [] p1) "__init__" p2) [.JoinedStr [.Constant (.str pre) j q1, .FormattedValue (.Name fld q2) (-1) none q3] q4] [] p3) p4, .Assign [.Attribute (.Name "self" q5) fld q6] (.Name fld q7) q8]
theorem init1_ok {P : Program} {w : World} {K : PySem.W.Frag} {mg : Str → Option Value} {base : Heap} {name qual pre fld : Str} {scope : Scope} {f cda cc D : Addr} {params : Arguments} {j : Nat} {dV kV doc pm ct oc ccl cl : Value} {an od cdd cld : Option Addr}
    {osl ccs csl : Array (Option Value)} {vsC : Array Value} {file : Str} {tf : Tok} {ar : Arg} {p0 p1 p2 p3 p4 q1 q2 q3 q4 q5 q6 q7 q8 : Pos}
    (lk : K.lookup f = some ⟨oc, od, .func (PySem.W.ksFn name qual params (initBody1 pre fld j p0 p1 p2 p3 p4 q1 q2 q3 q4 q5 q6 q7 q8) scope dV kV doc pm an (.ref cda) ct cc), osl⟩)
    (hcd : PySem.W.codeIn K (.ref cda) qual = true) (hcode : K.lookup cda = some ⟨ccl, cdd, .fields vsC, ccs⟩) (hvs : vsC[2]? = some (.str file tf)) (hfile : ((P.main.file : Str) == file) = true) (htop : (P.main.scope.names.lookup ("super" : Str)).isSome = false)
    (hcell : K.lookup cc = some ⟨cl, cld, .cell (some (.ref D)), csl⟩) (S : SupScope ["self", fld] ["self", fld] scope) (hh : (params.posonlyargs ++ params.args).head? = some ar) (har : ar.arg = ("self" : Str)) (hsup : mg "super" = none) (hno : PySem.W.nsIn K cStatics "thirdparty.any" = some none)
    (hpre : pre.length ≤ 100000) (hd : (fld == ("__debug__" : Str)) = false) (hcd2 : (fld == ("__classdict__" : Str)) = false)
    (pl : Env → Sem Bool) (hev : ∀ env : Env, eval (.Call (.Attribute (.Call (.Name "super" p0) [] [] p1) "__init__" p2) [.JoinedStr [.Constant (.str pre) j q1, .FormattedValue (.Name fld q2) (-1) none q3] q4] [] p3) env = (do
      let ov ← attributeBase (.Call (.Name "super" p0) [] [] p1) "__init__" env (eval (.Call (.Name "super" p0) [] [] p1) env)
      standAt p2.atName
      let (f, first) ← holding [ov] (getMethod ov "__init__" (pl env))
      callWith p3 f first (backTo p3 (starEach [.JoinedStr [.Constant (.str pre) j q1, .FormattedValue (.Name fld q2) (-1) none q3] q4] env)) [])) :
    FnOk P w K mg base C8.CX0 1 f (PySem.W.ksFn name qual params (initBody1 pre fld j p0 p1 p2 p3 p4 q1 q2 q3 q4 q5 q6 q7 q8) scope dV kV doc pm an (.ref cda) ct cc) ["self", fld] (spS K ["self", fld] ["self", fld] D taI1 (tI1 K fld)) := by
  refine init_ok (k := 0) (N := ["self", fld]) (ps := ["self", fld]) lk hcd hcode hvs hfile htop hcell S hh (by rw [har]; rfl) hsup hno (fun A outer s H E _ => ?_) (fun A outer s H E _ => ?_) pl hev
  · exact pa_i1 (X := cxS P w K mg base ["self", fld] qual scope f cda cc A outer s H E) hpre rfl (.inl (S.par fld (by simp))) hd hcd2
  · exact ps_i1 (X := cxS P w K mg base ["self", fld] qual scope f cda cc A outer s H E) rfl rfl (.inl (S.par ("self" : Str) (by simp))) (.inl (S.par fld (by simp))) hd hcd2 rfl
end DL
set_option Elab.async false
set_option linter.all false
set_option maxRecDepth 100000
set_option maxHeartbeats 2000000
/-! Dx8: x(lambda: body), x(lambda a=0: body). -/
namespace DL
open PySem PySem.Spec PyProof.Rows L2 LamX
/-- the defaults of such a lambda: none, or one whole number -/
inductive Dfs (X : Cx) (params : Arguments) : List V → Prop
  | nil : defaultsOf params X.env = ([], []) → Dfs X params []
  | one {d : Expr} {i : Int} : defaultsOf params X.env = ([eval d X.env], []) → PE X d (tC (.int i)) → Dfs X params [.int i]
section
variable {X : Cx} {pins : List (Addr × Obj)} {σ : L2.St} {H : Hp} {s : Shared}
theorem lam_evalD {T : List (Addr × Str)} {c P : Addr} {params : Arguments} {body : Expr} {scope : Scope} {pos : Pos} {vds : List V} {Q : Value → Shared → Prop} (I : Inv X pins σ H s) (TB : TabB X.base X.mg c P) (hcode : X.env.code = .ref c)
    (hm : (P, X.env.qual ++ "<lambda>") ∈ T) (hu : ∀ p ∈ T, p.1 = P → p.2 = X.env.qual ++ "<lambda>") (hT : Tabs T H) (hfree : ∀ y ∈ scope.names, y.2 = .free → ∃ c, X.env.cells.lookup y.1 = some c) (hdf : Dfs X params vds)
    (h : ∀ (f c' : Addr) (pm ctv dV : Value) (ds : List Value) (H1 : Hp) (s' : Shared), Inv X pins σ H1 s' → (∀ b o, b ≠ P → H b = some o → H1 b = some o) → ExtN H H1 → Tabs T H1 → Vals vds ds → DfAt ds dV s'.heap → (∀ T, dV = .ref T → H1 T = none ∧ T ∉ frs X.stack) →
      s'.heap.get? f = some (lamObj (X.env.qual ++ "<lambda>") params body scope (cloFrom X.env.cells scope.names []) dV pm c' ctv) → H1 f = none → f ∉ frs X.stack → H1 c' = some (CodeO c' (X.env.qual ++ "<lambda>")) → Q (.ref f) s') :
    wpAny (model X.prog X.w) X.A (eval (.Lambda params body scope pos) X.env) Q X.xe s := by
  rw [arm_eval_Lambda]
  cases hdf with
  | nil hdef =>
    rw [hdef]
    refine wpAny_bind (wpAny_pure (wpAny_bind (wpAny_holding (wpAny_pure ?_))))
    rw [makeFunction_eq]
    simp only [List.zip_nil_right, List.filterMap_nil, List.isEmpty_nil, if_true, pure_bind]
    exact lam_tail I TB hcode hm hu hT hfree fun f c' pm ctv H1 s' I1 hP eN T1 kp kn hf hfn hfr hco => h f c' pm ctv .none [] H1 s' I1 hP eN T1 .nil (.inl ⟨rfl, rfl⟩) (fun T z => by cases z) hf hfn hfr hco
  | @one d i hdef hd =>
    rw [hdef]
    refine wpAny_bind ?_
    refine wpAny_bind (thn (hd.run pins s σ H (fun v H1 => v = .int i ∧ H1 = H) I ⟨rfl, rfl⟩) fun u s1 hv => ?_)
    obtain ⟨v, H1, I1, ru, rfl, rfl⟩ := hv
    refine wpAny_bind (wpAny_holding (wpAny_pure (wpAny_pure (wpAny_bind (wpAny_holding (wpAny_pure ?_))))))
    rw [makeFunction_eq]
    simp only [List.zip_nil_right, List.filterMap_nil, List.isEmpty_nil, List.isEmpty_cons, Bool.false_eq_true, if_false, if_true, pure_bind]
    refine wpAny_bind (wpAny_newTextTuple ?_)
    have kT : ∀ b o, s1.heap.get? b = some o → (s1.heap.push ({ cls := .type "tuple", data := .seq [u].toArray } : Obj)).get? b = some o := fun b o e => Heap.get?_push_of_some _ e
    have I2 := I1.kept (t' := s1.toks) kT
    have gT : (s1.heap.push ({ cls := .type "tuple", data := .seq [u].toArray } : Obj)).get? s1.heap.objs.size = some { cls := .type "tuple", data := .seq [u].toArray } := Heap.get?_push_at rfl rfl
    have nT : H1 s1.heap.objs.size = none := I1.hok.fresh (Nat.le_refl _)
    refine lam_tail I2 TB hcode hm hu hT hfree fun f c' pm ctv H2 s' I3 hP eN T1 kp kn hf hfn hfr hco => ?_
    have nP : s1.heap.objs.size ≠ P := fun z => by
      obtain ⟨ps, q, _⟩ := hT _ hm
      have q : H1 P = some (.tbl ps) := q
      rw [← z, nT] at q
      cases q
    refine h f c' pm ctv _ [u] H2 s' I3 hP eN T1 (.cons ru .nil) (.inr ⟨_, rfl, kp _ _ nP gT⟩) (fun T z => ?_) hf hfn hfr hco
    cases z
    exact ⟨kn _ (by rw [gT]; exact fun z => by cases z) nT, nofr_new I1 (Nat.le_refl _)⟩
end
/-- the def that calls what it got: a calls it -/
def GivesD (X : Cx) (Ng : List Str) (x : Str) (sg : Scope) (g : Addr) (cdg : Value) (bg : List Stmt) (a : Str) (q : Str) (TT : (XK → Hp → VK → Prop) → Hp → VK → Prop) : Prop :=
  ∀ (f c' : Addr) (s : Shared) (H : Hp) (Q : VK) (tl : XK → Hp → VK → Prop),
    (∀ (W : WX) (pn : List (Addr × Obj)) (xe : Value → Shared → Prop) (E : XK) (p1 p2 : Pos), Takes ((cxOf C8.CX0 X.prog X.w X.K X.mg X.base Ng x sg g cdg X.A X.stack s H C8.E0).tr pn xe) W →
      PE ((cxOf C8.CX0 X.prog X.w X.K X.mg X.base Ng x sg g cdg X.A X.stack s H C8.E0).tr pn xe) (.Call (.Name a p1) [] [] p2) (fun σZ HZ Q => (∀ cls d H', E cls d H' → W cls d σZ H') ∧ σZ[0]? = some (some (.ref f)) ∧ HZ c' = some (CodeO c' q) ∧ tl E HZ Q)) →
    H c' = some (CodeO c' q) → TT tl H Q →
    ∃ t, PSs (cxOf C8.CX0 X.prog X.w X.K X.mg X.base Ng x sg g cdg X.A X.stack s H C8.E0).nox bg t ∧ t { nx := fun _ H' => Q .non H', rt := Q } (L2.start Ng [.ref f]) H
/-- x(lambda ..): T the tables, P the maker's -/
def tLamP (T : List (Addr × Str)) (P : Addr) (TT : (XK → Hp → VK → Prop) → Hp → VK → Prop) (t : XK → TE) : TE := fun σ H Q => Tabs T H ∧ ∀ H1, (∀ b o, b ≠ P → H b = some o → H1 b = some o) → Tabs T H1 → TT (fun E H' Q' => t E σ H' Q') H1 Q
section
variable {X : Cx}
theorem pe_lamD {T : List (Addr × Str)} {TT : (XK → Hp → VK → Prop) → Hp → VK → Prop} {x a : Str} {g c P : Addr} {k : Nat} {pg : Arguments} {bg : List Stmt} {sg : Scope} {dV kV doc pm cdv ct oc : Value} {an od : Option Addr} {osl : Array (Option Value)} {Ng bn : List Str}
    {params : Arguments} {body : Expr} {scope : Scope} {t : XK → TE} {p lpos pos : Pos} {vds : List V} (hg : Gl X x) (hm : X.mg x = some (.ref g)) (hk : PySem.W.keepIn X.K (.ref g) = true)
    (lk : X.K.lookup g = some ⟨oc, od, .func (PySem.W.fnOf x x pg bg sg dV kV doc pm an cdv ct), osl⟩) (hcg : PySem.W.codeIn X.K cdv x = true) (hb : L2.Binds X.K (PySem.W.fnOf x x pg bg sg dV kV doc pm an cdv ct) [a] []) (Sg : FnScope Ng [a] sg) (hNg : Ng[0]? = some a) (hva : Vis sg a)
    (hG : GivesD X Ng x sg g cdv bg a (X.env.qual ++ "<lambda>") TT)
    (TB : TabB X.base X.mg c P) (hcode : X.env.code = .ref c) (hmT : (P, X.env.qual ++ "<lambda>") ∈ T) (hu : ∀ p ∈ T, p.1 = P → p.2 = X.env.qual ++ "<lambda>") (hr : Room (k + 2) X.A) (hL : ∀ ds, Vals vds ds → LamD X.N X.env.scope scope (bn.zip ds)) (hdf : Dfs X params vds)
    (hB : ∀ (q : Str) (cl : List (Str × Addr)) (dV pm cv ctv : Value) (ds : List Value) (s2 : Shared), Vals vds ds → DfAt ds dV s2.heap → BindsTo s2 (lamFn q params body scope cl dV pm cv ctv) ⟨[], []⟩ (bn.zip ds))
    (hbody : ∀ (A : Around) (outer : List Env) (s : Shared) (H : Hp) (E : XK) (f c' : Addr), Room k (A.deeper (lamEnv X scope s.heap.objs.size f c')) → PE (lamCx X A outer s H E scope f c') body (t E))
    (hdb : (x == ("__debug__" : Str)) = false := by decide) (hd : (a == ("__debug__" : Str)) = false := by decide) (hcd : (a == ("__classdict__" : Str)) = false := by decide) :
    PE X (.Call (.Name x p) [.Lambda params body scope lpos] [] pos) (tLamP T P TT t) := by
  refine ⟨fun pins s σ H Q I h => ?_⟩
  obtain ⟨hT, h⟩ := h
  refine wpAny_Call_Name_kw (ld_glob I hg hm ?_ hdb)
  refine PySem.W.callWith_K (h₀ := X.base) I.ok.mod.kin hk ?_ (by rfl) (by rfl)
  show wpAny _ _ (spliced ((false, eval (.Lambda params body scope lpos) X.env) :: backTo pos (starEach [] X.env))) _ _ s
  have hhas : ∀ y ∈ scope.names, y.2 = .free → ∃ c, X.env.cells.lookup y.1 = some c := by
    cases hdf with
    | nil _ => exact (hL [] .nil).has I.ok
    | @one d i _ _ => exact (hL [.int i default] (.cons ⟨_, rfl⟩ .nil)).has I.ok
  refine Calls.spliced_cons (lam_evalD I TB hcode hmT hu hT hhas hdf fun f c' pm' ctv dV' ds H1 s' I1 hP eN T1 rds hD hTn hf hfn hfr hco => ?_)
  refine Calls.spliced_nil ⟨I1.kIn, ?_⟩
  have rc : codeAny (model X.prog X.w) X.A (.call (.ref g) ⟨[.ref f], []⟩) (CR C8.CX0 X.stack X.prog X.w H1 s' Q C8.E0) s' := by
    refine run_ofS (N := Ng) (ps := [a]) (us := [.ref f]) (vs := [.ref f]) lk hcg Sg hr I1.env0 (hb s' [.ref f] I1.kIn rfl) (.cons rfl .nil) rfl fun hr' => ?_
    obtain ⟨t', ht', hq'⟩ := hG f c' s' H1 Q (fun E H' Q' => t E σ H' Q') (fun W pn xe E p1 p2 tk => pe_actD (i := 0) I1 (hL ds rds) hf hfn hfr hD hTn (fun s2 hd2 => hB _ _ _ _ _ _ _ _ rds hd2) tk hr' (fun A outer s H hr2 => hbody A outer s H E f c' hr2) hNg hva hd hcd) hco (h H1 hP T1)
    exact ⟨t', ht'.nox, hq'⟩
  refine wpAny_call (codeAny_mono rc fun r s2 hq => ?_)
  cases r with
  | error e => exact (show False from hq).elim
  | ok fl =>
    cases fl with
    | ret u => exact I1.after hq
    | next => exact False.elim hq
    | brk => exact False.elim hq
    | cont => exact False.elim hq
end
end DL
set_option Elab.async false
set_option linter.all false
set_option maxRecDepth 100000
set_option maxHeartbeats 2000000
/-! Dx9: a def that hears what a lambda says: try: found = ask() / except C as error: caught = error / and then by data. -/
namespace DL
open PySem PySem.Spec PyProof.Rows L2 LamX
/-- behind ask(): an error that hd tells of -/
def EIn (m : Md) (hd : Exc → Option D) (Q : VK) : XK := fun cls dd H => ∃ γ G st x r, Same G H ∧ γ.tok G H ∧ PenOk m γ st G H ∧ ExcIs m G H x cls dd ∧ hd x = some r ∧ ∀ G' H' v, Step γ G H G' H' → PenOk m γ st G' H' → Rep m G' v r → Q v H'
/-- behind ask(): a value -/
def QIn (m : Md) (Q : VK) : VK := fun v H => ∃ γ G st d, Same G H ∧ γ.tok G H ∧ PenOk m γ st G H ∧ Rep m G v d ∧ ∀ G' H' v', Step γ G H G' H' → PenOk m γ st G' H' → Rep m G' v' (.lst [d]) → Q v' H'
def TTh (m : Md) (hd : Exc → Option D) : (XK → Hp → VK → Prop) → Hp → VK → Prop := fun tl H Q => ∀ H1, (∀ b o, H b = some o → H1 b = some o) → ∀ Q1 : VK, (∀ v H', QIn m Q v H' → Q1 v H') → tl (EIn m hd Q) H1 Q1
abbrev heardN : List Str := ["ask", "found", "caught", "error", "words", "kinds"]
abbrev heardX (X : Cx) (x : Str) (sg : Scope) (g : Addr) (cdg : Value) (s : Shared) (H : Hp) : Cx := (cxOf C8.CX0 X.prog X.w X.K X.mg X.base heardN x sg g cdg X.A X.stack s H C8.E0).nox
/-- found, caught = (None, None) -/
def tNoNo : TS := fun D σ H => ∀ q, H q = none → D.nx ((σ.set 1 (some .non)).set 2 (some .non)) (upd H q (.tup [.non, .non]))
theorem same_none {G H : Hp} {b : Addr} (s : Same G H) (h : H b = none) : G b = none := by
  cases e : G b with
  | none => rfl
  | some o =>
    have := s _ _ e
    rw [h] at this
    cases this
theorem envIn {m : Md} {γ : Gh} {G H : Hp} {st : Pen} {f : Addr} (s : Same G H) (t : γ.tok G H) (p : PenOk m γ st G H) {v w : V} {d e : D} (rv : Rep m G v d) (rw_ : Rep m G w e) (z : Option V) :
    EnvOk m γ G H [some (.ref f), some v, some w, z, none, none] G H [.no, .val d, .val e, .no, .no, .no] st := by
  refine ⟨s, t, Step.refl s t, p, rfl, fun i sl x h1 h2 => ?_, fun i j sl tl x hij h1 h2 o1 o2 h3 h4 => ?_⟩
  · match i, h1, h2 with
    | 0, h1, h2 => cases h1; exact trivial
    | 1, h1, h2 => cases h1; cases h2; exact ⟨v, rfl, rv⟩
    | 2, h1, h2 => cases h1; cases h2; exact ⟨w, rfl, rw_⟩
    | 3, h1, h2 => cases h1; exact trivial
    | 4, h1, h2 => cases h1; exact trivial
    | 5, h1, h2 => cases h1; exact trivial
    | i + 6, h1, _ => simp at h1
  · match i, h1 with
    | 0, h1 => cases h1; cases o1
    | 1, h1 => cases h1; cases o1
    | 2, h1 => cases h1; cases o1
    | 3, h1 => cases h1; cases o1
    | 4, h1 => cases h1; cases o1
    | 5, h1 => cases h1; cases o1
    | i + 6, h1 => simp at h1
/-- the caught exception frozen, with its dict -/
theorem freeze_exc {m : Md} {γ : Gh} {G H : Hp} {st : Pen} {x : Exc} {cls : Value} {dd : Option Addr} {a : Addr} (s : Same G H) (t : γ.tok G H) (p : PenOk m γ st G H) (ex : ExcIs m G H x cls dd) (ha : H a = none) :
    Step γ G H (upd G a (exv cls dd a)) (upd H a (exv cls dd a)) ∧ PenOk m γ st (upd G a (exv cls dd a)) (upd H a (exv cls dd a)) ∧ Rep m (upd G a (exv cls dd a)) (.ref a) (.exc x.cls x.args) := by
  obtain ⟨C, d, vs, hm, rfl, rfl, gd, hn, rl⟩ := ex
  have sl := Step.alloc (o := exv (.ref C) (some d) a) s t p ha
  refine ⟨sl, p.alloc s t ha, .exc upd_same (sl.gg _ _ gd) hm hn (rl.same sl.gg)⟩
section
variable {X : Cx} {m : Md} {hd : Exc → Option D} {x q : Str} {sg : Scope} {g FE : Addr} {cdg : Value} {st1 : Stmt} {rest : List Stmt} {u : SM} {pf pa pc pe1 pe2 ph pb ps1 pt pa2 : Pos}
theorem heard_gives (hs1 : ∀ s H, PS (heardX X x sg g cdg s H) st1 tNoNo)
    (hgE : sg.names.lookup ("FieldError" : Str) = some .globalImplicit) (hmE : X.mg "FieldError" = some (.ref FE))
    (hla : Vis sg "ask") (hlf : sg.names.lookup ("found" : Str) = some .local) (hlc : sg.names.lookup ("caught" : Str) = some .local) (hle : sg.names.lookup ("error" : Str) = some .local)
    (hrest : ∀ s H, PSs (heardX X x sg g cdg s H) rest (tS m (fun _ _ _ _ => False) u))
    (hexm : ∀ y r, hd y = some r → ∀ C, m.mg y.cls = some (.ref C) → PySem.W.exmOne X.K (.ref C) (.ref FE) = some true)
    (uOk : ∀ d st, ∃ env', u [.no, .val d, .val .non, .no, .no, .no] st = some (.ok (.ret (.lst [d])), env', st))
    (uEx : ∀ y r st, hd y = some r → ∃ env', u [.no, .val .non, .val (.exc y.cls y.args), .no, .no, .no] st = some (.ok (.ret r), env', st))
    (hsw1 : ∀ env, swapsWith (.Call (.Name "ask" pa) [] [] pa2) (some (.Name "found" pf)) pb.line env = pure false) (hsw2 : ∀ env, swapsWith (.Name "error" pe2) (some (.Name "caught" pc)) ps1.line env = pure false) :
    GivesD X heardN x sg g cdg (st1 :: .Try [.Assign [.Name "found" pf] (.Call (.Name "ask" pa) [] [] pa2) pb] [.ExceptHandler (some (.Name "FieldError" pe1)) (some "error") [.Assign [.Name "caught" pc] (.Name "error" pe2) ps1] ph] [] [] pt :: rest) "ask" q (TTh m hd) := by
  intro f c' s H Q tl act hc h
  have nd : heardN.Nodup := by decide
  have hgl : Gl (heardX X x sg g cdg s H) "FieldError" := hgE
  have p2 : PS (heardX X x sg g cdg s H) (.Try [.Assign [.Name "found" pf] (.Call (.Name "ask" pa) [] [] pa2) pb] [.ExceptHandler (some (.Name "FieldError" pe1)) (some "error") [.Assign [.Name "caught" pc] (.Name "error" pe2) ps1] ph] [] [] pt) _ :=
    ps_try_keep (X := heardX X x sg g cdg s H) (c := .ref FE) (i := 3)
      (tb := fun W D σ H => ∃ Ech : XK, (∀ cls d H', Ech cls d H' → W cls d σ H') ∧ σ[0]? = some (some (.ref f)) ∧ H c' = some (CodeO c' q) ∧ tl Ech H fun v H1 => D.nx (σ.set 1 (some v)) H1)
      (ts := fun _ _ _ => tAsg (tVar 3) (gName 2)) rfl rfl rfl nd rfl hle ⟨hgl, by decide, .inl hmE⟩ L2.takes0
      (fun W pn xe tk _ => ⟨fun pins s' σ H' D I h' => by
        obtain ⟨Ech, h1, h2, h3, h4⟩ := h'
        have hp := act W pn xe Ech pa pa2 tk
        exact (pss_one (ps_set (i := 1) nd rfl (.inl hlf) hp (hsw1 _))).run pins s' σ H' D I ⟨h1, h2, h3, h4⟩⟩)
      (fun a oe cls d pn _ _ => pss_one (ps_set (i := 2) nd rfl (.inl hlc) (pe_var (i := 3) rfl (.inl hle)) (hsw2 _) (.inr hlc)))
  refine ⟨_, pss_cons (hs1 s H) (pss_cons p2 (hrest s H)), ?_⟩
  intro q0 hq0
  have kH : ∀ b o, H b = some o → upd H q0 (.tup [.non, .non]) b = some o := fun b o e => by rw [upd_ne (ne_of_none e hq0)]; exact e
  refine ⟨EIn m hd Q, fun cls dd H' hin => ?_, rfl, kH _ _ hc, ?_⟩
  · obtain ⟨γ, G, st, y, r, s', t', p', ex, hr, k⟩ := hin
    obtain ⟨C, d, vs, hm, ec, ed, gd, hn, rl⟩ := id ex
    refine ⟨true, by rw [ec]; exact hexm y r hr C hm, fun _ a ha => ?_, fun z => by cases z⟩
    refine ⟨.ref a, rfl, fun hn2 => ?_⟩
    obtain ⟨sl, pl, rp⟩ := freeze_exc s' t' p' ex ha
    obtain ⟨env', eu⟩ := uEx y r st hr
    refine ⟨γ, upd G a (exv cls dd a), upd H' a (exv cls dd a), upd G a (exv cls dd a), [.no, .val .non, .val (.exc y.cls y.args), .no, .no, .no], st, envIn sl.sub sl.tok pl .non rp _, ?_⟩
    rw [eu]
    exact fun σ' G' H2 E' v rv => k G' H2 v (sl.trans E'.base) E'.pen rv
  · refine h _ kH _ fun v H' hin => ?_
    obtain ⟨γ, G, st, d, s', t', p', rv, k⟩ := hin
    obtain ⟨env', eu⟩ := uOk d st
    refine ⟨γ, G, H', G, [.no, .val d, .val .non, .no, .no, .no], st, envIn s' t' p' rv .non _, ?_⟩
    rw [eu]
    exact fun σ' G' H2 E' v rv => k G' H2 v E'.base E'.pen rv
end
end DL
set_option Elab.async false
set_option linter.all false
set_option maxRecDepth 100000
set_option maxHeartbeats 2000000
/-! Dx10: heard(lambda ..) by data. -/
namespace DL
open PySem PySem.Spec PyProof.Rows L2 LamX
/-- the ghost of a frame that makes lambdas: the tables of code objects are what else may change -/
def ghT (T : List (Addr × Str)) : Gh → Prop := fun γ => (∀ b, γ.T b ↔ ∃ p ∈ T, p.1 = b) ∧ ∀ G H, γ.tok G H ↔ Tabs T H
/-- what is heard: [a value], or what hd tells of an error -/
def eHeard (hd : Exc → Option D) (f : EM) : EM := fun env st => match f env st with
  | none => none
  | some (.ok d, st') => some (.ok (.lst [d]), st')
  | some (.error x, st') => match hd x with
    | some r => some (.ok r, st')
    | none => none
theorem heard_read {m : Md} {T : List (Addr × Str)} {P : Addr} {hd : Exc → Option D} {f : EM} {W : WX} (hgh : ∀ γ, m.gh γ → ghT T γ) (hP : ∃ p ∈ T, p.1 = P) {σ : L2.St} {H : Hp} {Q : VK} (h : tD m W (eHeard hd f) σ H Q) :
    tLamP T P (TTh m hd) (fun E => tD m (fun c d _ H => E c d H) f) σ H Q := by
  obtain ⟨γ, B0, B, G, env, st, E, Po⟩ := h
  obtain ⟨gT, gtok⟩ := hgh γ E.pen.gh
  have TP : γ.T P := (gT P).mpr hP
  refine ⟨(gtok G H).mp E.tok, fun H1 hk T1 H2 ext Q1 hQ => ?_⟩
  have up : ∀ b o, b ≠ P → H b = some o → H2 b = some o := fun b o hb e => ext b o (hk b o hb e)
  have T2 : Tabs T H2 := T1.ext ext
  have sl : Step γ G H G H2 := by
    refine ⟨Same.refl G, fun b o e => ?_, fun _ _ z => z, fun b o ha e => ?_, fun b hb => ?_, (gtok G H2).mpr T2⟩
    · have hb : b ≠ P := fun z => by
        rw [z, (E.pen.live P TP).2] at e
        cases e
      exact up b o hb (E.sub b o e)
    · exact up b o (fun z => ha.2 (z ▸ TP)) e
    · by_cases z : b = P
      · subst z
        obtain ⟨p, hp, e⟩ := hP
        obtain ⟨ps, e2, _⟩ := T2 p hp
        rw [← e, e2]
        intro z
        cases z
      · cases e : H b with
        | none => exact absurd e hb
        | some o =>
          rw [up b o z e]
          intro z
          cases z
  have pe : PenOk m γ st G H2 := E.pen.step sl fun b hb => by
    obtain ⟨_, q, e, _⟩ := E.pen.pen b hb
    rw [e]
    exact up b _ (fun z => γ.apart b hb (z ▸ TP)) e
  refine ⟨γ, B0, B, G, env, st, E.step sl pe, ?_⟩
  have Po := Po.step sl
  unfold eHeard at Po
  cases e : f env st with
  | none => rw [e] at Po; exact Po
  | some r =>
    obtain ⟨r, st'⟩ := r
    rw [e] at Po
    cases r with
    | ok d => exact fun G' H' s' p' v rv => hQ v H' ⟨γ, G', st', d, s'.sub, s'.tok, p', rv, fun G2 H3 v' s2 p2 r2 => Po G2 H3 (s'.trans s2) p2 v' r2⟩
    | error x =>
      dsimp only at Po
      cases hr : hd x with
      | none => rw [hr] at Po; exact Po.elim
      | some r =>
        rw [hr] at Po
        exact fun cls dd G' H' s' p' ex => ⟨γ, G', st', x, r, s'.sub, s'.tok, p', ex, hr, fun G2 H3 v s2 p2 rv => Po G2 H3 (s'.trans s2) p2 v rv⟩
end DL
set_option Elab.async false
set_option linter.all false
set_option maxRecDepth 100000
set_option maxHeartbeats 2000000
/-! Dx11: rows of such a def, by data. -/
namespace DL
open PySem PySem.Spec PyProof.Rows L2 LamX
section
variable {X : Cx} {m : Md} {W : WX}
/-- a kept exception, out of its data -/
theorem Rep.exAt {G H : Hp} {v : V} {c : Str} {fs : List (Str × D)} (s : Same G H) (r : Rep m G v (.exc c fs)) : ∃ a C vs, v = .ref a ∧ ExAt H a C vs ∧ m.mg c = some (.ref C) ∧ vs.map (·.1) = fs.map (·.1) ∧ RepL m G (vs.map (·.2)) (fs.map (·.2)) := by
  cases r with
  | exc h q c n r => exact ⟨_, _, _, rfl, ⟨_, s _ _ h, s _ _ q⟩, c, n, r⟩
/-- isinstance(e, C) of a kept exception: ans by the class's name -/
def isX (ans : Str → Option Bool) : D → M D
  | .exc c _ => match ans c with
    | some b => pureM (.bl b)
    | none => failM
  | _ => failM
def eIsX (ans : Str → Option Bool) (f : EM) : EM := fun env => bindM (f env) (isX ans)
theorem isX_post {γ : Gh} {G H : Hp} {d : D} {ans : Str → Option Bool} {st : Pen} {k : D → Pen → Hp → Hp → Prop} {W : XK} (P : Post m γ G H (isX ans d st) k W) : ∃ c fs b, d = .exc c fs ∧ ans c = some b ∧ Post m γ G H (some (.ok (.bl b), st)) k W := by
  cases d with
  | exc c fs =>
    have P : Post m γ G H ((match ans c with
      | some b => pureM (.bl b)
      | none => failM : M D) st) k W := P
    cases e : ans c with
    | none => rw [e] at P; exact False.elim P
    | some b => rw [e] at P; exact ⟨c, fs, b, rfl, e, P⟩
  | _ => exact False.elim P
theorem de_isx {a : Expr} {f : EM} {y : Str} {CB : Addr} {ans : Str → Option Bool} {p p2 pos : Pos} (hm : X.mg "isinstance" = none) (ha : PE X a (tD m W f)) (hy : X.mg y = some (.ref CB)) (hans : ∀ c b, ans c = some b → ∀ C, m.mg c = some (.ref C) → ExcC X.K C ∧ PySem.W.kitOne X.K (.ref C) (.ref CB) = some b)
    (hg : Gl X "isinstance" := by rfl) (hgy : Gl X y := by rfl) (hdy : (y == ("__debug__" : Str)) = false := by decide)
    (hs : starEach (a :: [.Name y p2]) X.env = (false, eval a X.env) :: starEach [.Name y p2] X.env := by rfl) (hs2 : starEach (.Name y p2 :: []) X.env = (false, eval (.Name y p2) X.env) :: starEach [] X.env := by rfl) (hpl : (backTo pos (starEach [.Name y p2] X.env)).any (·.1) = false := by rfl) :
    PE X (.Call (.Name "isinstance" p) [a, .Name y p2] [] pos) (tD m W (eIsX ans f)) := by
  refine PE.imp (pe_callB call_isV hg hm boot_isinstance (pa_cons ha (pa_cons (pe_glob (v := .ref CB) hgy hy rfl hdy) pa_nil hs2) hs) (by decide) (by decide) hs hpl) fun σ H Q ⟨γ, B0, B, G, env, st, E, P⟩ => ?_
  refine ⟨γ, B0, B, G, env, st, E, P.bind.imp fun d st1 G1 H1 s1 p1 P1 v rv => ?_⟩
  obtain ⟨c, fs, b, rfl, hc, P2⟩ := isX_post P1
  obtain ⟨a2, C, vs, rfl, ex, hmc, _, _⟩ := Rep.exAt s1.sub rv
  obtain ⟨h1, h2⟩ := hans c b hc C hmc
  exact ⟨a2, C, vs, .ref CB, .ref CB, b, rfl, ex, h1, .own CB, h2, P2.now s1.sub s1.tok p1 _ (.bl b)⟩
/-- e.fld of a kept exception -/
def fldX (cs : List Str) (fld : Str) : D → M D
  | .exc c fs => if c ∈ cs then (match fs.lookup fld with
    | some d => pureM d
    | none => failM) else failM
  | _ => failM
def eFldX (cs : List Str) (fld : Str) (f : EM) : EM := fun env => bindM (f env) (fldX cs fld)
theorem RepL.look {G : Hp} {fld : Str} {d : D} : ∀ {vs : List (Str × V)} {fs : List (Str × D)}, vs.map (·.1) = fs.map (·.1) → RepL m G (vs.map (·.2)) (fs.map (·.2)) → fs.lookup fld = some d → ∃ v, vs.lookup fld = some v ∧ Rep m G v d
  | [], [], _, _, h => nomatch h
  | [], _ :: _, n, _, _ => nomatch n
  | _ :: _, [], n, _, _ => nomatch n
  | (a, v) :: vs, (b, e) :: fs, n, r, h => by
    rw [List.map_cons, List.map_cons, List.cons.injEq] at n
    obtain ⟨n1, n2⟩ := n
    have n1 : a = b := n1
    subst n1
    rw [List.map_cons, List.map_cons] at r
    cases r with
    | cons r1 r2 =>
      rw [List.lookup_cons] at h ⊢
      cases q : (fld == a) with
      | true =>
        rw [q] at h
        cases h
        exact ⟨v, rfl, r1⟩
      | false =>
        rw [q] at h
        exact RepL.look n2 r2 h
theorem de_fldx {cs : List Str} {e : Expr} {f : EM} {fld : Str} {pos : Pos} (ha : PE X e (tD m W f)) (hfs : ∀ c ∈ cs, ∀ C, m.mg c = some (.ref C) → XfC X.K C ∧ PySem.W.findIn X.K (.ref C) fld = some none)
    (hb : attributeBase e fld X.env (eval e X.env) = eval e X.env := by rfl) : PE X (.Attribute e fld pos) (tD m W (eFldX cs fld f)) := by
  refine PE.imp (pe_xv ha hb) fun σ H Q ⟨γ, B0, B, G, env, st, E, P⟩ => ?_
  refine ⟨γ, B0, B, G, env, st, E, P.bind.imp fun d st1 G1 H1 s1 p1 P1 v rv => ?_⟩
  cases d with
  | exc c fs =>
    have P1 : Post m γ G1 H1 ((if c ∈ cs then (match fs.lookup fld with
      | some d => pureM d
      | none => failM) else failM : M D) st1) _ _ := P1
    by_cases hc : c ∈ cs
    · rw [if_pos hc] at P1
      cases q : fs.lookup fld with
      | none => rw [q] at P1; exact False.elim P1
      | some d =>
        rw [q] at P1
        obtain ⟨a, C, vs, rfl, ex, hmc, n, rl⟩ := Rep.exAt s1.sub rv
        obtain ⟨w, hw, rw_⟩ := RepL.look n rl q
        obtain ⟨h1, h2⟩ := hfs c hc C hmc
        exact ⟨a, C, vs, w, rfl, ex, h1, h2, hw, P1.now s1.sub s1.tok p1 _ rw_⟩
    · rw [if_neg hc] at P1
      exact False.elim P1
  | _ => exact False.elim P1
/-- found, caught = (None, None) -/
theorem ps_nono {p1 p2 pt pos q1 q2 q3 : Pos} {kt k2 k3 : Nat} {kk : Nat} (hc : X.calm = true) (hN : X.N.Nodup) (h1 : X.N[1]? = some ("found" : Str)) (h2 : X.N[2]? = some ("caught" : Str)) (l1 : X.env.scope.names.lookup ("found" : Str) = some .local) (l2 : X.env.scope.names.lookup ("caught" : Str) = some .local)
    (hs : swapsWithSole [.Tuple [.Name "found" p1, .Name "caught" p2] kt pt] (.Tuple [.Constant .none k2 q1, .Constant .none k3 q2] kk q3) pos.line X.env = pure false) (hw : swappedStores [.Tuple [.Name "found" p1, .Name "caught" p2] kt pt] (.Tuple [.Constant .none k2 q1, .Constant .none k3 q2] kk q3) X.env = pure none) :
    PS X (.Assign [.Tuple [.Name "found" p1, .Name "caught" p2] kt pt] (.Tuple [.Constant .none k2 q1, .Constant .none k3 q2] kk q3) pos) tNoNo := by
  refine PS.imp (ps_asg (pe_tup (pa_cons pe_non (pa_cons pe_non pa_nil rfl) rfl)) (pg_tup hc (pgs_cons (pg_name hN h1 (.inl l1) (.inr l1)) (pgs_cons (pg_name hN h2 (.inl l2) (.inr l2)) pgs_nil)) rfl rfl) hs hw) fun D σ H h => ?_
  refine ⟨by decide, fun q hq => ⟨q, [.non, .non], rfl, .of upd_same, rfl, .non, [.non], rfl, .non, [], rfl, rfl, h q hq⟩⟩
/-- the classes of a written tuple -/
inductive ClEs (X : Cx) : List Expr → List Addr → Prop
  | nil : ClEs X [] []
  | cons {e : Expr} {es : List Expr} {C : Addr} {cs : List Addr} : PE X e (tC (.ref C)) → ClEs X es cs → starEach (e :: es) X.env = (false, eval e X.env) :: starEach es X.env → ClEs X (e :: es) (C :: cs)
theorem ClEs.pa : ∀ {es : List Expr} {cs : List Addr}, ClEs X es cs → PA X es fun _ H Q => Q (cs.map V.ref) H
  | _, _, .nil => pa_nil
  | _, _, .cons h t hs => PA.imp (pa_cons h t.pa hs) fun σ H Q q => q
theorem paired_cl : ∀ cs : List Addr, Paired ClsV (cs.map V.ref) (cs.map Value.ref)
  | [] => .nil
  | c :: cs => .cons (.own c) (paired_cl cs)
theorem de_isxT {a : Expr} {es : List Expr} {cs : List Addr} {f : EM} {ans : Str → Option Bool} {p pos pt : Pos} {kt} (hm : X.mg "isinstance" = none) (ha : PE X a (tD m W f)) (hc : ClEs X es cs) (hans : ∀ c b, ans c = some b → ∀ C, m.mg c = some (.ref C) → ExcC X.K C ∧ PySem.W.kitAny X.K (.ref C) (cs.map Value.ref) = some b) (hz : cs.length ≤ sizeLine) (hg : Gl X "isinstance" := by rfl)
    (hs : starEach (a :: [.Tuple es kt pt]) X.env = (false, eval a X.env) :: starEach [.Tuple es kt pt] X.env := by rfl) (hs2 : starEach (.Tuple es kt pt :: []) X.env = (false, eval (.Tuple es kt pt) X.env) :: starEach [] X.env := by rfl) (hpl : (backTo pos (starEach [.Tuple es kt pt] X.env)).any (·.1) = false := by rfl) :
    PE X (.Call (.Name "isinstance" p) [a, .Tuple es kt pt] [] pos) (tD m W (eIsX ans f)) := by
  refine PE.imp (pe_callB call_isVT hg hm boot_isinstance (pa_cons ha (pa_cons (pe_tup hc.pa) pa_nil hs2) hs) (by decide) (by decide) hs hpl) fun σ H Q ⟨γ, B0, B, G, env, st, E, P⟩ => ?_
  refine ⟨γ, B0, B, G, env, st, E, P.bind.imp fun d st1 G1 H1 s1 p1 P1 v rv => ?_⟩
  obtain ⟨c, fs, b, rfl, hb, P2⟩ := isX_post P1
  refine ⟨by rw [List.length_map]; exact hz, fun q hq => ?_⟩
  have sl := Step.lay (o := .tup (cs.map V.ref)) s1.sub s1.tok p1 hq
  obtain ⟨a2, C, vs, rfl, ex, hmc, _, _⟩ := Rep.exAt sl.sub rv
  obtain ⟨h1, h2⟩ := hans c b hb C hmc
  exact ⟨a2, C, vs, q, cs.map V.ref, cs.map Value.ref, b, rfl, ex, h1, upd_same, paired_cl cs, h2, P2 _ _ sl (p1.lay s1.sub s1.tok hq) _ (.bl _)⟩
end
end DL
set_option Elab.async false
set_option linter.all false
set_option maxRecDepth 100000
set_option maxHeartbeats 2000000
/-! Dx12: l.count(x), deep. -/
namespace DL
open PySem PySem.Spec PyProof.Rows L2
/-- l.count(x): how many are equal -/
def rCountD (K : PySem.W.Frag) : V → List V → Hp → VK → Prop := fun x xs H Q => ∃ (a : Addr) (y : V) (d : PyData) (ds : List PyData), x = V.ref a ∧ xs = [y] ∧ Dp K H (V.ref a) (.list ds) ∧ Dp K H y d ∧
  SeqAt.shaped (.list ds) = true ∧ SeqAt.shaped d = true ∧ Q (.int ((ds.countP fun z => PyData.eqv z d) : Nat)) H
theorem mt_countD {X : Cx} (hu : X.A.units + 65 < cLine) : MtR X "list.count" (rCountD X.K) := by
  intro pins s σ H x xs v us Q I rx rxs h
  obtain ⟨a, y, d, ds, rfl, rfl, hl, hy, sl, sd, q⟩ := h
  cases rx
  cases rxs with
  | cons ry rt =>
    rename_i uy ut
    cases rt
    obtain ⟨bs, r1⟩ := Dp.reads I d y uy hy ry
    have lay : PyData.canLayAll0 ds = true := SeqAt.canLay_of_shaped sl
    have room : X.A.units + 1 + min (PyData.depthAll ds) d.depth < cLine := room_in_shaped sd hu
    cases hl with
    | lst hs ha =>
      obtain ⟨its, rv, ⟨⟨cls, dd, data, sls⟩, n, ho, hc, hdn, hdt⟩, hlen⟩ := I.list hs
      simp only at hc hdt
      subst hc hdt
      obtain ⟨as, h4⟩ := Dp.readsAll I ds _ its ha rv
      have hmap : its.map (SeqAt.readOf s.heap) = ds := SeqAt.readsAll_map ds its as lay h4
      refine call_meets PySem.F.slot_list_count ⟨_, ho, rfl⟩ PySem.F.entry_list_count (PySem.F.args_list_count_2 _ _)
        (SeqAt.list_countAt a its.toArray n dd sls uy (fun u => PyData.eqv (SeqAt.readOf s.heap u) d)) ⟨ho, SeqAt.items_eqAt (vs := its.toArray) (show ReadsAll s.heap its.toArray.toList ds as from h4) r1 lay (SeqAt.canLay_of_shaped sd) room, ?_⟩
      refine ⟨.int ((ds.countP fun z => PyData.eqv z d) : Nat), H, I.tok _, ⟨s.toks, ?_⟩, q⟩
      rw [← hmap, List.countP_map]
      rfl
end DL
set_option Elab.async false
set_option linter.all false
set_option maxRecDepth 100000
set_option maxHeartbeats 2000000
/-! Dx13: {}, l.index(x), l.count(x), x = a + b as the frame's own list, by data. -/
namespace DL
open PySem PySem.Spec PyProof.Rows L2 LamX
section
variable {X : Cx} {m : Md} {W : WX}
/-- {} -/
theorem de_dnew {pos : Pos} : PE X (.Dict [] [] pos) (tD m W (eC (.dct []))) := by
  refine PE.imp pe_dnewK fun σ H Q ⟨γ, B0, B, G, env, st, E, P⟩ => ?_
  intro p hp
  have sa := Step.alloc (o := .dK []) E.sub E.tok E.pen hp
  have P : Post m γ G H (some (.ok (D.dct []), st)) _ _ := P
  exact P _ _ sa (E.pen.alloc E.sub E.tok hp) _ (.dct (kvs := []) upd_same .nil .nil)
theorem pys_map : ∀ xs : List D, D.pys xs = xs.map D.py
  | [] => rfl
  | x :: xs => by rw [D.pys, pys_map xs]; rfl
/-- the first place of one for which p stands -/
def findIx (p : D → Bool) : List D → Option Nat
  | [] => none
  | x :: xs => if p x = true then some 0 else (findIx p xs).map (· + 1)
theorem findIx_spec {p : D → Bool} : ∀ {xs : List D} {j : Nat}, findIx p xs = some j → (∃ z, xs[j]? = some z ∧ p z = true) ∧ ∀ (n : Nat) (z : D), n < j → xs[n]? = some z → p z = false
  | [], j, h => by cases h
  | x :: xs, j, h => by
    unfold findIx at h
    by_cases hx : p x = true
    · rw [if_pos hx] at h
      cases h
      exact ⟨⟨x, rfl, hx⟩, fun n z hm => absurd hm (Nat.not_lt_zero n)⟩
    · rw [if_neg hx] at h
      cases e : findIx p xs with
      | none => rw [e] at h; cases h
      | some k =>
        rw [e] at h
        obtain rfl : k + 1 = j := by simpa using h
        obtain ⟨⟨z, h1, h2⟩, h3⟩ := findIx_spec e
        refine ⟨⟨z, by simpa using h1, h2⟩, fun n z hm hz => ?_⟩
        cases n with
        | zero => simp at hz; subst hz; simpa using hx
        | succ n => exact h3 n z (by omega) (by simpa using hz)
def asL : D → M (List D)
  | .lst l => pureM l
  | _ => failM
@[simp] theorem asL_lst (l : List D) : asL (.lst l) = pureM l := rfl
theorem asL_bind {α : Type} {γ : Gh} {G H : Hp} {d : D} {st : Pen} {h : List D → M α} {k : α → Pen → Hp → Hp → Prop} {W : XK} (P : Post m γ G H (bindM (asL d) h st) k W) : ∃ l, d = .lst l ∧ Post m γ G H (h l st) k W := by
  cases d with
  | lst l => exact ⟨l, rfl, P⟩
  | _ => exact False.elim P
def indexM (xs : List D) : List D → M D
  | [e] => if ((D.lst xs).fit && e.fit) = true then (match findIx (fun z => eqD z e) xs with
    | some j => pureM (.int ((j : Nat) : Int))
    | none => failM) else failM
  | _ => failM
def countM (xs : List D) : List D → M D
  | [e] => if ((D.lst xs).fit && e.fit) = true then pureM (.int ((xs.countP fun z => eqD z e : Nat) : Int)) else failM
  | _ => failM
/-- l.m(x) -/
def eMt (F : List D → List D → M D) (f : EM) (g : LM) : EM := fun env => bindM (f env) fun x => bindM (asL x) fun l => bindM (g env) fun ys => F l ys
theorem index_post {γ : Gh} {G H : Hp} {xs as : List D} {st : Pen} {k : D → Pen → Hp → Hp → Prop} {W : XK} (P : Post m γ G H (indexM xs as st) k W) : ∃ e j, as = [e] ∧ ((D.lst xs).fit && e.fit) = true ∧ findIx (fun z => eqD z e) xs = some j ∧ Post m γ G H (some (.ok (.int ((j : Nat) : Int)), st)) k W := by
  match as, P with
  | [], P => exact False.elim P
  | [e], P =>
    obtain ⟨h, P⟩ := post_if (f := match findIx (fun z => eqD z e) xs with
      | some j => pureM (D.int ((j : Nat) : Int))
      | none => failM) P
    cases q : findIx (fun z => eqD z e) xs with
    | none => rw [q] at P; exact False.elim P
    | some j => rw [q] at P; exact ⟨e, j, rfl, h, q, P⟩
  | _ :: _ :: _, P => exact False.elim P
theorem count_post {γ : Gh} {G H : Hp} {xs as : List D} {st : Pen} {k : D → Pen → Hp → Hp → Prop} {W : XK} (P : Post m γ G H (countM xs as st) k W) : ∃ e, as = [e] ∧ ((D.lst xs).fit && e.fit) = true ∧ Post m γ G H (some (.ok (.int ((xs.countP fun z => eqD z e : Nat) : Int)), st)) k W := by
  match as, P with
  | [], P => exact False.elim P
  | [e], P =>
    obtain ⟨h, P⟩ := post_if (f := pureM (D.int ((xs.countP fun z => eqD z e : Nat) : Int))) P
    exact ⟨e, rfl, h, P⟩
  | _ :: _ :: _, P => exact False.elim P
theorem de_index {o e : Expr} {f : EM} {g : LM} {apos cpos : Pos} (hu : X.A.units + 65 < cLine) (ho : PE X o (tD m W f)) (ha : PA X [e] (tL m W g)) (hK : X.K = m.K := by rfl)
    (hbase : attributeBase o "index" X.env (eval o X.env) = eval o X.env := by rfl)
    (hfew : ((backTo cpos (starEach (e :: []) X.env)).all (fun x => !x.1) && (backToKw cpos (keywordEach [] X.env)).all (fun x => x.1.isSome)
      && decide ((e :: []).length + ([] : List Keyword).length + (if ([] : List Keyword).isEmpty then 0 else 1) < 30)) = true := by rfl)
    (hline : (apos.endLine == cpos.line) = true := by rfl) (hs : starEach (e :: []) X.env = (false, eval e X.env) :: starEach [] X.env := by rfl) (hplain : (backTo cpos (starEach [] X.env)).any (·.1) = false := by rfl) :
    PE X (.Call (.Attribute o "index" apos) [e] [] cpos) (tD m W (eMt indexM f g)) := by
  refine PE.imp (pe_bm PySem.F.plainAttrs_list PySem.F.slot_list_index PySem.F.type_list_index (mt_indexD hu) ho ha hbase hfew hline hs hplain) fun σ H Q ⟨γ, B0, B, G, env, st, E, P⟩ => ?_
  refine ⟨γ, B0, B, G, env, st, E, P.bind.imp fun d st1 G1 H1 s1 p1 P1 v rv => ?_⟩
  obtain ⟨l, rfl, P2⟩ := asL_bind P1
  obtain ⟨a, vs, rfl, ha1, ra⟩ := rv.lst_inv
  refine ⟨.inl ⟨rfl, _, .inl (.inl (s1.sub _ _ ha1))⟩, γ, B0, B, G1, env, st1, E.step s1 p1, P2.bind.imp fun ys st2 G2 H2 s2 p2 P3 ws rws => ?_⟩
  obtain ⟨y, j, rfl, hf, hj, P4⟩ := index_post P3
  obtain ⟨⟨a1, a2⟩, b1, b2⟩ := fit_and hf
  obtain ⟨⟨z, hz, hze⟩, hno⟩ := findIx_spec hj
  cases rws with
  | cons ry rt =>
    cases rt
    rw [hK]
    refine ⟨a, _, y.py, D.pys l, j, z.py, rfl, rfl, (rv.same s2.gg).dp s2.sub a1, ry.dp s2.sub b1, a2, b2, ?_, hze, fun n z' hn hz' => ?_, P4.now s2.sub s2.tok p2 _ (.int _)⟩
    · rw [pys_map, List.getElem?_map, hz]; rfl
    · rw [pys_map, List.getElem?_map] at hz'
      cases q : l[n]? with
      | none => rw [q] at hz'; cases hz'
      | some z0 =>
        rw [q] at hz'
        cases hz'
        exact hno n z0 hn q
theorem de_count {o e : Expr} {f : EM} {g : LM} {apos cpos : Pos} (hu : X.A.units + 65 < cLine) (ho : PE X o (tD m W f)) (ha : PA X [e] (tL m W g)) (hK : X.K = m.K := by rfl)
    (hbase : attributeBase o "count" X.env (eval o X.env) = eval o X.env := by rfl)
    (hfew : ((backTo cpos (starEach (e :: []) X.env)).all (fun x => !x.1) && (backToKw cpos (keywordEach [] X.env)).all (fun x => x.1.isSome)
      && decide ((e :: []).length + ([] : List Keyword).length + (if ([] : List Keyword).isEmpty then 0 else 1) < 30)) = true := by rfl)
    (hline : (apos.endLine == cpos.line) = true := by rfl) (hs : starEach (e :: []) X.env = (false, eval e X.env) :: starEach [] X.env := by rfl) (hplain : (backTo cpos (starEach [] X.env)).any (·.1) = false := by rfl) :
    PE X (.Call (.Attribute o "count" apos) [e] [] cpos) (tD m W (eMt countM f g)) := by
  refine PE.imp (pe_bm PySem.F.plainAttrs_list PySem.F.slot_list_count PySem.F.type_list_count (mt_countD hu) ho ha hbase hfew hline hs hplain) fun σ H Q ⟨γ, B0, B, G, env, st, E, P⟩ => ?_
  refine ⟨γ, B0, B, G, env, st, E, P.bind.imp fun d st1 G1 H1 s1 p1 P1 v rv => ?_⟩
  obtain ⟨l, rfl, P2⟩ := asL_bind P1
  obtain ⟨a, vs, rfl, ha1, ra⟩ := rv.lst_inv
  refine ⟨.inl ⟨rfl, _, .inl (.inl (s1.sub _ _ ha1))⟩, γ, B0, B, G1, env, st1, E.step s1 p1, P2.bind.imp fun ys st2 G2 H2 s2 p2 P3 ws rws => ?_⟩
  obtain ⟨y, rfl, hf, P4⟩ := count_post P3
  obtain ⟨⟨a1, a2⟩, b1, b2⟩ := fit_and hf
  cases rws with
  | cons ry rt =>
    cases rt
    rw [hK]
    refine ⟨a, _, y.py, D.pys l, rfl, rfl, (rv.same s2.gg).dp s2.sub a1, ry.dp s2.sub b1, a2, b2, ?_⟩
    have e1 : (D.pys l).countP (fun z => PyData.eqv z y.py) = l.countP fun z => eqD z y := by
      rw [pys_map, List.countP_map]; rfl
    rw [e1]
    exact P4.now s2.sub s2.tok p2 _ (.int _)
/-- x = a + b, lists: the frame's own -/
def sCatL (i : Nat) (f g : EM) : SM := liftM (fun env => bindM (f env) fun x => bindM (g env) fun y => pureM (x, y)) fun p env st => match p with
  | (.lst a, .lst b) => if a.length + b.length ≤ sizeLine then some (.ok .nx, env.set i (.own (a ++ b)), st) else none
  | _ => none
theorem ds_catL {i : Nat} {x : Str} {a b : Expr} {f g : EM} {pb pos pos' : Pos} (hN : X.N.Nodup) (ha : PE X a (tD m W f)) (hb : PE X b (tD m W g)) (hi : X.N[i]? = some x := by rfl) (hx : Loc X.env.scope x := by first | exact Or.inl rfl | exact Or.inr rfl) (hs : swapsWith (.BinOp a .Add b pb) (some (.Name x pos')) pos.line X.env = pure false := by rfl)
    (hf : X.fn x = true ∨ X.env.scope.names.lookup x = some .local := by first | exact .inl rfl | exact .inr rfl | assumption) : PS X (.Assign [.Name x pos'] (.BinOp a .Add b pb) pos) (tS m W (sCatL i f g)) := by
  refine PS.imp (ps_set hN hi hx (pe_op op_cat ha hb) hs hf) fun D σ H ⟨γ, B0, B, G, env, st, E, P⟩ => ?_
  refine ⟨γ, B0, B, G, env, st, E, (P.lift E).bind.imp fun d st1 G1 H1 s1 p1 P1 v rv => ?_⟩
  refine ⟨γ, B0, B, G1, env, st1, E.step s1 p1, P1.bind.imp fun e st2 G2 H2 s2 p2 P2 w rw => ?_⟩
  have P3 := P2.now s2.sub s2.tok p2
  split at P3
  · rename_i l1 l2 q
    cases q
    by_cases hl : l1.length + l2.length ≤ sizeLine
    · rw [if_pos hl] at P3
      obtain ⟨a1, vs, rfl, h1, r1⟩ := (rv.same s2.gg).lst_inv
      obtain ⟨b1, ws, rfl, h2, r2⟩ := rw.lst_inv
      refine ⟨a1, b1, vs, ws, rfl, rfl, s2.sub _ _ h1, s2.sub _ _ h2, by rw [r1.length, r2.length]; exact hl, fun p hp => ?_⟩
      exact P3 _ G2 _ (((E.step s1 p1).step s2 p2).new hp (r1.append r2))
    · rw [if_neg hl] at P3; exact False.elim P3
  · exact False.elim P3
end
end DL
set_option Elab.async false
set_option linter.all false
set_option maxRecDepth 100000
set_option maxHeartbeats 2000000
/-! Dx14: the law's end where the law makes lambdas: its table of code objects, empty at first. -/
namespace DL
open PySem PySem.Spec PyProof.Rows L2 LamX
section
variable {P : Program} {w : World} {K : PySem.W.Frag} {mg : Str → Option Value} {f : Addr} {fd : FuncData} {sp : Sp}
/-- as law_run, the code object told -/
theorem law_runT {base : Heap} {x qual : Str} {st : Stmt} {N ps : List Str} {k : Nat} {lc : Value} (F : FunD K x qual (defArgs st) (defBody st) (defScope st) [] [] f fd) (hc : fd.code = lc) (S : FnScope N ps (defScope st)) (len : ∀ vs H Q E, sp vs H Q E → vs.length = ps.length) (room : Room (k + 1) callerA)
    (hb : ∀ (outer : List Env) (s : Shared) (H : Hp) (vs : List V) (Q : VK) (E : XK), Room k (callerA.deeper (envOfC qual (defScope st) s.heap.objs.size f lc)) → sp vs H Q E →
      ∃ t, PSs (cxOf (L2.CX P w) P w K mg base N qual (defScope st) f lc callerA outer s H E) (defBody st) t ∧ t { nx := fun _ H' => Q .non H', rt := Q } (L2.start N vs) H) : LawRun P w K mg base f fd ps sp := by
  obtain ⟨oc, od, dV, kV, doc, pm, an, cdv, ct, osl, rfl, lk, hcd, _, _⟩ := F.ex
  obtain rfl : cdv = lc := hc
  intro outer s H us vs Q E e0 bd r hsp
  have n1 := len _ _ _ _ hsp
  have inK : K.In s.heap := e0.mod.kin.keeps fun q z hz => (e0.bs q z hz).1
  have noLim : s.heap.NoLimit := e0.mod.nolimit.keeps fun q z hz => (e0.bs q z hz).1
  have kinds : ∀ y ∈ ps.zip us, (defScope st).names.lookup y.1 = some .local ∨ ((defScope st).names.lookup y.1 = some .cell ∧ ((cellsFrom (s.heap.objs.size + 1) (defScope st).names []).lookup y.1).isSome = true) := by
    rintro ⟨nm, vv⟩ hy
    have := S.par nm (List.of_mem_zip hy).1
    exact this.imp id fun z => ⟨z, PySem.W.cellsFrom_some _ _ _ (.inl z)⟩
  refine codeAny_call_function room.depth (inK _ _ lk) rfl S.co S.gen rfl (PySem.W.codeRec_of inK hcd) (bd _ _ _ _ ?_)
  refine wpAny_newFunctionEnv_cells S.kind kinds fun ev hev s1 hx => ?_
  subst hev
  refine ⟨noLim.keeps hx.toInCall.keep, codeAny_func ?_⟩
  obtain ⟨t, ht, hq⟩ := hb outer s H vs Q E (room.deeper _) hsp
  have I0 := inv_start (CX := L2.CX P w) (qual := qual) (f := f) (cd := cdv) (E := E) S room.hd e0 n1 r hx
  refine wpAny_mono (ht.run [] s1 _ H _ I0 hq) (fun fl s' done => ?_) fun _ _ z => z
  cases fl with
  | ret uu => obtain ⟨vv, σ', H', J, rv, q⟩ := done; exact ⟨vv, H', J.os, J.bare, J.base, J.hok, rv, q⟩
  | next => obtain ⟨σ', H', J, q⟩ := done; exact ⟨.non, H', J.os, J.bare, J.base, J.hok, rfl, q⟩
  | brk => obtain ⟨_, _, _, q⟩ := done; exact False.elim q
  | cont => obtain ⟨_, _, _, q⟩ := done; exact False.elim q
theorem law_endT {mb : Str → Option Value} {a lc tb : Addr} {s₁ : Shared} {vs : List Value} {ns : List Int} {arg : Str} (inK : K.In s₁.heap) (gN : s₁.heap.Ns mainGlobals mg) (bN : s₁.heap.Ns builtinsNs mb) (bB : ∀ y : Str, y ≠ "__name__" → mb y = bootBuiltins y) (noLim : s₁.heap.NoLimit) (noG : s₁.gens = #[])
    (tab0 : s₁.heap.get? tb = some { cls := .none, data := .fields #[] }) (notK : K.lookup tb = none) (hdr : PySem.W.CodeHd s₁.heap lc tb)
    (bmod : ∃ (bm : Addr) (ob : Obj), mg "__builtins__" = some (.ref bm) ∧ bm ≠ builtinsNs ∧ s₁.heap.get? bm = some ob ∧ ob.cls = .type "module" ∧ ob.dict = some builtinsNs ∧ ob.data = .plain)
    (at_ : s₁.heap.get? a = some { cls := .type "list", data := .seq vs.toArray }) (hints : IntsAre vs ns) (fits : ns.length ≤ sizeLine)
    (F : ∀ base : Heap, K.In base → base.Ns mainGlobals mg → TabB base mg lc tb → LawRun P w K mg base f fd [arg] sp) (bind1 : ∀ (s : Shared) (u : Value), BindsTo s fd ⟨[u], []⟩ [(arg, u)])
    (want : ∀ H : Hp, H tb = some (.tbl #[]) → SqL K H a (ns.map V.int) → sp [.ref a] H (fun v _ => v = .bl true) fun _ _ _ => False) :
    codeAny (model P w) callerA (.call (.ref f) ⟨[.ref a], []⟩) (fun r s' => r = .ok (.ret (.bool true)) ∧ OldK s₁.heap s'.heap ∧ s'.os = s₁.os ∧ AllBare s'.gens) s₁ := by
  have rvs := vals_ints hints
  have hne : a ≠ tb := fun z => by
    rw [z, tab0] at at_
    have q := congrArg Obj.data (Option.some.inj at_)
    cases q
  have tabIs : s₁.heap.TableAt lc tb #[] := hdr.tab tab0
  have step : ∀ H : Hp, H tb = some (.tbl #[]) → SqL K H a (ns.map V.int) → HOk P w H s₁.heap → (∀ b u, H b = some u → b = tb ∨ (b = a ∧ K.lookup a = none ∧ ∃ o xs, u = .frz o (.lst xs))) →
      codeAny (model P w) callerA (.call (.ref f) ⟨[.ref a], []⟩) (fun r s' => r = .ok (.ret (.bool true)) ∧ OldK s₁.heap s'.heap ∧ s'.os = s₁.os ∧ AllBare s'.gens) s₁ := by
    intro H onT sq hok isA
    have free : ∀ {b : Addr} {o : Obj}, s₁.heap.get? b = some o → (∀ vs n, o.data ≠ .seq vs n) → o.data ≠ .fields #[] → H b = none := fun {b o} e d1 d2 => by
      cases q : H b with
      | none => rfl
      | some u =>
        rcases isA b u q with rfl | ⟨rfl, _⟩
        · rw [tab0] at e
          cases e
          exact absurd rfl d2
        · rw [at_] at e
          cases e
          exact absurd rfl (d1 _ _)
    have hid : ∀ {b : Addr} {mm : Str → Option Value}, s₁.heap.Ns b mm → (hidT s₁.heap H).Ns b mm := by
      rintro b mm ⟨o, es, ep, e, d, r⟩
      exact ⟨o, es, ep, hidT_get e (free e (fun _ _ z => by rw [d] at z; cases z) fun z => by rw [d] at z; cases z), d, r⟩
    have inKb : K.In (hidT s₁.heap H) := fun b o e => hidT_get (inK b o e) (by
      cases q : H b with
      | none => rfl
      | some u =>
        rcases isA b u q with rfl | ⟨rfl, z, _⟩
        · rw [notK] at e; cases e
        · rw [z] at e; cases e)
    obtain ⟨mc, l1, l2⟩ := noLim
    have TB : TabB (hidT s₁.heap H) mg lc tb := by
      refine ⟨?_, ?_, fun z => ?_⟩
      · obtain ⟨o, us, file, tf, flags, tg, inF, text, tt, e1, r1, r2, r3, rest⟩ := hdr
        refine ⟨o, us, file, tf, flags, tg, inF, text, tt, hidT_get e1 (free e1 (fun _ _ z => by rw [r2] at z; cases z) fun z => ?_), r1, r2, r3, rest⟩
        rw [r2] at z
        cases z
        simp at r3
      · obtain ⟨bm, ob, b1, b2, b3, b4, b5, b6⟩ := bmod
        refine ⟨bm, ob, b1, b2, fun q => ?_, fun q => ?_, hidT_get b3 (free b3 (fun _ _ z => by rw [b6] at z; cases z) fun z => by rw [b6] at z; cases z), b4, b5, b6⟩
        · obtain ⟨o, es, ep, e, d, _⟩ := gN
          rw [q, e] at b3
          cases b3
          rw [d] at b6
          cases b6
        · rw [q, tab0] at b3
          cases b3
          cases b6
      · obtain ⟨o, es, ep, e, d, _⟩ := gN
        rw [z, tab0] at e
        cases e
        cases d
    have e0 : Env0 P w K mg (hidT s₁.heap H) callerA [] s₁ H :=
      ⟨rfl, ⟨inKb, hid gN, ⟨mb, hid bN, bB⟩, ⟨mc, hid l1, l2⟩⟩, fun _ _ z => of_hidT z, Nat.le_of_eq (hidT_size _ _), trivial, fun b z => absurd (show b ∈ ([] : List Addr) from z) (by simp), hok, .of_eq noG⟩
    refine codeAny_mono (F _ inKb (hid gN) TB [] s₁ H [.ref a] [.ref a] _ _ e0 (bind1 s₁ (.ref a)) (.cons rfl .nil) (want H onT sq)) fun r s' done => ?_
    cases r with
    | error ee =>
      obtain ⟨_, _, _, _, _, _, _, _, _, _, _, _, z⟩ := done
      exact False.elim z
    | ok fl =>
      cases fl with
      | next => exact False.elim done
      | brk => exact False.elim done
      | cont => exact False.elim done
      | ret uu =>
        obtain ⟨vv, H', os, bare, un, hok', rr, hv⟩ := done
        have hv' : vv = .bl true := hv
        subst hv'
        obtain rfl : uu = Value.bool true := rr
        obtain ⟨more, mt⟩ := un.tbls tb #[] onT
        have grown : s'.heap.get? tb = some { cls := .none, data := .fields (#[] ++ more) } := hok' tb _ mt
        have kept : ∀ b o, b ≠ tb → s₁.heap.get? b = some o → s'.heap.get? b = some o := fun b o nb e => by
          cases q : H b with
          | none => exact un.keep b o e q (by intro z; exact absurd (show b ∈ ([] : List Addr) from z) (by simp)) (by simp)
          | some uu =>
            rcases isA b uu q with z | ⟨_, _, ob, xs, rfl⟩
            · exact absurd z nb
            · obtain ⟨e1, _⟩ := hok b _ q
              obtain ⟨e2, _⟩ := hok' b _ (un.frzs b ob _ q)
              rw [e] at e1
              cases e1
              exact e2
        refine ⟨rfl, ⟨fun b o e => ?_, fun b o e => ?_⟩, os, bare⟩
        · by_cases nb : b = tb
          · subst nb
            rw [tab0] at e
            cases e
            exact .inr (.inl ⟨tabIs.isCodeTable, rfl, #[], more, rfl, by rw [Array.empty_append]; rw [Array.empty_append] at grown; exact grown⟩)
          · exact .inl (kept b o nb e)
        · by_cases nb : b = tb
          · subst nb
            exact ⟨_, grown⟩
          · exact ⟨o, kept b o nb e⟩
  have ln : ns.length = vs.length := by
    have := rvs.length
    simpa using this
  cases hk : K.lookup a with
  | some o =>
    have e := inK a o hk
    rw [at_] at e
    cases e
    refine step (fun b => if b = tb then some (.tbl #[]) else none) (if_pos rfl) (.inr ⟨_, vs.toArray, _, hk, rfl, rfl, rfl, by rw [List.size_toArray, ← ln]; exact fits, by simpa using rvs⟩) (fun b u z => ?_) fun b u z => ?_
    · have z : (if b = tb then some (HO.tbl #[]) else none) = some u := z
      by_cases nb : b = tb
      · rw [if_pos nb] at z
        cases z
        rw [nb]
        exact tab0
      · rw [if_neg nb] at z; cases z
    · have z : (if b = tb then some (HO.tbl #[]) else none) = some u := z
      by_cases nb : b = tb
      · exact .inl nb
      · rw [if_neg nb] at z; cases z
  | none =>
    have on : ∀ b u, (if b = a then some (HO.frz { cls := .type "list", data := .seq vs.toArray } (.lst (ns.map V.int))) else if b = tb then some (.tbl #[]) else none) = some u → (b = a ∧ u = .frz { cls := .type "list", data := .seq vs.toArray } (.lst (ns.map V.int))) ∨ (b = tb ∧ u = .tbl #[]) := fun b u z => by
      by_cases hb : b = a
      · rw [if_pos hb] at z; cases z; exact .inl ⟨hb, rfl⟩
      · rw [if_neg hb] at z
        by_cases nb : b = tb
        · rw [if_pos nb] at z; cases z; exact .inr ⟨nb, rfl⟩
        · rw [if_neg nb] at z; cases z
    refine step (fun b => if b = a then some (.frz { cls := .type "list", data := .seq vs.toArray } (.lst (ns.map V.int))) else if b = tb then some (.tbl #[]) else none) ((if_neg (fun z => hne z.symm)).trans (if_pos rfl)) (.inl (.inr ⟨{ cls := .type "list", data := .seq vs.toArray }, if_pos rfl⟩)) (fun b u z => ?_) fun b u z => ?_
    · rcases on b u z with ⟨rfl, rfl⟩ | ⟨rfl, rfl⟩
      · exact ⟨at_, by rw [List.length_map]; exact fits, vs, _, rvs, at_⟩
      · exact tab0
    · rcases on b u z with ⟨rfl, rfl⟩ | ⟨rfl, rfl⟩
      · exact .inr ⟨rfl, hk, _, _, rfl⟩
      · exact .inl rfl
end
/-- what is known at the head's heap of a law that makes lambdas: lc its code object, tb its table -/
def LawAtT (l : PySem.W.OpenLaw) (w : World) (K : PySem.W.Frag) (sp : Sp) (x : Str) (mg : Str → Option Value) (fa lc tb : Addr) : Prop :=
  K.lookup tb = none ∧ (∃ o fd2, K.lookup fa = some o ∧ o.data = .func fd2 ∧ fd2.code = .ref lc) ∧ (∃ e dd ls sl, K.lookup lc = some ⟨e, dd, .fields ls, sl⟩ ∧ ls[11]? = some (.ref tb)) ∧
  ∃ fd : FuncData, (∀ (s : Shared) (u : Value), BindsTo s fd ⟨[u], []⟩ [(x, u)]) ∧ ∀ base : Heap, K.In base → base.Ns mainGlobals mg → TabB base mg lc tb → LawRun l.prog w K mg base fa fd [x] sp
theorem walk_lawT {l : PySem.W.OpenLaw} {n : Nat} {q : Program} {loose : List Str} {XP : (Str → Option Value) → Heap → Prop} {YP : World → Heap → Prop} {d : DefRec} {K : Params → PySem.W.Frag} {sp : World → Addr → Sp} {x : Str}
    (hn : l.most = some n) (hn2 : n ≤ sizeLine) (hdf : d.params.defaults = []) (hrec : ((recsOf q).any fun e => e.name == d.name) = true) (hY : ∀ (w : World) (h : Heap), YP w h → (K w.params).In h)
    (F : ∀ (w : World) (mg : Str → Option Value) (fa : Addr) (h : Heap), (K w.params).In h → h.Ns mainGlobals mg → mg d.name = some (.ref fa) → ∃ lc tb, LawAtT l w (K w.params) (sp w tb) x mg fa lc tb)
    (hsp : ∀ (w : World) (tb : Addr) (H : Hp) (a : Addr) (ns : List Int), ns.length ≤ n → H tb = some (.tbl #[]) → SqL (K w.params) H a (ns.map V.int) → sp w tb [.ref a] H (fun v _ => v = .bl true) fun _ _ _ => False) :
    PySem.W.WalkO q loose XP YP l.row.toRowW d [] (fun f vs => PySem.call f vs) := by
  refine Att.attach_callB hn hdf fun w s₀ s₁ mg mb fa o pm cd doc a vs ns Gd Y _ _ _ hmg ho hi hl _ hg => ?_
  have inK := hY w _ Y
  obtain ⟨lc, tb, notK, ⟨o1, fd1, k1, k2, k3⟩, ⟨e, dd, ls, sl, k4, k5⟩, fd, b1, hF⟩ := F w mg fa _ inK Gd.T.g hmg
  obtain ⟨dL, hm, hn1⟩ := List.any_eq_true.mp hrec
  have hn3 : dL.name = d.name := beq_iff_eq.mp hn1
  obtain ⟨a2, o2, fd2, c2, T2, h1, h2, h3, h4, h5, h6⟩ := Gd.T.tab dL hm
  rw [hn3, hmg] at h1
  cases h1
  rw [inK _ _ k1] at h2
  cases h2
  rw [k2] at h3
  cases h3
  rw [k3] at h4
  cases h4
  have hd := PySem.W.CodeHd.of h5 h6
  obtain ⟨⟨oc, vc, e1, _, e3, e4⟩, tab0⟩ := h6
  rw [inK _ _ k4] at e1
  cases e1
  cases e3
  rw [k5] at e4
  cases e4
  exact law_endT inK Gd.T.g Gd.T.b Gd.T.builtins Gd.T.nolimit hg tab0 notK hd Gd.T.bmain ho hi (Nat.le_trans hl hn2) hF b1 fun H z q => hsp w tb H a ns hl z q
end DL
set_option Elab.async false
set_option linter.all false
set_option maxRecDepth 100000
set_option maxHeartbeats 2000000
/-! Dx15: the class facts bundled; what the def that hears asks; x(lambda ..) heard, by data. -/
namespace DL
open PySem PySem.Spec PyProof.Rows L2 LamX
/-! ### own exception classes of one field -/
/-- what is known of such a class c at C -/
structure ExcD1 (K : PySem.W.Frag) (mg : Str → Option Value) (file c fld : Str) (C : Addr) : Prop where
  g : mg c = some (.ref C)
  S : SupC K C C
  no : PySem.W.findIn K (.ref C) fld = some none
  run : ∃ fI fd, PySem.W.findIn K (.ref C) "__init__" = some (some (.ref fI)) ∧ PySem.W.typeIn K (.ref fI) = some (.type "function") ∧ Binds K fd ["self", fld] [] ∧
    ∀ (P : Program) (w : World) (base : Heap), (P.main.file == file) = true → (P.main.scope.names.lookup ("super" : Str)).isSome = false →
      FnOk P w K mg base C8.CX0 1 fI fd ["self", fld] (spS K ["self", fld] ["self", fld] C taI1 (tI1 K fld))
  xf : XfC K C
  ec : ExcC K C
section
variable {X : Cx} {m : Md} {W : WX} {file c fld : Str} {C : Addr} {e : Expr} {f : EM} {p pos pos' : Pos}
theorem ds_raiseD (hc : X.calm = true) (tk : Takes X W) (E1 : ExcD1 X.K X.mg file c fld C) (hf : (X.prog.main.file == file) = true) (ht : (X.prog.main.scope.names.lookup ("super" : Str)).isSome = false) (hr : Room 2 X.A) (ha : PE X e (tD m W f)) (hmg : X.mg = m.mg := by rfl) (hg : Gl X c := by rfl)
    (hdb : (c == ("__debug__" : Str)) = false := by decide) (he : starEach (e :: []) X.env = (false, eval e X.env) :: starEach [] X.env := by rfl) (hpl : (backTo pos (starEach [] X.env)).any (·.1) = false := by rfl) :
    PS X (.Raise (some (.Call (.Name c p) [e] [] pos)) none pos') (tS m W (sRaise1 c fld f)) := by
  obtain ⟨fI, fd, iC, tI, hb, F1⟩ := E1.run
  exact ds_raise1 hc tk E1.S E1.no iC tI (F1 _ _ _ hf ht) hr hb E1.g C8.pass0 ha hmg hg hdb he hpl
end
/-! ### what is told of an error -/
/-- by class, field: (word, the field) -/
def hdOf : List (Str × Str × Str) → Exc → Option D
  | [], _ => none
  | (c, fld, w) :: r, y => if y.cls = c then (match y.args with
    | [(g, d)] => if g = fld then some (.tup [.str w, d]) else none
    | _ => none) else hdOf r y
theorem hdOf_some : ∀ {tab : List (Str × Str × Str)} {y : Exc} {r : D}, hdOf tab y = some r → ∃ c fld w d, (c, fld, w) ∈ tab ∧ y = ⟨c, [(fld, d)]⟩ ∧ r = .tup [.str w, d]
  | [], y, r, h => by cases h
  | (c, fld, w) :: tab, ⟨yc, ya⟩, r, h => by
    unfold hdOf at h
    by_cases hc : yc = c
    · rw [if_pos hc] at h
      dsimp only at h
      split at h
      · rename_i g d
        by_cases hg : g = fld
        · rw [if_pos hg] at h
          cases h
          subst hc hg
          exact ⟨_, _, _, d, List.mem_cons_self, rfl, rfl⟩
        · rw [if_neg hg] at h; cases h
      · cases h
    · rw [if_neg hc] at h
      obtain ⟨c', fld', w', d, h1, h2, h3⟩ := hdOf_some h
      exact ⟨c', fld', w', d, List.mem_cons_of_mem _ h1, h2, h3⟩
/-- isinstance(caught, ks) of one of errs -/
def ansOf (errs ks : List Str) : Str → Option Bool := fun c => if errs.contains c = true then some (ks.contains c) else none
theorem ans_by {mg : Str → Option Value} {errs ks : List Str} {Q : Addr → Bool → Prop} (h : ∀ c ∈ errs, ∃ C b, mg c = some (.ref C) ∧ ks.contains c = b ∧ Q C b) : ∀ c b, ansOf errs ks c = some b → ∀ C, mg c = some (.ref C) → Q C b := by
  intro c b hb C hC
  unfold ansOf at hb
  by_cases hc : errs.contains c = true
  · rw [if_pos hc] at hb
    cases hb
    obtain ⟨C', b', h1, h2, h3⟩ := h c (by simpa using hc)
    rw [hC] at h1
    cases h1
    rw [h2]
    exact h3
  · rw [if_neg hc] at hb; cases hb
/-! ### a lambda heard -/
def lamDB (N : List Str) (sc scope : Scope) (bn : List Str) : Bool :=
  decide (scope.kind = .function) && (!scope.isCoroutine && (!scope.isGenerator && ((scope.names.all fun y => !decide (y.2 = .cell) && ((!decide (y.2 = .local) || decide (y.1 ∉ N)) && (!decide (y.2 = .free) || (decide (sc.names.lookup y.1 = some .cell) || decide (sc.names.lookup y.1 = some .free))))) &&
    bn.all fun x => decide (scope.names.lookup x = some .local))))
theorem lamD_by {N : List Str} {sc scope : Scope} {bn : List Str} (h : lamDB N sc scope bn = true) (ds : List Value) : LamD N sc scope (bn.zip ds) := by
  unfold lamDB at h
  simp only [Bool.and_eq_true, Bool.or_eq_true, Bool.not_eq_true', decide_eq_true_eq, decide_eq_false_iff_not, List.all_eq_true] at h
  obtain ⟨h1, h2, h3, h4, h5⟩ := h
  refine ⟨h1, h2, h3, fun y hy => (h4 y hy).1, fun y hy e => ?_, fun y hy e => ?_, fun y hy => h5 y.1 (List.of_mem_zip (show (y.1, y.2) ∈ bn.zip ds from hy)).1⟩
  · exact ((h4 y hy).2.1).resolve_left fun z => z e
  · exact ((h4 y hy).2.2).resolve_left fun z => z e
/-- what a frame is to know of the def that hears (sth its statement) -/
structure HeardAt (K : PySem.W.Frag) (mg : Str → Option Value) (gh : Gh → Prop) (hd : Exc → Option D) (x : Str) (sth : Stmt) (g : Addr) (fd : FuncData) : Prop where
  F : FunD K x x (defArgs sth) (defBody sth) (defScope sth) [] [] g fd
  S : FnScope heardN ["ask"] (defScope sth)
  at_ : mg x = some (.ref g)
  b : Binds K fd ["ask"] []
  gives : ∀ (X : Cx) (cdv : Value) (q : Str), X.K = K → X.mg = mg → Room 1 X.A → GivesD X heardN x (defScope sth) g cdv (defBody sth) "ask" q (TTh ⟨K, mg, gh⟩ hd)
section
variable {X : Cx} {gh : Gh → Prop} {W : WX} {hd : Exc → Option D} {x : Str} {sth : Stmt} {g : Addr} {fd : FuncData} {k : Nat} {T : List (Addr × Str)} {c P : Addr} {params : Arguments} {body : Expr} {scope : Scope} {p lpos pos : Pos} {vds : List V} {bn : List Str} {f : EM}
theorem de_heard (Hd : HeardAt X.K X.mg gh hd x sth g fd) (TB : TabB X.base X.mg c P) (hcode : X.env.code = .ref c) (hT : T = [(P, X.env.qual ++ "<lambda>")]) (hgh : ∀ γ, gh γ → ghT T γ) (hr : Room (k + 2) X.A) (hL : ∀ ds : List Value, LamD X.N X.env.scope scope (bn.zip ds)) (hdf : Dfs X params vds)
    (hB : ∀ (q : Str) (cl : List (Str × Addr)) (dV pm cv ctv : Value) (ds : List Value) (s2 : Shared), Vals vds ds → DfAt ds dV s2.heap → BindsTo s2 (lamFn q params body scope cl dV pm cv ctv) ⟨[], []⟩ (bn.zip ds))
    (hbody : ∀ (A : Around) (outer : List Env) (s : Shared) (H : Hp) (E : XK) (f1 c' : Addr), Room k (A.deeper (lamEnv X scope s.heap.objs.size f1 c')) → PE (lamCx X A outer s H E scope f1 c') body (tD ⟨X.K, X.mg, gh⟩ (fun c d _ H => E c d H) f))
    (hg : Gl X x := by rfl) (hdb : (x == ("__debug__" : Str)) = false := by decide) :
    PE X (.Call (.Name x p) [.Lambda params body scope lpos] [] pos) (tD ⟨X.K, X.mg, gh⟩ W (eHeard hd f)) := by
  obtain ⟨oc, od, dV, kV, doc, pm, an, cdv, ct, osl, rfl, lk, hcd, _, _⟩ := Hd.F.ex
  have hva : Vis (defScope sth) "ask" := (Hd.S.par "ask" (by simp)).imp id fun z => .inl z
  refine PE.imp (pe_lamD (T := T) (TT := TTh ⟨X.K, X.mg, gh⟩ hd) (t := fun E => tD ⟨X.K, X.mg, gh⟩ (fun c d _ H => E c d H) f) hg Hd.at_ Hd.F.kp lk hcd Hd.b Hd.S rfl hva (Hd.gives X cdv _ rfl rfl (hr.mono (by omega))) TB hcode (by rw [hT]; exact List.mem_cons_self) (fun p hp _ => ?_) hr (fun ds _ => hL ds) hdf hB hbody hdb) fun σ H Q h => heard_read (m := ⟨X.K, X.mg, gh⟩) hgh ⟨_, by rw [hT]; exact List.mem_cons_self, rfl⟩ h
  rw [hT, List.mem_singleton] at hp
  rw [hp]
theorem hB0 (h : ∀ (q : Str) (cl : List (Str × Addr)) (pm cv ctv : Value), bindArgs (lamFn q params body scope cl .none pm cv ctv) ⟨[], []⟩ = pure []) (h2 : ∀ (q : Str) (cl : List (Str × Addr)) (T : Addr) (pm cv ctv : Value), ∃ k, bindArgs (lamFn q params body scope cl (.ref T) pm cv ctv) ⟨[], []⟩ = seqItems? (.ref T) >>= k ∧ k (some #[]) = pure []) (q : Str) (cl : List (Str × Addr)) (dV pm cv ctv : Value) (ds : List Value) (s2 : Shared) (r : Vals [] ds) (a : DfAt ds dV s2.heap) : BindsTo s2 (lamFn q params body scope cl dV pm cv ctv) ⟨[], []⟩ (([] : List Str).zip ds) := by
  cases r
  rcases a with ⟨_, rfl⟩ | ⟨T, rfl, hT⟩
  · exact .of_eq (h q cl pm cv ctv)
  · obtain ⟨k, e1, e2⟩ := h2 q cl T pm cv ctv
    exact .of_defaults rfl hT rfl e1 e2
theorem hB1 {i : Int} {y : Str} (h : ∀ (q : Str) (cl : List (Str × Addr)) (T : Addr) (pm cv ctv u : Value), ∃ k, bindArgs (lamFn q params body scope cl (.ref T) pm cv ctv) ⟨[], []⟩ = seqItems? (.ref T) >>= k ∧ k (some #[u]) = pure [(y, u)]) (q : Str) (cl : List (Str × Addr)) (dV pm cv ctv : Value) (ds : List Value) (s2 : Shared) (r : Vals [.int i] ds) (a : DfAt ds dV s2.heap) :
    BindsTo s2 (lamFn q params body scope cl dV pm cv ctv) ⟨[], []⟩ (([y] : List Str).zip ds) := by
  cases r with
  | cons r1 r2 =>
    rename_i u us
    cases r2
    rcases a with ⟨z, _⟩ | ⟨T, rfl, hT⟩
    · cases z
    · obtain ⟨k, e1, e2⟩ := h q cl T pm cv ctv u
      exact .of_defaults rfl hT rfl e1 e2
end
end DL
set_option Elab.async false
set_option linter.all false
set_option maxRecDepth 100000
set_option maxHeartbeats 2000000
/-! Dx16: such a class out of the written part. -/
namespace DL
open PySem PySem.Spec PyProof.Rows L2 LamX
theorem exc1_mk {K : PySem.W.Frag} {mg : Str → Option Value} {file c fld pre qual : Str} {C fI cda cc : Addr} {si : Stmt} {nm q : Str} {N : Addr} {bs bm : List Value} {sn : List Str} {sub : List Value} {ab : Bool} {col : Option Bool} {dd : Option Addr} {m0 m1 m2 m3 m5 : Option Value}
    {j : Nat} {kV doc pm ct oc ccl cl : Value} {an od cdd cld : Option Addr} {osl ccs csl : Array (Option Value)} {vsC : Array Value} {tf : Tok} {ar : Arg} {p0 p1 p2 p3 p4 q1 q2 q3 q4 q5 q6 q7 q8 : Pos}
    (g : mg c = some (.ref C)) (xL : K.lookup C = some (PySem.excClassObj nm q C N bs bm true sn sub ab col dd m0 m1 m2 m3 m5 "ValueError.__new__")) (hbm : PySem.HandSPX.refsVE bm = true)
    (sa : PySem.W.findIn K (.ref C) "__setattr__" = some (some (.builtin "object.__setattr__"))) (ex : PySem.W.subIn K (.ref C) (.type "BaseException") = some true) (ty : PySem.W.typeIn K (.ref C) = some (.type "type")) (kp : PySem.W.keepIn K (.ref C) = true)
    (su : PySem.W.ks_superIn K C C "__init__" = some (some (.builtin "ValueError.__init__"))) (sv : PySem.W.subIn K (.ref C) (.type "ValueError") = some true) (mr : PySem.W.mroIn K C (.ref C) = some true) (ic : PySem.W.isClsIn K C = true)
    (no : PySem.W.findIn K (.ref C) fld = some none) (iC : PySem.W.findIn K (.ref C) "__init__" = some (some (.ref fI))) (tI : PySem.W.typeIn K (.ref fI) = some (.type "function"))
    (ga : PySem.W.findIn K (.ref C) "__getattribute__" = some (some (.builtin "BaseException.__getattribute__"))) (gg : PySem.W.findIn K (.ref C) "__getattr__" = some none) (hd : PySem.W.hasDictIn K C = true)
    (ha : PySem.W.findIn K (.ref C) "__class__" = some (some (.builtin "object.__class__"))) (hn : PySem.W.specialIn K (.builtin "object.__class__") "__get__" = some (some (.builtin "getset_descriptor.__get__"))) (ht : PySem.W.takesIn K (.builtin "object.__class__") = some true) (hm : PySem.W.mroIn K C (.type "object") = some true)
    (lk : K.lookup fI = some ⟨oc, od, .func (PySem.W.ksFn "__init__" qual (defArgs si) (defBody si) (defScope si) .none kV doc pm an (.ref cda) ct cc), osl⟩) (hcd : PySem.W.codeIn K (.ref cda) qual = true) (hcode : K.lookup cda = some ⟨ccl, cdd, .fields vsC, ccs⟩) (hvs : vsC[2]? = some (.str file tf))
    (hcell : K.lookup cc = some ⟨cl, cld, .cell (some (.ref C)), csl⟩) (hsup : mg "super" = none) (hno : PySem.W.nsIn K cStatics "thirdparty.any" = some none)
    (hbody : defBody si = initBody1 pre fld j p0 p1 p2 p3 p4 q1 q2 q3 q4 q5 q6 q7 q8) (S : SupScope ["self", fld] ["self", fld] (defScope si)) (hh : ((defArgs si).posonlyargs ++ (defArgs si).args).head? = some ar) (har : ar.arg = ("self" : Str)) (hpre : pre.length ≤ 100000) (hd1 : (fld == ("__debug__" : Str)) = false) (hd2 : (fld == ("__classdict__" : Str)) = false)
    (pl : Env → Sem Bool) (hev : ∀ env : Env, eval (.Call (.Attribute (.Call (.Name "super" p0) [] [] p1) "__init__" p2) [.JoinedStr [.Constant (.str pre) j q1, .FormattedValue (.Name fld q2) (-1) none q3] q4] [] p3) env = (do
      let ov ← attributeBase (.Call (.Name "super" p0) [] [] p1) "__init__" env (eval (.Call (.Name "super" p0) [] [] p1) env)
      standAt p2.atName
      let (f, first) ← holding [ov] (getMethod ov "__init__" (pl env))
      callWith p3 f first (backTo p3 (starEach [.JoinedStr [.Constant (.str pre) j q1, .FormattedValue (.Name fld q2) (-1) none q3] q4] env)) []))
    (hb : Binds K (PySem.W.ksFn "__init__" qual (defArgs si) (defBody si) (defScope si) .none kV doc pm an (.ref cda) ct cc) ["self", fld] []) : ExcD1 K mg file c fld C := by
  refine ⟨g, ⟨⟨⟨_, _, _, _, _, _, _, _, _, _, _, _, _, _, _, xL, hbm⟩, sa, ex, ty, kp⟩, su, sv, mr, ic⟩, no, ⟨fI, _, iC, tI, hb, fun P w base hf ht2 => ?_⟩, ⟨ga, gg, ex, hd⟩, ⟨ga, gg, ex, hd, ha, hn, ht, hm⟩⟩
  rw [hbody] at lk ⊢
  exact init1_ok lk hcd hcode hvs hf ht2 hcell S hh har hsup hno hpre hd1 hd2 pl hev
end DL
set_option Elab.async false
set_option linter.all false
set_option maxRecDepth 100000
set_option maxHeartbeats 2000000
/-! Dx17: small words of the printed texts; the ghost of a law that makes lambdas. -/
namespace DL
open PySem PySem.Spec PyProof.Rows L2 LamX
/-- what the program's own head says, for super() -/
structure ProgF (P : Program) (file : Str) : Prop where
  file : (P.main.file == file) = true
  sup : (P.main.scope.names.lookup ("super" : Str)).isSome = false
/-- the def in a class of one def -/
def clsDef : Stmt → Stmt
  | .ClassDef (body := b) .. => b.getD 0 (.Pass ⟨0, 0, 0, 0⟩)
  | s => s
def envAfter (r : SR) : List Sl := match r with
  | some (_, e, _) => e
  | none => []
section
variable {X : Cx} {A : Around} {outer : List Env} {s : Shared} {H : Hp} {E : XK} {scope : Scope} {f1 c' : Addr} {body : Expr} {t : TE}
theorem takes_lam : Takes (lamCx X A outer s H E scope f1 c') (fun c d _ H => E c d H) := takes_of rfl rfl rfl rfl
theorem lam_hx (h : (∀ σ, PassesAt (L2.CX X.prog X.w) (lamCx X A outer s H E scope f1 c') σ (fun c d H => (fun (c : Value) (d : Option Addr) (_ : L2.St) (H : Hp) => E c d H) c d σ H)) → PE (lamCx X A outer s H E scope f1 c') body t) : PE (lamCx X A outer s H E scope f1 c') body t :=
  h fun σ => passAt takes_lam σ
end
/-- p the pen, tb the table, q what its code objects are named -/
def tabGh (p tb : Addr) (q : Str) (hne : p ≠ tb) : Gh where
  pa := some p
  T := fun b => b = tb
  tok := fun _ H => Tabs [(tb, q)] H
  apart := fun b e z => hne ((Option.some.inj e).trans z)
  stable := fun G H G' H' t _ e1 e2 => by
    intro pr hp
    obtain ⟨ps, h1, h2, h3⟩ := t pr hp
    rw [List.mem_singleton] at hp
    refine ⟨ps, by rw [e1 _ (by rw [hp]), h1], h2, fun pos cv hc => ?_⟩
    obtain ⟨c, ec, h4⟩ := h3 pos cv hc
    exact ⟨c, ec, e2 _ _ h4 fun l z => by
      have z' : HO.ext _ = HO.lst l := z
      cases z'⟩
theorem tabGh_is {p tb : Addr} {q : Str} {hne : p ≠ tb} : ghT [(tb, q)] (tabGh p tb q hne) :=
  ⟨fun b => ⟨fun e => ⟨(tb, q), List.mem_cons_self, Eq.symm e⟩, fun ⟨pr, hp, e⟩ => by
    rw [List.mem_singleton] at hp
    rw [hp] at e
    exact e.symm⟩, fun _ _ => Iff.rfl⟩
theorem tab_at {tb : Addr} {q : Str} {H : Hp} (h : H tb = some (.tbl #[])) : Tabs [(tb, q)] H := fun pr hp => by
  rw [List.mem_singleton] at hp
  rw [hp]
  exact TabS.nil h
end DL
set_option Elab.async false
set_option linter.all false
set_option maxRecDepth 100000
namespace Law
open PySem PySem.Spec PyProof.Rows L2 DL
def errs : List Str := ["BadSet", "BadNumber"]
def hdTab : List (Str × Str × Str) := [("BadSet", "part", "set"), ("BadNumber", "part", "number")]
def hdT : Exc → Option D := hdOf hdTab
def fs_line : List Str := []
def fs_most : List Str := []
def fs_name : List Str := []
def fs_part : List Str := ["BadSet", "BadNumber"]
def fs_what : List Str := []
def fs_word : List Str := []
def u_heard : SM := sSeq (sIf (eB (e2 isNM (eVar 2) (eC .non))) (sRet (eLst (lCons (eVar 1) (lNil)))) (sNx)) (sSeq (sIf (eB (eIsX (ansOf errs ["TooMany"]) (eVar 2))) (sRet (eTup (lCons (eC (.str "many")) (lCons (eFldX fs_what "what" (eVar 2)) (lCons (eFldX fs_most "most" (eVar 2)) (lNil)))))) (sNx)) (sSeq (sIf (eB (eIsX (ansOf errs ["BadText"]) (eVar 2))) (sRet (eTup (lCons (eC (.str "text")) (lCons (eFldX fs_line "line" (eVar 2)) (lCons (eFldX fs_word "word" (eVar 2)) (lNil)))))) (sNx)) (sSeq (sIf (eB (eIsX (ansOf errs ["BadCommand", "TooHard"]) (eVar 2))) (sRet (eTup (lCons (eIf (eB (eIsX (ansOf errs ["BadCommand"]) (eVar 2))) (eC (.str "word")) (eC (.str "hard"))) (lCons (eFldX fs_word "word" (eVar 2)) (lNil))))) (sNx)) (sSeq (sIf (eB (eIsX (ansOf errs ["NoName"]) (eVar 2))) (sRet (eTup (lCons (eC (.str "name")) (lCons (eFldX fs_name "name" (eVar 2)) (lNil))))) (sNx)) (sSeq (sAsg 4 (eLst (lCons (eC (.str "poly")) (lCons (eC (.str "claim")) (lCons (eC (.str "plan")) (lCons (eC (.str "tree")) (lCons (eC (.str "number")) (lCons (eC (.str "value")) (lCons (eC (.str "set")) (lCons (eC (.str "tower")) (lCons (eC (.str "paper")) (lCons (eC (.str "misfit")) (lCons (eC (.str "nothing")) (lNil)))))))))))))) (sSeq (sNewL 5 (lCons (eIsX (ansOf errs ["BadPoly"]) (eVar 2)) (lCons (eIsX (ansOf errs ["BadClaim"]) (eVar 2)) (lCons (eIsX (ansOf errs ["BadPlan"]) (eVar 2)) (lCons (eIsX (ansOf errs ["BadTree"]) (eVar 2)) (lCons (eIsX (ansOf errs ["BadNumber"]) (eVar 2)) (lNil))))))) (sSeq (sFrz 5 (sCatL 5 (eVar 5) (eLst (lCons (eIsX (ansOf errs ["BadValue"]) (eVar 2)) (lCons (eIsX (ansOf errs ["BadSet"]) (eVar 2)) (lCons (eIsX (ansOf errs ["BadTower"]) (eVar 2)) (lCons (eIsX (ansOf errs ["BadPaper"]) (eVar 2)) (lCons (eIsX (ansOf errs ["Misfit"]) (eVar 2)) (lNil))))))))) (sSeq (sApp 5 (eIsX (ansOf errs ["Nothing"]) (eVar 2))) (sFrz 5 (sRet (eIf (eB (e2 eqM (eMt countM (eVar 5) (lCons (eC (.bl true)) (lNil))) (eC (.int 1)))) (eTup (lCons (e2 ixM (eVar 4) (eMt indexM (eVar 5) (lCons (eC (.bl true)) (lNil)))) (lCons (eFldX fs_part "part" (eVar 2)) (lNil)))) (eTup (lCons (eC (.str "other")) (lNil))))))))))))))
def c_BASES : D := (.tup [(.int 2), (.int 3), (.int 5), (.int 7), (.int 11), (.int 13), (.int 17), (.int 19), (.int 23), (.int 29), (.int 31), (.int 37), (.int 41)])
def c_BUT : D := (.str "but")
def c_MOST : D := (.int 1000000000000000000000000)
def c_MOST_CHARACTERISTIC : D := (.int 1000000000000)
def c_ONLY : D := (.str "only")
def c_SMALL : D := (.int 100000)
def c_WORDS : D := (.tup [(.str "only"), (.str "but")])
def b__law_draw : SM := sSeq (sIf (eB (e2 gtM (ePen 0 2) (eC (.int 0)))) (sSeq (sAsg 2 (eL toIntM (lCons (ePen 0 2) (lNil)))) (sSeq (sPen 0 2 (e2 fdivM (eVar 2) (eVar 1))) (sRet (e2 modM (eL toIntM (lCons (eVar 2) (lNil))) (eVar 1))))) (sNx)) (sSeq (sAsg 3 (ePen 0 1)) (sSeq (sPen 0 1 (e2 addM (eVar 3) (eC (.int 1)))) (sSeq (sAsg 4 (e2 addM (e2 mulM (eC (.int 73061)) (eVar 3)) (eC (.int 15307)))) (sSeq (sIf (eB (e2 neM (ePen 0 0) (eLst (lNil)))) (sAsg 4 (e2 ixM (ePen 0 0) (e2 modM (eL toIntM (lCons (eVar 3) (lNil))) (eL lenM (lCons (ePen 0 0) (lNil)))))) (sNx)) (sSeq (sIf (bAnd (eB (e2 ltM (eVar 3) (eL lenM (lCons (ePen 0 0) (lNil))))) (eB (e2 geM (eL absM (lCons (eVar 4) (lNil))) (e2 powM (eC (.int 10)) (eC (.int 18)))))) (sSeq (sAsg 2 (e2 addM (e2 mulM (eC (.int 2)) (e2 subM (eL absM (lCons (eVar 4) (lNil))) (e2 powM (eC (.int 10)) (eC (.int 18))))) (eL toIntM (lCons (e2 ltM (eVar 4) (eC (.int 0))) (lNil))))) (sSeq (sPen 0 2 (e2 fdivM (eL toIntM (lCons (eVar 2) (lNil))) (eVar 1))) (sRet (e2 modM (eL toIntM (lCons (eVar 2) (lNil))) (eVar 1))))) (sNx)) (sSeq (sAsg 5 (e2 modM (eL toIntM (lCons (e2 powM (e2 addM (e2 addM (e2 modM (eL toIntM (lCons (eVar 4) (lNil))) (eC (.int 2147483549))) (e2 mulM (eC (.int 81239)) (eVar 3))) (eC (.int 2903))) (eC (.int 5))) (lNil))) (eC (.int 2147483563)))) (sSeq (sAsg 5 (e2 modM (eL toIntM (lCons (e2 powM (e2 addM (e2 addM (e2 mulM (eVar 5) (e2 addM (e2 mulM (eC (.int 2)) (eVar 3)) (eC (.int 2903)))) (e2 mulM (e2 mulM (eC (.int 73061)) (eVar 3)) (eVar 3))) (eC (.int 81239))) (eC (.int 3))) (lNil))) (eC (.int 2147483587)))) (sRet (e2 modM (eL toIntM (lCons (e2 fdivM (eVar 5) (eC (.int 64))) (lNil))) (eVar 1))))))))))
def m__law_draw : List Sl → M D := argN 2 (runF 6 b__law_draw)
def b__law_pick : SM := sRet (e2 ixM (eVar 1) (eCall m__law_draw (aPen 0 (aVal (eL lenM (lCons (eVar 1) (lNil))) (aNil)))))
def m__law_pick : List Sl → M D := argN 2 (runF 2 b__law_pick)
def b__law_set : SM := sSeq (sAsg 1 (eC (.int 1))) (sSeq (sFor (iL (lCons (eCall m__law_draw (aPen 0 (aVal (eC (.int 4)) (aNil)))) (lNil))) (gNm 2) (sAsg 1 (e2 mulM (eVar 1) (eCall m__law_pick (aPen 0 (aVal (eLst (lCons (eC (.int 2)) (lCons (eC (.int 2)) (lCons (eC (.int 3)) (lCons (eC (.int 3)) (lCons (eC (.int 5)) (lCons (eC (.int 7)) (lCons (eC (.int 11)) (lCons (eC (.int 13)) (lCons (eC (.int 97)) (lNil))))))))))) (aNil))))))) (sRet (eTup (lCons (eCall m__law_pick (aPen 0 (aVal (eLst (lCons (eC (.str "only")) (lCons (eC (.str "but")) (lNil)))) (aNil)))) (lCons (eVar 1) (lNil))))))
def m__law_set : List Sl → M D := argN 1 (runF 3 b__law_set)
def b_is_whole : SM := sRet (eAnd (eIsi ["int"] (eVar 0)) (eNot (eIsi ["bool"] (eVar 0))))
def m_is_whole : List Sl → M D := argN 1 (runF 1 b_is_whole)
def b_is_within : SM := sRet (eAnd (eCall m_is_whole (aVal (eVar 0) (aNil))) (eAnd (e2 geM (eVar 0) (eVar 1)) (eOr (e2 isNM (eVar 2) (eC .non)) (e2 leM (eVar 0) (eVar 2)))))
def m_is_within : List Sl → M D := argN 3 (runF 3 b_is_within)
def b_is_listed : SM := sRet (eIsi ["list", "tuple"] (eVar 0))
def m_is_listed : List Sl → M D := argN 1 (runF 1 b_is_listed)
def b_is_where : SM := sSeq (sIf (bOr (bNot (eB (eCall m_is_listed (aVal (eVar 0) (aNil))))) (bOr (eB (e2 neM (eL lenM (lCons (eVar 0) (lNil))) (eC (.int 2)))) (bOr (bNot (eB (eIsi ["str"] (e2 ixM (eVar 0) (eC (.int 0)))))) (eB (e2 notInM (e2 ixM (eVar 0) (eC (.int 0))) (eC c_WORDS)))))) (sRet (eC (.bl false))) (sNx)) (sRet (eCall m_is_within (aVal (e2 ixM (eVar 0) (eC (.int 1))) (aVal (eC (.int 1)) (aVal (eC .non) (aNil))))))
def m_is_where : List Sl → M D := argN 1 (runF 1 b_is_where)
def b_need_where : SM := sSeq (sIf (bNot (eB (eCall m_is_where (aVal (eVar 0) (aNil))))) (sRaise1 "BadSet" "part" (eVar 1)) (sNx)) (sRet (eTup (lCons (e2 ixM (eVar 0) (eC (.int 0))) (lCons (e2 ixM (eVar 0) (eC (.int 1))) (lNil)))))
def m_need_where : List Sl → M D := argN 2 (runF 2 b_need_where)
def b_other_word : SM := sRet (eIf (eB (e2 eqM (eVar 0) (eC c_ONLY))) (eC c_BUT) (eC c_ONLY))
def m_other_word : List Sl → M D := argN 1 (runF 1 b_other_word)
def b_turned_set : SM := sRet (eTup (lCons (eCall m_other_word (aVal (e2 ixM (eVar 0) (eC (.int 0))) (aNil))) (lCons (e2 ixM (eVar 0) (eC (.int 1))) (lNil))))
def m_turned_set : List Sl → M D := argN 1 (runF 1 b_turned_set)
def b_without_primes : SM := sSeq (sAsg 2 (eVar 0)) (sSeq (sWhile (fuelV 2) (eB (e2 gtM (eL gcdM (lCons (eVar 2) (lCons (eVar 1) (lNil)))) (eC (.int 1)))) (sAsg 2 (e2 fdivM (eVar 2) (eL gcdM (lCons (eVar 2) (lCons (eVar 1) (lNil))))))) (sRet (eVar 2)))
def m_without_primes : List Sl → M D := argN 2 (runF 3 b_without_primes)
def b_met : SM := sSeq (sIf (bAnd (eB (e2 eqM (e2 ixM (eVar 0) (eC (.int 0))) (eC c_BUT))) (eB (e2 eqM (e2 ixM (eVar 1) (eC (.int 0))) (eC c_BUT)))) (sRet (eTup (lCons (eC c_BUT) (lCons (e2 fdivM (e2 mulM (e2 ixM (eVar 0) (eC (.int 1))) (e2 ixM (eVar 1) (eC (.int 1)))) (eL gcdM (lCons (e2 ixM (eVar 0) (eC (.int 1))) (lCons (e2 ixM (eVar 1) (eC (.int 1))) (lNil))))) (lNil))))) (sNx)) (sSeq (sIf (bAnd (eB (e2 eqM (e2 ixM (eVar 0) (eC (.int 0))) (eC c_ONLY))) (eB (e2 eqM (e2 ixM (eVar 1) (eC (.int 0))) (eC c_ONLY)))) (sRet (eTup (lCons (eC c_ONLY) (lCons (eL gcdM (lCons (e2 ixM (eVar 0) (eC (.int 1))) (lCons (e2 ixM (eVar 1) (eC (.int 1))) (lNil)))) (lNil))))) (sNx)) (sSeq (sAsgT (eIf (eB (e2 eqM (e2 ixM (eVar 0) (eC (.int 0))) (eC c_ONLY))) (eTup (lCons (eVar 0) (lCons (eVar 1) (lNil)))) (eTup (lCons (eVar 1) (lCons (eVar 0) (lNil))))) (gTp 2 (gsCons (gNm 2) (gsCons (gNm 3) (gsNil))))) (sRet (eTup (lCons (eC c_ONLY) (lCons (eCall m_without_primes (aVal (e2 ixM (eVar 2) (eC (.int 1))) (aVal (e2 ixM (eVar 3) (eC (.int 1))) (aNil)))) (lNil)))))))
def m_met : List Sl → M D := argN 2 (runF 4 b_met)
def b_joined : SM := sRet (eCall m_turned_set (aVal (eCall m_met (aVal (eCall m_turned_set (aVal (eVar 0) (aNil))) (aVal (eCall m_turned_set (aVal (eVar 1) (aNil))) (aNil)))) (aNil)))
def m_joined : List Sl → M D := argN 2 (runF 2 b_joined)
def b_join : SM := sRet (eCall m_joined (aVal (eCall m_need_where (aVal (eVar 0) (aVal (eC (.str "one")) (aNil)))) (aVal (eCall m_need_where (aVal (eVar 1) (aVal (eC (.str "other")) (aNil)))) (aNil))))
def m_join : List Sl → M D := argN 2 (runF 2 b_join)
def b_meet : SM := sRet (eCall m_met (aVal (eCall m_need_where (aVal (eVar 0) (aVal (eC (.str "one")) (aNil)))) (aVal (eCall m_need_where (aVal (eVar 1) (aVal (eC (.str "other")) (aNil)))) (aNil))))
def m_meet : List Sl → M D := argN 2 (runF 2 b_meet)
def b_others : SM := sRet (eCall m_turned_set (aVal (eCall m_need_where (aVal (eVar 0) (aVal (eC (.str "where")) (aNil)))) (aNil)))
def m_others : List Sl → M D := argN 1 (runF 1 b_others)
def b_has : SM := sSeq (sIf (eB (e2 eqM (eVar 1) (eC (.int 0)))) (sRet (e2 eqM (e2 ixM (eVar 0) (eC (.int 0))) (eC c_BUT))) (sNx)) (sRet (e2 eqM (e2 eqM (e2 modM (e2 ixM (eVar 0) (eC (.int 1))) (eVar 1)) (eC (.int 0))) (e2 eqM (e2 ixM (eVar 0) (eC (.int 0))) (eC c_ONLY))))
def m_has : List Sl → M D := argN 2 (runF 2 b_has)
def b_power_below : SM := sSeq (sPar 3 4 (lCons (eC (.int 1)) (lCons (e2 modM (eVar 0) (eVar 2)) (lNil)))) (sSeq (sWhile (fuelV 1) (eB (e2 gtM (eVar 1) (eC (.int 0)))) (sSeq (sIf (eB (e2 eqM (e2 modM (eVar 1) (eC (.int 2))) (eC (.int 1)))) (sAsg 3 (e2 modM (e2 mulM (eVar 3) (eVar 4)) (eVar 2))) (sNx)) (sPar 4 1 (lCons (e2 modM (e2 mulM (eVar 4) (eVar 4)) (eVar 2)) (lCons (e2 fdivM (eVar 1) (eC (.int 2))) (lNil)))))) (sRet (eVar 3)))
def m_power_below : List Sl → M D := argN 3 (runF 5 b_power_below)
def b_stands : SM := sSeq (sPar 2 3 (lCons (e2 subM (eVar 0) (eC (.int 1))) (lCons (eC (.int 0)) (lNil)))) (sSeq (sWhile (fuelV 2) (eB (e2 eqM (e2 modM (eVar 2) (eC (.int 2))) (eC (.int 0)))) (sPar 2 3 (lCons (e2 fdivM (eVar 2) (eC (.int 2))) (lCons (e2 addM (eVar 3) (eC (.int 1))) (lNil))))) (sSeq (sAsg 4 (eCall m_power_below (aVal (eVar 1) (aVal (eVar 2) (aVal (eVar 0) (aNil)))))) (sSeq (sIf (eB (e2 isInM (eVar 4) (eTup (lCons (eC (.int 1)) (lCons (e2 subM (eVar 0) (eC (.int 1))) (lNil)))))) (sRet (eC (.bl true))) (sNx)) (sSeq (sFor (iL (lCons (e2 subM (eVar 3) (eC (.int 1))) (lNil))) (gNm 5) (sSeq (sAsg 4 (e2 modM (e2 mulM (eVar 4) (eVar 4)) (eVar 0))) (sIf (eB (e2 eqM (eVar 4) (e2 subM (eVar 0) (eC (.int 1))))) (sRet (eC (.bl true))) (sNx)))) (sRet (eC (.bl false)))))))
def m_stands : List Sl → M D := argN 2 (runF 6 b_stands)
def b_prime : SM := sSeq (sIf (eB (e2 ltM (eVar 0) (eC (.int 2)))) (sRet (eC (.bl false))) (sNx)) (sSeq (sFor (iSeq (eC c_BASES)) (gNm 1) (sIf (eB (e2 eqM (e2 modM (eVar 0) (eVar 1)) (eC (.int 0)))) (sRet (e2 eqM (eVar 0) (eVar 1))) (sNx))) (sRet (eL allTM (lCons (eLc [1] (iSeq (eC c_BASES)) (gNm 1) (fun _ => pureM true) (eCall m_stands (aVal (eVar 0) (aVal (eVar 1) (aNil))))) (lNil)))))
def m_prime : List Sl → M D := argN 1 (runF 2 b_prime)
def b_is_prime : SM := sRet (eAnd (eCall m_is_whole (aVal (eVar 0) (aNil))) (eAnd (eChain leM ltM (eC (.int 0)) (eVar 0) (eC c_MOST)) (eCall m_prime (aVal (eVar 0) (aNil)))))
def m_is_prime : List Sl → M D := argN 1 (runF 1 b_is_prime)
def b_need_prime : SM := sIf (bOr (bNot (eB (eCall m_is_within (aVal (eVar 0) (aVal (eC (.int 0)) (aVal (eC c_MOST_CHARACTERISTIC) (aNil))))))) (bAnd (eB (e2 neM (eVar 0) (eC (.int 0)))) (bNot (eB (eCall m_is_prime (aVal (eVar 0) (aNil))))))) (sRaise1 "BadNumber" "part" (eVar 1)) (sNx)
def m_need_prime : List Sl → M D := argN 2 (runF 2 b_need_prime)
def b_is_in : SM := sSeq (sAsg 2 (eCall m_need_where (aVal (eVar 0) (aVal (eC (.str "where")) (aNil))))) (sSeq (sExpr (eCall (fun as => m_need_prime (as ++ ([(.str "prime")] : List D).map .val)) (aVal (eVar 1) (aNil)))) (sRet (eCall m_has (aVal (eVar 2) (aVal (eVar 1) (aNil))))))
def m_is_in : List Sl → M D := argN 2 (runF 3 b_is_in)
def b_is_same : SM := sSeq (sIf (eB (e2 neM (e2 ixM (eVar 0) (eC (.int 0))) (e2 ixM (eVar 1) (eC (.int 0))))) (sRet (eC (.bl false))) (sNx)) (sRet (eAnd (e2 eqM (eCall m_without_primes (aVal (e2 ixM (eVar 0) (eC (.int 1))) (aVal (e2 ixM (eVar 1) (eC (.int 1))) (aNil)))) (eC (.int 1))) (e2 eqM (eCall m_without_primes (aVal (e2 ixM (eVar 1) (eC (.int 1))) (aVal (e2 ixM (eVar 0) (eC (.int 1))) (aNil)))) (eC (.int 1)))))
def m_is_same : List Sl → M D := argN 2 (runF 2 b_is_same)
def b_are_same : SM := sRet (eCall m_is_same (aVal (eCall m_need_where (aVal (eVar 0) (aVal (eC (.str "one")) (aNil)))) (aVal (eCall m_need_where (aVal (eVar 1) (aVal (eC (.str "other")) (aNil)))) (aNil))))
def m_are_same : List Sl → M D := argN 2 (runF 2 b_are_same)
def b_need_whole : SM := sSeq (sIf (bNot (eB (eCall m_is_within (aVal (eVar 1) (aVal (eVar 2) (aVal (eVar 3) (aNil))))))) (sRaise1 "BadNumber" "part" (eVar 0)) (sNx)) (sRet (eVar 1))
def m_need_whole : List Sl → M D := argN 4 (runF 4 b_need_whole)
def b_parts_found : SM := sSeq (sParL 1 2 (lNil) (eC (.int 2))) (sSeq (sWhile (fuelV 0) (bAnd (eB (e2 ltM (eVar 2) (eC c_SMALL))) (eB (e2 leM (e2 mulM (eVar 2) (eVar 2)) (eVar 0)))) (sSeq (sAsg 3 (eC (.int 0))) (sSeq (sWhile (fun _ => 100000) (eB (e2 eqM (e2 modM (eVar 0) (eVar 2)) (eC (.int 0)))) (sPar 0 3 (lCons (e2 fdivM (eVar 0) (eVar 2)) (lCons (e2 addM (eVar 3) (eC (.int 1))) (lNil))))) (sSeq (sIf (eB (e2 gtM (eVar 3) (eC (.int 0)))) (sApp 1 (eTup (lCons (eVar 2) (lCons (eVar 3) (lNil))))) (sNx)) (sAug 2 iaddM (eIf (eB (e2 eqM (eVar 2) (eC (.int 2)))) (eC (.int 1)) (eC (.int 2)))))))) (sFrz 1 (sRet (eTup (lCons (eVar 1) (lCons (eVar 0) (lNil)))))))
def m_parts_found : List Sl → M D := argN 1 (runF 4 b_parts_found)
def b_parted : SM := sSeq (sExpr (eCall (fun as => m_need_whole (as ++ ([.non] : List D).map .val)) (aVal (eC (.str "number")) (aVal (eVar 0) (aVal (eC (.int 1)) (aNil)))))) (sSeq (sAsgT (eCall m_parts_found (aVal (eVar 0) (aNil))) (gTp 2 (gsCons (gNm 1) (gsCons (gNm 2) (gsNil))))) (sSeq (sIf (eB (e2 eqM (eVar 2) (eC (.int 1)))) (sRet (eL tupleM (lCons (eVar 1) (lNil)))) (sNx)) (sSeq (sIf (bOr (eB (e2 geM (eVar 2) (eC c_MOST))) (bNot (eB (eCall m_prime (aVal (eVar 2) (aNil)))))) (sNo) (sNx)) (sRet (eTup (lStar (eVar 1) (lCons (eTup (lCons (eVar 2) (lCons (eC (.int 1)) (lNil)))) (lNil))))))))
def m_parted : List Sl → M D := argN 1 (runF 3 b_parted)
def b_primes_of : SM := sRet (eL tupleM (lCons (eLc [1, 2] (iSeq (eCall m_parted (aVal (eVar 0) (aNil)))) (gTp 2 (gsCons (gNm 1) (gsCons (gNm 2) (gsNil)))) (fun _ => pureM true) (eVar 1)) (lNil)))
def m_primes_of : List Sl → M D := argN 1 (runF 3 b_primes_of)
def b_told_primes : SM := sRet (eCall m_primes_of (aVal (e2 ixM (eCall m_need_where (aVal (eVar 0) (aVal (eC (.str "where")) (aNil)))) (eC (.int 1))) (aNil)))
def m_told_primes : List Sl → M D := argN 1 (runF 1 b_told_primes)
def b_law : SM := sSeq (sFor (iL (lCons (eC (.int 6)) (lNil))) (gNm 2) (sSeq (sAsg 3 (eCall m__law_pick (aPen 1 (aVal (eLst (lCons (eC .non) (lCons (eC (.int 5)) (lCons (eTup (lNil)) (lCons (eC (.str "only")) (lCons (eTup (lCons (eC (.str "only")) (lNil))) (lCons (eTup (lCons (eC (.str "only")) (lCons (eC (.int 0)) (lNil)))) (lCons (eTup (lCons (eC (.str "only")) (lCons (e1 negM (eC (.int 3))) (lNil)))) (lCons (eTup (lCons (eC (.str "but")) (lCons (eC (.bl true)) (lNil)))) (lCons (eTup (lCons (eC (.str "but")) (lCons (eC (.str "2")) (lNil)))) (lCons (eTup (lCons (eC (.str "none")) (lCons (eC (.int 2)) (lNil)))) (lCons (eTup (lCons (eC (.int 5)) (lCons (eC (.int 2)) (lNil)))) (lCons (eTup (lCons (eC (.str "only")) (lCons (eC (.int 2)) (lCons (eC (.int 3)) (lNil))))) (lCons (eC (.dct [])) (lCons (eTup (lCons (eC (.str "but")) (lCons (eC .non) (lNil)))) (lCons (eLst (lCons (eLst (lCons (eC (.str "only")) (lNil))) (lCons (eC (.int 2)) (lNil)))) (lNil))))))))))))))))) (aNil))))) (sSeq (sAsgT (eTup (lCons (eCall m__law_set (aPen 1 (aNil))) (lCons (eCall m__law_pick (aPen 1 (aVal (eLst (lCons (eC .non) (lCons (e1 negM (eC (.int 2))) (lCons (eC (.int 1)) (lCons (eC (.int 6)) (lCons (eC (.int 49)) (lCons (eC (.bl true)) (lCons (eC (.str "3")) (lCons (eTup (lCons (eC (.int 3)) (lNil))) (lCons (e2 addM (e2 powM (eC (.int 10)) (eC (.int 12))) (eC (.int 39))) (lCons (eC (.dct [])) (lNil)))))))))))) (aNil)))) (lNil)))) (gTp 2 (gsCons (gNm 4) (gsCons (gNm 5) (gsNil))))) (sSeq (sAsg 6 (eLst (lCons (eHeard hdT (eCall m_meet (aVal (eVar 3) (aVal (eVar 3) (aNil))))) (lCons (eHeard hdT (eCall m_meet (aVal (eVar 4) (aVal (eVar 3) (aNil))))) (lCons (eHeard hdT (eCall m_join (aVal (eVar 3) (aVal (eVar 4) (aNil))))) (lCons (eHeard hdT (eCall m_join (aVal (eVar 4) (aVal (eVar 3) (aNil))))) (lNil))))))) (sSeq (sAsg 6 (e2 addM (eVar 6) (eLst (lCons (eHeard hdT (eCall m_others (aVal (eVar 3) (aNil)))) (lNil))))) (sSeq (sIf (eB (e2 neM (eVar 6) (eLst (lCons (eTup (lCons (eC (.str "set")) (lCons (eC (.str "one")) (lNil)))) (lCons (eTup (lCons (eC (.str "set")) (lCons (eC (.str "other")) (lNil)))) (lCons (eTup (lCons (eC (.str "set")) (lCons (eC (.str "one")) (lNil)))) (lCons (eTup (lCons (eC (.str "set")) (lCons (eC (.str "other")) (lNil)))) (lCons (eTup (lCons (eC (.str "set")) (lCons (eC (.str "where")) (lNil)))) (lNil))))))))) (sRet (eC (.bl false))) (sNx)) (sSeq (sAsg 6 (eLst (lCons (eHeard hdT (eCall m_are_same (aVal (eVar 3) (aVal (eVar 3) (aNil))))) (lCons (eHeard hdT (eCall m_are_same (aVal (eVar 4) (aVal (eVar 3) (aNil))))) (lCons (eHeard hdT (eCall m_is_in (aVal (eVar 3) (aVal (eVar 5) (aNil))))) (lCons (eHeard hdT (eCall m_is_in (aVal (eVar 4) (aVal (eVar 5) (aNil))))) (lNil))))))) (sSeq (sAsg 6 (e2 addM (eVar 6) (eLst (lCons (eHeard hdT (eCall m_told_primes (aVal (eVar 3) (aNil)))) (lNil))))) (sIf (eB (e2 neM (eVar 6) (eLst (lCons (eTup (lCons (eC (.str "set")) (lCons (eC (.str "one")) (lNil)))) (lCons (eTup (lCons (eC (.str "set")) (lCons (eC (.str "other")) (lNil)))) (lCons (eTup (lCons (eC (.str "set")) (lCons (eC (.str "where")) (lNil)))) (lCons (eTup (lCons (eC (.str "number")) (lCons (eC (.str "prime")) (lNil)))) (lCons (eTup (lCons (eC (.str "set")) (lCons (eC (.str "where")) (lNil)))) (lNil))))))))) (sRet (eC (.bl false))) (sNx)))))))))) (sSeq (sAsg 7 (eC (.int 999999999989))) (sSeq (sIf (bOr (eB (e2 neM (eCall m_told_primes (aVal (eTup (lCons (eC (.str "only")) (lCons (e2 mulM (eC (.int 4)) (eVar 7)) (lNil)))) (aNil))) (eTup (lCons (eC (.int 2)) (lCons (eVar 7) (lNil)))))) (bOr (eB (e2 notBM (eCall m_is_in (aVal (eTup (lCons (eC (.str "but")) (lCons (e2 mulM (eVar 7) (eC (.int 6))) (lNil)))) (aVal (eVar 7) (aNil)))) (eC (.bl false)))) (eB (e2 notBM (eCall m_is_in (aVal (eTup (lCons (eC (.str "but")) (lCons (e2 mulM (eVar 7) (eC (.int 6))) (lNil)))) (aVal (eC (.int 5)) (aNil)))) (eC (.bl true)))))) (sRet (eC (.bl false))) (sNx)) (sRet (eAnd (e2 eqM (eCall m_told_primes (aVal (eTup (lCons (eC (.str "but")) (lCons (eC (.int 1)) (lNil)))) (aNil))) (eTup (lNil))) (eAnd (e2 eqM (eCall m_told_primes (aVal (eLst (lCons (eC (.str "only")) (lCons (e2 mulM (e2 mulM (e2 mulM (e2 mulM (e2 mulM (eC (.int 2)) (eC (.int 3))) (eC (.int 5))) (eC (.int 7))) (eC (.int 11))) (eC (.int 13))) (lNil)))) (aNil))) (eTup (lCons (eC (.int 2)) (lCons (eC (.int 3)) (lCons (eC (.int 5)) (lCons (eC (.int 7)) (lCons (eC (.int 11)) (lCons (eC (.int 13)) (lNil))))))))) (e2 isBM (eCall m_is_in (aVal (eTup (lCons (eC (.str "only")) (lCons (eC (.int 1)) (lNil)))) (aVal (eC (.int 0)) (aNil)))) (eC (.bl false))))))))
end Law
set_option linter.all false
set_option maxRecDepth 100000
namespace Law
open PySem PySem.Spec PyProof.Rows L2 DL
theorem nat_small {x : Int} (h0 : 0 ≤ x) (h : x < 18446744073709551616) : x.natAbs < 18446744073709551616 := by omega
theorem mix_bounds {cell at_ : Int} {n : Nat} (hn : n ≤ 4000000) (g1 : 0 ≤ at_) (g2 : at_ ≤ (n : Int)) :
    (cell % 2147483549 + 81239 * at_ + 2903).natAbs < 18446744073709551616 ∧
    (((cell % 2147483549 + 81239 * at_ + 2903) ^ 5 % 2147483563) * (2 * at_ + 2903) + 73061 * at_ * at_ + 81239).natAbs < 18446744073709551616 ∧
    mulOk ((cell % 2147483549 + 81239 * at_ + 2903) ^ 5 % 2147483563) (2 * at_ + 2903) = true ∧ mulOk (73061 * at_) at_ = true := by
  have c1 := Int.emod_nonneg cell (show (2147483549 : Int) ≠ 0 by decide)
  have c2 := Int.emod_lt_of_pos cell (show (0 : Int) < 2147483549 by decide)
  have d1 := Int.emod_nonneg ((cell % 2147483549 + 81239 * at_ + 2903) ^ 5) (show (2147483563 : Int) ≠ 0 by decide)
  have d2 := Int.emod_lt_of_pos ((cell % 2147483549 + 81239 * at_ + 2903) ^ 5) (show (0 : Int) < 2147483563 by decide)
  generalize (cell % 2147483549 + 81239 * at_ + 2903) ^ 5 % 2147483563 = m at *
  have a1 : at_ ≤ 4000000 := by omega
  have m1 : m * (2 * at_ + 2903) ≤ 2147483563 * 8002903 := Int.mul_le_mul (by omega) (by omega) (by omega) (by omega)
  have m0 : 0 ≤ m * (2 * at_ + 2903) := Int.mul_nonneg d1 (by omega)
  have q1 : 73061 * at_ * at_ ≤ (73061 * 4000000) * 4000000 := Int.mul_le_mul (by omega) a1 g1 (by omega)
  have q0 : 0 ≤ 73061 * at_ * at_ := Int.mul_nonneg (by omega) g1
  refine ⟨by omega, by omega, ?_, ?_⟩
  · unfold mulOk
    simp
    omega
  · unfold mulOk
    simp
    omega
theorem ints_at {ns : List Int} {i : Int} (h0 : 0 ≤ i) (h1 : i < ns.length) : ∃ c, ixM (.lst (ns.map .int)) (.int i) = pureM (.int c) := by
  have hi : i.toNat < ns.length := by omega
  refine ⟨ns[i.toNat], ixM_lst (j := i.toNat) (by omega) ?_⟩
  rw [List.getElem?_map, List.getElem?_eq_getElem hi]
  rfl
theorem draw_ok {st : Pen} {n : Nat} (g : PenGood st n) (hn : n ≤ 4000000) {many : Int} (h1 : 0 < many) (h2 : many.natAbs.log2 < 9000) :
    ∃ r st', m__law_draw [.pen, .val (.int many)] st = some (.ok (.int r), st') ∧ 0 ≤ r ∧ r < many ∧ PenGood st' (n + 1) := by
  obtain ⟨cells, at_, left⟩ := st
  obtain ⟨g1, g2, g3⟩ := g
  dsimp only at g1 g2 g3
  by_cases hl : 0 < left
  · refine ⟨left % many, ⟨cells, at_, left / many⟩, ?_, Int.emod_nonneg _ (by omega), Int.emod_lt_of_pos _ h1, g1, by dsimp only; omega, Int.ediv_nonneg (by omega) (by omega)⟩
    simp [m__law_draw, b__law_draw, Pen.at', Pen.put, hl, h1, h2]
  · have mk : mulOk 73061 at_ = true := by simp [mulOk]
    have mk2 : mulOk 81239 at_ = true := by simp [mulOk]
    have mk3 : mulOk 2 at_ = true := by simp [mulOk]
    have l64 : Nat.log2 64 < 9000 := by decide
    -- what comes of the mixing
    have fin : ∀ (cell : Int), ∃ r, (let mx := ((((cell % 2147483549 + 81239 * at_ + 2903) ^ 5 % 2147483563) * (2 * at_ + 2903) + 73061 * at_ * at_ + 81239) ^ 3 % 2147483587); mx / 64 % many) = r ∧ 0 ≤ r ∧ r < many := fun cell => ⟨_, rfl, Int.emod_nonneg _ (by omega), Int.emod_lt_of_pos _ h1⟩
    by_cases hc : cells = []
    · subst hc
      obtain ⟨b1, b2, b3, b4⟩ := mix_bounds (cell := 73061 * at_ + 15307) hn g1 g2
      obtain ⟨r, hr, r0, r1⟩ := fin (73061 * at_ + 15307)
      have e0 := neM_ints_nil []
      simp only [List.map_nil, List.isEmpty_nil, Bool.not_true] at e0
      have ng : ¬ at_ < 0 := by omega
      refine ⟨r, ⟨[], at_ + 1, left⟩, ?_, r0, r1, by dsimp only; omega, by dsimp only; omega, g3⟩
      simp [m__law_draw, b__law_draw, Pen.at', Pen.put, hl, h1, h2, mk, mk2, mk3, l64, b1, b2, b3, b4, e0, ng, hr]
    · have hlen : 0 < cells.length := List.length_pos_iff.mpr hc
      obtain ⟨c, hcell⟩ := ints_at (ns := cells) (i := at_ % cells.length) (Int.emod_nonneg _ (by omega)) (Int.emod_lt_of_pos _ (by omega))
      have e0 := neM_ints_nil cells
      have e1 : cells.isEmpty = false := by simpa using hc
      rw [e1] at e0
      obtain ⟨b1, b2, b3, b4⟩ := mix_bounds (cell := c) hn g1 g2
      obtain ⟨r, hr, r0, r1⟩ := fin c
      by_cases hg : at_ < (cells.length : Int) ∧ 10 ^ 18 ≤ (if c < 0 then -c else c)
      · obtain ⟨hg1, hg2⟩ := hg
        refine ⟨(2 * ((if c < 0 then -c else c) - 1000000000000000000) + (if c < 0 then 1 else 0)) % many, ⟨cells, at_ + 1, (2 * ((if c < 0 then -c else c) - 1000000000000000000) + (if c < 0 then 1 else 0)) / many⟩, ?_, Int.emod_nonneg _ (by omega), Int.emod_lt_of_pos _ h1, by dsimp only; omega, by dsimp only; omega, ?_⟩
        · have mk5 : ∀ x, mulOk 2 x = true := fun x => by simp [mulOk]
          have hg3 : (1000000000000000000 : Int) ≤ (if c < 0 then -c else c) := by simpa using hg2
          simp [m__law_draw, b__law_draw, Pen.at', Pen.put, hl, h1, h2, mk, mk2, mk3, l64, mk5, e0, hcell, hlen, hg1, hg3]
        · dsimp only
          refine Int.ediv_nonneg ?_ (by omega)
          have hg3 : (1000000000000000000 : Int) ≤ (if c < 0 then -c else c) := by simpa using hg2
          split <;> omega
      · have hg' : ¬ (at_ < (cells.length : Int) ∧ (1000000000000000000 : Int) ≤ (if c < 0 then -c else c)) := by simpa using hg
        refine ⟨r, ⟨cells, at_ + 1, left⟩, ?_, r0, r1, by dsimp only; omega, by dsimp only; omega, g3⟩
        by_cases hg1 : at_ < (cells.length : Int)
        · have hg2 : ¬ ((1000000000000000000 : Int) ≤ (if c < 0 then -c else c)) := fun z => hg' ⟨hg1, z⟩
          simp [m__law_draw, b__law_draw, Pen.at', Pen.put, hl, h1, h2, mk, mk2, mk3, l64, b1, b2, b3, b4, e0, hcell, hlen, hg1, hg2, hr]
        · simp [m__law_draw, b__law_draw, Pen.at', Pen.put, hl, h1, h2, mk, mk2, mk3, l64, b1, b2, b3, b4, e0, hcell, hlen, hg1, hr]
end Law
set_option linter.all false
set_option maxRecDepth 100000
namespace Law
open PySem PySem.Spec PyProof.Rows L2 DL
/-! ### sets of characteristics as data -/
def wordS (b : Bool) : D := .str (if b = true then "only" else "but")
def dS (b : Bool) (n : Nat) : D := .tup [wordS b, .int n]
def dL (b : Bool) (n : Nat) : D := .lst [wordS b, .int n]
@[simp] theorem wordS_t : wordS true = .str "only" := rfl
@[simp] theorem wordS_f : wordS false = .str "but" := rfl
@[simp] theorem eIsi_ap (cs : List String) (f : EM) (env : List Sl) : eIsi cs f env = bindM (f env) fun d => match tyName d with
  | none => failM
  | some n => match kitAnyB n cs with
    | none => failM
    | some b => pureM (.bl b) := rfl
@[simp] theorem ty_int (i : Int) : tyName (.int i) = some "int" := rfl
@[simp] theorem ty_str (i : Str) : tyName (.str i) = some "str" := rfl
@[simp] theorem ty_lst (i : List D) : tyName (.lst i) = some "list" := rfl
@[simp] theorem ty_tup (i : List D) : tyName (.tup i) = some "tuple" := rfl
@[simp] theorem kit1 : kitAnyB "int" ["int"] = some true := by decide +kernel
@[simp] theorem kit2 : kitAnyB "int" ["bool"] = some false := by decide +kernel
@[simp] theorem kit3 : kitAnyB "list" ["list", "tuple"] = some true := by decide +kernel
@[simp] theorem kit4 : kitAnyB "tuple" ["list", "tuple"] = some true := by decide +kernel
@[simp] theorem kit5 : kitAnyB "str" ["str"] = some true := by decide +kernel
@[simp] theorem kit6 : kitAnyB "tuple" ["tuple"] = some true := by decide +kernel
@[simp] theorem eq_oo : eqM (.str "only") (.str "only") = pureM (.bl true) := by
  unfold eqM
  rw [if_pos (by decide +kernel), show eqD (.str "only") (.str "only") = true by decide +kernel]
@[simp] theorem eq_bb : eqM (.str "but") (.str "but") = pureM (.bl true) := by
  unfold eqM
  rw [if_pos (by decide +kernel), show eqD (.str "but") (.str "but") = true by decide +kernel]
@[simp] theorem eq_ob : eqM (.str "only") (.str "but") = pureM (.bl false) := by
  unfold eqM
  rw [if_pos (by decide +kernel), show eqD (.str "only") (.str "but") = false by decide +kernel]
@[simp] theorem eq_bo : eqM (.str "but") (.str "only") = pureM (.bl false) := by
  unfold eqM
  rw [if_pos (by decide +kernel), show eqD (.str "but") (.str "only") = false by decide +kernel]
@[simp] theorem ne_oo : neM (.str "only") (.str "only") = pureM (.bl false) := by
  unfold neM
  rw [if_pos (by decide +kernel), show eqD (.str "only") (.str "only") = true by decide +kernel]
  rfl
@[simp] theorem ne_bb : neM (.str "but") (.str "but") = pureM (.bl false) := by
  unfold neM
  rw [if_pos (by decide +kernel), show eqD (.str "but") (.str "but") = true by decide +kernel]
  rfl
@[simp] theorem ne_ob : neM (.str "only") (.str "but") = pureM (.bl true) := by
  unfold neM
  rw [if_pos (by decide +kernel), show eqD (.str "only") (.str "but") = false by decide +kernel]
  rfl
@[simp] theorem ne_bo : neM (.str "but") (.str "only") = pureM (.bl true) := by
  unfold neM
  rw [if_pos (by decide +kernel), show eqD (.str "but") (.str "only") = false by decide +kernel]
  rfl
@[simp] theorem notIn_o : notInM (.str "only") c_WORDS = pureM (.bl false) := rfl
@[simp] theorem notIn_b : notInM (.str "but") c_WORDS = pureM (.bl false) := rfl
@[simp] theorem notIn_o' : notInM (.str "only") (.tup [.str "only", .str "but"]) = pureM (.bl false) := rfl
@[simp] theorem notIn_b' : notInM (.str "but") (.tup [.str "only", .str "but"]) = pureM (.bl false) := rfl
@[simp] theorem c_BUT_eq : c_BUT = .str "but" := rfl
@[simp] theorem c_ONLY_eq : c_ONLY = .str "only" := rfl
@[simp] theorem c_MOST_eq : c_MOST = .int 1000000000000000000000000 := rfl
@[simp] theorem c_MOST_CHARACTERISTIC_eq : c_MOST_CHARACTERISTIC = .int 1000000000000 := rfl
@[simp] theorem c_SMALL_eq : c_SMALL = .int 100000 := rfl
@[simp] theorem isNM_non : isNM .non .non = pureM (.bl true) := rfl
@[simp] theorem isNM_int (i : Int) : isNM (.int i) .non = pureM (.bl false) := rfl
@[simp] theorem size2 : (2 : Nat) ≤ sizeLine := by decide
@[simp] theorem size1 : (1 : Nat) ≤ sizeLine := by decide
@[simp] theorem size3 : (3 : Nat) ≤ sizeLine := by decide
@[simp] theorem size0 : (0 : Nat) ≤ sizeLine := by decide
@[simp] theorem is_whole_int (i : Int) (st : Pen) : m_is_whole [.val (.int i)] st = some (.ok (.bl true), st) := by
  simp [m_is_whole, b_is_whole]
theorem need_where_t {b : Bool} {n : Nat} (h : 1 ≤ n) (part : D) (st : Pen) : m_need_where [.val (dS b n), .val part] st = some (.ok (dS b n), st) := by
  have h' : (1 : Int) ≤ n := by omega
  cases b <;> simp [m_need_where, b_need_where, dS, m_is_where, b_is_where, m_is_listed, b_is_listed, m_is_within, b_is_within, h']
theorem need_where_l {b : Bool} {n : Nat} (h : 1 ≤ n) (part : D) (st : Pen) : m_need_where [.val (dL b n), .val part] st = some (.ok (dS b n), st) := by
  have h' : (1 : Int) ≤ n := by omega
  cases b <;> simp [m_need_where, b_need_where, dS, dL, m_is_where, b_is_where, m_is_listed, b_is_listed, m_is_within, b_is_within, h']
theorem turned_ok (b : Bool) (n : Nat) (st : Pen) : m_turned_set [.val (dS b n)] st = some (.ok (dS (!b) n), st) := by
  cases b <;> simp [m_turned_set, b_turned_set, dS, m_other_word, b_other_word]
theorem others_t {b : Bool} {n : Nat} (h : 1 ≤ n) (st : Pen) : m_others [.val (dS b n)] st = some (.ok (dS (!b) n), st) := by
  simp [m_others, b_others, need_where_t h, turned_ok]
theorem others_l {b : Bool} {n : Nat} (h : 1 ≤ n) (st : Pen) : m_others [.val (dL b n)] st = some (.ok (dS (!b) n), st) := by
  simp [m_others, b_others, need_where_l h, turned_ok]
/-! ### loops -/
theorem whileD_true {c : List Sl → M Bool} {u : SM} {n : Nat} {env e : List Sl} {st st1 s : Pen} (hc : c env st = some (.ok true, st1)) (hb : u env st1 = some (.ok .nx, e, s)) : whileD c u (n + 1) env st = whileD c u n e s := by
  show DL.liftM c _ env st = _
  unfold DL.liftM
  rw [hc]
  dsimp only
  rw [if_pos rfl, hb]
theorem whileD_false {c : List Sl → M Bool} {u : SM} {n : Nat} {env : List Sl} {st st1 : Pen} (hc : c env st = some (.ok false, st1)) : whileD c u (n + 1) env st = some (.ok .nx, env, st1) := by
  show DL.liftM c _ env st = _
  unfold DL.liftM
  rw [hc]
  rfl
theorem forD_cons {F : D → List Sl → Option (List Sl)} {u : SM} {d : D} {ds : List D} {env env1 e : List Sl} {st s : Pen} (hF : F d env = some env1) (hb : u env1 st = some (.ok .nx, e, s)) : forD F u (d :: ds) env st = forD F u ds e s := by
  rw [forD, hF]
  dsimp only
  rw [hb]
theorem forD_inv {F : D → List Sl → Option (List Sl)} {u : SM} (I : Nat → List Sl → Pen → Prop) : ∀ (ds : List D) (k : Nat) (env : List Sl) (st : Pen), I k env st →
    (∀ d ∈ ds, ∀ j, k ≤ j → j < k + ds.length → ∀ env st, I j env st → ∃ env1 e s, F d env = some env1 ∧ u env1 st = some (.ok .nx, e, s) ∧ I (j + 1) e s) →
    ∃ e s, forD F u ds env st = some (.ok .nx, e, s) ∧ I (k + ds.length) e s
  | [], k, env, st, h, _ => ⟨env, st, rfl, h⟩
  | d :: ds, k, env, st, h, hs => by
    obtain ⟨env1, e, s, h1, h2, h3⟩ := hs d (List.mem_cons_self) k (Nat.le_refl _) (by simp) env st h
    obtain ⟨e', s', h4, h5⟩ := forD_inv I ds (k + 1) e s h3 fun d' hd j h6 h7 => hs d' (List.mem_cons_of_mem _ hd) j (by omega) (by simp only [List.length_cons]; omega)
    refine ⟨e', s', by rw [forD_cons h1 h2]; exact h4, ?_⟩
    rw [List.length_cons, show k + (ds.length + 1) = k + 1 + ds.length by omega]
    exact h5
/-! ### without the primes of another one -/
structure WP (n o r : Nat) : Prop where
  pos : 1 ≤ r
  dvd : r ∣ n
  cop : Nat.gcd r o = 1
  rest : ∃ j, n ∣ r * o ^ j
theorem wp_step {f g o r : Nat} (hg : g = Nat.gcd f o) (hf : 1 ≤ f) (w : WP (f / g) o r) : WP f o r := by
  have hgf : g ∣ f := by rw [hg]; exact Nat.gcd_dvd_left f o
  have hgo : g ∣ o := by rw [hg]; exact Nat.gcd_dvd_right f o
  obtain ⟨k, hk⟩ := hgf
  have g0 : 0 < g := by
    rcases Nat.eq_zero_or_pos g with z | z
    · rw [z, Nat.zero_mul] at hk; omega
    · exact z
  have e : f / g = k := by rw [hk, Nat.mul_div_cancel_left _ g0]
  rw [e] at w
  obtain ⟨j, hj⟩ := w.rest
  refine ⟨w.pos, ?_, w.cop, j + 1, ?_⟩
  · rw [hk]; exact Nat.dvd_trans w.dvd (Nat.dvd_mul_left k g)
  · rw [hk, Nat.pow_succ, Nat.mul_comm g k, ← Nat.mul_assoc]
    exact Nat.mul_dvd_mul hj hgo
theorem log2_le {a b : Nat} (h : a ≤ b) (hb : b.log2 < 9000) : a.log2 < 9000 := by
  rcases Nat.eq_zero_or_pos a with z | z
  · subst z; decide
  · have : a < 2 ^ 9000 := Nat.lt_of_le_of_lt h ((Nat.log2_lt (by omega)).mp hb)
    exact (Nat.log2_lt (by omega)).mpr this
def wpC : List Sl → M Bool := eB (e2 gtM (eL gcdM (lCons (eVar 2) (lCons (eVar 1) (lNil)))) (eC (.int 1)))
def wpB : SM := sAsg 2 (e2 fdivM (eVar 2) (eL gcdM (lCons (eVar 2) (lCons (eVar 1) (lNil)))))
theorem wpC_ok (n o f : Nat) (st : Pen) : wpC [.val (.int n), .val (.int o), .val (.int f)] st = some (.ok (decide ((1 : Int) < (Nat.gcd f o : Nat))), st) := by
  simp [wpC]
theorem wpB_ok (n o f : Nat) (st : Pen) (h : 0 < Nat.gcd f o) (hl : (Nat.gcd f o).log2 < 9000) : wpB [.val (.int n), .val (.int o), .val (.int f)] st = some (.ok .nx, [.val (.int n), .val (.int o), .val (.int ((f / Nat.gcd f o : Nat) : Int))], st) := by
  simp [wpB, h, hl]
theorem wp_loop {n o : Nat} (ho : 1 ≤ o) (hlo : o.log2 < 9000) (st : Pen) : ∀ (fuel f : Nat), 1 ≤ f → f < fuel → ∃ r, WP f o r ∧
    whileD wpC wpB fuel [.val (.int n), .val (.int o), .val (.int f)] st = some (.ok .nx, [.val (.int n), .val (.int o), .val (.int r)], st)
  | 0, f, _, h => absurd h (Nat.not_lt_zero _)
  | fuel + 1, f, hf, h => by
    have g0 : 0 < Nat.gcd f o := Nat.gcd_pos_of_pos_left _ hf
    have gle : Nat.gcd f o ≤ o := Nat.le_of_dvd ho (Nat.gcd_dvd_right f o)
    have hlg := log2_le gle hlo
    by_cases hg : 1 < Nat.gcd f o
    · have hd : f / Nat.gcd f o < f := Nat.div_lt_self hf hg
      have hp : 1 ≤ f / Nat.gcd f o := Nat.div_pos (Nat.le_of_dvd hf (Nat.gcd_dvd_left f o)) g0
      obtain ⟨r, w, e⟩ := wp_loop ho hlo st fuel (f / Nat.gcd f o) hp (by omega)
      refine ⟨r, wp_step rfl hf w, ?_⟩
      have hgi : decide ((1 : Int) < (Nat.gcd f o : Nat)) = true := by
        rw [decide_eq_true_iff]
        omega
      rw [whileD_true (by rw [wpC_ok, hgi]) (wpB_ok n o f st g0 hlg)]
      exact e
    · have h1 : Nat.gcd f o = 1 := by omega
      refine ⟨f, ⟨hf, Nat.dvd_refl _, h1, 0, by simp⟩, ?_⟩
      rw [whileD_false (by rw [wpC_ok, h1]; rfl)]
theorem wp_uniq {n o r r' : Nat} (w : WP n o r) (w' : WP n o r') : r' = r := by
  have c1 : r ∣ r' := by
    obtain ⟨j, hj⟩ := w'.rest
    exact Nat.Coprime.dvd_of_dvd_mul_right (Nat.Coprime.pow_right j w.cop) (Nat.dvd_trans w.dvd hj)
  have c2 : r' ∣ r := by
    obtain ⟨j, hj⟩ := w.rest
    exact Nat.Coprime.dvd_of_dvd_mul_right (Nat.Coprime.pow_right j w'.cop) (Nat.dvd_trans w'.dvd hj)
  exact Nat.dvd_antisymm c2 c1
theorem wp_ok {n o : Nat} (hn : 1 ≤ n) (ho : 1 ≤ o) (hlo : o.log2 < 9000) : ∃ r, WP n o r ∧ ∀ st : Pen, m_without_primes [.val (.int n), .val (.int o)] st = some (.ok (.int r), st) := by
  obtain ⟨r, w, e⟩ := wp_loop (n := n) ho hlo default (n + 1) n hn (by omega)
  refine ⟨r, w, fun st => ?_⟩
  obtain ⟨r', w', e'⟩ := wp_loop (n := n) ho hlo st (n + 1) n hn (by omega)
  rw [wp_uniq w w'] at e'
  have hb : b_without_primes = sSeq (sAsg 2 (eVar 0)) (sSeq (sWhile (fuelV 2) wpC wpB) (sRet (eVar 2))) := rfl
  have e2 : sSeq (sAsg 2 (eVar 0)) (sSeq (sWhile (fuelV 2) wpC wpB) (sRet (eVar 2))) [.val (.int n), .val (.int o), .no] st = some (.ok (.ret (.int r)), [.val (.int n), .val (.int o), .val (.int r)], st) := by
    simp [e']
  rw [← hb] at e2
  simp [m_without_primes, e2]
end Law
set_option linter.all false
set_option maxRecDepth 100000
namespace Law
open PySem PySem.Spec PyProof.Rows L2 DL
theorem argN_run {n k : Nat} {b : SM} {as e : List Sl} {st st' : Pen} {d : D} (hn : as.length = n) (hb : b (as ++ List.replicate (k - as.length) .no) st = some (.ok (.ret d), e, st')) : argN n (runF k b) as st = some (.ok d, st') := by
  have h1 : argN n (runF k b) as = runF k b as := if_pos hn
  rw [h1]
  unfold runF
  rw [hb]
theorem sSeq_nx {f g : SM} {env e : List Sl} {st s : Pen} (h : f env st = some (.ok .nx, e, s)) : sSeq f g env st = g e s := by
  rw [sSeq_ap, h]
theorem pick_ok {st : Pen} {n : Nat} (g : PenGood st n) (hn : n ≤ 4000000) (l : List D) (h : 0 < l.length) (hl : l.length < 1000) :
    ∃ d st', d ∈ l ∧ m__law_pick [.pen, .val (.lst l)] st = some (.ok d, st') ∧ PenGood st' (n + 1) := by
  have h0 : (0 : Int) < (l.length : Nat) := by omega
  have h1 : ((l.length : Nat) : Int).natAbs.log2 < 9000 := log2_le (show ((l.length : Nat) : Int).natAbs ≤ 1000 by omega) (by decide)
  obtain ⟨r, st', e, r0, r1, g'⟩ := draw_ok g hn h0 h1
  have hr : r.toNat < l.length := by omega
  refine ⟨l[r.toNat], st', List.getElem_mem hr, ?_, g'⟩
  have hx : ixM (.lst l) (.int r) = pureM l[r.toNat] := ixM_lst (j := r.toNat) (by omega) (List.getElem?_eq_getElem hr)
  exact argN_run rfl (e := [.pen, .val (.lst l)]) (by
    show b__law_pick [.pen, .val (.lst l)] st = _
    simp [b__law_pick, e, hx])
def nine : List Nat := [2, 2, 3, 3, 5, 7, 11, 13, 97]
theorem set_ok {st : Pen} {n : Nat} (g : PenGood st n) (hn : n ≤ 3000000) :
    ∃ (b : Bool) (m : Nat) (st' : Pen), 1 ≤ m ∧ m__law_set [.pen] st = some (.ok (dS b m), st') ∧ PenGood st' (n + 5) := by
  obtain ⟨r, st1, e1, r0, r1, g1⟩ := draw_ok g (by omega) (many := 4) (by decide) (by decide)
  have hlen : (rangeL 0 r.toNat).length = r.toNat := by simp [rangeL]
  have hL := forD_inv (F := gNm 2) (u := (sAsg 1 (e2 mulM (eVar 1) (eCall m__law_pick (aPen 0 (aVal (eLst (lCons (eC (.int 2)) (lCons (eC (.int 2)) (lCons (eC (.int 3)) (lCons (eC (.int 3)) (lCons (eC (.int 5)) (lCons (eC (.int 7)) (lCons (eC (.int 11)) (lCons (eC (.int 13)) (lCons (eC (.int 97)) (lNil))))))))))) (aNil)))))))
    (fun k env st => ∃ (m : Nat) (s : Sl), 1 ≤ m ∧ env = [.pen, .val (.int (m : Nat)), s] ∧ PenGood st (n + 1 + k)) (rangeL 0 r.toNat) 0 [.pen, .val (.int 1), .no] st1 ⟨1, .no, by decide, rfl, g1⟩ (by
      rintro d _ j _ hj env st ⟨m, s, hm, rfl, gg⟩
      rw [hlen] at hj
      obtain ⟨d', st', hd', e', g'⟩ := pick_ok gg (by omega) [.int 2, .int 2, .int 3, .int 3, .int 5, .int 7, .int 11, .int 13, .int 97] (by decide) (by decide)
      have mk : ∀ q : Nat, q < 100 → mulOk m q = true := fun q hq => by
        unfold mulOk
        rw [Bool.or_eq_true]
        right
        simp
        omega
      have hq : ∃ q : Nat, 1 ≤ q ∧ d' = .int q ∧ mulOk m q = true := by
        simp only [List.mem_cons, List.not_mem_nil, or_false] at hd'
        rcases hd' with rfl | rfl | rfl | rfl | rfl | rfl | rfl | rfl | rfl
        · exact ⟨2, by decide, rfl, mk 2 (by decide)⟩
        · exact ⟨2, by decide, rfl, mk 2 (by decide)⟩
        · exact ⟨3, by decide, rfl, mk 3 (by decide)⟩
        · exact ⟨3, by decide, rfl, mk 3 (by decide)⟩
        · exact ⟨5, by decide, rfl, mk 5 (by decide)⟩
        · exact ⟨7, by decide, rfl, mk 7 (by decide)⟩
        · exact ⟨11, by decide, rfl, mk 11 (by decide)⟩
        · exact ⟨13, by decide, rfl, mk 13 (by decide)⟩
        · exact ⟨97, by decide, rfl, mk 97 (by decide)⟩
      obtain ⟨q, q1, rfl, mk⟩ := hq
      refine ⟨[.pen, .val (.int (m : Nat)), .val d], [.pen, .val (.int ((m * q : Nat) : Int)), .val d], st', rfl, ?_, m * q, _, Nat.mul_pos hm q1, rfl, by rw [show n + 1 + (j + 1) = n + 1 + j + 1 by omega]; exact g'⟩
      have sz : (9 : Nat) ≤ sizeLine := by decide
      simp [e', mk, sz])
  rw [hlen] at hL
  obtain ⟨e2', st2, hf, m, s, hm, rfl, g2⟩ := hL
  obtain ⟨w, st3, hw, ew, g3⟩ := pick_ok g2 (by omega) [.str "only", .str "but"] (by decide) (by decide)
  have hb : ∃ b, w = wordS b := by
    simp only [List.mem_cons, List.not_mem_nil, or_false] at hw
    rcases hw with rfl | rfl
    · exact ⟨true, rfl⟩
    · exact ⟨false, rfl⟩
  obtain ⟨b, rfl⟩ := hb
  have hr : iRange [.int r] = pureM (rangeL 0 r.toNat) := if_pos (by omega)
  refine ⟨b, m, st3, hm, ?_, g3.mono (by omega)⟩
  refine argN_run rfl (e := [.pen, .val (.int (m : Nat)), s]) ?_
  show b__law_set [.pen, .no, .no] st = _
  unfold b__law_set
  rw [sSeq_nx (e := [.pen, .val (.int 1), .no]) (s := st) rfl]
  rw [sSeq_nx (e := [.pen, .val (.int (m : Nat)), s]) (s := st2) (by
    rw [sFor_ap, liftM_ap]
    simp only [iL_ap, lCons_ap, lNil_ap, bindM_ap, eCall_ap, aPen_ap, aVal_ap, aNil_ap, eC_ap, pureM, List.getElem?_cons_zero, e1, hr]
    exact hf)]
  simp [ew, dS]
/-! ### bad values -/
def bads : List D := [.non, .int 5, .tup [], .str "only", .tup [.str "only"], .tup [.str "only", .int 0], .tup [.str "only", .int (-3)], .tup [.str "but", .bl true], .tup [.str "but", .str "2"], .tup [.str "none", .int 2], .tup [.int 5, .int 2], .tup [.str "only", .int 2, .int 3], .dct [], .tup [.str "but", .non], .lst [.lst [.str "only"], .int 2]]
def odds : List D := [.non, .int (-2), .int 1, .int 6, .int 49, .bl true, .str "3", .tup [.int 3], .int 1000000000039, .dct []]
def xS (p : Str) : Exc := ⟨"BadSet", [("part", .str p)]⟩
def xN : Exc := ⟨"BadNumber", [("part", .str "prime")]⟩
theorem bad_one (st : Pen) : ∀ d ∈ bads, m_need_where [.val d, .val (.str "one")] st = some (.error (xS "one"), st) := by
  unfold bads
  repeat' (first | exact List.forall_mem_nil _ | refine List.forall_mem_cons.mpr ⟨by kernel_rfl, ?_⟩)
theorem bad_other (st : Pen) : ∀ d ∈ bads, m_need_where [.val d, .val (.str "other")] st = some (.error (xS "other"), st) := by
  unfold bads
  repeat' (first | exact List.forall_mem_nil _ | refine List.forall_mem_cons.mpr ⟨by kernel_rfl, ?_⟩)
theorem bad_where (st : Pen) : ∀ d ∈ bads, m_need_where [.val d, .val (.str "where")] st = some (.error (xS "where"), st) := by
  unfold bads
  repeat' (first | exact List.forall_mem_nil _ | refine List.forall_mem_cons.mpr ⟨by kernel_rfl, ?_⟩)
theorem odd_prime (st : Pen) : ∀ d ∈ odds, m_need_prime [.val d, .val (.str "prime")] st = some (.error xN, st) := by
  unfold odds
  repeat' (first | exact List.forall_mem_nil _ | refine List.forall_mem_cons.mpr ⟨by kernel_rfl, ?_⟩)
end Law
set_option linter.all false
set_option maxRecDepth 100000
namespace Law
open PySem PySem.Spec PyProof.Rows L2 DL
section
variable {d o : D} {b : Bool} {n : Nat} {st : Pen} {x : Exc}
/-! two-sided calls, of any inner def -/
def twoB (F : List Sl → M D) : SM := sRet (eCall F (aVal (eCall m_need_where (aVal (eVar 0) (aVal (eC (.str "one")) (aNil)))) (aVal (eCall m_need_where (aVal (eVar 1) (aVal (eC (.str "other")) (aNil)))) (aNil))))
theorem two_one {F : List Sl → M D} {y : D} (hd : d ∈ bads) : argN 2 (runF 2 (twoB F)) [.val d, .val y] st = some (.error (xS "one"), st) := by
  simp [twoB, bad_one st d hd]
theorem two_other {F : List Sl → M D} (hn : 1 ≤ n) (hd : d ∈ bads) : argN 2 (runF 2 (twoB F)) [.val (dS b n), .val d] st = some (.error (xS "other"), st) := by
  simp [twoB, need_where_t hn, bad_other st d hd]
theorem meet_bb (hd : d ∈ bads) : m_meet [.val d, .val d] st = some (.error (xS "one"), st) := two_one (F := m_met) hd
theorem meet_fb (hn : 1 ≤ n) (hd : d ∈ bads) : m_meet [.val (dS b n), .val d] st = some (.error (xS "other"), st) := two_other (F := m_met) hn hd
theorem join_bf (hd : d ∈ bads) : m_join [.val d, .val (dS b n)] st = some (.error (xS "one"), st) := two_one (F := m_joined) hd
theorem join_fb (hn : 1 ≤ n) (hd : d ∈ bads) : m_join [.val (dS b n), .val d] st = some (.error (xS "other"), st) := two_other (F := m_joined) hn hd
theorem same_bb (hd : d ∈ bads) : m_are_same [.val d, .val d] st = some (.error (xS "one"), st) := two_one (F := m_is_same) hd
theorem same_fb (hn : 1 ≤ n) (hd : d ∈ bads) : m_are_same [.val (dS b n), .val d] st = some (.error (xS "other"), st) := two_other (F := m_is_same) hn hd
def othB (F : List Sl → M D) : SM := sRet (eCall F (aVal (eCall m_need_where (aVal (eVar 0) (aVal (eC (.str "where")) (aNil)))) (aNil)))
theorem oth_b {F : List Sl → M D} (hd : d ∈ bads) : argN 1 (runF 1 (othB F)) [.val d] st = some (.error (xS "where"), st) := by
  simp [othB, bad_where st d hd]
theorem others_b (hd : d ∈ bads) : m_others [.val d] st = some (.error (xS "where"), st) := oth_b (F := m_turned_set) hd
def tolB (F : List Sl → M D) : SM := sRet (eCall F (aVal (e2 ixM (eCall m_need_where (aVal (eVar 0) (aVal (eC (.str "where")) (aNil)))) (eC (.int 1))) (aNil)))
theorem tol_b {F : List Sl → M D} (hd : d ∈ bads) : argN 1 (runF 1 (tolB F)) [.val d] st = some (.error (xS "where"), st) := by
  simp [tolB, bad_where st d hd]
theorem told_b (hd : d ∈ bads) : m_told_primes [.val d] st = some (.error (xS "where"), st) := tol_b (F := m_primes_of) hd
def iiB (FN FH : List Sl → M D) : SM := sSeq (sAsg 2 (eCall m_need_where (aVal (eVar 0) (aVal (eC (.str "where")) (aNil))))) (sSeq (sExpr (eCall (fun as => FN (as ++ ([(.str "prime")] : List D).map .val)) (aVal (eVar 1) (aNil)))) (sRet (eCall FH (aVal (eVar 2) (aVal (eVar 1) (aNil))))))
theorem ii_b {FN FH : List Sl → M D} (hd : d ∈ bads) : argN 2 (runF 3 (iiB FN FH)) [.val d, .val o] st = some (.error (xS "where"), st) := by
  simp [iiB, bad_where st d hd]
theorem ii_f {FN FH : List Sl → M D} (hn : 1 ≤ n) (h : FN [.val o, .val (.str "prime")] st = some (.error x, st)) : argN 2 (runF 3 (iiB FN FH)) [.val (dS b n), .val o] st = some (.error x, st) := by
  simp [iiB, need_where_t hn, h]
theorem is_in_b (hd : d ∈ bads) : m_is_in [.val d, .val o] st = some (.error (xS "where"), st) := ii_b (FN := m_need_prime) (FH := m_has) hd
theorem is_in_f (hn : 1 ≤ n) (ho : o ∈ odds) : m_is_in [.val (dS b n), .val o] st = some (.error xN, st) := ii_f (FN := m_need_prime) (FH := m_has) hn (odd_prime st o ho)
/-! what is heard -/
theorem hd_set (p : Str) : hdT (xS p) = some (.tup [.str "set", .str p]) := by kernel_rfl
theorem hd_num : hdT xN = some (.tup [.str "number", .str "prime"]) := by kernel_rfl
theorem heard_err {hd : Exc → Option D} {f : EM} {env : List Sl} {st' : Pen} {r : D} (h : f env st = some (.error x, st')) (hr : hd x = some r) : eHeard hd f env st = some (.ok r, st') := by
  unfold eHeard
  rw [h]
  dsimp only
  rw [hr]
theorem asg_nx {i : Nat} {f : EM} {env : List Sl} {st' : Pen} (h : f env st = some (.ok d, st')) : sAsg i f env st = some (.ok .nx, env.set i (.val d), st') := by
  rw [sAsg_ap, liftM_ap, h]
theorem lst4 {A B C E : EM} {env : List Sl} {a b c e : D} (hA : A env st = some (.ok a, st)) (hB : B env st = some (.ok b, st)) (hC : C env st = some (.ok c, st)) (hE : E env st = some (.ok e, st)) : eLst (lCons A (lCons B (lCons C (lCons E lNil)))) env st = some (.ok (.lst [a, b, c, e]), st) := by
  have s4 : (4 : Nat) ≤ sizeLine := by decide
  simp [hA, hB, hC, hE, s4]
theorem cat1 {A : EM} {env : List Sl} {i : Nat} {l : List D} {a : D} (h : env[i]? = some (.val (.lst l))) (hl : l.length = 4) (hA : A env st = some (.ok a, st)) : e2 addM (eVar i) (eLst (lCons A lNil)) env st = some (.ok (.lst (l ++ [a])), st) := by
  have s4 : (5 : Nat) ≤ sizeLine := by decide
  simp [h, hA, addM, hl, s4]
theorem call2 {F : List Sl → M D} {f g : EM} {env : List Sl} {a c : D} {r : Option (Except Exc D × Pen)} (hf : f env st = some (.ok a, st)) (hg : g env st = some (.ok c, st)) (h : F [.val a, .val c] st = r) : eCall F (aVal f (aVal g aNil)) env st = r := by
  simp [hf, hg, h]
theorem call1 {F : List Sl → M D} {f : EM} {env : List Sl} {a : D} {r : Option (Except Exc D × Pen)} (hf : f env st = some (.ok a, st)) (h : F [.val a] st = r) : eCall F (aVal f aNil) env st = r := by
  simp [hf, h]
theorem callp {F : List Sl → M D} {f : EM} {env : List Sl} {i : Nat} {a : D} {r : Option (Except Exc D × Pen)} (hp : env[i]? = some .pen) (hf : f env st = some (.ok a, st)) (h : F [.pen, .val a] st = r) : eCall F (aPen i (aVal f aNil)) env st = r := by
  simp [hp, hf, h]
theorem callp0 {F : List Sl → M D} {env : List Sl} {i : Nat} {r : Option (Except Exc D × Pen)} (hp : env[i]? = some .pen) (h : F [.pen] st = r) : eCall F (aPen i aNil) env st = r := by
  simp [hp, h]
end
end Law
set_option linter.all false
set_option maxRecDepth 100000
namespace Law
open PySem PySem.Spec PyProof.Rows L2 DL
def U1 : SM := sAsg 3 (eCall m__law_pick (aPen 1 (aVal (eLst (lCons (eC .non) (lCons (eC (.int 5)) (lCons (eTup (lNil)) (lCons (eC (.str "only")) (lCons (eTup (lCons (eC (.str "only")) (lNil))) (lCons (eTup (lCons (eC (.str "only")) (lCons (eC (.int 0)) (lNil)))) (lCons (eTup (lCons (eC (.str "only")) (lCons (e1 negM (eC (.int 3))) (lNil)))) (lCons (eTup (lCons (eC (.str "but")) (lCons (eC (.bl true)) (lNil)))) (lCons (eTup (lCons (eC (.str "but")) (lCons (eC (.str "2")) (lNil)))) (lCons (eTup (lCons (eC (.str "none")) (lCons (eC (.int 2)) (lNil)))) (lCons (eTup (lCons (eC (.int 5)) (lCons (eC (.int 2)) (lNil)))) (lCons (eTup (lCons (eC (.str "only")) (lCons (eC (.int 2)) (lCons (eC (.int 3)) (lNil))))) (lCons (eC (.dct [])) (lCons (eTup (lCons (eC (.str "but")) (lCons (eC .non) (lNil)))) (lCons (eLst (lCons (eLst (lCons (eC (.str "only")) (lNil))) (lCons (eC (.int 2)) (lNil)))) (lNil))))))))))))))))) (aNil))))
def U2 : SM := sAsgT (eTup (lCons (eCall m__law_set (aPen 1 (aNil))) (lCons (eCall m__law_pick (aPen 1 (aVal (eLst (lCons (eC .non) (lCons (e1 negM (eC (.int 2))) (lCons (eC (.int 1)) (lCons (eC (.int 6)) (lCons (eC (.int 49)) (lCons (eC (.bl true)) (lCons (eC (.str "3")) (lCons (eTup (lCons (eC (.int 3)) (lNil))) (lCons (e2 addM (e2 powM (eC (.int 10)) (eC (.int 12))) (eC (.int 39))) (lCons (eC (.dct [])) (lNil)))))))))))) (aNil)))) (lNil)))) (gTp 2 (gsCons (gNm 4) (gsCons (gNm 5) (gsNil))))
def U3 : SM := sAsg 6 (eLst (lCons (eHeard hdT (eCall m_meet (aVal (eVar 3) (aVal (eVar 3) (aNil))))) (lCons (eHeard hdT (eCall m_meet (aVal (eVar 4) (aVal (eVar 3) (aNil))))) (lCons (eHeard hdT (eCall m_join (aVal (eVar 3) (aVal (eVar 4) (aNil))))) (lCons (eHeard hdT (eCall m_join (aVal (eVar 4) (aVal (eVar 3) (aNil))))) (lNil))))))
def U4 : SM := sAsg 6 (e2 addM (eVar 6) (eLst (lCons (eHeard hdT (eCall m_others (aVal (eVar 3) (aNil)))) (lNil))))
def U5 : SM := sIf (eB (e2 neM (eVar 6) (eLst (lCons (eTup (lCons (eC (.str "set")) (lCons (eC (.str "one")) (lNil)))) (lCons (eTup (lCons (eC (.str "set")) (lCons (eC (.str "other")) (lNil)))) (lCons (eTup (lCons (eC (.str "set")) (lCons (eC (.str "one")) (lNil)))) (lCons (eTup (lCons (eC (.str "set")) (lCons (eC (.str "other")) (lNil)))) (lCons (eTup (lCons (eC (.str "set")) (lCons (eC (.str "where")) (lNil)))) (lNil))))))))) (sRet (eC (.bl false))) (sNx)
def U6 : SM := sAsg 6 (eLst (lCons (eHeard hdT (eCall m_are_same (aVal (eVar 3) (aVal (eVar 3) (aNil))))) (lCons (eHeard hdT (eCall m_are_same (aVal (eVar 4) (aVal (eVar 3) (aNil))))) (lCons (eHeard hdT (eCall m_is_in (aVal (eVar 3) (aVal (eVar 5) (aNil))))) (lCons (eHeard hdT (eCall m_is_in (aVal (eVar 4) (aVal (eVar 5) (aNil))))) (lNil))))))
def U7 : SM := sAsg 6 (e2 addM (eVar 6) (eLst (lCons (eHeard hdT (eCall m_told_primes (aVal (eVar 3) (aNil)))) (lNil))))
def U8 : SM := sIf (eB (e2 neM (eVar 6) (eLst (lCons (eTup (lCons (eC (.str "set")) (lCons (eC (.str "one")) (lNil)))) (lCons (eTup (lCons (eC (.str "set")) (lCons (eC (.str "other")) (lNil)))) (lCons (eTup (lCons (eC (.str "set")) (lCons (eC (.str "where")) (lNil)))) (lCons (eTup (lCons (eC (.str "number")) (lCons (eC (.str "prime")) (lNil)))) (lCons (eTup (lCons (eC (.str "set")) (lCons (eC (.str "where")) (lNil)))) (lNil))))))))) (sRet (eC (.bl false))) (sNx)
def LB : SM := sSeq U1 ( sSeq U2 ( sSeq U3 ( sSeq U4 ( sSeq U5 ( sSeq U6 ( sSeq U7 (U8)))))))
def V0 : SM := sFor (iL (lCons (eC (.int 6)) (lNil))) (gNm 2) LB
def V1 : SM := sAsg 7 (eC (.int 999999999989))
def V2 (FT FI : List Sl → M D) : SM := sIf (bOr (eB (e2 neM (eCall FT (aVal (eTup (lCons (eC (.str "only")) (lCons (e2 mulM (eC (.int 4)) (eVar 7)) (lNil)))) (aNil))) (eTup (lCons (eC (.int 2)) (lCons (eVar 7) (lNil)))))) (bOr (eB (e2 notBM (eCall FI (aVal (eTup (lCons (eC (.str "but")) (lCons (e2 mulM (eVar 7) (eC (.int 6))) (lNil)))) (aVal (eVar 7) (aNil)))) (eC (.bl false)))) (eB (e2 notBM (eCall FI (aVal (eTup (lCons (eC (.str "but")) (lCons (e2 mulM (eVar 7) (eC (.int 6))) (lNil)))) (aVal (eC (.int 5)) (aNil)))) (eC (.bl true)))))) (sRet (eC (.bl false))) (sNx)
def V3 (FT FI : List Sl → M D) : SM := sRet (eAnd (e2 eqM (eCall FT (aVal (eTup (lCons (eC (.str "but")) (lCons (eC (.int 1)) (lNil)))) (aNil))) (eTup (lNil))) (eAnd (e2 eqM (eCall FT (aVal (eLst (lCons (eC (.str "only")) (lCons (e2 mulM (e2 mulM (e2 mulM (e2 mulM (e2 mulM (eC (.int 2)) (eC (.int 3))) (eC (.int 5))) (eC (.int 7))) (eC (.int 11))) (eC (.int 13))) (lNil)))) (aNil))) (eTup (lCons (eC (.int 2)) (lCons (eC (.int 3)) (lCons (eC (.int 5)) (lCons (eC (.int 7)) (lCons (eC (.int 11)) (lCons (eC (.int 13)) (lNil))))))))) (e2 isBM (eCall FI (aVal (eTup (lCons (eC (.str "only")) (lCons (eC (.int 1)) (lNil)))) (aVal (eC (.int 0)) (aNil)))) (eC (.bl false)))))
theorem b_law_eq : b_law = sSeq V0 (sSeq V1 (sSeq (V2 m_told_primes m_is_in) (V3 m_told_primes m_is_in))) := rfl
def badsE : LM := lCons (eC .non) (lCons (eC (.int 5)) (lCons (eTup (lNil)) (lCons (eC (.str "only")) (lCons (eTup (lCons (eC (.str "only")) (lNil))) (lCons (eTup (lCons (eC (.str "only")) (lCons (eC (.int 0)) (lNil)))) (lCons (eTup (lCons (eC (.str "only")) (lCons (e1 negM (eC (.int 3))) (lNil)))) (lCons (eTup (lCons (eC (.str "but")) (lCons (eC (.bl true)) (lNil)))) (lCons (eTup (lCons (eC (.str "but")) (lCons (eC (.str "2")) (lNil)))) (lCons (eTup (lCons (eC (.str "none")) (lCons (eC (.int 2)) (lNil)))) (lCons (eTup (lCons (eC (.int 5)) (lCons (eC (.int 2)) (lNil)))) (lCons (eTup (lCons (eC (.str "only")) (lCons (eC (.int 2)) (lCons (eC (.int 3)) (lNil))))) (lCons (eC (.dct [])) (lCons (eTup (lCons (eC (.str "but")) (lCons (eC .non) (lNil)))) (lCons (eLst (lCons (eLst (lCons (eC (.str "only")) (lNil))) (lCons (eC (.int 2)) (lNil)))) (lNil)))))))))))))))
theorem badsE_ok (env : List Sl) (st : Pen) : eLst badsE env st = some (.ok (.lst bads), st) := by kernel_rfl
def oddsE : LM := lCons (eC .non) (lCons (e1 negM (eC (.int 2))) (lCons (eC (.int 1)) (lCons (eC (.int 6)) (lCons (eC (.int 49)) (lCons (eC (.bl true)) (lCons (eC (.str "3")) (lCons (eTup (lCons (eC (.int 3)) (lNil))) (lCons (e2 addM (e2 powM (eC (.int 10)) (eC (.int 12))) (eC (.int 39))) (lCons (eC (.dct [])) (lNil))))))))))
theorem oddsE_ok (env : List Sl) (st : Pen) : eLst oddsE env st = some (.ok (.lst odds), st) := by kernel_rfl
theorem U1_eq : U1 = sAsg 3 (eCall m__law_pick (aPen 1 (aVal (eLst badsE) aNil))) := rfl
theorem U2_eq : U2 = sAsgT (eTup (lCons (eCall m__law_set (aPen 1 aNil)) (lCons (eCall m__law_pick (aPen 1 (aVal (eLst oddsE) aNil))) lNil))) (gTp 2 (gsCons (gNm 4) (gsCons (gNm 5) gsNil))) := rfl
section
variable {t b f o h g : Sl} {st : Pen}
theorem u1_ok {n : Nat} (pg : PenGood st n) (hn : n ≤ 1000000) : ∃ d st', d ∈ bads ∧ U1 [.no, .pen, t, b, f, o, h, g] st = some (.ok .nx, [.no, .pen, t, .val d, f, o, h, g], st') ∧ PenGood st' (n + 1) := by
  obtain ⟨d, st', hd, e, g'⟩ := pick_ok pg (by omega) bads (by decide) (by decide)
  refine ⟨d, st', hd, ?_, g'⟩
  rw [U1_eq]
  exact asg_nx (callp rfl (badsE_ok _ _) e)
theorem asgt_two {A B : EM} {env : List Sl} {a c : D} {st1 st2 : Pen} {i j : Nat} (hA : A env st = some (.ok a, st1)) (hB : B env st1 = some (.ok c, st2)) : sAsgT (eTup (lCons A (lCons B lNil))) (gTp 2 (gsCons (gNm i) (gsCons (gNm j) gsNil))) env st = some (.ok .nx, (env.set i (.val a)).set j (.val c), st2) := by
  simp [hA, hB]
theorem u2_ok {n : Nat} (pg : PenGood st n) (hn : n ≤ 1000000) : ∃ c m d st', 1 ≤ m ∧ d ∈ odds ∧ U2 [.no, .pen, t, b, f, o, h, g] st = some (.ok .nx, [.no, .pen, t, b, .val (dS c m), .val d, h, g], st') ∧ PenGood st' (n + 6) := by
  obtain ⟨c, m, st1, hm, e1, g1⟩ := set_ok pg (by omega)
  obtain ⟨d, st', hd, e, g'⟩ := pick_ok g1 (by omega) odds (by decide) (by decide)
  refine ⟨c, m, d, st', hm, hd, ?_, g'⟩
  rw [U2_eq]
  exact asgt_two (callp0 rfl e1) (callp rfl (oddsE_ok _ _) e)
variable {d x : D} {c : Bool} {m : Nat}
def r1 : List D := [.tup [.str "set", .str "one"], .tup [.str "set", .str "other"], .tup [.str "set", .str "one"], .tup [.str "set", .str "other"]]
def r2 : List D := [.tup [.str "set", .str "one"], .tup [.str "set", .str "other"], .tup [.str "set", .str "where"], .tup [.str "number", .str "prime"]]
theorem u3_ok (hd : d ∈ bads) (hm : 1 ≤ m) : U3 [.no, .pen, t, .val d, .val (dS c m), o, h, g] st = some (.ok .nx, [.no, .pen, t, .val d, .val (dS c m), o, .val (.lst r1), g], st) :=
  asg_nx (lst4 (heard_err (call2 rfl rfl (meet_bb hd)) (hd_set _)) (heard_err (call2 rfl rfl (meet_fb hm hd)) (hd_set _)) (heard_err (call2 rfl rfl (join_bf hd)) (hd_set _)) (heard_err (call2 rfl rfl (join_fb hm hd)) (hd_set _)))
theorem u4_ok (hd : d ∈ bads) : U4 [.no, .pen, t, .val d, f, o, .val (.lst r1), g] st = some (.ok .nx, [.no, .pen, t, .val d, f, o, .val (.lst (r1 ++ [.tup [.str "set", .str "where"]])), g], st) :=
  asg_nx (cat1 rfl rfl (heard_err (call1 rfl (others_b hd)) (hd_set _)))
theorem u5_ok : U5 [.no, .pen, t, b, f, o, .val (.lst (r1 ++ [.tup [.str "set", .str "where"]])), g] st = some (.ok .nx, [.no, .pen, t, b, f, o, .val (.lst (r1 ++ [.tup [.str "set", .str "where"]])), g], st) := by kernel_rfl
theorem u6_ok (hd : d ∈ bads) (hx : x ∈ odds) (hm : 1 ≤ m) : U6 [.no, .pen, t, .val d, .val (dS c m), .val x, h, g] st = some (.ok .nx, [.no, .pen, t, .val d, .val (dS c m), .val x, .val (.lst r2), g], st) :=
  asg_nx (lst4 (heard_err (call2 rfl rfl (same_bb hd)) (hd_set _)) (heard_err (call2 rfl rfl (same_fb hm hd)) (hd_set _)) (heard_err (call2 rfl rfl (is_in_b hd)) (hd_set _)) (heard_err (call2 rfl rfl (is_in_f hm hx)) hd_num))
theorem u7_ok (hd : d ∈ bads) : U7 [.no, .pen, t, .val d, f, o, .val (.lst r2), g] st = some (.ok .nx, [.no, .pen, t, .val d, f, o, .val (.lst (r2 ++ [.tup [.str "set", .str "where"]])), g], st) :=
  asg_nx (cat1 rfl rfl (heard_err (call1 rfl (told_b hd)) (hd_set _)))
theorem u8_ok : U8 [.no, .pen, t, b, f, o, .val (.lst (r2 ++ [.tup [.str "set", .str "where"]])), g] st = some (.ok .nx, [.no, .pen, t, b, f, o, .val (.lst (r2 ++ [.tup [.str "set", .str "where"]])), g], st) := by kernel_rfl
theorem lb_ok {n : Nat} (pg : PenGood st n) (hn : n ≤ 900000) : ∃ b' f' o' h' st', LB [.no, .pen, t, b, f, o, h, g] st = some (.ok .nx, [.no, .pen, t, b', f', o', h', g], st') ∧ PenGood st' (n + 7) := by
  obtain ⟨d, st1, hd, e1, g1⟩ := u1_ok (t := t) (b := b) (f := f) (o := o) (h := h) (g := g) pg (by omega)
  obtain ⟨c, m, x, st2, hm, hx, e2, g2⟩ := u2_ok (t := t) (b := .val d) (f := f) (o := o) (h := h) (g := g) g1 (by omega)
  refine ⟨.val d, .val (dS c m), .val x, .val (.lst (r2 ++ [.tup [.str "set", .str "where"]])), st2, ?_, g2⟩
  unfold LB
  rw [sSeq_nx e1, sSeq_nx e2, sSeq_nx (u3_ok hd hm), sSeq_nx (u4_ok hd), sSeq_nx u5_ok, sSeq_nx (u6_ok hd hx hm), sSeq_nx (u7_ok hd)]
  exact u8_ok
theorem v0_ok {n : Nat} (pg : PenGood st n) (hn : n ≤ 800000) : ∃ t' b' f' o' h' st', V0 [.no, .pen, t, b, f, o, h, g] st = some (.ok .nx, [.no, .pen, t', b', f', o', h', g], st') ∧ PenGood st' (n + 42) := by
  have hL := forD_inv (F := gNm 2) (u := LB) (fun k env st => ∃ t b f o h, env = [.no, .pen, t, b, f, o, h, g] ∧ PenGood st (n + 7 * k)) (rangeL 0 6) 0 [.no, .pen, t, b, f, o, h, g] st ⟨t, b, f, o, h, rfl, pg⟩ (by
    rintro d _ j _ hj env st ⟨t, b, f, o, h, rfl, gg⟩
    have hj : j < 6 := by simpa [rangeL] using hj
    obtain ⟨b', f', o', h', st', e, g'⟩ := lb_ok (t := .val d) (b := b) (f := f) (o := o) (h := h) (g := g) gg (by omega)
    exact ⟨_, _, st', rfl, e, _, _, _, _, _, rfl, by rw [show n + 7 * (j + 1) = n + 7 * j + 7 by omega]; exact g'⟩)
  obtain ⟨e, s, h1, t', b', f', o', h', rfl, g'⟩ := hL
  refine ⟨t', b', f', o', h', s, ?_, g'.mono (by simp [rangeL])⟩
  have hr6 : ∀ r : Int, 0 ≤ r → r < 100 → iRange [.int r] = pureM (rangeL 0 r.toNat) := fun r h1 h2 => if_pos (by omega)
  have hr : iRange [.int 6] = pureM (rangeL 0 6) := hr6 6 (by decide) (by decide)
  unfold V0
  rw [sFor_ap, liftM_ap]
  simp only [iL_ap, lCons_ap, lNil_ap, bindM_ap, eC_ap, pureM, hr]
  exact h1
end
end Law
set_option linter.all false
set_option maxRecDepth 1000000
namespace Law
open PySem PySem.Spec PyProof.Rows L2 DL
/-! ### the parts of a number by division -/
def IWc : List Sl → M Bool := eB (e2 eqM (e2 modM (eVar 0) (eVar 2)) (eC (.int 0)))
def IWu : SM := sPar 0 3 (lCons (e2 fdivM (eVar 0) (eVar 2)) (lCons (e2 addM (eVar 3) (eC (.int 1))) (lNil)))
def PC : List Sl → M Bool := bAnd (eB (e2 ltM (eVar 2) (eC c_SMALL))) (eB (e2 leM (e2 mulM (eVar 2) (eVar 2)) (eVar 0)))
def PU3 : SM := sIf (eB (e2 gtM (eVar 3) (eC (.int 0)))) (sApp 1 (eTup (lCons (eVar 2) (lCons (eVar 3) (lNil))))) (sNx)
def PU4 : SM := sAug 2 iaddM (eIf (eB (e2 eqM (eVar 2) (eC (.int 2)))) (eC (.int 1)) (eC (.int 2)))
def PU : SM := sSeq (sAsg 3 (eC (.int 0))) (sSeq (sWhile (fun _ => 100000) IWc IWu) (sSeq PU3 PU4))
theorem parts_eq : b_parts_found = sSeq (sParL 1 2 (lNil) (eC (.int 2))) (sSeq (sWhile (fuelV 0) PC PU) (sFrz 1 (sRet (eTup (lCons (eVar 1) (lCons (eVar 0) (lNil))))))) := rfl
section
variable {N h : Nat} {l : List D} {m : Sl} {st : Pen}
theorem pc_true (h1 : h < 100000) (h2 : h * h ≤ N) : PC [.val (.int N), .own l, .val (.int h), m] st = some (.ok true, st) := by
  have mk : mulOk h h = true := by
    unfold mulOk
    rw [Bool.or_eq_true]
    right
    simp
    omega
  have e1 : (h : Int) < 100000 := by omega
  have e2 : (h : Int) * (h : Int) ≤ (N : Int) := by exact_mod_cast h2
  simp [PC, mk, e2, e1]
theorem pc_false (h1 : ¬ h < 100000) : PC [.val (.int N), .own l, .val (.int h), m] st = some (.ok false, st) := by
  have e1 : ¬ (h : Int) < 100000 := by omega
  simp [PC, e1]
theorem iw_false (h0 : 0 < h) (h1 : N % h ≠ 0) : IWc [.val (.int N), .own l, .val (.int h), m] st = some (.ok false, st) := by
  have e0 : (0 : Int) < h := by omega
  have e1 : (((N : Int) % (h : Int)) == 0) = false := by
    rw [beq_eq_false_iff_ne]
    intro z
    exact h1 (by exact_mod_cast z)
  simp [IWc, h0, e1]
theorem pu_no (h3 : 3 ≤ h) (h1 : N % h ≠ 0) : PU [.val (.int N), .own l, .val (.int h), m] st = some (.ok .nx, [.val (.int N), .own l, .val (.int ((h + 2 : Nat) : Int)), .val (.int 0)], st) := by
  unfold PU
  rw [sSeq_nx (e := [.val (.int N), .own l, .val (.int h), .val (.int 0)]) (s := st) rfl]
  rw [sSeq_nx (e := [.val (.int N), .own l, .val (.int h), .val (.int 0)]) (s := st) (by
    rw [sWhile_ap]
    exact whileD_false (n := 99999) (iw_false (by omega) h1))]
  rw [sSeq_nx (e := [.val (.int N), .own l, .val (.int h), .val (.int 0)]) (s := st) (by simp [PU3])]
  have e2 : ((h : Int) == 2) = false := by
    rw [beq_eq_false_iff_ne]
    omega
  simp [PU4, e2]
theorem pf_loop (N : Nat) (l : List D) (st : Pen) (fuel : Nat) : ∀ (k h : Nat) (m : Sl), 3 ≤ h → (∀ j < k, N % (h + 2 * j) ≠ 0 ∧ h + 2 * j < 100000 ∧ (h + 2 * j) * (h + 2 * j) ≤ N) →
    ∃ m', whileD PC PU (fuel + k) [.val (.int N), .own l, .val (.int h), m] st = whileD PC PU fuel [.val (.int N), .own l, .val (.int ((h + 2 * k : Nat) : Int)), m'] st
  | 0, h, m, _, _ => ⟨m, rfl⟩
  | k + 1, h, m, h3, hj => by
    obtain ⟨a1, a2, a3⟩ := hj 0 (by omega)
    simp only [Nat.mul_zero, Nat.add_zero] at a1 a2 a3
    obtain ⟨m', e⟩ := pf_loop N l st fuel k (h + 2) (.val (.int 0)) (by omega) (fun j hk => by
      have := hj (j + 1) (by omega)
      rw [show h + 2 + 2 * j = h + 2 * (j + 1) by omega]
      exact this)
    refine ⟨m', ?_⟩
    rw [show fuel + (k + 1) = (fuel + k) + 1 by omega, whileD_true (pc_true a2 a3) (pu_no h3 a1), e, show h + 2 + 2 * k = h + 2 * (k + 1) by omega]
end
/-- none of k odd ones from h on divides N -/
def chk (N : Nat) : Nat → Nat → Bool
  | 0, _ => true
  | k + 1, h => (N % h != 0) && chk N k (h + 2)
theorem chk_spec {N : Nat} : ∀ {k h : Nat}, chk N k h = true → ∀ j < k, N % (h + 2 * j) ≠ 0
  | 0, _, _, j, hj => absurd hj (Nat.not_lt_zero j)
  | k + 1, h, c, j, hj => by
    unfold chk at c
    rw [Bool.and_eq_true] at c
    cases j with
    | zero => simpa using c.1
    | succ j =>
      have := chk_spec c.2 j (by omega)
      rwa [show h + 2 * (j + 1) = h + 2 + 2 * j by omega]
abbrev great : Nat := 999999999989
theorem great_blocks : ∀ i < 50, chk 999999999989 1000 (3 + 2000 * i) = true := by decide +kernel
theorem great_chk (j : Nat) (hj : j < 49999) : 999999999989 % (3 + 2 * j) ≠ 0 := by
  have h := chk_spec (great_blocks (j / 1000) (by omega)) (j % 1000) (Nat.mod_lt _ (by omega))
  rwa [show 3 + 2000 * (j / 1000) + 2 * (j % 1000) = 3 + 2 * j by omega] at h
end Law
set_option linter.all false
set_option maxRecDepth 1000000
namespace Law
open PySem PySem.Spec PyProof.Rows L2 DL
section
variable {st : Pen}
theorem pu_first : PU [.val (.int 3999999999956), .own [], .val (.int 2), .no] st = some (.ok .nx, [.val (.int 999999999989), .own [.tup [.int 2, .int 2]], .val (.int 3), .val (.int 2)], st) := by kernel_rfl
theorem pc_first : PC [.val (.int 3999999999956), .own [], .val (.int 2), .no] st = some (.ok true, st) := pc_true (N := 3999999999956) (h := 2) (by decide) (by decide)
theorem great_while : ∃ m', whileD PC PU (3999999999956 + 1) [.val (.int 3999999999956), .own [], .val (.int 2), .no] st = some (.ok .nx, [.val (.int 999999999989), .own [.tup [.int 2, .int 2]], .val (.int 100001), m'], st) := by
  rw [whileD_true pc_first pu_first]
  obtain ⟨m', e⟩ := pf_loop 999999999989 [.tup [.int 2, .int 2]] st 3999999949957 49999 3 (.val (.int 2)) (by omega) (fun j hj => ⟨great_chk j hj, by omega, by
    have h1 : 3 + 2 * j ≤ 99999 := by omega
    exact Nat.le_trans (Nat.mul_le_mul h1 h1) (by decide)⟩)
  refine ⟨m', ?_⟩
  have e' : whileD PC PU 3999999999956 [.val (.int ((999999999989 : Nat) : Int)), .own [.tup [.int 2, .int 2]], .val (.int ((3 : Nat) : Int)), .val (.int 2)] st = _ := e
  refine e'.trans ?_
  exact whileD_false (n := 3999999949956) (pc_false (N := 999999999989) (h := 100001) (by decide))
theorem great_parts : m_parts_found [.val (.int 3999999999956)] st = some (.ok (.tup [.lst [.tup [.int 2, .int 2]], .int 999999999989]), st) := by
  obtain ⟨m', e⟩ := great_while (st := st)
  refine argN_run rfl (e := [.val (.int 999999999989), .val (.lst [.tup [.int 2, .int 2]]), .val (.int 100001), m']) ?_
  show b_parts_found [.val (.int 3999999999956), .no, .no, .no] st = _
  rw [parts_eq]
  rw [sSeq_nx (e := [.val (.int 3999999999956), .own [], .val (.int 2), .no]) (s := st) rfl]
  rw [sSeq_nx (e := [.val (.int 999999999989), .own [.tup [.int 2, .int 2]], .val (.int 100001), m']) (s := st) (by
    rw [sWhile_ap]
    have hf : fuelV 0 [.val (.int 3999999999956), .own [], .val (.int 2), .no] = 3999999999956 + 1 := rfl
    rw [hf]
    exact e)]
  rfl
theorem stands_great : ∀ p ∈ [2, 3, 5, 7, 11, 13, 17, 19, 23, 29, 31, 37, 41], m_stands [.val (.int 999999999989), .val (.int p)] st = some (.ok (.bl true), st) := by
  repeat' (first | exact List.forall_mem_nil _ | refine List.forall_mem_cons.mpr ⟨by kernel_rfl, ?_⟩)
end
end Law
set_option linter.all false
set_option maxRecDepth 1000000
namespace Law
open PySem PySem.Spec PyProof.Rows L2 DL
section
variable {st : Pen}
theorem prime_great : m_prime [.val (.int 999999999989)] st = some (.ok (.bl true), st) := by kernel_rfl
theorem is_prime_great : m_is_prime [.val (.int 999999999989)] st = some (.ok (.bl true), st) := by kernel_rfl
theorem in_great : m_is_in [.val (.tup [.str "but", .int 5999999999934]), .val (.int 999999999989)] st = some (.ok (.bl false), st) := by kernel_rfl
theorem in_five : m_is_in [.val (.tup [.str "but", .int 5999999999934]), .val (.int 5)] st = some (.ok (.bl true), st) := by kernel_rfl
theorem in_zero : m_is_in [.val (.tup [.str "only", .int 1]), .val (.int 0)] st = some (.ok (.bl false), st) := by kernel_rfl
theorem told_one : m_told_primes [.val (.tup [.str "but", .int 1])] st = some (.ok (.tup []), st) := by kernel_rfl
theorem told_six : m_told_primes [.val (.lst [.str "only", .int 30030])] st = some (.ok (.tup [.int 2, .int 3, .int 5, .int 7, .int 11, .int 13]), st) := by kernel_rfl
def ptB (FP : List Sl → M D) (FQ : List Sl → M D) : SM := sSeq (sExpr (eCall (fun as => m_need_whole (as ++ ([.non] : List D).map .val)) (aVal (eC (.str "number")) (aVal (eVar 0) (aVal (eC (.int 1)) (aNil)))))) (sSeq (sAsgT (eCall FP (aVal (eVar 0) (aNil))) (gTp 2 (gsCons (gNm 1) (gsCons (gNm 2) (gsNil))))) (sSeq (sIf (eB (e2 eqM (eVar 2) (eC (.int 1)))) (sRet (eL tupleM (lCons (eVar 1) (lNil)))) (sNx)) (sSeq (sIf (bOr (eB (e2 geM (eVar 2) (eC c_MOST))) (bNot (eB (eCall FQ (aVal (eVar 2) (aNil)))))) (sNo) (sNx)) (sRet (eTup (lStar (eVar 1) (lCons (eTup (lCons (eVar 2) (lCons (eC (.int 1)) (lNil)))) (lNil))))))))
theorem parted_gen {FP FQ : List Sl → M D} (h1 : FP [.val (.int 3999999999956)] st = some (.ok (.tup [.lst [.tup [.int 2, .int 2]], .int 999999999989]), st)) (h2 : FQ [.val (.int 999999999989)] st = some (.ok (.bl true), st)) :
    argN 1 (runF 3 (ptB FP FQ)) [.val (.int 3999999999956)] st = some (.ok (.tup [.tup [.int 2, .int 2], .tup [.int 999999999989, .int 1]]), st) := by
  have hw : m_need_whole [.val (.str "number"), .val (.int 3999999999956), .val (.int 1), .val .non] st = some (.ok (.int 3999999999956), st) := by kernel_rfl
  simp [ptB, h1, h2, hw]
theorem parted_great : m_parted [.val (.int 3999999999956)] st = some (.ok (.tup [.tup [.int 2, .int 2], .tup [.int 999999999989, .int 1]]), st) := parted_gen (FP := m_parts_found) (FQ := m_prime) great_parts prime_great
def prB (FP : List Sl → M D) : SM := sRet (eL tupleM (lCons (eLc [1, 2] (iSeq (eCall FP (aVal (eVar 0) (aNil)))) (gTp 2 (gsCons (gNm 1) (gsCons (gNm 2) (gsNil)))) (fun _ => pureM true) (eVar 1)) (lNil)))
theorem primes_gen {FP : List Sl → M D} (h : FP [.val (.int 3999999999956)] st = some (.ok (.tup [.tup [.int 2, .int 2], .tup [.int 999999999989, .int 1]]), st)) : argN 1 (runF 3 (prB FP)) [.val (.int 3999999999956)] st = some (.ok (.tup [.int 2, .int 999999999989]), st) := by
  refine argN_run rfl (e := [.val (.int 3999999999956), .no, .no]) ?_
  show prB FP [.val (.int 3999999999956), .no, .no] st = _
  have s2 : (2 : Nat) ≤ sizeLine := by decide
  simp [prB, h, s2, lcD, wipeE]
theorem primes_great : m_primes_of [.val (.int 3999999999956)] st = some (.ok (.tup [.int 2, .int 999999999989]), st) := primes_gen (FP := m_parted) parted_great
theorem told_gen {FP : List Sl → M D} (h : FP [.val (.int 3999999999956)] st = some (.ok (.tup [.int 2, .int 999999999989]), st)) : argN 1 (runF 1 (tolB FP)) [.val (dS true 3999999999956)] st = some (.ok (.tup [.int 2, .int 999999999989]), st) := by
  have hw := need_where_t (b := true) (n := 3999999999956) (by decide) (.str "where") st
  simp [tolB, hw]
  simp [dS, h]
theorem told_great : m_told_primes [.val (.tup [.str "only", .int 3999999999956])] st = some (.ok (.tup [.int 2, .int 999999999989]), st) := told_gen (FP := m_primes_of) primes_great
/-! ### the end of the law -/
variable {t b f o h g : Sl}
theorem v1_ok : V1 [.no, .pen, t, b, f, o, h, g] st = some (.ok .nx, [.no, .pen, t, b, f, o, h, .val (.int 999999999989)], st) := rfl
theorem neself {d : D} (hf : d.fit = true) : neM d d = pureM (.bl false) := neM_self hf
theorem v2_gen {FT FI : List Sl → M D} (h1 : FT [.val (.tup [.str "only", .int 3999999999956])] st = some (.ok (.tup [.int 2, .int 999999999989]), st)) (h2 : FI [.val (.tup [.str "but", .int 5999999999934]), .val (.int 999999999989)] st = some (.ok (.bl false), st)) (h3 : FI [.val (.tup [.str "but", .int 5999999999934]), .val (.int 5)] st = some (.ok (.bl true), st)) :
    V2 FT FI [.no, .pen, t, b, f, o, h, .val (.int 999999999989)] st = some (.ok .nx, [.no, .pen, t, b, f, o, h, .val (.int 999999999989)], st) := by
  have mk1 : mulOk 4 999999999989 = true := by decide +kernel
  have mk2 : mulOk 999999999989 6 = true := by decide +kernel
  have ne : neM (.tup [.int 2, .int 999999999989]) (.tup [.int 2, .int 999999999989]) = pureM (.bl false) := neM_self (by decide +kernel)
  simp [V2, mk1, mk2, h1, h2, h3, ne, notBM, blM2]
theorem v3_gen {FT FI : List Sl → M D} (h1 : FT [.val (.tup [.str "but", .int 1])] st = some (.ok (.tup []), st)) (h2 : FT [.val (.lst [.str "only", .int 30030])] st = some (.ok (.tup [.int 2, .int 3, .int 5, .int 7, .int 11, .int 13]), st)) (h3 : FI [.val (.tup [.str "only", .int 1]), .val (.int 0)] st = some (.ok (.bl false), st)) :
    V3 FT FI [.no, .pen, t, b, f, o, h, g] st = some (.ok (.ret (.bl true)), [.no, .pen, t, b, f, o, h, g], st) := by
  have mk1 : mulOk 2 3 = true := by decide +kernel
  have mk2 : mulOk 6 5 = true := by decide +kernel
  have mk3 : mulOk 30 7 = true := by decide +kernel
  have mk4 : mulOk 210 11 = true := by decide +kernel
  have mk5 : mulOk 2310 13 = true := by decide +kernel
  have e0 : eqM (.tup []) (.tup []) = pureM (.bl true) := eqM_self (by decide +kernel)
  have e6 : eqM (.tup [.int 2, .int 3, .int 5, .int 7, .int 11, .int 13]) (.tup [.int 2, .int 3, .int 5, .int 7, .int 11, .int 13]) = pureM (.bl true) := eqM_self (by decide +kernel)
  have s6 : (6 : Nat) ≤ sizeLine := by decide
  simp [V3, mk1, mk2, mk3, mk4, mk5, h1, h2, h3, e0, e6, s6, isBM, blM2]
end
theorem law_true (ns : List Int) (hl : ns.length ≤ 63) : ∃ env' st', b_law ([.no, .pen] ++ List.replicate (8 - 2) .no) ⟨ns, 0, 0⟩ = some (.ok (.ret (.bl true)), env', st') := by
  have g0 : PenGood ⟨ns, 0, 0⟩ 0 := ⟨Int.le_refl 0, Int.le_refl 0, Int.le_refl 0⟩
  obtain ⟨t, b, f, o, h, st, e, _⟩ := v0_ok (t := .no) (b := .no) (f := .no) (o := .no) (h := .no) (g := .no) g0 (by omega)
  refine ⟨[.no, .pen, t, b, f, o, h, .val (.int 999999999989)], st, ?_⟩
  show b_law [.no, .pen, .no, .no, .no, .no, .no, .no] _ = _
  rw [b_law_eq, sSeq_nx e, sSeq_nx v1_ok, sSeq_nx (v2_gen told_great in_great in_five)]
  exact v3_gen told_one told_six in_zero
end Law
set_option Elab.async false
set_option linter.all false
set_option maxRecDepth 100000
set_option maxHeartbeats 4000000
namespace Law
open PySem PySem.Spec PyProof.Rows L2 DL
def topS (i : Nat) : Stmt := PySem.Challenge.pw_closedfields_k29_sets_refused.main.body.getD i (.Pass ⟨0, 0, 0, 0⟩)
abbrev s__law_draw : Stmt := topS 59
theorem sc__law_draw : FnScope ["pen", "many", "rest", "at", "cell", "mixed"] ["pen", "many"] (defScope s__law_draw) := ⟨rfl, rfl, rfl, by decide +kernel, rfl, by decide +kernel, by decide +kernel⟩
abbrev s__law_pick : Stmt := topS 60
theorem sc__law_pick : FnScope ["pen", "some"] ["pen", "some"] (defScope s__law_pick) := ⟨rfl, rfl, rfl, by decide +kernel, rfl, by decide +kernel, by decide +kernel⟩
abbrev s__law_set : Stmt := topS 62
theorem sc__law_set : FnScope ["pen", "number", "turn"] ["pen"] (defScope s__law_set) := ⟨rfl, rfl, rfl, by decide +kernel, rfl, by decide +kernel, by decide +kernel⟩
abbrev s_is_whole : Stmt := topS 20
theorem sc_is_whole : FnScope ["value"] ["value"] (defScope s_is_whole) := ⟨rfl, rfl, rfl, by decide +kernel, rfl, by decide +kernel, by decide +kernel⟩
abbrev s_is_within : Stmt := topS 21
theorem sc_is_within : FnScope ["value", "least", "most"] ["value", "least", "most"] (defScope s_is_within) := ⟨rfl, rfl, rfl, by decide +kernel, rfl, by decide +kernel, by decide +kernel⟩
abbrev s_is_listed : Stmt := topS 22
theorem sc_is_listed : FnScope ["value"] ["value"] (defScope s_is_listed) := ⟨rfl, rfl, rfl, by decide +kernel, rfl, by decide +kernel, by decide +kernel⟩
abbrev s_is_where : Stmt := topS 26
theorem sc_is_where : FnScope ["value"] ["value"] (defScope s_is_where) := ⟨rfl, rfl, rfl, by decide +kernel, rfl, by decide +kernel, by decide +kernel⟩
abbrev s_need_where : Stmt := topS 27
theorem sc_need_where : FnScope ["value", "part"] ["value", "part"] (defScope s_need_where) := ⟨rfl, rfl, rfl, by decide +kernel, rfl, by decide +kernel, by decide +kernel⟩
abbrev s_other_word : Stmt := topS 43
theorem sc_other_word : FnScope ["word"] ["word"] (defScope s_other_word) := ⟨rfl, rfl, rfl, by decide +kernel, rfl, by decide +kernel, by decide +kernel⟩
abbrev s_turned_set : Stmt := topS 45
theorem sc_turned_set : FnScope ["where"] ["where"] (defScope s_turned_set) := ⟨rfl, rfl, rfl, by decide +kernel, rfl, by decide +kernel, by decide +kernel⟩
abbrev s_without_primes : Stmt := topS 44
theorem sc_without_primes : FnScope ["number", "other", "found"] ["number", "other"] (defScope s_without_primes) := ⟨rfl, rfl, rfl, by decide +kernel, rfl, by decide +kernel, by decide +kernel⟩
abbrev s_met : Stmt := topS 46
theorem sc_met : FnScope ["one", "other", "few", "many"] ["one", "other"] (defScope s_met) := ⟨rfl, rfl, rfl, by decide +kernel, rfl, by decide +kernel, by decide +kernel⟩
abbrev s_joined : Stmt := topS 47
theorem sc_joined : FnScope ["one", "other"] ["one", "other"] (defScope s_joined) := ⟨rfl, rfl, rfl, by decide +kernel, rfl, by decide +kernel, by decide +kernel⟩
abbrev s_join : Stmt := topS 53
theorem sc_join : FnScope ["one", "other"] ["one", "other"] (defScope s_join) := ⟨rfl, rfl, rfl, by decide +kernel, rfl, by decide +kernel, by decide +kernel⟩
abbrev s_meet : Stmt := topS 52
theorem sc_meet : FnScope ["one", "other"] ["one", "other"] (defScope s_meet) := ⟨rfl, rfl, rfl, by decide +kernel, rfl, by decide +kernel, by decide +kernel⟩
abbrev s_others : Stmt := topS 54
theorem sc_others : FnScope ["where"] ["where"] (defScope s_others) := ⟨rfl, rfl, rfl, by decide +kernel, rfl, by decide +kernel, by decide +kernel⟩
abbrev s_has : Stmt := topS 49
theorem sc_has : FnScope ["where", "prime"] ["where", "prime"] (defScope s_has) := ⟨rfl, rfl, rfl, by decide +kernel, rfl, by decide +kernel, by decide +kernel⟩
abbrev s_power_below : Stmt := topS 32
theorem sc_power_below : FnScope ["base", "power", "number", "found", "here"] ["base", "power", "number"] (defScope s_power_below) := ⟨rfl, rfl, rfl, by decide +kernel, rfl, by decide +kernel, by decide +kernel⟩
abbrev s_stands : Stmt := topS 33
theorem sc_stands : FnScope ["number", "base", "odd", "twos", "here", "turn"] ["number", "base"] (defScope s_stands) := ⟨rfl, rfl, rfl, by decide +kernel, rfl, by decide +kernel, by decide +kernel⟩
abbrev s_prime : Stmt := topS 34
theorem sc_prime : FnScope ["number", "base"] ["number"] (defScope s_prime) := ⟨rfl, rfl, rfl, by decide +kernel, rfl, by decide +kernel, by decide +kernel⟩
abbrev s_is_prime : Stmt := topS 36
theorem sc_is_prime : FnScope ["number"] ["number"] (defScope s_is_prime) := ⟨rfl, rfl, rfl, by decide +kernel, rfl, by decide +kernel, by decide +kernel⟩
abbrev s_need_prime : Stmt := topS 50
theorem sc_need_prime : FnScope ["value", "part"] ["value", "part"] (defScope s_need_prime) := ⟨rfl, rfl, rfl, by decide +kernel, rfl, by decide +kernel, by decide +kernel⟩
abbrev s_is_in : Stmt := topS 51
theorem sc_is_in : FnScope ["where", "prime", "told"] ["where", "prime"] (defScope s_is_in) := ⟨rfl, rfl, rfl, by decide +kernel, rfl, by decide +kernel, by decide +kernel⟩
abbrev s_is_same : Stmt := topS 48
theorem sc_is_same : FnScope ["one", "other"] ["one", "other"] (defScope s_is_same) := ⟨rfl, rfl, rfl, by decide +kernel, rfl, by decide +kernel, by decide +kernel⟩
abbrev s_are_same : Stmt := topS 55
theorem sc_are_same : FnScope ["one", "other"] ["one", "other"] (defScope s_are_same) := ⟨rfl, rfl, rfl, by decide +kernel, rfl, by decide +kernel, by decide +kernel⟩
abbrev s_need_whole : Stmt := topS 23
theorem sc_need_whole : FnScope ["part", "value", "least", "most"] ["part", "value", "least", "most"] (defScope s_need_whole) := ⟨rfl, rfl, rfl, by decide +kernel, rfl, by decide +kernel, by decide +kernel⟩
abbrev s_parts_found : Stmt := topS 35
theorem sc_parts_found : FnScope ["number", "found", "here", "many"] ["number"] (defScope s_parts_found) := ⟨rfl, rfl, rfl, by decide +kernel, rfl, by decide +kernel, by decide +kernel⟩
abbrev s_parted : Stmt := topS 37
theorem sc_parted : FnScope ["number", "found", "left"] ["number"] (defScope s_parted) := ⟨rfl, rfl, rfl, by decide +kernel, rfl, by decide +kernel, by decide +kernel⟩
abbrev s_primes_of : Stmt := topS 38
theorem sc_primes_of : FnScope ["number", "one", "many"] ["number"] (defScope s_primes_of) := ⟨rfl, rfl, rfl, by decide +kernel, rfl, by decide +kernel, by decide +kernel⟩
abbrev s_told_primes : Stmt := topS 56
theorem sc_told_primes : FnScope ["where"] ["where"] (defScope s_told_primes) := ⟨rfl, rfl, rfl, by decide +kernel, rfl, by decide +kernel, by decide +kernel⟩
abbrev s__law_heard : Stmt := topS 61
theorem sc__law_heard : FnScope ["ask", "found", "caught", "error", "words", "kinds"] ["ask"] (defScope s__law_heard) := ⟨rfl, rfl, rfl, by decide +kernel, rfl, by decide +kernel, by decide +kernel⟩
abbrev s__law_pen : Stmt := topS 58
theorem sc__law_pen : FnScope ["script", "cell"] ["script"] (defScope s__law_pen) := ⟨rfl, rfl, rfl, by decide +kernel, rfl, by decide +kernel, by decide +kernel⟩
abbrev s_law : Stmt := topS 63
theorem sc_law : FnScope ["script", "pen", "turn", "bad", "fine", "odd", "heard", "great"] ["script"] (defScope s_law) := ⟨rfl, rfl, rfl, by decide +kernel, rfl, by decide +kernel, by decide +kernel⟩
abbrev i_BadSet : Stmt := clsDef (topS 9)
theorem si_BadSet : SupScope ["self", "part"] ["self", "part"] (defScope i_BadSet) := ⟨rfl, rfl, rfl, by decide +kernel, rfl, by decide +kernel, by decide +kernel, by decide +kernel, by decide +kernel, by decide +kernel⟩
theorem bi_BadSet {K : PySem.W.Frag} {kV doc pm ct : Value} {an : Option Addr} {cda cc : Addr} : Binds K (PySem.W.ksFn "__init__" "BadSet.__init__" (defArgs i_BadSet) (defBody i_BadSet) (defScope i_BadSet) .none kV doc pm an (.ref cda) ct cc) ["self", "part"] [] := fun s us X hl => by
  match us, hl with
  | [], h => simp at h
  | [_], h => simp at h
  | [a, b], _ => exact .of_eq rfl
  | _ :: _ :: _ :: _, h => simp at h
abbrev i_BadNumber : Stmt := clsDef (topS 7)
theorem si_BadNumber : SupScope ["self", "part"] ["self", "part"] (defScope i_BadNumber) := ⟨rfl, rfl, rfl, by decide +kernel, rfl, by decide +kernel, by decide +kernel, by decide +kernel, by decide +kernel, by decide +kernel⟩
theorem bi_BadNumber {K : PySem.W.Frag} {kV doc pm ct : Value} {an : Option Addr} {cda cc : Addr} : Binds K (PySem.W.ksFn "__init__" "BadNumber.__init__" (defArgs i_BadNumber) (defBody i_BadNumber) (defScope i_BadNumber) .none kV doc pm an (.ref cda) ct cc) ["self", "part"] [] := fun s us X hl => by
  match us, hl with
  | [], h => simp at h
  | [_], h => simp at h
  | [a, b], _ => exact .of_eq rfl
  | _ :: _ :: _ :: _, h => simp at h
structure Tx (K : PySem.W.Frag) (mg : Str → Option Value) where
  fa__law_draw : Addr
  fd__law_draw : FuncData
  F__law_draw : FunD K "_law_draw" "_law_draw" (defArgs s__law_draw) (defBody s__law_draw) (defScope s__law_draw) [] [] fa__law_draw fd__law_draw
  g__law_draw : mg "_law_draw" = some (.ref fa__law_draw)
  fa__law_pick : Addr
  fd__law_pick : FuncData
  F__law_pick : FunD K "_law_pick" "_law_pick" (defArgs s__law_pick) (defBody s__law_pick) (defScope s__law_pick) [] [] fa__law_pick fd__law_pick
  g__law_pick : mg "_law_pick" = some (.ref fa__law_pick)
  fa__law_set : Addr
  fd__law_set : FuncData
  F__law_set : FunD K "_law_set" "_law_set" (defArgs s__law_set) (defBody s__law_set) (defScope s__law_set) [] [] fa__law_set fd__law_set
  g__law_set : mg "_law_set" = some (.ref fa__law_set)
  fa_is_whole : Addr
  fd_is_whole : FuncData
  F_is_whole : FunD K "is_whole" "is_whole" (defArgs s_is_whole) (defBody s_is_whole) (defScope s_is_whole) [] [] fa_is_whole fd_is_whole
  g_is_whole : mg "is_whole" = some (.ref fa_is_whole)
  fa_is_within : Addr
  fd_is_within : FuncData
  F_is_within : FunD K "is_within" "is_within" (defArgs s_is_within) (defBody s_is_within) (defScope s_is_within) [] [] fa_is_within fd_is_within
  g_is_within : mg "is_within" = some (.ref fa_is_within)
  fa_is_listed : Addr
  fd_is_listed : FuncData
  F_is_listed : FunD K "is_listed" "is_listed" (defArgs s_is_listed) (defBody s_is_listed) (defScope s_is_listed) [] [] fa_is_listed fd_is_listed
  g_is_listed : mg "is_listed" = some (.ref fa_is_listed)
  fa_is_where : Addr
  fd_is_where : FuncData
  F_is_where : FunD K "is_where" "is_where" (defArgs s_is_where) (defBody s_is_where) (defScope s_is_where) [] [] fa_is_where fd_is_where
  g_is_where : mg "is_where" = some (.ref fa_is_where)
  fa_need_where : Addr
  fd_need_where : FuncData
  F_need_where : FunD K "need_where" "need_where" (defArgs s_need_where) (defBody s_need_where) (defScope s_need_where) [.str "where"] [] fa_need_where fd_need_where
  g_need_where : mg "need_where" = some (.ref fa_need_where)
  fa_other_word : Addr
  fd_other_word : FuncData
  F_other_word : FunD K "other_word" "other_word" (defArgs s_other_word) (defBody s_other_word) (defScope s_other_word) [] [] fa_other_word fd_other_word
  g_other_word : mg "other_word" = some (.ref fa_other_word)
  fa_turned_set : Addr
  fd_turned_set : FuncData
  F_turned_set : FunD K "turned_set" "turned_set" (defArgs s_turned_set) (defBody s_turned_set) (defScope s_turned_set) [] [] fa_turned_set fd_turned_set
  g_turned_set : mg "turned_set" = some (.ref fa_turned_set)
  fa_without_primes : Addr
  fd_without_primes : FuncData
  F_without_primes : FunD K "without_primes" "without_primes" (defArgs s_without_primes) (defBody s_without_primes) (defScope s_without_primes) [] [] fa_without_primes fd_without_primes
  g_without_primes : mg "without_primes" = some (.ref fa_without_primes)
  fa_met : Addr
  fd_met : FuncData
  F_met : FunD K "met" "met" (defArgs s_met) (defBody s_met) (defScope s_met) [] [] fa_met fd_met
  g_met : mg "met" = some (.ref fa_met)
  fa_joined : Addr
  fd_joined : FuncData
  F_joined : FunD K "joined" "joined" (defArgs s_joined) (defBody s_joined) (defScope s_joined) [] [] fa_joined fd_joined
  g_joined : mg "joined" = some (.ref fa_joined)
  fa_join : Addr
  fd_join : FuncData
  F_join : FunD K "join" "join" (defArgs s_join) (defBody s_join) (defScope s_join) [] [] fa_join fd_join
  g_join : mg "join" = some (.ref fa_join)
  fa_meet : Addr
  fd_meet : FuncData
  F_meet : FunD K "meet" "meet" (defArgs s_meet) (defBody s_meet) (defScope s_meet) [] [] fa_meet fd_meet
  g_meet : mg "meet" = some (.ref fa_meet)
  fa_others : Addr
  fd_others : FuncData
  F_others : FunD K "others" "others" (defArgs s_others) (defBody s_others) (defScope s_others) [] [] fa_others fd_others
  g_others : mg "others" = some (.ref fa_others)
  fa_has : Addr
  fd_has : FuncData
  F_has : FunD K "has" "has" (defArgs s_has) (defBody s_has) (defScope s_has) [] [] fa_has fd_has
  g_has : mg "has" = some (.ref fa_has)
  fa_power_below : Addr
  fd_power_below : FuncData
  F_power_below : FunD K "power_below" "power_below" (defArgs s_power_below) (defBody s_power_below) (defScope s_power_below) [] [] fa_power_below fd_power_below
  g_power_below : mg "power_below" = some (.ref fa_power_below)
  fa_stands : Addr
  fd_stands : FuncData
  F_stands : FunD K "stands" "stands" (defArgs s_stands) (defBody s_stands) (defScope s_stands) [] [] fa_stands fd_stands
  g_stands : mg "stands" = some (.ref fa_stands)
  fa_prime : Addr
  fd_prime : FuncData
  F_prime : FunD K "prime" "prime" (defArgs s_prime) (defBody s_prime) (defScope s_prime) [] [] fa_prime fd_prime
  g_prime : mg "prime" = some (.ref fa_prime)
  fa_is_prime : Addr
  fd_is_prime : FuncData
  F_is_prime : FunD K "is_prime" "is_prime" (defArgs s_is_prime) (defBody s_is_prime) (defScope s_is_prime) [] [] fa_is_prime fd_is_prime
  g_is_prime : mg "is_prime" = some (.ref fa_is_prime)
  fa_need_prime : Addr
  fd_need_prime : FuncData
  F_need_prime : FunD K "need_prime" "need_prime" (defArgs s_need_prime) (defBody s_need_prime) (defScope s_need_prime) [.str "prime"] [] fa_need_prime fd_need_prime
  g_need_prime : mg "need_prime" = some (.ref fa_need_prime)
  fa_is_in : Addr
  fd_is_in : FuncData
  F_is_in : FunD K "is_in" "is_in" (defArgs s_is_in) (defBody s_is_in) (defScope s_is_in) [] [] fa_is_in fd_is_in
  g_is_in : mg "is_in" = some (.ref fa_is_in)
  fa_is_same : Addr
  fd_is_same : FuncData
  F_is_same : FunD K "is_same" "is_same" (defArgs s_is_same) (defBody s_is_same) (defScope s_is_same) [] [] fa_is_same fd_is_same
  g_is_same : mg "is_same" = some (.ref fa_is_same)
  fa_are_same : Addr
  fd_are_same : FuncData
  F_are_same : FunD K "are_same" "are_same" (defArgs s_are_same) (defBody s_are_same) (defScope s_are_same) [] [] fa_are_same fd_are_same
  g_are_same : mg "are_same" = some (.ref fa_are_same)
  fa_need_whole : Addr
  fd_need_whole : FuncData
  F_need_whole : FunD K "need_whole" "need_whole" (defArgs s_need_whole) (defBody s_need_whole) (defScope s_need_whole) [.non] [] fa_need_whole fd_need_whole
  g_need_whole : mg "need_whole" = some (.ref fa_need_whole)
  fa_parts_found : Addr
  fd_parts_found : FuncData
  F_parts_found : FunD K "parts_found" "parts_found" (defArgs s_parts_found) (defBody s_parts_found) (defScope s_parts_found) [] [] fa_parts_found fd_parts_found
  g_parts_found : mg "parts_found" = some (.ref fa_parts_found)
  fa_parted : Addr
  fd_parted : FuncData
  F_parted : FunD K "parted" "parted" (defArgs s_parted) (defBody s_parted) (defScope s_parted) [] [] fa_parted fd_parted
  g_parted : mg "parted" = some (.ref fa_parted)
  fa_primes_of : Addr
  fd_primes_of : FuncData
  F_primes_of : FunD K "primes_of" "primes_of" (defArgs s_primes_of) (defBody s_primes_of) (defScope s_primes_of) [] [] fa_primes_of fd_primes_of
  g_primes_of : mg "primes_of" = some (.ref fa_primes_of)
  fa_told_primes : Addr
  fd_told_primes : FuncData
  F_told_primes : FunD K "told_primes" "told_primes" (defArgs s_told_primes) (defBody s_told_primes) (defScope s_told_primes) [] [] fa_told_primes fd_told_primes
  g_told_primes : mg "told_primes" = some (.ref fa_told_primes)
  fa__law_heard : Addr
  fd__law_heard : FuncData
  F__law_heard : FunD K "_law_heard" "_law_heard" (defArgs s__law_heard) (defBody s__law_heard) (defScope s__law_heard) [] [] fa__law_heard fd__law_heard
  g__law_heard : mg "_law_heard" = some (.ref fa__law_heard)
  fa__law_pen : Addr
  fd__law_pen : FuncData
  F__law_pen : FunD K "_law_pen" "_law_pen" (defArgs s__law_pen) (defBody s__law_pen) (defScope s__law_pen) [] [] fa__law_pen fd__law_pen
  g__law_pen : mg "_law_pen" = some (.ref fa__law_pen)
  fa_law : Addr
  fd_law : FuncData
  F_law : FunD K "law" "law" (defArgs s_law) (defBody s_law) (defScope s_law) [] [] fa_law fd_law
  g_law : mg "law" = some (.ref fa_law)
  nb_abs : mg "abs" = none
  nb_all : mg "all" = none
  nb_bool : mg "bool" = none
  nb_int : mg "int" = none
  nb_isinstance : mg "isinstance" = none
  nb_len : mg "len" = none
  nb_list : mg "list" = none
  nb_range : mg "range" = none
  nb_str : mg "str" = none
  nb_super : mg "super" = none
  nb_tuple : mg "tuple" = none
  file : Str
  ltab : Addr
  lcode : Addr
  hlc : fd_law.code = .ref lcode
  C_BadClaim : Addr
  gC_BadClaim : mg "BadClaim" = some (.ref C_BadClaim)
  C_BadCommand : Addr
  gC_BadCommand : mg "BadCommand" = some (.ref C_BadCommand)
  C_BadNumber : Addr
  gC_BadNumber : mg "BadNumber" = some (.ref C_BadNumber)
  C_BadPaper : Addr
  gC_BadPaper : mg "BadPaper" = some (.ref C_BadPaper)
  C_BadPlan : Addr
  gC_BadPlan : mg "BadPlan" = some (.ref C_BadPlan)
  C_BadPoly : Addr
  gC_BadPoly : mg "BadPoly" = some (.ref C_BadPoly)
  C_BadSet : Addr
  gC_BadSet : mg "BadSet" = some (.ref C_BadSet)
  C_BadText : Addr
  gC_BadText : mg "BadText" = some (.ref C_BadText)
  C_BadTower : Addr
  gC_BadTower : mg "BadTower" = some (.ref C_BadTower)
  C_BadTree : Addr
  gC_BadTree : mg "BadTree" = some (.ref C_BadTree)
  C_BadValue : Addr
  gC_BadValue : mg "BadValue" = some (.ref C_BadValue)
  C_FieldError : Addr
  gC_FieldError : mg "FieldError" = some (.ref C_FieldError)
  C_Misfit : Addr
  gC_Misfit : mg "Misfit" = some (.ref C_Misfit)
  C_NoName : Addr
  gC_NoName : mg "NoName" = some (.ref C_NoName)
  C_Nothing : Addr
  gC_Nothing : mg "Nothing" = some (.ref C_Nothing)
  C_TooHard : Addr
  gC_TooHard : mg "TooHard" = some (.ref C_TooHard)
  C_TooMany : Addr
  gC_TooMany : mg "TooMany" = some (.ref C_TooMany)
  ex_BadSet : ExcD1 K mg file "BadSet" "part" C_BadSet
  exm_BadSet : PySem.W.exmOne K (.ref C_BadSet) (.ref C_FieldError) = some true
  kit_BadSet_BadClaim : PySem.W.kitOne K (.ref C_BadSet) (.ref C_BadClaim) = some false
  kit_BadSet_BadCommand : PySem.W.kitOne K (.ref C_BadSet) (.ref C_BadCommand) = some false
  kit_BadSet_BadCommand_TooHard : PySem.W.kitAny K (.ref C_BadSet) [.ref C_BadCommand, .ref C_TooHard] = some false
  kit_BadSet_BadNumber : PySem.W.kitOne K (.ref C_BadSet) (.ref C_BadNumber) = some false
  kit_BadSet_BadPaper : PySem.W.kitOne K (.ref C_BadSet) (.ref C_BadPaper) = some false
  kit_BadSet_BadPlan : PySem.W.kitOne K (.ref C_BadSet) (.ref C_BadPlan) = some false
  kit_BadSet_BadPoly : PySem.W.kitOne K (.ref C_BadSet) (.ref C_BadPoly) = some false
  kit_BadSet_BadSet : PySem.W.kitOne K (.ref C_BadSet) (.ref C_BadSet) = some true
  kit_BadSet_BadText : PySem.W.kitOne K (.ref C_BadSet) (.ref C_BadText) = some false
  kit_BadSet_BadTower : PySem.W.kitOne K (.ref C_BadSet) (.ref C_BadTower) = some false
  kit_BadSet_BadTree : PySem.W.kitOne K (.ref C_BadSet) (.ref C_BadTree) = some false
  kit_BadSet_BadValue : PySem.W.kitOne K (.ref C_BadSet) (.ref C_BadValue) = some false
  kit_BadSet_Misfit : PySem.W.kitOne K (.ref C_BadSet) (.ref C_Misfit) = some false
  kit_BadSet_NoName : PySem.W.kitOne K (.ref C_BadSet) (.ref C_NoName) = some false
  kit_BadSet_Nothing : PySem.W.kitOne K (.ref C_BadSet) (.ref C_Nothing) = some false
  kit_BadSet_TooMany : PySem.W.kitOne K (.ref C_BadSet) (.ref C_TooMany) = some false
  ex_BadNumber : ExcD1 K mg file "BadNumber" "part" C_BadNumber
  exm_BadNumber : PySem.W.exmOne K (.ref C_BadNumber) (.ref C_FieldError) = some true
  kit_BadNumber_BadClaim : PySem.W.kitOne K (.ref C_BadNumber) (.ref C_BadClaim) = some false
  kit_BadNumber_BadCommand : PySem.W.kitOne K (.ref C_BadNumber) (.ref C_BadCommand) = some false
  kit_BadNumber_BadCommand_TooHard : PySem.W.kitAny K (.ref C_BadNumber) [.ref C_BadCommand, .ref C_TooHard] = some false
  kit_BadNumber_BadNumber : PySem.W.kitOne K (.ref C_BadNumber) (.ref C_BadNumber) = some true
  kit_BadNumber_BadPaper : PySem.W.kitOne K (.ref C_BadNumber) (.ref C_BadPaper) = some false
  kit_BadNumber_BadPlan : PySem.W.kitOne K (.ref C_BadNumber) (.ref C_BadPlan) = some false
  kit_BadNumber_BadPoly : PySem.W.kitOne K (.ref C_BadNumber) (.ref C_BadPoly) = some false
  kit_BadNumber_BadSet : PySem.W.kitOne K (.ref C_BadNumber) (.ref C_BadSet) = some false
  kit_BadNumber_BadText : PySem.W.kitOne K (.ref C_BadNumber) (.ref C_BadText) = some false
  kit_BadNumber_BadTower : PySem.W.kitOne K (.ref C_BadNumber) (.ref C_BadTower) = some false
  kit_BadNumber_BadTree : PySem.W.kitOne K (.ref C_BadNumber) (.ref C_BadTree) = some false
  kit_BadNumber_BadValue : PySem.W.kitOne K (.ref C_BadNumber) (.ref C_BadValue) = some false
  kit_BadNumber_Misfit : PySem.W.kitOne K (.ref C_BadNumber) (.ref C_Misfit) = some false
  kit_BadNumber_NoName : PySem.W.kitOne K (.ref C_BadNumber) (.ref C_NoName) = some false
  kit_BadNumber_Nothing : PySem.W.kitOne K (.ref C_BadNumber) (.ref C_Nothing) = some false
  kit_BadNumber_TooMany : PySem.W.kitOne K (.ref C_BadNumber) (.ref C_TooMany) = some false
  gi_gcd : mg "gcd" = some (.builtin "math.gcd")
  ca_BASES : Addr
  gc_BASES : mg "BASES" = some (.ref ca_BASES)
  rc_BASES : ∀ (gh : Gh → Prop) (G : Hp), Rep ⟨K, mg, gh⟩ G (.ref ca_BASES) c_BASES
  ct_BUT : Tok
  gc_BUT : mg "BUT" = some (.str "but" ct_BUT)
  ct_MOST : Tok
  gc_MOST : mg "MOST" = some (.int 1000000000000000000000000 ct_MOST)
  ct_MOST_CHARACTERISTIC : Tok
  gc_MOST_CHARACTERISTIC : mg "MOST_CHARACTERISTIC" = some (.int 1000000000000 ct_MOST_CHARACTERISTIC)
  ct_ONLY : Tok
  gc_ONLY : mg "ONLY" = some (.str "only" ct_ONLY)
  ct_SMALL : Tok
  gc_SMALL : mg "SMALL" = some (.int 100000 ct_SMALL)
  ca_WORDS : Addr
  gc_WORDS : mg "WORDS" = some (.ref ca_WORDS)
  rc_WORDS : ∀ (gh : Gh → Prop) (G : Hp), Rep ⟨K, mg, gh⟩ G (.ref ca_WORDS) c_WORDS
section
variable {P : Program} {w : World} {K : PySem.W.Frag} {mg : Str → Option Value} {gh : Gh → Prop} {base : Heap}
theorem Tx.dc_BASES (T : Tx K mg) {X : Cx} {W : WX} {pos : Pos} (hg : Gl X "BASES") (hmg : X.mg = mg) : PE X (.Name "BASES" pos) (tD ⟨K, mg, gh⟩ W (eC c_BASES)) := by
  subst hmg
  exact de_glob hg (v := .ref T.ca_BASES) T.gc_BASES rfl (T.rc_BASES gh)
theorem Tx.dc_BUT (T : Tx K mg) {X : Cx} {W : WX} {pos : Pos} (hg : Gl X "BUT") (hmg : X.mg = mg) : PE X (.Name "BUT" pos) (tD ⟨K, mg, gh⟩ W (eC c_BUT)) := by
  subst hmg
  exact de_glob hg (v := .str _) T.gc_BUT ⟨_, rfl⟩ (fun _ => .str _)
theorem Tx.dc_MOST (T : Tx K mg) {X : Cx} {W : WX} {pos : Pos} (hg : Gl X "MOST") (hmg : X.mg = mg) : PE X (.Name "MOST" pos) (tD ⟨K, mg, gh⟩ W (eC c_MOST)) := by
  subst hmg
  exact de_glob hg (v := .int _) T.gc_MOST ⟨_, rfl⟩ (fun _ => .int _)
theorem Tx.dc_MOST_CHARACTERISTIC (T : Tx K mg) {X : Cx} {W : WX} {pos : Pos} (hg : Gl X "MOST_CHARACTERISTIC") (hmg : X.mg = mg) : PE X (.Name "MOST_CHARACTERISTIC" pos) (tD ⟨K, mg, gh⟩ W (eC c_MOST_CHARACTERISTIC)) := by
  subst hmg
  exact de_glob hg (v := .int _) T.gc_MOST_CHARACTERISTIC ⟨_, rfl⟩ (fun _ => .int _)
theorem Tx.dc_ONLY (T : Tx K mg) {X : Cx} {W : WX} {pos : Pos} (hg : Gl X "ONLY") (hmg : X.mg = mg) : PE X (.Name "ONLY" pos) (tD ⟨K, mg, gh⟩ W (eC c_ONLY)) := by
  subst hmg
  exact de_glob hg (v := .str _) T.gc_ONLY ⟨_, rfl⟩ (fun _ => .str _)
theorem Tx.dc_SMALL (T : Tx K mg) {X : Cx} {W : WX} {pos : Pos} (hg : Gl X "SMALL") (hmg : X.mg = mg) : PE X (.Name "SMALL" pos) (tD ⟨K, mg, gh⟩ W (eC c_SMALL)) := by
  subst hmg
  exact de_glob hg (v := .int _) T.gc_SMALL ⟨_, rfl⟩ (fun _ => .int _)
theorem Tx.dc_WORDS (T : Tx K mg) {X : Cx} {W : WX} {pos : Pos} (hg : Gl X "WORDS") (hmg : X.mg = mg) : PE X (.Name "WORDS" pos) (tD ⟨K, mg, gh⟩ W (eC c_WORDS)) := by
  subst hmg
  exact de_glob hg (v := .ref T.ca_WORDS) T.gc_WORDS rfl (T.rc_WORDS gh)
theorem an_BadClaim (T : Tx K mg) : ∀ c b, ansOf errs ["BadClaim"] c = some b → ∀ C, mg c = some (.ref C) → ExcC K C ∧ PySem.W.kitOne K (.ref C) (.ref T.C_BadClaim) = some b :=
  ans_by (Q := fun C b => ExcC K C ∧ PySem.W.kitOne K (.ref C) (.ref T.C_BadClaim) = some b) (List.forall_mem_cons.mpr ⟨⟨_, _, T.gC_BadSet, by decide +kernel, T.ex_BadSet.ec, T.kit_BadSet_BadClaim⟩, List.forall_mem_cons.mpr ⟨⟨_, _, T.gC_BadNumber, by decide +kernel, T.ex_BadNumber.ec, T.kit_BadNumber_BadClaim⟩, List.forall_mem_nil _⟩⟩)
theorem an_BadCommand (T : Tx K mg) : ∀ c b, ansOf errs ["BadCommand"] c = some b → ∀ C, mg c = some (.ref C) → ExcC K C ∧ PySem.W.kitOne K (.ref C) (.ref T.C_BadCommand) = some b :=
  ans_by (Q := fun C b => ExcC K C ∧ PySem.W.kitOne K (.ref C) (.ref T.C_BadCommand) = some b) (List.forall_mem_cons.mpr ⟨⟨_, _, T.gC_BadSet, by decide +kernel, T.ex_BadSet.ec, T.kit_BadSet_BadCommand⟩, List.forall_mem_cons.mpr ⟨⟨_, _, T.gC_BadNumber, by decide +kernel, T.ex_BadNumber.ec, T.kit_BadNumber_BadCommand⟩, List.forall_mem_nil _⟩⟩)
theorem an_BadCommand_TooHard (T : Tx K mg) : ∀ c b, ansOf errs ["BadCommand", "TooHard"] c = some b → ∀ C, mg c = some (.ref C) → ExcC K C ∧ PySem.W.kitAny K (.ref C) (([T.C_BadCommand, T.C_TooHard] : List Addr).map Value.ref) = some b :=
  ans_by (Q := fun C b => ExcC K C ∧ PySem.W.kitAny K (.ref C) (([T.C_BadCommand, T.C_TooHard] : List Addr).map Value.ref) = some b) (List.forall_mem_cons.mpr ⟨⟨_, _, T.gC_BadSet, by decide +kernel, T.ex_BadSet.ec, T.kit_BadSet_BadCommand_TooHard⟩, List.forall_mem_cons.mpr ⟨⟨_, _, T.gC_BadNumber, by decide +kernel, T.ex_BadNumber.ec, T.kit_BadNumber_BadCommand_TooHard⟩, List.forall_mem_nil _⟩⟩)
theorem an_BadNumber (T : Tx K mg) : ∀ c b, ansOf errs ["BadNumber"] c = some b → ∀ C, mg c = some (.ref C) → ExcC K C ∧ PySem.W.kitOne K (.ref C) (.ref T.C_BadNumber) = some b :=
  ans_by (Q := fun C b => ExcC K C ∧ PySem.W.kitOne K (.ref C) (.ref T.C_BadNumber) = some b) (List.forall_mem_cons.mpr ⟨⟨_, _, T.gC_BadSet, by decide +kernel, T.ex_BadSet.ec, T.kit_BadSet_BadNumber⟩, List.forall_mem_cons.mpr ⟨⟨_, _, T.gC_BadNumber, by decide +kernel, T.ex_BadNumber.ec, T.kit_BadNumber_BadNumber⟩, List.forall_mem_nil _⟩⟩)
theorem an_BadPaper (T : Tx K mg) : ∀ c b, ansOf errs ["BadPaper"] c = some b → ∀ C, mg c = some (.ref C) → ExcC K C ∧ PySem.W.kitOne K (.ref C) (.ref T.C_BadPaper) = some b :=
  ans_by (Q := fun C b => ExcC K C ∧ PySem.W.kitOne K (.ref C) (.ref T.C_BadPaper) = some b) (List.forall_mem_cons.mpr ⟨⟨_, _, T.gC_BadSet, by decide +kernel, T.ex_BadSet.ec, T.kit_BadSet_BadPaper⟩, List.forall_mem_cons.mpr ⟨⟨_, _, T.gC_BadNumber, by decide +kernel, T.ex_BadNumber.ec, T.kit_BadNumber_BadPaper⟩, List.forall_mem_nil _⟩⟩)
theorem an_BadPlan (T : Tx K mg) : ∀ c b, ansOf errs ["BadPlan"] c = some b → ∀ C, mg c = some (.ref C) → ExcC K C ∧ PySem.W.kitOne K (.ref C) (.ref T.C_BadPlan) = some b :=
  ans_by (Q := fun C b => ExcC K C ∧ PySem.W.kitOne K (.ref C) (.ref T.C_BadPlan) = some b) (List.forall_mem_cons.mpr ⟨⟨_, _, T.gC_BadSet, by decide +kernel, T.ex_BadSet.ec, T.kit_BadSet_BadPlan⟩, List.forall_mem_cons.mpr ⟨⟨_, _, T.gC_BadNumber, by decide +kernel, T.ex_BadNumber.ec, T.kit_BadNumber_BadPlan⟩, List.forall_mem_nil _⟩⟩)
theorem an_BadPoly (T : Tx K mg) : ∀ c b, ansOf errs ["BadPoly"] c = some b → ∀ C, mg c = some (.ref C) → ExcC K C ∧ PySem.W.kitOne K (.ref C) (.ref T.C_BadPoly) = some b :=
  ans_by (Q := fun C b => ExcC K C ∧ PySem.W.kitOne K (.ref C) (.ref T.C_BadPoly) = some b) (List.forall_mem_cons.mpr ⟨⟨_, _, T.gC_BadSet, by decide +kernel, T.ex_BadSet.ec, T.kit_BadSet_BadPoly⟩, List.forall_mem_cons.mpr ⟨⟨_, _, T.gC_BadNumber, by decide +kernel, T.ex_BadNumber.ec, T.kit_BadNumber_BadPoly⟩, List.forall_mem_nil _⟩⟩)
theorem an_BadSet (T : Tx K mg) : ∀ c b, ansOf errs ["BadSet"] c = some b → ∀ C, mg c = some (.ref C) → ExcC K C ∧ PySem.W.kitOne K (.ref C) (.ref T.C_BadSet) = some b :=
  ans_by (Q := fun C b => ExcC K C ∧ PySem.W.kitOne K (.ref C) (.ref T.C_BadSet) = some b) (List.forall_mem_cons.mpr ⟨⟨_, _, T.gC_BadSet, by decide +kernel, T.ex_BadSet.ec, T.kit_BadSet_BadSet⟩, List.forall_mem_cons.mpr ⟨⟨_, _, T.gC_BadNumber, by decide +kernel, T.ex_BadNumber.ec, T.kit_BadNumber_BadSet⟩, List.forall_mem_nil _⟩⟩)
theorem an_BadText (T : Tx K mg) : ∀ c b, ansOf errs ["BadText"] c = some b → ∀ C, mg c = some (.ref C) → ExcC K C ∧ PySem.W.kitOne K (.ref C) (.ref T.C_BadText) = some b :=
  ans_by (Q := fun C b => ExcC K C ∧ PySem.W.kitOne K (.ref C) (.ref T.C_BadText) = some b) (List.forall_mem_cons.mpr ⟨⟨_, _, T.gC_BadSet, by decide +kernel, T.ex_BadSet.ec, T.kit_BadSet_BadText⟩, List.forall_mem_cons.mpr ⟨⟨_, _, T.gC_BadNumber, by decide +kernel, T.ex_BadNumber.ec, T.kit_BadNumber_BadText⟩, List.forall_mem_nil _⟩⟩)
theorem an_BadTower (T : Tx K mg) : ∀ c b, ansOf errs ["BadTower"] c = some b → ∀ C, mg c = some (.ref C) → ExcC K C ∧ PySem.W.kitOne K (.ref C) (.ref T.C_BadTower) = some b :=
  ans_by (Q := fun C b => ExcC K C ∧ PySem.W.kitOne K (.ref C) (.ref T.C_BadTower) = some b) (List.forall_mem_cons.mpr ⟨⟨_, _, T.gC_BadSet, by decide +kernel, T.ex_BadSet.ec, T.kit_BadSet_BadTower⟩, List.forall_mem_cons.mpr ⟨⟨_, _, T.gC_BadNumber, by decide +kernel, T.ex_BadNumber.ec, T.kit_BadNumber_BadTower⟩, List.forall_mem_nil _⟩⟩)
theorem an_BadTree (T : Tx K mg) : ∀ c b, ansOf errs ["BadTree"] c = some b → ∀ C, mg c = some (.ref C) → ExcC K C ∧ PySem.W.kitOne K (.ref C) (.ref T.C_BadTree) = some b :=
  ans_by (Q := fun C b => ExcC K C ∧ PySem.W.kitOne K (.ref C) (.ref T.C_BadTree) = some b) (List.forall_mem_cons.mpr ⟨⟨_, _, T.gC_BadSet, by decide +kernel, T.ex_BadSet.ec, T.kit_BadSet_BadTree⟩, List.forall_mem_cons.mpr ⟨⟨_, _, T.gC_BadNumber, by decide +kernel, T.ex_BadNumber.ec, T.kit_BadNumber_BadTree⟩, List.forall_mem_nil _⟩⟩)
theorem an_BadValue (T : Tx K mg) : ∀ c b, ansOf errs ["BadValue"] c = some b → ∀ C, mg c = some (.ref C) → ExcC K C ∧ PySem.W.kitOne K (.ref C) (.ref T.C_BadValue) = some b :=
  ans_by (Q := fun C b => ExcC K C ∧ PySem.W.kitOne K (.ref C) (.ref T.C_BadValue) = some b) (List.forall_mem_cons.mpr ⟨⟨_, _, T.gC_BadSet, by decide +kernel, T.ex_BadSet.ec, T.kit_BadSet_BadValue⟩, List.forall_mem_cons.mpr ⟨⟨_, _, T.gC_BadNumber, by decide +kernel, T.ex_BadNumber.ec, T.kit_BadNumber_BadValue⟩, List.forall_mem_nil _⟩⟩)
theorem an_Misfit (T : Tx K mg) : ∀ c b, ansOf errs ["Misfit"] c = some b → ∀ C, mg c = some (.ref C) → ExcC K C ∧ PySem.W.kitOne K (.ref C) (.ref T.C_Misfit) = some b :=
  ans_by (Q := fun C b => ExcC K C ∧ PySem.W.kitOne K (.ref C) (.ref T.C_Misfit) = some b) (List.forall_mem_cons.mpr ⟨⟨_, _, T.gC_BadSet, by decide +kernel, T.ex_BadSet.ec, T.kit_BadSet_Misfit⟩, List.forall_mem_cons.mpr ⟨⟨_, _, T.gC_BadNumber, by decide +kernel, T.ex_BadNumber.ec, T.kit_BadNumber_Misfit⟩, List.forall_mem_nil _⟩⟩)
theorem an_NoName (T : Tx K mg) : ∀ c b, ansOf errs ["NoName"] c = some b → ∀ C, mg c = some (.ref C) → ExcC K C ∧ PySem.W.kitOne K (.ref C) (.ref T.C_NoName) = some b :=
  ans_by (Q := fun C b => ExcC K C ∧ PySem.W.kitOne K (.ref C) (.ref T.C_NoName) = some b) (List.forall_mem_cons.mpr ⟨⟨_, _, T.gC_BadSet, by decide +kernel, T.ex_BadSet.ec, T.kit_BadSet_NoName⟩, List.forall_mem_cons.mpr ⟨⟨_, _, T.gC_BadNumber, by decide +kernel, T.ex_BadNumber.ec, T.kit_BadNumber_NoName⟩, List.forall_mem_nil _⟩⟩)
theorem an_Nothing (T : Tx K mg) : ∀ c b, ansOf errs ["Nothing"] c = some b → ∀ C, mg c = some (.ref C) → ExcC K C ∧ PySem.W.kitOne K (.ref C) (.ref T.C_Nothing) = some b :=
  ans_by (Q := fun C b => ExcC K C ∧ PySem.W.kitOne K (.ref C) (.ref T.C_Nothing) = some b) (List.forall_mem_cons.mpr ⟨⟨_, _, T.gC_BadSet, by decide +kernel, T.ex_BadSet.ec, T.kit_BadSet_Nothing⟩, List.forall_mem_cons.mpr ⟨⟨_, _, T.gC_BadNumber, by decide +kernel, T.ex_BadNumber.ec, T.kit_BadNumber_Nothing⟩, List.forall_mem_nil _⟩⟩)
theorem an_TooMany (T : Tx K mg) : ∀ c b, ansOf errs ["TooMany"] c = some b → ∀ C, mg c = some (.ref C) → ExcC K C ∧ PySem.W.kitOne K (.ref C) (.ref T.C_TooMany) = some b :=
  ans_by (Q := fun C b => ExcC K C ∧ PySem.W.kitOne K (.ref C) (.ref T.C_TooMany) = some b) (List.forall_mem_cons.mpr ⟨⟨_, _, T.gC_BadSet, by decide +kernel, T.ex_BadSet.ec, T.kit_BadSet_TooMany⟩, List.forall_mem_cons.mpr ⟨⟨_, _, T.gC_BadNumber, by decide +kernel, T.ex_BadNumber.ec, T.kit_BadNumber_TooMany⟩, List.forall_mem_nil _⟩⟩)
theorem fx_line (T : Tx K mg) : ∀ c ∈ fs_line, ∀ C, mg c = some (.ref C) → XfC K C ∧ PySem.W.findIn K (.ref C) "line" = some none :=
  List.forall_mem_nil _
theorem fx_most (T : Tx K mg) : ∀ c ∈ fs_most, ∀ C, mg c = some (.ref C) → XfC K C ∧ PySem.W.findIn K (.ref C) "most" = some none :=
  List.forall_mem_nil _
theorem fx_name (T : Tx K mg) : ∀ c ∈ fs_name, ∀ C, mg c = some (.ref C) → XfC K C ∧ PySem.W.findIn K (.ref C) "name" = some none :=
  List.forall_mem_nil _
theorem fx_part (T : Tx K mg) : ∀ c ∈ fs_part, ∀ C, mg c = some (.ref C) → XfC K C ∧ PySem.W.findIn K (.ref C) "part" = some none :=
  List.forall_mem_cons.mpr ⟨fun C h => by cases T.gC_BadSet.symm.trans h; exact ⟨T.ex_BadSet.xf, T.ex_BadSet.no⟩, List.forall_mem_cons.mpr ⟨fun C h => by cases T.gC_BadNumber.symm.trans h; exact ⟨T.ex_BadNumber.xf, T.ex_BadNumber.no⟩, List.forall_mem_nil _⟩⟩
theorem fx_what (T : Tx K mg) : ∀ c ∈ fs_what, ∀ C, mg c = some (.ref C) → XfC K C ∧ PySem.W.findIn K (.ref C) "what" = some none :=
  List.forall_mem_nil _
theorem fx_word (T : Tx K mg) : ∀ c ∈ fs_word, ∀ C, mg c = some (.ref C) → XfC K C ∧ PySem.W.findIn K (.ref C) "word" = some none :=
  List.forall_mem_nil _
theorem bn__law_draw (T : Tx K mg) : Binds K T.fd__law_draw ["pen", "many"] [] := T.F__law_draw.bindsN fun _ _ _ _ _ _ us hl => match us, hl with | [_, _], _ => rfl
theorem bn__law_pick (T : Tx K mg) : Binds K T.fd__law_pick ["pen", "some"] [] := T.F__law_pick.bindsN fun _ _ _ _ _ _ us hl => match us, hl with | [_, _], _ => rfl
theorem bn__law_set (T : Tx K mg) : Binds K T.fd__law_set ["pen"] [] := T.F__law_set.bindsN fun _ _ _ _ _ _ us hl => match us, hl with | [_], _ => rfl
theorem bn_is_whole (T : Tx K mg) : Binds K T.fd_is_whole ["value"] [] := T.F_is_whole.bindsN fun _ _ _ _ _ _ us hl => match us, hl with | [_], _ => rfl
theorem bn_is_within (T : Tx K mg) : Binds K T.fd_is_within ["value", "least", "most"] [] := T.F_is_within.bindsN fun _ _ _ _ _ _ us hl => match us, hl with | [_, _, _], _ => rfl
theorem bn_is_listed (T : Tx K mg) : Binds K T.fd_is_listed ["value"] [] := T.F_is_listed.bindsN fun _ _ _ _ _ _ us hl => match us, hl with | [_], _ => rfl
theorem bn_is_where (T : Tx K mg) : Binds K T.fd_is_where ["value"] [] := T.F_is_where.bindsN fun _ _ _ _ _ _ us hl => match us, hl with | [_], _ => rfl
theorem bn_need_where (T : Tx K mg) : Binds K T.fd_need_where ["value", "part"] [] := by
  obtain ⟨ds, h1, h2⟩ := T.F_need_where.binds1 (ps := ["value", "part"]) 2 1 (by simp) (by decide) (fun _ _ _ _ _ _ _ us its h1 h2 => match us, its, h1, h2 with | [_, _], [_], _, _ => ⟨_, rfl, rfl⟩)
  cases h1
  exact h2
theorem bn_other_word (T : Tx K mg) : Binds K T.fd_other_word ["word"] [] := T.F_other_word.bindsN fun _ _ _ _ _ _ us hl => match us, hl with | [_], _ => rfl
theorem bn_turned_set (T : Tx K mg) : Binds K T.fd_turned_set ["where"] [] := T.F_turned_set.bindsN fun _ _ _ _ _ _ us hl => match us, hl with | [_], _ => rfl
theorem bn_without_primes (T : Tx K mg) : Binds K T.fd_without_primes ["number", "other"] [] := T.F_without_primes.bindsN fun _ _ _ _ _ _ us hl => match us, hl with | [_, _], _ => rfl
theorem bn_met (T : Tx K mg) : Binds K T.fd_met ["one", "other"] [] := T.F_met.bindsN fun _ _ _ _ _ _ us hl => match us, hl with | [_, _], _ => rfl
theorem bn_joined (T : Tx K mg) : Binds K T.fd_joined ["one", "other"] [] := T.F_joined.bindsN fun _ _ _ _ _ _ us hl => match us, hl with | [_, _], _ => rfl
theorem bn_join (T : Tx K mg) : Binds K T.fd_join ["one", "other"] [] := T.F_join.bindsN fun _ _ _ _ _ _ us hl => match us, hl with | [_, _], _ => rfl
theorem bn_meet (T : Tx K mg) : Binds K T.fd_meet ["one", "other"] [] := T.F_meet.bindsN fun _ _ _ _ _ _ us hl => match us, hl with | [_, _], _ => rfl
theorem bn_others (T : Tx K mg) : Binds K T.fd_others ["where"] [] := T.F_others.bindsN fun _ _ _ _ _ _ us hl => match us, hl with | [_], _ => rfl
theorem bn_has (T : Tx K mg) : Binds K T.fd_has ["where", "prime"] [] := T.F_has.bindsN fun _ _ _ _ _ _ us hl => match us, hl with | [_, _], _ => rfl
theorem bn_power_below (T : Tx K mg) : Binds K T.fd_power_below ["base", "power", "number"] [] := T.F_power_below.bindsN fun _ _ _ _ _ _ us hl => match us, hl with | [_, _, _], _ => rfl
theorem bn_stands (T : Tx K mg) : Binds K T.fd_stands ["number", "base"] [] := T.F_stands.bindsN fun _ _ _ _ _ _ us hl => match us, hl with | [_, _], _ => rfl
theorem bn_prime (T : Tx K mg) : Binds K T.fd_prime ["number"] [] := T.F_prime.bindsN fun _ _ _ _ _ _ us hl => match us, hl with | [_], _ => rfl
theorem bn_is_prime (T : Tx K mg) : Binds K T.fd_is_prime ["number"] [] := T.F_is_prime.bindsN fun _ _ _ _ _ _ us hl => match us, hl with | [_], _ => rfl
theorem bn_need_prime (T : Tx K mg) : Binds K T.fd_need_prime ["value", "part"] [] := by
  obtain ⟨ds, h1, h2⟩ := T.F_need_prime.binds1 (ps := ["value", "part"]) 2 1 (by simp) (by decide) (fun _ _ _ _ _ _ _ us its h1 h2 => match us, its, h1, h2 with | [_, _], [_], _, _ => ⟨_, rfl, rfl⟩)
  cases h1
  exact h2
theorem bn_is_in (T : Tx K mg) : Binds K T.fd_is_in ["where", "prime"] [] := T.F_is_in.bindsN fun _ _ _ _ _ _ us hl => match us, hl with | [_, _], _ => rfl
theorem bn_is_same (T : Tx K mg) : Binds K T.fd_is_same ["one", "other"] [] := T.F_is_same.bindsN fun _ _ _ _ _ _ us hl => match us, hl with | [_, _], _ => rfl
theorem bn_are_same (T : Tx K mg) : Binds K T.fd_are_same ["one", "other"] [] := T.F_are_same.bindsN fun _ _ _ _ _ _ us hl => match us, hl with | [_, _], _ => rfl
theorem bn_need_whole (T : Tx K mg) : Binds K T.fd_need_whole ["part", "value", "least", "most"] [] := by
  obtain ⟨ds, h1, h2⟩ := T.F_need_whole.binds1 (ps := ["part", "value", "least", "most"]) 4 1 (by simp) (by decide) (fun _ _ _ _ _ _ _ us its h1 h2 => match us, its, h1, h2 with | [_, _, _, _], [_], _, _ => ⟨_, rfl, rfl⟩)
  cases h1
  exact h2
theorem bn_parts_found (T : Tx K mg) : Binds K T.fd_parts_found ["number"] [] := T.F_parts_found.bindsN fun _ _ _ _ _ _ us hl => match us, hl with | [_], _ => rfl
theorem bn_parted (T : Tx K mg) : Binds K T.fd_parted ["number"] [] := T.F_parted.bindsN fun _ _ _ _ _ _ us hl => match us, hl with | [_], _ => rfl
theorem bn_primes_of (T : Tx K mg) : Binds K T.fd_primes_of ["number"] [] := T.F_primes_of.bindsN fun _ _ _ _ _ _ us hl => match us, hl with | [_], _ => rfl
theorem bn_told_primes (T : Tx K mg) : Binds K T.fd_told_primes ["where"] [] := T.F_told_primes.bindsN fun _ _ _ _ _ _ us hl => match us, hl with | [_], _ => rfl
theorem bn__law_heard (T : Tx K mg) : Binds K T.fd__law_heard ["ask"] [] := T.F__law_heard.bindsN fun _ _ _ _ _ _ us hl => match us, hl with | [_], _ => rfl
theorem bn__law_pen (T : Tx K mg) : Binds K T.fd__law_pen ["script"] [] := T.F__law_pen.bindsN fun _ _ _ _ _ _ us hl => match us, hl with | [_], _ => rfl
theorem ok__law_draw (T : Tx K mg) (HP : ProgF P T.file) : FnOk P w K mg base (L2.CX P w) 1 T.fa__law_draw T.fd__law_draw ["pen", "many"] (spF ⟨K, mg, gh⟩ m__law_draw) := by
  refine fn_d (N := ["pen", "many", "rest", "at", "cell", "mixed"]) (u := b__law_draw) T.F__law_draw sc__law_draw fun cdv A outer s H E hr => ?_
  have nd := sc__law_draw.nd
  have tk : Takes (cxOf (L2.CX P w) P w K mg base ["pen", "many", "rest", "at", "cell", "mixed"] "_law_draw" (defScope s__law_draw) T.fa__law_draw cdv A outer s H E) (fun c d _ H => E c d H) := takes_of rfl rfl rfl rfl
  have hx := fun σ => passAt tk σ
  have hp := passes_of (X := cxOf (L2.CX P w) P w K mg base ["pen", "many", "rest", "at", "cell", "mixed"] "_law_draw" (defScope s__law_draw) T.fa__law_draw cdv A outer s H E) rfl
  exact (dss_cons (ds_if (dt_cmp od_gt (de_pen 0 2) de_int (by rfl)) (dss_cons (ds_set (i := 2) nd (de_callTy cd_int T.nb_int boot_int (dl_cons (de_pen 0 2) dl_nil)))
    (dss_cons (ds_pen 0 2 (de_bin od_fdiv (dv 2) (dv 1)))
    (dss_one (ds_ret (de_bin od_mod (de_callTy cd_int T.nb_int boot_int (dl_cons (dv 2) dl_nil)) (dv 1)))))) dss_nil)
    (dss_cons (ds_set (i := 3) nd (de_pen 0 1))
    (dss_cons (ds_pen 0 1 (de_bin od_add (dv 3) de_int))
    (dss_cons (ds_set (i := 4) nd (de_bin od_add (de_bin od_mul de_int (dv 3)) de_int))
    (dss_cons (ds_if (dt_cmp (od_ne hr.units) (de_pen 0 0) (de_lst dl_nil) (by rfl)) (dss_one (ds_set (i := 4) nd (de_ix xd_ix (de_pen 0 0) (de_bin od_mod (de_callTy cd_int T.nb_int boot_int (dl_cons (dv 3) dl_nil)) (de_callB cd_len T.nb_len PySem.boot_len (dl_cons (de_pen 0 0) dl_nil))) (fun _ _ => rfl)))) dss_nil)
    (dss_cons (ds_if ((dw_and (dt_cmp od_lt (dv 3) (de_callB cd_len T.nb_len PySem.boot_len (dl_cons (de_pen 0 0) dl_nil)) (by rfl)) (dw_and1 (dt_cmp od_ge (de_callB cd_abs T.nb_abs (by decide +kernel) (dl_cons (dv 4) dl_nil)) (de_bin od_pow de_int de_int) (by rfl))))).pt (dss_cons (ds_set (i := 2) nd (de_bin od_add (de_bin od_mul de_int (de_bin od_sub (de_callB cd_abs T.nb_abs (by decide +kernel) (dl_cons (dv 4) dl_nil)) (de_bin od_pow de_int de_int))) (de_callTy cd_int T.nb_int boot_int (dl_cons (de_cmp od_lt (dv 4) de_int (by rfl)) dl_nil))))
    (dss_cons (ds_pen 0 2 (de_bin od_fdiv (de_callTy cd_int T.nb_int boot_int (dl_cons (dv 2) dl_nil)) (dv 1)))
    (dss_one (ds_ret (de_bin od_mod (de_callTy cd_int T.nb_int boot_int (dl_cons (dv 2) dl_nil)) (dv 1)))))) dss_nil)
    (dss_cons (ds_set (i := 5) nd (de_bin od_mod (de_callTy cd_int T.nb_int boot_int (dl_cons (de_bin od_pow (de_bin od_add (de_bin od_add (de_bin od_mod (de_callTy cd_int T.nb_int boot_int (dl_cons (dv 4) dl_nil)) de_int) (de_bin od_mul de_int (dv 3))) de_int) de_int) dl_nil)) de_int))
    (dss_cons (ds_set (i := 5) nd (de_bin od_mod (de_callTy cd_int T.nb_int boot_int (dl_cons (de_bin od_pow (de_bin od_add (de_bin od_add (de_bin od_mul (dv 5) (de_bin od_add (de_bin od_mul de_int (dv 3)) de_int)) (de_bin od_mul (de_bin od_mul de_int (dv 3)) (dv 3))) de_int) de_int) dl_nil)) de_int))
    (dss_one (ds_ret (de_bin od_mod (de_callTy cd_int T.nb_int boot_int (dl_cons (de_bin od_fdiv (dv 5) de_int) dl_nil)) (dv 1))))))))))))

theorem ok__law_pick (T : Tx K mg) (HP : ProgF P T.file) : FnOk P w K mg base (L2.CX P w) 2 T.fa__law_pick T.fd__law_pick ["pen", "some"] (spF ⟨K, mg, gh⟩ m__law_pick) := by
  refine fn_d (N := ["pen", "some"]) (u := b__law_pick) T.F__law_pick sc__law_pick fun cdv A outer s H E hr => ?_
  have nd := sc__law_pick.nd
  have tk : Takes (cxOf (L2.CX P w) P w K mg base ["pen", "some"] "_law_pick" (defScope s__law_pick) T.fa__law_pick cdv A outer s H E) (fun c d _ H => E c d H) := takes_of rfl rfl rfl rfl
  have hx := fun σ => passAt tk σ
  have hp := passes_of (X := cxOf (L2.CX P w) P w K mg base ["pen", "some"] "_law_pick" (defScope s__law_pick) T.fa__law_pick cdv A outer s H E) rfl
  exact (dss_one (ds_ret (de_ix xd_ix (dv 1) (de_call' (ok__law_draw T HP) (hr.mono (by decide)) T.g__law_draw T.F__law_draw.kp (bn__law_draw T) hx (da_pen 0 (da_val (de_callB cd_len T.nb_len PySem.boot_len (dl_cons (dv 1) dl_nil)) da_nil))) (fun _ _ => rfl))))

theorem ok__law_set (T : Tx K mg) (HP : ProgF P T.file) : FnOk P w K mg base (L2.CX P w) 3 T.fa__law_set T.fd__law_set ["pen"] (spF ⟨K, mg, gh⟩ m__law_set) := by
  refine fn_d (N := ["pen", "number", "turn"]) (u := b__law_set) T.F__law_set sc__law_set fun cdv A outer s H E hr => ?_
  have nd := sc__law_set.nd
  have tk : Takes (cxOf (L2.CX P w) P w K mg base ["pen", "number", "turn"] "_law_set" (defScope s__law_set) T.fa__law_set cdv A outer s H E) (fun c d _ H => E c d H) := takes_of rfl rfl rfl rfl
  have hx := fun σ => passAt tk σ
  have hp := passes_of (X := cxOf (L2.CX P w) P w K mg base ["pen", "number", "turn"] "_law_set" (defScope s__law_set) T.fa__law_set cdv A outer s H E) rfl
  exact (dss_cons (ds_set (i := 1) nd de_int)
    (dss_cons (ds_for hp rfl (di_range1 T.nb_range (dl_cons (de_call' (ok__law_draw T HP) (hr.mono (by decide)) T.g__law_draw T.F__law_draw.kp (bn__law_draw T) hx (da_pen 0 (da_val de_int da_nil))) dl_nil) lone) (dg_name (i := 2) nd rfl (by first | exact Or.inl rfl | exact Or.inr rfl)) (dss_one (ds_set (i := 1) nd (de_bin od_mul (dv 1) (de_call' (ok__law_pick T HP) (hr.mono (by decide)) T.g__law_pick T.F__law_pick.kp (bn__law_pick T) hx (da_pen 0 (da_val (de_lst (dl_cons de_int (dl_cons de_int (dl_cons de_int (dl_cons de_int (dl_cons de_int (dl_cons de_int (dl_cons de_int (dl_cons de_int (dl_cons de_int dl_nil)))))))))) da_nil)))))))
    (dss_one (ds_ret (de_tup (dl_cons (de_call' (ok__law_pick T HP) (hr.mono (by decide)) T.g__law_pick T.F__law_pick.kp (bn__law_pick T) hx (da_pen 0 (da_val (de_lst (dl_cons de_str (dl_cons de_str dl_nil))) da_nil))) (dl_cons (dv 1) dl_nil)))))))

theorem ok_is_whole (T : Tx K mg) (HP : ProgF P T.file) : FnOk P w K mg base (L2.CX P w) 1 T.fa_is_whole T.fd_is_whole ["value"] (spF ⟨K, mg, gh⟩ m_is_whole) := by
  refine fn_d (N := ["value"]) (u := b_is_whole) T.F_is_whole sc_is_whole fun cdv A outer s H E hr => ?_
  have nd := sc_is_whole.nd
  have tk : Takes (cxOf (L2.CX P w) P w K mg base ["value"] "is_whole" (defScope s_is_whole) T.fa_is_whole cdv A outer s H E) (fun c d _ H => E c d H) := takes_of rfl rfl rfl rfl
  have hx := fun σ => passAt tk σ
  have hp := passes_of (X := cxOf (L2.CX P w) P w K mg base ["value"] "is_whole" (defScope s_is_whole) T.fa_is_whole cdv A outer s H E) rfl
  exact (dss_one (ds_ret (de_and (de_isi T.nb_isinstance (dv 0) (pe_bltn (v := .ty "int") (by rfl) T.nb_int (by decide +kernel) rfl)) (de_one (de_not (de_isi T.nb_isinstance (dv 0) (pe_bltn (v := .ty "bool") (by rfl) T.nb_bool (by decide +kernel) rfl)))))))

theorem ok_is_within (T : Tx K mg) (HP : ProgF P T.file) : FnOk P w K mg base (L2.CX P w) 2 T.fa_is_within T.fd_is_within ["value", "least", "most"] (spF ⟨K, mg, gh⟩ m_is_within) := by
  refine fn_d (N := ["value", "least", "most"]) (u := b_is_within) T.F_is_within sc_is_within fun cdv A outer s H E hr => ?_
  have nd := sc_is_within.nd
  have tk : Takes (cxOf (L2.CX P w) P w K mg base ["value", "least", "most"] "is_within" (defScope s_is_within) T.fa_is_within cdv A outer s H E) (fun c d _ H => E c d H) := takes_of rfl rfl rfl rfl
  have hx := fun σ => passAt tk σ
  have hp := passes_of (X := cxOf (L2.CX P w) P w K mg base ["value", "least", "most"] "is_within" (defScope s_is_within) T.fa_is_within cdv A outer s H E) rfl
  exact (dss_one (ds_ret (de_and (de_call' (ok_is_whole T HP) (hr.mono (by decide)) T.g_is_whole T.F_is_whole.kp (bn_is_whole T) hx (da_val (dv 0) da_nil)) (de_and (de_cmp od_ge (dv 0) (dv 1) (by rfl)) (de_one (de_or (de_cmp od_isN (dv 2) de_non (by rfl)) (de_one (de_cmp od_le (dv 0) (dv 2) (by rfl)))))))))

theorem ok_is_listed (T : Tx K mg) (HP : ProgF P T.file) : FnOk P w K mg base (L2.CX P w) 1 T.fa_is_listed T.fd_is_listed ["value"] (spF ⟨K, mg, gh⟩ m_is_listed) := by
  refine fn_d (N := ["value"]) (u := b_is_listed) T.F_is_listed sc_is_listed fun cdv A outer s H E hr => ?_
  have nd := sc_is_listed.nd
  have tk : Takes (cxOf (L2.CX P w) P w K mg base ["value"] "is_listed" (defScope s_is_listed) T.fa_is_listed cdv A outer s H E) (fun c d _ H => E c d H) := takes_of rfl rfl rfl rfl
  have hx := fun σ => passAt tk σ
  have hp := passes_of (X := cxOf (L2.CX P w) P w K mg base ["value"] "is_listed" (defScope s_is_listed) T.fa_is_listed cdv A outer s H E) rfl
  exact (dss_one (ds_ret (de_isiT T.nb_isinstance (dv 0) (.cons (pe_bltn (v := .ty "list") (by rfl) T.nb_list (by decide +kernel) rfl) (.cons (pe_bltn (v := .ty "tuple") (by rfl) T.nb_tuple (by decide +kernel) rfl) .nil rfl) rfl))))

theorem ok_is_where (T : Tx K mg) (HP : ProgF P T.file) : FnOk P w K mg base (L2.CX P w) 3 T.fa_is_where T.fd_is_where ["value"] (spF ⟨K, mg, gh⟩ m_is_where) := by
  refine fn_d (N := ["value"]) (u := b_is_where) T.F_is_where sc_is_where fun cdv A outer s H E hr => ?_
  have nd := sc_is_where.nd
  have tk : Takes (cxOf (L2.CX P w) P w K mg base ["value"] "is_where" (defScope s_is_where) T.fa_is_where cdv A outer s H E) (fun c d _ H => E c d H) := takes_of rfl rfl rfl rfl
  have hx := fun σ => passAt tk σ
  have hp := passes_of (X := cxOf (L2.CX P w) P w K mg base ["value"] "is_where" (defScope s_is_where) T.fa_is_where cdv A outer s H E) rfl
  exact (dss_cons (ds_if ((dw_or (dt_not (dt_val (de_call' (ok_is_listed T HP) (hr.mono (by decide)) T.g_is_listed T.F_is_listed.kp (bn_is_listed T) hx (da_val (dv 0) da_nil)))) (dw_or (dt_cmp (od_ne hr.units) (de_callB cd_len T.nb_len PySem.boot_len (dl_cons (dv 0) dl_nil)) de_int (by rfl)) (dw_or (dt_not (dt_val (de_isi T.nb_isinstance (de_ix xd_ix (dv 0) de_int (fun _ _ => rfl)) (pe_bltn (v := .ty "str") (by rfl) T.nb_str (by decide +kernel) rfl)))) (dw_or1 (dt_cmp od_notIn (de_ix xd_ix (dv 0) de_int (fun _ _ => rfl)) (T.dc_WORDS (by rfl) rfl) (by rfl))))))).pt (dss_one (ds_ret de_bl)) dss_nil)
    (dss_one (ds_ret (de_call' (ok_is_within T HP) (hr.mono (by decide)) T.g_is_within T.F_is_within.kp (bn_is_within T) hx (da_val (de_ix xd_ix (dv 0) de_int (fun _ _ => rfl)) (da_val de_int (da_val de_non da_nil)))))))

theorem ok_need_where (T : Tx K mg) (HP : ProgF P T.file) : FnOk P w K mg base (L2.CX P w) 4 T.fa_need_where T.fd_need_where ["value", "part"] (spF ⟨K, mg, gh⟩ m_need_where) := by
  refine fn_d (N := ["value", "part"]) (u := b_need_where) T.F_need_where sc_need_where fun cdv A outer s H E hr => ?_
  have nd := sc_need_where.nd
  have tk : Takes (cxOf (L2.CX P w) P w K mg base ["value", "part"] "need_where" (defScope s_need_where) T.fa_need_where cdv A outer s H E) (fun c d _ H => E c d H) := takes_of rfl rfl rfl rfl
  have hx := fun σ => passAt tk σ
  have hp := passes_of (X := cxOf (L2.CX P w) P w K mg base ["value", "part"] "need_where" (defScope s_need_where) T.fa_need_where cdv A outer s H E) rfl
  exact (dss_cons (ds_if (dt_not (dt_val (de_call' (ok_is_where T HP) (hr.mono (by decide)) T.g_is_where T.F_is_where.kp (bn_is_where T) hx (da_val (dv 0) da_nil)))) (dss_one (ds_raiseD rfl tk T.ex_BadSet HP.1 HP.2 (hr.mono (by decide)) (dv 1))) dss_nil)
    (dss_one (ds_ret (de_tup (dl_cons (de_ix xd_ix (dv 0) de_int (fun _ _ => rfl)) (dl_cons (de_ix xd_ix (dv 0) de_int (fun _ _ => rfl)) dl_nil))))))

theorem ok_other_word (T : Tx K mg) (HP : ProgF P T.file) : FnOk P w K mg base (L2.CX P w) 1 T.fa_other_word T.fd_other_word ["word"] (spF ⟨K, mg, gh⟩ m_other_word) := by
  refine fn_d (N := ["word"]) (u := b_other_word) T.F_other_word sc_other_word fun cdv A outer s H E hr => ?_
  have nd := sc_other_word.nd
  have tk : Takes (cxOf (L2.CX P w) P w K mg base ["word"] "other_word" (defScope s_other_word) T.fa_other_word cdv A outer s H E) (fun c d _ H => E c d H) := takes_of rfl rfl rfl rfl
  have hx := fun σ => passAt tk σ
  have hp := passes_of (X := cxOf (L2.CX P w) P w K mg base ["word"] "other_word" (defScope s_other_word) T.fa_other_word cdv A outer s H E) rfl
  exact (dss_one (ds_ret (de_if (dt_cmp (od_eq hr.units) (dv 0) (T.dc_ONLY (by rfl) rfl) (by rfl)) (T.dc_BUT (by rfl) rfl) (T.dc_ONLY (by rfl) rfl))))

theorem ok_turned_set (T : Tx K mg) (HP : ProgF P T.file) : FnOk P w K mg base (L2.CX P w) 2 T.fa_turned_set T.fd_turned_set ["where"] (spF ⟨K, mg, gh⟩ m_turned_set) := by
  refine fn_d (N := ["where"]) (u := b_turned_set) T.F_turned_set sc_turned_set fun cdv A outer s H E hr => ?_
  have nd := sc_turned_set.nd
  have tk : Takes (cxOf (L2.CX P w) P w K mg base ["where"] "turned_set" (defScope s_turned_set) T.fa_turned_set cdv A outer s H E) (fun c d _ H => E c d H) := takes_of rfl rfl rfl rfl
  have hx := fun σ => passAt tk σ
  have hp := passes_of (X := cxOf (L2.CX P w) P w K mg base ["where"] "turned_set" (defScope s_turned_set) T.fa_turned_set cdv A outer s H E) rfl
  exact (dss_one (ds_ret (de_tup (dl_cons (de_call' (ok_other_word T HP) (hr.mono (by decide)) T.g_other_word T.F_other_word.kp (bn_other_word T) hx (da_val (de_ix xd_ix (dv 0) de_int (fun _ _ => rfl)) da_nil)) (dl_cons (de_ix xd_ix (dv 0) de_int (fun _ _ => rfl)) dl_nil)))))

theorem ok_without_primes (T : Tx K mg) (HP : ProgF P T.file) : FnOk P w K mg base (L2.CX P w) 1 T.fa_without_primes T.fd_without_primes ["number", "other"] (spF ⟨K, mg, gh⟩ m_without_primes) := by
  refine fn_d (N := ["number", "other", "found"]) (u := b_without_primes) T.F_without_primes sc_without_primes fun cdv A outer s H E hr => ?_
  have nd := sc_without_primes.nd
  have tk : Takes (cxOf (L2.CX P w) P w K mg base ["number", "other", "found"] "without_primes" (defScope s_without_primes) T.fa_without_primes cdv A outer s H E) (fun c d _ H => E c d H) := takes_of rfl rfl rfl rfl
  have hx := fun σ => passAt tk σ
  have hp := passes_of (X := cxOf (L2.CX P w) P w K mg base ["number", "other", "found"] "without_primes" (defScope s_without_primes) T.fa_without_primes cdv A outer s H E) rfl
  exact (dss_cons (ds_set (i := 2) nd (dv 0))
    (dss_cons (ds_while (fuelV 2) hp (dt_cmp od_gt (de_callF cd_gcd T.gi_gcd (dl_cons (dv 2) (dl_cons (dv 1) dl_nil))) de_int (by rfl)) (dss_one (ds_set (i := 2) nd (de_bin od_fdiv (dv 2) (de_callF cd_gcd T.gi_gcd (dl_cons (dv 2) (dl_cons (dv 1) dl_nil)))))))
    (dss_one (ds_ret (dv 2)))))

theorem ok_met (T : Tx K mg) (HP : ProgF P T.file) : FnOk P w K mg base (L2.CX P w) 2 T.fa_met T.fd_met ["one", "other"] (spF ⟨K, mg, gh⟩ m_met) := by
  refine fn_d (N := ["one", "other", "few", "many"]) (u := b_met) T.F_met sc_met fun cdv A outer s H E hr => ?_
  have nd := sc_met.nd
  have tk : Takes (cxOf (L2.CX P w) P w K mg base ["one", "other", "few", "many"] "met" (defScope s_met) T.fa_met cdv A outer s H E) (fun c d _ H => E c d H) := takes_of rfl rfl rfl rfl
  have hx := fun σ => passAt tk σ
  have hp := passes_of (X := cxOf (L2.CX P w) P w K mg base ["one", "other", "few", "many"] "met" (defScope s_met) T.fa_met cdv A outer s H E) rfl
  exact (dss_cons (ds_if ((dw_and (dt_cmp (od_eq hr.units) (de_ix xd_ix (dv 0) de_int (fun _ _ => rfl)) (T.dc_BUT (by rfl) rfl) (by rfl)) (dw_and1 (dt_cmp (od_eq hr.units) (de_ix xd_ix (dv 1) de_int (fun _ _ => rfl)) (T.dc_BUT (by rfl) rfl) (by rfl))))).pt (dss_one (ds_ret (de_tup (dl_cons (T.dc_BUT (by rfl) rfl) (dl_cons (de_bin od_fdiv (de_bin od_mul (de_ix xd_ix (dv 0) de_int (fun _ _ => rfl)) (de_ix xd_ix (dv 1) de_int (fun _ _ => rfl))) (de_callF cd_gcd T.gi_gcd (dl_cons (de_ix xd_ix (dv 0) de_int (fun _ _ => rfl)) (dl_cons (de_ix xd_ix (dv 1) de_int (fun _ _ => rfl)) dl_nil)))) dl_nil))))) dss_nil)
    (dss_cons (ds_if ((dw_and (dt_cmp (od_eq hr.units) (de_ix xd_ix (dv 0) de_int (fun _ _ => rfl)) (T.dc_ONLY (by rfl) rfl) (by rfl)) (dw_and1 (dt_cmp (od_eq hr.units) (de_ix xd_ix (dv 1) de_int (fun _ _ => rfl)) (T.dc_ONLY (by rfl) rfl) (by rfl))))).pt (dss_one (ds_ret (de_tup (dl_cons (T.dc_ONLY (by rfl) rfl) (dl_cons (de_callF cd_gcd T.gi_gcd (dl_cons (de_ix xd_ix (dv 0) de_int (fun _ _ => rfl)) (dl_cons (de_ix xd_ix (dv 1) de_int (fun _ _ => rfl)) dl_nil))) dl_nil))))) dss_nil)
    (dss_cons (ds_asg (de_if (dt_cmp (od_eq hr.units) (de_ix xd_ix (dv 0) de_int (fun _ _ => rfl)) (T.dc_ONLY (by rfl) rfl) (by rfl)) (de_tup (dl_cons (dv 0) (dl_cons (dv 1) dl_nil))) (de_tup (dl_cons (dv 1) (dl_cons (dv 0) dl_nil)))) (dg_tup rfl (dgs_cons (dg_name (i := 2) nd rfl (by first | exact Or.inl rfl | exact Or.inr rfl)) (dgs_cons (dg_name (i := 3) nd rfl (by first | exact Or.inl rfl | exact Or.inr rfl)) dgs_nil))))
    (dss_one (ds_ret (de_tup (dl_cons (T.dc_ONLY (by rfl) rfl) (dl_cons (de_call' (ok_without_primes T HP) (hr.mono (by decide)) T.g_without_primes T.F_without_primes.kp (bn_without_primes T) hx (da_val (de_ix xd_ix (dv 2) de_int (fun _ _ => rfl)) (da_val (de_ix xd_ix (dv 3) de_int (fun _ _ => rfl)) da_nil))) dl_nil))))))))

theorem ok_joined (T : Tx K mg) (HP : ProgF P T.file) : FnOk P w K mg base (L2.CX P w) 3 T.fa_joined T.fd_joined ["one", "other"] (spF ⟨K, mg, gh⟩ m_joined) := by
  refine fn_d (N := ["one", "other"]) (u := b_joined) T.F_joined sc_joined fun cdv A outer s H E hr => ?_
  have nd := sc_joined.nd
  have tk : Takes (cxOf (L2.CX P w) P w K mg base ["one", "other"] "joined" (defScope s_joined) T.fa_joined cdv A outer s H E) (fun c d _ H => E c d H) := takes_of rfl rfl rfl rfl
  have hx := fun σ => passAt tk σ
  have hp := passes_of (X := cxOf (L2.CX P w) P w K mg base ["one", "other"] "joined" (defScope s_joined) T.fa_joined cdv A outer s H E) rfl
  exact (dss_one (ds_ret (de_call' (ok_turned_set T HP) (hr.mono (by decide)) T.g_turned_set T.F_turned_set.kp (bn_turned_set T) hx (da_val (de_call' (ok_met T HP) (hr.mono (by decide)) T.g_met T.F_met.kp (bn_met T) hx (da_val (de_call' (ok_turned_set T HP) (hr.mono (by decide)) T.g_turned_set T.F_turned_set.kp (bn_turned_set T) hx (da_val (dv 0) da_nil)) (da_val (de_call' (ok_turned_set T HP) (hr.mono (by decide)) T.g_turned_set T.F_turned_set.kp (bn_turned_set T) hx (da_val (dv 1) da_nil)) da_nil))) da_nil))))

theorem ok_join (T : Tx K mg) (HP : ProgF P T.file) : FnOk P w K mg base (L2.CX P w) 5 T.fa_join T.fd_join ["one", "other"] (spF ⟨K, mg, gh⟩ m_join) := by
  refine fn_d (N := ["one", "other"]) (u := b_join) T.F_join sc_join fun cdv A outer s H E hr => ?_
  have nd := sc_join.nd
  have tk : Takes (cxOf (L2.CX P w) P w K mg base ["one", "other"] "join" (defScope s_join) T.fa_join cdv A outer s H E) (fun c d _ H => E c d H) := takes_of rfl rfl rfl rfl
  have hx := fun σ => passAt tk σ
  have hp := passes_of (X := cxOf (L2.CX P w) P w K mg base ["one", "other"] "join" (defScope s_join) T.fa_join cdv A outer s H E) rfl
  exact (dss_one (ds_ret (de_call' (ok_joined T HP) (hr.mono (by decide)) T.g_joined T.F_joined.kp (bn_joined T) hx (da_val (de_call' (ok_need_where T HP) (hr.mono (by decide)) T.g_need_where T.F_need_where.kp (bn_need_where T) hx (da_val (dv 0) (da_val de_str da_nil))) (da_val (de_call' (ok_need_where T HP) (hr.mono (by decide)) T.g_need_where T.F_need_where.kp (bn_need_where T) hx (da_val (dv 1) (da_val de_str da_nil))) da_nil)))))

theorem ok_meet (T : Tx K mg) (HP : ProgF P T.file) : FnOk P w K mg base (L2.CX P w) 5 T.fa_meet T.fd_meet ["one", "other"] (spF ⟨K, mg, gh⟩ m_meet) := by
  refine fn_d (N := ["one", "other"]) (u := b_meet) T.F_meet sc_meet fun cdv A outer s H E hr => ?_
  have nd := sc_meet.nd
  have tk : Takes (cxOf (L2.CX P w) P w K mg base ["one", "other"] "meet" (defScope s_meet) T.fa_meet cdv A outer s H E) (fun c d _ H => E c d H) := takes_of rfl rfl rfl rfl
  have hx := fun σ => passAt tk σ
  have hp := passes_of (X := cxOf (L2.CX P w) P w K mg base ["one", "other"] "meet" (defScope s_meet) T.fa_meet cdv A outer s H E) rfl
  exact (dss_one (ds_ret (de_call' (ok_met T HP) (hr.mono (by decide)) T.g_met T.F_met.kp (bn_met T) hx (da_val (de_call' (ok_need_where T HP) (hr.mono (by decide)) T.g_need_where T.F_need_where.kp (bn_need_where T) hx (da_val (dv 0) (da_val de_str da_nil))) (da_val (de_call' (ok_need_where T HP) (hr.mono (by decide)) T.g_need_where T.F_need_where.kp (bn_need_where T) hx (da_val (dv 1) (da_val de_str da_nil))) da_nil)))))

theorem ok_others (T : Tx K mg) (HP : ProgF P T.file) : FnOk P w K mg base (L2.CX P w) 5 T.fa_others T.fd_others ["where"] (spF ⟨K, mg, gh⟩ m_others) := by
  refine fn_d (N := ["where"]) (u := b_others) T.F_others sc_others fun cdv A outer s H E hr => ?_
  have nd := sc_others.nd
  have tk : Takes (cxOf (L2.CX P w) P w K mg base ["where"] "others" (defScope s_others) T.fa_others cdv A outer s H E) (fun c d _ H => E c d H) := takes_of rfl rfl rfl rfl
  have hx := fun σ => passAt tk σ
  have hp := passes_of (X := cxOf (L2.CX P w) P w K mg base ["where"] "others" (defScope s_others) T.fa_others cdv A outer s H E) rfl
  exact (dss_one (ds_ret (de_call' (ok_turned_set T HP) (hr.mono (by decide)) T.g_turned_set T.F_turned_set.kp (bn_turned_set T) hx (da_val (de_call' (ok_need_where T HP) (hr.mono (by decide)) T.g_need_where T.F_need_where.kp (bn_need_where T) hx (da_val (dv 0) (da_val de_str da_nil))) da_nil))))

theorem ok_has (T : Tx K mg) (HP : ProgF P T.file) : FnOk P w K mg base (L2.CX P w) 1 T.fa_has T.fd_has ["where", "prime"] (spF ⟨K, mg, gh⟩ m_has) := by
  refine fn_d (N := ["where", "prime"]) (u := b_has) T.F_has sc_has fun cdv A outer s H E hr => ?_
  have nd := sc_has.nd
  have tk : Takes (cxOf (L2.CX P w) P w K mg base ["where", "prime"] "has" (defScope s_has) T.fa_has cdv A outer s H E) (fun c d _ H => E c d H) := takes_of rfl rfl rfl rfl
  have hx := fun σ => passAt tk σ
  have hp := passes_of (X := cxOf (L2.CX P w) P w K mg base ["where", "prime"] "has" (defScope s_has) T.fa_has cdv A outer s H E) rfl
  exact (dss_cons (ds_if (dt_cmp (od_eq hr.units) (dv 1) de_int (by rfl)) (dss_one (ds_ret (de_cmp (od_eq hr.units) (de_ix xd_ix (dv 0) de_int (fun _ _ => rfl)) (T.dc_BUT (by rfl) rfl) (by rfl)))) dss_nil)
    (dss_one (ds_ret (de_cmp (od_eq hr.units) (de_cmp (od_eq hr.units) (de_bin od_mod (de_ix xd_ix (dv 0) de_int (fun _ _ => rfl)) (dv 1)) de_int (by rfl)) (de_cmp (od_eq hr.units) (de_ix xd_ix (dv 0) de_int (fun _ _ => rfl)) (T.dc_ONLY (by rfl) rfl) (by rfl)) (by rfl)))))

theorem ok_power_below (T : Tx K mg) (HP : ProgF P T.file) : FnOk P w K mg base (L2.CX P w) 1 T.fa_power_below T.fd_power_below ["base", "power", "number"] (spF ⟨K, mg, gh⟩ m_power_below) := by
  refine fn_d (N := ["base", "power", "number", "found", "here"]) (u := b_power_below) T.F_power_below sc_power_below fun cdv A outer s H E hr => ?_
  have nd := sc_power_below.nd
  have tk : Takes (cxOf (L2.CX P w) P w K mg base ["base", "power", "number", "found", "here"] "power_below" (defScope s_power_below) T.fa_power_below cdv A outer s H E) (fun c d _ H => E c d H) := takes_of rfl rfl rfl rfl
  have hx := fun σ => passAt tk σ
  have hp := passes_of (X := cxOf (L2.CX P w) P w K mg base ["base", "power", "number", "found", "here"] "power_below" (defScope s_power_below) T.fa_power_below cdv A outer s H E) rfl
  exact (dss_cons (ds_par (i := 3) (j := 4) rfl nd (dl_cons de_int (dl_cons (de_bin od_mod (dv 0) (dv 2)) dl_nil)))
    (dss_cons (ds_while (fuelV 1) hp (dt_cmp od_gt (dv 1) de_int (by rfl)) (dss_cons (ds_if (dt_cmp (od_eq hr.units) (de_bin od_mod (dv 1) de_int) de_int (by rfl)) (dss_one (ds_set (i := 3) nd (de_bin od_mod (de_bin od_mul (dv 3) (dv 4)) (dv 2)))) dss_nil)
    (dss_one (ds_par (i := 4) (j := 1) rfl nd (dl_cons (de_bin od_mod (de_bin od_mul (dv 4) (dv 4)) (dv 2)) (dl_cons (de_bin od_fdiv (dv 1) de_int) dl_nil))))))
    (dss_one (ds_ret (dv 3)))))

theorem ok_stands (T : Tx K mg) (HP : ProgF P T.file) : FnOk P w K mg base (L2.CX P w) 2 T.fa_stands T.fd_stands ["number", "base"] (spF ⟨K, mg, gh⟩ m_stands) := by
  refine fn_d (N := ["number", "base", "odd", "twos", "here", "turn"]) (u := b_stands) T.F_stands sc_stands fun cdv A outer s H E hr => ?_
  have nd := sc_stands.nd
  have tk : Takes (cxOf (L2.CX P w) P w K mg base ["number", "base", "odd", "twos", "here", "turn"] "stands" (defScope s_stands) T.fa_stands cdv A outer s H E) (fun c d _ H => E c d H) := takes_of rfl rfl rfl rfl
  have hx := fun σ => passAt tk σ
  have hp := passes_of (X := cxOf (L2.CX P w) P w K mg base ["number", "base", "odd", "twos", "here", "turn"] "stands" (defScope s_stands) T.fa_stands cdv A outer s H E) rfl
  exact (dss_cons (ds_par (i := 2) (j := 3) rfl nd (dl_cons (de_bin od_sub (dv 0) de_int) (dl_cons de_int dl_nil)))
    (dss_cons (ds_while (fuelV 2) hp (dt_cmp (od_eq hr.units) (de_bin od_mod (dv 2) de_int) de_int (by rfl)) (dss_one (ds_par (i := 2) (j := 3) rfl nd (dl_cons (de_bin od_fdiv (dv 2) de_int) (dl_cons (de_bin od_add (dv 3) de_int) dl_nil)))))
    (dss_cons (ds_set (i := 4) nd (de_call' (ok_power_below T HP) (hr.mono (by decide)) T.g_power_below T.F_power_below.kp (bn_power_below T) hx (da_val (dv 1) (da_val (dv 2) (da_val (dv 0) da_nil)))))
    (dss_cons (ds_if (dt_cmp od_in (dv 4) (de_tup (dl_cons de_int (dl_cons (de_bin od_sub (dv 0) de_int) dl_nil))) (by rfl)) (dss_one (ds_ret de_bl)) dss_nil)
    (dss_cons (ds_for hp rfl (di_range1 T.nb_range (dl_cons (de_bin od_sub (dv 3) de_int) dl_nil) lone) (dg_name (i := 5) nd rfl (by first | exact Or.inl rfl | exact Or.inr rfl)) (dss_cons (ds_set (i := 4) nd (de_bin od_mod (de_bin od_mul (dv 4) (dv 4)) (dv 0)))
    (dss_one (ds_if (dt_cmp (od_eq hr.units) (dv 4) (de_bin od_sub (dv 0) de_int) (by rfl)) (dss_one (ds_ret de_bl)) dss_nil))))
    (dss_one (ds_ret de_bl)))))))

theorem ok_prime (T : Tx K mg) (HP : ProgF P T.file) : FnOk P w K mg base (L2.CX P w) 3 T.fa_prime T.fd_prime ["number"] (spF ⟨K, mg, gh⟩ m_prime) := by
  refine fn_d (N := ["number", "base"]) (u := b_prime) T.F_prime sc_prime fun cdv A outer s H E hr => ?_
  have nd := sc_prime.nd
  have tk : Takes (cxOf (L2.CX P w) P w K mg base ["number", "base"] "prime" (defScope s_prime) T.fa_prime cdv A outer s H E) (fun c d _ H => E c d H) := takes_of rfl rfl rfl rfl
  have hx := fun σ => passAt tk σ
  have hp := passes_of (X := cxOf (L2.CX P w) P w K mg base ["number", "base"] "prime" (defScope s_prime) T.fa_prime cdv A outer s H E) rfl
  exact (dss_cons (ds_if (dt_cmp od_lt (dv 0) de_int (by rfl)) (dss_one (ds_ret de_bl)) dss_nil)
    (dss_cons (ds_for hp rfl (di_seq (T.dc_BASES (by rfl) rfl)) (dg_name (i := 1) nd rfl (by first | exact Or.inl rfl | exact Or.inr rfl)) (dss_one (ds_if (dt_cmp (od_eq hr.units) (de_bin od_mod (dv 0) (dv 1)) de_int (by rfl)) (dss_one (ds_ret (de_cmp (od_eq hr.units) (dv 0) (dv 1) (by rfl)))) dss_nil)))
    (dss_one (ds_ret (de_callB (cd_all rfl) T.nb_all (by decide +kernel) (dl_cons (de_lc (own := [("base", 1)]) rfl nd (di_seq (T.dc_BASES (by rfl) rfl)) (blkOk_by (own := [("base", 1)]) (N := ["number", "base"]) (sc := defScope s_prime) (by decide +kernel)) (fun _ _ _ _ _ => (dg_name (i := 1) nd rfl (by first | exact Or.inl rfl | exact Or.inr rfl))) (fun _ _ _ _ _ => dts_nil) (fun _ _ _ _ _ => (de_call' (ok_stands T HP) (hr.mono (by decide)) T.g_stands T.F_stands.kp (bn_stands T) (fun _ => passF) (da_val (dv 0) (da_val (dv 1) da_nil))))) dl_nil))))))

theorem ok_is_prime (T : Tx K mg) (HP : ProgF P T.file) : FnOk P w K mg base (L2.CX P w) 4 T.fa_is_prime T.fd_is_prime ["number"] (spF ⟨K, mg, gh⟩ m_is_prime) := by
  refine fn_d (N := ["number"]) (u := b_is_prime) T.F_is_prime sc_is_prime fun cdv A outer s H E hr => ?_
  have nd := sc_is_prime.nd
  have tk : Takes (cxOf (L2.CX P w) P w K mg base ["number"] "is_prime" (defScope s_is_prime) T.fa_is_prime cdv A outer s H E) (fun c d _ H => E c d H) := takes_of rfl rfl rfl rfl
  have hx := fun σ => passAt tk σ
  have hp := passes_of (X := cxOf (L2.CX P w) P w K mg base ["number"] "is_prime" (defScope s_is_prime) T.fa_is_prime cdv A outer s H E) rfl
  exact (dss_one (ds_ret (de_and (de_call' (ok_is_whole T HP) (hr.mono (by decide)) T.g_is_whole T.F_is_whole.kp (bn_is_whole T) hx (da_val (dv 0) da_nil)) (de_and (de_chain od_le od_lt de_int (dv 0) (T.dc_MOST (by rfl) rfl) (by rfl)) (de_one (de_call' (ok_prime T HP) (hr.mono (by decide)) T.g_prime T.F_prime.kp (bn_prime T) hx (da_val (dv 0) da_nil)))))))

theorem ok_need_prime (T : Tx K mg) (HP : ProgF P T.file) : FnOk P w K mg base (L2.CX P w) 5 T.fa_need_prime T.fd_need_prime ["value", "part"] (spF ⟨K, mg, gh⟩ m_need_prime) := by
  refine fn_d (N := ["value", "part"]) (u := b_need_prime) T.F_need_prime sc_need_prime fun cdv A outer s H E hr => ?_
  have nd := sc_need_prime.nd
  have tk : Takes (cxOf (L2.CX P w) P w K mg base ["value", "part"] "need_prime" (defScope s_need_prime) T.fa_need_prime cdv A outer s H E) (fun c d _ H => E c d H) := takes_of rfl rfl rfl rfl
  have hx := fun σ => passAt tk σ
  have hp := passes_of (X := cxOf (L2.CX P w) P w K mg base ["value", "part"] "need_prime" (defScope s_need_prime) T.fa_need_prime cdv A outer s H E) rfl
  exact (dss_one (ds_if ((dw_or (dt_not (dt_val (de_call' (ok_is_within T HP) (hr.mono (by decide)) T.g_is_within T.F_is_within.kp (bn_is_within T) hx (da_val (dv 0) (da_val de_int (da_val (T.dc_MOST_CHARACTERISTIC (by rfl) rfl) da_nil)))))) (dw_or1 ((dw_and (dt_cmp (od_ne hr.units) (dv 0) de_int (by rfl)) (dw_and1 (dt_not (dt_val (de_call' (ok_is_prime T HP) (hr.mono (by decide)) T.g_is_prime T.F_is_prime.kp (bn_is_prime T) hx (da_val (dv 0) da_nil))))))).pt))).pt (dss_one (ds_raiseD rfl tk T.ex_BadNumber HP.1 HP.2 (hr.mono (by decide)) (dv 1))) dss_nil))
theorem dc_need_prime_1 (T : Tx K mg) {X : Cx} (HP : ProgF X.prog T.file) {W : WX} {e : Expr} {es : List Expr} {f : AM} {p pos : Pos} (hr : Room 5 X.A) (hx : ∀ σ, PassesAt (L2.CX X.prog X.w) X σ (fun c d H => W c d σ H)) (ha : PA X (e :: es) (tA ⟨K, mg, gh⟩ W f)) (hK : X.K = K := by rfl) (hmg : X.mg = mg := by rfl) (hg : Gl X "need_prime" := by rfl)
    (he : starEach (e :: es) X.env = (false, eval e X.env) :: starEach es X.env := by rfl) (hpl : (backTo pos (starEach es X.env)).any (·.1) = false := by rfl) : PE X (.Call (.Name "need_prime" p) (e :: es) [] pos) (tD ⟨K, mg, gh⟩ W (eCall (fun as => m_need_prime (as ++ ([(.str "prime")] : List D).map .val)) f)) := by
  subst hK hmg
  obtain ⟨ds, h1, h2⟩ := T.F_need_prime.binds1 (ps := ["value", "part"]) 1 0 (by simp) (by decide) (fun _ _ _ _ _ _ _ us its h1 h2 => match us, its, h1, h2 with | [_], [_], _, _ => ⟨_, rfl, rfl⟩)
  exact de_call (dds := [(.str "prime")]) (ok_need_prime T HP) hr T.g_need_prime T.F_need_prime.kp h2 h1 (fun _ => (.cons (.str _) .nil)) hx ha hg (by decide) he hpl
theorem ok_is_in (T : Tx K mg) (HP : ProgF P T.file) : FnOk P w K mg base (L2.CX P w) 6 T.fa_is_in T.fd_is_in ["where", "prime"] (spF ⟨K, mg, gh⟩ m_is_in) := by
  refine fn_d (N := ["where", "prime", "told"]) (u := b_is_in) T.F_is_in sc_is_in fun cdv A outer s H E hr => ?_
  have nd := sc_is_in.nd
  have tk : Takes (cxOf (L2.CX P w) P w K mg base ["where", "prime", "told"] "is_in" (defScope s_is_in) T.fa_is_in cdv A outer s H E) (fun c d _ H => E c d H) := takes_of rfl rfl rfl rfl
  have hx := fun σ => passAt tk σ
  have hp := passes_of (X := cxOf (L2.CX P w) P w K mg base ["where", "prime", "told"] "is_in" (defScope s_is_in) T.fa_is_in cdv A outer s H E) rfl
  exact (dss_cons (ds_set (i := 2) nd (de_call' (ok_need_where T HP) (hr.mono (by decide)) T.g_need_where T.F_need_where.kp (bn_need_where T) hx (da_val (dv 0) (da_val de_str da_nil))))
    (dss_cons (ds_expr (dc_need_prime_1 T HP (hr.mono (by decide)) hx (da_val (dv 1) da_nil)))
    (dss_one (ds_ret (de_call' (ok_has T HP) (hr.mono (by decide)) T.g_has T.F_has.kp (bn_has T) hx (da_val (dv 2) (da_val (dv 1) da_nil)))))))

theorem ok_is_same (T : Tx K mg) (HP : ProgF P T.file) : FnOk P w K mg base (L2.CX P w) 2 T.fa_is_same T.fd_is_same ["one", "other"] (spF ⟨K, mg, gh⟩ m_is_same) := by
  refine fn_d (N := ["one", "other"]) (u := b_is_same) T.F_is_same sc_is_same fun cdv A outer s H E hr => ?_
  have nd := sc_is_same.nd
  have tk : Takes (cxOf (L2.CX P w) P w K mg base ["one", "other"] "is_same" (defScope s_is_same) T.fa_is_same cdv A outer s H E) (fun c d _ H => E c d H) := takes_of rfl rfl rfl rfl
  have hx := fun σ => passAt tk σ
  have hp := passes_of (X := cxOf (L2.CX P w) P w K mg base ["one", "other"] "is_same" (defScope s_is_same) T.fa_is_same cdv A outer s H E) rfl
  exact (dss_cons (ds_if (dt_cmp (od_ne hr.units) (de_ix xd_ix (dv 0) de_int (fun _ _ => rfl)) (de_ix xd_ix (dv 1) de_int (fun _ _ => rfl)) (by rfl)) (dss_one (ds_ret de_bl)) dss_nil)
    (dss_one (ds_ret (de_and (de_cmp (od_eq hr.units) (de_call' (ok_without_primes T HP) (hr.mono (by decide)) T.g_without_primes T.F_without_primes.kp (bn_without_primes T) hx (da_val (de_ix xd_ix (dv 0) de_int (fun _ _ => rfl)) (da_val (de_ix xd_ix (dv 1) de_int (fun _ _ => rfl)) da_nil))) de_int (by rfl)) (de_one (de_cmp (od_eq hr.units) (de_call' (ok_without_primes T HP) (hr.mono (by decide)) T.g_without_primes T.F_without_primes.kp (bn_without_primes T) hx (da_val (de_ix xd_ix (dv 1) de_int (fun _ _ => rfl)) (da_val (de_ix xd_ix (dv 0) de_int (fun _ _ => rfl)) da_nil))) de_int (by rfl)))))))

theorem ok_are_same (T : Tx K mg) (HP : ProgF P T.file) : FnOk P w K mg base (L2.CX P w) 5 T.fa_are_same T.fd_are_same ["one", "other"] (spF ⟨K, mg, gh⟩ m_are_same) := by
  refine fn_d (N := ["one", "other"]) (u := b_are_same) T.F_are_same sc_are_same fun cdv A outer s H E hr => ?_
  have nd := sc_are_same.nd
  have tk : Takes (cxOf (L2.CX P w) P w K mg base ["one", "other"] "are_same" (defScope s_are_same) T.fa_are_same cdv A outer s H E) (fun c d _ H => E c d H) := takes_of rfl rfl rfl rfl
  have hx := fun σ => passAt tk σ
  have hp := passes_of (X := cxOf (L2.CX P w) P w K mg base ["one", "other"] "are_same" (defScope s_are_same) T.fa_are_same cdv A outer s H E) rfl
  exact (dss_one (ds_ret (de_call' (ok_is_same T HP) (hr.mono (by decide)) T.g_is_same T.F_is_same.kp (bn_is_same T) hx (da_val (de_call' (ok_need_where T HP) (hr.mono (by decide)) T.g_need_where T.F_need_where.kp (bn_need_where T) hx (da_val (dv 0) (da_val de_str da_nil))) (da_val (de_call' (ok_need_where T HP) (hr.mono (by decide)) T.g_need_where T.F_need_where.kp (bn_need_where T) hx (da_val (dv 1) (da_val de_str da_nil))) da_nil)))))

theorem ok_need_whole (T : Tx K mg) (HP : ProgF P T.file) : FnOk P w K mg base (L2.CX P w) 3 T.fa_need_whole T.fd_need_whole ["part", "value", "least", "most"] (spF ⟨K, mg, gh⟩ m_need_whole) := by
  refine fn_d (N := ["part", "value", "least", "most"]) (u := b_need_whole) T.F_need_whole sc_need_whole fun cdv A outer s H E hr => ?_
  have nd := sc_need_whole.nd
  have tk : Takes (cxOf (L2.CX P w) P w K mg base ["part", "value", "least", "most"] "need_whole" (defScope s_need_whole) T.fa_need_whole cdv A outer s H E) (fun c d _ H => E c d H) := takes_of rfl rfl rfl rfl
  have hx := fun σ => passAt tk σ
  have hp := passes_of (X := cxOf (L2.CX P w) P w K mg base ["part", "value", "least", "most"] "need_whole" (defScope s_need_whole) T.fa_need_whole cdv A outer s H E) rfl
  exact (dss_cons (ds_if (dt_not (dt_val (de_call' (ok_is_within T HP) (hr.mono (by decide)) T.g_is_within T.F_is_within.kp (bn_is_within T) hx (da_val (dv 1) (da_val (dv 2) (da_val (dv 3) da_nil)))))) (dss_one (ds_raiseD rfl tk T.ex_BadNumber HP.1 HP.2 (hr.mono (by decide)) (dv 0))) dss_nil)
    (dss_one (ds_ret (dv 1))))
theorem dc_need_whole_3 (T : Tx K mg) {X : Cx} (HP : ProgF X.prog T.file) {W : WX} {e : Expr} {es : List Expr} {f : AM} {p pos : Pos} (hr : Room 3 X.A) (hx : ∀ σ, PassesAt (L2.CX X.prog X.w) X σ (fun c d H => W c d σ H)) (ha : PA X (e :: es) (tA ⟨K, mg, gh⟩ W f)) (hK : X.K = K := by rfl) (hmg : X.mg = mg := by rfl) (hg : Gl X "need_whole" := by rfl)
    (he : starEach (e :: es) X.env = (false, eval e X.env) :: starEach es X.env := by rfl) (hpl : (backTo pos (starEach es X.env)).any (·.1) = false := by rfl) : PE X (.Call (.Name "need_whole" p) (e :: es) [] pos) (tD ⟨K, mg, gh⟩ W (eCall (fun as => m_need_whole (as ++ ([.non] : List D).map .val)) f)) := by
  subst hK hmg
  obtain ⟨ds, h1, h2⟩ := T.F_need_whole.binds1 (ps := ["part", "value", "least", "most"]) 3 0 (by simp) (by decide) (fun _ _ _ _ _ _ _ us its h1 h2 => match us, its, h1, h2 with | [_, _, _], [_], _, _ => ⟨_, rfl, rfl⟩)
  exact de_call (dds := [.non]) (ok_need_whole T HP) hr T.g_need_whole T.F_need_whole.kp h2 h1 (fun _ => (.cons .non .nil)) hx ha hg (by decide) he hpl
theorem ok_parts_found (T : Tx K mg) (HP : ProgF P T.file) : FnOk P w K mg base (L2.CX P w) 1 T.fa_parts_found T.fd_parts_found ["number"] (spF ⟨K, mg, gh⟩ m_parts_found) := by
  refine fn_d (N := ["number", "found", "here", "many"]) (u := b_parts_found) T.F_parts_found sc_parts_found fun cdv A outer s H E hr => ?_
  have nd := sc_parts_found.nd
  have tk : Takes (cxOf (L2.CX P w) P w K mg base ["number", "found", "here", "many"] "parts_found" (defScope s_parts_found) T.fa_parts_found cdv A outer s H E) (fun c d _ H => E c d H) := takes_of rfl rfl rfl rfl
  have hx := fun σ => passAt tk σ
  have hp := passes_of (X := cxOf (L2.CX P w) P w K mg base ["number", "found", "here", "many"] "parts_found" (defScope s_parts_found) T.fa_parts_found cdv A outer s H E) rfl
  exact (dss_cons (ds_parL (i := 1) (j := 2) rfl nd dl_nil de_int)
    (dss_cons (ds_while (fuelV 0) hp ((dw_and (dt_cmp od_lt (dv 2) (T.dc_SMALL (by rfl) rfl) (by rfl)) (dw_and1 (dt_cmp od_le (de_bin od_mul (dv 2) (dv 2)) (dv 0) (by rfl))))).pt (dss_cons (ds_set (i := 3) nd de_int)
    (dss_cons (ds_while (fun _ => 100000) hp (dt_cmp (od_eq hr.units) (de_bin od_mod (dv 0) (dv 2)) de_int (by rfl)) (dss_one (ds_par (i := 0) (j := 3) rfl nd (dl_cons (de_bin od_fdiv (dv 0) (dv 2)) (dl_cons (de_bin od_add (dv 3) de_int) dl_nil)))))
    (dss_cons (ds_if (dt_cmp od_gt (dv 3) de_int (by rfl)) (dss_one (ds_app (i := 1) (de_tup (dl_cons (dv 2) (dl_cons (dv 3) dl_nil))))) dss_nil)
    (dss_one (ds_aug (i := 2) ipd_add nd (de_if (dt_cmp (od_eq hr.units) (dv 2) de_int (by rfl)) de_int de_int)))))))
    (dss_one (ds_frz 1 (ds_ret (de_tup (dl_cons (dv 1) (dl_cons (dv 0) dl_nil))))))))

theorem ok_parted (T : Tx K mg) (HP : ProgF P T.file) : FnOk P w K mg base (L2.CX P w) 4 T.fa_parted T.fd_parted ["number"] (spF ⟨K, mg, gh⟩ m_parted) := by
  refine fn_d (N := ["number", "found", "left"]) (u := b_parted) T.F_parted sc_parted fun cdv A outer s H E hr => ?_
  have nd := sc_parted.nd
  have tk : Takes (cxOf (L2.CX P w) P w K mg base ["number", "found", "left"] "parted" (defScope s_parted) T.fa_parted cdv A outer s H E) (fun c d _ H => E c d H) := takes_of rfl rfl rfl rfl
  have hx := fun σ => passAt tk σ
  have hp := passes_of (X := cxOf (L2.CX P w) P w K mg base ["number", "found", "left"] "parted" (defScope s_parted) T.fa_parted cdv A outer s H E) rfl
  exact (dss_cons (ds_expr (dc_need_whole_3 T HP (hr.mono (by decide)) hx (da_val de_str (da_val (dv 0) (da_val de_int da_nil)))))
    (dss_cons (ds_asg (de_call' (ok_parts_found T HP) (hr.mono (by decide)) T.g_parts_found T.F_parts_found.kp (bn_parts_found T) hx (da_val (dv 0) da_nil)) (dg_tup rfl (dgs_cons (dg_name (i := 1) nd rfl (by first | exact Or.inl rfl | exact Or.inr rfl)) (dgs_cons (dg_name (i := 2) nd rfl (by first | exact Or.inl rfl | exact Or.inr rfl)) dgs_nil))))
    (dss_cons (ds_if (dt_cmp (od_eq hr.units) (dv 2) de_int (by rfl)) (dss_one (ds_ret (de_callTy cd_tuple T.nb_tuple boot_tuple (dl_cons (dv 1) dl_nil)))) dss_nil)
    (dss_cons (ds_if ((dw_or (dt_cmp od_ge (dv 2) (T.dc_MOST (by rfl) rfl) (by rfl)) (dw_or1 (dt_not (dt_val (de_call' (ok_prime T HP) (hr.mono (by decide)) T.g_prime T.F_prime.kp (bn_prime T) hx (da_val (dv 2) da_nil))))))).pt (dss_one ds_never) dss_nil)
    (dss_one (ds_ret (de_tup (dl_star (dv 1) (dl_cons (de_tup (dl_cons (dv 2) (dl_cons de_int dl_nil))) dl_nil)))))))))

theorem ok_primes_of (T : Tx K mg) (HP : ProgF P T.file) : FnOk P w K mg base (L2.CX P w) 5 T.fa_primes_of T.fd_primes_of ["number"] (spF ⟨K, mg, gh⟩ m_primes_of) := by
  refine fn_d (N := ["number", "one", "many"]) (u := b_primes_of) T.F_primes_of sc_primes_of fun cdv A outer s H E hr => ?_
  have nd := sc_primes_of.nd
  have tk : Takes (cxOf (L2.CX P w) P w K mg base ["number", "one", "many"] "primes_of" (defScope s_primes_of) T.fa_primes_of cdv A outer s H E) (fun c d _ H => E c d H) := takes_of rfl rfl rfl rfl
  have hx := fun σ => passAt tk σ
  have hp := passes_of (X := cxOf (L2.CX P w) P w K mg base ["number", "one", "many"] "primes_of" (defScope s_primes_of) T.fa_primes_of cdv A outer s H E) rfl
  exact (dss_one (ds_ret (de_callTy cd_tuple T.nb_tuple boot_tuple (dl_cons (de_lc (own := [("one", 1), ("many", 2)]) rfl nd (di_seq (de_call' (ok_parted T HP) (hr.mono (by decide)) T.g_parted T.F_parted.kp (bn_parted T) hx (da_val (dv 0) da_nil))) (blkOk_by (own := [("one", 1), ("many", 2)]) (N := ["number", "one", "many"]) (sc := defScope s_primes_of) (by decide +kernel)) (fun _ _ _ _ _ => (dg_tup rfl (dgs_cons (dg_name (i := 1) nd rfl (by first | exact Or.inl rfl | exact Or.inr rfl)) (dgs_cons (dg_name (i := 2) nd rfl (by first | exact Or.inl rfl | exact Or.inr rfl)) dgs_nil)))) (fun _ _ _ _ _ => dts_nil) (fun _ _ _ _ _ => (dv 1))) dl_nil))))

theorem ok_told_primes (T : Tx K mg) (HP : ProgF P T.file) : FnOk P w K mg base (L2.CX P w) 6 T.fa_told_primes T.fd_told_primes ["where"] (spF ⟨K, mg, gh⟩ m_told_primes) := by
  refine fn_d (N := ["where"]) (u := b_told_primes) T.F_told_primes sc_told_primes fun cdv A outer s H E hr => ?_
  have nd := sc_told_primes.nd
  have tk : Takes (cxOf (L2.CX P w) P w K mg base ["where"] "told_primes" (defScope s_told_primes) T.fa_told_primes cdv A outer s H E) (fun c d _ H => E c d H) := takes_of rfl rfl rfl rfl
  have hx := fun σ => passAt tk σ
  have hp := passes_of (X := cxOf (L2.CX P w) P w K mg base ["where"] "told_primes" (defScope s_told_primes) T.fa_told_primes cdv A outer s H E) rfl
  exact (dss_one (ds_ret (de_call' (ok_primes_of T HP) (hr.mono (by decide)) T.g_primes_of T.F_primes_of.kp (bn_primes_of T) hx (da_val (de_ix xd_ix (de_call' (ok_need_where T HP) (hr.mono (by decide)) T.g_need_where T.F_need_where.kp (bn_need_where T) hx (da_val (dv 0) (da_val de_str da_nil))) de_int (fun _ _ => rfl)) da_nil))))

theorem heard_ok (T : Tx K mg) : HeardAt K mg gh hdT "_law_heard" s__law_heard T.fa__law_heard T.fd__law_heard := by
  refine ⟨T.F__law_heard, sc__law_heard, T.g__law_heard, bn__law_heard T, fun X cdv q hK hmg hr => ?_⟩
  subst hK hmg
  have nd := sc__law_heard.nd
  refine heard_gives (u := u_heard) (FE := T.C_FieldError) (fun s H => ?_) rfl T.gC_FieldError (Or.inl rfl) rfl rfl rfl (fun s H => ?_) ?_ ?_ ?_ (fun _ => rfl) (fun _ => rfl)
  · exact ps_nono rfl nd rfl rfl rfl rfl rfl rfl
  · have hr := hr.deeper (envOfC "_law_heard" (defScope s__law_heard) s.heap.objs.size T.fa__law_heard cdv)
    have hu65 : (X.A.deeper (envOfC "_law_heard" (defScope s__law_heard) s.heap.objs.size T.fa__law_heard cdv)).units + 65 < cLine := by have := hr.un; omega
    exact (dss_cons (ds_if (dt_cmp od_isN (dv 2) de_non (by rfl)) (dss_one (ds_ret (de_lst (dl_cons (dv 1) dl_nil)))) dss_nil)
    (dss_cons (ds_if (dt_val (de_isx T.nb_isinstance (dv 2) T.gC_TooMany (an_TooMany T))) (dss_one (ds_ret (de_tup (dl_cons de_str (dl_cons (de_fldx (dv 2) (fx_what T)) (dl_cons (de_fldx (dv 2) (fx_most T)) dl_nil)))))) dss_nil)
    (dss_cons (ds_if (dt_val (de_isx T.nb_isinstance (dv 2) T.gC_BadText (an_BadText T))) (dss_one (ds_ret (de_tup (dl_cons de_str (dl_cons (de_fldx (dv 2) (fx_line T)) (dl_cons (de_fldx (dv 2) (fx_word T)) dl_nil)))))) dss_nil)
    (dss_cons (ds_if (dt_val (de_isxT T.nb_isinstance (dv 2) (.cons (pe_glob (v := .ref T.C_BadCommand) rfl T.gC_BadCommand rfl (by decide)) (.cons (pe_glob (v := .ref T.C_TooHard) rfl T.gC_TooHard rfl (by decide)) .nil rfl) rfl) (an_BadCommand_TooHard T) (by show 2 ≤ sizeLine; decide))) (dss_one (ds_ret (de_tup (dl_cons (de_if (dt_val (de_isx T.nb_isinstance (dv 2) T.gC_BadCommand (an_BadCommand T))) de_str de_str) (dl_cons (de_fldx (dv 2) (fx_word T)) dl_nil))))) dss_nil)
    (dss_cons (ds_if (dt_val (de_isx T.nb_isinstance (dv 2) T.gC_NoName (an_NoName T))) (dss_one (ds_ret (de_tup (dl_cons de_str (dl_cons (de_fldx (dv 2) (fx_name T)) dl_nil))))) dss_nil)
    (dss_cons (ds_set (i := 4) nd (de_lst (dl_cons de_str (dl_cons de_str (dl_cons de_str (dl_cons de_str (dl_cons de_str (dl_cons de_str (dl_cons de_str (dl_cons de_str (dl_cons de_str (dl_cons de_str (dl_cons de_str dl_nil)))))))))))))
    (dss_cons (ds_newL (i := 5) nd (dl_cons (de_isx T.nb_isinstance (dv 2) T.gC_BadPoly (an_BadPoly T)) (dl_cons (de_isx T.nb_isinstance (dv 2) T.gC_BadClaim (an_BadClaim T)) (dl_cons (de_isx T.nb_isinstance (dv 2) T.gC_BadPlan (an_BadPlan T)) (dl_cons (de_isx T.nb_isinstance (dv 2) T.gC_BadTree (an_BadTree T)) (dl_cons (de_isx T.nb_isinstance (dv 2) T.gC_BadNumber (an_BadNumber T)) dl_nil))))))
    (dss_cons (ds_frz 5 (ds_catL (i := 5) nd (dv 5) (de_lst (dl_cons (de_isx T.nb_isinstance (dv 2) T.gC_BadValue (an_BadValue T)) (dl_cons (de_isx T.nb_isinstance (dv 2) T.gC_BadSet (an_BadSet T)) (dl_cons (de_isx T.nb_isinstance (dv 2) T.gC_BadTower (an_BadTower T)) (dl_cons (de_isx T.nb_isinstance (dv 2) T.gC_BadPaper (an_BadPaper T)) (dl_cons (de_isx T.nb_isinstance (dv 2) T.gC_Misfit (an_Misfit T)) dl_nil))))))))
    (dss_cons (ds_app (i := 5) (de_isx T.nb_isinstance (dv 2) T.gC_Nothing (an_Nothing T)))
    (dss_one (ds_frz 5 (ds_ret (de_if (dt_cmp (od_eq hr.units) (de_count hu65 (dv 5) (dl_cons de_bl dl_nil)) de_int (by rfl)) (de_tup (dl_cons (de_ix xd_ix (dv 4) (de_index hu65 (dv 5) (dl_cons de_bl dl_nil)) (fun _ _ => rfl)) (dl_cons (de_fldx (dv 2) (fx_part T)) dl_nil))) (de_tup (dl_cons de_str dl_nil)))))))))))))))
  · intro y r h C hC
    obtain ⟨c, fld, w, d, hm, rfl, rfl⟩ := hdOf_some h
    rcases List.mem_cons.mp hm with z | hm
    · cases z
      cases T.gC_BadSet.symm.trans hC; exact T.exm_BadSet
    rcases List.mem_cons.mp hm with z | hm
    · cases z
      cases T.gC_BadNumber.symm.trans hC; exact T.exm_BadNumber
    exact absurd hm (by simp)
  · exact fun d st => ⟨envAfter (u_heard [.no, .val d, .val .non, .no, .no, .no] st), by kernel_rfl⟩
  · intro y r st h
    obtain ⟨c, fld, w, d, hm, rfl, rfl⟩ := hdOf_some h
    rcases List.mem_cons.mp hm with z | hm
    · cases z
      exact ⟨envAfter (u_heard [.no, .val .non, .val (.exc "BadSet" [("part", d)]), .no, .no, .no] st), by kernel_rfl⟩
    rcases List.mem_cons.mp hm with z | hm
    · cases z
      exact ⟨envAfter (u_heard [.no, .val .non, .val (.exc "BadNumber" [("part", d)]), .no, .no, .no] st), by kernel_rfl⟩
    exact absurd hm (by simp)
/-- the pen: the cells, how many were begun, what is left of a great one -/
def spPen (K : PySem.W.Frag) : Sp := fun vs H Q _ => ∃ (a : Addr) (ns : List Int), vs = [.ref a] ∧ SqL K H a (ns.map V.int) ∧ ns.length ≤ 63 ∧
  ∀ (H' : Hp) (p q : Addr), Same H H' → H p = none → H q = none → p ≠ q → H' p = some (.lst [.ref q, .int 0, .int 0]) → H' q = some (.lst (ns.map V.int)) → Q (.ref p) H'
theorem cut_all (xs : List V) (h : xs.length ≤ 63) : cutV xs none (some 63) = xs := by
  unfold cutV
  rw [HT.sIx_none, show HT.sIx xs.length xs.length (some 63) = min 63 xs.length from HT.sIx_nat xs.length xs.length 63]
  rw [List.drop_zero]
  exact List.take_of_length_le (by omega)
theorem ok_pen (T : Tx K mg) : FnOk P w K mg base (L2.CX P w) 1 T.fa__law_pen T.fd__law_pen ["script"] (spPen K) := by
  refine T.F__law_pen.ok sc__law_pen (fun vs H Q E h => ?_) (fun cdv A outer s H vs Q E hr h => ?_)
  · obtain ⟨a, ns, rfl, _⟩ := h
    rfl
  · have nd := sc__law_pen.nd
    obtain ⟨a, ns, rfl, hS, hl, q⟩ := h
    refine ⟨_, pss_one (ps_ret (pe_lst (pa_cons (pe_lc (own := [("cell", 1)]) (g := gName 1) (tt := tYes) rfl nd (pi_list (pe_slice sl_list (pv 0) po_none (po_some pe_int))) (blkOk_by (own := [("cell", 1)]) (N := ["script", "cell"]) (sc := defScope s__law_pen) (by decide +kernel))
      (fun _ _ _ _ _ => pg_name (i := 1) nd rfl (Or.inl rfl)) (fun _ _ _ _ _ => pts_nil) (fun _ _ _ _ _ => pe_callTy call_int1 rfl T.nb_int boot_int (pa_cons (pv 1) pa_nil))) (pa_cons pe_int (pa_cons pe_int pa_nil))))), ?_⟩
    refine ⟨.ref a, rfl, 63, rfl, a, ns.map V.int, rfl, hS, fun c hc => ?_⟩
    rw [cut_all _ (by rw [List.length_map]; exact hl)]
    have s1 : Same H (upd H c (.lst (ns.map V.int))) := fun b o e => by rw [upd_ne (ne_of_none e hc)]; exact e
    refine ⟨c, rfl, ⟨_, .of upd_same⟩, fun D hD => ?_⟩
    have s2 : Same H (upd (upd H c (.lst (ns.map V.int))) D (.lst [])) := fun b o e => by rw [upd_ne (ne_of_none (s1 b o e) hD)]; exact s1 b o e
    refine lc_list (K := K) (a := c) (xs := ns.map V.int) (fun i H' => Same H H' ∧ H' c = some (.lst (ns.map V.int)) ∧ H' D = some (.lst ((ns.map V.int).take i))) ⟨s2, ?_, ?_⟩ (fun i H' _ h => .of h.2.1) ?_ ?_
    · rw [upd_ne (ne_of_none upd_same hD)]; exact upd_same
    · rw [upd_same]; rfl
    · rintro i x H' hx ⟨h1, h2, h3⟩
      rw [List.getElem?_map] at hx
      cases e : ns[i]? with
      | none => rw [e] at hx; cases hx
      | some z =>
        rw [e] at hx
        cases hx
        have hi : i < ns.length := (List.getElem?_eq_some_iff.mp e).1
        have nD : H D = none := s1.free hD
        have nc : c ≠ D := ne_of_none upd_same hD
        refine ⟨rfl, ?_⟩
        unfold tYes
        dsimp only
        rw [if_pos rfl]
        refine ⟨_, rfl, .inl ⟨z, rfl, _, h3, ?_, fun b o eb => ?_, ?_, ?_⟩⟩
        · rw [List.length_take, List.length_map]
          exact Nat.lt_of_le_of_lt (Nat.min_le_left _ _) (small1000 (by omega))
        · rw [upd_ne (ne_of_none eb nD)]; exact h1 b o eb
        · rw [upd_ne nc]; exact h2
        · rw [upd_same, List.take_add_one, List.getElem?_map, e]
          rfl
    · rintro H' ⟨h1, h2, h3⟩
      rw [List.take_length] at h3
      refine ⟨(by show 3 ≤ sizeLine; decide), fun p hp => ?_⟩
      have hne : D ≠ p := ne_of_none h3 hp
      refine q _ p D (fun b o e => ?_) (h1.free hp) (s1.free hD) (Ne.symm hne) upd_same ?_
      · rw [upd_ne (ne_of_none (h1 b o e) hp)]; exact h1 b o e
      · rw [upd_ne hne]; exact h3
end
end Law
set_option Elab.async false
set_option linter.all false
set_option maxRecDepth 100000
set_option maxHeartbeats 4000000
namespace Law
open PySem PySem.Spec PyProof.Rows L2 DL
section
variable {P : Program} {w : World} {K : PySem.W.Frag} {mg : Str → Option Value} {base : Heap}
def lamQ : Str := ("law" : Str) ++ ".<locals>." ++ "<lambda>"
def spLaw (K : PySem.W.Frag) (tb : Addr) : Sp := fun vs H Q _ => ∃ (a : Addr) (ns : List Int), vs = [.ref a] ∧ H tb = some (.tbl #[]) ∧ SqL K H a (ns.map V.int) ∧ ns.length ≤ 63 ∧ ∀ H', Q (.bl true) H'
def lawEnv : List Sl := [.no, .pen] ++ List.replicate (8 - 2) .no
theorem law_fill {tb : Addr} {vs : List V} {H : Hp} {Q : VK} {E : XK} {W : WX} (h : spLaw K tb vs H Q E) :
    tSeq (tAsg (tCall (spPen K) [] E0 (tCons (tVar 0) tNil)) (gName 1)) (tS ⟨K, mg, ghT [(tb, lamQ)]⟩ W b_law) { nx := fun _ H' => Q .non H', rt := Q } (L2.start ["script", "pen", "turn", "bad", "fine", "odd", "heard", "great"] vs) H := by
  obtain ⟨a, ns, rfl, htb, hS, hl, q⟩ := h
  refine ⟨_, rfl, a, ns, rfl, hS, hl, fun H' p c s1 np nc hpc h1 h2 => ?_⟩
  obtain ⟨env', st', e⟩ := law_true ns hl
  have htb2 := s1 _ _ htb
  have hne : p ≠ tb := fun z => by rw [z, htb] at np; cases np
  have hnc : tb ≠ c := fun z => by rw [← z, htb] at nc; cases nc
  let γ : Gh := tabGh p tb lamQ hne
  let G : Hp := fun b => if b = c then some (.lst (ns.map V.int)) else none
  have gc : G c = some (.lst (ns.map V.int)) := if_pos rfl
  have gp : G p = none := if_neg hpc
  have gt : G tb = none := if_neg hnc
  have sub : Same G H' := fun b o eb => by
    by_cases z : b = c
    · subst z; rw [gc] at eb; rw [h2]; exact eb
    · rw [show G b = none from if_neg z] at eb; cases eb
  have tok0 : γ.tok G H' := tab_at htb2
  have st0 : Step γ G H' G H' := Step.refl sub tok0
  refine ⟨γ, G, H', G, lawEnv, ⟨ns, 0, 0⟩, ⟨sub, tok0, st0, ⟨fun b hb => ?_, fun b hb => ?_, tabGh_is⟩, rfl, fun i s x e1 e2 => ?_, fun i j s t x _ e1 _ o1 _ _ _ => ?_⟩, ?_⟩
  · cases hb
    exact ⟨gp, c, h1, gc⟩
  · have hb : b = tb := hb
    subst hb
    exact ⟨by rw [htb2]; exact fun z => (by cases z), gt⟩
  · match i, e1, e2 with
    | 0, e1, e2 => cases e1; trivial
    | 1, e1, e2 =>
      cases e1
      cases e2
      exact ⟨p, rfl, rfl⟩
    | i + 2, e1, e2 =>
      have : s = .no := by
        have z := List.mem_of_getElem? (show (List.replicate (8 - 2) Sl.no)[i]? = some s from e1)
        exact List.eq_of_mem_replicate z
      subst this
      trivial
  · match i, e1 with
    | 0, e1 => cases e1; cases o1
    | 1, e1 => cases e1; cases o1
    | i + 2, e1 =>
      have z := List.mem_of_getElem? (show (List.replicate (8 - 2) Sl.no)[i]? = some s from e1)
      rw [List.eq_of_mem_replicate z] at o1
      cases o1
  · have e' : b_law lawEnv ⟨ns, 0, 0⟩ = some (.ok (.ret (.bl true)), env', st') := e
    rw [e']
    intro σ' G' H2 _ v rv
    rw [rv.bl_inv]
    exact q H2
theorem ok_law (T : Tx K mg) (HP : ProgF P T.file) (TB : LamX.TabB base mg T.lcode T.ltab) : LawRun P w K mg base T.fa_law T.fd_law ["script"] (spLaw K T.ltab) := by
  refine law_runT (k := 9) T.F_law T.hlc sc_law (fun vs H Q E h => ?_) ⟨rfl, by decide, by decide⟩ fun outer s H vs Q E hr h => ⟨_, ?_, law_fill (mg := mg) (W := fun c d _ H => E c d H) h⟩
  · obtain ⟨a, ns, rfl, _⟩ := h
    rfl
  · have nd := sc_law.nd
    have tk : Takes (cxOf (L2.CX P w) P w K mg base ["script", "pen", "turn", "bad", "fine", "odd", "heard", "great"] "law" (defScope s_law) T.fa_law (.ref T.lcode) callerA outer s H E) (fun c d _ H => E c d H) := takes_of rfl rfl rfl rfl
    have hx := fun σ => passAt tk σ
    have hp := passes_of (X := cxOf (L2.CX P w) P w K mg base ["script", "pen", "turn", "bad", "fine", "odd", "heard", "great"] "law" (defScope s_law) T.fa_law (.ref T.lcode) callerA outer s H E) rfl
    have hgd : (callerA.deeper (envOfC "law" (defScope s_law) s.heap.objs.size T.fa_law (.ref T.lcode))).guards = some [] := rfl
    have hu70 : (callerA.deeper (envOfC "law" (defScope s_law) s.heap.objs.size T.fa_law (.ref T.lcode))).units + 70 < cLine := by have := hr.un; omega
    exact pss_cons (ps_set (i := 1) nd rfl (by first | exact Or.inl rfl | exact Or.inr rfl) (pe_call (ok_pen T) (hr.mono (by decide)) (by rfl) T.g__law_pen T.F__law_pen.kp (bn__law_pen T) .nil passL (pa_cons (pv 0) pa_nil)))
      ((dss_cons (ds_for hp rfl (di_range1 T.nb_range (dl_cons de_int dl_nil) lone) (dg_name (i := 2) nd rfl (by first | exact Or.inl rfl | exact Or.inr rfl)) (dss_cons (ds_set (i := 3) nd (de_call' (ok__law_pick T HP) (hr.mono (by decide)) T.g__law_pick T.F__law_pick.kp (bn__law_pick T) hx (da_pen 1 (da_val (de_lst (dl_cons de_non (dl_cons de_int (dl_cons (de_tup dl_nil) (dl_cons de_str (dl_cons (de_tup (dl_cons de_str dl_nil)) (dl_cons (de_tup (dl_cons de_str (dl_cons de_int dl_nil))) (dl_cons (de_tup (dl_cons de_str (dl_cons (de_un ud_neg de_int) dl_nil))) (dl_cons (de_tup (dl_cons de_str (dl_cons de_bl dl_nil))) (dl_cons (de_tup (dl_cons de_str (dl_cons de_str dl_nil))) (dl_cons (de_tup (dl_cons de_str (dl_cons de_int dl_nil))) (dl_cons (de_tup (dl_cons de_int (dl_cons de_int dl_nil))) (dl_cons (de_tup (dl_cons de_str (dl_cons de_int (dl_cons de_int dl_nil)))) (dl_cons de_dnew (dl_cons (de_tup (dl_cons de_str (dl_cons de_non dl_nil))) (dl_cons (de_lst (dl_cons (de_lst (dl_cons de_str dl_nil)) (dl_cons de_int dl_nil))) dl_nil)))))))))))))))) da_nil))))
    (dss_cons (ds_asg (de_tup (dl_cons (de_call' (ok__law_set T HP) (hr.mono (by decide)) T.g__law_set T.F__law_set.kp (bn__law_set T) hx (da_pen 1 da_nil)) (dl_cons (de_call' (ok__law_pick T HP) (hr.mono (by decide)) T.g__law_pick T.F__law_pick.kp (bn__law_pick T) hx (da_pen 1 (da_val (de_lst (dl_cons de_non (dl_cons (de_un ud_neg de_int) (dl_cons de_int (dl_cons de_int (dl_cons de_int (dl_cons de_bl (dl_cons de_str (dl_cons (de_tup (dl_cons de_int dl_nil)) (dl_cons (de_bin od_add (de_bin od_pow de_int de_int) de_int) (dl_cons de_dnew dl_nil))))))))))) da_nil))) dl_nil))) (dg_tup rfl (dgs_cons (dg_name (i := 4) nd rfl (by first | exact Or.inl rfl | exact Or.inr rfl)) (dgs_cons (dg_name (i := 5) nd rfl (by first | exact Or.inl rfl | exact Or.inr rfl)) dgs_nil))))
    (dss_cons (ds_set (i := 6) nd (de_lst (dl_cons (de_heard (k := 5) (bn := []) (T := [(T.ltab, lamQ)]) (heard_ok T) TB rfl rfl (fun _ z => z) (hr.mono (by decide)) (lamD_by (N := ["script", "pen", "turn", "bad", "fine", "odd", "heard", "great"]) (sc := defScope s_law) (by decide +kernel)) (.nil rfl) (hB0 (fun _ _ _ _ _ => rfl) (fun _ _ _ _ _ _ => ⟨_, rfl, rfl⟩))
      (fun A outer s H E f1 c' hr => lam_hx fun hx => (de_call' (ok_meet T HP) (hr.mono (by decide)) T.g_meet T.F_meet.kp (bn_meet T) hx (da_val (dv 3) (da_val (dv 3) da_nil))))) (dl_cons (de_heard (k := 5) (bn := ["a1"]) (T := [(T.ltab, lamQ)]) (heard_ok T) TB rfl rfl (fun _ z => z) (hr.mono (by decide)) (lamD_by (N := ["script", "pen", "turn", "bad", "fine", "odd", "heard", "great"]) (sc := defScope s_law) (by decide +kernel)) (.one (i := 0) rfl pe_int) (hB1 (fun _ _ _ _ _ _ _ => ⟨_, rfl, rfl⟩))
      (fun A outer s H E f1 c' hr => lam_hx fun hx => (de_call' (ok_meet T HP) (hr.mono (by decide)) T.g_meet T.F_meet.kp (bn_meet T) hx (da_val (dv 4) (da_val (dv 3) da_nil))))) (dl_cons (de_heard (k := 5) (bn := ["a2"]) (T := [(T.ltab, lamQ)]) (heard_ok T) TB rfl rfl (fun _ z => z) (hr.mono (by decide)) (lamD_by (N := ["script", "pen", "turn", "bad", "fine", "odd", "heard", "great"]) (sc := defScope s_law) (by decide +kernel)) (.one (i := 0) rfl pe_int) (hB1 (fun _ _ _ _ _ _ _ => ⟨_, rfl, rfl⟩))
      (fun A outer s H E f1 c' hr => lam_hx fun hx => (de_call' (ok_join T HP) (hr.mono (by decide)) T.g_join T.F_join.kp (bn_join T) hx (da_val (dv 3) (da_val (dv 4) da_nil))))) (dl_cons (de_heard (k := 5) (bn := ["a3"]) (T := [(T.ltab, lamQ)]) (heard_ok T) TB rfl rfl (fun _ z => z) (hr.mono (by decide)) (lamD_by (N := ["script", "pen", "turn", "bad", "fine", "odd", "heard", "great"]) (sc := defScope s_law) (by decide +kernel)) (.one (i := 0) rfl pe_int) (hB1 (fun _ _ _ _ _ _ _ => ⟨_, rfl, rfl⟩))
      (fun A outer s H E f1 c' hr => lam_hx fun hx => (de_call' (ok_join T HP) (hr.mono (by decide)) T.g_join T.F_join.kp (bn_join T) hx (da_val (dv 4) (da_val (dv 3) da_nil))))) dl_nil))))))
    (dss_cons (ds_set (i := 6) nd (de_bin od_add (dv 6) (de_lst (dl_cons (de_heard (k := 5) (bn := ["a4"]) (T := [(T.ltab, lamQ)]) (heard_ok T) TB rfl rfl (fun _ z => z) (hr.mono (by decide)) (lamD_by (N := ["script", "pen", "turn", "bad", "fine", "odd", "heard", "great"]) (sc := defScope s_law) (by decide +kernel)) (.one (i := 0) rfl pe_int) (hB1 (fun _ _ _ _ _ _ _ => ⟨_, rfl, rfl⟩))
      (fun A outer s H E f1 c' hr => lam_hx fun hx => (de_call' (ok_others T HP) (hr.mono (by decide)) T.g_others T.F_others.kp (bn_others T) hx (da_val (dv 3) da_nil)))) dl_nil))))
    (dss_cons (ds_if (dt_cmp (od_ne hr.units) (dv 6) (de_lst (dl_cons (de_tup (dl_cons de_str (dl_cons de_str dl_nil))) (dl_cons (de_tup (dl_cons de_str (dl_cons de_str dl_nil))) (dl_cons (de_tup (dl_cons de_str (dl_cons de_str dl_nil))) (dl_cons (de_tup (dl_cons de_str (dl_cons de_str dl_nil))) (dl_cons (de_tup (dl_cons de_str (dl_cons de_str dl_nil))) dl_nil)))))) (by rfl)) (dss_one (ds_ret de_bl)) dss_nil)
    (dss_cons (ds_set (i := 6) nd (de_lst (dl_cons (de_heard (k := 5) (bn := []) (T := [(T.ltab, lamQ)]) (heard_ok T) TB rfl rfl (fun _ z => z) (hr.mono (by decide)) (lamD_by (N := ["script", "pen", "turn", "bad", "fine", "odd", "heard", "great"]) (sc := defScope s_law) (by decide +kernel)) (.nil rfl) (hB0 (fun _ _ _ _ _ => rfl) (fun _ _ _ _ _ _ => ⟨_, rfl, rfl⟩))
      (fun A outer s H E f1 c' hr => lam_hx fun hx => (de_call' (ok_are_same T HP) (hr.mono (by decide)) T.g_are_same T.F_are_same.kp (bn_are_same T) hx (da_val (dv 3) (da_val (dv 3) da_nil))))) (dl_cons (de_heard (k := 5) (bn := ["a1"]) (T := [(T.ltab, lamQ)]) (heard_ok T) TB rfl rfl (fun _ z => z) (hr.mono (by decide)) (lamD_by (N := ["script", "pen", "turn", "bad", "fine", "odd", "heard", "great"]) (sc := defScope s_law) (by decide +kernel)) (.one (i := 0) rfl pe_int) (hB1 (fun _ _ _ _ _ _ _ => ⟨_, rfl, rfl⟩))
      (fun A outer s H E f1 c' hr => lam_hx fun hx => (de_call' (ok_are_same T HP) (hr.mono (by decide)) T.g_are_same T.F_are_same.kp (bn_are_same T) hx (da_val (dv 4) (da_val (dv 3) da_nil))))) (dl_cons (de_heard (k := 6) (bn := ["a2"]) (T := [(T.ltab, lamQ)]) (heard_ok T) TB rfl rfl (fun _ z => z) (hr.mono (by decide)) (lamD_by (N := ["script", "pen", "turn", "bad", "fine", "odd", "heard", "great"]) (sc := defScope s_law) (by decide +kernel)) (.one (i := 0) rfl pe_int) (hB1 (fun _ _ _ _ _ _ _ => ⟨_, rfl, rfl⟩))
      (fun A outer s H E f1 c' hr => lam_hx fun hx => (de_call' (ok_is_in T HP) (hr.mono (by decide)) T.g_is_in T.F_is_in.kp (bn_is_in T) hx (da_val (dv 3) (da_val (dv 5) da_nil))))) (dl_cons (de_heard (k := 6) (bn := ["a3"]) (T := [(T.ltab, lamQ)]) (heard_ok T) TB rfl rfl (fun _ z => z) (hr.mono (by decide)) (lamD_by (N := ["script", "pen", "turn", "bad", "fine", "odd", "heard", "great"]) (sc := defScope s_law) (by decide +kernel)) (.one (i := 0) rfl pe_int) (hB1 (fun _ _ _ _ _ _ _ => ⟨_, rfl, rfl⟩))
      (fun A outer s H E f1 c' hr => lam_hx fun hx => (de_call' (ok_is_in T HP) (hr.mono (by decide)) T.g_is_in T.F_is_in.kp (bn_is_in T) hx (da_val (dv 4) (da_val (dv 5) da_nil))))) dl_nil))))))
    (dss_cons (ds_set (i := 6) nd (de_bin od_add (dv 6) (de_lst (dl_cons (de_heard (k := 6) (bn := ["a4"]) (T := [(T.ltab, lamQ)]) (heard_ok T) TB rfl rfl (fun _ z => z) (hr.mono (by decide)) (lamD_by (N := ["script", "pen", "turn", "bad", "fine", "odd", "heard", "great"]) (sc := defScope s_law) (by decide +kernel)) (.one (i := 0) rfl pe_int) (hB1 (fun _ _ _ _ _ _ _ => ⟨_, rfl, rfl⟩))
      (fun A outer s H E f1 c' hr => lam_hx fun hx => (de_call' (ok_told_primes T HP) (hr.mono (by decide)) T.g_told_primes T.F_told_primes.kp (bn_told_primes T) hx (da_val (dv 3) da_nil)))) dl_nil))))
    (dss_one (ds_if (dt_cmp (od_ne hr.units) (dv 6) (de_lst (dl_cons (de_tup (dl_cons de_str (dl_cons de_str dl_nil))) (dl_cons (de_tup (dl_cons de_str (dl_cons de_str dl_nil))) (dl_cons (de_tup (dl_cons de_str (dl_cons de_str dl_nil))) (dl_cons (de_tup (dl_cons de_str (dl_cons de_str dl_nil))) (dl_cons (de_tup (dl_cons de_str (dl_cons de_str dl_nil))) dl_nil)))))) (by rfl)) (dss_one (ds_ret de_bl)) dss_nil))))))))))
    (dss_cons (ds_set (i := 7) nd de_int)
    (dss_cons (ds_if ((dw_or (dt_cmp (od_ne hr.units) (de_call' (ok_told_primes T HP) (hr.mono (by decide)) T.g_told_primes T.F_told_primes.kp (bn_told_primes T) hx (da_val (de_tup (dl_cons de_str (dl_cons (de_bin od_mul de_int (dv 7)) dl_nil))) da_nil)) (de_tup (dl_cons de_int (dl_cons (dv 7) dl_nil))) (by rfl)) (dw_or (dt_cmp od_notB (de_call' (ok_is_in T HP) (hr.mono (by decide)) T.g_is_in T.F_is_in.kp (bn_is_in T) hx (da_val (de_tup (dl_cons de_str (dl_cons (de_bin od_mul (dv 7) de_int) dl_nil))) (da_val (dv 7) da_nil))) de_bl (by rfl)) (dw_or1 (dt_cmp od_notB (de_call' (ok_is_in T HP) (hr.mono (by decide)) T.g_is_in T.F_is_in.kp (bn_is_in T) hx (da_val (de_tup (dl_cons de_str (dl_cons (de_bin od_mul (dv 7) de_int) dl_nil))) (da_val de_int da_nil))) de_bl (by rfl)))))).pt (dss_one (ds_ret de_bl)) dss_nil)
    (dss_one (ds_ret (de_and (de_cmp (od_eq hr.units) (de_call' (ok_told_primes T HP) (hr.mono (by decide)) T.g_told_primes T.F_told_primes.kp (bn_told_primes T) hx (da_val (de_tup (dl_cons de_str (dl_cons de_int dl_nil))) da_nil)) (de_tup dl_nil) (by rfl)) (de_and (de_cmp (od_eq hr.units) (de_call' (ok_told_primes T HP) (hr.mono (by decide)) T.g_told_primes T.F_told_primes.kp (bn_told_primes T) hx (da_val (de_lst (dl_cons de_str (dl_cons (de_bin od_mul (de_bin od_mul (de_bin od_mul (de_bin od_mul (de_bin od_mul de_int de_int) de_int) de_int) de_int) de_int) dl_nil))) da_nil)) (de_tup (dl_cons de_int (dl_cons de_int (dl_cons de_int (dl_cons de_int (dl_cons de_int (dl_cons de_int dl_nil))))))) (by rfl)) (de_one (de_cmp od_isB (de_call' (ok_is_in T HP) (hr.mono (by decide)) T.g_is_in T.F_is_in.kp (bn_is_in T) hx (da_val (de_tup (dl_cons de_str (dl_cons de_int dl_nil))) (da_val de_int da_nil))) de_bl (by rfl)))))))))))
end
theorem all_mk {P : Program} {w : World} {K : PySem.W.Frag} {h : Heap} {mg : Str → Option Value} {fa : Addr} (X : K.In h) (G : h.Ns mainGlobals mg) (hfa : mg "law" = some (.ref fa))
    {f0 : Addr} {od0 an0 : Option Addr} {sl0 : Array (Option Value)} {oc0 kV0 dc0 pm0 cd0 ct0 : Value}
    {f1 : Addr} {od1 an1 : Option Addr} {sl1 : Array (Option Value)} {oc1 kV1 dc1 pm1 cd1 ct1 : Value}
    {f2 : Addr} {od2 an2 : Option Addr} {sl2 : Array (Option Value)} {oc2 kV2 dc2 pm2 cd2 ct2 : Value}
    {f3 : Addr} {od3 an3 : Option Addr} {sl3 : Array (Option Value)} {oc3 kV3 dc3 pm3 cd3 ct3 : Value}
    {f4 : Addr} {od4 an4 : Option Addr} {sl4 : Array (Option Value)} {oc4 kV4 dc4 pm4 cd4 ct4 : Value}
    {f5 : Addr} {od5 an5 : Option Addr} {sl5 : Array (Option Value)} {oc5 kV5 dc5 pm5 cd5 ct5 : Value}
    {f6 : Addr} {od6 an6 : Option Addr} {sl6 : Array (Option Value)} {oc6 kV6 dc6 pm6 cd6 ct6 : Value}
    {f7 : Addr} {od7 an7 : Option Addr} {sl7 : Array (Option Value)} {oc7 kV7 dc7 pm7 cd7 ct7 : Value}
    {T7 : Addr} {to7 : Value} {td7 : Option Addr} {tn7 : Nat} {ts7 : Array (Option Value)} {u7_0 : Tok}
    {f8 : Addr} {od8 an8 : Option Addr} {sl8 : Array (Option Value)} {oc8 kV8 dc8 pm8 cd8 ct8 : Value}
    {f9 : Addr} {od9 an9 : Option Addr} {sl9 : Array (Option Value)} {oc9 kV9 dc9 pm9 cd9 ct9 : Value}
    {f10 : Addr} {od10 an10 : Option Addr} {sl10 : Array (Option Value)} {oc10 kV10 dc10 pm10 cd10 ct10 : Value}
    {f11 : Addr} {od11 an11 : Option Addr} {sl11 : Array (Option Value)} {oc11 kV11 dc11 pm11 cd11 ct11 : Value}
    {f12 : Addr} {od12 an12 : Option Addr} {sl12 : Array (Option Value)} {oc12 kV12 dc12 pm12 cd12 ct12 : Value}
    {f13 : Addr} {od13 an13 : Option Addr} {sl13 : Array (Option Value)} {oc13 kV13 dc13 pm13 cd13 ct13 : Value}
    {f14 : Addr} {od14 an14 : Option Addr} {sl14 : Array (Option Value)} {oc14 kV14 dc14 pm14 cd14 ct14 : Value}
    {f15 : Addr} {od15 an15 : Option Addr} {sl15 : Array (Option Value)} {oc15 kV15 dc15 pm15 cd15 ct15 : Value}
    {f16 : Addr} {od16 an16 : Option Addr} {sl16 : Array (Option Value)} {oc16 kV16 dc16 pm16 cd16 ct16 : Value}
    {f17 : Addr} {od17 an17 : Option Addr} {sl17 : Array (Option Value)} {oc17 kV17 dc17 pm17 cd17 ct17 : Value}
    {f18 : Addr} {od18 an18 : Option Addr} {sl18 : Array (Option Value)} {oc18 kV18 dc18 pm18 cd18 ct18 : Value}
    {f19 : Addr} {od19 an19 : Option Addr} {sl19 : Array (Option Value)} {oc19 kV19 dc19 pm19 cd19 ct19 : Value}
    {f20 : Addr} {od20 an20 : Option Addr} {sl20 : Array (Option Value)} {oc20 kV20 dc20 pm20 cd20 ct20 : Value}
    {f21 : Addr} {od21 an21 : Option Addr} {sl21 : Array (Option Value)} {oc21 kV21 dc21 pm21 cd21 ct21 : Value}
    {T21 : Addr} {to21 : Value} {td21 : Option Addr} {tn21 : Nat} {ts21 : Array (Option Value)} {u21_0 : Tok}
    {f22 : Addr} {od22 an22 : Option Addr} {sl22 : Array (Option Value)} {oc22 kV22 dc22 pm22 cd22 ct22 : Value}
    {f23 : Addr} {od23 an23 : Option Addr} {sl23 : Array (Option Value)} {oc23 kV23 dc23 pm23 cd23 ct23 : Value}
    {f24 : Addr} {od24 an24 : Option Addr} {sl24 : Array (Option Value)} {oc24 kV24 dc24 pm24 cd24 ct24 : Value}
    {f25 : Addr} {od25 an25 : Option Addr} {sl25 : Array (Option Value)} {oc25 kV25 dc25 pm25 cd25 ct25 : Value}
    {T25 : Addr} {to25 : Value} {td25 : Option Addr} {tn25 : Nat} {ts25 : Array (Option Value)}
    {f26 : Addr} {od26 an26 : Option Addr} {sl26 : Array (Option Value)} {oc26 kV26 dc26 pm26 cd26 ct26 : Value}
    {f27 : Addr} {od27 an27 : Option Addr} {sl27 : Array (Option Value)} {oc27 kV27 dc27 pm27 cd27 ct27 : Value}
    {f28 : Addr} {od28 an28 : Option Addr} {sl28 : Array (Option Value)} {oc28 kV28 dc28 pm28 cd28 ct28 : Value}
    {f29 : Addr} {od29 an29 : Option Addr} {sl29 : Array (Option Value)} {oc29 kV29 dc29 pm29 cd29 ct29 : Value}
    {f30 : Addr} {od30 an30 : Option Addr} {sl30 : Array (Option Value)} {oc30 kV30 dc30 pm30 cd30 ct30 : Value}
    {f31 : Addr} {od31 an31 : Option Addr} {sl31 : Array (Option Value)} {oc31 kV31 dc31 pm31 cd31 ct31 : Value}
    {f32 : Addr} {od32 an32 : Option Addr} {sl32 : Array (Option Value)} {oc32 kV32 dc32 pm32 cd32 ct32 : Value}
    {C_BadClaim : Addr}
    {C_BadCommand : Addr}
    {C_BadNumber : Addr}
    {C_BadPaper : Addr}
    {C_BadPlan : Addr}
    {C_BadPoly : Addr}
    {C_BadSet : Addr}
    {C_BadText : Addr}
    {C_BadTower : Addr}
    {C_BadTree : Addr}
    {C_BadValue : Addr}
    {C_FieldError : Addr}
    {C_Misfit : Addr}
    {C_NoName : Addr}
    {C_Nothing : Addr}
    {C_TooHard : Addr}
    {C_TooMany : Addr}
    {fil : Str}
    {nm_BadSet q_BadSet : Str} {N_BadSet : Addr} {bs_BadSet : List Value} {sn_BadSet : List Str} {sub_BadSet : List Value} {ab_BadSet : Bool} {col_BadSet : Option Bool} {dd_BadSet : Option Addr} {m0_BadSet m1_BadSet m2_BadSet m3_BadSet m5_BadSet : Option Value}
    {fI_BadSet cda_BadSet cc_BadSet : Addr} {kV_BadSet doc_BadSet pm_BadSet ct_BadSet oc_BadSet ccl_BadSet cl_BadSet : Value} {an_BadSet od_BadSet cdd_BadSet cld_BadSet : Option Addr} {osl_BadSet ccs_BadSet csl_BadSet : Array (Option Value)} {vsC_BadSet : Array Value} {tf_BadSet : Tok}
    {nm_BadNumber q_BadNumber : Str} {N_BadNumber : Addr} {bs_BadNumber : List Value} {sn_BadNumber : List Str} {sub_BadNumber : List Value} {ab_BadNumber : Bool} {col_BadNumber : Option Bool} {dd_BadNumber : Option Addr} {m0_BadNumber m1_BadNumber m2_BadNumber m3_BadNumber m5_BadNumber : Option Value}
    {fI_BadNumber cda_BadNumber cc_BadNumber : Addr} {kV_BadNumber doc_BadNumber pm_BadNumber ct_BadNumber oc_BadNumber ccl_BadNumber cl_BadNumber : Value} {an_BadNumber od_BadNumber cdd_BadNumber cld_BadNumber : Option Addr} {osl_BadNumber ccs_BadNumber csl_BadNumber : Array (Option Value)} {vsC_BadNumber : Array Value} {tf_BadNumber : Tok}
    {lco lta : Addr} {le : Value} {ldd : Option Addr} {lls : Array Value} {lsl : Array (Option Value)}
    {A_BASES : Addr} {ad_BASES : Option Addr} {an_BASES : Nat} {as_BASES : Array (Option Value)} {u_BASES_0 u_BASES_1 u_BASES_2 u_BASES_3 u_BASES_4 u_BASES_5 u_BASES_6 u_BASES_7 u_BASES_8 u_BASES_9 u_BASES_10 u_BASES_11 u_BASES_12 : Tok}
    {t_BUT : Tok}
    {t_MOST : Tok}
    {t_MOST_CHARACTERISTIC : Tok}
    {t_ONLY : Tok}
    {t_SMALL : Tok}
    {A_WORDS : Addr} {ad_WORDS : Option Addr} {an_WORDS : Nat} {as_WORDS : Array (Option Value)} {u_WORDS_0 u_WORDS_1 : Tok}
    (a0 : PySem.W.nsIn K mainGlobals "_law_draw" = some (some (.ref f0)))
    (l0 : K.lookup f0 = some ⟨oc0, od0, .func (PySem.W.fnOf "_law_draw" "_law_draw" (defArgs s__law_draw) (defBody s__law_draw) (defScope s__law_draw) .none kV0 dc0 pm0 an0 cd0 ct0), sl0⟩)
    (c0 : PySem.W.codeIn K cd0 "_law_draw" = true)
    (k0 : PySem.W.keepIn K (.ref f0) = true)
    (a1 : PySem.W.nsIn K mainGlobals "_law_pick" = some (some (.ref f1)))
    (l1 : K.lookup f1 = some ⟨oc1, od1, .func (PySem.W.fnOf "_law_pick" "_law_pick" (defArgs s__law_pick) (defBody s__law_pick) (defScope s__law_pick) .none kV1 dc1 pm1 an1 cd1 ct1), sl1⟩)
    (c1 : PySem.W.codeIn K cd1 "_law_pick" = true)
    (k1 : PySem.W.keepIn K (.ref f1) = true)
    (a2 : PySem.W.nsIn K mainGlobals "_law_set" = some (some (.ref f2)))
    (l2 : K.lookup f2 = some ⟨oc2, od2, .func (PySem.W.fnOf "_law_set" "_law_set" (defArgs s__law_set) (defBody s__law_set) (defScope s__law_set) .none kV2 dc2 pm2 an2 cd2 ct2), sl2⟩)
    (c2 : PySem.W.codeIn K cd2 "_law_set" = true)
    (k2 : PySem.W.keepIn K (.ref f2) = true)
    (a3 : PySem.W.nsIn K mainGlobals "is_whole" = some (some (.ref f3)))
    (l3 : K.lookup f3 = some ⟨oc3, od3, .func (PySem.W.fnOf "is_whole" "is_whole" (defArgs s_is_whole) (defBody s_is_whole) (defScope s_is_whole) .none kV3 dc3 pm3 an3 cd3 ct3), sl3⟩)
    (c3 : PySem.W.codeIn K cd3 "is_whole" = true)
    (k3 : PySem.W.keepIn K (.ref f3) = true)
    (a4 : PySem.W.nsIn K mainGlobals "is_within" = some (some (.ref f4)))
    (l4 : K.lookup f4 = some ⟨oc4, od4, .func (PySem.W.fnOf "is_within" "is_within" (defArgs s_is_within) (defBody s_is_within) (defScope s_is_within) .none kV4 dc4 pm4 an4 cd4 ct4), sl4⟩)
    (c4 : PySem.W.codeIn K cd4 "is_within" = true)
    (k4 : PySem.W.keepIn K (.ref f4) = true)
    (a5 : PySem.W.nsIn K mainGlobals "is_listed" = some (some (.ref f5)))
    (l5 : K.lookup f5 = some ⟨oc5, od5, .func (PySem.W.fnOf "is_listed" "is_listed" (defArgs s_is_listed) (defBody s_is_listed) (defScope s_is_listed) .none kV5 dc5 pm5 an5 cd5 ct5), sl5⟩)
    (c5 : PySem.W.codeIn K cd5 "is_listed" = true)
    (k5 : PySem.W.keepIn K (.ref f5) = true)
    (a6 : PySem.W.nsIn K mainGlobals "is_where" = some (some (.ref f6)))
    (l6 : K.lookup f6 = some ⟨oc6, od6, .func (PySem.W.fnOf "is_where" "is_where" (defArgs s_is_where) (defBody s_is_where) (defScope s_is_where) .none kV6 dc6 pm6 an6 cd6 ct6), sl6⟩)
    (c6 : PySem.W.codeIn K cd6 "is_where" = true)
    (k6 : PySem.W.keepIn K (.ref f6) = true)
    (a7 : PySem.W.nsIn K mainGlobals "need_where" = some (some (.ref f7)))
    (l7 : K.lookup f7 = some ⟨oc7, od7, .func (PySem.W.fnOf "need_where" "need_where" (defArgs s_need_where) (defBody s_need_where) (defScope s_need_where) (.ref T7) kV7 dc7 pm7 an7 cd7 ct7), sl7⟩)
    (c7 : PySem.W.codeIn K cd7 "need_where" = true)
    (k7 : PySem.W.keepIn K (.ref f7) = true)
    (d7 : K.lookup T7 = some ⟨to7, td7, .seq #[.str "where" u7_0] tn7, ts7⟩)
    (a8 : PySem.W.nsIn K mainGlobals "other_word" = some (some (.ref f8)))
    (l8 : K.lookup f8 = some ⟨oc8, od8, .func (PySem.W.fnOf "other_word" "other_word" (defArgs s_other_word) (defBody s_other_word) (defScope s_other_word) .none kV8 dc8 pm8 an8 cd8 ct8), sl8⟩)
    (c8 : PySem.W.codeIn K cd8 "other_word" = true)
    (k8 : PySem.W.keepIn K (.ref f8) = true)
    (a9 : PySem.W.nsIn K mainGlobals "turned_set" = some (some (.ref f9)))
    (l9 : K.lookup f9 = some ⟨oc9, od9, .func (PySem.W.fnOf "turned_set" "turned_set" (defArgs s_turned_set) (defBody s_turned_set) (defScope s_turned_set) .none kV9 dc9 pm9 an9 cd9 ct9), sl9⟩)
    (c9 : PySem.W.codeIn K cd9 "turned_set" = true)
    (k9 : PySem.W.keepIn K (.ref f9) = true)
    (a10 : PySem.W.nsIn K mainGlobals "without_primes" = some (some (.ref f10)))
    (l10 : K.lookup f10 = some ⟨oc10, od10, .func (PySem.W.fnOf "without_primes" "without_primes" (defArgs s_without_primes) (defBody s_without_primes) (defScope s_without_primes) .none kV10 dc10 pm10 an10 cd10 ct10), sl10⟩)
    (c10 : PySem.W.codeIn K cd10 "without_primes" = true)
    (k10 : PySem.W.keepIn K (.ref f10) = true)
    (a11 : PySem.W.nsIn K mainGlobals "met" = some (some (.ref f11)))
    (l11 : K.lookup f11 = some ⟨oc11, od11, .func (PySem.W.fnOf "met" "met" (defArgs s_met) (defBody s_met) (defScope s_met) .none kV11 dc11 pm11 an11 cd11 ct11), sl11⟩)
    (c11 : PySem.W.codeIn K cd11 "met" = true)
    (k11 : PySem.W.keepIn K (.ref f11) = true)
    (a12 : PySem.W.nsIn K mainGlobals "joined" = some (some (.ref f12)))
    (l12 : K.lookup f12 = some ⟨oc12, od12, .func (PySem.W.fnOf "joined" "joined" (defArgs s_joined) (defBody s_joined) (defScope s_joined) .none kV12 dc12 pm12 an12 cd12 ct12), sl12⟩)
    (c12 : PySem.W.codeIn K cd12 "joined" = true)
    (k12 : PySem.W.keepIn K (.ref f12) = true)
    (a13 : PySem.W.nsIn K mainGlobals "join" = some (some (.ref f13)))
    (l13 : K.lookup f13 = some ⟨oc13, od13, .func (PySem.W.fnOf "join" "join" (defArgs s_join) (defBody s_join) (defScope s_join) .none kV13 dc13 pm13 an13 cd13 ct13), sl13⟩)
    (c13 : PySem.W.codeIn K cd13 "join" = true)
    (k13 : PySem.W.keepIn K (.ref f13) = true)
    (a14 : PySem.W.nsIn K mainGlobals "meet" = some (some (.ref f14)))
    (l14 : K.lookup f14 = some ⟨oc14, od14, .func (PySem.W.fnOf "meet" "meet" (defArgs s_meet) (defBody s_meet) (defScope s_meet) .none kV14 dc14 pm14 an14 cd14 ct14), sl14⟩)
    (c14 : PySem.W.codeIn K cd14 "meet" = true)
    (k14 : PySem.W.keepIn K (.ref f14) = true)
    (a15 : PySem.W.nsIn K mainGlobals "others" = some (some (.ref f15)))
    (l15 : K.lookup f15 = some ⟨oc15, od15, .func (PySem.W.fnOf "others" "others" (defArgs s_others) (defBody s_others) (defScope s_others) .none kV15 dc15 pm15 an15 cd15 ct15), sl15⟩)
    (c15 : PySem.W.codeIn K cd15 "others" = true)
    (k15 : PySem.W.keepIn K (.ref f15) = true)
    (a16 : PySem.W.nsIn K mainGlobals "has" = some (some (.ref f16)))
    (l16 : K.lookup f16 = some ⟨oc16, od16, .func (PySem.W.fnOf "has" "has" (defArgs s_has) (defBody s_has) (defScope s_has) .none kV16 dc16 pm16 an16 cd16 ct16), sl16⟩)
    (c16 : PySem.W.codeIn K cd16 "has" = true)
    (k16 : PySem.W.keepIn K (.ref f16) = true)
    (a17 : PySem.W.nsIn K mainGlobals "power_below" = some (some (.ref f17)))
    (l17 : K.lookup f17 = some ⟨oc17, od17, .func (PySem.W.fnOf "power_below" "power_below" (defArgs s_power_below) (defBody s_power_below) (defScope s_power_below) .none kV17 dc17 pm17 an17 cd17 ct17), sl17⟩)
    (c17 : PySem.W.codeIn K cd17 "power_below" = true)
    (k17 : PySem.W.keepIn K (.ref f17) = true)
    (a18 : PySem.W.nsIn K mainGlobals "stands" = some (some (.ref f18)))
    (l18 : K.lookup f18 = some ⟨oc18, od18, .func (PySem.W.fnOf "stands" "stands" (defArgs s_stands) (defBody s_stands) (defScope s_stands) .none kV18 dc18 pm18 an18 cd18 ct18), sl18⟩)
    (c18 : PySem.W.codeIn K cd18 "stands" = true)
    (k18 : PySem.W.keepIn K (.ref f18) = true)
    (a19 : PySem.W.nsIn K mainGlobals "prime" = some (some (.ref f19)))
    (l19 : K.lookup f19 = some ⟨oc19, od19, .func (PySem.W.fnOf "prime" "prime" (defArgs s_prime) (defBody s_prime) (defScope s_prime) .none kV19 dc19 pm19 an19 cd19 ct19), sl19⟩)
    (c19 : PySem.W.codeIn K cd19 "prime" = true)
    (k19 : PySem.W.keepIn K (.ref f19) = true)
    (a20 : PySem.W.nsIn K mainGlobals "is_prime" = some (some (.ref f20)))
    (l20 : K.lookup f20 = some ⟨oc20, od20, .func (PySem.W.fnOf "is_prime" "is_prime" (defArgs s_is_prime) (defBody s_is_prime) (defScope s_is_prime) .none kV20 dc20 pm20 an20 cd20 ct20), sl20⟩)
    (c20 : PySem.W.codeIn K cd20 "is_prime" = true)
    (k20 : PySem.W.keepIn K (.ref f20) = true)
    (a21 : PySem.W.nsIn K mainGlobals "need_prime" = some (some (.ref f21)))
    (l21 : K.lookup f21 = some ⟨oc21, od21, .func (PySem.W.fnOf "need_prime" "need_prime" (defArgs s_need_prime) (defBody s_need_prime) (defScope s_need_prime) (.ref T21) kV21 dc21 pm21 an21 cd21 ct21), sl21⟩)
    (c21 : PySem.W.codeIn K cd21 "need_prime" = true)
    (k21 : PySem.W.keepIn K (.ref f21) = true)
    (d21 : K.lookup T21 = some ⟨to21, td21, .seq #[.str "prime" u21_0] tn21, ts21⟩)
    (a22 : PySem.W.nsIn K mainGlobals "is_in" = some (some (.ref f22)))
    (l22 : K.lookup f22 = some ⟨oc22, od22, .func (PySem.W.fnOf "is_in" "is_in" (defArgs s_is_in) (defBody s_is_in) (defScope s_is_in) .none kV22 dc22 pm22 an22 cd22 ct22), sl22⟩)
    (c22 : PySem.W.codeIn K cd22 "is_in" = true)
    (k22 : PySem.W.keepIn K (.ref f22) = true)
    (a23 : PySem.W.nsIn K mainGlobals "is_same" = some (some (.ref f23)))
    (l23 : K.lookup f23 = some ⟨oc23, od23, .func (PySem.W.fnOf "is_same" "is_same" (defArgs s_is_same) (defBody s_is_same) (defScope s_is_same) .none kV23 dc23 pm23 an23 cd23 ct23), sl23⟩)
    (c23 : PySem.W.codeIn K cd23 "is_same" = true)
    (k23 : PySem.W.keepIn K (.ref f23) = true)
    (a24 : PySem.W.nsIn K mainGlobals "are_same" = some (some (.ref f24)))
    (l24 : K.lookup f24 = some ⟨oc24, od24, .func (PySem.W.fnOf "are_same" "are_same" (defArgs s_are_same) (defBody s_are_same) (defScope s_are_same) .none kV24 dc24 pm24 an24 cd24 ct24), sl24⟩)
    (c24 : PySem.W.codeIn K cd24 "are_same" = true)
    (k24 : PySem.W.keepIn K (.ref f24) = true)
    (a25 : PySem.W.nsIn K mainGlobals "need_whole" = some (some (.ref f25)))
    (l25 : K.lookup f25 = some ⟨oc25, od25, .func (PySem.W.fnOf "need_whole" "need_whole" (defArgs s_need_whole) (defBody s_need_whole) (defScope s_need_whole) (.ref T25) kV25 dc25 pm25 an25 cd25 ct25), sl25⟩)
    (c25 : PySem.W.codeIn K cd25 "need_whole" = true)
    (k25 : PySem.W.keepIn K (.ref f25) = true)
    (d25 : K.lookup T25 = some ⟨to25, td25, .seq #[.none] tn25, ts25⟩)
    (a26 : PySem.W.nsIn K mainGlobals "parts_found" = some (some (.ref f26)))
    (l26 : K.lookup f26 = some ⟨oc26, od26, .func (PySem.W.fnOf "parts_found" "parts_found" (defArgs s_parts_found) (defBody s_parts_found) (defScope s_parts_found) .none kV26 dc26 pm26 an26 cd26 ct26), sl26⟩)
    (c26 : PySem.W.codeIn K cd26 "parts_found" = true)
    (k26 : PySem.W.keepIn K (.ref f26) = true)
    (a27 : PySem.W.nsIn K mainGlobals "parted" = some (some (.ref f27)))
    (l27 : K.lookup f27 = some ⟨oc27, od27, .func (PySem.W.fnOf "parted" "parted" (defArgs s_parted) (defBody s_parted) (defScope s_parted) .none kV27 dc27 pm27 an27 cd27 ct27), sl27⟩)
    (c27 : PySem.W.codeIn K cd27 "parted" = true)
    (k27 : PySem.W.keepIn K (.ref f27) = true)
    (a28 : PySem.W.nsIn K mainGlobals "primes_of" = some (some (.ref f28)))
    (l28 : K.lookup f28 = some ⟨oc28, od28, .func (PySem.W.fnOf "primes_of" "primes_of" (defArgs s_primes_of) (defBody s_primes_of) (defScope s_primes_of) .none kV28 dc28 pm28 an28 cd28 ct28), sl28⟩)
    (c28 : PySem.W.codeIn K cd28 "primes_of" = true)
    (k28 : PySem.W.keepIn K (.ref f28) = true)
    (a29 : PySem.W.nsIn K mainGlobals "told_primes" = some (some (.ref f29)))
    (l29 : K.lookup f29 = some ⟨oc29, od29, .func (PySem.W.fnOf "told_primes" "told_primes" (defArgs s_told_primes) (defBody s_told_primes) (defScope s_told_primes) .none kV29 dc29 pm29 an29 cd29 ct29), sl29⟩)
    (c29 : PySem.W.codeIn K cd29 "told_primes" = true)
    (k29 : PySem.W.keepIn K (.ref f29) = true)
    (a30 : PySem.W.nsIn K mainGlobals "_law_heard" = some (some (.ref f30)))
    (l30 : K.lookup f30 = some ⟨oc30, od30, .func (PySem.W.fnOf "_law_heard" "_law_heard" (defArgs s__law_heard) (defBody s__law_heard) (defScope s__law_heard) .none kV30 dc30 pm30 an30 cd30 ct30), sl30⟩)
    (c30 : PySem.W.codeIn K cd30 "_law_heard" = true)
    (k30 : PySem.W.keepIn K (.ref f30) = true)
    (a31 : PySem.W.nsIn K mainGlobals "_law_pen" = some (some (.ref f31)))
    (l31 : K.lookup f31 = some ⟨oc31, od31, .func (PySem.W.fnOf "_law_pen" "_law_pen" (defArgs s__law_pen) (defBody s__law_pen) (defScope s__law_pen) .none kV31 dc31 pm31 an31 cd31 ct31), sl31⟩)
    (c31 : PySem.W.codeIn K cd31 "_law_pen" = true)
    (k31 : PySem.W.keepIn K (.ref f31) = true)
    (a32 : PySem.W.nsIn K mainGlobals "law" = some (some (.ref f32)))
    (l32 : K.lookup f32 = some ⟨oc32, od32, .func (PySem.W.fnOf "law" "law" (defArgs s_law) (defBody s_law) (defScope s_law) .none kV32 dc32 pm32 an32 cd32 ct32), sl32⟩)
    (c32 : PySem.W.codeIn K cd32 "law" = true)
    (k32 : PySem.W.keepIn K (.ref f32) = true)
    (z_abs : PySem.W.nsIn K mainGlobals "abs" = some none)
    (z_all : PySem.W.nsIn K mainGlobals "all" = some none)
    (z_bool : PySem.W.nsIn K mainGlobals "bool" = some none)
    (z_int : PySem.W.nsIn K mainGlobals "int" = some none)
    (z_isinstance : PySem.W.nsIn K mainGlobals "isinstance" = some none)
    (z_len : PySem.W.nsIn K mainGlobals "len" = some none)
    (z_list : PySem.W.nsIn K mainGlobals "list" = some none)
    (z_range : PySem.W.nsIn K mainGlobals "range" = some none)
    (z_str : PySem.W.nsIn K mainGlobals "str" = some none)
    (z_super : PySem.W.nsIn K mainGlobals "super" = some none)
    (z_tuple : PySem.W.nsIn K mainGlobals "tuple" = some none)
    (aC_BadClaim : PySem.W.nsIn K mainGlobals "BadClaim" = some (some (.ref C_BadClaim)))
    (aC_BadCommand : PySem.W.nsIn K mainGlobals "BadCommand" = some (some (.ref C_BadCommand)))
    (aC_BadNumber : PySem.W.nsIn K mainGlobals "BadNumber" = some (some (.ref C_BadNumber)))
    (aC_BadPaper : PySem.W.nsIn K mainGlobals "BadPaper" = some (some (.ref C_BadPaper)))
    (aC_BadPlan : PySem.W.nsIn K mainGlobals "BadPlan" = some (some (.ref C_BadPlan)))
    (aC_BadPoly : PySem.W.nsIn K mainGlobals "BadPoly" = some (some (.ref C_BadPoly)))
    (aC_BadSet : PySem.W.nsIn K mainGlobals "BadSet" = some (some (.ref C_BadSet)))
    (aC_BadText : PySem.W.nsIn K mainGlobals "BadText" = some (some (.ref C_BadText)))
    (aC_BadTower : PySem.W.nsIn K mainGlobals "BadTower" = some (some (.ref C_BadTower)))
    (aC_BadTree : PySem.W.nsIn K mainGlobals "BadTree" = some (some (.ref C_BadTree)))
    (aC_BadValue : PySem.W.nsIn K mainGlobals "BadValue" = some (some (.ref C_BadValue)))
    (aC_FieldError : PySem.W.nsIn K mainGlobals "FieldError" = some (some (.ref C_FieldError)))
    (aC_Misfit : PySem.W.nsIn K mainGlobals "Misfit" = some (some (.ref C_Misfit)))
    (aC_NoName : PySem.W.nsIn K mainGlobals "NoName" = some (some (.ref C_NoName)))
    (aC_Nothing : PySem.W.nsIn K mainGlobals "Nothing" = some (some (.ref C_Nothing)))
    (aC_TooHard : PySem.W.nsIn K mainGlobals "TooHard" = some (some (.ref C_TooHard)))
    (aC_TooMany : PySem.W.nsIn K mainGlobals "TooMany" = some (some (.ref C_TooMany)))
    (xno : PySem.W.nsIn K cStatics "thirdparty.any" = some none)
    (xhn : PySem.W.specialIn K (.builtin "object.__class__") "__get__" = some (some (.builtin "getset_descriptor.__get__")))
    (xht : PySem.W.takesIn K (.builtin "object.__class__") = some true)
    (xL_BadSet : K.lookup C_BadSet = some (PySem.excClassObj nm_BadSet q_BadSet C_BadSet N_BadSet bs_BadSet [.ref C_FieldError, .type "ValueError", .type "Exception", .type "BaseException", .type "object"] true sn_BadSet sub_BadSet ab_BadSet col_BadSet dd_BadSet m0_BadSet m1_BadSet m2_BadSet m3_BadSet m5_BadSet "ValueError.__new__"))
    (sa_BadSet : PySem.W.findIn K (.ref C_BadSet) "__setattr__" = some (some (.builtin "object.__setattr__")))
    (exb_BadSet : PySem.W.subIn K (.ref C_BadSet) (.type "BaseException") = some true)
    (ty_BadSet : PySem.W.typeIn K (.ref C_BadSet) = some (.type "type"))
    (kp_BadSet : PySem.W.keepIn K (.ref C_BadSet) = true)
    (su_BadSet : PySem.W.ks_superIn K C_BadSet C_BadSet "__init__" = some (some (.builtin "ValueError.__init__")))
    (sv_BadSet : PySem.W.subIn K (.ref C_BadSet) (.type "ValueError") = some true)
    (mr_BadSet : PySem.W.mroIn K C_BadSet (.ref C_BadSet) = some true)
    (ic_BadSet : PySem.W.isClsIn K C_BadSet = true)
    (no_BadSet : PySem.W.findIn K (.ref C_BadSet) "part" = some none)
    (iC_BadSet : PySem.W.findIn K (.ref C_BadSet) "__init__" = some (some (.ref fI_BadSet)))
    (tI_BadSet : PySem.W.typeIn K (.ref fI_BadSet) = some (.type "function"))
    (ga_BadSet : PySem.W.findIn K (.ref C_BadSet) "__getattribute__" = some (some (.builtin "BaseException.__getattribute__")))
    (gg_BadSet : PySem.W.findIn K (.ref C_BadSet) "__getattr__" = some none)
    (hd_BadSet : PySem.W.hasDictIn K C_BadSet = true)
    (ha_BadSet : PySem.W.findIn K (.ref C_BadSet) "__class__" = some (some (.builtin "object.__class__")))
    (hm_BadSet : PySem.W.mroIn K C_BadSet (.type "object") = some true)
    (lk_BadSet : K.lookup fI_BadSet = some ⟨oc_BadSet, od_BadSet, .func (PySem.W.ksFn "__init__" "BadSet.__init__" (defArgs i_BadSet) (defBody i_BadSet) (defScope i_BadSet) .none kV_BadSet doc_BadSet pm_BadSet an_BadSet (.ref cda_BadSet) ct_BadSet cc_BadSet), osl_BadSet⟩)
    (hcd_BadSet : PySem.W.codeIn K (.ref cda_BadSet) "BadSet.__init__" = true)
    (hco_BadSet : K.lookup cda_BadSet = some ⟨ccl_BadSet, cdd_BadSet, .fields vsC_BadSet, ccs_BadSet⟩)
    (hvs_BadSet : vsC_BadSet[2]? = some (.str fil tf_BadSet))
    (hce_BadSet : K.lookup cc_BadSet = some ⟨cl_BadSet, cld_BadSet, .cell (some (.ref C_BadSet)), csl_BadSet⟩)
    (em_BadSet : PySem.W.exmOne K (.ref C_BadSet) (.ref C_FieldError) = some true)
    (kit_BadSet_BadClaim : PySem.W.kitOne K (.ref C_BadSet) (.ref C_BadClaim) = some false)
    (kit_BadSet_BadCommand : PySem.W.kitOne K (.ref C_BadSet) (.ref C_BadCommand) = some false)
    (kit_BadSet_BadCommand_TooHard : PySem.W.kitAny K (.ref C_BadSet) [.ref C_BadCommand, .ref C_TooHard] = some false)
    (kit_BadSet_BadNumber : PySem.W.kitOne K (.ref C_BadSet) (.ref C_BadNumber) = some false)
    (kit_BadSet_BadPaper : PySem.W.kitOne K (.ref C_BadSet) (.ref C_BadPaper) = some false)
    (kit_BadSet_BadPlan : PySem.W.kitOne K (.ref C_BadSet) (.ref C_BadPlan) = some false)
    (kit_BadSet_BadPoly : PySem.W.kitOne K (.ref C_BadSet) (.ref C_BadPoly) = some false)
    (kit_BadSet_BadSet : PySem.W.kitOne K (.ref C_BadSet) (.ref C_BadSet) = some true)
    (kit_BadSet_BadText : PySem.W.kitOne K (.ref C_BadSet) (.ref C_BadText) = some false)
    (kit_BadSet_BadTower : PySem.W.kitOne K (.ref C_BadSet) (.ref C_BadTower) = some false)
    (kit_BadSet_BadTree : PySem.W.kitOne K (.ref C_BadSet) (.ref C_BadTree) = some false)
    (kit_BadSet_BadValue : PySem.W.kitOne K (.ref C_BadSet) (.ref C_BadValue) = some false)
    (kit_BadSet_Misfit : PySem.W.kitOne K (.ref C_BadSet) (.ref C_Misfit) = some false)
    (kit_BadSet_NoName : PySem.W.kitOne K (.ref C_BadSet) (.ref C_NoName) = some false)
    (kit_BadSet_Nothing : PySem.W.kitOne K (.ref C_BadSet) (.ref C_Nothing) = some false)
    (kit_BadSet_TooMany : PySem.W.kitOne K (.ref C_BadSet) (.ref C_TooMany) = some false)
    (xL_BadNumber : K.lookup C_BadNumber = some (PySem.excClassObj nm_BadNumber q_BadNumber C_BadNumber N_BadNumber bs_BadNumber [.ref C_FieldError, .type "ValueError", .type "Exception", .type "BaseException", .type "object"] true sn_BadNumber sub_BadNumber ab_BadNumber col_BadNumber dd_BadNumber m0_BadNumber m1_BadNumber m2_BadNumber m3_BadNumber m5_BadNumber "ValueError.__new__"))
    (sa_BadNumber : PySem.W.findIn K (.ref C_BadNumber) "__setattr__" = some (some (.builtin "object.__setattr__")))
    (exb_BadNumber : PySem.W.subIn K (.ref C_BadNumber) (.type "BaseException") = some true)
    (ty_BadNumber : PySem.W.typeIn K (.ref C_BadNumber) = some (.type "type"))
    (kp_BadNumber : PySem.W.keepIn K (.ref C_BadNumber) = true)
    (su_BadNumber : PySem.W.ks_superIn K C_BadNumber C_BadNumber "__init__" = some (some (.builtin "ValueError.__init__")))
    (sv_BadNumber : PySem.W.subIn K (.ref C_BadNumber) (.type "ValueError") = some true)
    (mr_BadNumber : PySem.W.mroIn K C_BadNumber (.ref C_BadNumber) = some true)
    (ic_BadNumber : PySem.W.isClsIn K C_BadNumber = true)
    (no_BadNumber : PySem.W.findIn K (.ref C_BadNumber) "part" = some none)
    (iC_BadNumber : PySem.W.findIn K (.ref C_BadNumber) "__init__" = some (some (.ref fI_BadNumber)))
    (tI_BadNumber : PySem.W.typeIn K (.ref fI_BadNumber) = some (.type "function"))
    (ga_BadNumber : PySem.W.findIn K (.ref C_BadNumber) "__getattribute__" = some (some (.builtin "BaseException.__getattribute__")))
    (gg_BadNumber : PySem.W.findIn K (.ref C_BadNumber) "__getattr__" = some none)
    (hd_BadNumber : PySem.W.hasDictIn K C_BadNumber = true)
    (ha_BadNumber : PySem.W.findIn K (.ref C_BadNumber) "__class__" = some (some (.builtin "object.__class__")))
    (hm_BadNumber : PySem.W.mroIn K C_BadNumber (.type "object") = some true)
    (lk_BadNumber : K.lookup fI_BadNumber = some ⟨oc_BadNumber, od_BadNumber, .func (PySem.W.ksFn "__init__" "BadNumber.__init__" (defArgs i_BadNumber) (defBody i_BadNumber) (defScope i_BadNumber) .none kV_BadNumber doc_BadNumber pm_BadNumber an_BadNumber (.ref cda_BadNumber) ct_BadNumber cc_BadNumber), osl_BadNumber⟩)
    (hcd_BadNumber : PySem.W.codeIn K (.ref cda_BadNumber) "BadNumber.__init__" = true)
    (hco_BadNumber : K.lookup cda_BadNumber = some ⟨ccl_BadNumber, cdd_BadNumber, .fields vsC_BadNumber, ccs_BadNumber⟩)
    (hvs_BadNumber : vsC_BadNumber[2]? = some (.str fil tf_BadNumber))
    (hce_BadNumber : K.lookup cc_BadNumber = some ⟨cl_BadNumber, cld_BadNumber, .cell (some (.ref C_BadNumber)), csl_BadNumber⟩)
    (em_BadNumber : PySem.W.exmOne K (.ref C_BadNumber) (.ref C_FieldError) = some true)
    (kit_BadNumber_BadClaim : PySem.W.kitOne K (.ref C_BadNumber) (.ref C_BadClaim) = some false)
    (kit_BadNumber_BadCommand : PySem.W.kitOne K (.ref C_BadNumber) (.ref C_BadCommand) = some false)
    (kit_BadNumber_BadCommand_TooHard : PySem.W.kitAny K (.ref C_BadNumber) [.ref C_BadCommand, .ref C_TooHard] = some false)
    (kit_BadNumber_BadNumber : PySem.W.kitOne K (.ref C_BadNumber) (.ref C_BadNumber) = some true)
    (kit_BadNumber_BadPaper : PySem.W.kitOne K (.ref C_BadNumber) (.ref C_BadPaper) = some false)
    (kit_BadNumber_BadPlan : PySem.W.kitOne K (.ref C_BadNumber) (.ref C_BadPlan) = some false)
    (kit_BadNumber_BadPoly : PySem.W.kitOne K (.ref C_BadNumber) (.ref C_BadPoly) = some false)
    (kit_BadNumber_BadSet : PySem.W.kitOne K (.ref C_BadNumber) (.ref C_BadSet) = some false)
    (kit_BadNumber_BadText : PySem.W.kitOne K (.ref C_BadNumber) (.ref C_BadText) = some false)
    (kit_BadNumber_BadTower : PySem.W.kitOne K (.ref C_BadNumber) (.ref C_BadTower) = some false)
    (kit_BadNumber_BadTree : PySem.W.kitOne K (.ref C_BadNumber) (.ref C_BadTree) = some false)
    (kit_BadNumber_BadValue : PySem.W.kitOne K (.ref C_BadNumber) (.ref C_BadValue) = some false)
    (kit_BadNumber_Misfit : PySem.W.kitOne K (.ref C_BadNumber) (.ref C_Misfit) = some false)
    (kit_BadNumber_NoName : PySem.W.kitOne K (.ref C_BadNumber) (.ref C_NoName) = some false)
    (kit_BadNumber_Nothing : PySem.W.kitOne K (.ref C_BadNumber) (.ref C_Nothing) = some false)
    (kit_BadNumber_TooMany : PySem.W.kitOne K (.ref C_BadNumber) (.ref C_TooMany) = some false)
    (lc0 : cd32 = .ref lco)
    (lc1 : K.lookup lco = some ⟨le, ldd, .fields lls, lsl⟩)
    (lc2 : lls[11]? = some (.ref lta))
    (lc3 : K.lookup lta = none)
    (HP : ProgF P fil)
    (i_gcd : PySem.W.nsIn K mainGlobals "gcd" = some (some (.builtin "math.gcd")))
    (v_BASES : PySem.W.nsIn K mainGlobals "BASES" = some (some (.ref A_BASES)))
    (w_BASES : K.lookup A_BASES = some ⟨.type "tuple", ad_BASES, .seq #[.int 2 u_BASES_0, .int 3 u_BASES_1, .int 5 u_BASES_2, .int 7 u_BASES_3, .int 11 u_BASES_4, .int 13 u_BASES_5, .int 17 u_BASES_6, .int 19 u_BASES_7, .int 23 u_BASES_8, .int 29 u_BASES_9, .int 31 u_BASES_10, .int 37 u_BASES_11, .int 41 u_BASES_12] an_BASES, as_BASES⟩)
    (v_BUT : PySem.W.nsIn K mainGlobals "BUT" = some (some (.str "but" t_BUT)))
    (v_MOST : PySem.W.nsIn K mainGlobals "MOST" = some (some (.int 1000000000000000000000000 t_MOST)))
    (v_MOST_CHARACTERISTIC : PySem.W.nsIn K mainGlobals "MOST_CHARACTERISTIC" = some (some (.int 1000000000000 t_MOST_CHARACTERISTIC)))
    (v_ONLY : PySem.W.nsIn K mainGlobals "ONLY" = some (some (.str "only" t_ONLY)))
    (v_SMALL : PySem.W.nsIn K mainGlobals "SMALL" = some (some (.int 100000 t_SMALL)))
    (v_WORDS : PySem.W.nsIn K mainGlobals "WORDS" = some (some (.ref A_WORDS)))
    (w_WORDS : K.lookup A_WORDS = some ⟨.type "tuple", ad_WORDS, .seq #[.str "only" u_WORDS_0, .str "but" u_WORDS_1] an_WORDS, as_WORDS⟩) :
    ∃ lc tb, K.lookup tb = none ∧ (∃ o fd2, K.lookup fa = some o ∧ o.data = .func fd2 ∧ fd2.code = .ref lc) ∧ (∃ e dd ls sl, K.lookup lc = some ⟨e, dd, .fields ls, sl⟩ ∧ ls[11]? = some (.ref tb)) ∧ ∃ fd : FuncData, (∀ (s : Shared) (v : Value), BindsTo s fd ⟨[v], []⟩ [("script", v)]) ∧ ∀ base : Heap, K.In base → base.Ns mainGlobals mg → LamX.TabB base mg lc tb → LawRun P w K mg base fa fd ["script"] (spLaw K tb) := by
  have e := hfa.symm.trans (PySem.W.mg_of X G a32)
  cases e
  let T : Tx K mg := { fa__law_draw := f0, fd__law_draw := _, F__law_draw := ⟨⟨oc0, od0, _, kV0, dc0, pm0, an0, cd0, ct0, sl0, rfl, l0, c0, .inl ⟨rfl, rfl⟩, .inl rfl⟩, k0⟩, g__law_draw := PySem.W.mg_of X G a0, fa__law_pick := f1, fd__law_pick := _, F__law_pick := ⟨⟨oc1, od1, _, kV1, dc1, pm1, an1, cd1, ct1, sl1, rfl, l1, c1, .inl ⟨rfl, rfl⟩, .inl rfl⟩, k1⟩, g__law_pick := PySem.W.mg_of X G a1, fa__law_set := f2, fd__law_set := _, F__law_set := ⟨⟨oc2, od2, _, kV2, dc2, pm2, an2, cd2, ct2, sl2, rfl, l2, c2, .inl ⟨rfl, rfl⟩, .inl rfl⟩, k2⟩, g__law_set := PySem.W.mg_of X G a2, fa_is_whole := f3, fd_is_whole := _, F_is_whole := ⟨⟨oc3, od3, _, kV3, dc3, pm3, an3, cd3, ct3, sl3, rfl, l3, c3, .inl ⟨rfl, rfl⟩, .inl rfl⟩, k3⟩, g_is_whole := PySem.W.mg_of X G a3, fa_is_within := f4, fd_is_within := _, F_is_within := ⟨⟨oc4, od4, _, kV4, dc4, pm4, an4, cd4, ct4, sl4, rfl, l4, c4, .inl ⟨rfl, rfl⟩, .inl rfl⟩, k4⟩, g_is_within := PySem.W.mg_of X G a4, fa_is_listed := f5, fd_is_listed := _, F_is_listed := ⟨⟨oc5, od5, _, kV5, dc5, pm5, an5, cd5, ct5, sl5, rfl, l5, c5, .inl ⟨rfl, rfl⟩, .inl rfl⟩, k5⟩, g_is_listed := PySem.W.mg_of X G a5, fa_is_where := f6, fd_is_where := _, F_is_where := ⟨⟨oc6, od6, _, kV6, dc6, pm6, an6, cd6, ct6, sl6, rfl, l6, c6, .inl ⟨rfl, rfl⟩, .inl rfl⟩, k6⟩, g_is_where := PySem.W.mg_of X G a6, fa_need_where := f7, fd_need_where := _, F_need_where := ⟨⟨oc7, od7, _, kV7, dc7, pm7, an7, cd7, ct7, sl7, rfl, l7, c7, .inr ⟨by simp, T7, _, _, _, rfl, d7, rfl, (.cons ⟨_, rfl⟩ .nil)⟩, .inl rfl⟩, k7⟩, g_need_where := PySem.W.mg_of X G a7, fa_other_word := f8, fd_other_word := _, F_other_word := ⟨⟨oc8, od8, _, kV8, dc8, pm8, an8, cd8, ct8, sl8, rfl, l8, c8, .inl ⟨rfl, rfl⟩, .inl rfl⟩, k8⟩, g_other_word := PySem.W.mg_of X G a8, fa_turned_set := f9, fd_turned_set := _, F_turned_set := ⟨⟨oc9, od9, _, kV9, dc9, pm9, an9, cd9, ct9, sl9, rfl, l9, c9, .inl ⟨rfl, rfl⟩, .inl rfl⟩, k9⟩, g_turned_set := PySem.W.mg_of X G a9, fa_without_primes := f10, fd_without_primes := _, F_without_primes := ⟨⟨oc10, od10, _, kV10, dc10, pm10, an10, cd10, ct10, sl10, rfl, l10, c10, .inl ⟨rfl, rfl⟩, .inl rfl⟩, k10⟩, g_without_primes := PySem.W.mg_of X G a10, fa_met := f11, fd_met := _, F_met := ⟨⟨oc11, od11, _, kV11, dc11, pm11, an11, cd11, ct11, sl11, rfl, l11, c11, .inl ⟨rfl, rfl⟩, .inl rfl⟩, k11⟩, g_met := PySem.W.mg_of X G a11, fa_joined := f12, fd_joined := _, F_joined := ⟨⟨oc12, od12, _, kV12, dc12, pm12, an12, cd12, ct12, sl12, rfl, l12, c12, .inl ⟨rfl, rfl⟩, .inl rfl⟩, k12⟩, g_joined := PySem.W.mg_of X G a12, fa_join := f13, fd_join := _, F_join := ⟨⟨oc13, od13, _, kV13, dc13, pm13, an13, cd13, ct13, sl13, rfl, l13, c13, .inl ⟨rfl, rfl⟩, .inl rfl⟩, k13⟩, g_join := PySem.W.mg_of X G a13, fa_meet := f14, fd_meet := _, F_meet := ⟨⟨oc14, od14, _, kV14, dc14, pm14, an14, cd14, ct14, sl14, rfl, l14, c14, .inl ⟨rfl, rfl⟩, .inl rfl⟩, k14⟩, g_meet := PySem.W.mg_of X G a14, fa_others := f15, fd_others := _, F_others := ⟨⟨oc15, od15, _, kV15, dc15, pm15, an15, cd15, ct15, sl15, rfl, l15, c15, .inl ⟨rfl, rfl⟩, .inl rfl⟩, k15⟩, g_others := PySem.W.mg_of X G a15, fa_has := f16, fd_has := _, F_has := ⟨⟨oc16, od16, _, kV16, dc16, pm16, an16, cd16, ct16, sl16, rfl, l16, c16, .inl ⟨rfl, rfl⟩, .inl rfl⟩, k16⟩, g_has := PySem.W.mg_of X G a16, fa_power_below := f17, fd_power_below := _, F_power_below := ⟨⟨oc17, od17, _, kV17, dc17, pm17, an17, cd17, ct17, sl17, rfl, l17, c17, .inl ⟨rfl, rfl⟩, .inl rfl⟩, k17⟩, g_power_below := PySem.W.mg_of X G a17, fa_stands := f18, fd_stands := _, F_stands := ⟨⟨oc18, od18, _, kV18, dc18, pm18, an18, cd18, ct18, sl18, rfl, l18, c18, .inl ⟨rfl, rfl⟩, .inl rfl⟩, k18⟩, g_stands := PySem.W.mg_of X G a18, fa_prime := f19, fd_prime := _, F_prime := ⟨⟨oc19, od19, _, kV19, dc19, pm19, an19, cd19, ct19, sl19, rfl, l19, c19, .inl ⟨rfl, rfl⟩, .inl rfl⟩, k19⟩, g_prime := PySem.W.mg_of X G a19, fa_is_prime := f20, fd_is_prime := _, F_is_prime := ⟨⟨oc20, od20, _, kV20, dc20, pm20, an20, cd20, ct20, sl20, rfl, l20, c20, .inl ⟨rfl, rfl⟩, .inl rfl⟩, k20⟩, g_is_prime := PySem.W.mg_of X G a20, fa_need_prime := f21, fd_need_prime := _, F_need_prime := ⟨⟨oc21, od21, _, kV21, dc21, pm21, an21, cd21, ct21, sl21, rfl, l21, c21, .inr ⟨by simp, T21, _, _, _, rfl, d21, rfl, (.cons ⟨_, rfl⟩ .nil)⟩, .inl rfl⟩, k21⟩, g_need_prime := PySem.W.mg_of X G a21, fa_is_in := f22, fd_is_in := _, F_is_in := ⟨⟨oc22, od22, _, kV22, dc22, pm22, an22, cd22, ct22, sl22, rfl, l22, c22, .inl ⟨rfl, rfl⟩, .inl rfl⟩, k22⟩, g_is_in := PySem.W.mg_of X G a22, fa_is_same := f23, fd_is_same := _, F_is_same := ⟨⟨oc23, od23, _, kV23, dc23, pm23, an23, cd23, ct23, sl23, rfl, l23, c23, .inl ⟨rfl, rfl⟩, .inl rfl⟩, k23⟩, g_is_same := PySem.W.mg_of X G a23, fa_are_same := f24, fd_are_same := _, F_are_same := ⟨⟨oc24, od24, _, kV24, dc24, pm24, an24, cd24, ct24, sl24, rfl, l24, c24, .inl ⟨rfl, rfl⟩, .inl rfl⟩, k24⟩, g_are_same := PySem.W.mg_of X G a24, fa_need_whole := f25, fd_need_whole := _, F_need_whole := ⟨⟨oc25, od25, _, kV25, dc25, pm25, an25, cd25, ct25, sl25, rfl, l25, c25, .inr ⟨by simp, T25, _, _, _, rfl, d25, rfl, (.cons rfl .nil)⟩, .inl rfl⟩, k25⟩, g_need_whole := PySem.W.mg_of X G a25, fa_parts_found := f26, fd_parts_found := _, F_parts_found := ⟨⟨oc26, od26, _, kV26, dc26, pm26, an26, cd26, ct26, sl26, rfl, l26, c26, .inl ⟨rfl, rfl⟩, .inl rfl⟩, k26⟩, g_parts_found := PySem.W.mg_of X G a26, fa_parted := f27, fd_parted := _, F_parted := ⟨⟨oc27, od27, _, kV27, dc27, pm27, an27, cd27, ct27, sl27, rfl, l27, c27, .inl ⟨rfl, rfl⟩, .inl rfl⟩, k27⟩, g_parted := PySem.W.mg_of X G a27, fa_primes_of := f28, fd_primes_of := _, F_primes_of := ⟨⟨oc28, od28, _, kV28, dc28, pm28, an28, cd28, ct28, sl28, rfl, l28, c28, .inl ⟨rfl, rfl⟩, .inl rfl⟩, k28⟩, g_primes_of := PySem.W.mg_of X G a28, fa_told_primes := f29, fd_told_primes := _, F_told_primes := ⟨⟨oc29, od29, _, kV29, dc29, pm29, an29, cd29, ct29, sl29, rfl, l29, c29, .inl ⟨rfl, rfl⟩, .inl rfl⟩, k29⟩, g_told_primes := PySem.W.mg_of X G a29, fa__law_heard := f30, fd__law_heard := _, F__law_heard := ⟨⟨oc30, od30, _, kV30, dc30, pm30, an30, cd30, ct30, sl30, rfl, l30, c30, .inl ⟨rfl, rfl⟩, .inl rfl⟩, k30⟩, g__law_heard := PySem.W.mg_of X G a30, fa__law_pen := f31, fd__law_pen := _, F__law_pen := ⟨⟨oc31, od31, _, kV31, dc31, pm31, an31, cd31, ct31, sl31, rfl, l31, c31, .inl ⟨rfl, rfl⟩, .inl rfl⟩, k31⟩, g__law_pen := PySem.W.mg_of X G a31, fa_law := fa, fd_law := _, F_law := ⟨⟨oc32, od32, _, kV32, dc32, pm32, an32, cd32, ct32, sl32, rfl, l32, c32, .inl ⟨rfl, rfl⟩, .inl rfl⟩, k32⟩, g_law := PySem.W.mg_of X G a32, nb_abs := PySem.W.mg_none_of X G z_abs, nb_all := PySem.W.mg_none_of X G z_all, nb_bool := PySem.W.mg_none_of X G z_bool, nb_int := PySem.W.mg_none_of X G z_int, nb_isinstance := PySem.W.mg_none_of X G z_isinstance, nb_len := PySem.W.mg_none_of X G z_len, nb_list := PySem.W.mg_none_of X G z_list, nb_range := PySem.W.mg_none_of X G z_range, nb_str := PySem.W.mg_none_of X G z_str, nb_super := PySem.W.mg_none_of X G z_super, nb_tuple := PySem.W.mg_none_of X G z_tuple, C_BadClaim := C_BadClaim, gC_BadClaim := PySem.W.mg_of X G aC_BadClaim, C_BadCommand := C_BadCommand, gC_BadCommand := PySem.W.mg_of X G aC_BadCommand, C_BadNumber := C_BadNumber, gC_BadNumber := PySem.W.mg_of X G aC_BadNumber, C_BadPaper := C_BadPaper, gC_BadPaper := PySem.W.mg_of X G aC_BadPaper, C_BadPlan := C_BadPlan, gC_BadPlan := PySem.W.mg_of X G aC_BadPlan, C_BadPoly := C_BadPoly, gC_BadPoly := PySem.W.mg_of X G aC_BadPoly, C_BadSet := C_BadSet, gC_BadSet := PySem.W.mg_of X G aC_BadSet, C_BadText := C_BadText, gC_BadText := PySem.W.mg_of X G aC_BadText, C_BadTower := C_BadTower, gC_BadTower := PySem.W.mg_of X G aC_BadTower, C_BadTree := C_BadTree, gC_BadTree := PySem.W.mg_of X G aC_BadTree, C_BadValue := C_BadValue, gC_BadValue := PySem.W.mg_of X G aC_BadValue, C_FieldError := C_FieldError, gC_FieldError := PySem.W.mg_of X G aC_FieldError, C_Misfit := C_Misfit, gC_Misfit := PySem.W.mg_of X G aC_Misfit, C_NoName := C_NoName, gC_NoName := PySem.W.mg_of X G aC_NoName, C_Nothing := C_Nothing, gC_Nothing := PySem.W.mg_of X G aC_Nothing, C_TooHard := C_TooHard, gC_TooHard := PySem.W.mg_of X G aC_TooHard, C_TooMany := C_TooMany, gC_TooMany := PySem.W.mg_of X G aC_TooMany, ex_BadSet := exc1_mk (pre := "no set of characteristics: ") (si := i_BadSet) (PySem.W.mg_of X G aC_BadSet) xL_BadSet (by rfl) sa_BadSet exb_BadSet ty_BadSet kp_BadSet su_BadSet sv_BadSet mr_BadSet ic_BadSet no_BadSet iC_BadSet tI_BadSet ga_BadSet gg_BadSet hd_BadSet ha_BadSet xhn xht hm_BadSet lk_BadSet hcd_BadSet hco_BadSet hvs_BadSet hce_BadSet (PySem.W.mg_none_of X G z_super) xno rfl si_BadSet rfl rfl (by decide) (by decide) (by decide) _ (fun _ => rfl) bi_BadSet, exm_BadSet := em_BadSet, kit_BadSet_BadClaim := kit_BadSet_BadClaim, kit_BadSet_BadCommand := kit_BadSet_BadCommand, kit_BadSet_BadCommand_TooHard := kit_BadSet_BadCommand_TooHard, kit_BadSet_BadNumber := kit_BadSet_BadNumber, kit_BadSet_BadPaper := kit_BadSet_BadPaper, kit_BadSet_BadPlan := kit_BadSet_BadPlan, kit_BadSet_BadPoly := kit_BadSet_BadPoly, kit_BadSet_BadSet := kit_BadSet_BadSet, kit_BadSet_BadText := kit_BadSet_BadText, kit_BadSet_BadTower := kit_BadSet_BadTower, kit_BadSet_BadTree := kit_BadSet_BadTree, kit_BadSet_BadValue := kit_BadSet_BadValue, kit_BadSet_Misfit := kit_BadSet_Misfit, kit_BadSet_NoName := kit_BadSet_NoName, kit_BadSet_Nothing := kit_BadSet_Nothing, kit_BadSet_TooMany := kit_BadSet_TooMany, ex_BadNumber := exc1_mk (pre := "no whole number within its bounds: ") (si := i_BadNumber) (PySem.W.mg_of X G aC_BadNumber) xL_BadNumber (by rfl) sa_BadNumber exb_BadNumber ty_BadNumber kp_BadNumber su_BadNumber sv_BadNumber mr_BadNumber ic_BadNumber no_BadNumber iC_BadNumber tI_BadNumber ga_BadNumber gg_BadNumber hd_BadNumber ha_BadNumber xhn xht hm_BadNumber lk_BadNumber hcd_BadNumber hco_BadNumber hvs_BadNumber hce_BadNumber (PySem.W.mg_none_of X G z_super) xno rfl si_BadNumber rfl rfl (by decide) (by decide) (by decide) _ (fun _ => rfl) bi_BadNumber, exm_BadNumber := em_BadNumber, kit_BadNumber_BadClaim := kit_BadNumber_BadClaim, kit_BadNumber_BadCommand := kit_BadNumber_BadCommand, kit_BadNumber_BadCommand_TooHard := kit_BadNumber_BadCommand_TooHard, kit_BadNumber_BadNumber := kit_BadNumber_BadNumber, kit_BadNumber_BadPaper := kit_BadNumber_BadPaper, kit_BadNumber_BadPlan := kit_BadNumber_BadPlan, kit_BadNumber_BadPoly := kit_BadNumber_BadPoly, kit_BadNumber_BadSet := kit_BadNumber_BadSet, kit_BadNumber_BadText := kit_BadNumber_BadText, kit_BadNumber_BadTower := kit_BadNumber_BadTower, kit_BadNumber_BadTree := kit_BadNumber_BadTree, kit_BadNumber_BadValue := kit_BadNumber_BadValue, kit_BadNumber_Misfit := kit_BadNumber_Misfit, kit_BadNumber_NoName := kit_BadNumber_NoName, kit_BadNumber_Nothing := kit_BadNumber_Nothing, kit_BadNumber_TooMany := kit_BadNumber_TooMany, ltab := lta, lcode := lco, hlc := lc0, file := fil, gi_gcd := PySem.W.mg_of X G i_gcd, ca_BASES := A_BASES, gc_BASES := PySem.W.mg_of X G v_BASES, rc_BASES := fun _ _ => .tup (xs := [.int 2, .int 3, .int 5, .int 7, .int 11, .int 13, .int 17, .int 19, .int 23, .int 29, .int 31, .int 37, .int 41]) (.inr ⟨_, _, _, w_BASES, rfl, rfl, (by show 13 ≤ sizeLine; decide), (.cons ⟨_, rfl⟩ (.cons ⟨_, rfl⟩ (.cons ⟨_, rfl⟩ (.cons ⟨_, rfl⟩ (.cons ⟨_, rfl⟩ (.cons ⟨_, rfl⟩ (.cons ⟨_, rfl⟩ (.cons ⟨_, rfl⟩ (.cons ⟨_, rfl⟩ (.cons ⟨_, rfl⟩ (.cons ⟨_, rfl⟩ (.cons ⟨_, rfl⟩ (.cons ⟨_, rfl⟩ .nil)))))))))))))⟩) (.cons (.int _) (.cons (.int _) (.cons (.int _) (.cons (.int _) (.cons (.int _) (.cons (.int _) (.cons (.int _) (.cons (.int _) (.cons (.int _) (.cons (.int _) (.cons (.int _) (.cons (.int _) (.cons (.int _) .nil))))))))))))), ct_BUT := t_BUT, gc_BUT := PySem.W.mg_of X G v_BUT, ct_MOST := t_MOST, gc_MOST := PySem.W.mg_of X G v_MOST, ct_MOST_CHARACTERISTIC := t_MOST_CHARACTERISTIC, gc_MOST_CHARACTERISTIC := PySem.W.mg_of X G v_MOST_CHARACTERISTIC, ct_ONLY := t_ONLY, gc_ONLY := PySem.W.mg_of X G v_ONLY, ct_SMALL := t_SMALL, gc_SMALL := PySem.W.mg_of X G v_SMALL, ca_WORDS := A_WORDS, gc_WORDS := PySem.W.mg_of X G v_WORDS, rc_WORDS := fun _ _ => .tup (xs := [.str "only", .str "but"]) (.inr ⟨_, _, _, w_WORDS, rfl, rfl, (by show 2 ≤ sizeLine; decide), (.cons ⟨_, rfl⟩ (.cons ⟨_, rfl⟩ .nil))⟩) (.cons (.str _) (.cons (.str _) .nil)) }
  exact ⟨lco, lta, lc3, ⟨_, _, l32, rfl, lc0⟩, ⟨_, _, _, _, lc1, lc2⟩, T.fd_law, fun s v => .of_eq rfl, fun base _ _ TB => ok_law T HP TB⟩
end Law
set_option Elab.async false
set_option linter.all false
set_option maxRecDepth 100000
open PySem PySem.W PyProof.Rows
set_option maxHeartbeats 0 in
theorem PySem.Challenge.cw_closedfields_k29_sets_refused_holds : PySem.Challenge.rw_closedfields_k29_sets_refused.Holds := by
  w_on; o_law; k_head; (case hw => w_witness2)
  k_fill
  refine DL.walk_lawT (l := PySem.Challenge.rw_closedfields_k29_sets_refused) (n := 63) (x := "script") (sp := fun w tb => Law.spLaw _ tb) rfl (by decide) rfl (by decide +kernel) (fun w h Y => PySem.W.km_in_of Y) ?F (fun _ _ _ a ns hl ht hS => ⟨a, ns, rfl, ht, hS, hl, fun _ => rfl⟩)
  case F =>
    intro w mg fa h KX G hmg
    refine' Law.all_mk KX G hmg ?a0 ?l0 ?c0 ?k0 ?a1 ?l1 ?c1 ?k1 ?a2 ?l2 ?c2 ?k2 ?a3 ?l3 ?c3 ?k3 ?a4 ?l4 ?c4 ?k4 ?a5 ?l5 ?c5 ?k5 ?a6 ?l6 ?c6 ?k6 ?a7 ?l7 ?c7 ?k7 ?d7 ?a8 ?l8 ?c8 ?k8 ?a9 ?l9 ?c9 ?k9 ?a10 ?l10 ?c10 ?k10 ?a11 ?l11 ?c11 ?k11 ?a12 ?l12 ?c12 ?k12 ?a13 ?l13 ?c13 ?k13 ?a14 ?l14 ?c14 ?k14 ?a15 ?l15 ?c15 ?k15 ?a16 ?l16 ?c16 ?k16 ?a17 ?l17 ?c17 ?k17 ?a18 ?l18 ?c18 ?k18 ?a19 ?l19 ?c19 ?k19 ?a20 ?l20 ?c20 ?k20 ?a21 ?l21 ?c21 ?k21 ?d21 ?a22 ?l22 ?c22 ?k22 ?a23 ?l23 ?c23 ?k23 ?a24 ?l24 ?c24 ?k24 ?a25 ?l25 ?c25 ?k25 ?d25 ?a26 ?l26 ?c26 ?k26 ?a27 ?l27 ?c27 ?k27 ?a28 ?l28 ?c28 ?k28 ?a29 ?l29 ?c29 ?k29 ?a30 ?l30 ?c30 ?k30 ?a31 ?l31 ?c31 ?k31 ?a32 ?l32 ?c32 ?k32 ?z_abs ?z_all ?z_bool ?z_int ?z_isinstance ?z_len ?z_list ?z_range ?z_str ?z_super ?z_tuple ?aC_BadClaim ?aC_BadCommand ?aC_BadNumber ?aC_BadPaper ?aC_BadPlan ?aC_BadPoly ?aC_BadSet ?aC_BadText ?aC_BadTower ?aC_BadTree ?aC_BadValue ?aC_FieldError ?aC_Misfit ?aC_NoName ?aC_Nothing ?aC_TooHard ?aC_TooMany ?xno ?xhn ?xht ?xL_BadSet ?sa_BadSet ?exb_BadSet ?ty_BadSet ?kp_BadSet ?su_BadSet ?sv_BadSet ?mr_BadSet ?ic_BadSet ?no_BadSet ?iC_BadSet ?tI_BadSet ?ga_BadSet ?gg_BadSet ?hd_BadSet ?ha_BadSet ?hm_BadSet ?lk_BadSet ?hcd_BadSet ?hco_BadSet ?hvs_BadSet ?hce_BadSet ?em_BadSet ?kit_BadSet_BadClaim ?kit_BadSet_BadCommand ?kit_BadSet_BadCommand_TooHard ?kit_BadSet_BadNumber ?kit_BadSet_BadPaper ?kit_BadSet_BadPlan ?kit_BadSet_BadPoly ?kit_BadSet_BadSet ?kit_BadSet_BadText ?kit_BadSet_BadTower ?kit_BadSet_BadTree ?kit_BadSet_BadValue ?kit_BadSet_Misfit ?kit_BadSet_NoName ?kit_BadSet_Nothing ?kit_BadSet_TooMany ?xL_BadNumber ?sa_BadNumber ?exb_BadNumber ?ty_BadNumber ?kp_BadNumber ?su_BadNumber ?sv_BadNumber ?mr_BadNumber ?ic_BadNumber ?no_BadNumber ?iC_BadNumber ?tI_BadNumber ?ga_BadNumber ?gg_BadNumber ?hd_BadNumber ?ha_BadNumber ?hm_BadNumber ?lk_BadNumber ?hcd_BadNumber ?hco_BadNumber ?hvs_BadNumber ?hce_BadNumber ?em_BadNumber ?kit_BadNumber_BadClaim ?kit_BadNumber_BadCommand ?kit_BadNumber_BadCommand_TooHard ?kit_BadNumber_BadNumber ?kit_BadNumber_BadPaper ?kit_BadNumber_BadPlan ?kit_BadNumber_BadPoly ?kit_BadNumber_BadSet ?kit_BadNumber_BadText ?kit_BadNumber_BadTower ?kit_BadNumber_BadTree ?kit_BadNumber_BadValue ?kit_BadNumber_Misfit ?kit_BadNumber_NoName ?kit_BadNumber_Nothing ?kit_BadNumber_TooMany ?lc0 ?lc1 ?lc2 ?lc3 ?HP ?i_gcd ?v_BASES ?w_BASES ?v_BUT ?v_MOST ?v_MOST_CHARACTERISTIC ?v_ONLY ?v_SMALL ?v_WORDS ?w_WORDS
    (case a0 => k_is); (case l0 => k_is); (case c0 => k_is); (case k0 => k_is); (case a1 => k_is); (case l1 => k_is)
    (case c1 => k_is); (case k1 => k_is); (case a2 => k_is); (case l2 => k_is); (case c2 => k_is); (case k2 => k_is)
    (case a3 => k_is); (case l3 => k_is); (case c3 => k_is); (case k3 => k_is); (case a4 => k_is); (case l4 => k_is)
    (case c4 => k_is); (case k4 => k_is); (case a5 => k_is); (case l5 => k_is); (case c5 => k_is); (case k5 => k_is)
    (case a6 => k_is); (case l6 => k_is); (case c6 => k_is); (case k6 => k_is); (case a7 => k_is); (case l7 => k_is)
    (case c7 => k_is); (case k7 => k_is); (case d7 => k_is); (case a8 => k_is); (case l8 => k_is); (case c8 => k_is)
    (case k8 => k_is); (case a9 => k_is); (case l9 => k_is); (case c9 => k_is); (case k9 => k_is); (case a10 => k_is)
    (case l10 => k_is); (case c10 => k_is); (case k10 => k_is); (case a11 => k_is); (case l11 => k_is); (case c11 => k_is)
    (case k11 => k_is); (case a12 => k_is); (case l12 => k_is); (case c12 => k_is); (case k12 => k_is); (case a13 => k_is)
    (case l13 => k_is); (case c13 => k_is); (case k13 => k_is); (case a14 => k_is); (case l14 => k_is); (case c14 => k_is)
    (case k14 => k_is); (case a15 => k_is); (case l15 => k_is); (case c15 => k_is); (case k15 => k_is); (case a16 => k_is)
    (case l16 => k_is); (case c16 => k_is); (case k16 => k_is); (case a17 => k_is); (case l17 => k_is); (case c17 => k_is)
    (case k17 => k_is); (case a18 => k_is); (case l18 => k_is); (case c18 => k_is); (case k18 => k_is); (case a19 => k_is)
    (case l19 => k_is); (case c19 => k_is); (case k19 => k_is); (case a20 => k_is); (case l20 => k_is); (case c20 => k_is)
    (case k20 => k_is); (case a21 => k_is); (case l21 => k_is); (case c21 => k_is); (case k21 => k_is); (case d21 => k_is)
    (case a22 => k_is); (case l22 => k_is); (case c22 => k_is); (case k22 => k_is); (case a23 => k_is); (case l23 => k_is)
    (case c23 => k_is); (case k23 => k_is); (case a24 => k_is); (case l24 => k_is); (case c24 => k_is); (case k24 => k_is)
    (case a25 => k_is); (case l25 => k_is); (case c25 => k_is); (case k25 => k_is); (case d25 => k_is); (case a26 => k_is)
    (case l26 => k_is); (case c26 => k_is); (case k26 => k_is); (case a27 => k_is); (case l27 => k_is); (case c27 => k_is)
    (case k27 => k_is); (case a28 => k_is); (case l28 => k_is); (case c28 => k_is); (case k28 => k_is); (case a29 => k_is)
    (case l29 => k_is); (case c29 => k_is); (case k29 => k_is); (case a30 => k_is); (case l30 => k_is); (case c30 => k_is)
    (case k30 => k_is); (case a31 => k_is); (case l31 => k_is); (case c31 => k_is); (case k31 => k_is); (case a32 => k_is)
    (case l32 => k_is); (case c32 => k_is); (case k32 => k_is); (case z_abs => k_is); (case z_all => k_is); (case z_bool => k_is)
    (case z_int => k_is); (case z_isinstance => k_is); (case z_len => k_is); (case z_list => k_is); (case z_range => k_is); (case z_str => k_is)
    (case z_super => k_is); (case z_tuple => k_is); (case aC_BadClaim => k_is); (case aC_BadCommand => k_is); (case aC_BadNumber => k_is); (case aC_BadPaper => k_is)
    (case aC_BadPlan => k_is); (case aC_BadPoly => k_is); (case aC_BadSet => k_is); (case aC_BadText => k_is); (case aC_BadTower => k_is); (case aC_BadTree => k_is)
    (case aC_BadValue => k_is); (case aC_FieldError => k_is); (case aC_Misfit => k_is); (case aC_NoName => k_is); (case aC_Nothing => k_is); (case aC_TooHard => k_is)
    (case aC_TooMany => k_is); (case xno => k_is); (case xhn => k_is); (case xht => k_is); (case xL_BadSet => k_is); (case sa_BadSet => k_is)
    (case exb_BadSet => k_is); (case ty_BadSet => k_is); (case kp_BadSet => k_is); (case su_BadSet => ks_is); (case sv_BadSet => k_is); (case mr_BadSet => k_is)
    (case ic_BadSet => k_is); (case no_BadSet => k_is); (case iC_BadSet => k_is); (case tI_BadSet => k_is); (case ga_BadSet => k_is); (case gg_BadSet => k_is)
    (case hd_BadSet => k_is); (case ha_BadSet => k_is); (case hm_BadSet => k_is); (case lk_BadSet => k_is); (case hcd_BadSet => k_is); (case hco_BadSet => k_is)
    (case hvs_BadSet => rfl); (case hce_BadSet => k_is); (case em_BadSet => kts_exm); (case kit_BadSet_BadClaim => kit_is); (case kit_BadSet_BadCommand => kit_is); (case kit_BadSet_BadCommand_TooHard => kit_is)
    (case kit_BadSet_BadNumber => kit_is); (case kit_BadSet_BadPaper => kit_is); (case kit_BadSet_BadPlan => kit_is); (case kit_BadSet_BadPoly => kit_is); (case kit_BadSet_BadSet => kit_is); (case kit_BadSet_BadText => kit_is)
    (case kit_BadSet_BadTower => kit_is); (case kit_BadSet_BadTree => kit_is); (case kit_BadSet_BadValue => kit_is); (case kit_BadSet_Misfit => kit_is); (case kit_BadSet_NoName => kit_is); (case kit_BadSet_Nothing => kit_is)
    (case kit_BadSet_TooMany => kit_is); (case xL_BadNumber => k_is); (case sa_BadNumber => k_is); (case exb_BadNumber => k_is); (case ty_BadNumber => k_is); (case kp_BadNumber => k_is)
    (case su_BadNumber => ks_is); (case sv_BadNumber => k_is); (case mr_BadNumber => k_is); (case ic_BadNumber => k_is); (case no_BadNumber => k_is); (case iC_BadNumber => k_is)
    (case tI_BadNumber => k_is); (case ga_BadNumber => k_is); (case gg_BadNumber => k_is); (case hd_BadNumber => k_is); (case ha_BadNumber => k_is); (case hm_BadNumber => k_is)
    (case lk_BadNumber => k_is); (case hcd_BadNumber => k_is); (case hco_BadNumber => k_is); (case hvs_BadNumber => rfl); (case hce_BadNumber => k_is); (case em_BadNumber => kts_exm)
    (case kit_BadNumber_BadClaim => kit_is); (case kit_BadNumber_BadCommand => kit_is); (case kit_BadNumber_BadCommand_TooHard => kit_is); (case kit_BadNumber_BadNumber => kit_is); (case kit_BadNumber_BadPaper => kit_is); (case kit_BadNumber_BadPlan => kit_is)
    (case kit_BadNumber_BadPoly => kit_is); (case kit_BadNumber_BadSet => kit_is); (case kit_BadNumber_BadText => kit_is); (case kit_BadNumber_BadTower => kit_is); (case kit_BadNumber_BadTree => kit_is); (case kit_BadNumber_BadValue => kit_is)
    (case kit_BadNumber_Misfit => kit_is); (case kit_BadNumber_NoName => kit_is); (case kit_BadNumber_Nothing => kit_is); (case kit_BadNumber_TooMany => kit_is); (case lc0 => rfl); (case lc1 => k_is)
    (case lc2 => rfl); (case lc3 => rfl); (case HP => exact ⟨by decide +kernel, by decide +kernel⟩); (case i_gcd => k_is); (case v_BASES => k_is); (case w_BASES => k_is)
    (case v_BUT => k_is); (case v_MOST => k_is); (case v_MOST_CHARACTERISTIC => k_is); (case v_ONLY => k_is); (case v_SMALL => k_is); (case v_WORDS => k_is)
    (case w_WORDS => k_is)
