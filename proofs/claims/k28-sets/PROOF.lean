import PyProof.Rows.All
import Wide.All
import OpenK.AllK
import Wide.FinOn
import HandS.ForMost
import HandS.ForExc
import HandS.CallSlots
import HandS.Wide
import HandS.Gcd
import HandS.IsInst
import HandS.Deep
import HandS.Style
import HandS.Star
import PyProof.ReprRoads
import HandS.RaiseMore
import HandS.Defaults
import PySem.Challenge.RW_closedfields_k28_sets_of_characteristics
set_option Elab.async false
set_option linter.all false
set_option maxRecDepth 100000
/-! Dl1: the data level: values as trees of data, what a program computes as a plain function over data; the readings of HandS are filled by it. -/
namespace DL
open PySem PySem.Spec PyProof.Rows L2

/-! ### data -/
inductive D where
  | non
  | bl (b : Bool)
  | int (i : Int)
  | str (s : Str)
  | lst (l : List D)
  | tup (l : List D)
  | dct (l : List (D × D))
  | ins (c : Str) (fs : List (Str × D))
  | ref (a : Addr)
instance : Inhabited D := ⟨.non⟩
/-- the state of what draws: the cells, how many were begun, what is left of a great one -/
structure Pen where
  cells : List Int
  at_ : Int
  left : Int
instance : Inhabited Pen := ⟨⟨[], 0, 0⟩⟩
structure Exc where
  cls : Str
  args : List D
/-- a computation: none where nothing is said of it -/
def M (α : Type) := Pen → Option (Except Exc α × Pen)
def pureM {α : Type} (a : α) : M α := fun st => some (.ok a, st)
def failM {α : Type} : M α := fun _ => none
def throwM {α : Type} (x : Exc) : M α := fun st => some (.error x, st)
def bindM {α β : Type} (f : M α) (g : α → M β) : M β := fun st => match f st with
  | none => none
  | some (.error x, st') => some (.error x, st')
  | some (.ok a, st') => g a st'
instance : Monad M where
  pure := pureM
  bind := bindM
theorem bindM_ok {α β : Type} {f : M α} {g : α → M β} {a : α} {st st' : Pen} (h : f st = some (.ok a, st')) : bindM f g st = g a st' := by unfold bindM; rw [h]
theorem bindM_err {α β : Type} {f : M α} {g : α → M β} {x : Exc} {st st' : Pen} (h : f st = some (.error x, st')) : bindM f g st = some (.error x, st') := by unfold bindM; rw [h]
@[simp] theorem pureM_st {α : Type} (a : α) (st : Pen) : pureM a st = some (.ok a, st) := rfl
@[simp] theorem bindM_pure {α β : Type} (a : α) (g : α → M β) : bindM (pureM a) g = g a := rfl
/-- an error is not served -/
def noErr {α : Type} (f : M α) : M α := fun st => match f st with
  | some (.ok a, st') => some (.ok a, st')
  | _ => none
theorem noErr_ok {α : Type} {f : M α} {a : α} {st st' : Pen} (h : f st = some (.ok a, st')) : noErr f st = some (.ok a, st') := by unfold noErr; rw [h]

/-! ### the module: its written part, its names -/
structure Md where
  K : PySem.W.Frag
  mg : Str → Option Value
mutual
/-- v stands for the data d in the frozen heap G -/
inductive Rep (m : Md) (G : Hp) : V → D → Prop
  | non : Rep m G .non .non
  | bl (b : Bool) : Rep m G (.bl b) (.bl b)
  | int (i : Int) : Rep m G (.int i) (.int i)
  | str (x : Str) : Rep m G (.str x) (.str x)
  | lst {a : Addr} {xs : List V} {ds : List D} : G a = some (.lst xs) → RepL m G xs ds → Rep m G (.ref a) (.lst ds)
  | tup {a : Addr} {xs : List V} {ds : List D} : SqT m.K G a xs → RepL m G xs ds → Rep m G (.ref a) (.tup ds)
  | dct {a : Addr} {kvs : List (Key × V)} {ds : List (D × D)} : G a = some (.dK kvs) → RepL m G (kvs.map (kV ·.1)) (ds.map (·.1)) → RepL m G (kvs.map (·.2)) (ds.map (·.2)) → Rep m G (.ref a) (.dct ds)
  | ins {a C dx : Addr} {c : Str} {vs : List (Str × V)} {fs : List (Str × D)} : G a = some (.ins C dx vs) → m.mg c = some (.ref C) → vs.map (·.1) = fs.map (·.1) → RepL m G (vs.map (·.2)) (fs.map (·.2)) → Rep m G (.ref a) (.ins c fs)
  | ref (a : Addr) : Rep m G (.ref a) (.ref a)
inductive RepL (m : Md) (G : Hp) : List V → List D → Prop
  | nil : RepL m G [] []
  | cons {v : V} {vs : List V} {d : D} {ds : List D} : Rep m G v d → RepL m G vs ds → RepL m G (v :: vs) (d :: ds)
end
theorem SqT.same {K : PySem.W.Frag} {H H' : Hp} {a : Addr} {xs : List V} (e : Same H H') (h : SqT K H a xs) : SqT K H' a xs := by
  rcases h with (h | ⟨o, h⟩) | h
  · exact .inl (.inl (e _ _ h))
  · exact .inl (.inr ⟨o, e _ _ h⟩)
  · exact .inr h
mutual
theorem Rep.same {m : Md} {G G' : Hp} (e : Same G G') : ∀ {v : V} {d : D}, Rep m G v d → Rep m G' v d
  | _, _, .non => .non
  | _, _, .bl b => .bl b
  | _, _, .int i => .int i
  | _, _, .str x => .str x
  | _, _, .lst h r => .lst (e _ _ h) (RepL.same e r)
  | _, _, .tup h r => .tup (SqT.same e h) (RepL.same e r)
  | _, _, .dct h r q => .dct (e _ _ h) (RepL.same e r) (RepL.same e q)
  | _, _, .ins h c n r => .ins (e _ _ h) c n (RepL.same e r)
  | _, _, .ref a => .ref a
theorem RepL.same {m : Md} {G G' : Hp} (e : Same G G') : ∀ {vs : List V} {ds : List D}, RepL m G vs ds → RepL m G' vs ds
  | _, _, .nil => .nil
  | _, _, .cons h r => .cons (Rep.same e h) (RepL.same e r)
end
section
variable {m : Md} {G : Hp}
theorem RepL.length : ∀ {vs : List V} {ds : List D}, RepL m G vs ds → vs.length = ds.length
  | _, _, .nil => rfl
  | _, _, .cons _ r => by rw [List.length_cons, List.length_cons, RepL.length r]
theorem RepL.get : ∀ {vs : List V} {ds : List D} {i : Nat} {d : D}, RepL m G vs ds → ds[i]? = some d → ∃ v, vs[i]? = some v ∧ Rep m G v d
  | _, _, _, _, .nil, e => by simp at e
  | _, _, 0, _, .cons r _, e => by simp at e; subst e; exact ⟨_, rfl, r⟩
  | _, _, i + 1, d, .cons _ t, e => by
    obtain ⟨u, h1, h2⟩ := RepL.get (i := i) (d := d) t (by simpa using e)
    exact ⟨u, by simpa using h1, h2⟩
theorem RepL.getV : ∀ {vs : List V} {ds : List D} {i : Nat} {v : V}, RepL m G vs ds → vs[i]? = some v → ∃ d, ds[i]? = some d ∧ Rep m G v d
  | _, _, _, _, .nil, e => by simp at e
  | _, _, 0, _, .cons r _, e => by simp at e; subst e; exact ⟨_, rfl, r⟩
  | _, _, i + 1, v, .cons _ t, e => by
    obtain ⟨u, h1, h2⟩ := RepL.getV (i := i) (v := v) t (by simpa using e)
    exact ⟨u, by simpa using h1, h2⟩
theorem RepL.append : ∀ {vs ws : List V} {ds es : List D}, RepL m G vs ds → RepL m G ws es → RepL m G (vs ++ ws) (ds ++ es)
  | _, _, _, _, .nil, s => s
  | _, _, _, _, .cons r t, s => .cons r (RepL.append t s)
theorem RepL.take : ∀ {vs : List V} {ds : List D} (n : Nat), RepL m G vs ds → RepL m G (vs.take n) (ds.take n)
  | _, _, 0, _ => .nil
  | _, _, _ + 1, .nil => .nil
  | _, _, n + 1, .cons r t => .cons r (RepL.take n t)
theorem RepL.drop : ∀ {vs : List V} {ds : List D} (n : Nat), RepL m G vs ds → RepL m G (vs.drop n) (ds.drop n)
  | _, _, 0, r => r
  | _, _, _ + 1, .nil => .nil
  | _, _, n + 1, .cons _ t => RepL.drop n t
theorem RepL.one {v : V} {d : D} (h : Rep m G v d) : RepL m G [v] [d] := .cons h .nil
theorem Rep.int_inv {v : V} {i : Int} (h : Rep m G v (.int i)) : v = .int i := by cases h; rfl
theorem Rep.bl_inv {v : V} {i : Bool} (h : Rep m G v (.bl i)) : v = .bl i := by cases h; rfl
theorem Rep.str_inv {v : V} {i : Str} (h : Rep m G v (.str i)) : v = .str i := by cases h; rfl
theorem Rep.non_inv {v : V} (h : Rep m G v .non) : v = .non := by cases h; rfl
theorem Rep.tup_inv {v : V} {ds : List D} (h : Rep m G v (.tup ds)) : ∃ a xs, v = .ref a ∧ SqT m.K G a xs ∧ RepL m G xs ds := by cases h with | tup h r => exact ⟨_, _, rfl, h, r⟩
theorem Rep.lst_inv {v : V} {ds : List D} (h : Rep m G v (.lst ds)) : ∃ a xs, v = .ref a ∧ G a = some (.lst xs) ∧ RepL m G xs ds := by cases h with | lst h r => exact ⟨_, _, rfl, h, r⟩
theorem Rep.ref_inv {v : V} {a : Addr} (h : Rep m G v (.ref a)) : v = .ref a := by cases h; rfl
end

/-! ### what changes -/
/-- pa: where the pen stands; T: what else may change; tok: what is known of that -/
structure Gh where
  pa : Option Addr
  T : Addr → Prop
  tok : Hp → Hp → Prop
  apart : ∀ p, pa = some p → ¬ T p
  stable : ∀ G H G' H' : Hp, tok G H → Same G G' → (∀ b, T b → H' b = H b) → tok G' H'
def Gh.away (γ : Gh) (b : Addr) : Prop := γ.pa ≠ some b ∧ ¬ γ.T b
structure Step (γ : Gh) (G H G' H' : Hp) : Prop where
  gg : Same G G'
  sub : Same G' H'
  new : ∀ b, H b ≠ none → G b = none → G' b = none
  keep : ∀ b o, γ.away b → H b = some o → H' b = some o
  live : ∀ b, H b ≠ none → H' b ≠ none
  tok : γ.tok G' H'
theorem Step.refl {γ : Gh} {G H : Hp} (s : Same G H) (t : γ.tok G H) : Step γ G H G H := ⟨Same.refl G, s, fun _ _ h => h, fun _ _ _ h => h, fun _ h => h, t⟩
theorem Step.trans {γ : Gh} {G H G1 H1 G2 H2 : Hp} (a : Step γ G H G1 H1) (b : Step γ G1 H1 G2 H2) : Step γ G H G2 H2 :=
  ⟨a.gg.trans b.gg, b.sub, fun c h1 h2 => b.new c (a.live c h1) (a.new c h1 h2), fun c o h1 h2 => b.keep c o h1 (a.keep c o h1 h2), fun c h => b.live c (a.live c h), b.tok⟩
/-- the pen as it stands -/
structure PenOk (m : Md) (γ : Gh) (st : Pen) (G H : Hp) : Prop where
  pen : ∀ p, γ.pa = some p → G p = none ∧ ∃ q, H p = some (.lst [.ref q, .int st.at_, .int st.left]) ∧ G q = some (.lst (st.cells.map .int))
  live : ∀ b, γ.T b → H b ≠ none ∧ G b = none
theorem PenOk.step {m : Md} {γ : Gh} {st : Pen} {G H G' H' : Hp} (p : PenOk m γ st G H) (s : Step γ G H G' H') (e : ∀ b, γ.pa = some b → H' b = H b) : PenOk m γ st G' H' := by
  refine ⟨fun b hb => ?_, fun b hb => ⟨s.live b (p.live b hb).1, s.new b (p.live b hb).1 (p.live b hb).2⟩⟩
  obtain ⟨h1, q, h2, h3⟩ := p.pen b hb
  exact ⟨s.new b (by rw [h2]; intro z; cases z) h1, q, by rw [e b hb]; exact h2, s.gg q _ h3⟩

/-! ### slots -/
inductive Sl where
  | no
  | val (d : D)
  | pen
  | own (l : List D)
instance : Inhabited Sl := ⟨.no⟩
def Sl.isOwn : Sl → Bool
  | .own _ => true
  | _ => false
/-- B: the heap ahead of it all -/
def SlOk (m : Md) (γ : Gh) (B G H : Hp) : Sl → Option V → Prop
  | .no, _ => True
  | .val d, x => ∃ v, x = some v ∧ Rep m G v d
  | .pen, x => ∃ p, γ.pa = some p ∧ x = some (.ref p)
  | .own l, x => ∃ p vs, x = some (.ref p) ∧ H p = some (.lst vs) ∧ B p = none ∧ G p = none ∧ γ.away p ∧ RepL m G vs l
theorem SlOk.step {m : Md} {γ : Gh} {B G H G' H' : Hp} (s : Step γ G H G' H') : ∀ {sl : Sl} {x : Option V}, SlOk m γ B G H sl x → SlOk m γ B G' H' sl x
  | .no, _, _ => trivial
  | .val _, _, ⟨v, e, r⟩ => ⟨v, e, r.same s.gg⟩
  | .pen, _, h => h
  | .own _, _, ⟨p, vs, e, h, hb, hg, ha, r⟩ => ⟨p, vs, e, s.keep p _ ha h, hb, s.new p (by rw [h]; intro z; cases z) hg, ha, r.same s.gg⟩
structure EnvOk (m : Md) (γ : Gh) (B0 B : Hp) (σ : L2.St) (G H : Hp) (env : List Sl) (st : Pen) : Prop where
  sub : Same G H
  tok : γ.tok G H
  base : Step γ B0 B G H
  pen : PenOk m γ st G H
  len : env.length = σ.length
  sl : ∀ (i : Nat) (s : Sl) (x : Option V), env[i]? = some s → σ[i]? = some x → SlOk m γ B G H s x
  dis : ∀ (i j : Nat) (s t : Sl) (x : V), i ≠ j → env[i]? = some s → env[j]? = some t → s.isOwn = true → t.isOwn = true → σ[i]? = some (some x) → σ[j]? = some (some x) → False
section
variable {m : Md} {γ : Gh} {B0 B G H G' H' : Hp} {σ : L2.St} {env : List Sl} {st st' : Pen}
theorem EnvOk.step (E : EnvOk m γ B0 B σ G H env st) (s : Step γ G H G' H') (p : PenOk m γ st' G' H') : EnvOk m γ B0 B σ G' H' env st' :=
  ⟨s.sub, s.tok, E.base.trans s, p, E.len, fun i sl x h1 h2 => (E.sl i sl x h1 h2).step s, E.dis⟩
theorem EnvOk.get (E : EnvOk m γ B0 B σ G H env st) {i : Nat} {s : Sl} (h : env[i]? = some s) : ∃ x, σ[i]? = some x ∧ SlOk m γ B G H s x := by
  have hi : i < σ.length := by rw [← E.len]; exact (List.getElem?_eq_some_iff.mp h).1
  exact ⟨σ[i], List.getElem?_eq_getElem hi, E.sl i s _ h (List.getElem?_eq_getElem hi)⟩
theorem EnvOk.val (E : EnvOk m γ B0 B σ G H env st) {i : Nat} {d : D} (h : env[i]? = some (.val d)) : ∃ v, σ[i]? = some (some v) ∧ Rep m G v d := by
  obtain ⟨x, h1, v, e, r⟩ := E.get h
  subst e
  exact ⟨v, h1, r⟩
theorem EnvOk.set (E : EnvOk m γ B0 B σ G H env st) {i : Nat} {v : V} {d : D} (r : Rep m G v d) : EnvOk m γ B0 B (σ.set i (some v)) G H (env.set i (.val d)) st := by
  refine ⟨E.sub, E.tok, E.base, E.pen, by rw [List.length_set, List.length_set]; exact E.len, fun j s x h1 h2 => ?_, fun j k s t x hjk h1 h2 o1 o2 h3 h4 => ?_⟩
  · by_cases e : i = j
    · subst e
      have hl : i < env.length := by
        have := (List.getElem?_eq_some_iff.mp h1).1
        rw [List.length_set] at this
        exact this
      rw [List.getElem?_set_self hl] at h1
      rw [List.getElem?_set_self (by rw [← E.len]; exact hl)] at h2
      cases h1; cases h2
      exact ⟨v, rfl, r⟩
    · rw [List.getElem?_set_ne e] at h1 h2
      exact E.sl j s x h1 h2
  · have ne : ∀ (k : Nat) (t : Sl), (env.set i (.val d))[k]? = some t → t.isOwn = true → k ≠ i := fun k t h o z => by
      subst z
      have hl : k < env.length := by
        have := (List.getElem?_eq_some_iff.mp h).1
        rw [List.length_set] at this
        exact this
      rw [List.getElem?_set_self hl] at h
      cases h
      cases o
    have n1 := ne j s h1 o1
    have n2 := ne k t h2 o2
    rw [List.getElem?_set_ne (Ne.symm n1)] at h1 h3
    rw [List.getElem?_set_ne (Ne.symm n2)] at h2 h4
    exact E.dis j k s t x hjk h1 h2 o1 o2 h3 h4
end

/-! ### what is wanted of a computation -/
/-- an exception's class and own dict, as data -/
def ExcIs (m : Md) (G H : Hp) (x : Exc) (cls : Value) (dd : Option Addr) : Prop := ∃ C d vs, m.mg x.cls = some (.ref C) ∧ cls = .ref C ∧ dd = some d ∧ H d = some (.xd vs) ∧ G d = none ∧ RepL m G (vs.map (·.2)) x.args
def Post {α : Type} (m : Md) (γ : Gh) (G H : Hp) (r : Option (Except Exc α × Pen)) (k : α → Pen → Hp → Hp → Prop) (W : XK) : Prop := match r with
  | none => False
  | some (.ok a, st') => ∀ G' H', Step γ G H G' H' → PenOk m γ st' G' H' → k a st' G' H'
  | some (.error x, st') => ∀ cls dd G' H', Step γ G H G' H' → PenOk m γ st' G' H' → ExcIs m G' H' x cls dd → W cls dd H'
section
variable {α β : Type} {m : Md} {γ : Gh} {G H G1 H1 : Hp} {r : Option (Except Exc α × Pen)} {k k' : α → Pen → Hp → Hp → Prop} {W : XK}
theorem Post.step (P : Post m γ G H r k W) (s : Step γ G H G1 H1) : Post m γ G1 H1 r k W := by
  match r, P with
  | some (.ok a, st'), P => exact fun G' H' s' p => P G' H' (s.trans s') p
  | some (.error x, st'), P => exact fun cls dd G' H' s' p e => P cls dd G' H' (s.trans s') p e
theorem Post.imp (P : Post m γ G H r k W) (h : ∀ a st' G' H', Step γ G H G' H' → PenOk m γ st' G' H' → k a st' G' H' → k' a st' G' H') : Post m γ G H r k' W := by
  match r, P with
  | some (.ok a, st'), P => exact fun G' H' s' p => h a st' G' H' s' p (P G' H' s' p)
  | some (.error x, st'), P => exact P
theorem Post.bind {f : M α} {g : α → M β} {k : β → Pen → Hp → Hp → Prop} {st : Pen} (P : Post m γ G H (bindM f g st) k W) :
    Post m γ G H (f st) (fun a st1 G1 H1 => Post m γ G1 H1 (g a st1) k W) W := by
  unfold bindM at P
  cases e : f st with
  | none => rw [e] at P; exact P
  | some q =>
    obtain ⟨q, st1⟩ := q
    rw [e] at P
    cases q with
    | error x => exact P
    | ok a => exact fun G' H' s p => Post.step P s
/-- nothing more happens -/
theorem Post.now {a : α} {st : Pen} (P : Post m γ G H (some (.ok a, st)) k W) (s : Same G H) (t : γ.tok G H) (p : PenOk m γ st G H) : k a st G H := P G H (Step.refl s t) p
theorem Post.noErr {f : M α} {st : Pen} {W' : XK} (P : Post m γ G H (noErr f st) k W) : Post m γ G H (f st) k W' := by
  unfold DL.noErr at P
  cases e : f st with
  | none => rw [e] at P; exact P
  | some q =>
    obtain ⟨q, st1⟩ := q
    rw [e] at P
    cases q with
    | error x => exact False.elim P
    | ok a => exact P
end

/-! ### readings by data -/
abbrev EM := List Sl → M D
/-- an expression that computes f -/
def tD (m : Md) (W : WX) (f : EM) : TE := fun σ H Q => ∃ γ B0 B G env st, EnvOk m γ B0 B σ G H env st ∧ Post m γ G H (f env st) (fun d _ G' H' => ∀ v, Rep m G' v d → Q v H') fun c d H' => W c d σ H'
def tT (m : Md) (W : WX) (f : List Sl → M Bool) : TT := fun σ H Q => ∃ γ B0 B G env st, EnvOk m γ B0 B σ G H env st ∧ Post m γ G H (f env st) (fun b _ _ H' => Q b H') fun c d H' => W c d σ H'
/-- arguments -/
def ArgOk (m : Md) (γ : Gh) (G : Hp) : Sl → V → Prop
  | .val d, v => Rep m G v d
  | .pen, v => ∃ p, γ.pa = some p ∧ v = .ref p
  | _, _ => False
inductive ArgsOk (m : Md) (γ : Gh) (G : Hp) : List Sl → List V → Prop
  | nil : ArgsOk m γ G [] []
  | cons {s : Sl} {ss : List Sl} {v : V} {vs : List V} : ArgOk m γ G s v → ArgsOk m γ G ss vs → ArgsOk m γ G (s :: ss) (v :: vs)
theorem ArgOk.same {m : Md} {γ : Gh} {G G' : Hp} (e : Same G G') : ∀ {s : Sl} {v : V}, ArgOk m γ G s v → ArgOk m γ G' s v
  | .val _, _, h => Rep.same e h
  | .pen, _, h => h
  | .no, _, h => h
  | .own _, _, h => h
theorem ArgsOk.same {m : Md} {γ : Gh} {G G' : Hp} (e : Same G G') : ∀ {s : List Sl} {v : List V}, ArgsOk m γ G s v → ArgsOk m γ G' s v
  | _, _, .nil => .nil
  | _, _, .cons h r => .cons (h.same e) (ArgsOk.same e r)
theorem ArgsOk.length {m : Md} {γ : Gh} {G : Hp} : ∀ {s : List Sl} {v : List V}, ArgsOk m γ G s v → s.length = v.length
  | _, _, .nil => rfl
  | _, _, .cons _ r => by rw [List.length_cons, List.length_cons, r.length]
abbrev AM := List Sl → M (List Sl)
def tA (m : Md) (W : WX) (f : AM) : TA := fun σ H Q => ∃ γ B0 B G env st, EnvOk m γ B0 B σ G H env st ∧ Post m γ G H (f env st) (fun as _ G' H' => ∀ vs, ArgsOk m γ G' as vs → Q vs H') fun c d H' => W c d σ H'
/-- plain arguments, by their data -/
def tL (m : Md) (W : WX) (f : List Sl → M (List D)) : TA := fun σ H Q => ∃ γ B0 B G env st, EnvOk m γ B0 B σ G H env st ∧ Post m γ G H (f env st) (fun ds _ G' H' => ∀ vs, RepL m G' vs ds → Q vs H') fun c d H' => W c d σ H'
/-- statements -/
inductive Fl where
  | nx
  | ret (d : D)
  | bk
  | ct
abbrev SR := Option (Except Exc Fl × List Sl × Pen)
abbrev SM := List Sl → Pen → SR
def PostS (m : Md) (γ : Gh) (B0 B : Hp) (r : SR) (D : Ends) (W : WX) : Prop := match r with
  | none => False
  | some (fl, env', st') => ∀ σ' G' H', EnvOk m γ B0 B σ' G' H' env' st' → match fl with
    | .ok .nx => D.nx σ' H'
    | .ok .bk => D.bk σ' H'
    | .ok .ct => D.ct σ' H'
    | .ok (.ret d) => ∀ v, Rep m G' v d → D.rt v H'
    | .error x => ∀ cls dd, ExcIs m G' H' x cls dd → W cls dd σ' H'
def tS (m : Md) (W : WX) (f : SM) : TS := fun D σ H => ∃ γ B0 B G env st, EnvOk m γ B0 B σ G H env st ∧ PostS m γ B0 B (f env st) D W
/-- a def's promise -/
def spF (m : Md) (f : List Sl → M D) : Sp := fun vs H Q E => ∃ γ G as st, Same G H ∧ γ.tok G H ∧ PenOk m γ st G H ∧ ArgsOk m γ G as vs ∧ Post m γ G H (f as st) (fun d _ G' H' => ∀ v, Rep m G' v d → Q v H') E
def runF (n : Nat) (body : SM) : List Sl → M D := fun as st => match body (as ++ List.replicate (n - as.length) .no) st with
  | some (.ok (.ret d), _, st') => some (.ok d, st')
  | some (.ok .nx, _, st') => some (.ok .non, st')
  | some (.error x, _, st') => some (.error x, st')
  | _ => none

/-! ### weaker readings -/
section
variable {X : Cx}
theorem PE.imp {e : Expr} {t t' : TE} (h : PE X e t) (w : ∀ σ H Q, t' σ H Q → t σ H Q) : PE X e t' := ⟨fun pins s σ H Q I q => h.run pins s σ H Q I (w _ _ _ q)⟩
theorem PT.imp {e : Expr} {t t' : TT} (h : PT X e t) (w : ∀ σ H Q, t' σ H Q → t σ H Q) : PT X e t' := ⟨fun pins s σ H Q I q => h.run pins s σ H Q I (w _ _ _ q)⟩
theorem PW.imp {e : Expr} {t t' : TT} (h : PW X e t) (w : ∀ σ H Q, t' σ H Q → t σ H Q) : PW X e t' := ⟨fun wh pins s σ H Q I q => h.run wh pins s σ H Q I (w _ _ _ q)⟩
theorem PA.imp {es : List Expr} {t t' : TA} (h : PA X es t) (w : ∀ σ H Q, t' σ H Q → t σ H Q) : PA X es t' := ⟨fun pos pins s σ H Q I q => h.run pos pins s σ H Q I (w _ _ _ q)⟩
theorem PS.imp {st : Stmt} {t t' : TS} (h : PS X st t) (w : ∀ D σ H, t' D σ H → t D σ H) : PS X st t' := ⟨fun pins s σ H D I q => h.run pins s σ H D I (w _ _ _ q)⟩
theorem PSs.imp {st : List Stmt} {t t' : TS} (h : PSs X st t) (w : ∀ D σ H, t' D σ H → t D σ H) : PSs X st t' := ⟨fun pins s σ H D I q => h.run pins s σ H D I (w _ _ _ q)⟩
end
end DL
set_option Elab.async false
set_option linter.all false
set_option maxRecDepth 100000
/-! Dl2: rules by data: expressions. -/
namespace DL
open PySem PySem.Spec PyProof.Rows L2

/-! ### new objects -/
section
variable {m : Md} {γ : Gh} {st : Pen} {G H : Hp} {p : Addr} {o : HO}
theorem Step.alloc (s : Same G H) (t : γ.tok G H) (q : PenOk m γ st G H) (hp : H p = none) : Step γ G H (upd G p o) (upd H p o) := by
  have gp : G p = none := s.free hp
  have gg : Same G (upd G p o) := fun b u e => by rw [upd_ne (ne_of_none e gp)]; exact e
  refine ⟨gg, fun b u e => ?_, fun b h1 h2 => ?_, fun b u _ e => ?_, fun b h => ?_, γ.stable G H _ _ t gg fun b hb => ?_⟩
  · by_cases hb : b = p
    · subst hb; rw [upd_same] at e ⊢; exact e
    · rw [upd_ne hb] at e ⊢; exact s b u e
  · have hb : b ≠ p := fun z => h1 (z ▸ hp)
    rw [upd_ne hb]; exact h2
  · rw [upd_ne (ne_of_none e hp)]; exact e
  · have hb : b ≠ p := fun z => h (z ▸ hp)
    rw [upd_ne hb]; exact h
  · exact upd_ne fun z => (q.live b hb).1 (z ▸ hp)
/-- laid, not frozen -/
theorem Step.lay (s : Same G H) (t : γ.tok G H) (q : PenOk m γ st G H) (hp : H p = none) : Step γ G H G (upd H p o) := by
  refine ⟨Same.refl G, fun b u e => ?_, fun b h1 h2 => h2, fun b u _ e => ?_, fun b h => ?_, γ.stable G H _ _ t (Same.refl G) fun b hb => ?_⟩
  · rw [upd_ne (ne_of_none (s _ _ e) hp)]; exact s _ _ e
  · rw [upd_ne (ne_of_none e hp)]; exact e
  · have hb : b ≠ p := fun z => h (z ▸ hp)
    rw [upd_ne hb]; exact h
  · exact upd_ne fun z => (q.live b hb).1 (z ▸ hp)
theorem PenOk.alloc (q : PenOk m γ st G H) (s : Same G H) (t : γ.tok G H) (hp : H p = none) : PenOk m γ st (upd G p o) (upd H p o) := by
  refine q.step (Step.alloc s t q hp) fun b hb => ?_
  obtain ⟨_, q, h, _⟩ := q.pen b hb
  exact upd_ne (ne_of_none h hp)
theorem PenOk.lay (q : PenOk m γ st G H) (s : Same G H) (t : γ.tok G H) (hp : H p = none) : PenOk m γ st G (upd H p o) := by
  refine q.step (Step.lay s t q hp) fun b hb => ?_
  obtain ⟨_, q, h, _⟩ := q.pen b hb
  exact upd_ne (ne_of_none h hp)
/-- a tracked object is frozen -/
theorem Step.freeze {B0 B : Hp} (s : Step γ B0 B G H) (hp : H p = some o) (bp : B p = none) (gp : G p = none) : Step γ B0 B (upd G p o) H := by
  have gu : Same G (upd G p o) := fun b u e => by rw [upd_ne (ne_of_none e gp)]; exact e
  refine ⟨s.gg.trans gu, fun b u e => ?_, fun b h1 h2 => ?_, s.keep, s.live, γ.stable G H _ _ s.tok gu fun _ _ => rfl⟩
  · by_cases hb : b = p
    · subst hb; rw [upd_same] at e; rw [hp]; exact e
    · rw [upd_ne hb] at e; exact s.sub _ _ e
  · have hb : b ≠ p := fun z => h1 (z ▸ bp)
    rw [upd_ne hb]; exact s.new b h1 h2
theorem PenOk.freeze (q : PenOk m γ st G H) (hp : H p = some o) (ap : γ.away p) (gp : G p = none) : PenOk m γ st (upd G p o) H := by
  refine ⟨fun b hb => ?_, fun b hb => ?_⟩
  · obtain ⟨h1, r, h2, h3⟩ := q.pen b hb
    have hbp : b ≠ p := fun z => ap.1 (z ▸ hb)
    refine ⟨by rw [upd_ne hbp]; exact h1, r, h2, ?_⟩
    rw [upd_ne (ne_of_none h3 gp)]; exact h3
  · have hbp : b ≠ p := fun z => ap.2 (z ▸ hb)
    rw [upd_ne hbp]; exact q.live b hb
theorem PenOk.away (q : PenOk m γ st G H) (hp : H p = none) : γ.away p := by
  refine ⟨fun z => ?_, fun z => (q.live p z).1 hp⟩
  obtain ⟨_, r, h, _⟩ := q.pen p z
  rw [hp] at h; cases h
end

/-! ### names, constants -/
def eVar (i : Nat) : EM := fun env => match env[i]? with
  | some (.val d) => pureM d
  | _ => failM
def eC (d : D) : EM := fun _ => pureM d
section
variable {X : Cx} {m : Md} {W : WX} {e : Expr}
theorem de_var0 {i : Nat} (h : PE X e (tVar i)) : PE X e (tD m W (eVar i)) := by
  refine PE.imp h fun σ H Q ⟨γ, B0, B, G, env, st, E, P⟩ => ?_
  unfold eVar at P
  cases q : env[i]? with
  | none => rw [q] at P; exact False.elim P
  | some s =>
    rw [q] at P
    cases s with
    | val d =>
      obtain ⟨v, h1, r⟩ := E.val q
      exact ⟨v, h1, (P.now E.sub E.tok E.pen) v r⟩
    | no => exact False.elim P
    | pen => exact False.elim P
    | own l => exact False.elim P
theorem de_c0 {v : V} {d : D} (h : PE X e (tC v)) (r : ∀ G, Rep m G v d) : PE X e (tD m W (eC d)) := by
  refine PE.imp h fun σ H Q ⟨γ, B0, B, G, env, st, E, P⟩ => ?_
  exact (P.now E.sub E.tok E.pen) v (r G)
theorem dv (i : Nat) {x : Str} {pos : Pos} (hN : X.N[i]? = some x := by rfl) (hv : Vis X.env.scope x := by first | exact Or.inl rfl | exact Or.inr (Or.inl rfl) | exact Or.inr (Or.inr rfl)) (hd : (x == ("__debug__" : Str)) = false := by decide)
    (hcd : (x == ("__classdict__" : Str)) = false := by decide) : PE X (.Name x pos) (tD m W (eVar i)) := de_var0 (pe_var hN hv hd hcd)
theorem de_int {i j pos} : PE X (.Constant (.int i) j pos) (tD m W (eC (.int i))) := de_c0 pe_int fun _ => .int i
theorem de_bl {b j pos} : PE X (.Constant (.bool b) j pos) (tD m W (eC (.bl b))) := de_c0 pe_bl fun _ => .bl b
theorem de_non {j pos} : PE X (.Constant .none j pos) (tD m W (eC .non)) := de_c0 pe_non fun _ => .non
theorem de_str {x j pos} : PE X (.Constant (.str x) j pos) (tD m W (eC (.str x))) := de_c0 pe_str fun _ => .str x
/-- a constant of the module -/
theorem de_glob {x : Str} {v : V} {d : D} {u : Value} {pos : Pos} (hg : Gl X x) (hm : X.mg x = some u) (r : RelV v u) (rd : ∀ G, Rep m G v d) (hd : (x == ("__debug__" : Str)) = false := by decide) : PE X (.Name x pos) (tD m W (eC d)) :=
  de_c0 (pe_glob hg hm r hd) rd
end

/-! ### operations by data -/
abbrev KD (m : Md) (Q : VK) : D → Pen → Hp → Hp → Prop := fun d _ G' H' => ∀ v, Rep m G' v d → Q v H'
/-- a two-place operation -/
def OpD (X : Cx) (m : Md) (f : Value → Value → Sem Value) (F : D → D → M D) : Prop := ∃ r : R2, OpR X f r ∧
  ∀ (γ : Gh) (st : Pen) (G H : Hp) (v w : V) (d e : D) (Q : VK) (W : XK), Same G H → γ.tok G H → PenOk m γ st G H → Rep m G v d → Rep m G w e → Post m γ G H (F d e st) (KD m Q) W → r v w H Q
def UnD (X : Cx) (m : Md) (f : Value → Sem Value) (F : D → M D) : Prop := ∃ r : V → Hp → VK → Prop, UnR X f r ∧
  ∀ (γ : Gh) (st : Pen) (G H : Hp) (v : V) (d : D) (Q : VK) (W : XK), Same G H → γ.tok G H → PenOk m γ st G H → Rep m G v d → Post m γ G H (F d st) (KD m Q) W → r v H Q
def CallD (X : Cx) (m : Md) (f : Value) (F : List D → M D) : Prop := ∃ r : List V → Hp → VK → Prop, CallR X f r ∧
  ∀ (γ : Gh) (st : Pen) (G H : Hp) (vs : List V) (ds : List D) (Q : VK) (W : XK), Same G H → γ.tok G H → PenOk m γ st G H → RepL m G vs ds → Post m γ G H (F ds st) (KD m Q) W → r vs H Q
def IxD (X : Cx) (m : Md) (F : D → D → M D) : Prop := ∃ r : R2, IxR X r ∧
  ∀ (γ : Gh) (st : Pen) (G H : Hp) (v w : V) (d e : D) (Q : VK) (W : XK), Same G H → γ.tok G H → PenOk m γ st G H → Rep m G v d → Rep m G w e → Post m γ G H (F d e st) (KD m Q) W → r v w H Q
def e2 (F : D → D → M D) (f g : EM) : EM := fun env => bindM (f env) fun x => bindM (g env) fun y => F x y
def e1 (F : D → M D) (f : EM) : EM := fun env => bindM (f env) F
section
variable {X : Cx} {m : Md} {W : WX} {a b e : Expr} {es : List Expr} {f g : EM} {pos : Pos}
theorem de2 {r : R2} {F : D → D → M D} {e : Expr} (h : PE X e (tOp r (tD m W f) (tD m W g)))
    (hr : ∀ (γ : Gh) (st : Pen) (G H : Hp) (v w : V) (d e : D) (Q : VK) (W : XK), Same G H → γ.tok G H → PenOk m γ st G H → Rep m G v d → Rep m G w e → Post m γ G H (F d e st) (KD m Q) W → r v w H Q) : PE X e (tD m W (e2 F f g)) := by
  refine PE.imp h fun σ H Q ⟨γ, B0, B, G, env, st, E, P⟩ => ?_
  refine ⟨γ, B0, B, G, env, st, E, P.bind.imp fun d st1 G1 H1 s1 p1 P1 v rv => ?_⟩
  refine ⟨γ, B0, B, G1, env, st1, E.step s1 p1, P1.bind.imp fun d2 st2 G2 H2 s2 p2 P2 w rw => ?_⟩
  exact hr γ st2 G2 H2 v w d d2 Q _ s2.sub s2.tok p2 (rv.same s2.gg) rw P2
theorem de1 {r : V → Hp → VK → Prop} {F : D → M D} {e : Expr} (h : PE X e (tUn r (tD m W f)))
    (hr : ∀ (γ : Gh) (st : Pen) (G H : Hp) (v : V) (d : D) (Q : VK) (W : XK), Same G H → γ.tok G H → PenOk m γ st G H → Rep m G v d → Post m γ G H (F d st) (KD m Q) W → r v H Q) : PE X e (tD m W (e1 F f)) := by
  refine PE.imp h fun σ H Q ⟨γ, B0, B, G, env, st, E, P⟩ => ?_
  exact ⟨γ, B0, B, G, env, st, E, P.bind.imp fun d st1 G1 H1 s1 p1 P1 v rv => hr γ st1 G1 H1 v d Q _ s1.sub s1.tok p1 rv P1⟩
theorem de_bin {op : Operator} {F : D → D → M D} (ho : OpD X m (binaryOp op) F) (ha : PE X a (tD m W f)) (hb : PE X b (tD m W g)) : PE X (.BinOp a op b pos) (tD m W (e2 F f g)) := by
  obtain ⟨r, h1, h2⟩ := ho
  exact de2 (pe_op h1 ha hb) h2
theorem de_un {op : UnaryOp} {F : D → M D} (ho : UnD X m (unaryOp op) F) (ha : PE X a (tD m W f)) : PE X (.UnaryOp op a pos) (tD m W (e1 F f)) := by
  obtain ⟨r, h1, h2⟩ := ho
  exact de1 (pe_un h1 ha) h2
theorem de_cmp {op : CmpOp} {F : D → D → M D} (ho : OpD X m (compareOp op) F) (ha : PE X a (tD m W f)) (hb : PE X b (tD m W g)) (hm : behindInMarks op b = false) : PE X (.Compare a [op] [b] pos) (tD m W (e2 F f g)) := by
  obtain ⟨r, h1, h2⟩ := ho
  exact de2 (pe_cmpR h1 ha hb hm) h2
theorem de_ix {F : D → D → M D} (ho : IxD X m F) (ha : PE X a (tD m W f)) (hb : PE X b (tD m W g)) (hs : PlainIx b) : PE X (.Subscript a b pos) (tD m W (e2 F f g)) := by
  obtain ⟨r, h1, h2⟩ := ho
  exact de2 (pe_ix h1 ha hb hs) h2
/-- a value that is True or False -/
def asB : D → M Bool
  | .bl b => pureM b
  | _ => failM
def eB (f : EM) : List Sl → M Bool := fun env => bindM (f env) asB
theorem asB_post {γ : Gh} {G H : Hp} {d : D} {st : Pen} {k : Bool → Pen → Hp → Hp → Prop} {W : XK} (P : Post m γ G H (asB d st) k W) : ∃ b, d = .bl b ∧ Post m γ G H (some (.ok b, st)) k W := by
  cases d with
  | bl b => exact ⟨b, rfl, P⟩
  | non => exact False.elim P
  | int _ => exact False.elim P
  | str _ => exact False.elim P
  | lst _ => exact False.elim P
  | tup _ => exact False.elim P
  | dct _ => exact False.elim P
  | ins _ _ => exact False.elim P
  | ref _ => exact False.elim P
theorem dt_of {e : Expr} {t : TE} (h : PT X e (tTest t)) (w : ∀ σ H Q, tD m W f σ H Q → t σ H Q) : PT X e (tT m W (eB f)) := by
  refine PT.imp h fun σ H Q ⟨γ, B0, B, G, env, st, E, P⟩ => ?_
  refine w _ _ _ ⟨γ, B0, B, G, env, st, E, P.bind.imp fun d st1 G1 H1 s1 p1 P1 v rv => ?_⟩
  obtain ⟨b, rfl, P2⟩ := asB_post P1
  exact ⟨b, rv.bl_inv, P2.now s1.sub s1.tok p1⟩
theorem dt_cmp {op : CmpOp} {F : D → D → M D} (ho : OpD X m (compareOp op) F) (ha : PE X a (tD m W f)) (hb : PE X b (tD m W g)) (hm : behindInMarks op b = false) : PT X (.Compare a [op] [b] pos) (tT m W (eB (e2 F f g))) := by
  obtain ⟨r, h1, h2⟩ := ho
  refine dt_of (pt_cmpR h1 ha hb hm) fun σ H Q ⟨γ, B0, B, G, env, st, E, P⟩ => ?_
  refine ⟨γ, B0, B, G, env, st, E, P.bind.imp fun d st1 G1 H1 s1 p1 P1 v rv => ?_⟩
  refine ⟨γ, B0, B, G1, env, st1, E.step s1 p1, P1.bind.imp fun d2 st2 G2 H2 s2 p2 P2 w rw => ?_⟩
  exact h2 γ st2 G2 H2 v w d d2 Q _ s2.sub s2.tok p2 (rv.same s2.gg) rw P2
theorem dt_val (ha : PE X a (tD m W f)) (he : ∀ whole, isTrue a X.env whole = (do let v ← whole; standAt a.pos; holding [v] (truthy v)) := by intro _; rfl) : PT X a (tT m W (eB f)) := by
  refine PT.imp (pt_val ha he) fun σ H Q ⟨γ, B0, B, G, env, st, E, P⟩ => ?_
  refine ⟨γ, B0, B, G, env, st, E, P.bind.imp fun d st1 G1 H1 s1 p1 P1 v rv => ?_⟩
  obtain ⟨b, rfl, P2⟩ := asB_post P1
  exact ⟨b, rv.bl_inv, P2.now s1.sub s1.tok p1⟩

/-! ### and, or, not -/
variable {c : Expr} {rest : List Expr} {fa fb : List Sl → M Bool}
def bAnd (f g : List Sl → M Bool) : List Sl → M Bool := fun env => bindM (f env) fun b => if b = true then g env else pureM false
def bOr (f g : List Sl → M Bool) : List Sl → M Bool := fun env => bindM (f env) fun b => if b = true then pureM true else g env
def bNot (f : List Sl → M Bool) : List Sl → M Bool := fun env => bindM (f env) fun b => pureM (!b)
theorem dw_and1 (ha : PT X a (tT m W fa)) : PW X (.BoolOp .And [a] pos) (tT m W fa) := pw_and1 ha
theorem dw_or1 (ha : PT X a (tT m W fa)) : PW X (.BoolOp .Or [a] pos) (tT m W fa) := pw_or1 ha
theorem dw_and (ha : PT X a (tT m W fa)) (hb : PW X (.BoolOp .And (b :: rest) pos) (tT m W fb)) : PW X (.BoolOp .And (a :: b :: rest) pos) (tT m W (bAnd fa fb)) := by
  refine PW.imp (pw_and ha hb) fun σ H Q ⟨γ, B0, B, G, env, st, E, P⟩ => ?_
  refine ⟨γ, B0, B, G, env, st, E, P.bind.imp fun k st1 G1 H1 s1 p1 P1 => ?_⟩
  cases k with
  | true => exact iteT ⟨γ, B0, B, G1, env, st1, E.step s1 p1, P1⟩
  | false => exact iteF (P1.now s1.sub s1.tok p1)
theorem dw_or (ha : PT X a (tT m W fa)) (hb : PW X (.BoolOp .Or (b :: rest) pos) (tT m W fb)) : PW X (.BoolOp .Or (a :: b :: rest) pos) (tT m W (bOr fa fb)) := by
  refine PW.imp (pw_or ha hb) fun σ H Q ⟨γ, B0, B, G, env, st, E, P⟩ => ?_
  refine ⟨γ, B0, B, G, env, st, E, P.bind.imp fun k st1 G1 H1 s1 p1 P1 => ?_⟩
  cases k with
  | true => exact iteT (P1.now s1.sub s1.tok p1)
  | false => exact iteF ⟨γ, B0, B, G1, env, st1, E.step s1 p1, P1⟩
theorem dt_not (ha : PT X a (tT m W fa)) : PT X (.UnaryOp .Not a pos) (tT m W (bNot fa)) := by
  refine PT.imp (pt_not ha) fun σ H Q ⟨γ, B0, B, G, env, st, E, P⟩ => ?_
  exact ⟨γ, B0, B, G, env, st, E, P.bind.imp fun k st1 G1 H1 s1 p1 P1 => P1.now s1.sub s1.tok p1⟩
/-- as values: all but the last are truths -/
def eAnd (f g : EM) : EM := fun env => bindM (f env) fun d => bindM (asB d) fun b => if b = true then g env else pureM (.bl false)
def eOr (f g : EM) : EM := fun env => bindM (f env) fun d => bindM (asB d) fun b => if b = true then pureM (.bl true) else g env
def eNot (f : EM) : EM := fun env => bindM (f env) fun d => bindM (asB d) fun b => pureM (.bl (!b))
theorem de_one {op} (h : PE X a (tD m W f)) : PE X (.BoolOp op [a] pos) (tD m W f) := pe_one h
theorem asB_bind {γ : Gh} {G H : Hp} {d : D} {st : Pen} {h : Bool → M D} {k : D → Pen → Hp → Hp → Prop} {W : XK} (P : Post m γ G H (bindM (asB d) h st) k W) : ∃ b, d = .bl b ∧ Post m γ G H (h b st) k W := by
  cases d with
  | bl b => exact ⟨b, rfl, P⟩
  | non => exact False.elim P
  | int _ => exact False.elim P
  | str _ => exact False.elim P
  | lst _ => exact False.elim P
  | tup _ => exact False.elim P
  | dct _ => exact False.elim P
  | ins _ _ => exact False.elim P
  | ref _ => exact False.elim P
theorem de_and (ha : PE X a (tD m W f)) (hb : PE X (.BoolOp .And (b :: rest) pos) (tD m W g)) : PE X (.BoolOp .And (a :: b :: rest) pos) (tD m W (eAnd f g)) := by
  refine PE.imp (pe_and ha hb) fun σ H Q ⟨γ, B0, B, G, env, st, E, P⟩ => ?_
  refine ⟨γ, B0, B, G, env, st, E, P.bind.imp fun d st1 G1 H1 s1 p1 P1 v rv => ?_⟩
  obtain ⟨k, rfl, P2⟩ := asB_bind P1
  refine ⟨k, rv.bl_inv, ?_⟩
  cases k with
  | true => exact iteT ⟨γ, B0, B, G1, env, st1, E.step s1 p1, P2⟩
  | false => exact iteF (P2.now s1.sub s1.tok p1 _ (.bl false))
theorem de_or (ha : PE X a (tD m W f)) (hb : PE X (.BoolOp .Or (b :: rest) pos) (tD m W g)) : PE X (.BoolOp .Or (a :: b :: rest) pos) (tD m W (eOr f g)) := by
  refine PE.imp (pe_or ha hb) fun σ H Q ⟨γ, B0, B, G, env, st, E, P⟩ => ?_
  refine ⟨γ, B0, B, G, env, st, E, P.bind.imp fun d st1 G1 H1 s1 p1 P1 v rv => ?_⟩
  obtain ⟨k, rfl, P2⟩ := asB_bind P1
  refine ⟨k, rv.bl_inv, ?_⟩
  cases k with
  | true => exact iteT (P2.now s1.sub s1.tok p1 _ (.bl true))
  | false => exact iteF ⟨γ, B0, B, G1, env, st1, E.step s1 p1, P2⟩
theorem de_not (ha : PE X a (tD m W f)) : PE X (.UnaryOp .Not a pos) (tD m W (eNot f)) := by
  refine PE.imp (pe_not ha) fun σ H Q ⟨γ, B0, B, G, env, st, E, P⟩ => ?_
  refine ⟨γ, B0, B, G, env, st, E, P.bind.imp fun d st1 G1 H1 s1 p1 P1 v rv => ?_⟩
  obtain ⟨k, rfl, P2⟩ := asB_bind P1
  exact ⟨k, rv.bl_inv, P2.now s1.sub s1.tok p1 _ (.bl _)⟩
def eIf (c : List Sl → M Bool) (f g : EM) : EM := fun env => bindM (c env) fun b => if b = true then f env else g env
theorem de_if (hc : PT X c (tT m W fa)) (ha : PE X a (tD m W f)) (hb : PE X b (tD m W g)) : PE X (.IfExp c a b pos) (tD m W (eIf fa f g)) := by
  refine PE.imp (pe_ifExp hc ha hb) fun σ H Q ⟨γ, B0, B, G, env, st, E, P⟩ => ?_
  refine ⟨γ, B0, B, G, env, st, E, P.bind.imp fun k st1 G1 H1 s1 p1 P1 => ?_⟩
  cases k with
  | true => exact iteT ⟨γ, B0, B, G1, env, st1, E.step s1 p1, P1⟩
  | false => exact iteF ⟨γ, B0, B, G1, env, st1, E.step s1 p1, P1⟩

/-! ### arguments, displays -/
abbrev LM := List Sl → M (List D)
def lNil : LM := fun _ => pureM []
def lCons (f : EM) (g : LM) : LM := fun env => bindM (f env) fun x => bindM (g env) fun xs => pureM (x :: xs)
theorem dl_nil : PA X [] (tL m W lNil) := by
  refine PA.imp pa_nil fun σ H Q ⟨γ, B0, B, G, env, st, E, P⟩ => ?_
  exact P.now E.sub E.tok E.pen [] .nil
theorem dl_cons {g : LM} (ha : PE X a (tD m W f)) (hr : PA X es (tL m W g)) (hs : starEach (a :: es) X.env = (false, eval a X.env) :: starEach es X.env := by rfl) : PA X (a :: es) (tL m W (lCons f g)) := by
  refine PA.imp (pa_cons ha hr hs) fun σ H Q ⟨γ, B0, B, G, env, st, E, P⟩ => ?_
  refine ⟨γ, B0, B, G, env, st, E, P.bind.imp fun d st1 G1 H1 s1 p1 P1 v rv => ?_⟩
  refine ⟨γ, B0, B, G1, env, st1, E.step s1 p1, P1.bind.imp fun ds st2 G2 H2 s2 p2 P2 vs rvs => ?_⟩
  exact P2.now s2.sub s2.tok p2 (v :: vs) (.cons (rv.same s2.gg) rvs)
def eTup (f : LM) : EM := fun env => bindM (f env) fun l => if l.length ≤ sizeLine then pureM (.tup l) else failM
def eLst (f : LM) : EM := fun env => bindM (f env) fun l => if l.length ≤ sizeLine then pureM (.lst l) else failM
theorem post_if {α : Type} {γ : Gh} {G H : Hp} {c : Prop} [Decidable c] {f : M α} {st : Pen} {k : α → Pen → Hp → Hp → Prop} {W : XK} (P : Post m γ G H ((if c then f else failM) st) k W) : c ∧ Post m γ G H (f st) k W := by
  by_cases h : c
  · rw [if_pos h] at P; exact ⟨h, P⟩
  · rw [if_neg h] at P; exact False.elim P
theorem de_tup {f : LM} {x1} (h : PA X es (tL m W f)) : PE X (.Tuple es x1 pos) (tD m W (eTup f)) := by
  refine PE.imp (pe_tup h) fun σ H Q ⟨γ, B0, B, G, env, st, E, P⟩ => ?_
  refine ⟨γ, B0, B, G, env, st, E, P.bind.imp fun ds st1 G1 H1 s1 p1 P1 vs rvs => ?_⟩
  obtain ⟨hl, P2⟩ := post_if P1
  refine ⟨by rw [rvs.length]; exact hl, fun p hp => ?_⟩
  exact P2 _ _ (Step.alloc s1.sub s1.tok p1 hp) (p1.alloc s1.sub s1.tok hp) _ (.tup (.of upd_same) (rvs.same (Step.alloc s1.sub s1.tok p1 hp (o := .tup vs)).gg))
theorem de_lst {f : LM} (h : PA X es (tL m W f)) : PE X (.List es pos) (tD m W (eLst f)) := by
  refine PE.imp (pe_lst h) fun σ H Q ⟨γ, B0, B, G, env, st, E, P⟩ => ?_
  refine ⟨γ, B0, B, G, env, st, E, P.bind.imp fun ds st1 G1 H1 s1 p1 P1 vs rvs => ?_⟩
  obtain ⟨hl, P2⟩ := post_if P1
  refine ⟨by rw [rvs.length]; exact hl, fun p hp => ?_⟩
  exact P2 _ _ (Step.alloc s1.sub s1.tok p1 hp) (p1.alloc s1.sub s1.tok hp) _ (.lst upd_same (rvs.same (Step.alloc s1.sub s1.tok p1 hp (o := .lst vs)).gg))
/-- (*a, b): the items of a, then the rest -/
def seqOf : D → M (List D)
  | .lst l => pureM l
  | .tup l => pureM l
  | _ => failM
def lStar (f : EM) (g : LM) : LM := fun env => bindM (f env) fun d => bindM (seqOf d) fun l => bindM (g env) fun xs => pureM (l ++ xs)
theorem seqOf_bind {α : Type} {γ : Gh} {G H : Hp} {d : D} {v : V} {st : Pen} {h : List D → M α} {k : α → Pen → Hp → Hp → Prop} {W : XK} (P : Post m γ G H (bindM (seqOf d) h st) k W) (r : Rep m G v d) :
    ∃ a vs l, v = .ref a ∧ (SqT m.K G a vs ∨ SqL m.K G a vs) ∧ RepL m G vs l ∧ Post m γ G H (h l st) k W := by
  cases d with
  | lst l =>
    obtain ⟨a, vs, rfl, h1, h2⟩ := r.lst_inv
    exact ⟨a, vs, l, rfl, .inr (.of h1), h2, P⟩
  | tup l =>
    obtain ⟨a, vs, rfl, h1, h2⟩ := r.tup_inv
    exact ⟨a, vs, l, rfl, .inl h1, h2, P⟩
  | non => exact False.elim P
  | bl _ => exact False.elim P
  | int _ => exact False.elim P
  | str _ => exact False.elim P
  | dct _ => exact False.elim P
  | ins _ _ => exact False.elim P
  | ref _ => exact False.elim P
theorem SqTL.same {K : PySem.W.Frag} {H H' : Hp} {a : Addr} {xs : List V} (e : Same H H') (h : SqT K H a xs ∨ SqL K H a xs) : SqT K H' a xs ∨ SqL K H' a xs := h.imp (SqT.same e) (Same.seq e)
theorem dl_star {g : LM} {p : Pos} (ha : PE X a (tD m W f)) (hr : PA X es (tL m W g)) (hK : X.K = m.K := by rfl) (hs : starEach (.Starred a p :: es) X.env = (true, eval a X.env) :: starEach es X.env := by rfl) : PA X (.Starred a p :: es) (tL m W (lStar f g)) := by
  refine PA.imp (StX.pa_star ha hr hs) fun σ H Q ⟨γ, B0, B, G, env, st, E, P⟩ => ?_
  refine ⟨γ, B0, B, G, env, st, E, P.bind.imp fun d st1 G1 H1 s1 p1 P1 v rv => ?_⟩
  obtain ⟨q, vs, l, rfl, h1, h2, P2⟩ := seqOf_bind P1 rv
  refine ⟨q, vs, rfl, by rw [hK]; exact SqTL.same s1.sub h1, ?_⟩
  refine ⟨γ, B0, B, G1, env, st1, E.step s1 p1, P2.bind.imp fun ds st2 G2 H2 s2 p2 P3 ws rws => ?_⟩
  exact P3.now s2.sub s2.tok p2 (vs ++ ws) ((h2.same s2.gg).append rws)

/-! ### built-ins -/
def eL (F : List D → M D) (f : LM) : EM := fun env => bindM (f env) F
theorem de_callB {F : List D → M D} {f : LM} {x : Str} {p : Pos} {id : String} (hc : CallD X m (.builtin id) F) (hm : X.mg x = none) (hv : bootBuiltins x = some (.builtin id)) (ha : PA X (e :: es) (tL m W f)) (hg : Gl X x := by rfl) (hn : x ≠ "__name__" := by decide) (hdb : (x == ("__debug__" : Str)) = false := by decide)
    (he : starEach (e :: es) X.env = (false, eval e X.env) :: starEach es X.env := by rfl) (hpl : (backTo pos (starEach es X.env)).any (·.1) = false := by rfl) : PE X (.Call (.Name x p) (e :: es) [] pos) (tD m W (eL F f)) := by
  obtain ⟨r, h1, h2⟩ := hc
  refine PE.imp (pe_callB h1 hg hm hv ha hn hdb he hpl) fun σ H Q ⟨γ, B0, B, G, env, st, E, P⟩ => ?_
  exact ⟨γ, B0, B, G, env, st, E, P.bind.imp fun ds st1 G1 H1 s1 p1 P1 vs rvs => h2 γ st1 G1 H1 vs ds Q _ s1.sub s1.tok p1 rvs P1⟩
theorem de_callTy {F : List D → M D} {f : LM} {x : Str} {p : Pos} {T : String} (hc : CallD X m (.type T) F) (hm : X.mg x = none) (hv : bootBuiltins x = some (.type T)) (ha : PA X (e :: es) (tL m W f)) (hg : Gl X x := by rfl) (hn : x ≠ "__name__" := by decide) (hdb : (x == ("__debug__" : Str)) = false := by decide)
    (he : starEach (e :: es) X.env = (false, eval e X.env) :: starEach es X.env := by rfl) (hpl : (backTo pos (starEach es X.env)).any (·.1) = false := by rfl) : PE X (.Call (.Name x p) (e :: es) [] pos) (tD m W (eL F f)) := by
  obtain ⟨r, h1, h2⟩ := hc
  refine PE.imp (pe_callTy h1 hg hm hv ha hn hdb he hpl) fun σ H Q ⟨γ, B0, B, G, env, st, E, P⟩ => ?_
  exact ⟨γ, B0, B, G, env, st, E, P.bind.imp fun ds st1 G1 H1 s1 p1 P1 vs rvs => h2 γ st1 G1 H1 vs ds Q _ s1.sub s1.tok p1 rvs P1⟩
/-- a built-in function that the module holds under its name (gcd) -/
theorem de_callF {F : List D → M D} {f : LM} {x : Str} {p : Pos} {id : String} (hc : CallD X m (.builtin id) F) (hm : X.mg x = some (.builtin id)) (ha : PA X (e :: es) (tL m W f)) (hg : Gl X x := by rfl) (hdb : (x == ("__debug__" : Str)) = false := by decide)
    (he : starEach (e :: es) X.env = (false, eval e X.env) :: starEach es X.env := by rfl) (hpl : (backTo pos (starEach es X.env)).any (·.1) = false := by rfl) : PE X (.Call (.Name x p) (e :: es) [] pos) (tD m W (eL F f)) := by
  obtain ⟨r, h1, h2⟩ := hc
  refine PE.imp (pe_callBfun h1 hg hm ha hdb he hpl) fun σ H Q ⟨γ, B0, B, G, env, st, E, P⟩ => ?_
  exact ⟨γ, B0, B, G, env, st, E, P.bind.imp fun ds st1 G1 H1 s1 p1 P1 vs rvs => h2 γ st1 G1 H1 vs ds Q _ s1.sub s1.tok p1 rvs P1⟩
end

/-! ### own defs -/
section
variable {X : Cx} {m : Md} {W : WX} {a e : Expr} {es : List Expr} {f : EM} {pos : Pos}
def aNil : AM := fun _ => pureM []
def aVal (f : EM) (g : AM) : AM := fun env => bindM (f env) fun x => bindM (g env) fun xs => pureM (.val x :: xs)
def aPen (i : Nat) (g : AM) : AM := fun env => match env[i]? with
  | some .pen => bindM (g env) fun xs => pureM (.pen :: xs)
  | _ => failM
theorem da_nil : PA X [] (tA m W aNil) := by
  refine PA.imp pa_nil fun σ H Q ⟨γ, B0, B, G, env, st, E, P⟩ => ?_
  exact P.now E.sub E.tok E.pen [] .nil
theorem da_val {g : AM} (ha : PE X a (tD m W f)) (hr : PA X es (tA m W g)) (hs : starEach (a :: es) X.env = (false, eval a X.env) :: starEach es X.env := by rfl) : PA X (a :: es) (tA m W (aVal f g)) := by
  refine PA.imp (pa_cons ha hr hs) fun σ H Q ⟨γ, B0, B, G, env, st, E, P⟩ => ?_
  refine ⟨γ, B0, B, G, env, st, E, P.bind.imp fun d st1 G1 H1 s1 p1 P1 v rv => ?_⟩
  refine ⟨γ, B0, B, G1, env, st1, E.step s1 p1, P1.bind.imp fun ds st2 G2 H2 s2 p2 P2 vs rvs => ?_⟩
  exact P2.now s2.sub s2.tok p2 (v :: vs) (.cons (show ArgOk m γ G2 (.val d) v from rv.same s2.gg) rvs)
theorem da_pen0 {i : Nat} {g : AM} (ha : PE X a (tVar i)) (hr : PA X es (tA m W g)) (hs : starEach (a :: es) X.env = (false, eval a X.env) :: starEach es X.env := by rfl) : PA X (a :: es) (tA m W (aPen i g)) := by
  refine PA.imp (pa_cons ha hr hs) fun σ H Q ⟨γ, B0, B, G, env, st, E, P⟩ => ?_
  unfold aPen at P
  cases q : env[i]? with
  | none => rw [q] at P; exact False.elim P
  | some s =>
    rw [q] at P
    cases s with
    | val d => exact False.elim P
    | no => exact False.elim P
    | own l => exact False.elim P
    | pen =>
      obtain ⟨x, h1, p, hp, rfl⟩ := E.get q
      refine ⟨_, h1, ?_⟩
      refine ⟨γ, B0, B, G, env, st, E, P.bind.imp fun ds st2 G2 H2 s2 p2 P2 vs rvs => ?_⟩
      exact P2.now s2.sub s2.tok p2 (.ref p :: vs) (.cons (show ArgOk m γ G2 .pen (.ref p) from ⟨p, hp, rfl⟩) rvs)
theorem da_pen (i : Nat) {g : AM} {x : Str} {p : Pos} (hr : PA X es (tA m W g)) (hN : X.N[i]? = some x := by rfl) (hv : Vis X.env.scope x := by first | exact Or.inl rfl | exact Or.inr (Or.inl rfl) | exact Or.inr (Or.inr rfl)) (hd : (x == ("__debug__" : Str)) = false := by decide)
    (hcd : (x == ("__classdict__" : Str)) = false := by decide) (hs : starEach (.Name x p :: es) X.env = (false, eval (.Name x p) X.env) :: starEach es X.env := by rfl) : PA X (.Name x p :: es) (tA m W (aPen i g)) := da_pen0 (pe_var hN hv hd hcd) hr hs
def eCall (F : List Sl → M D) (f : AM) : EM := fun env => bindM (f env) F
theorem ArgsOk.append {γ : Gh} {G : Hp} : ∀ {s t : List Sl} {v w : List V}, ArgsOk m γ G s v → ArgsOk m γ G t w → ArgsOk m γ G (s ++ t) (v ++ w)
  | _, _, _, _, .nil, h => h
  | _, _, _, _, .cons h r, h' => .cons h (ArgsOk.append r h')
theorem ArgsOk.ofRepL {γ : Gh} {G : Hp} : ∀ {ds : List D} {vs : List V}, RepL m G vs ds → ArgsOk m γ G (ds.map .val) vs
  | _, _, .nil => .nil
  | _, _, .cons h r => .cons h (ArgsOk.ofRepL r)
/-- f(..), with defaults dvs that stand for dds -/
theorem de_call {F : List Sl → M D} {f : AM} {x : Str} {p : Pos} {k : Nat} {fa : Addr} {fd : FuncData} {ps : List Str} {dvs : List V} {dds : List D} {ds : List Value} {CX : CXT} (O : FnOk X.prog X.w X.K X.mg X.base CX k fa fd ps (spF m F)) (hr : Room k X.A) (hm : X.mg x = some (.ref fa)) (hk : PySem.W.keepIn X.K (.ref fa) = true) (hb : Binds X.K fd ps ds) (hd : Vals dvs ds) (hdd : ∀ G, RepL m G dvs dds)
    (hx : ∀ σ, PassesAt CX X σ (fun c d H => W c d σ H)) (ha : PA X (e :: es) (tA m W f)) (hg : Gl X x := by rfl) (hdb : (x == ("__debug__" : Str)) = false := by decide) (he : starEach (e :: es) X.env = (false, eval e X.env) :: starEach es X.env := by rfl) (hpl : (backTo pos (starEach es X.env)).any (·.1) = false := by rfl) :
    PE X (.Call (.Name x p) (e :: es) [] pos) (tD m W (eCall (fun as => F (as ++ dds.map .val)) f)) := by
  refine PE.imp (pe_callSD (E := fun σ c d H => W c d σ H) O hr hg hm hk hb hd hx ha hdb he hpl) fun σ H Q ⟨γ, B0, B, G, env, st, E, P⟩ => ?_
  refine ⟨γ, B0, B, G, env, st, E, P.bind.imp fun as st1 G1 H1 s1 p1 P1 vs rvs => ?_⟩
  exact ⟨γ, G1, as ++ dds.map .val, st1, s1.sub, s1.tok, p1, rvs.append (ArgsOk.ofRepL (hdd G1)), P1⟩
/-- .. every parameter given -/
theorem de_call' {F : List Sl → M D} {f : AM} {x : Str} {p : Pos} {k : Nat} {fa : Addr} {fd : FuncData} {ps : List Str} {CX : CXT} (O : FnOk X.prog X.w X.K X.mg X.base CX k fa fd ps (spF m F)) (hr : Room k X.A) (hm : X.mg x = some (.ref fa)) (hk : PySem.W.keepIn X.K (.ref fa) = true) (hb : Binds X.K fd ps [])
    (hx : ∀ σ, PassesAt CX X σ (fun c d H => W c d σ H)) (ha : PA X (e :: es) (tA m W f)) (hg : Gl X x := by rfl) (hdb : (x == ("__debug__" : Str)) = false := by decide) (he : starEach (e :: es) X.env = (false, eval e X.env) :: starEach es X.env := by rfl) (hpl : (backTo pos (starEach es X.env)).any (·.1) = false := by rfl) :
    PE X (.Call (.Name x p) (e :: es) [] pos) (tD m W (eCall F f)) := by
  refine PE.imp (pe_callS (E := fun σ c d H => W c d σ H) O hr hg hm hk hb hx ha hdb he hpl) fun σ H Q ⟨γ, B0, B, G, env, st, E, P⟩ => ?_
  refine ⟨γ, B0, B, G, env, st, E, P.bind.imp fun as st1 G1 H1 s1 p1 P1 vs rvs => ?_⟩
  exact ⟨γ, G1, as, st1, s1.sub, s1.tok, p1, rvs, P1⟩
/-- where no error leaves: in a comprehension -/
abbrev WF : WX := fun _ _ _ _ => False
theorem passF {σ : L2.St} : PassesAt (L2.CX X.prog X.w) X σ (fun c d H => WF c d σ H) := fun _ _ _ e s' _ c => by
  obtain ⟨_, _, _, _, _, _, _, _, _, _, _, _, z⟩ := c
  exact False.elim z
end
end DL
set_option Elab.async false
set_option linter.all false
set_option maxRecDepth 100000
/-! Dl3: rules by data: targets, statements, loops, comprehensions. -/
namespace DL
open PySem PySem.Spec PyProof.Rows L2

/-! ### the environment's changes -/
section
variable {m : Md} {γ : Gh} {B0 B G H G' H' G1 H1 : Hp} {σ : L2.St} {env : List Sl} {st st' : Pen} {i : Nat}
theorem set_get {α : Type} {l : List α} {i j : Nat} {a x : α} (h : (l.set i a)[j]? = some x) : (j = i ∧ x = a ∧ i < l.length) ∨ (j ≠ i ∧ l[j]? = some x) := by
  by_cases e : i = j
  · subst e
    have hl : i < l.length := by
      have := (List.getElem?_eq_some_iff.mp h).1
      rwa [List.length_set] at this
    rw [List.getElem?_set_self hl] at h
    exact .inl ⟨rfl, (Option.some.inj h).symm, hl⟩
  · rw [List.getElem?_set_ne e] at h
    exact .inr ⟨fun z => e z.symm, h⟩
/-- what was not there at first is changed -/
theorem Step.mut {p : Addr} {o : HO} (s : Step γ B0 B G H) (bp : B p = none) (gp : G p = none) (ap : γ.away p) : Step γ B0 B G (L2.upd H p o) := by
  refine ⟨s.gg, fun b u e => ?_, s.new, fun b u ha e => ?_, fun b h => ?_, γ.stable G H _ _ s.tok (Same.refl G) fun b hb => upd_ne fun z => ap.2 (z ▸ hb)⟩
  · rw [upd_ne (ne_of_none e gp)]; exact s.sub b u e
  · rw [upd_ne (ne_of_none e bp)]; exact s.keep b u ha e
  · by_cases z : b = p
    · subst z; rw [upd_same]; intro z; cases z
    · rw [upd_ne z]; exact s.live b h
/-- a list that the frame holds alone is changed -/
theorem EnvOk.upd (E : EnvOk m γ B0 B σ G H env st) {l l' : List D} {p : Addr} {vs vs' : List V} (hi : env[i]? = some (.own l)) (hx : σ[i]? = some (some (.ref p))) (hp : H p = some (.lst vs)) (bp : B p = none) (gp : G p = none) (ap : γ.away p) (r : RepL m G vs' l') :
    EnvOk m γ B0 B σ G (L2.upd H p (.lst vs')) (env.set i (.own l')) st := by
  have hsub : Same G (L2.upd H p (.lst vs')) := fun b u e => by rw [upd_ne (ne_of_none e gp)]; exact E.sub b u e
  have tok : γ.tok G (L2.upd H p (.lst vs')) := γ.stable G H _ _ E.tok (Same.refl G) fun b hb => upd_ne fun z => ap.2 (z ▸ hb)
  refine ⟨hsub, tok, ⟨E.base.gg, hsub, E.base.new, fun b u ha e => ?_, fun b h => ?_, tok⟩, ⟨fun b hb => ?_, fun b hb => ?_⟩, by rw [List.length_set]; exact E.len, fun j s x h1 h2 => ?_, fun j k s t x hjk h1 h2 o1 o2 h3 h4 => ?_⟩
  · rw [upd_ne (ne_of_none e bp)]; exact E.base.keep b u ha e
  · by_cases z : b = p
    · subst z; rw [upd_same]; intro z; cases z
    · rw [upd_ne z]; exact E.base.live b h
  · obtain ⟨h1, q, h2, h3⟩ := E.pen.pen b hb
    have z : b ≠ p := fun z => ap.1 (z ▸ hb)
    exact ⟨h1, q, by rw [upd_ne z]; exact h2, h3⟩
  · have z : b ≠ p := fun z => ap.2 (z ▸ hb)
    rw [upd_ne z]; exact E.pen.live b hb
  · rcases set_get h1 with ⟨rfl, rfl, _⟩ | ⟨hne, h1⟩
    · rw [hx] at h2; cases h2
      exact ⟨p, vs', rfl, upd_same, bp, gp, ap, r⟩
    · have q := E.sl j s x h1 h2
      cases s with
      | no => trivial
      | val d => exact q
      | pen => exact q
      | own l2 =>
        obtain ⟨p2, vs2, rfl, h5, h6, h7, h8, h9⟩ := q
        have z : p2 ≠ p := fun z => E.dis j i (.own l2) (.own l) (.ref p2) hne h1 hi rfl rfl h2 (by rw [z]; exact hx)
        exact ⟨p2, vs2, rfl, by rw [upd_ne z]; exact h5, h6, h7, h8, h9⟩
  · have f : ∀ (j : Nat) (s : Sl), (env.set i (.own l'))[j]? = some s → s.isOwn = true → ∃ s', env[j]? = some s' ∧ s'.isOwn = true := fun j s h o => by
      rcases set_get h with ⟨rfl, rfl, _⟩ | ⟨hne, h⟩
      · exact ⟨_, hi, rfl⟩
      · exact ⟨s, h, o⟩
    obtain ⟨s', a1, a2⟩ := f j s h1 o1
    obtain ⟨t', b1, b2⟩ := f k t h2 o2
    exact E.dis j k s' t' x hjk a1 b1 a2 b2 h3 h4
/-- a new list that the frame holds alone -/
theorem EnvOk.new (E : EnvOk m γ B0 B σ G H env st) {p : Addr} {vs : List V} {l : List D} (hp : H p = none) (r : RepL m G vs l) : EnvOk m γ B0 B (σ.set i (some (.ref p))) G (L2.upd H p (.lst vs)) (env.set i (.own l)) st := by
  have bp : B p = none := by
    cases q : B p with
    | none => rfl
    | some o => exact absurd hp (E.base.live p (by rw [q]; intro z; cases z))
  have gp : G p = none := E.sub.free hp
  have s := Step.lay (o := .lst vs) E.sub E.tok E.pen hp
  have E1 := E.step s (E.pen.lay E.sub E.tok hp)
  refine ⟨E1.sub, E1.tok, E1.base, E1.pen, by rw [List.length_set, List.length_set]; exact E.len, fun j s x h1 h2 => ?_, fun j k s t x hjk h1 h2 o1 o2 h3 h4 => ?_⟩
  · rcases set_get h1 with ⟨rfl, rfl, _⟩ | ⟨hne, h1⟩
    · rcases set_get h2 with ⟨_, rfl, _⟩ | ⟨z, _⟩
      · exact ⟨p, vs, rfl, upd_same, bp, gp, E.pen.away hp, r⟩
      · exact absurd rfl z
    · rw [List.getElem?_set_ne (Ne.symm hne)] at h2
      exact E1.sl j s x h1 h2
  · have nw : ∀ (j : Nat) (s : Sl) (x : V), env[j]? = some s → s.isOwn = true → σ[j]? = some (some x) → x ≠ .ref p := fun j s x h o q z => by
      cases s with
      | own l2 =>
        obtain ⟨p2, vs2, e, h5, _⟩ := E.sl j _ _ h q
        cases e; cases z
        rw [hp] at h5; cases h5
      | no => cases o
      | val d => cases o
      | pen => cases o
    have h1' := h1
    have h2' := h2
    clear h1 h2
    rcases set_get h1' with ⟨rfl, rfl, _⟩ | ⟨n1, h1⟩
    · rcases set_get h2' with ⟨rfl, rfl, _⟩ | ⟨n2, h2⟩
      · exact hjk rfl
      · rcases set_get h3 with ⟨_, e, _⟩ | ⟨z, _⟩
        · cases e
          rw [List.getElem?_set_ne (Ne.symm n2)] at h4
          exact nw k t _ h2 o2 h4 rfl
        · exact z rfl
    · rw [List.getElem?_set_ne (Ne.symm n1)] at h3
      rcases set_get h2' with ⟨rfl, rfl, _⟩ | ⟨n2, h2⟩
      · rcases set_get h4 with ⟨_, e, _⟩ | ⟨z, _⟩
        · cases e
          exact nw j s _ h1 o1 h3 rfl
        · exact z rfl
      · rw [List.getElem?_set_ne (Ne.symm n2)] at h4
        exact E.dis j k s t x hjk h1 h2 o1 o2 h3 h4
/-- such a list is data from now on -/
theorem EnvOk.frz (E : EnvOk m γ B0 B σ G H env st) {l : List D} (hi : env[i]? = some (.own l)) : ∃ G', EnvOk m γ B0 B σ G' H (env.set i (.val (.lst l))) st := by
  obtain ⟨x, hx, p, vs, rfl, hp, bp, gp, ap, r⟩ := E.get hi
  have gg : Same G (L2.upd G p (.lst vs)) := fun b u e => by rw [upd_ne (ne_of_none e gp)]; exact e
  have s := E.base.freeze hp bp gp
  refine ⟨L2.upd G p (.lst vs), s.sub, s.tok, s, E.pen.freeze hp ap gp, by rw [List.length_set]; exact E.len, fun j s x h1 h2 => ?_, fun j k s t x hjk h1 h2 o1 o2 h3 h4 => ?_⟩
  · rcases set_get h1 with ⟨rfl, rfl, _⟩ | ⟨hne, h1⟩
    · rw [hx] at h2; cases h2
      exact ⟨.ref p, rfl, .lst upd_same (r.same gg)⟩
    · have q := E.sl j s x h1 h2
      cases s with
      | no => trivial
      | val d =>
        obtain ⟨v, e, rv⟩ := q
        exact ⟨v, e, rv.same gg⟩
      | pen => exact q
      | own l2 =>
        obtain ⟨p2, vs2, rfl, h5, h6, h7, h8, h9⟩ := q
        have z : p2 ≠ p := fun z => E.dis j i (.own l2) (.own l) (.ref p2) hne h1 hi rfl rfl h2 (by rw [z]; exact hx)
        exact ⟨p2, vs2, rfl, h5, h6, by rw [upd_ne z]; exact h7, h8, h9.same gg⟩
  · have ne : ∀ (k : Nat) (t : Sl), (env.set i (.val (.lst l)))[k]? = some t → t.isOwn = true → env[k]? = some t := fun k t h o => by
      rcases set_get h with ⟨_, rfl, _⟩ | ⟨_, h⟩
      · cases o
      · exact h
    exact E.dis j k s t x hjk (ne j s h1 o1) (ne k t h2 o2) o1 o2 h3 h4
/-- a slot forgotten -/
theorem EnvOk.no (E : EnvOk m γ B0 B σ G H env st) (y : Option V) : EnvOk m γ B0 B (σ.set i y) G H (env.set i .no) st := by
  refine ⟨E.sub, E.tok, E.base, E.pen, by rw [List.length_set, List.length_set]; exact E.len, fun j s x h1 h2 => ?_, fun j k s t x hjk h1 h2 o1 o2 h3 h4 => ?_⟩
  · rcases set_get h1 with ⟨_, rfl, _⟩ | ⟨hne, h1⟩
    · trivial
    · rw [List.getElem?_set_ne (Ne.symm hne)] at h2
      exact E.sl j s x h1 h2
  · rcases set_get h1 with ⟨_, rfl, _⟩ | ⟨n1, h1⟩
    · cases o1
    rcases set_get h2 with ⟨_, rfl, _⟩ | ⟨n2, h2⟩
    · cases o2
    rw [List.getElem?_set_ne (Ne.symm n1)] at h3
    rw [List.getElem?_set_ne (Ne.symm n2)] at h4
    exact E.dis j k s t x hjk h1 h2 o1 o2 h3 h4
def wipeE (env : List Sl) : List Nat → List Sl
  | [] => env
  | v :: vs => (wipeE env vs).set v .no
theorem EnvOk.wipe (E : EnvOk m γ B0 B σ G H env st) : ∀ vs : List Nat, EnvOk m γ B0 B (wipe σ vs) G H (wipeE env vs) st
  | [] => E
  | _ :: vs => (EnvOk.wipe E vs).no _
/-- the frozen ground moves up -/
theorem EnvOk.up (E : EnvOk m γ B0 B σ G H env st) (s : Step γ B0 B G1 H1) (g : Same G1 G) : EnvOk m γ G1 B σ G H env st :=
  ⟨E.sub, E.tok, ⟨g, E.sub, fun b h1 h2 => E.base.new b h1 (s.gg.free h2), E.base.keep, E.base.live, E.tok⟩, E.pen, E.len, E.sl, E.dis⟩
theorem EnvOk.down (E : EnvOk m γ G1 B σ G H env st) (s : Step γ B0 B G1 H1) : EnvOk m γ B0 B σ G H env st :=
  ⟨E.sub, E.tok, ⟨s.gg.trans E.base.gg, E.sub, fun b h1 h2 => E.base.new b h1 (s.new b h1 h2), E.base.keep, E.base.live, E.tok⟩, E.pen, E.len, E.sl, E.dis⟩
theorem EnvOk.ext (E : EnvOk m γ B0 B σ G H env st) : EnvOk m γ B0 B (σ ++ [none]) G H (env ++ [.no]) st := by
  have el := E.len
  have back : ∀ (j : Nat) (s : Sl), (env ++ [Sl.no])[j]? = some s → s.isOwn = true → env[j]? = some s ∧ (σ ++ [none])[j]? = σ[j]? := fun j s h o => by
    by_cases hj : j < env.length
    · rw [List.getElem?_append_left hj] at h
      exact ⟨h, List.getElem?_append_left (by omega)⟩
    · rw [List.getElem?_append_right (by omega)] at h
      have := List.mem_of_getElem? h
      simp only [List.mem_singleton] at this
      subst this
      cases o
  refine ⟨E.sub, E.tok, E.base, E.pen, by simp [el], fun j s x h1 h2 => ?_, fun j k s t x hjk h1 h2 o1 o2 h3 h4 => ?_⟩
  · by_cases hj : j < env.length
    · rw [List.getElem?_append_left hj] at h1
      rw [List.getElem?_append_left (by omega)] at h2
      exact E.sl j s x h1 h2
    · rw [List.getElem?_append_right (by omega)] at h1
      have := List.mem_of_getElem? h1
      simp only [List.mem_singleton] at this
      subst this
      trivial
  · obtain ⟨a1, a2⟩ := back j s h1 o1
    obtain ⟨b1, b2⟩ := back k t h2 o2
    rw [a2] at h3
    rw [b2] at h4
    exact E.dis j k s t x hjk a1 b1 o1 o2 h3 h4
theorem EnvOk.pop {x : Option V} {s : Sl} (E : EnvOk m γ B0 B (σ ++ [x]) G H (env ++ [s]) st) : EnvOk m γ B0 B σ G H env st := by
  have el : env.length = σ.length := by
    have := E.len
    simp only [List.length_append, List.length_cons, List.length_nil] at this
    omega
  have up : ∀ (j : Nat) (s' : Sl), env[j]? = some s' → (env ++ [s])[j]? = some s' ∧ (σ ++ [x])[j]? = σ[j]? := fun j s' h => by
    have hj := (List.getElem?_eq_some_iff.mp h).1
    exact ⟨by rw [List.getElem?_append_left hj]; exact h, List.getElem?_append_left (by omega)⟩
  refine ⟨E.sub, E.tok, E.base, E.pen, el, fun j s' y h1 h2 => ?_, fun j k s' t y hjk h1 h2 o1 o2 h3 h4 => ?_⟩
  · obtain ⟨a1, a2⟩ := up j s' h1
    exact E.sl j s' y a1 (a2.trans h2)
  · obtain ⟨a1, a2⟩ := up j s' h1
    obtain ⟨b1, b2⟩ := up k t h2
    exact E.dis j k s' t y hjk a1 b1 o1 o2 (a2.trans h3) (b2.trans h4)
theorem EnvOk.push (E : EnvOk m γ B0 B σ G H env st) {p : Addr} {vs : List V} {l : List D} (hp : H p = none) (r : RepL m G vs l) : EnvOk m γ B0 B (σ ++ [some (.ref p)]) G (L2.upd H p (.lst vs)) (env ++ [.own l]) st := by
  have q := E.ext.new (i := env.length) hp r
  have e1 : (env ++ [Sl.no]).set env.length (.own l) = env ++ [.own l] := by simp
  have e2 : (σ ++ [none]).set env.length (some (.ref p)) = σ ++ [some (V.ref p)] := by rw [E.len]; simp
  rw [e1, e2] at q
  exact q
theorem PostS.up {r : SR} {D : Ends} {W : WX} (P : PostS m γ B0 B r D W) (s : Step γ B0 B G1 H1) : PostS m γ G1 B r D W := by
  match r, P with
  | some (fl, env', st'), P => exact fun σ' G' H' E => P σ' G' H' (E.down s)
end

/-! ### targets -/
def tG (m : Md) (vs : List Nat) (F : D → List Sl → Option (List Sl)) : TG := fun v σ H Q => ∃ γ B0 B G env st d env', EnvOk m γ B0 B σ G H env st ∧ Rep m G v d ∧ F d env = some env' ∧ ∀ σ', EnvOk m γ B0 B σ' G H env' st → (∀ j, j ∉ vs → σ'[j]? = σ[j]?) → σ'.length = σ.length → Q σ' H
def tGs (m : Md) (vs : List Nat) (F : List D → List Sl → Option (List Sl)) : TGs := fun xs σ H Q => ∃ γ B0 B G env st ds env', EnvOk m γ B0 B σ G H env st ∧ RepL m G xs ds ∧ F ds env = some env' ∧ ∀ σ', EnvOk m γ B0 B σ' G H env' st → (∀ j, j ∉ vs → σ'[j]? = σ[j]?) → σ'.length = σ.length → Q σ' H
def gNm (i : Nat) : D → List Sl → Option (List Sl) := fun d env => some (env.set i (.val d))
def gsNil : List D → List Sl → Option (List Sl) := fun ds env => match ds with
  | [] => some env
  | _ => none
def gsCons (F : D → List Sl → Option (List Sl)) (R : List D → List Sl → Option (List Sl)) : List D → List Sl → Option (List Sl) := fun ds env => match ds with
  | [] => none
  | d :: r => match F d env with
    | none => none
    | some env1 => R r env1
def gTp (n : Nat) (F : List D → List Sl → Option (List Sl)) : D → List Sl → Option (List Sl) := fun d env => match d with
  | .tup ds => if ds.length = n then F ds env else none
  | _ => none
section
variable {X : Cx} {m : Md} {tg : Expr} {es : List Expr} {pos : Pos}
theorem PG.imp {t t' : TG} (h : PG X tg t) (w : ∀ v σ H Q, t' v σ H Q → t v σ H Q) : PG X tg t' := ⟨fun pins s σ H v u Q I r q => h.run pins s σ H v u Q I r (w _ _ _ _ q)⟩
theorem PGs.imp {t t' : TGs} (h : PGs X es t) (w : ∀ v σ H Q, t' v σ H Q → t v σ H Q) : PGs X es t' := ⟨fun pins s σ H v u Q I r q => h.run pins s σ H v u Q I r (w _ _ _ _ q)⟩
theorem dg_name {i : Nat} {x : Str} (hN : X.N.Nodup) (hi : X.N[i]? = some x) (hx : Loc X.env.scope x) (hf : X.fn x = true ∨ X.env.scope.names.lookup x = some .local := by first | exact .inl rfl | exact .inr rfl | assumption) : PG X (.Name x pos) (tG m [i] (gNm i)) := by
  refine PG.imp (pg_name hN hi hx hf) fun v σ H Q ⟨γ, B0, B, G, env, st, d, env', E, r, e, q⟩ => ?_
  cases e
  exact q _ (E.set r) (fun j hj => List.getElem?_set_ne fun z => hj (by simp [z])) List.length_set
theorem dgs_nil : PGs X [] (tGs m [] gsNil) := by
  refine PGs.imp pgs_nil fun v σ H Q ⟨γ, B0, B, G, env, st, ds, env', E, r, e, q⟩ => ?_
  cases ds with
  | nil =>
    cases r
    cases e
    exact ⟨rfl, q σ E (fun _ _ => rfl) rfl⟩
  | cons d ds => cases e
theorem dgs_cons {e : Expr} {vs ws : List Nat} {F : D → List Sl → Option (List Sl)} {R : List D → List Sl → Option (List Sl)} (h1 : PG X e (tG m vs F)) (h2 : PGs X es (tGs m ws R))
    (hs : (assignEach (e :: es) X.env).map (·.2) = assign e X.env :: (assignEach es X.env).map (·.2) := by rfl) : PGs X (e :: es) (tGs m (vs ++ ws) (gsCons F R)) := by
  refine PGs.imp (pgs_cons h1 h2 hs) fun xs σ H Q z => ?_
  obtain ⟨γ, B0, B, G, env, st, ds, env', E, r, ee, q⟩ := z
  match xs, ds, r with
  | _, _, .nil => cases ee
  | _, _, .cons (d := d) (ds := ds) rd rr =>
    have ee : (match F d env with | none => none | some env1 => R ds env1) = some env' := ee
    cases ef : F d env with
    | none => rw [ef] at ee; cases ee
    | some env1 =>
      rw [ef] at ee
      refine ⟨_, _, rfl, γ, B0, B, G, env, st, d, env1, E, rd, ef, fun σ1 E1 k1 l1 => ?_⟩
      refine ⟨γ, B0, B, G, env1, st, ds, env', E1, rr, ee, fun σ2 E2 k2 l2 => ?_⟩
      refine q σ2 E2 (fun j hj => ?_) (l2.trans l1)
      rw [List.mem_append, not_or] at hj
      exact (k2 j hj.2).trans (k1 j hj.1)
theorem dg_tup {k : Nat} {n : Nat} {vs : List Nat} {F : List D → List Sl → Option (List Sl)} (hc : X.calm = true) (h : PGs X es (tGs m vs F)) (hK : X.K = m.K := by rfl)
    (hn : (assignEach es X.env).length = n := by rfl) (hst : (assignEach es X.env).findIdx? (·.1) = none := by rfl) : PG X (.Tuple es k pos) (tG m vs (gTp n F)) := by
  refine PG.imp (pg_tup hc h hn hst) fun v σ H Q ⟨γ, B0, B, G, env, st, d, env', E, r, ee, q⟩ => ?_
  cases d with
  | tup ds =>
    obtain ⟨a, xs, rfl, h1, h2⟩ := r.tup_inv
    have ee : (if ds.length = n then F ds env else none) = some env' := ee
    by_cases hl : ds.length = n
    · rw [if_pos hl] at ee
      exact ⟨a, xs, rfl, by rw [hK]; exact SqT.same E.sub h1, by rw [h2.length]; exact hl, γ, B0, B, G, env, st, ds, env', E, h2, ee, q⟩
    · rw [if_neg hl] at ee; cases ee
  | non => cases ee
  | bl _ => cases ee
  | int _ => cases ee
  | str _ => cases ee
  | lst _ => cases ee
  | dct _ => cases ee
  | ins _ _ => cases ee
  | ref _ => cases ee
end

/-! ### statements -/
def liftM {α : Type} (f : List Sl → M α) (k : α → List Sl → Pen → SR) : SM := fun env st => match f env st with
  | none => none
  | some (.error x, st') => some (.error x, env, st')
  | some (.ok a, st') => k a env st'
section
variable {m : Md} {γ : Gh} {B0 B G H : Hp} {σ : L2.St} {env : List Sl} {st : Pen} {W : WX} {D : Ends}
theorem PostS.lift {α : Type} {f : List Sl → M α} {k : α → List Sl → Pen → SR} (P : PostS m γ B0 B (liftM f k env st) D W) (E : EnvOk m γ B0 B σ G H env st) :
    Post m γ G H (f env st) (fun a st' _ _ => PostS m γ B0 B (k a env st') D W) fun c dd H' => W c dd σ H' := by
  unfold liftM at P
  cases e : f env st with
  | none => rw [e] at P; exact P
  | some q =>
    obtain ⟨q, st1⟩ := q
    rw [e] at P
    cases q with
    | error x => exact fun cls dd G' H' s p z => P σ G' H' (E.step s p) cls dd z
    | ok a => exact fun G' H' s p => P
end
def sNx : SM := fun env st => some (.ok .nx, env, st)
def sSeq (f g : SM) : SM := fun env st => match f env st with
  | some (.ok .nx, env', st') => g env' st'
  | r => r
def sAsg (i : Nat) (f : EM) : SM := liftM f fun d env st => some (.ok .nx, env.set i (.val d), st)
def sAsgT (f : EM) (F : D → List Sl → Option (List Sl)) : SM := liftM f fun d env st => match F d env with
  | none => none
  | some env' => some (.ok .nx, env', st)
def sExpr (f : EM) : SM := liftM f fun _ env st => some (.ok .nx, env, st)
def sRet (f : EM) : SM := liftM f fun d env st => some (.ok (.ret d), env, st)
def sRetN : SM := fun env st => some (.ok (.ret .non), env, st)
def sIf (c : List Sl → M Bool) (a b : SM) : SM := liftM c fun k env st => if k = true then a env st else b env st
def sBk : SM := fun env st => some (.ok .bk, env, st)
def sCt : SM := fun env st => some (.ok .ct, env, st)
def sNo : SM := fun _ _ => none
def sPar (i j : Nat) (f : LM) : SM := liftM f fun ds env st => match ds with
  | [d, e] => some (.ok .nx, (env.set i (.val d)).set j (.val e), st)
  | _ => none
def sPar3 (i j l : Nat) (f : LM) : SM := liftM f fun ds env st => match ds with
  | [d, e, g] => some (.ok .nx, ((env.set i (.val d)).set j (.val e)).set l (.val g), st)
  | _ => none
def sAug (i : Nat) (F : D → D → M D) (f : EM) : SM := liftM (fun env => bindM (eVar i env) fun x => bindM (f env) fun y => F x y) fun d env st => some (.ok .nx, env.set i (.val d), st)
def sNewL (i : Nat) (f : LM) : SM := liftM f fun ds env st => if ds.length ≤ sizeLine then some (.ok .nx, env.set i (.own ds), st) else none
def sApp (i : Nat) (f : EM) : SM := fun env st => match env[i]? with
  | some (.own l) => liftM f (fun d env st => if l.length < sizeLine then some (.ok .nx, env.set i (.own (l ++ [d])), st) else none) env st
  | _ => none
def sFrz (i : Nat) (g : SM) : SM := fun env st => match env[i]? with
  | some (.own l) => g (env.set i (.val (.lst l))) st
  | _ => g env st
/-- the slot's value is not asked again -/
def sDrop (i : Nat) (g : SM) : SM := fun env st => g (env.set i .no) st
section
variable {X : Cx} {m : Md} {W : WX} {e : Expr} {es : List Expr} {f : EM} {pos : Pos} {s : Stmt} {ss : List Stmt} {u v : SM}
theorem dss_nil : PSs X [] (tS m W sNx) := PSs.imp pss_nil fun D σ H ⟨γ, B0, B, G, env, st, E, P⟩ => P σ G H E
theorem dss_cons (h1 : PS X s (tS m W u)) (h2 : PSs X ss (tS m W v)) : PSs X (s :: ss) (tS m W (sSeq u v)) := by
  refine PSs.imp (pss_cons h1 h2) fun D σ H ⟨γ, B0, B, G, env, st, E, P⟩ => ⟨γ, B0, B, G, env, st, E, ?_⟩
  unfold sSeq at P
  cases q : u env st with
  | none => rw [q] at P; exact P
  | some r =>
    obtain ⟨fl, env', st'⟩ := r
    rw [q] at P
    cases fl with
    | error x => exact P
    | ok fl =>
      cases fl with
      | nx => exact fun σ' G' H' E' => ⟨γ, B0, B, G', env', st', E', P⟩
      | ret d => exact P
      | bk => exact P
      | ct => exact P
theorem dss_one (h1 : PS X s (tS m W u)) : PSs X [s] (tS m W u) := pss_one h1
theorem ds_set {i : Nat} {x : Str} {pos' : Pos} (hN : X.N.Nodup) (he : PE X e (tD m W f)) (hi : X.N[i]? = some x := by rfl) (hx : Loc X.env.scope x := by first | exact Or.inl rfl | exact Or.inr rfl) (hs : swapsWith e (some (.Name x pos')) pos.line X.env = pure false := by rfl) (hf : X.fn x = true ∨ X.env.scope.names.lookup x = some .local := by first | exact .inl rfl | exact .inr rfl | assumption) :
    PS X (.Assign [.Name x pos'] e pos) (tS m W (sAsg i f)) := by
  refine PS.imp (ps_set hN hi hx he hs hf) fun D σ H ⟨γ, B0, B, G, env, st, E, P⟩ => ?_
  exact ⟨γ, B0, B, G, env, st, E, (P.lift E).imp fun d st1 G1 H1 s1 p1 P1 v rv => P1 _ G1 H1 ((E.step s1 p1).set rv)⟩
theorem ds_asg {tg : Expr} {vs : List Nat} {F : D → List Sl → Option (List Sl)} (he : PE X e (tD m W f)) (hg : PG X tg (tG m vs F)) (hs : swapsWithSole [tg] e pos.line X.env = pure false := by rfl) (hw : swappedStores [tg] e X.env = pure none := by rfl)
    (h1 : (assignEach [tg] X.env).map (·.2) = [assign tg X.env] := by rfl) : PS X (.Assign [tg] e pos) (tS m W (sAsgT f F)) := by
  refine PS.imp (ps_asg he hg hs hw h1) fun D σ H ⟨γ, B0, B, G, env, st, E, P⟩ => ?_
  refine ⟨γ, B0, B, G, env, st, E, (P.lift E).imp fun d st1 G1 H1 s1 p1 P1 v rv => ?_⟩
  cases q : F d env with
  | none => rw [q] at P1; exact False.elim P1
  | some env' =>
    rw [q] at P1
    exact ⟨γ, B0, B, G1, env, st1, d, env', E.step s1 p1, rv, q, fun σ' E' _ _ => P1 σ' G1 H1 E'⟩
theorem ds_expr (he : PE X e (tD m W f)) (hs : swapsWith e none pos.line X.env = pure false := by rfl) : PS X (.Expr e pos) (tS m W (sExpr f)) := by
  refine PS.imp (ps_expr he hs) fun D σ H ⟨γ, B0, B, G, env, st, E, P⟩ => ?_
  exact ⟨γ, B0, B, G, env, st, E, (P.lift E).imp fun d st1 G1 H1 s1 p1 P1 v rv => P1 _ G1 H1 (E.step s1 p1)⟩
theorem ds_ret (he : PE X e (tD m W f)) : PS X (.Return (some e) pos) (tS m W (sRet f)) := by
  refine PS.imp (ps_ret he) fun D σ H ⟨γ, B0, B, G, env, st, E, P⟩ => ?_
  exact ⟨γ, B0, B, G, env, st, E, (P.lift E).imp fun d st1 G1 H1 s1 p1 P1 v rv => P1 _ G1 H1 (E.step s1 p1) v rv⟩
theorem ds_retN : PS X (.Return none pos) (tS m W sRetN) := PS.imp ps_retN fun D σ H ⟨γ, B0, B, G, env, st, E, P⟩ => P σ G H E .non .non
theorem ds_if {c : Expr} {a b : List Stmt} {fc : List Sl → M Bool} (hc : PT X c (tT m W fc)) (ha : PSs X a (tS m W u)) (hb : PSs X b (tS m W v)) : PS X (.If c a b pos) (tS m W (sIf fc u v)) := by
  refine PS.imp (ps_if hc ha hb) fun D σ H ⟨γ, B0, B, G, env, st, E, P⟩ => ?_
  refine ⟨γ, B0, B, G, env, st, E, (P.lift E).imp fun k st1 G1 H1 s1 p1 P1 => ?_⟩
  cases k with
  | true => exact iteT ⟨γ, B0, B, G1, env, st1, E.step s1 p1, P1⟩
  | false => exact iteF ⟨γ, B0, B, G1, env, st1, E.step s1 p1, P1⟩
theorem ds_pass : PS X (.Pass pos) (tS m W sNx) := PS.imp ps_pass fun D σ H ⟨γ, B0, B, G, env, st, E, P⟩ => P σ G H E
theorem ds_break : PS X (.Break pos) (tS m W sBk) := PS.imp ps_break fun D σ H ⟨γ, B0, B, G, env, st, E, P⟩ => P σ G H E
theorem ds_continue : PS X (.Continue pos) (tS m W sCt) := PS.imp ps_continue fun D σ H ⟨γ, B0, B, G, env, st, E, P⟩ => P σ G H E
/-- never come to -/
theorem ds_never : PS X s (tS m W sNo) := PS.imp ps_never fun D σ H ⟨γ, B0, B, G, env, st, E, P⟩ => P
theorem dss_never : PSs X ss (tS m W sNo) := PSs.imp pss_never fun D σ H ⟨γ, B0, B, G, env, st, E, P⟩ => P
theorem ds_par {i j : Nat} {x y : Str} {a b : Expr} {f : LM} {px py pt : Pos} {kt k2 pt2} (hc : X.calm = true) (hN : X.N.Nodup) (ha : PA X [a, b] (tL m W f)) (hij : i ≠ j := by decide) (hi : X.N[i]? = some x := by rfl) (hj : X.N[j]? = some y := by rfl)
    (hx : X.env.scope.names.lookup x = some .local := by rfl) (hy : X.env.scope.names.lookup y = some .local := by rfl)
    (hw : swappedStores [.Tuple [.Name x px, .Name y py] kt pt] (.Tuple [a, b] k2 pt2) X.env = pure (some [x, y]) := by rfl)
    (hs : swapsWithSole [.Tuple [.Name x px, .Name y py] kt pt] (.Tuple [a, b] k2 pt2) pos.line X.env = pure false := by rfl) :
    PS X (.Assign [.Tuple [.Name x px, .Name y py] kt pt] (.Tuple [a, b] k2 pt2) pos) (tS m W (sPar i j f)) := by
  refine PS.imp (ps_par hc hN hi hj hij hx hy ha hw hs) fun D σ H ⟨γ, B0, B, G, env, st, E, P⟩ => ?_
  refine ⟨γ, B0, B, G, env, st, E, (P.lift E).imp fun ds st1 G1 H1 s1 p1 P1 vs rvs => ?_⟩
  cases rvs with
  | nil => exact False.elim P1
  | cons r1 t =>
    cases t with
    | nil => exact False.elim P1
    | cons r2 t2 =>
      cases t2 with
      | nil => exact ⟨_, _, rfl, P1 _ G1 H1 (((E.step s1 p1).set r1).set r2)⟩
      | cons _ _ => exact False.elim P1
/-- x op= e -/
def IpD (X : Cx) (m : Md) (op : Operator) (F : D → D → M D) : Prop := ∃ r : TIp, PIp X op r ∧
  ∀ (γ : Gh) (st : Pen) (G H : Hp) (v w : V) (d e : D) (Q : VK) (W : XK), Same G H → γ.tok G H → PenOk m γ st G H → Rep m G v d → Rep m G w e → Post m γ G H (F d e st) (KD m Q) W → r v w H Q
theorem eVar_bind {α : Type} {i : Nat} {h : D → M α} {γ : Gh} {B0 B G H : Hp} {σ : L2.St} {env : List Sl} {st : Pen} {k : α → Pen → Hp → Hp → Prop} {W : XK} (E : EnvOk m γ B0 B σ G H env st) (P : Post m γ G H (bindM (eVar i env) h st) k W) :
    ∃ d v, env[i]? = some (.val d) ∧ σ[i]? = some (some v) ∧ Rep m G v d ∧ Post m γ G H (h d st) k W := by
  unfold eVar at P
  cases q : env[i]? with
  | none => rw [q] at P; exact False.elim P
  | some s =>
    rw [q] at P
    cases s with
    | val d =>
      obtain ⟨v, h1, r⟩ := E.val q
      exact ⟨d, v, rfl, h1, r, P⟩
    | no => exact False.elim P
    | pen => exact False.elim P
    | own l => exact False.elim P
theorem ds_aug {i : Nat} {x : Str} {op : Operator} {F : D → D → M D} {pos' : Pos} (ho : IpD X m op F) (hN : X.N.Nodup) (he : PE X e (tD m W f)) (hi : X.N[i]? = some x := by rfl) (hx : Loc X.env.scope x := by first | exact Or.inl rfl | exact Or.inr rfl) (hf : X.fn x = true ∨ X.env.scope.names.lookup x = some .local := by first | exact .inl rfl | exact .inr rfl | assumption) :
    PS X (.AugAssign (.Name x pos') op e pos) (tS m W (sAug i F f)) := by
  obtain ⟨r, h1, h2⟩ := ho
  refine PS.imp (ps_aug hN hi hx he h1 hf) fun D σ H ⟨γ, B0, B, G, env, st, E, P⟩ => ?_
  obtain ⟨d, v, e1, e2, rd, P0⟩ := eVar_bind E (P.lift E)
  refine ⟨v, e2, γ, B0, B, G, env, st, E, P0.bind.imp fun y st1 G1 H1 s1 p1 P1 w rw => ?_⟩
  refine h2 γ st1 G1 H1 v w d y _ _ s1.sub s1.tok p1 (rd.same s1.gg) rw (P1.imp fun z st2 G2 H2 s2 p2 P2 u ru => ?_)
  exact P2 _ G2 H2 (((E.step s1 p1).step s2 p2).set ru)
theorem ds_newL {i : Nat} {x : Str} {f : LM} {pos' pl : Pos} (hN : X.N.Nodup) (he : PA X es (tL m W f)) (hi : X.N[i]? = some x := by rfl) (hx : Loc X.env.scope x := by first | exact Or.inl rfl | exact Or.inr rfl) (hs : swapsWith (.List es pl) (some (.Name x pos')) pos.line X.env = pure false := by rfl) (hf : X.fn x = true ∨ X.env.scope.names.lookup x = some .local := by first | exact .inl rfl | exact .inr rfl | assumption) :
    PS X (.Assign [.Name x pos'] (.List es pl) pos) (tS m W (sNewL i f)) := by
  refine PS.imp (ps_set hN hi hx (pe_lst he) hs hf) fun D σ H ⟨γ, B0, B, G, env, st, E, P⟩ => ?_
  refine ⟨γ, B0, B, G, env, st, E, (P.lift E).imp fun ds st1 G1 H1 s1 p1 P1 vs rvs => ?_⟩
  by_cases hl : ds.length ≤ sizeLine
  · rw [if_pos hl] at P1
    exact ⟨by rw [rvs.length]; exact hl, fun p hp => P1 _ G1 _ ((E.step s1 p1).new hp rvs)⟩
  · rw [if_neg hl] at P1; exact False.elim P1
theorem ds_app0 {i : Nat} {c : Expr} (h1 : PE X c (tBM X.K "list" rAppend (tVar i) (tCons (tD m W f) tNil))) (hs : swapsWith c none pos.line X.env = pure false) :
    PS X (.Expr c pos) (tS m W (sApp i f)) := by
  refine PS.imp (ps_expr h1 hs) fun D σ H ⟨γ, B0, B, G, env, st, E, P⟩ => ?_
  unfold sApp at P
  cases q : env[i]? with
  | none => rw [q] at P; exact False.elim P
  | some s =>
    rw [q] at P
    cases s with
    | no => exact False.elim P
    | val d => exact False.elim P
    | pen => exact False.elim P
    | own l =>
      obtain ⟨x, hx, p, vs, rfl, hp, bp, gp, ap, r⟩ := E.get q
      refine ⟨_, hx, .inl ⟨rfl, _, .inl (.inl hp)⟩, γ, B0, B, G, env, st, E, (PostS.lift P E).imp fun d st1 G1 H1 s1 p1 P1 v rv => ?_⟩
      by_cases hl : l.length < sizeLine
      · rw [if_pos hl] at P1
        have hp1 := s1.keep p _ ap hp
        have gp1 := s1.new p (by rw [hp]; intro z; cases z) gp
        have r1 := r.same s1.gg
        refine ⟨p, vs, v, rfl, rfl, hp1, by rw [r.length]; exact hl, ?_⟩
        exact P1 _ G1 _ ((E.step s1 p1).upd q hx hp1 bp gp1 ap (r1.append (.one rv)))
      · rw [if_neg hl] at P1; exact False.elim P1
theorem ds_app {i : Nat} {x : Str} {px pa pc : Pos} (he : PE X e (tD m W f)) (hN : X.N[i]? = some x := by rfl) (hv : Vis X.env.scope x := by first | exact Or.inl rfl | exact Or.inr (Or.inl rfl) | exact Or.inr (Or.inr rfl)) (hd : (x == ("__debug__" : Str)) = false := by decide) (hcd : (x == ("__classdict__" : Str)) = false := by decide)
    (hs : swapsWith (.Call (.Attribute (.Name x px) "append" pa) [e] [] pc) none pos.line X.env = pure false := by rfl) (hq : starEach [e] X.env = (false, eval e X.env) :: starEach [] X.env := by rfl)
    (hbase : attributeBase (.Name x px) "append" X.env (eval (.Name x px) X.env) = eval (.Name x px) X.env := by rfl)
    (hfew : ((backTo pc (starEach (e :: []) X.env)).all (fun x => !x.1) && (backToKw pc (keywordEach [] X.env)).all (fun x => x.1.isSome)
      && decide ((e :: []).length + ([] : List Keyword).length + (if ([] : List Keyword).isEmpty then 0 else 1) < 30)) = true := by rfl)
    (hline : (pa.endLine == pc.line) = true := by rfl) (hplain : (backTo pc (starEach [] X.env)).any (·.1) = false := by rfl) :
    PS X (.Expr (.Call (.Attribute (.Name x px) "append" pa) [e] [] pc) pos) (tS m W (sApp i f)) :=
  ds_app0 (pe_bm PySem.F.plainAttrs_list PySem.F.slot_list_append PySem.F.type_list_append mt_append (pe_var hN hv hd hcd) (pa_cons he pa_nil hq) hbase hfew hline hq hplain) hs
/-- ghost: a list that was the frame's own is data from here on -/
theorem dss_frz (i : Nat) (h : PSs X ss (tS m W v)) : PSs X ss (tS m W (sFrz i v)) := by
  refine PSs.imp h fun D σ H ⟨γ, B0, B, G, env, st, E, P⟩ => ?_
  unfold sFrz at P
  split at P
  · rename_i l q
    obtain ⟨G', E'⟩ := E.frz q
    exact ⟨γ, B0, B, G', _, st, E', P⟩
  · exact ⟨γ, B0, B, G, env, st, E, P⟩
theorem ds_frz (i : Nat) (h : PS X s (tS m W v)) : PS X s (tS m W (sFrz i v)) := by
  refine PS.imp h fun D σ H ⟨γ, B0, B, G, env, st, E, P⟩ => ?_
  unfold sFrz at P
  split at P
  · rename_i l q
    obtain ⟨G', E'⟩ := E.frz q
    exact ⟨γ, B0, B, G', _, st, E', P⟩
  · exact ⟨γ, B0, B, G, env, st, E, P⟩
end

/-! ### what is walked -/
structure ItIs (m : Md) (γ : Gh) (G : Hp) (J : It) (items : List D) : Prop where
  go : ∀ (G' H' : Hp) (st : Pen) (i : Nat) (d : D), Same G G' → Same G' H' → γ.tok G' H' → PenOk m γ st G' H' → items[i]? = some d → J.go i H' ∧ ∀ x H'', J.yld i H' x H'' → ∃ G'', Step γ G' H' G'' H'' ∧ PenOk m γ st G'' H'' ∧ Rep m G'' x d
  stop : ∀ (G' H' : Hp) (i : Nat), Same G G' → Same G' H' → items.length ≤ i → J.stop i H'
def tI (m : Md) (W : WX) (f : LM) : TI := fun σ H R => ∃ γ B0 B G env st, EnvOk m γ B0 B σ G H env st ∧ Post m γ G H (f env st) (fun items _ G' H' => ∀ J, ItIs m γ G' J items → R J H') fun c d H' => W c d σ H'
theorem itl_is {m : Md} {γ : Gh} {G : Hp} {a : Addr} {vs : List V} {ds : List D} (h : G a = some (.lst vs)) (r : RepL m G vs ds) : ItIs m γ G (Itl m.K a) ds := by
  refine ⟨fun G' H' st i d s1 s2 t p e => ?_, fun G' H' i s1 s2 hl => ?_⟩
  · obtain ⟨v, e1, e2⟩ := r.get e
    have q : SqL m.K H' a vs := .of (s2 _ _ (s1 _ _ h))
    refine ⟨⟨vs, v, q, e1⟩, fun x H'' ⟨y1, y2⟩ => ?_⟩
    subst y1
    have := y2 vs q
    rw [e1] at this
    cases this
    exact ⟨G', Step.refl s2 t, p, e2.same s1⟩
  · exact ⟨vs, .of (s2 _ _ (s1 _ _ h)), by rw [r.length]; exact hl⟩
theorem itt_is {m : Md} {γ : Gh} {G : Hp} {a : Addr} {vs : List V} {ds : List D} (h : SqT m.K G a vs) (r : RepL m G vs ds) : ItIs m γ G (Itt m.K a) ds := by
  refine ⟨fun G' H' st i d s1 s2 t p e => ?_, fun G' H' i s1 s2 hl => ?_⟩
  · obtain ⟨v, e1, e2⟩ := r.get e
    have q : SqT m.K H' a vs := SqT.same s2 (SqT.same s1 h)
    refine ⟨⟨vs, v, q, e1⟩, fun x H'' ⟨y1, y2⟩ => ?_⟩
    subst y1
    have := y2 vs q
    rw [e1] at this
    cases this
    exact ⟨G', Step.refl s2 t, p, e2.same s1⟩
  · exact ⟨vs, SqT.same s2 (SqT.same s1 h), by rw [r.length]; exact hl⟩
def rangeL (lo : Int) (n : Nat) : List D := (List.range n).map fun (i : Nat) => D.int (lo + (i : Int))
theorem itr_is {m : Md} {γ : Gh} {G : Hp} {lo : Int} {n : Nat} : ItIs m γ G (Itr lo n) (rangeL lo n) := by
  refine ⟨fun G' H' st i d s1 s2 t p e => ?_, fun G' H' i s1 s2 hl => ?_⟩
  · unfold rangeL at e
    rw [List.getElem?_map] at e
    by_cases h : i < n
    · rw [List.getElem?_range h] at e
      cases e
      refine ⟨h, fun x H'' ⟨y1, y2⟩ => ?_⟩
      subst y1 y2
      exact ⟨G', Step.refl s2 t, p, .int _⟩
    · rw [List.getElem?_eq_none (by rw [List.length_range]; omega)] at e; cases e
  · unfold rangeL at hl
    rw [List.length_map, List.length_range] at hl
    exact hl
section
variable {X : Cx} {m : Md} {W : WX} {tg e a b : Expr} {f : EM}
theorem PI.imp {w w' : TI} (h : PI X tg e w) (i : ∀ σ H R, w' σ H R → w σ H R) : PI X tg e w' := ⟨fun pins s σ H R I q => h.run pins s σ H R I (i _ _ _ q)⟩
theorem PI.two {w1 w2 w : TI} (h1 : PI X tg e w1) (h2 : PI X tg e w2) (i : ∀ σ H R, w σ H R → w1 σ H R ∨ w2 σ H R) : PI X tg e w :=
  ⟨fun pins s σ H R I q => (i σ H R q).elim (h1.run pins s σ H R I) (h2.run pins s σ H R I)⟩
def iSeq (f : EM) : LM := fun env => bindM (f env) seqOf
/-- for x in a list, in a tuple -/
theorem di_seq (he : PE X e (tD m W f)) (hK : X.K = m.K := by rfl) : PI X tg e (tI m W (iSeq f)) := by
  refine PI.two (pi_list he) (pi_tup he) fun σ H R ⟨γ, B0, B, G, env, st, E, P⟩ => ?_
  have P := P.bind
  cases q : f env st with
  | none => rw [q] at P; exact False.elim P
  | some r =>
    obtain ⟨r, st1⟩ := r
    cases r with
    | error x =>
      rw [q] at P
      refine .inl ⟨γ, B0, B, G, env, st, E, ?_⟩
      rw [q]
      exact P
    | ok d =>
      rw [q] at P
      cases d with
      | lst l =>
        refine .inl ⟨γ, B0, B, G, env, st, E, ?_⟩
        rw [q]
        intro G1 H1 s1 p1 v rv
        obtain ⟨a, vs, rfl, h1, h2⟩ := rv.lst_inv
        have P2 : Post m γ G1 H1 (some (.ok l, st1)) _ _ := P G1 H1 s1 p1
        refine ⟨a, rfl, ⟨vs, .of (s1.sub _ _ h1)⟩, ?_⟩
        rw [hK]
        exact P2.now s1.sub s1.tok p1 _ (itl_is h1 h2)
      | tup l =>
        refine .inr ⟨γ, B0, B, G, env, st, E, ?_⟩
        rw [q]
        intro G1 H1 s1 p1 v rv
        obtain ⟨a, vs, rfl, h1, h2⟩ := rv.tup_inv
        have P2 : Post m γ G1 H1 (some (.ok l, st1)) _ _ := P G1 H1 s1 p1
        refine ⟨a, rfl, ⟨vs, by rw [hK]; exact SqT.same s1.sub h1⟩, ?_⟩
        rw [hK]
        exact P2.now s1.sub s1.tok p1 _ (itt_is h1 h2)
      | non => refine .inl ⟨γ, B0, B, G, env, st, E, ?_⟩; rw [q]; exact fun G1 H1 s1 p1 => False.elim (P G1 H1 s1 p1)
      | bl _ => refine .inl ⟨γ, B0, B, G, env, st, E, ?_⟩; rw [q]; exact fun G1 H1 s1 p1 => False.elim (P G1 H1 s1 p1)
      | int _ => refine .inl ⟨γ, B0, B, G, env, st, E, ?_⟩; rw [q]; exact fun G1 H1 s1 p1 => False.elim (P G1 H1 s1 p1)
      | str _ => refine .inl ⟨γ, B0, B, G, env, st, E, ?_⟩; rw [q]; exact fun G1 H1 s1 p1 => False.elim (P G1 H1 s1 p1)
      | dct _ => refine .inl ⟨γ, B0, B, G, env, st, E, ?_⟩; rw [q]; exact fun G1 H1 s1 p1 => False.elim (P G1 H1 s1 p1)
      | ins _ _ => refine .inl ⟨γ, B0, B, G, env, st, E, ?_⟩; rw [q]; exact fun G1 H1 s1 p1 => False.elim (P G1 H1 s1 p1)
      | ref _ => refine .inl ⟨γ, B0, B, G, env, st, E, ?_⟩; rw [q]; exact fun G1 H1 s1 p1 => False.elim (P G1 H1 s1 p1)
def iRange : List D → M (List D)
  | [.int j] => if -(2 ^ 62) ≤ j ∧ j < 2 ^ 62 then pureM (rangeL 0 j.toNat) else failM
  | [.int i, .int j] => if -(2 ^ 62) ≤ i ∧ i < 2 ^ 62 ∧ -(2 ^ 62) ≤ j ∧ j < 2 ^ 62 then pureM (rangeL i (j - i).toNat) else failM
  | _ => failM
def iL (f : LM) : LM := fun env => bindM (f env) iRange
theorem RepL.one_inv {G : Hp} {vs : List V} {d : D} (h : RepL m G vs [d]) : ∃ v, vs = [v] ∧ Rep m G v d := by
  cases h with | cons r t => cases t; exact ⟨_, rfl, r⟩
theorem RepL.two_inv {G : Hp} {vs : List V} {d e : D} (h : RepL m G vs [d, e]) : ∃ v w, vs = [v, w] ∧ Rep m G v d ∧ Rep m G w e := by
  cases h with | cons r t => cases t with | cons r2 t2 => cases t2; exact ⟨_, _, rfl, r, r2⟩
theorem di_range1 {f : LM} {p pos : Pos} (hm : X.mg "range" = none) (ha : PA X [a] (tL m W f)) (hone : ∀ env st ds st', f env st = some (.ok ds, st') → ds.length = 1) (hg : Gl X "range" := by rfl) (hs : starEach [a] X.env = [(false, eval a X.env)] := by rfl) :
    PI X tg (.Call (.Name "range" p) [a] [] pos) (tI m W (iL f)) := by
  refine PI.imp (pi_range1 hg hm ha hs) fun σ H R ⟨γ, B0, B, G, env, st, E, P⟩ => ?_
  refine ⟨γ, B0, B, G, env, st, E, ?_⟩
  have P := P.bind
  cases q : f env st with
  | none => rw [q] at P; exact P
  | some r =>
    obtain ⟨r, st1⟩ := r
    rw [q] at P
    cases r with
    | error x => exact P
    | ok ds =>
      have hl := hone _ _ _ _ q
      match ds, hl with
      | [d], _ =>
        intro G1 H1 s1 p1 vs rvs
        obtain ⟨v, rfl, rv⟩ := rvs.one_inv
        have P1 := P G1 H1 s1 p1
        cases d with
        | int j =>
          obtain ⟨hj, P2⟩ := post_if P1
          exact ⟨j, by rw [rv.int_inv], hj.1, hj.2, P2.now s1.sub s1.tok p1 _ itr_is⟩
        | non => exact False.elim P1
        | bl _ => exact False.elim P1
        | str _ => exact False.elim P1
        | lst _ => exact False.elim P1
        | tup _ => exact False.elim P1
        | dct _ => exact False.elim P1
        | ins _ _ => exact False.elim P1
        | ref _ => exact False.elim P1
end

theorem di_range2 {X : Cx} {m : Md} {W : WX} {tg a b : Expr} {f : LM} {p pos : Pos} (hm : X.mg "range" = none) (ha : PA X [a, b] (tL m W f)) (htwo : ∀ env st ds st', f env st = some (.ok ds, st') → ds.length = 2) (hg : Gl X "range" := by rfl)
    (hs : starEach [a, b] X.env = [(false, eval a X.env), (false, eval b X.env)] := by rfl) (hs2 : starEach [b] X.env = [(false, eval b X.env)] := by rfl) : PI X tg (.Call (.Name "range" p) [a, b] [] pos) (tI m W (iL f)) := by
  refine PI.imp (pi_range2 hg hm ha hs hs2) fun σ H R ⟨γ, B0, B, G, env, st, E, P⟩ => ?_
  refine ⟨γ, B0, B, G, env, st, E, ?_⟩
  have P := P.bind
  cases q : f env st with
  | none => rw [q] at P; exact P
  | some r =>
    obtain ⟨r, st1⟩ := r
    rw [q] at P
    cases r with
    | error x => exact P
    | ok ds =>
      have hl := htwo _ _ _ _ q
      match ds, hl with
      | [d, e], _ =>
        intro G1 H1 s1 p1 vs rvs
        obtain ⟨v, w, rfl, rv, rw'⟩ := rvs.two_inv
        have P1 := P G1 H1 s1 p1
        have ex : ∃ i j, d = .int i ∧ e = .int j := by
          cases d <;> cases e <;> first | exact ⟨_, _, rfl, rfl⟩ | exact False.elim P1
        obtain ⟨i, j, rfl, rfl⟩ := ex
        obtain ⟨hj, P2⟩ := post_if P1
        exact ⟨i, j, by rw [rv.int_inv, rw'.int_inv], hj, P2.now s1.sub s1.tok p1 _ itr_is⟩
theorem lone {f : EM} : ∀ env st ds st', lCons f lNil env st = some (.ok ds, st') → ds.length = 1 := fun env st ds st' h => by
  unfold lCons bindM at h
  cases e : f env st with
  | none => rw [e] at h; cases h
  | some q =>
    obtain ⟨q, st1⟩ := q
    rw [e] at h
    cases q with
    | error x => cases h
    | ok d => cases h; rfl
theorem ltwo {f g : EM} : ∀ env st ds st', lCons f (lCons g lNil) env st = some (.ok ds, st') → ds.length = 2 := fun env st ds st' h => by
  unfold lCons bindM at h
  cases e : f env st with
  | none => rw [e] at h; cases h
  | some q =>
    obtain ⟨q, st1⟩ := q
    rw [e] at h
    cases q with
    | error x => cases h
    | ok d =>
      dsimp only at h
      cases e2 : g env st1 with
      | none => rw [e2] at h; cases h
      | some q2 =>
        obtain ⟨q2, st2⟩ := q2
        rw [e2] at h
        cases q2 with
        | error x => cases h
        | ok d2 => cases h; rfl
end DL
set_option Elab.async false
set_option linter.all false
set_option maxRecDepth 100000
/-! Dl4: loops, comprehensions, defs by data. -/
namespace DL
open PySem PySem.Spec PyProof.Rows L2

/-! ### for -/
def forD (F : D → List Sl → Option (List Sl)) (u : SM) : List D → SM
  | [], env, st => some (.ok .nx, env, st)
  | d :: ds, env, st => match F d env with
    | none => none
    | some env1 => match u env1 st with
      | some (.ok .nx, e, s) => forD F u ds e s
      | some (.ok .ct, e, s) => forD F u ds e s
      | some (.ok .bk, e, s) => some (.ok .nx, e, s)
      | r => r
def sFor (f : LM) (F : D → List Sl → Option (List Sl)) (u : SM) : SM := liftM f fun items env st => forD F u items env st
section
variable {X : Cx} {m : Md} {W : WX} {tg iter : Expr} {body : List Stmt} {f : LM} {u : SM} {pos : Pos} {F : D → List Sl → Option (List Sl)} {vs : List Nat}
theorem ds_for (hp : PassesOwn (model X.prog X.w) X.A X.env X.xe) (hc : X.calm = true) (hi : PI X tg iter (tI m W f)) (hg : PG X tg (tG m vs F)) (hb : PSs X body (tS m W u))
    (hs : ∀ x, foldedSetIterable iter X.env x = pure x := by intro _; rfl) : PS X (.For tg iter body [] pos) (tS m W (sFor f F u)) := by
  refine PS.imp (ps_for hp hc hi hg hb hs) fun Dn σ H ⟨γ, B0, B, G, env, st, E, P⟩ => ?_
  refine ⟨γ, B0, B, G, env, st, E, (P.lift E).imp fun items st1 G1 H1 s1 p1 P1 J ji => ?_⟩
  have E1 := E.step s1 p1
  have sB := E1.base
  refine ⟨fun i mm σ H => mm = items.length - i ∧ i ≤ items.length ∧ ∃ G env st, EnvOk m γ G1 B σ G H env st ∧ PostS m γ G1 B (forD F u (items.drop i) env st) Dn W, ⟨items.length, by simp, Nat.zero_le _, G1, env, st1, E1.up sB (Same.refl _), P1.up sB⟩, ?_⟩
  rintro i mm σ H ⟨rfl, hi, G, env, st, E, P⟩
  by_cases hlt : i < items.length
  · have ed : items.drop i = items[i] :: items.drop (i + 1) := List.drop_eq_getElem_cons hlt
    rw [ed] at P
    have P : PostS m γ G1 B (match F items[i] env with
      | none => none
      | some env1 => match u env1 st with
        | some (.ok .nx, e, s) => forD F u (items.drop (i + 1)) e s
        | some (.ok .ct, e, s) => forD F u (items.drop (i + 1)) e s
        | some (.ok .bk, e, s) => some (.ok .nx, e, s)
        | r => r) Dn W := P
    cases hF : F items[i] env with
    | none => rw [hF] at P; exact False.elim P
    | some env1 =>
      rw [hF] at P
      dsimp only at P
      obtain ⟨hgo, hy⟩ := ji.go G H st i items[i] E.base.gg E.sub E.tok E.pen (List.getElem?_eq_getElem hlt)
      refine .inr ⟨hgo, fun σ H => i + 1 ≤ items.length ∧ ∃ G env st, EnvOk m γ G1 B σ G H env st ∧ PostS m γ G1 B (forD F u (items.drop (i + 1)) env st) Dn W, fun σ' H' ⟨h1, h2⟩ => ⟨items.length - (i + 1), by omega, rfl, h1, h2⟩, fun x H'' y => ?_⟩
      obtain ⟨G'', s'', p'', rx⟩ := hy x H'' y
      refine ⟨γ, G1, B, G'', env, st, items[i], env1, E.step s'' p'', rx, hF, fun σ' E' _ _ => ⟨γ, G1, B, G'', env1, st, E', ?_⟩⟩
      cases hu : u env1 st with
      | none => rw [hu] at P; exact False.elim P
      | some r =>
        obtain ⟨fl, e, s⟩ := r
        rw [hu] at P
        cases fl with
        | error x => exact P
        | ok fl =>
          cases fl with
          | nx => exact fun σ2 G2 H2 E2 => ⟨hlt, G2, e, s, E2, P⟩
          | ct => exact fun σ2 G2 H2 E2 => ⟨hlt, G2, e, s, E2, P⟩
          | bk => exact P
          | ret d => exact P
  · have ed : items.drop i = [] := List.drop_eq_nil_of_le (by omega)
    rw [ed] at P
    exact .inl ⟨ji.stop G H i E.base.gg E.sub (by omega), P σ G H E⟩
/-! ### while: at most so many turns as the fuel says -/
def whileD (c : List Sl → M Bool) (u : SM) : Nat → SM
  | 0 => fun _ _ => none
  | n + 1 => liftM c fun b env st => if b = true then (match u env st with
      | some (.ok .nx, e, s) => whileD c u n e s
      | some (.ok .ct, e, s) => whileD c u n e s
      | some (.ok .bk, e, s) => some (.ok .nx, e, s)
      | r => r) else some (.ok .nx, env, st)
def sWhile (fuel : List Sl → Nat) (c : List Sl → M Bool) (u : SM) : SM := fun env st => whileD c u (fuel env) env st
theorem ds_while (fuel : List Sl → Nat) {t : Expr} {c : List Sl → M Bool} (hp : PassesOwn (model X.prog X.w) X.A X.env X.xe) (hc : PT X t (tT m W c)) (hb : PSs X body (tS m W u)) : PS X (.While t body [] pos) (tS m W (sWhile fuel c u)) := by
  refine PS.imp (ps_while hp hc hb) fun Dn σ H ⟨γ, B0, B, G, env, st, E, P⟩ => ?_
  refine ⟨fun n σ H => ∃ G env st, EnvOk m γ B0 B σ G H env st ∧ PostS m γ B0 B (whileD c u n env st) Dn W, ⟨fuel env, G, env, st, E, P⟩, ?_⟩
  rintro n σ H ⟨G, env, st, E, P⟩
  cases n with
  | zero => exact False.elim P
  | succ n =>
    refine ⟨γ, B0, B, G, env, st, E, (PostS.lift P E).imp fun b st1 G1 H1 s1 p1 P1 => ?_⟩
    have E1 := E.step s1 p1
    cases b with
    | false => exact iteF (P1 σ G1 H1 E1)
    | true =>
      refine iteT ⟨fun σ H => ∃ G env st, EnvOk m γ B0 B σ G H env st ∧ PostS m γ B0 B (whileD c u n env st) Dn W, fun σ' H' h => ⟨n, Nat.lt_succ_self n, h⟩, γ, B0, B, G1, env, st1, E1, ?_⟩
      have P1 : PostS m γ B0 B (match u env st1 with
        | some (.ok .nx, e, s) => whileD c u n e s
        | some (.ok .ct, e, s) => whileD c u n e s
        | some (.ok .bk, e, s) => some (.ok .nx, e, s)
        | r => r) Dn W := P1
      cases hu : u env st1 with
      | none => rw [hu] at P1; exact False.elim P1
      | some r =>
        obtain ⟨fl, e, s⟩ := r
        rw [hu] at P1
        cases fl with
        | error x => exact P1
        | ok fl =>
          cases fl with
          | nx => exact fun σ2 G2 H2 E2 => ⟨G2, e, s, E2, P1⟩
          | ct => exact fun σ2 G2 H2 E2 => ⟨G2, e, s, E2, P1⟩
          | bk => exact P1
          | ret d => exact P1
end

/-! ### comprehensions -/
def lcD (F : D → List Sl → Option (List Sl)) (c : List Sl → M Bool) (g : EM) (env : List Sl) : List D → M (List D)
  | [] => pureM []
  | d :: ds => match F d env with
    | none => failM
    | some env1 => bindM (noErr (c env1)) fun b => if b = true then bindM (noErr (g env1)) fun y => bindM (lcD F c g env ds) fun ys => pureM (y :: ys) else lcD F c g env ds
def lLc (vs : List Nat) (f : LM) (F : D → List Sl → Option (List Sl)) (c : List Sl → M Bool) (g : EM) : LM := fun env => bindM (f env) fun items => if items.length ≤ sizeLine then lcD F c g (wipeE env vs) items else failM
def eLc (vs : List Nat) (f : LM) (F : D → List Sl → Option (List Sl)) (c : List Sl → M Bool) (g : EM) : EM := fun env => bindM (lLc vs f F c g env) fun ys => pureM (.lst ys)
theorem wipe_in {σ : L2.St} {j : Nat} : ∀ {vs : List Nat}, j ∈ vs → (wipe σ vs)[j]? = if j < σ.length then some none else none
  | v :: vs, h => by
    show ((wipe σ vs).set v none)[j]? = _
    have hl := wipe_length σ vs
    by_cases e : v = j
    · subst e
      by_cases hv : v < σ.length
      · rw [List.getElem?_set_self (by omega), if_pos hv]
      · rw [if_neg hv, List.getElem?_eq_none (by rw [List.length_set]; omega)]
    · rw [List.getElem?_set_ne e]
      exact wipe_in ((List.mem_cons.mp h).resolve_left fun z => e z.symm)
theorem wipe_out {σ : L2.St} {j : Nat} : ∀ {vs : List Nat}, j ∉ vs → (wipe σ vs)[j]? = σ[j]?
  | [], _ => rfl
  | v :: vs, h => by
    rw [List.mem_cons, not_or] at h
    show ((wipe σ vs).set v none)[j]? = _
    rw [List.getElem?_set_ne fun z => h.1 z.symm]
    exact wipe_out h.2
theorem wipe_congr {σ σ2 : L2.St} {vs : List Nat} (hl : σ2.length = (wipe σ vs).length) (h : ∀ j, j ∉ vs → σ2[j]? = (wipe σ vs)[j]?) : wipe σ2 vs = wipe σ vs := by
  rw [wipe_length] at hl
  apply List.ext_getElem?
  intro j
  by_cases hj : j ∈ vs
  · rw [wipe_in hj, wipe_in hj, hl]
  · rw [wipe_out hj, h j hj]
section
variable {α β : Type} {m : Md} {γ : Gh} {G H G1 H1 : Hp} {W : XK}
theorem Post.bindAt {f : M α} {g : α → M β} {k : β → Pen → Hp → Hp → Prop} {st : Pen} (P : Post m γ G1 H1 (bindM f g st) k W) (s : Step γ G1 H1 G H) :
    Post m γ G H (f st) (fun a st' _ _ => Post m γ G1 H1 (g a st') k W) W := by
  unfold bindM at P
  cases e : f st with
  | none => rw [e] at P; exact P
  | some q =>
    obtain ⟨q, st1⟩ := q
    rw [e] at P
    cases q with
    | error x => exact fun cls dd G' H' s' p z => P cls dd G' H' (s.trans s') p z
    | ok a => exact fun G' H' s' p => P
end
theorem bind_assoc {α β δ : Type} (f : M α) (g : α → M β) (h : β → M δ) : bindM (bindM f g) h = bindM f fun a => bindM (g a) h := by
  funext st
  unfold bindM
  cases f st with
  | none => rfl
  | some q =>
    obtain ⟨q, st1⟩ := q
    cases q <;> rfl
section
variable {X : Cx} {m : Md} {W : WX} {f : LM} {F : D → List Sl → Option (List Sl)} {c : List Sl → M Bool} {g : EM} {vs ws : List Nat}
theorem lc_fill {σ : L2.St} {H : Hp} {Q : VK} {γ : Gh} {B0 B G : Hp} {env : List Sl} {st : Pen} (hw : ∀ j ∈ ws, j ∈ vs) (E : EnvOk m γ B0 B σ G H env st) (P : Post m γ G H (eLc vs f F c g env st) (KD m Q) fun cl dd H' => W cl dd σ H') :
    tLc (tI m W f) (tG m ws F) (tT m WF c) (tD m WF g) vs σ H Q := by
  have P : Post m γ G H (bindM (bindM (f env) fun items => if items.length ≤ sizeLine then lcD F c g (wipeE env vs) items else failM) (fun ys => pureM (.lst ys)) st) (KD m Q) fun cl dd H' => W cl dd σ H' := P
  rw [bind_assoc] at P
  refine ⟨γ, B0, B, G, env, st, E, P.bind.imp fun items st1 G1 H1 s1 p1 P1 J ji Da hDa => ?_⟩
  have hcase : items.length ≤ sizeLine ∧ Post m γ G1 H1 (bindM (lcD F c g (wipeE env vs) items) (fun ys => pureM (.lst ys)) st1) (KD m Q) fun cl dd H' => W cl dd σ H' := by
    by_cases hz : items.length ≤ sizeLine
    · rw [if_pos hz] at P1; exact ⟨hz, P1⟩
    · rw [if_neg hz] at P1; exact False.elim P1
  obtain ⟨hz, P1⟩ := hcase
  have E1 := E.step s1 p1
  have aD := p1.away hDa
  have gD1 : G1 Da = none := s1.sub.free hDa
  refine ⟨fun i mm H => mm = items.length - i ∧ i ≤ items.length ∧ ∃ (G : Hp) (st : Pen) (acc : List D), EnvOk m γ G1 B (σ ++ [some (.ref Da)]) G H (env ++ [.own acc]) st ∧ Step γ G1 H1 G H ∧ acc.length ≤ i ∧
      Post m γ G1 H1 (bindM (lcD F c g (wipeE env vs) (items.drop i)) (fun ys => pureM (.lst (acc ++ ys))) st) (KD m Q) fun cl dd H' => W cl dd σ H',
    ⟨items.length, by simp, Nat.zero_le _, G1, st1, [], (E1.up E1.base (Same.refl _)).push hDa .nil, Step.lay s1.sub s1.tok p1 hDa, Nat.le_refl _, by simpa using P1⟩, ?_⟩
  rintro i mm H ⟨rfl, hi, G, st, acc, Ex, sI, hacc, P⟩
  have E := Ex.pop
  obtain ⟨x, hx, p, accV, ep, hp, bp, gp, ap, racc⟩ := Ex.get (i := env.length) (s := .own acc) (by simp)
  rw [E.len] at hx
  simp only [List.getElem?_concat_length, Option.some.injEq] at hx
  subst hx
  simp only [Option.some.injEq, V.ref.injEq] at ep
  subst ep
  by_cases hlt : i < items.length
  · have ed : items.drop i = items[i] :: items.drop (i + 1) := List.drop_eq_getElem_cons hlt
    rw [ed] at P
    have P : Post m γ G1 H1 (bindM (match F items[i] (wipeE env vs) with
      | none => failM
      | some env1 => bindM (noErr (c env1)) fun b => if b = true then bindM (noErr (g env1)) fun y => bindM (lcD F c g (wipeE env vs) (items.drop (i + 1))) fun ys => pureM (y :: ys) else lcD F c g (wipeE env vs) (items.drop (i + 1))) (fun ys => pureM (.lst (acc ++ ys))) st) (KD m Q) fun cl dd H' => W cl dd σ H' := P
    cases hF : F items[i] (wipeE env vs) with
    | none => rw [hF] at P; exact False.elim P
    | some env1 =>
      rw [hF] at P
      dsimp only at P
      rw [bind_assoc] at P
      obtain ⟨hgo, hy⟩ := ji.go G H st i items[i] E.base.gg E.sub E.tok E.pen (List.getElem?_eq_getElem hlt)
      refine .inr ⟨hgo, fun H => i + 1 ≤ items.length ∧ ∃ (G : Hp) (st : Pen) (acc : List D), EnvOk m γ G1 B (σ ++ [some (.ref Da)]) G H (env ++ [.own acc]) st ∧ Step γ G1 H1 G H ∧ acc.length ≤ i + 1 ∧
        Post m γ G1 H1 (bindM (lcD F c g (wipeE env vs) (items.drop (i + 1))) (fun ys => pureM (.lst (acc ++ ys))) st) (KD m Q) fun cl dd H' => W cl dd σ H', fun H' ⟨h1, h2⟩ => ⟨items.length - (i + 1), by omega, rfl, h1, h2⟩, fun x H'' y => ?_⟩
      obtain ⟨G2, s2, p2, rx⟩ := hy x H'' y
      refine ⟨γ, G1, B, G2, wipeE env vs, st, items[i], env1, (E.step s2 p2).wipe vs, rx, hF, fun σ' E' k' l' => ⟨wipe_congr l' fun j hj => k' j fun z => hj (hw j z), ?_⟩⟩
      refine ⟨γ, G1, B, G2, env1, st, E', (P.bindAt (sI.trans s2)).noErr.imp fun b st3 G3 H3 s3 p3 P3 => ?_⟩
      cases b with
      | false => exact iteF ⟨hlt, G3, st3, acc, (Ex.step s2 p2).step s3 p3, (sI.trans s2).trans s3, by omega, P3⟩
      | true =>
        have P3 : Post m γ G1 H1 (bindM (bindM (noErr (g env1)) fun y => bindM (lcD F c g (wipeE env vs) (items.drop (i + 1))) fun ys => pureM (y :: ys)) (fun ys => pureM (.lst (acc ++ ys))) st3) (KD m Q) fun cl dd H' => W cl dd σ H' := P3
        rw [bind_assoc] at P3
        refine iteT ⟨γ, G1, B, G3, env1, st3, E'.step s3 p3, (P3.bindAt ((sI.trans s2).trans s3)).noErr.imp fun y st4 G4 H4 s4 p4 P4 v rv => ?_⟩
        have s24 := (s2.trans s3).trans s4
        have hp4 := s24.keep Da _ ap hp
        have gp4 := s24.new Da (by rw [hp]; intro z; cases z) gp
        have Ex4 := ((Ex.step s2 p2).step s3 p3).step s4 p4
        refine ⟨accV, hp4, by rw [racc.length]; omega, hlt, G4, st4, acc ++ [y], ?_, ?_, by rw [List.length_append]; exact Nat.succ_le_succ hacc, ?_⟩
        · have q := Ex4.upd (i := env.length) (l := acc) (l' := acc ++ [y]) (vs' := accV ++ [v]) (by simp) (by rw [E.len]; simp) hp4 bp gp4 ap ((racc.same s24.gg).append (.one rv))
          simpa using q
        · exact Step.mut (sI.trans s24) hDa gp4 ap
        · rw [bind_assoc] at P4
          have e : (fun ys : List D => bindM (pureM (y :: ys)) fun ys => pureM (D.lst (acc ++ ys))) = fun ys => (pureM (D.lst (acc ++ [y] ++ ys)) : M D) := by
            funext ys
            rw [bindM_pure, List.append_assoc, List.singleton_append]
          rw [e] at P4
          exact P4
  · have ed : items.drop i = [] := List.drop_eq_nil_of_le (by omega)
    rw [ed] at P
    refine .inl ⟨ji.stop G H i E.base.gg E.sub (by omega), ?_⟩
    have P : Post m γ G1 H1 (some (.ok (.lst (acc ++ [])), st)) (KD m Q) _ := P
    rw [List.append_nil] at P
    exact P _ _ (sI.freeze hp hDa gp) (E.pen.freeze hp ap gp) _ (.lst upd_same (racc.same fun b u e => by rw [upd_ne (ne_of_none e gp)]; exact e))
theorem dts_nil : PTs X [] (tT m W fun _ => pureM true) := by
  refine ⟨fun pins s σ H Q I h => pts_nil.run pins s σ H Q I ?_⟩
  obtain ⟨γ, B0, B, G, env, st, E, P⟩ := h
  exact P.now E.sub E.tok E.pen
theorem dts_one {e : Expr} (h : PT X e (tT m W c)) : PTs X [e] (tT m W c) := pts_one h
/-- [elt for target in iter if ..] -/
theorem de_lc {elt tg iter : Expr} {ifs : List Expr} {scope : Scope} {own : List (Str × Nat)} {pos : Pos} (hc : X.calm = true) (hN : X.N.Nodup) (hi : PI X tg iter (tI m W f)) (ok : BlkOk X.N X.env.scope scope own)
    (hg : ∀ (s : Shared) (H : Hp) (C : Addr) (cl : List (Str × Addr)) (fp : List Addr), PG (X.blk s H scope (compEnvC scope cl C X.env) fp) tg (tG m ws F)) (ht : ∀ (s : Shared) (H : Hp) (C : Addr) (cl : List (Str × Addr)) (fp : List Addr), PTs (X.blk s H scope (compEnvC scope cl C X.env) fp) ifs (tT m WF c))
    (he : ∀ (s : Shared) (H : Hp) (C : Addr) (cl : List (Str × Addr)) (fp : List Addr), PE (X.blk s H scope (compEnvC scope cl C X.env) fp) elt (tD m WF g)) (hw : ∀ j ∈ ws, j ∈ own.map (·.2) := by decide) (hs : ∀ x, foldedSetIterable iter X.env x = pure x := by intro _; rfl) :
    PE X (.ListComp elt [⟨tg, iter, ifs, 0⟩] scope pos) (tD m W (eLc (own.map (·.2)) f F c g)) :=
  PE.imp (pe_lc hc hN hi ok hg ht he hs) fun σ H Q ⟨γ, B0, B, G, env, st, E, P⟩ => lc_fill hw E P
theorem ds_setLc {i : Nat} {y : Str} {py : Pos} {elt tg iter : Expr} {ifs : List Expr} {scope : Scope} {own : List (Str × Nat)} {pos spos : Pos} (hc : X.calm = true) (hN : X.N.Nodup) (hsw : swapsWith (.ListComp elt [⟨tg, iter, ifs, 0⟩] scope pos) (some (.Name y py)) spos.line X.env = pure true) (hi : PI X tg iter (tI m W f)) (ok : BlkOk X.N X.env.scope scope own)
    (hg : ∀ (s : Shared) (H : Hp) (C : Addr) (cl : List (Str × Addr)) (fp : List Addr), PG (X.blk s H scope (compEnvC scope cl C X.env) fp) tg (tG m ws F)) (ht : ∀ (s : Shared) (H : Hp) (C : Addr) (cl : List (Str × Addr)) (fp : List Addr), PTs (X.blk s H scope (compEnvC scope cl C X.env) fp) ifs (tT m WF c))
    (he : ∀ (s : Shared) (H : Hp) (C : Addr) (cl : List (Str × Addr)) (fp : List Addr), PE (X.blk s H scope (compEnvC scope cl C X.env) fp) elt (tD m WF g)) (hy : X.N[i]? = some y := by rfl) (hyl : X.env.scope.names.lookup y = some .local := by rfl) (hw : ∀ j ∈ ws, j ∈ own.map (·.2) := by decide) (hs : ∀ x, foldedSetIterable iter X.env x = pure x := by intro _; rfl) :
    PS X (.Assign [.Name y py] (.ListComp elt [⟨tg, iter, ifs, 0⟩] scope pos) spos) (tS m W (sAsg i (eLc (own.map (·.2)) f F c g))) := by
  refine PS.imp (ps_setLc hc hN hy hyl hsw hi ok hg ht he hs) fun D σ H ⟨γ, B0, B, G, env, st, E, P⟩ => ?_
  exact lc_fill hw E ((P.lift E).imp fun d st1 G1 H1 s1 p1 P1 v rv => P1 _ G1 H1 ((E.step s1 p1).set rv))
end

/-! ### defs -/
section
variable {m : Md} {γ : Gh}
theorem start_get {N : List Str} {vs : List V} {i : Nat} : (L2.start N vs)[i]? = if i < vs.length then (vs[i]?).map some else if i < vs.length + (N.length - vs.length) then some none else none := by
  unfold L2.start
  by_cases h : i < vs.length
  · rw [if_pos h, List.getElem?_append_left (by simpa using h), List.getElem?_map]
  · rw [if_neg h, List.getElem?_append_right (by simpa using h), List.getElem?_replicate, List.length_map]
    by_cases h2 : i < vs.length + (N.length - vs.length)
    · rw [if_pos h2, if_pos (by omega)]
    · rw [if_neg h2, if_neg (by omega)]
theorem ArgsOk.at {G : Hp} : ∀ {as : List Sl} {vs : List V} {i : Nat} {s : Sl} {v : V}, ArgsOk m γ G as vs → as[i]? = some s → vs[i]? = some v → ArgOk m γ G s v
  | _, _, _, _, _, .nil, h, _ => by simp at h
  | _, _, 0, _, _, .cons a _, h1, h2 => by simp at h1 h2; subst h1; subst h2; exact a
  | _, _, i + 1, _, _, .cons _ r, h1, h2 => ArgsOk.at (i := i) r (by simpa using h1) (by simpa using h2)
theorem ArgOk.notOwn {G : Hp} : ∀ {s : Sl} {v : V}, ArgOk m γ G s v → s.isOwn = false
  | .val _, _, _ => rfl
  | .pen, _, _ => rfl
  | .no, _, _ => rfl
  | .own _, _, h => False.elim h
theorem ArgsOk.notOwn {G : Hp} : ∀ {as : List Sl} {vs : List V} {i : Nat} {s : Sl}, ArgsOk m γ G as vs → as[i]? = some s → s.isOwn = false
  | _, _, _, _, .nil, h => by simp at h
  | _, _, 0, s, .cons a _, h1 => by
    simp at h1
    subst h1
    exact ArgOk.notOwn a
  | _, _, i + 1, _, .cons _ r, h1 => ArgsOk.notOwn (i := i) r (by simpa using h1)
theorem env_start {G H : Hp} {N : List Str} {as : List Sl} {vs : List V} {st : Pen} (s : Same G H) (t : γ.tok G H) (p : PenOk m γ st G H) (a : ArgsOk m γ G as vs) : EnvOk m γ G H (L2.start N vs) G H (as ++ List.replicate (N.length - as.length) .no) st := by
  have hl := a.length
  have nowE : ∀ (i : Nat) (sl : Sl), (as ++ List.replicate (N.length - as.length) Sl.no)[i]? = some sl → (i < as.length ∧ as[i]? = some sl) ∨ sl = .no := fun i sl h => by
    by_cases hi : i < as.length
    · rw [List.getElem?_append_left hi] at h
      exact .inl ⟨hi, h⟩
    · rw [List.getElem?_append_right (by omega), List.getElem?_replicate] at h
      split at h
      · cases h; exact .inr rfl
      · cases h
  refine ⟨s, t, Step.refl s t, p, ?_, fun i sl x h1 h2 => ?_, fun i j s1 s2 x _ h1 _ o1 _ _ _ => ?_⟩
  · unfold L2.start
    simp only [List.length_append, List.length_map, List.length_replicate]
    omega
  · rcases nowE i sl h1 with ⟨hi, h⟩ | rfl
    · rw [start_get, if_pos (by omega)] at h2
      cases hv : vs[i]? with
      | none => rw [hv] at h2; cases h2
      | some v =>
        rw [hv] at h2
        cases h2
        have q := a.at h hv
        cases sl with
        | no => trivial
        | val d => exact ⟨v, rfl, q⟩
        | pen =>
          obtain ⟨p, hp, rfl⟩ := q
          exact ⟨p, hp, rfl⟩
        | own l => exact False.elim q
    · trivial
  · rcases nowE i s1 h1 with ⟨hi, h⟩ | rfl
    · rw [a.notOwn h] at o1; cases o1
    · cases o1
theorem body_fill {N : List Str} {u : SM} {vs : List V} {H : Hp} {Q : VK} {E : XK} (h : spF m (runF N.length u) vs H Q E) : tS m (fun c d _ H => E c d H) u { nx := fun _ H' => Q .non H', rt := Q } (L2.start N vs) H := by
  obtain ⟨γ, G, as, st, s, t, p, a, P⟩ := h
  refine ⟨γ, G, H, G, _, st, env_start s t p a, ?_⟩
  unfold runF at P
  cases q : u (as ++ List.replicate (N.length - as.length) .no) st with
  | none => rw [q] at P; exact P
  | some r =>
    obtain ⟨fl, env', st'⟩ := r
    rw [q] at P
    cases fl with
    | error x => exact fun σ' G' H' E' cls dd z => P cls dd G' H' E'.base E'.pen z
    | ok fl =>
      cases fl with
      | nx => exact fun σ' G' H' E' => P G' H' E'.base E'.pen .non .non
      | ret d => exact fun σ' G' H' E' v rv => P G' H' E'.base E'.pen v rv
      | bk => exact False.elim P
      | ct => exact False.elim P
/-- the promise speaks of so many arguments alone -/
def argN (n : Nat) (f : List Sl → M D) : List Sl → M D := fun as => if as.length = n then f as else failM
theorem argN_len {n : Nat} {f : List Sl → M D} {vs : List V} {H : Hp} {Q : VK} {E : XK} (h : spF m (argN n f) vs H Q E) : vs.length = n := by
  obtain ⟨γ, G, as, st, s, t, p, a, P⟩ := h
  unfold argN at P
  by_cases hl : as.length = n
  · rw [← a.length]; exact hl
  · rw [if_neg hl] at P; exact False.elim P
theorem argN_use {n : Nat} {f : List Sl → M D} {vs : List V} {H : Hp} {Q : VK} {E : XK} (h : spF m (argN n f) vs H Q E) : spF m f vs H Q E := by
  obtain ⟨γ, G, as, st, s, t, p, a, P⟩ := h
  unfold argN at P
  by_cases hl : as.length = n
  · rw [if_pos hl] at P; exact ⟨γ, G, as, st, s, t, p, a, P⟩
  · rw [if_neg hl] at P; exact False.elim P
end
end DL
set_option Elab.async false
set_option linter.all false
set_option maxRecDepth 100000
/-! Dl5: what operators and built-ins do with data. -/
namespace DL
open PySem PySem.Spec PyProof.Rows L2

/-! ### data that == and repr read -/
mutual
def D.py : D → PyData
  | .non => .none
  | .bl b => .bool b
  | .int i => .int i
  | .str s => .str s
  | .lst l => .list (D.pys l)
  | .tup l => .tuple (D.pys l)
  | .dct _ => .none
  | .ins _ _ => .none
  | .ref _ => .none
def D.pys : List D → List PyData
  | [] => []
  | d :: ds => d.py :: D.pys ds
end
mutual
def D.plain : D → Bool
  | .non => true
  | .bl _ => true
  | .int _ => true
  | .str _ => true
  | .lst l => D.plains l
  | .tup l => D.plains l
  | .dct _ => false
  | .ins _ _ => false
  | .ref _ => false
def D.plains : List D → Bool
  | [] => true
  | d :: ds => d.plain && D.plains ds
end
section
variable {m : Md} {G H : Hp}
mutual
theorem Rep.dp (e : Same G H) : ∀ {v : V} {d : D}, Rep m G v d → d.plain = true → Dp m.K H v d.py
  | _, _, .non, _ => .non
  | _, _, .bl b, _ => .bl b
  | _, _, .int i, _ => .int i
  | _, _, .str x, _ => .str x
  | _, _, .lst h r, q => .lst (.of (e _ _ h)) (RepL.dp e r (by simpa [D.plain] using q))
  | _, _, .tup h r, q => .tup (SqT.same e h) (RepL.dp e r (by simpa [D.plain] using q))
  | _, _, .dct _ _ _, q => by simp [D.plain] at q
  | _, _, .ins _ _ _ _, q => by simp [D.plain] at q
  | _, _, .ref _, q => by simp [D.plain] at q
theorem RepL.dp (e : Same G H) : ∀ {vs : List V} {ds : List D}, RepL m G vs ds → D.plains ds = true → DpAll m.K H vs (D.pys ds)
  | _, _, .nil, _ => .nil
  | _, _, .cons h r, q => by
    rw [D.plains, Bool.and_eq_true] at q
    exact .cons (Rep.dp e h q.1) (RepL.dp e r q.2)
end
end
/-- what == serves -/
def D.fit (d : D) : Bool := d.plain && SeqAt.shaped d.py
def eqD (a b : D) : Bool := PyData.eqv a.py b.py
def eqM (a b : D) : M D := if (a.fit && b.fit) = true then pureM (.bl (eqD a b)) else failM
def neM (a b : D) : M D := if (a.fit && b.fit) = true then pureM (.bl (!eqD a b)) else failM
section
variable {X : Cx} {m : Md}
theorem fit_and {a b : D} (h : (a.fit && b.fit) = true) : (a.plain = true ∧ SeqAt.shaped a.py = true) ∧ b.plain = true ∧ SeqAt.shaped b.py = true := by
  rw [Bool.and_eq_true] at h
  unfold D.fit at h
  rw [Bool.and_eq_true, Bool.and_eq_true] at h
  exact h
theorem od_eq (hu : X.A.units + 64 < cLine) (hK : X.K = m.K := by rfl) : OpD X m (compareOp .Eq) eqM := by
  refine ⟨_, op_eqD hu, fun γ st G H v w d e Q W s t p rv rw P => ?_⟩
  obtain ⟨hf, P2⟩ := post_if P
  obtain ⟨⟨a1, a2⟩, b1, b2⟩ := fit_and hf
  rw [hK]
  exact ⟨_, _, rv.dp s a1, rw.dp s b1, a2, b2, P2.now s t p _ (.bl _)⟩
theorem od_ne (hu : X.A.units + 64 < cLine) (hK : X.K = m.K := by rfl) : OpD X m (compareOp .NotEq) neM := by
  refine ⟨_, op_neD hu, fun γ st G H v w d e Q W s t p rv rw P => ?_⟩
  obtain ⟨hf, P2⟩ := post_if P
  obtain ⟨⟨a1, a2⟩, b1, b2⟩ := fit_and hf
  rw [hK]
  exact ⟨_, _, rv.dp s a1, rw.dp s b1, a2, b2, P2.now s t p _ (.bl _)⟩
end

/-! ### ints -/
def intM2 (C : Int → Int → Bool) (F : Int → Int → D) : D → D → M D := fun d e => match d, e with
  | .int i, .int j => if C i j = true then pureM (F i j) else failM
  | _, _ => failM
section
variable {X : Cx} {m : Md}
theorem ex_ints {C : Int → Int → Bool} {F : Int → Int → D} {γ : Gh} {G H : Hp} {d e : D} {st : Pen} {k : D → Pen → Hp → Hp → Prop} {W : XK} (P : Post m γ G H (intM2 C F d e st) k W) :
    ∃ i j, d = .int i ∧ e = .int j ∧ C i j = true ∧ Post m γ G H (some (.ok (F i j), st)) k W := by
  cases d <;> cases e <;> first
    | exact False.elim P
    | (rename_i i j
       obtain ⟨h1, h2⟩ := post_if P
       exact ⟨i, j, rfl, rfl, h1, h2⟩)
theorem od_int {f : Value → Value → Sem Value} {Cp : Int → Int → Prop} {g : Int → Int → V} {C : Int → Int → Bool} {F : Int → Int → D} (ho : OpR X f (rI Cp g)) (hC : ∀ i j, C i j = true → Cp i j) (hF : ∀ (G : Hp) i j, Rep m G (g i j) (F i j)) : OpD X m f (intM2 C F) := by
  refine ⟨_, ho, fun γ st G H v w d e Q W s t p rv rw P => ?_⟩
  obtain ⟨i, j, rfl, rfl, hc, P2⟩ := ex_ints P
  exact ⟨i, j, rv.int_inv, rw.int_inv, hC i j hc, P2.now s t p _ (hF G i j)⟩
theorem od_int0 {f : Value → Value → Sem Value} {g : Int → Int → V} {C : Int → Int → Bool} {F : Int → Int → D} (ho : OpR X f (rI0 g)) (hF : ∀ (G : Hp) i j, Rep m G (g i j) (F i j)) : OpD X m f (intM2 C F) := by
  refine ⟨_, ho, fun γ st G H v w d e Q W s t p rv rw P => ?_⟩
  obtain ⟨i, j, rfl, rfl, hc, P2⟩ := ex_ints P
  exact ⟨i, j, rv.int_inv, rw.int_inv, P2.now s t p _ (hF G i j)⟩
def subM : D → D → M D := intM2 (fun _ _ => true) fun i j => .int (i - j)
theorem od_sub : OpD X m (binaryOp .Sub) subM := od_int0 op_sub fun _ _ _ => .int _
def fdivM : D → D → M D := intM2 (fun _ j => decide (0 < j) && decide (j.natAbs.log2 < 9000)) fun i j => .int (i / j)
theorem od_fdiv : OpD X m (binaryOp .FloorDiv) fdivM := od_int op_fdivW (fun i j h => by
  rw [Bool.and_eq_true] at h
  exact ⟨of_decide_eq_true h.1, of_decide_eq_true h.2⟩) fun _ _ _ => .int _
def modM : D → D → M D := intM2 (fun _ j => decide (0 < j)) fun i j => .int (i % j)
theorem od_mod : OpD X m (binaryOp .Mod) modM := od_int op_mod (fun i j h => of_decide_eq_true h) fun _ _ _ => .int _
def powM : D → D → M D := intM2 (fun i j => decide (0 ≤ j) && decide (j ≤ 1000000) && decide (i.natAbs < 2 ^ 64)) fun i j => .int (i ^ j.toNat)
theorem od_pow : OpD X m (binaryOp .Pow) powM := od_int op_pow (fun i j h => by
  rw [Bool.and_eq_true, Bool.and_eq_true] at h
  exact ⟨of_decide_eq_true h.1.1, of_decide_eq_true h.1.2, of_decide_eq_true h.2⟩) fun _ _ _ => .int _
/-- ints, or texts -/
def cmpM (fi : Int → Int → Bool) (fs : Str → Str → Bool) : D → D → M D := fun d e => match d, e with
  | .int i, .int j => pureM (.bl (fi i j))
  | .str i, .str j => pureM (.bl (fs i j))
  | _, _ => failM
theorem ex_cmp {fi : Int → Int → Bool} {fs : Str → Str → Bool} {γ : Gh} {G H : Hp} {d e : D} {st : Pen} {k : D → Pen → Hp → Hp → Prop} {W : XK} (P : Post m γ G H (cmpM fi fs d e st) k W) :
    (∃ i j, d = .int i ∧ e = .int j ∧ Post m γ G H (some (.ok (.bl (fi i j)), st)) k W) ∨ ∃ i j, d = .str i ∧ e = .str j ∧ Post m γ G H (some (.ok (.bl (fs i j)), st)) k W := by
  cases d <;> cases e <;> first
    | exact False.elim P
    | exact .inl ⟨_, _, rfl, rfl, P⟩
    | exact .inr ⟨_, _, rfl, rfl, P⟩
theorem od_cmp {f : Value → Value → Sem Value} {fi : Int → Int → Bool} {fs : Str → Str → Bool} (h1 : OpR X f (rI0 fun i j => .bl (fi i j))) (h2 : OpR X f (fun x y H Q => ∃ i j, x = .str i ∧ y = .str j ∧ Q (.bl (fs i j)) H)) : OpD X m f (cmpM fi fs) := by
  refine ⟨_, h1.or h2, fun γ st G H v w d e Q W s t p rv rw P => ?_⟩
  rcases ex_cmp P with ⟨i, j, rfl, rfl, P2⟩ | ⟨i, j, rfl, rfl, P2⟩
  · exact .inl ⟨i, j, rv.int_inv, rw.int_inv, P2.now s t p _ (.bl _)⟩
  · exact .inr ⟨i, j, rv.str_inv, rw.str_inv, P2.now s t p _ (.bl _)⟩
def ltM : D → D → M D := cmpM (fun i j => decide (i < j)) fun i j => decide (i.cps.toList < j.cps.toList)
theorem od_lt : OpD X m (compareOp .Lt) ltM := od_cmp op_lt op_lt_str
def leM : D → D → M D := cmpM (fun i j => decide (i ≤ j)) fun i j => !decide (j.cps.toList < i.cps.toList)
theorem od_le : OpD X m (compareOp .LtE) leM := od_cmp op_le op_le_str
def gtM : D → D → M D := intM2 (fun _ _ => true) fun i j => .bl (decide (j < i))
theorem od_gt : OpD X m (compareOp .Gt) gtM := od_int0 op_gt fun _ _ _ => .bl _
def geM : D → D → M D := intM2 (fun _ _ => true) fun i j => .bl (decide (j ≤ i))
theorem od_ge : OpD X m (compareOp .GtE) geM := od_int0 op_ge fun _ _ _ => .bl _
def negM : D → M D
  | .int i => pureM (.int (-i))
  | _ => failM
theorem ud_neg : UnD X m (unaryOp .USub) negM := by
  refine ⟨_, un_neg, fun γ st G H v d Q W s t p rv P => ?_⟩
  cases d with
  | int i => exact ⟨i, rv.int_inv, Post.now (st := st) (a := D.int (-i)) P s t p _ (.int _)⟩
  | non => exact False.elim P
  | bl _ => exact False.elim P
  | str _ => exact False.elim P
  | lst _ => exact False.elim P
  | tup _ => exact False.elim P
  | dct _ => exact False.elim P
  | ins _ _ => exact False.elim P
  | ref _ => exact False.elim P

/-! ### + -/
def addM : D → D → M D := fun d e => match d, e with
  | .int i, .int j => pureM (.int (i + j))
  | .str i, .str j => if i.length + j.length ≤ sizeLine then pureM (.str (i ++ j)) else failM
  | .lst a, .lst b => if a.length + b.length ≤ sizeLine then pureM (.lst (a ++ b)) else failM
  | .tup a, .tup b => if a ≠ [] ∧ b ≠ [] ∧ a.length + b.length ≤ sizeLine then pureM (.tup (a ++ b)) else failM
  | _, _ => failM
theorem RepL.ne {G : Hp} {vs : List V} {ds : List D} (r : RepL m G vs ds) (h : ds ≠ []) : vs ≠ [] := fun z => by
  subst z
  cases r
  exact h rfl
theorem od_add (hK : X.K = m.K := by rfl) : OpD X m (binaryOp .Add) addM := by
  refine ⟨_, op_add.or (op_add_str.or (op_cat.or op_catT)), fun γ st G H v w d e Q W s t p rv rw P => ?_⟩
  cases d <;> cases e <;> first
    | exact False.elim P
    | skip
  · exact .inl ⟨_, _, rv.int_inv, rw.int_inv, Post.now (a := D.int _) P s t p _ (.int _)⟩
  · obtain ⟨h1, P2⟩ := post_if P
    exact .inr (.inl ⟨_, _, rv.str_inv, rw.str_inv, h1, P2.now s t p _ (.str _)⟩)
  · obtain ⟨h1, P2⟩ := post_if P
    obtain ⟨a, vs, rfl, a1, a2⟩ := rv.lst_inv
    obtain ⟨b, ws, rfl, b1, b2⟩ := rw.lst_inv
    refine .inr (.inr (.inl ⟨a, b, vs, ws, rfl, rfl, s _ _ a1, s _ _ b1, by rw [a2.length, b2.length]; exact h1, fun q hq => ?_⟩))
    have sa := Step.alloc (o := .lst (vs ++ ws)) s t p hq
    exact P2 _ _ sa (p.alloc s t hq) _ (.lst upd_same ((a2.append b2).same sa.gg))
  · obtain ⟨h1, P2⟩ := post_if P
    obtain ⟨a, vs, rfl, a1, a2⟩ := rv.tup_inv
    obtain ⟨b, ws, rfl, b1, b2⟩ := rw.tup_inv
    refine .inr (.inr (.inr ⟨a, b, vs, ws, rfl, rfl, by rw [hK]; exact SqT.same s a1, by rw [hK]; exact SqT.same s b1, a2.ne h1.1, by rw [a2.length, b2.length]; exact h1.2.2, fun z => absurd z (b2.ne h1.2.1), fun _ q hq => ?_⟩))
    have sa := Step.alloc (o := .tup (vs ++ ws)) s t p hq
    exact P2 _ _ sa (p.alloc s t hq) _ (.tup (.of upd_same) ((a2.append b2).same sa.gg))
/-- * of ints: one of them below 2^64, or both together below a million bits -/
def mulOk (i j : Int) : Bool := decide (i.natAbs.log2 + j.natAbs.log2 < 1000000) || (decide (-(2 ^ 64) < i) && decide (i < 2 ^ 64)) || (decide (-(2 ^ 64) < j) && decide (j < 2 ^ 64))
def mulM : D → D → M D := intM2 mulOk fun i j => .int (i * j)
theorem od_mul : OpD X m (binaryOp .Mult) mulM := by
  refine ⟨_, op_mulW.or op_mul, fun γ st G H v w d e Q W s t p rv rw P => ?_⟩
  obtain ⟨i, j, rfl, rfl, hc, P2⟩ := ex_ints P
  have q := P2.now s t p _ (.int _)
  unfold mulOk at hc
  rw [Bool.or_eq_true, Bool.or_eq_true, Bool.and_eq_true, Bool.and_eq_true] at hc
  rcases hc with (hc | hc) | hc
  · have hc' : i.natAbs.log2 + j.natAbs.log2 < 1000000 := of_decide_eq_true hc
    exact .inl ⟨i, j, rv.int_inv, rw.int_inv, hc', q⟩
  · exact .inr ⟨i, j, rv.int_inv, rw.int_inv, .inl ⟨of_decide_eq_true hc.1, of_decide_eq_true hc.2⟩, q⟩
  · exact .inr ⟨i, j, rv.int_inv, rw.int_inv, .inr ⟨of_decide_eq_true hc.1, of_decide_eq_true hc.2⟩, q⟩

/-! ### is -/
def isNM : D → D → M D := fun d e => match e with
  | .non => match d with
    | .non => pureM (.bl true)
    | _ => pureM (.bl false)
  | _ => failM
def notNM : D → D → M D := fun d e => match e with
  | .non => match d with
    | .non => pureM (.bl false)
    | _ => pureM (.bl true)
  | _ => failM
theorem Rep.isN {G : Hp} {v : V} {d : D} (r : Rep m G v d) : decide (v = .non) = (match d with | .non => true | _ => false) := by
  cases r <;> rfl
theorem od_isN : OpD X m (compareOp .Is) isNM := by
  refine ⟨_, op_isN, fun γ st G H v w d e Q W s t p rv rw P => ?_⟩
  cases e <;> first
    | exact False.elim P
    | skip
  refine ⟨rw.non_inv, ?_⟩
  rw [rv.isN]
  cases d <;> exact Post.now (a := D.bl _) P s t p _ (.bl _)
theorem od_notN : OpD X m (compareOp .IsNot) notNM := by
  refine ⟨_, op_notN, fun γ st G H v w d e Q W s t p rv rw P => ?_⟩
  cases e <;> first
    | exact False.elim P
    | skip
  refine ⟨rw.non_inv, ?_⟩
  rw [rv.isN]
  cases d <;> exact Post.now (a := D.bl _) P s t p _ (.bl _)
def blM2 (F : Bool → Bool → Bool) : D → D → M D := fun d e => match d, e with
  | .bl a, .bl b => pureM (.bl (F a b))
  | _, _ => failM
def isBM : D → D → M D := blM2 fun a b => decide (a = b)
def notBM : D → D → M D := blM2 fun a b => !decide (a = b)
theorem od_isB : OpD X m (compareOp .Is) isBM := by
  refine ⟨_, op_isBl, fun γ st G H v w d e Q W s t p rv rw P => ?_⟩
  cases d <;> cases e <;> first
    | exact False.elim P
    | exact ⟨_, _, rv.bl_inv, rw.bl_inv, Post.now (a := D.bl _) P s t p _ (.bl _)⟩
theorem od_notB : OpD X m (compareOp .IsNot) notBM := by
  refine ⟨_, op_notBl, fun γ st G H v w d e Q W s t p rv rw P => ?_⟩
  cases d <;> cases e <;> first
    | exact False.elim P
    | exact ⟨_, _, rv.bl_inv, rw.bl_inv, Post.now (a := D.bl _) P s t p _ (.bl _)⟩

/-! ### in -/
def D.flat : D → Bool
  | .non => true
  | .bl _ => true
  | .int _ => true
  | .str _ => true
  | _ => false
theorem Rep.flat {G : Hp} {v : V} {d : D} (r : Rep m G v d) (h : d.flat = true) : flatV v = true ∧ d.plain = true := by
  cases r <;> first
    | exact ⟨rfl, rfl⟩
    | cases h
theorem eqV_D {G : Hp} {v w : V} {d e : D} (r : Rep m G v d) (q : Rep m G w e) (hd : d.flat = true) (he : e.flat = true) : eqV v w = eqD d e := by
  cases d <;> (try (cases hd; done)) <;> cases e <;> (try (cases he; done)) <;> cases r <;> cases q <;> simp [eqV, eqD, D.py, PyData.eqv]
theorem RepL.flat {G : Hp} : ∀ {vs : List V} {ds : List D}, RepL m G vs ds → ds.all D.flat = true → vs.all flatV = true
  | _, _, .nil, _ => rfl
  | _, _, .cons r t, h => by
    rw [List.all_cons, Bool.and_eq_true] at h ⊢
    exact ⟨(r.flat h.1).1, RepL.flat t h.2⟩
theorem inV_D {G : Hp} {v : V} {d : D} (r : Rep m G v d) (hd : d.flat = true) : ∀ {vs : List V} {ds : List D}, RepL m G vs ds → ds.all D.flat = true → inV v vs = ds.any fun e => eqD e d
  | _, _, .nil, _ => rfl
  | _, _, .cons q t, h => by
    rw [List.all_cons, Bool.and_eq_true] at h
    have ih := inV_D r hd t h.2
    unfold inV at ih ⊢
    rw [List.any_cons, List.any_cons, ih, eqV_D q r h.1 hd]
/-- x in a list or tuple of flat things; a text in a text -/
def inM (F : Bool → Bool) : D → D → M D := fun d e => match e with
  | .lst l => if (d.flat && l.all D.flat) = true then pureM (.bl (F (l.any fun z => eqD z d))) else failM
  | .tup l => if (d.flat && l.all D.flat) = true then pureM (.bl (F (l.any fun z => eqD z d))) else failM
  | .str t => match d with
    | .str s => pureM (.bl (F (!(Builtin.Str.occurrences t s 0 t.length 1).isEmpty)))
    | _ => failM
  | _ => failM
def isInM : D → D → M D := inM fun b => b
def notInM : D → D → M D := inM fun b => !b
theorem od_inG {f : Value → Value → Sem Value} {F : Bool → Bool} {neg : Bool} (hF : ∀ b, F b = if neg = true then !b else b) (h1 : OpR X f (rIn m.K neg)) (h2 : OpR X f (fun x y H Q => ∃ i j, x = .str i ∧ y = .str j ∧ Q (.bl (F (!(Builtin.Str.occurrences j i 0 j.length 1).isEmpty))) H)) : OpD X m f (inM F) := by
  refine ⟨_, h1.or h2, fun γ st G H v w d e Q W s t p rv rw P => ?_⟩
  cases e <;> first
    | exact False.elim P
    | skip
  · cases d <;> first
      | exact False.elim P
      | skip
    exact .inr ⟨_, _, rv.str_inv, rw.str_inv, Post.now (a := D.bl _) P s t p _ (.bl _)⟩
  · obtain ⟨hf, P2⟩ := post_if P
    rw [Bool.and_eq_true] at hf
    obtain ⟨b, ws, rfl, b1, b2⟩ := rw.lst_inv
    refine .inl ⟨b, ws, rfl, .inl (.of (s _ _ b1)), (rv.flat hf.1).1, b2.flat hf.2, ?_⟩
    rw [inV_D rv hf.1 b2 hf.2, ← hF]
    exact P2.now s t p _ (.bl _)
  · obtain ⟨hf, P2⟩ := post_if P
    rw [Bool.and_eq_true] at hf
    obtain ⟨b, ws, rfl, b1, b2⟩ := rw.tup_inv
    refine .inl ⟨b, ws, rfl, .inr (SqT.same s b1), (rv.flat hf.1).1, b2.flat hf.2, ?_⟩
    rw [inV_D rv hf.1 b2 hf.2, ← hF]
    exact P2.now s t p _ (.bl _)
theorem od_in (hK : X.K = m.K := by rfl) : OpD X m (compareOp .In) isInM := od_inG (neg := false) (fun b => by simp) (by rw [← hK]; exact op_in_seq) op_in_str
theorem od_notIn (hK : X.K = m.K := by rfl) : OpD X m (compareOp .NotIn) notInM := od_inG (neg := true) (fun b => by simp) (by rw [← hK]; exact op_notIn_seq) op_notIn_str

/-! ### subscripts -/
def ixM : D → D → M D := fun d e => match e with
  | .int i => match d with
    | .lst l => match atI l i with
      | some x => pureM x
      | none => failM
    | .tup l => match atI l i with
      | some x => pureM x
      | none => failM
    | .str z => if z.length ≤ sizeLine then (match atI z.cps.toList i with
      | some c => pureM (.str ⟨#[c]⟩)
      | none => failM) else failM
    | _ => failM
  | _ => failM
theorem atI_rep {G : Hp} {vs : List V} {ds : List D} {i : Int} {d : D} (r : RepL m G vs ds) (h : atI ds i = some d) : ∃ v, atI vs i = some v ∧ Rep m G v d := by
  unfold atI at h ⊢
  rw [r.length]
  cases e : ixN ds.length i with
  | none => rw [e] at h; cases h
  | some j =>
    rw [e] at h
    exact r.get h
theorem post_some {α : Type} {γ : Gh} {G H : Hp} {o : Option D} {f : D → M α} {st : Pen} {k : α → Pen → Hp → Hp → Prop} {W : XK} (P : Post m γ G H ((match o with | some x => f x | none => failM) st) k W) : ∃ x, o = some x ∧ Post m γ G H (f x st) k W := by
  cases o with
  | none => exact False.elim P
  | some x => exact ⟨x, rfl, P⟩
theorem xd_ix (hK : X.K = m.K := by rfl) : IxD X m ixM := by
  refine ⟨_, ix_seq, fun γ st G H v w d e Q W s t p rv rw P => ?_⟩
  cases e <;> first
    | exact False.elim P
    | skip
  cases d <;> first
    | exact False.elim P
    | skip
  · rename_i i z
    have P : Post m γ G H ((if z.length ≤ sizeLine then (match atI z.cps.toList i with
      | some c => pureM (.str ⟨#[c]⟩)
      | none => failM) else failM) st) (KD m Q) W := P
    obtain ⟨hz, P2⟩ := post_if P
    cases hc : atI z.cps.toList i with
    | none => rw [hc] at P2; exact False.elim P2
    | some c =>
      rw [hc] at P2
      exact .inr (.inr ⟨z, i, c, rv.str_inv, rw.int_inv, hz, hc, Post.now (a := D.str _) P2 s t p _ (.str _)⟩)
  · rename_i i l
    obtain ⟨x, hx, P2⟩ := post_some (o := atI l i) P
    obtain ⟨a, vs, rfl, a1, a2⟩ := rv.lst_inv
    obtain ⟨u, h1, h2⟩ := atI_rep a2 hx
    exact .inl ⟨a, vs, i, u, rfl, rw.int_inv, .of (s _ _ a1), h1, Post.now (a := x) P2 s t p _ h2⟩
  · rename_i i l
    obtain ⟨x, hx, P2⟩ := post_some (o := atI l i) P
    obtain ⟨a, vs, rfl, a1, a2⟩ := rv.tup_inv
    obtain ⟨u, h1, h2⟩ := atI_rep a2 hx
    exact .inr (.inl ⟨a, vs, i, u, rfl, rw.int_inv, by rw [hK]; exact SqT.same s a1, h1, Post.now (a := x) P2 s t p _ h2⟩)
/-- a[lo:hi] of a list -/
def cutD (ds : List D) (lo hi : Option Int) : List D := (ds.drop (HT.sIx ds.length 0 lo)).take (HT.sIx ds.length ds.length hi - HT.sIx ds.length 0 lo)
abbrev OM := List Sl → M (Option Int)
def oNone : OM := fun _ => pureM none
def oSome (f : EM) : OM := fun env => bindM (f env) fun d => match d with
  | .int i => pureM (some i)
  | _ => failM
def tOD (m : Md) (W : WX) (f : OM) : TO := fun σ H Q => ∃ γ B0 B G env st, EnvOk m γ B0 B σ G H env st ∧ Post m γ G H (f env st) (fun o _ _ H' => Q o H') fun c d H' => W c d σ H'
theorem PO.imp {e : Option Expr} {t t' : TO} (h : PO X e t) (w : ∀ σ H Q, t' σ H Q → t σ H Q) : PO X e t' := ⟨fun pins s σ H Q I q => h.run pins s σ H Q I (w _ _ _ q)⟩
theorem do_none {W : WX} : PO X none (tOD m W oNone) := PO.imp po_none fun σ H Q ⟨γ, B0, B, G, env, st, E, P⟩ => P.now E.sub E.tok E.pen
theorem do_some {W : WX} {e : Expr} {f : EM} (h : PE X e (tD m W f)) : PO X (some e) (tOD m W (oSome f)) := by
  refine PO.imp (po_some h) fun σ H Q ⟨γ, B0, B, G, env, st, E, P⟩ => ?_
  refine ⟨γ, B0, B, G, env, st, E, P.bind.imp fun d st1 G1 H1 s1 p1 P1 v rv => ?_⟩
  cases d <;> first
    | exact False.elim P1
    | exact ⟨_, rv.int_inv, Post.now (a := some _) P1 s1.sub s1.tok p1⟩
def eSlL (f : EM) (lo hi : OM) : EM := fun env => bindM (f env) fun d => bindM (lo env) fun i => bindM (hi env) fun j => match d with
  | .lst l => pureM (.lst (cutD l i j))
  | _ => failM
theorem RepL.cut {G : Hp} {vs : List V} {ds : List D} (r : RepL m G vs ds) (lo hi : Option Int) : RepL m G (cutV vs lo hi) (cutD ds lo hi) := by
  unfold cutV cutD
  rw [r.length]
  exact (r.drop _).take _
theorem de_sliceL {W : WX} {e : Expr} {f : EM} {lo hi : Option Expr} {fl fh : OM} {p2 pos : Pos} (he : PE X e (tD m W f)) (hl : PO X lo (tOD m W fl)) (hh : PO X hi (tOD m W fh)) : PE X (.Subscript e (.Slice lo hi none p2) pos) (tD m W (eSlL f fl fh)) := by
  refine PE.imp (pe_slice sl_list he hl hh) fun σ H Q ⟨γ, B0, B, G, env, st, E, P⟩ => ?_
  refine ⟨γ, B0, B, G, env, st, E, P.bind.imp fun d st1 G1 H1 s1 p1 P1 v rv => ?_⟩
  refine ⟨γ, B0, B, G1, env, st1, E.step s1 p1, P1.bind.imp fun i st2 G2 H2 s2 p2 P2 => ?_⟩
  refine ⟨γ, B0, B, G2, env, st2, (E.step s1 p1).step s2 p2, P2.bind.imp fun j st3 G3 H3 s3 p3 P3 => ?_⟩
  cases d <;> first
    | exact False.elim P3
    | skip
  obtain ⟨a, vs, rfl, a1, a2⟩ := (rv.same (s2.trans s3).gg).lst_inv
  refine ⟨a, vs, rfl, .of (s3.sub _ _ a1), fun q hq => ?_⟩
  have sa := Step.alloc (o := .lst (cutV vs i j)) s3.sub s3.tok p3 hq
  exact P3 _ _ sa (p3.alloc s3.sub s3.tok hq) _ (.lst upd_same ((a2.cut i j).same sa.gg))

/-! ### built-ins -/
def lenM : List D → M D := fun ds => match ds with
  | [.lst l] => pureM (.int l.length)
  | [.tup l] => pureM (.int l.length)
  | [.str z] => if z.length ≤ sizeLine then pureM (.int z.length) else failM
  | _ => failM
theorem one_of {α : Type} {γ : Gh} {G H : Hp} {ds : List D} {f : D → M α} {st : Pen} {k : α → Pen → Hp → Hp → Prop} {W : XK} (P : Post m γ G H ((match ds with | [d] => f d | _ => failM) st) k W) : ∃ d, ds = [d] ∧ Post m γ G H (f d st) k W := by
  match ds, P with
  | [d], P => exact ⟨d, rfl, P⟩
theorem cd_len (hK : X.K = m.K := by rfl) : CallD X m (.builtin "len") lenM := by
  refine ⟨_, call_len_seq.or call_len_str, fun γ st G H vs ds Q W s t p rv P => ?_⟩
  match ds, P with
  | [.lst l], P =>
    obtain ⟨v, rfl, r⟩ := rv.one_inv
    obtain ⟨a, vs, rfl, a1, a2⟩ := r.lst_inv
    refine .inl ⟨a, vs, rfl, .inl (.of (s _ _ a1)), ?_⟩
    rw [a2.length]
    exact Post.now (a := D.int _) P s t p _ (.int _)
  | [.tup l], P =>
    obtain ⟨v, rfl, r⟩ := rv.one_inv
    obtain ⟨a, vs, rfl, a1, a2⟩ := r.tup_inv
    refine .inl ⟨a, vs, rfl, .inr (by rw [hK]; exact SqT.same s a1), ?_⟩
    rw [a2.length]
    exact Post.now (a := D.int _) P s t p _ (.int _)
  | [.str z], P =>
    obtain ⟨v, rfl, r⟩ := rv.one_inv
    obtain ⟨h1, P2⟩ := post_if P
    exact .inr ⟨z, by rw [r.str_inv], h1, P2.now s t p _ (.int _)⟩
def absM : List D → M D := fun ds => match ds with
  | [.int i] => pureM (.int (if i < 0 then -i else i))
  | _ => failM
theorem cd_abs : CallD X m (.builtin "abs") absM := by
  refine ⟨_, call_abs, fun γ st G H vs ds Q W s t p rv P => ?_⟩
  match ds, P with
  | [.int i], P =>
    obtain ⟨v, rfl, r⟩ := rv.one_inv
    exact ⟨i, by rw [r.int_inv], Post.now (a := D.int _) P s t p _ (.int _)⟩
def toIntM : List D → M D := fun ds => match ds with
  | [.int i] => pureM (.int i)
  | [.bl b] => pureM (.int (if b then 1 else 0))
  | _ => failM
theorem cd_int : CallD X m (.type "int") toIntM := by
  refine ⟨_, call_int1, fun γ st G H vs ds Q W s t p rv P => ?_⟩
  match ds, P with
  | [.int i], P =>
    obtain ⟨v, rfl, r⟩ := rv.one_inv
    exact .inl ⟨i, by rw [r.int_inv], Post.now (a := D.int _) P s t p _ (.int _)⟩
  | [.bl b], P =>
    obtain ⟨v, rfl, r⟩ := rv.one_inv
    exact .inr ⟨b, by rw [r.bl_inv], Post.now (a := D.int _) P s t p _ (.int _)⟩
def gcdM : List D → M D := fun ds => match ds with
  | [.int i, .int j] => pureM (.int ((Nat.gcd i.natAbs j.natAbs : Nat) : Int))
  | _ => failM
theorem cd_gcd : CallD X m (.builtin "math.gcd") gcdM := by
  refine ⟨_, cr_gcd, fun γ st G H vs ds Q W s t p rv P => ?_⟩
  match ds, P with
  | [.int i, .int j], P =>
    obtain ⟨v, w, rfl, r, r2⟩ := rv.two_inv
    exact ⟨i, j, by rw [r.int_inv, r2.int_inv], Post.now (a := D.int _) P s t p _ (.int _)⟩
def listM : List D → M D := fun ds => match ds with
  | [.lst l] => pureM (.lst l)
  | [.tup l] => pureM (.lst l)
  | _ => failM
theorem cd_list (hK : X.K = m.K := by rfl) : CallD X m (.type "list") listM := by
  refine ⟨_, call_list_of, fun γ st G H vs ds Q W s t p rv P => ?_⟩
  match ds, P with
  | [.lst l], P =>
    obtain ⟨v, rfl, r⟩ := rv.one_inv
    obtain ⟨a, vs, rfl, a1, a2⟩ := r.lst_inv
    refine ⟨a, vs, rfl, .inl (.of (s _ _ a1)), fun q hq => ?_⟩
    have sa := Step.alloc (o := .lst vs) s t p hq
    exact P _ _ sa (p.alloc s t hq) _ (.lst upd_same (a2.same sa.gg))
  | [.tup l], P =>
    obtain ⟨v, rfl, r⟩ := rv.one_inv
    obtain ⟨a, vs, rfl, a1, a2⟩ := r.tup_inv
    refine ⟨a, vs, rfl, .inr (by rw [hK]; exact SqT.same s a1), fun q hq => ?_⟩
    have sa := Step.alloc (o := .lst vs) s t p hq
    exact P _ _ sa (p.alloc s t hq) _ (.lst upd_same (a2.same sa.gg))
def tupleM : List D → M D := fun ds => match ds with
  | [.lst l] => pureM (.tup l)
  | [.tup l] => pureM (.tup l)
  | _ => failM
theorem cd_tuple (hK : X.K = m.K := by rfl) : CallD X m (.type "tuple") tupleM := by
  refine ⟨_, call_tuple_of, fun γ st G H vs ds Q W s t p rv P => ?_⟩
  match ds, P with
  | [.lst l], P =>
    obtain ⟨v, rfl, r⟩ := rv.one_inv
    obtain ⟨a, vs, rfl, a1, a2⟩ := r.lst_inv
    refine ⟨a, vs, rfl, .inl ⟨.of (s _ _ a1), fun q hq => ?_⟩⟩
    have sa := Step.alloc (o := .tup vs) s t p hq
    exact P _ _ sa (p.alloc s t hq) _ (.tup (.of upd_same) (a2.same sa.gg))
  | [.tup l], P =>
    obtain ⟨v, rfl, r⟩ := rv.one_inv
    obtain ⟨a, vs, rfl, a1, a2⟩ := r.tup_inv
    exact ⟨a, vs, rfl, .inr ⟨by rw [hK]; exact SqT.same s a1, Post.now (a := D.tup l) P s t p _ (.tup a1 a2)⟩⟩
def bools : List D → Option (List Bool)
  | [] => some []
  | .bl b :: r => (bools r).map (b :: ·)
  | _ => none
theorem RepL.bools {G : Hp} : ∀ {vs : List V} {ds : List D} {bs : List Bool}, RepL m G vs ds → DL.bools ds = some bs → vs = bs.map .bl
  | _, [], bs, r, h => by
    cases r
    cases h
    rfl
  | _, .bl b :: ds, bs, r, h => by
    unfold DL.bools at h
    cases e : DL.bools ds with
    | none => rw [e] at h; cases h
    | some cs =>
      rw [e] at h
      cases h
      cases r with
      | cons r1 t => rw [r1.bl_inv, RepL.bools t e]; rfl
def allM (F : List Bool → Bool) : List D → M D := fun ds => match ds with
  | [.lst l] => match bools l with
    | some bs => pureM (.bl (F bs))
    | none => failM
  | _ => failM
def allTM : List D → M D := allM fun bs => bs.all id
def anyTM : List D → M D := allM fun bs => bs.any id
theorem cd_allG {f : Value} {F : List Bool → Bool} (h : CallR X f fun vs H Q => ∃ (a : Addr) (bs : List Bool), vs = [V.ref a] ∧ SqL m.K H a (bs.map V.bl) ∧ Q (.bl (F bs)) H) : CallD X m f (allM F) := by
  refine ⟨_, h, fun γ st G H vs ds Q W s t p rv P => ?_⟩
  match ds, P with
  | [.lst l], P =>
    obtain ⟨v, rfl, r⟩ := rv.one_inv
    obtain ⟨a, vs, rfl, a1, a2⟩ := r.lst_inv
    have P : Post m γ G H (((match bools l with
      | some bs => pureM (D.bl (F bs))
      | none => failM) : M D) st) (KD m Q) W := P
    cases e : bools l with
    | none => rw [e] at P; exact False.elim P
    | some bs =>
      rw [e] at P
      have eb := a2.bools e
      subst eb
      exact ⟨a, bs, rfl, .of (s _ _ a1), Post.now (a := D.bl (F bs)) (k := KD m Q) P s t p _ (.bl _)⟩
theorem cd_all (hc : X.calm = true) (hK : X.K = m.K := by rfl) : CallD X m (.builtin "all") allTM := cd_allG (by rw [← hK]; exact cr_all hc)
theorem cd_any (hc : X.calm = true) (hK : X.K = m.K := by rfl) : CallD X m (.builtin "any") anyTM := cd_allG (by rw [← hK]; exact cr_any hc)
/-- repr of data -/
def D.shows (d : D) : Bool := d.plain && d.py.showable && !d.py.hasDict && decide (d.py.shown.length ≤ sizeLine) && decide (d.py.depth ≤ 64)
def reprM : List D → M D := fun ds => match ds with
  | [d] => if d.shows = true then pureM (.str d.py.shown) else failM
  | _ => failM
theorem cr_reprD (hg : X.A.guards = some []) (hu : X.A.units + 70 < cLine) : CallR X (.builtin "repr") fun xs H Q => ∃ x d, xs = [x] ∧ Dp X.K H x d ∧ d.showable = true ∧ d.hasDict = false ∧ d.shown.length ≤ sizeLine ∧ d.depth ≤ 64 ∧ Q (.str d.shown) H := by
  intro pins s σ H xs us Q I r h
  obtain ⟨x, d, rfl, hd, h1, h2, h3, h4, q⟩ := h
  cases r with
  | cons rx rn =>
    cases rn
    obtain ⟨as, rd⟩ := Dp.reads I d x _ hd rx
    cases rd with
    | none => exact PySem.P.repr_of_none ⟨.str _, H, I.tok _, ⟨_, rfl⟩, q⟩
    | bool b => exact PySem.P.repr_of_bool ⟨.str _, H, I.tok _, ⟨_, rfl⟩, q⟩
    | int i t => exact PySem.P.repr_of_int (by simpa [PyData.showable] using h1) ⟨.str _, H, I.tok _, ⟨_, rfl⟩, q⟩
    | str y t => exact PySem.P.repr_of_str ⟨.str _, H, I.tok _, ⟨_, rfl⟩, q⟩ (by simpa [PyData.shown] using h3)
    | list a1 a2 a3 a4 =>
      refine repr_of_reads' (.list a1 a2 a3 a4) h1 (PyData.noDict_hsm h2) hg (by omega) (fun _ _ e => e) (fun h' u tk k => ?_) h3
      exact ⟨.str _, H, I.kept k, ⟨_, rfl⟩, q⟩
    | tuple a1 a2 a3 a4 =>
      refine repr_of_reads' (.tuple a1 a2 a3 a4) h1 (PyData.noDict_hsm h2) hg (by omega) (fun _ _ e => e) (fun h' u tk k => ?_) h3
      exact ⟨.str _, H, I.kept k, ⟨_, rfl⟩, q⟩
    | dict _ _ _ _ _ => cases h2
theorem cd_repr (hg : X.A.guards = some []) (hu : X.A.units + 70 < cLine) (hK : X.K = m.K := by rfl) : CallD X m (.builtin "repr") reprM := by
  refine ⟨_, cr_reprD hg hu, fun γ st G H vs ds Q W s t p rv P => ?_⟩
  match ds, P with
  | [d], P =>
    obtain ⟨v, rfl, r⟩ := rv.one_inv
    obtain ⟨hf, P2⟩ := post_if P
    unfold D.shows at hf
    rw [Bool.and_eq_true, Bool.and_eq_true, Bool.and_eq_true, Bool.and_eq_true] at hf
    obtain ⟨⟨⟨⟨f1, f2⟩, f3⟩, f4⟩, f5⟩ := hf
    exact ⟨v, d.py, rfl, by rw [hK]; exact r.dp s f1, f2, by simpa using f3, of_decide_eq_true f4, of_decide_eq_true f5, P2.now s t p _ (.str _)⟩

/-! ### isinstance -/
def tyName : D → Option String
  | .non => some "NoneType"
  | .bl _ => some "bool"
  | .int _ => some "int"
  | .str _ => some "str"
  | .lst _ => some "list"
  | .tup _ => some "tuple"
  | .dct _ => some "dict"
  | .ins _ _ => none
  | .ref _ => none
theorem tupTy {H : Hp} {a : Addr} {xs : List V} (h : SqT m.K H a xs) : TyX m.K H (.ref a) (.type "tuple") := by
  rcases h with (h | ⟨o, h⟩) | ⟨o, its, n, h, c, _⟩
  · exact .base (.tup h)
  · exact .fTuple h
  · exact .kTuple h c
theorem Rep.ty {G H : Hp} {v : V} {d : D} {n : String} (s : Same G H) (r : Rep m G v d) (h : tyName d = some n) : TyX m.K H v (.type n) := by
  cases r with
  | non => cases h; exact .base .non
  | bl b => cases h; exact .base (.bl b)
  | int i => cases h; exact .base (.int i)
  | str x => cases h; exact .base (.str x)
  | lst e _ => cases h; exact .base (.lst (s _ _ e))
  | tup e _ => cases h; exact tupTy (SqT.same s e)
  | dct e _ _ => cases h; exact .base (.dK (s _ _ e))
  | ins _ _ _ _ => cases h
  | ref _ => cases h
def kitAnyB (n : String) : List String → Option Bool
  | [] => some false
  | c :: cs => match kitB n c with
    | none => none
    | some true => some true
    | some false => kitAnyB n cs
theorem kitAny_of {K : PySem.W.Frag} {n : String} : ∀ {cs : List String} {b : Bool}, kitAnyB n cs = some b → PySem.W.kitAny K (.type n) (cs.map Value.type) = some b
  | [], _, h => by cases h; rfl
  | c :: cs, b, h => by
    unfold kitAnyB at h
    cases e : kitB n c with
    | none => rw [e] at h; cases h
    | some k =>
      rw [e] at h
      cases k with
      | true =>
        cases h
        exact kitAny_cons (b := true) (kit_ty e) (fun z => by cases z) fun _ => rfl
      | false => exact kitAny_cons (b := false) (kit_ty e) (fun _ => kitAny_of h) fun z => by cases z
/-- isinstance(x, T), isinstance(x, (T, ..)), the types built in -/
def eIsi (cs : List String) (f : EM) : EM := fun env => bindM (f env) fun d => match tyName d with
  | none => failM
  | some n => match kitAnyB n cs with
    | none => failM
    | some b => pureM (.bl b)
theorem isi_post {γ : Gh} {G H : Hp} {d : D} {cs : List String} {st : Pen} {k : D → Pen → Hp → Hp → Prop} {W : XK} (P : Post m γ G H (((match tyName d with
  | none => failM
  | some n => match kitAnyB n cs with
    | none => failM
    | some b => pureM (D.bl b)) : M D) st) k W) : ∃ n b, tyName d = some n ∧ kitAnyB n cs = some b ∧ Post m γ G H (some (.ok (.bl b), st)) k W := by
  cases e : tyName d with
  | none => rw [e] at P; exact False.elim P
  | some n =>
    rw [e] at P
    dsimp only at P
    cases e2 : kitAnyB n cs with
    | none => rw [e2] at P; exact False.elim P
    | some b => rw [e2] at P; exact ⟨n, b, rfl, e2, P⟩
theorem kitOne_of {K : PySem.W.Frag} {n c : String} {b : Bool} (h : kitAnyB n [c] = some b) : PySem.W.kitOne K (.type n) (.type c) = some b := by
  unfold kitAnyB at h
  cases e : kitB n c with
  | none => rw [e] at h; cases h
  | some k =>
    rw [e] at h
    cases k with
    | true => cases h; exact kit_ty e
    | false => cases h; exact kit_ty e
theorem de_isi {W : WX} {a b : Expr} {c : String} {f : EM} {p pos : Pos} (hm : X.mg "isinstance" = none) (ha : PE X a (tD m W f)) (hb : PE X b (tC (.ty c))) (hK : X.K = m.K := by rfl) (hg : Gl X "isinstance" := by rfl)
    (hs : starEach (a :: [b]) X.env = (false, eval a X.env) :: starEach [b] X.env := by rfl) (hs2 : starEach (b :: []) X.env = (false, eval b X.env) :: starEach [] X.env := by rfl) (hpl : (backTo pos (starEach [b] X.env)).any (·.1) = false := by rfl) :
    PE X (.Call (.Name "isinstance" p) [a, b] [] pos) (tD m W (eIsi [c] f)) := by
  refine PE.imp (pe_callB call_isi hg hm boot_isinstance (pa_cons ha (pa_cons hb pa_nil hs2) hs) (by decide) (by decide) hs hpl) fun σ H Q ⟨γ, B0, B, G, env, st, E, P⟩ => ?_
  refine ⟨γ, B0, B, G, env, st, E, P.bind.imp fun d st1 G1 H1 s1 p1 P1 v rv => ?_⟩
  obtain ⟨n, k, e1, e2, P2⟩ := isi_post P1
  refine ⟨v, .ty c, .type n, .type c, k, rfl, .ty c, by rw [hK]; exact rv.ty s1.sub e1, kitOne_of e2, P2.now s1.sub s1.tok p1 _ (.bl _)⟩
/-- the types of a written tuple -/
inductive TyEs (X : Cx) : List Expr → List String → Prop
  | nil : TyEs X [] []
  | cons {e : Expr} {es : List Expr} {c : String} {cs : List String} : PE X e (tC (.ty c)) → TyEs X es cs → starEach (e :: es) X.env = (false, eval e X.env) :: starEach es X.env → TyEs X (e :: es) (c :: cs)
theorem TyEs.pa : ∀ {es : List Expr} {cs : List String}, TyEs X es cs → PA X es fun _ H Q => Q (cs.map V.ty) H
  | _, _, .nil => pa_nil
  | _, _, .cons h t hs => PA.imp (pa_cons h t.pa hs) fun σ H Q q => q
theorem paired_ty : ∀ cs : List String, Paired ClsV (cs.map V.ty) (cs.map Value.type)
  | [] => .nil
  | c :: cs => .cons (.ty c) (paired_ty cs)
theorem de_isiT {W : WX} {a : Expr} {es : List Expr} {cs : List String} {f : EM} {p pos pt : Pos} {kt} (hm : X.mg "isinstance" = none) (ha : PE X a (tD m W f)) (hb : TyEs X es cs) (hz : cs.length ≤ sizeLine := by decide) (hK : X.K = m.K := by rfl) (hg : Gl X "isinstance" := by rfl)
    (hs : starEach (a :: [.Tuple es kt pt]) X.env = (false, eval a X.env) :: starEach [.Tuple es kt pt] X.env := by rfl) (hs2 : starEach (.Tuple es kt pt :: []) X.env = (false, eval (.Tuple es kt pt) X.env) :: starEach [] X.env := by rfl) (hpl : (backTo pos (starEach [.Tuple es kt pt] X.env)).any (·.1) = false := by rfl) :
    PE X (.Call (.Name "isinstance" p) [a, .Tuple es kt pt] [] pos) (tD m W (eIsi cs f)) := by
  refine PE.imp (pe_callB call_isiT hg hm boot_isinstance (pa_cons ha (pa_cons (pe_tup hb.pa) pa_nil hs2) hs) (by decide) (by decide) hs hpl) fun σ H Q ⟨γ, B0, B, G, env, st, E, P⟩ => ?_
  refine ⟨γ, B0, B, G, env, st, E, P.bind.imp fun d st1 G1 H1 s1 p1 P1 v rv => ?_⟩
  obtain ⟨n, k, e1, e2, P2⟩ := isi_post P1
  refine ⟨by rw [List.length_map]; exact hz, fun q hq => ?_⟩
  have sl := Step.lay (o := .tup (cs.map V.ty)) s1.sub s1.tok p1 hq
  exact ⟨v, q, cs.map V.ty, .type n, cs.map Value.type, k, rfl, upd_same, paired_ty cs, by rw [hK]; exact rv.ty sl.sub e1, kitAny_of e2, P2 _ _ sl (p1.lay s1.sub s1.tok hq) _ (.bl _)⟩
end
end DL
set_option Elab.async false
set_option linter.all false
set_option maxRecDepth 100000
/-! Dl6: chains of comparisons, the pen, keyword calls, defs of the text, the law's end. -/
namespace DL
open PySem PySem.Spec PyProof.Rows L2

section
variable {X : Cx} {m : Md} {W : WX} {a b c e : Expr} {es : List Expr} {f g h : EM} {pos : Pos}
/-! ### a < b < c -/
def eChain (F F' : D → D → M D) (f g h : EM) : EM := fun env => bindM (f env) fun x => bindM (g env) fun y => bindM (F x y) fun z => bindM (asB z) fun k => if k = true then bindM (h env) fun w => F' y w else pureM (.bl false)
theorem chain_fill {op op' : CmpOp} {F F' : D → D → M D} {r r' : R2} {σ : L2.St} {H : Hp} {Q : VK}
    (h2 : ∀ (γ : Gh) (st : Pen) (G H : Hp) (v w : V) (d e : D) (Q : VK) (W : XK), Same G H → γ.tok G H → PenOk m γ st G H → Rep m G v d → Rep m G w e → Post m γ G H (F d e st) (KD m Q) W → r v w H Q)
    (h4 : ∀ (γ : Gh) (st : Pen) (G H : Hp) (v w : V) (d e : D) (Q : VK) (W : XK), Same G H → γ.tok G H → PenOk m γ st G H → Rep m G v d → Rep m G w e → Post m γ G H (F' d e st) (KD m Q) W → r' v w H Q)
    (z : tD m W (eChain F F' f g h) σ H Q) : tChain r r' (tD m W f) (tD m W g) (tD m W h) σ H Q := by
  obtain ⟨γ, B0, B, G, env, st, E, P⟩ := z
  refine ⟨γ, B0, B, G, env, st, E, P.bind.imp fun x st1 G1 H1 s1 p1 P1 v rv => ?_⟩
  refine ⟨γ, B0, B, G1, env, st1, E.step s1 p1, P1.bind.imp fun y st2 G2 H2 s2 p2 P2 w rw => ?_⟩
  refine h2 γ st2 G2 H2 v w x y _ _ s2.sub s2.tok p2 (rv.same s2.gg) rw (P2.bind.imp fun z st3 G3 H3 s3 p3 P3 u ru => ?_)
  obtain ⟨k, rfl, P4⟩ := asB_bind P3
  refine ⟨k, ru.bl_inv, ?_⟩
  cases k with
  | false => exact iteF (P4.now s3.sub s3.tok p3 _ (.bl false))
  | true =>
    refine iteT ⟨γ, B0, B, G3, env, st3, ((E.step s1 p1).step s2 p2).step s3 p3, (Post.bind P4).imp fun t st5 G5 H5 s5 p5 P5 u2 r2 => ?_⟩
    exact h4 γ st5 G5 H5 w u2 y t Q _ s5.sub s5.tok p5 (rw.same (s3.trans s5).gg) r2 P5
theorem de_chain {op op' : CmpOp} {F F' : D → D → M D} (ho : OpD X m (compareOp op) F) (ho' : OpD X m (compareOp op') F') (ha : PE X a (tD m W f)) (hb : PE X b (tD m W g)) (hc : PE X c (tD m W h)) (hm : lastMarks [op, op'] [b, c] = false) : PE X (.Compare a [op, op'] [b, c] pos) (tD m W (eChain F F' f g h)) := by
  obtain ⟨r, h1, h2⟩ := ho
  obtain ⟨r', h3, h4⟩ := ho'
  exact PE.imp (pe_chain h1 h3 ha hb hc hm) fun σ H Q z => chain_fill (op := op) (op' := op') h2 h4 z
theorem dt_chain {op op' : CmpOp} {F F' : D → D → M D} (ho : OpD X m (compareOp op) F) (ho' : OpD X m (compareOp op') F') (ha : PE X a (tD m W f)) (hb : PE X b (tD m W g)) (hc : PE X c (tD m W h)) (hm : lastMarks [op, op'] [b, c] = false) : PT X (.Compare a [op, op'] [b, c] pos) (tT m W (eB (eChain F F' f g h))) := by
  obtain ⟨r, h1, h2⟩ := ho
  obtain ⟨r', h3, h4⟩ := ho'
  exact dt_of (pt_chain h1 h3 ha hb hc hm) fun σ H Q z => chain_fill (op := op) (op' := op') h2 h4 z

/-! ### the pen -/
def Pen.at' (st : Pen) : Nat → Option D
  | 0 => some (.lst (st.cells.map .int))
  | 1 => some (.int st.at_)
  | 2 => some (.int st.left)
  | _ => none
/-- pen[k] -/
def ePen (i k : Nat) : EM := fun env st => match env[i]? with
  | some .pen => match st.at' k with
    | some d => some (.ok d, st)
    | none => none
  | _ => none
theorem repL_ints {G : Hp} : ∀ ns : List Int, RepL m G (ns.map .int) (ns.map .int)
  | [] => .nil
  | n :: ns => .cons (.int n) (repL_ints ns)
theorem EnvOk.pen_at {γ : Gh} {B0 B G H : Hp} {σ : L2.St} {env : List Sl} {st : Pen} {i : Nat} (E : EnvOk m γ B0 B σ G H env st) (h : env[i]? = some .pen) :
    ∃ p q, γ.pa = some p ∧ σ[i]? = some (some (.ref p)) ∧ H p = some (.lst [.ref q, .int st.at_, .int st.left]) ∧ G q = some (.lst (st.cells.map .int)) ∧ G p = none := by
  obtain ⟨x, h1, p, hp, rfl⟩ := E.get h
  obtain ⟨g, q, a, b⟩ := E.pen.pen p hp
  exact ⟨p, q, hp, h1, a, b, g⟩
theorem pen_rep {G : Hp} {st : Pen} {k : Nat} {q : Addr} {d : D} (hq : G q = some (.lst (st.cells.map .int))) (h : st.at' k = some d) : ∃ v, [V.ref q, .int st.at_, .int st.left][k]? = some v ∧ Rep m G v d := by
  match k, h with
  | 0, h => cases h; exact ⟨_, rfl, .lst hq (repL_ints _)⟩
  | 1, h => cases h; exact ⟨_, rfl, .int _⟩
  | 2, h => cases h; exact ⟨_, rfl, .int _⟩
theorem ePen_post {γ : Gh} {B0 B G H : Hp} {σ : L2.St} {env : List Sl} {st : Pen} {i k : Nat} {K : D → Pen → Hp → Hp → Prop} {W : XK} (P : Post m γ G H (ePen i k env st) K W) : env[i]? = some .pen ∧ ∃ d, st.at' k = some d ∧ Post m γ G H (some (.ok d, st)) K W := by
  unfold ePen at P
  split at P
  · rename_i hi
    cases e : st.at' k with
    | none => rw [e] at P; exact False.elim P
    | some d => rw [e] at P; exact ⟨hi, d, rfl, P⟩
  · exact False.elim P
theorem de_pen0 {i k : Nat} {o : Expr} {j : Nat} {pk : Pos} (ho : PE X o (tVar i)) (hs : PlainIx (.Constant (.int (k : Int)) j pk)) : PE X (.Subscript o (.Constant (.int (k : Int)) j pk) pos) (tD m W (ePen i k)) := by
  refine PE.imp (pe_ix ix_list ho pe_int hs) fun σ H Q ⟨γ, B0, B, G, env, st, E, P⟩ => ?_
  obtain ⟨hi, d, hd, P2⟩ := ePen_post (B0 := B0) (B := B) (σ := σ) P
  obtain ⟨p, q, hp, hx, h1, h2, h3⟩ := E.pen_at hi
  obtain ⟨v, e1, e2⟩ := pen_rep h2 hd
  exact ⟨_, hx, p, _, (k : Int), v, rfl, rfl, .of h1, atI_nat e1, P2.now E.sub E.tok E.pen v e2⟩
def Pen.put (st : Pen) (k : Nat) (d : D) : Option Pen := match k, d with
  | 1, .int n => some { st with at_ := n }
  | 2, .int n => some { st with left := n }
  | _, _ => none
def sPen (i k : Nat) (f : EM) : SM := liftM f fun d env st => match env[i]? with
  | some .pen => match st.put k d with
    | some st' => some (.ok .nx, env, st')
    | none => none
  | _ => none
theorem put_is {st st' : Pen} {k : Nat} {d : D} (h : st.put k d = some st') : ∃ n, d = .int n ∧ (k = 1 ∨ k = 2) ∧ st'.cells = st.cells ∧ ∀ q : Addr, [V.ref q, .int st.at_, .int st.left].set k (.int n) = [.ref q, .int st'.at_, .int st'.left] := by
  unfold Pen.put at h
  split at h
  · cases h; exact ⟨_, rfl, .inl rfl, rfl, fun _ => rfl⟩
  · cases h; exact ⟨_, rfl, .inr rfl, rfl, fun _ => rfl⟩
  · cases h
theorem EnvOk.penSet {γ : Gh} {B0 B G H : Hp} {σ : L2.St} {env : List Sl} {st st' : Pen} {i : Nat} {p q : Addr} {vs : List V} (E : EnvOk m γ B0 B σ G H env st) (hp : γ.pa = some p) (h2 : G q = some (.lst (st'.cells.map .int))) (g : G p = none) (hh : H p ≠ none) :
    EnvOk m γ B0 B σ G (L2.upd H p (.lst [.ref q, .int st'.at_, .int st'.left])) env st' := by
  have ap := γ.apart p hp
  have hsub : Same G (L2.upd H p (.lst [.ref q, .int st'.at_, .int st'.left])) := fun b u e => by rw [upd_ne (ne_of_none e g)]; exact E.sub b u e
  have hne : ∀ b, γ.away b → b ≠ p := fun b hb z => hb.1 (z ▸ hp)
  have tok : γ.tok G (L2.upd H p (.lst [.ref q, .int st'.at_, .int st'.left])) := γ.stable G H _ _ E.tok (Same.refl G) fun b hb => upd_ne fun z => ap (z ▸ hb)
  refine ⟨hsub, tok, ⟨E.base.gg, hsub, E.base.new, fun b u ha e => ?_, fun b hb => ?_, tok⟩, ⟨fun b hb => ?_, fun b hb => ?_⟩, E.len, fun j s x h1 h3 => ?_, E.dis⟩
  · rw [upd_ne (hne b ha)]; exact E.base.keep b u ha e
  · by_cases z : b = p
    · subst z; rw [upd_same]; intro z; cases z
    · rw [upd_ne z]; exact E.base.live b hb
  · rw [hp] at hb; cases hb
    exact ⟨g, q, upd_same, h2⟩
  · have z : b ≠ p := fun z => ap (z ▸ hb)
    rw [upd_ne z]; exact E.pen.live b hb
  · have q := E.sl j s x h1 h3
    cases s with
    | no => trivial
    | val d => exact q
    | pen => exact q
    | own l =>
      obtain ⟨p2, vs2, rfl, h5, h6, h7, h8, h9⟩ := q
      exact ⟨p2, vs2, rfl, by rw [upd_ne (hne p2 h8)]; exact h5, h6, h7, h8, h9⟩
theorem ds_pen0 {i k : Nat} {tg : Expr} (he : PE X e (tD m W f)) (hg : PG X tg (gSub (tVar i) (tC (.int (k : Int))) rSetL)) (hs : swapsWithSole [tg] e pos.line X.env = pure false) (hw : swappedStores [tg] e X.env = pure none)
    (h1 : (assignEach [tg] X.env).map (·.2) = [assign tg X.env]) : PS X (.Assign [tg] e pos) (tS m W (sPen i k f)) := by
  refine PS.imp (ps_asg he hg hs hw h1) fun Dn σ H z => ?_
  obtain ⟨γ, B0, B, G, env, st, E, P⟩ := z
  refine ⟨γ, B0, B, G, env, st, E, (P.lift E).imp fun d st1 G1 H1 s1 p1 P1 v rv => ?_⟩
  have E1 := E.step s1 p1
  cases hi : env[i]? with
  | none => rw [hi] at P1; exact False.elim P1
  | some sl =>
    rw [hi] at P1
    cases sl with
    | no => exact False.elim P1
    | val d => exact False.elim P1
    | own l => exact False.elim P1
    | pen =>
      dsimp only at P1
      obtain ⟨p, q, hp, hx, h1, h2, h3⟩ := E1.pen_at hi
      cases e : st1.put k d with
      | none => rw [e] at P1; exact False.elim P1
      | some st' =>
        rw [e] at P1
        obtain ⟨n, rfl, hk, hc, hl⟩ := put_is e
        have ev := rv.int_inv
        subst ev
        refine ⟨_, hx, p, _, (k : Int), k, rfl, rfl, h1, ?_, ?_⟩
        · rcases hk with rfl | rfl <;> rfl
        · rw [hl q]
          exact P1 σ G1 _ (E1.penSet (i := i) (vs := []) hp (by rw [hc]; exact h2) h3 (by rw [h1]; intro z; cases z))
theorem ds_pen (i k : Nat) {x : Str} {px pk pos' : Pos} {j : Nat} (he : PE X e (tD m W f)) (hN : X.N[i]? = some x := by rfl) (hv : Vis X.env.scope x := by first | exact Or.inl rfl | exact Or.inr (Or.inl rfl) | exact Or.inr (Or.inr rfl)) (hd : (x == ("__debug__" : Str)) = false := by decide) (hcd : (x == ("__classdict__" : Str)) = false := by decide)
    (hs : swapsWithSole [.Subscript (.Name x px) (.Constant (.int (k : Int)) j pk) pos'] e pos.line X.env = pure false := by rfl) (hw : swappedStores [.Subscript (.Name x px) (.Constant (.int (k : Int)) j pk) pos'] e X.env = pure none := by rfl)
    (h1 : (assignEach [.Subscript (.Name x px) (.Constant (.int (k : Int)) j pk) pos'] X.env).map (·.2) = [assign (.Subscript (.Name x px) (.Constant (.int (k : Int)) j pk) pos') X.env] := by rfl)
    (ha : ∀ v, assign (.Subscript (.Name x px) (.Constant (.int (k : Int)) j pk) pos') X.env v = (do
      let ov ← holding [v] (eval (.Name x px) X.env)
      let iv ← holding [v, ov] (eval (.Constant (.int (k : Int)) j pk) X.env)
      standAt pos'
      holding [v, ov, iv] (setItem ov iv v)
      release [v, ov, iv] []) := by intro _; rfl) : PS X (.Assign [.Subscript (.Name x px) (.Constant (.int (k : Int)) j pk) pos'] e pos) (tS m W (sPen i k f)) :=
  ds_pen0 he (pg_sub (pe_var hN hv hd hcd) pe_int set_list ha) hs hw h1
theorem de_pen (i k : Nat) {x : Str} {px pk : Pos} {j : Nat} (hN : X.N[i]? = some x := by rfl) (hv : Vis X.env.scope x := by first | exact Or.inl rfl | exact Or.inr (Or.inl rfl) | exact Or.inr (Or.inr rfl)) (hd : (x == ("__debug__" : Str)) = false := by decide) (hcd : (x == ("__classdict__" : Str)) = false := by decide)
    (hs : PlainIx (.Constant (.int (k : Int)) j pk) := by exact fun _ _ => rfl) : PE X (.Subscript (.Name x px) (.Constant (.int (k : Int)) j pk) pos) (tD m W (ePen i k)) := de_pen0 (pe_var hN hv hd hcd) hs
end
end DL
set_option Elab.async false
set_option linter.all false
set_option maxRecDepth 100000
/-! Dl7: more statements, keyword calls, defs of the text, the law's end. -/
namespace DL
open PySem PySem.Spec PyProof.Rows L2

section
variable {X : Cx} {m : Md} {W : WX} {a b c e : Expr} {es : List Expr} {f g h : EM} {pos : Pos}
/-! ### x, y = [..], e: the first is the frame's own list -/
def sParL (i j : Nat) (f : LM) (g : EM) : SM := liftM f fun ds env st => if ds.length ≤ sizeLine then liftM g (fun d env st => some (.ok .nx, (env.set i (.own ds)).set j (.val d), st)) env st else none
theorem ds_parL {i j : Nat} {x y : Str} {b : Expr} {f : LM} {px py pt pl : Pos} {kt k2 pt2} (hc : X.calm = true) (hN : X.N.Nodup) (ha : PA X es (tL m W f)) (hb : PE X b (tD m W g)) (hij : i ≠ j := by decide) (hi : X.N[i]? = some x := by rfl) (hj : X.N[j]? = some y := by rfl)
    (hx : X.env.scope.names.lookup x = some .local := by rfl) (hy : X.env.scope.names.lookup y = some .local := by rfl)
    (hw : swappedStores [.Tuple [.Name x px, .Name y py] kt pt] (.Tuple [.List es pl, b] k2 pt2) X.env = pure (some [x, y]) := by rfl)
    (hs : swapsWithSole [.Tuple [.Name x px, .Name y py] kt pt] (.Tuple [.List es pl, b] k2 pt2) pos.line X.env = pure false := by rfl)
    (s1 : starEach (.List es pl :: [b]) X.env = (false, eval (.List es pl) X.env) :: starEach [b] X.env := by rfl) (s2 : starEach (b :: []) X.env = (false, eval b X.env) :: starEach [] X.env := by rfl) :
    PS X (.Assign [.Tuple [.Name x px, .Name y py] kt pt] (.Tuple [.List es pl, b] k2 pt2) pos) (tS m W (sParL i j f g)) := by
  refine PS.imp (ps_par hc hN hi hj hij hx hy (pa_cons (pe_lst ha) (pa_cons hb pa_nil s2) s1) hw hs) fun D σ H ⟨γ, B0, B, G, env, st, E, P⟩ => ?_
  refine ⟨γ, B0, B, G, env, st, E, (P.lift E).imp fun ds st1 G1 H1 t1 p1 P1 vs rvs => ?_⟩
  by_cases hl : ds.length ≤ sizeLine
  · rw [if_pos hl] at P1
    refine ⟨by rw [rvs.length]; exact hl, fun p hp => ?_⟩
    have E1 := E.step t1 p1
    have sl := Step.lay (o := .lst vs) t1.sub t1.tok p1 hp
    have E2 := E1.step sl (p1.lay t1.sub t1.tok hp)
    refine ⟨γ, B0, B, G1, env, st1, E2, (PostS.lift P1 E2).imp fun d st2 G2 H2 t2 p2 P2 v rv => ?_⟩
    exact ⟨_, _, rfl, P2 _ G2 H2 (((E1.new hp rvs).step t2 p2).set rv)⟩
  · rw [if_neg hl] at P1; exact False.elim P1

/-! ### f(k = e, ..): all parameters by their names -/
theorem PK.imp {kws : List Keyword} {t t' : TA} (h : PK X kws t) (w : ∀ σ H Q, t' σ H Q → t σ H Q) : PK X kws t' := ⟨fun pos pins s σ H Q I q => h.run pos pins s σ H Q I (w _ _ _ q)⟩
theorem dk_nil : PK X [] (tL m W lNil) := by
  refine PK.imp pk_nil fun σ H Q ⟨γ, B0, B, G, env, st, E, P⟩ => ?_
  exact P.now E.sub E.tok E.pen [] .nil
theorem dk_cons {g : LM} {kws : List Keyword} {nm : Option Str} {kpos : Pos} (ha : PE X a (tD m W f)) (hr : PK X kws (tL m W g)) : PK X (⟨nm, a, kpos⟩ :: kws) (tL m W (lCons f g)) := by
  refine PK.imp (pk_cons ha hr) fun σ H Q ⟨γ, B0, B, G, env, st, E, P⟩ => ?_
  refine ⟨γ, B0, B, G, env, st, E, P.bind.imp fun d st1 G1 H1 s1 p1 P1 v rv => ?_⟩
  refine ⟨γ, B0, B, G1, env, st1, E.step s1 p1, P1.bind.imp fun ds st2 G2 H2 s2 p2 P2 vs rvs => ?_⟩
  exact P2.now s2.sub s2.tok p2 (v :: vs) (.cons (rv.same s2.gg) rvs)
def permute {α : Type} (perm : List Nat) (l : List α) : List α := perm.filterMap fun i => l[i]?
theorem Vals.permute {vs : List V} {us : List Value} (r : Vals vs us) : ∀ perm : List Nat, Vals (DL.permute perm vs) (DL.permute perm us)
  | [] => .nil
  | i :: perm => by
    have ih := Vals.permute r perm
    unfold DL.permute at ih ⊢
    rw [List.filterMap_cons, List.filterMap_cons]
    cases e : vs[i]? with
    | none => rw [Vals.none_of r e]; exact ih
    | some v =>
      obtain ⟨u, h1, h2⟩ := Vals.get r e
      rw [h1]
      exact .cons h2 ih
theorem RepL.permute {G : Hp} {vs : List V} {ds : List D} (r : RepL m G vs ds) : ∀ perm : List Nat, RepL m G (DL.permute perm vs) (DL.permute perm ds)
  | [] => .nil
  | i :: perm => by
    have ih := RepL.permute r perm
    unfold DL.permute at ih ⊢
    rw [List.filterMap_cons, List.filterMap_cons]
    cases e : ds[i]? with
    | none =>
      have hn : vs[i]? = none := List.getElem?_eq_none (by rw [r.length]; exact List.getElem?_eq_none_iff.mp e)
      rw [hn]; exact ih
    | some d =>
      obtain ⟨v, h1, h2⟩ := r.get e
      rw [h1]
      exact .cons h2 ih
def eCallK (F : List Sl → M D) (perm : List Nat) (f : LM) : EM := fun env => bindM (f env) fun ds => F ((permute perm ds).map .val)
theorem de_callK {F : List Sl → M D} {f : LM} {x : Str} {p : Pos} {k : Nat} {fa : Addr} {fd : FuncData} {ps ks : List Str} {perm : List Nat} {CX : CXT} {kws : List Keyword} (O : FnOk X.prog X.w X.K X.mg X.base CX k fa fd ps (spF m F)) (hr : Room k X.A) (hm : X.mg x = some (.ref fa)) (hk : PySem.W.keepIn X.K (.ref fa) = true)
    (hb : ∀ (s : Shared) (ws : List Value), ws.length = ks.length → BindsTo s fd ⟨[], ks.zip ws⟩ (ps.zip (permute perm ws))) (hx : ∀ σ, PassesAt CX X σ (fun c d H => W c d σ H)) (ha : PK X kws (tL m W f)) (hlen : ∀ env st ds st', f env st = some (.ok ds, st') → ds.length = ks.length)
    (hks : (backToKw pos (keywordEach kws X.env)).filterMap (·.1) = ks := by rfl) (hall : (backToKw pos (keywordEach kws X.env)).all (·.1.isSome) = true := by rfl) (hg : Gl X x := by rfl) (hdb : (x == ("__debug__" : Str)) = false := by decide)
    (hpl : ((backTo pos (starEach [] X.env)).any (·.1) || (backToKw pos (keywordEach kws X.env)).any (·.1.isNone)) = false := by rfl) : PE X (.Call (.Name x p) [] kws pos) (tD m W (eCallK F perm f)) := by
  refine ⟨fun pins s σ H Q I h => ?_⟩
  obtain ⟨γ, B0, B, G, env, st, E, P⟩ := h
  refine wpAny_Call_Name_kw (ld_glob I hg hm ?_ hdb)
  refine PySem.W.callWith_KW0 (h₀ := X.base) I.ok.mod.kin hk hall ?_ hpl
  have P := P.bind
  cases q : f env st with
  | none => rw [q] at P; exact False.elim P
  | some r =>
    obtain ⟨r, st1⟩ := r
    have key := ha.run pos pins s σ H (fun zs H2 => zs.length = ks.length ∧ spF m F (permute perm zs) H2 Q fun c d H => W c d σ H) I
    rw [hks]
    refine thn (key ⟨γ, B0, B, G, env, st, E, ?_⟩) fun ws s2 z => ?_
    · rw [q] at P ⊢
      cases r with
      | error x => exact P
      | ok ds =>
        have hl := hlen _ _ _ _ q
        intro G1 H1 s1 p1 vs rvs
        exact ⟨by rw [rvs.length]; exact hl, γ, G1, _, st1, s1.sub, s1.tok, p1, ArgsOk.ofRepL (rvs.permute perm), P G1 H1 s1 p1⟩
    · obtain ⟨zs, H2, I2, rz, l2, q2⟩ := z
      refine ⟨I2.kIn, ?_⟩
      refine wpAny_call (codeAny_mono (O.run X.A X.stack s2 H2 ⟨[], ks.zip ws⟩ (permute perm ws) (permute perm zs) Q _ hr I2.env0 (hb s2 ws (by rw [← rz.length]; exact l2)) (Vals.permute rz perm) q2) fun r s' hq => ?_)
      cases r with
      | error e => exact hx σ pins H2 s2 e s' I2 hq
      | ok fl =>
        cases fl with
        | ret u => exact I2.after hq
        | next => exact False.elim hq
        | brk => exact False.elim hq
        | cont => exact False.elim hq
end
theorem len_lNil : ∀ env st ds st', lNil env st = some (.ok ds, st') → ds.length = 0 := fun env st ds st' h => by cases h; rfl
theorem len_lCons {f : EM} {g : LM} {n : Nat} (hg : ∀ env st ds st', g env st = some (.ok ds, st') → ds.length = n) : ∀ env st ds st', lCons f g env st = some (.ok ds, st') → ds.length = n + 1 := fun env st ds st' h => by
  unfold lCons bindM at h
  cases e : f env st with
  | none => rw [e] at h; cases h
  | some q =>
    obtain ⟨q, st1⟩ := q
    rw [e] at h
    cases q with
    | error x => cases h
    | ok d =>
      dsimp only at h
      cases e2 : g env st1 with
      | none => rw [e2] at h; cases h
      | some q2 =>
        obtain ⟨q2, st2⟩ := q2
        rw [e2] at h
        cases q2 with
        | error x => cases h
        | ok d2 => cases h; rw [List.length_cons, hg _ _ _ _ e2]

/-! ### defs of the text -/
section
variable {P : Program} {w : World} {K : PySem.W.Frag} {mg : Str → Option Value} {base : Heap} {x qual : Str} {st : Stmt} {dvs : List V} {kws : List (Str × V)} {f : Addr} {fd : FuncData} {N ps : List Str} {k : Nat} {u : SM}
theorem fn_d (F : FunD K x qual (defArgs st) (defBody st) (defScope st) dvs kws f fd) (S : FnScope N ps (defScope st))
    (hb : ∀ (cdv : Value) (A : Around) (outer : List Env) (s : Shared) (H : Hp) (E : XK), Room k (A.deeper (envOfC qual (defScope st) s.heap.objs.size f cdv)) → PSs (cxOf (L2.CX P w) P w K mg base N qual (defScope st) f cdv A outer s H E) (defBody st) (tS ⟨K, mg⟩ (fun c d _ H => E c d H) u)) :
    FnOk P w K mg base (L2.CX P w) (k + 1) f fd ps (spF ⟨K, mg⟩ (argN ps.length (runF N.length u))) :=
  F.ok S (fun vs H Q E h => argN_len h) fun cdv A outer s H vs Q E hr h => ⟨_, hb cdv A outer s H E hr, body_fill (argN_use h)⟩
/-- by the names alone: nothing lacks -/
theorem kw_binds {ks : List Str} {perm : List Nat} (F : FunD K x qual (defArgs st) (defBody st) (defScope st) [] kws f fd)
    (h : ∀ (kV doc pm : Value) (an : Option Addr) (cdv ct : Value) (ws : List Value), ws.length = ks.length → bindArgs (PySem.W.fnOf x qual (defArgs st) (defBody st) (defScope st) .none kV doc pm an cdv ct) ⟨[], ks.zip ws⟩ = pure (ps.zip (permute perm ws))) :
    ∀ (s : Shared) (ws : List Value), ws.length = ks.length → BindsTo s fd ⟨[], ks.zip ws⟩ (ps.zip (permute perm ws)) := fun s ws hl => by
  obtain ⟨oc, od, dV, kV, doc, pm, an, cdv, ct, osl, rfl, lk, hcd, hD, hK⟩ := F.ex
  rcases hD with ⟨_, rfl⟩ | ⟨e, _⟩
  · exact .of_eq (h kV doc pm an cdv ct ws hl)
  · exact absurd rfl e
end

/-! ### the law: called once, from nowhere, so that no guard stands -/
/-- as FnOk, at the law's own call alone -/
def LawRun (P : Program) (w : World) (K : PySem.W.Frag) (mg : Str → Option Value) (base : Heap) (f : Addr) (fd : FuncData) (ps : List Str) (sp : Sp) : Prop :=
  ∀ (outer : List Env) (s : Shared) (H : Hp) (us : List Value) (vs : List V) (Q : VK) (E : XK), Env0 P w K mg base callerA outer s H → BindsTo s fd ⟨us, []⟩ (ps.zip us) → Vals vs us → sp vs H Q E →
    codeAny (model P w) callerA (.call (.ref f) ⟨us, []⟩) (CR (L2.CX P w) outer P w H s Q E) s
section
variable {P : Program} {w : World} {K : PySem.W.Frag} {mg : Str → Option Value} {base : Heap} {x qual : Str} {st : Stmt} {f : Addr} {fd : FuncData} {N ps : List Str} {k : Nat} {sp : Sp}
theorem law_run (F : FunD K x qual (defArgs st) (defBody st) (defScope st) [] [] f fd) (S : FnScope N ps (defScope st)) (len : ∀ vs H Q E, sp vs H Q E → vs.length = ps.length) (room : Room (k + 1) callerA)
    (hb : ∀ (cdv : Value) (outer : List Env) (s : Shared) (H : Hp) (vs : List V) (Q : VK) (E : XK), Room k (callerA.deeper (envOfC qual (defScope st) s.heap.objs.size f cdv)) → sp vs H Q E →
      ∃ t, PSs (cxOf (L2.CX P w) P w K mg base N qual (defScope st) f cdv callerA outer s H E) (defBody st) t ∧ t { nx := fun _ H' => Q .non H', rt := Q } (L2.start N vs) H) : LawRun P w K mg base f fd ps sp := by
  obtain ⟨oc, od, dV, kV, doc, pm, an, cdv, ct, osl, rfl, lk, hcd, _, _⟩ := F.ex
  intro outer s H us vs Q E e0 bd r hsp
  have n1 := len _ _ _ _ hsp
  have inK : K.In s.heap := e0.mod.kin.keeps fun q z hz => (e0.bs q z hz).1
  have noLim : s.heap.NoLimit := e0.mod.nolimit.keeps fun q z hz => (e0.bs q z hz).1
  have kinds : ∀ y ∈ ps.zip us, (defScope st).names.lookup y.1 = some .local ∨ ((defScope st).names.lookup y.1 = some .cell ∧ ((cellsFrom (s.heap.objs.size + 1) (defScope st).names []).lookup y.1).isSome = true) := by
    rintro ⟨nm, vv⟩ hy
    have := S.par nm (List.of_mem_zip hy).1
    exact this.imp id fun z => ⟨z, PySem.W.cellsFrom_some _ _ _ (.inl z)⟩
  refine codeAny_call_function room.depth (inK _ _ lk) rfl S.co S.gen rfl (PySem.W.codeRec_of inK hcd) (bd _ _ _ _ ?_)
  refine wpAny_newFunctionEnv_cells S.kind kinds fun ev hev s1 hx => ?_
  subst hev
  refine ⟨noLim.keeps hx.toInCall.keep, codeAny_func ?_⟩
  obtain ⟨t, ht, hq⟩ := hb cdv outer s H vs Q E (room.deeper _) hsp
  have I0 := inv_start (CX := L2.CX P w) (qual := qual) (f := f) (cd := cdv) (E := E) S room.hd e0 n1 r hx
  refine wpAny_mono (ht.run [] s1 _ H _ I0 hq) (fun fl s' done => ?_) fun _ _ z => z
  cases fl with
  | ret uu => obtain ⟨vv, σ', H', J, rv, q⟩ := done; exact ⟨vv, H', J.os, J.bare, J.base, J.hok, rv, q⟩
  | next => obtain ⟨σ', H', J, q⟩ := done; exact ⟨.non, H', J.os, J.bare, J.base, J.hok, rfl, q⟩
  | brk => obtain ⟨_, _, _, q⟩ := done; exact False.elim q
  | cont => obtain ⟨_, _, _, q⟩ := done; exact False.elim q
/-- the script's call -/
theorem law_end {mb : Str → Option Value} {a : Addr} {s₁ : Shared} {vs : List Value} {ns : List Int} {arg : Str} (inK : K.In s₁.heap) (gN : s₁.heap.Ns mainGlobals mg) (bN : s₁.heap.Ns builtinsNs mb) (bB : ∀ y : Str, y ≠ "__name__" → mb y = bootBuiltins y) (noLim : s₁.heap.NoLimit) (noG : s₁.gens = #[])
    (at_ : s₁.heap.get? a = some { cls := .type "list", data := .seq vs.toArray }) (hints : IntsAre vs ns) (fits : ns.length ≤ sizeLine)
    (F : ∀ base : Heap, K.In base → base.Ns mainGlobals mg → LawRun P w K mg base f fd [arg] sp) (bind1 : ∀ (s : Shared) (u : Value), BindsTo s fd ⟨[u], []⟩ [(arg, u)])
    (want : ∀ H : Hp, Only H → SqL K H a (ns.map V.int) → sp [.ref a] H (fun v _ => v = .bl true) fun _ _ _ => False) :
    codeAny (model P w) callerA (.call (.ref f) ⟨[.ref a], []⟩) (fun r s' => r = .ok (.ret (.bool true)) ∧ OldK s₁.heap s'.heap ∧ s'.os = s₁.os ∧ AllBare s'.gens) s₁ := by
  have rvs := vals_ints hints
  have step : ∀ H : Hp, Only H → SqL K H a (ns.map V.int) → HOk P w H s₁.heap → (∀ b u, H b = some u → b = a ∧ K.lookup a = none) →
      codeAny (model P w) callerA (.call (.ref f) ⟨[.ref a], []⟩) (fun r s' => r = .ok (.ret (.bool true)) ∧ OldK s₁.heap s'.heap ∧ s'.os = s₁.os ∧ AllBare s'.gens) s₁ := by
    intro H only sq hok isA
    have free : ∀ {b : Addr} {o : Obj}, s₁.heap.get? b = some o → (∀ vs n, o.data ≠ .seq vs n) → H b = none := fun {b o} e d => by
      cases q : H b with
      | none => rfl
      | some u =>
        obtain ⟨rfl, _⟩ := isA b u q
        rw [at_] at e
        cases e
        exact absurd rfl (d _ _)
    have hid : ∀ {b : Addr} {mm : Str → Option Value}, s₁.heap.Ns b mm → (hidT s₁.heap H).Ns b mm := by
      rintro b mm ⟨o, es, ep, e, d, r⟩
      exact ⟨o, es, ep, hidT_get e (free e fun _ _ z => by rw [d] at z; cases z), d, r⟩
    have inKb : K.In (hidT s₁.heap H) := fun b o e => hidT_get (inK b o e) (by
      cases q : H b with
      | none => rfl
      | some u =>
        obtain ⟨rfl, z⟩ := isA b u q
        rw [z] at e
        cases e)
    obtain ⟨mc, l1, l2⟩ := noLim
    have e0 : Env0 P w K mg (hidT s₁.heap H) callerA [] s₁ H :=
      ⟨rfl, ⟨inKb, hid gN, ⟨mb, hid bN, bB⟩, ⟨mc, hid l1, l2⟩⟩, fun _ _ z => of_hidT z, Nat.le_of_eq (hidT_size _ _), trivial, fun b z => absurd (show b ∈ ([] : List Addr) from z) (by simp), hok, .of_eq noG⟩
    refine codeAny_mono (F _ inKb (hid gN) [] s₁ H [.ref a] [.ref a] _ _ e0 (bind1 s₁ (.ref a)) (.cons rfl .nil) (want H only sq)) fun r s' done => ?_
    cases r with
    | error ee =>
      obtain ⟨_, _, _, _, _, _, _, _, _, _, _, _, z⟩ := done
      exact False.elim z
    | ok fl =>
      cases fl with
      | next => exact False.elim done
      | brk => exact False.elim done
      | cont => exact False.elim done
      | ret uu =>
        obtain ⟨vv, H', os, bare, un, hok', rr, hv⟩ := done
        have hv' : vv = .bl true := hv
        subst hv'
        obtain rfl : uu = Value.bool true := rr
        refine ⟨rfl, OldK.of_keep fun b o e => ?_, os, bare⟩
        cases q : H b with
        | none => exact un.keep b o e q (by intro z; exact absurd (show b ∈ ([] : List Addr) from z) (by simp)) (by simp)
        | some uu =>
          rcases only b with z | ⟨ob, xs, z⟩
          · rw [q] at z; cases z
          · obtain ⟨e1, _⟩ := hok b _ z
            obtain ⟨e2, _⟩ := hok' b _ (un.frzs b ob _ z)
            rw [e] at e1
            cases e1
            exact e2
  have ln : ns.length = vs.length := by
    have := rvs.length
    simpa using this
  cases hk : K.lookup a with
  | some o =>
    have e := inK a o hk
    rw [at_] at e
    cases e
    refine step (fun _ => none) (fun _ => .inl rfl) (.inr ⟨_, vs.toArray, _, hk, rfl, rfl, rfl, by rw [List.size_toArray, ← ln]; exact fits, by simpa using rvs⟩) (fun b u z => by cases (show (none : Option HO) = some u from z)) fun b u z => by cases (show (none : Option HO) = some u from z)
  | none =>
    have on : ∀ b u, (if b = a then some (HO.frz { cls := .type "list", data := .seq vs.toArray } (.lst (ns.map V.int))) else none) = some u → b = a ∧ u = .frz { cls := .type "list", data := .seq vs.toArray } (.lst (ns.map V.int)) := fun b u z => by
      by_cases hb : b = a
      · rw [if_pos hb] at z; cases z; exact ⟨hb, rfl⟩
      · rw [if_neg hb] at z; cases z
    refine step (fun b => if b = a then some (.frz { cls := .type "list", data := .seq vs.toArray } (.lst (ns.map V.int))) else none) (fun b => ?_) (.inl (.inr ⟨{ cls := .type "list", data := .seq vs.toArray }, if_pos rfl⟩)) (fun b u z => ?_) fun b u z => ⟨(on b u z).1, hk⟩
    · by_cases hb : b = a
      · exact .inr ⟨_, _, if_pos hb⟩
      · exact .inl (if_neg hb)
    · obtain ⟨rfl, rfl⟩ := on b u z
      exact ⟨at_, by rw [List.length_map]; exact fits, vs, _, rvs, at_⟩
end
theorem walk_law {l : PySem.W.OpenLaw} {n : Nat} {q : Program} {loose : List Str} {XP : (Str → Option Value) → Heap → Prop} {YP : World → Heap → Prop} {d : DefRec} {K : Params → PySem.W.Frag} {sp : World → Sp} {x : Str}
    (hn : l.most = some n) (hn2 : n ≤ sizeLine) (hdf : d.params.defaults = []) (hY : ∀ (w : World) (h : Heap), YP w h → (K w.params).In h)
    (F : ∀ (w : World) (mg : Str → Option Value) (fa : Addr) (h : Heap), (K w.params).In h → h.Ns mainGlobals mg → mg d.name = some (.ref fa) →
      ∃ fd : FuncData, (∀ (s : Shared) (u : Value), BindsTo s fd ⟨[u], []⟩ [(x, u)]) ∧ ∀ base : Heap, (K w.params).In base → base.Ns mainGlobals mg → LawRun l.prog w (K w.params) mg base fa fd [x] (sp w))
    (hsp : ∀ (w : World) (H : Hp) (a : Addr) (ns : List Int), ns.length ≤ n → Only H → SqL (K w.params) H a (ns.map V.int) → sp w [.ref a] H (fun v _ => v = .bl true) fun _ _ _ => False) :
    PySem.W.WalkO q loose XP YP l.row.toRowW d [] (fun f vs => PySem.call f vs) := by
  refine Att.attach_call hn hdf fun w s₀ s₁ mg mb fa o pm cd doc a vs ns Gd Y _ _ _ hmg ho hi hl hg => ?_
  have inK := hY w _ Y
  obtain ⟨fd, b1, hF⟩ := F w mg fa _ inK Gd.T.g hmg
  exact law_end inK Gd.T.g Gd.T.b Gd.T.builtins Gd.T.nolimit hg ho hi (Nat.le_trans hl hn2) hF b1 fun H z q => hsp w H a ns hl z q
end DL
set_option Elab.async false
set_option linter.all false
set_option maxRecDepth 100000
/-! Dl8: in-place operators, fuel. -/
namespace DL
open PySem PySem.Spec PyProof.Rows L2
/-- so many turns as the number in slot i says, and one more -/
def fuelV (i : Nat) : List Sl → Nat := fun env => match env[i]? with
  | some (.val (.int n)) => n.toNat + 1
  | _ => 0
section
variable {X : Cx} {m : Md}
theorem ipd_int {op : Operator} {g : Int → Int → Int} (h : PIp X op (ipI g)) : IpD X m op (intM2 (fun _ _ => true) fun i j => .int (g i j)) := by
  refine ⟨_, h, fun γ st G H v w d e Q W s t p rv rw P => ?_⟩
  obtain ⟨i, j, rfl, rfl, _, P2⟩ := ex_ints P
  exact ⟨i, j, rv.int_inv, rw.int_inv, P2.now s t p _ (.int _)⟩
theorem ds_par3 {W : WX} {i j l : Nat} {x y z : Str} {a b c : Expr} {f : LM} {px py pz pt pos : Pos} {kt k2 pt2} (hc : X.calm = true) (hN : X.N.Nodup) (ha : PA X [a, b, c] (tL m W f)) (hij : i ≠ j := by decide) (hil : i ≠ l := by decide) (hjl : j ≠ l := by decide) (hi : X.N[i]? = some x := by rfl) (hj : X.N[j]? = some y := by rfl) (hl : X.N[l]? = some z := by rfl)
    (hx : X.env.scope.names.lookup x = some .local := by rfl) (hy : X.env.scope.names.lookup y = some .local := by rfl) (hz : X.env.scope.names.lookup z = some .local := by rfl)
    (hw : swappedStores [.Tuple [.Name x px, .Name y py, .Name z pz] kt pt] (.Tuple [a, b, c] k2 pt2) X.env = pure (some [x, y, z]) := by rfl)
    (hs : swapsWithSole [.Tuple [.Name x px, .Name y py, .Name z pz] kt pt] (.Tuple [a, b, c] k2 pt2) pos.line X.env = pure false := by rfl) :
    PS X (.Assign [.Tuple [.Name x px, .Name y py, .Name z pz] kt pt] (.Tuple [a, b, c] k2 pt2) pos) (tS m W (sPar3 i j l f)) := by
  refine PS.imp (ps_par3 hc hN hi hj hl hij hil hjl hx hy hz ha hw hs) fun D σ H ⟨γ, B0, B, G, env, st, E, P⟩ => ?_
  refine ⟨γ, B0, B, G, env, st, E, (P.lift E).imp fun ds st1 G1 H1 s1 p1 P1 vs rvs => ?_⟩
  cases rvs with
  | nil => exact False.elim P1
  | cons r1 t =>
    cases t with
    | nil => exact False.elim P1
    | cons r2 t2 =>
      cases t2 with
      | nil => exact False.elim P1
      | cons r3 t3 =>
        cases t3 with
        | nil => exact ⟨_, _, _, rfl, P1 _ G1 H1 ((((E.step s1 p1).set r1).set r2).set r3)⟩
        | cons _ _ => exact False.elim P1
def iaddM : D → D → M D := intM2 (fun _ _ => true) fun i j => .int (i + j)
theorem ipd_add : IpD X m .Add iaddM := ipd_int ip_add
theorem ipd_sub : IpD X m .Sub subM := ipd_int ip_sub
end
end DL
namespace DL
open PySem L2
theorem relabel_eq (sc : Scope) (env : Env) : relabel sc env = relS sc env.scope := rfl
end DL
set_option linter.all false
set_option maxRecDepth 100000
/-! Dl9: how mirrors are reckoned out. -/
namespace DL
open PySem PySem.Spec PyProof.Rows L2
section
variable {α β : Type} {f g h : EM} {env : List Sl} {st st1 : Pen}
@[simp] theorem bindM_ap (f : M α) (g : α → M β) (st : Pen) : bindM f g st = match f st with
  | none => none
  | some (.error x, s) => some (.error x, s)
  | some (.ok a, s) => g a s := rfl
@[simp] theorem noErr_ap (f : M α) (st : Pen) : noErr f st = match f st with
  | some (.ok a, s) => some (.ok a, s)
  | _ => none := rfl
@[simp] theorem eVar_ap (i : Nat) (env : List Sl) : eVar i env = match env[i]? with
  | some (.val d) => pureM d
  | _ => failM := rfl
@[simp] theorem failM_ap (st : Pen) : (failM : M α) st = none := rfl
@[simp] theorem eC_ap (d : D) (env : List Sl) : eC d env = pureM d := rfl
@[simp] theorem e2_ap (F : D → D → M D) (f g : EM) (env : List Sl) : e2 F f g env = bindM (f env) fun x => bindM (g env) fun y => F x y := rfl
@[simp] theorem e1_ap (F : D → M D) (f : EM) (env : List Sl) : e1 F f env = bindM (f env) F := rfl
@[simp] theorem eB_ap (f : EM) (env : List Sl) : eB f env = bindM (f env) asB := rfl
@[simp] theorem asB_bl (b : Bool) : asB (.bl b) = pureM b := rfl
@[simp] theorem bAnd_ap (f g : List Sl → M Bool) (env : List Sl) : bAnd f g env = bindM (f env) fun b => if b = true then g env else pureM false := rfl
@[simp] theorem bOr_ap (f g : List Sl → M Bool) (env : List Sl) : bOr f g env = bindM (f env) fun b => if b = true then pureM true else g env := rfl
@[simp] theorem bNot_ap (f : List Sl → M Bool) (env : List Sl) : bNot f env = bindM (f env) fun b => pureM (!b) := rfl
@[simp] theorem eAnd_ap (f g : EM) (env : List Sl) : eAnd f g env = bindM (f env) fun d => bindM (asB d) fun b => if b = true then g env else pureM (.bl false) := rfl
@[simp] theorem eOr_ap (f g : EM) (env : List Sl) : eOr f g env = bindM (f env) fun d => bindM (asB d) fun b => if b = true then pureM (.bl true) else g env := rfl
@[simp] theorem eNot_ap (f : EM) (env : List Sl) : eNot f env = bindM (f env) fun d => bindM (asB d) fun b => pureM (.bl (!b)) := rfl
@[simp] theorem eIf_ap (c : List Sl → M Bool) (f g : EM) (env : List Sl) : eIf c f g env = bindM (c env) fun b => if b = true then f env else g env := rfl
@[simp] theorem lNil_ap (env : List Sl) : lNil env = pureM [] := rfl
@[simp] theorem lCons_ap (f : EM) (g : LM) (env : List Sl) : lCons f g env = bindM (f env) fun x => bindM (g env) fun xs => pureM (x :: xs) := rfl
@[simp] theorem lStar_ap (f : EM) (g : LM) (env : List Sl) : lStar f g env = bindM (f env) fun d => bindM (seqOf d) fun l => bindM (g env) fun xs => pureM (l ++ xs) := rfl
@[simp] theorem seqOf_lst (l : List D) : seqOf (.lst l) = pureM l := rfl
@[simp] theorem seqOf_tup (l : List D) : seqOf (.tup l) = pureM l := rfl
@[simp] theorem eTup_ap (f : LM) (env : List Sl) : eTup f env = bindM (f env) fun l => if l.length ≤ sizeLine then pureM (.tup l) else failM := rfl
@[simp] theorem eLst_ap (f : LM) (env : List Sl) : eLst f env = bindM (f env) fun l => if l.length ≤ sizeLine then pureM (.lst l) else failM := rfl
@[simp] theorem eL_ap (F : List D → M D) (f : LM) (env : List Sl) : eL F f env = bindM (f env) F := rfl
@[simp] theorem aNil_ap (env : List Sl) : aNil env = pureM [] := rfl
@[simp] theorem aVal_ap (f : EM) (g : AM) (env : List Sl) : aVal f g env = bindM (f env) fun x => bindM (g env) fun xs => pureM (.val x :: xs) := rfl
@[simp] theorem aPen_ap (i : Nat) (g : AM) (env : List Sl) : aPen i g env = match env[i]? with
  | some .pen => bindM (g env) fun xs => pureM (.pen :: xs)
  | _ => failM := rfl
@[simp] theorem eCall_ap (F : List Sl → M D) (f : AM) (env : List Sl) : eCall F f env = bindM (f env) F := rfl
@[simp] theorem eCallK_ap (F : List Sl → M D) (perm : List Nat) (f : LM) (env : List Sl) : eCallK F perm f env = bindM (f env) fun ds => F ((permute perm ds).map .val) := rfl
@[simp] theorem eChain_ap (F F' : D → D → M D) (f g h : EM) (env : List Sl) : eChain F F' f g h env = bindM (f env) fun x => bindM (g env) fun y => bindM (F x y) fun z => bindM (asB z) fun k => if k = true then bindM (h env) fun w => F' y w else pureM (.bl false) := rfl
@[simp] theorem ePen_ap (i k : Nat) (env : List Sl) (st : Pen) : ePen i k env st = match env[i]? with
  | some .pen => match st.at' k with
    | some d => some (.ok d, st)
    | none => none
  | _ => none := rfl
@[simp] theorem iSeq_ap (f : EM) (env : List Sl) : iSeq f env = bindM (f env) seqOf := rfl
@[simp] theorem iL_ap (f : LM) (env : List Sl) : iL f env = bindM (f env) iRange := rfl
@[simp] theorem liftM_ap (f : List Sl → M α) (k : α → List Sl → Pen → SR) (env : List Sl) (st : Pen) : liftM f k env st = match f env st with
  | none => none
  | some (.error x, st') => some (.error x, env, st')
  | some (.ok a, st') => k a env st' := rfl
@[simp] theorem sNx_ap (env : List Sl) (st : Pen) : sNx env st = some (.ok .nx, env, st) := rfl
@[simp] theorem sNo_ap (env : List Sl) (st : Pen) : sNo env st = none := rfl
@[simp] theorem sRetN_ap (env : List Sl) (st : Pen) : sRetN env st = some (.ok (.ret .non), env, st) := rfl
@[simp] theorem sSeq_ap (f g : SM) (env : List Sl) (st : Pen) : sSeq f g env st = match f env st with
  | some (.ok .nx, env', st') => g env' st'
  | r => r := rfl
@[simp] theorem sAsg_ap (i : Nat) (f : EM) : sAsg i f = liftM f fun d env st => some (.ok .nx, env.set i (.val d), st) := rfl
@[simp] theorem sAsgT_ap (f : EM) (F : D → List Sl → Option (List Sl)) : sAsgT f F = liftM f fun d env st => match F d env with
  | none => none
  | some env' => some (.ok .nx, env', st) := rfl
@[simp] theorem sExpr_ap (f : EM) : sExpr f = liftM f fun _ env st => some (.ok .nx, env, st) := rfl
@[simp] theorem sRet_ap (f : EM) : sRet f = liftM f fun d env st => some (.ok (.ret d), env, st) := rfl
@[simp] theorem sIf_ap (c : List Sl → M Bool) (a b : SM) : sIf c a b = liftM c fun k env st => if k = true then a env st else b env st := rfl
@[simp] theorem sPar_ap (i j : Nat) (f : LM) : sPar i j f = liftM f fun ds env st => match ds with
  | [d, e] => some (.ok .nx, (env.set i (.val d)).set j (.val e), st)
  | _ => none := rfl
@[simp] theorem sPar3_ap (i j l : Nat) (f : LM) : sPar3 i j l f = liftM f fun ds env st => match ds with
  | [d, e, g] => some (.ok .nx, ((env.set i (.val d)).set j (.val e)).set l (.val g), st)
  | _ => none := rfl
@[simp] theorem sAug_ap (i : Nat) (F : D → D → M D) (f : EM) : sAug i F f = liftM (fun env => bindM (eVar i env) fun x => bindM (f env) fun y => F x y) fun d env st => some (.ok .nx, env.set i (.val d), st) := rfl
@[simp] theorem sNewL_ap (i : Nat) (f : LM) : sNewL i f = liftM f fun ds env st => if ds.length ≤ sizeLine then some (.ok .nx, env.set i (.own ds), st) else none := rfl
@[simp] theorem sParL_ap (i j : Nat) (f : LM) (g : EM) : sParL i j f g = liftM f fun ds env st => if ds.length ≤ sizeLine then liftM g (fun d env st => some (.ok .nx, (env.set i (.own ds)).set j (.val d), st)) env st else none := rfl
@[simp] theorem sApp_ap (i : Nat) (f : EM) (env : List Sl) (st : Pen) : sApp i f env st = match env[i]? with
  | some (.own l) => liftM f (fun d env st => if l.length < sizeLine then some (.ok .nx, env.set i (.own (l ++ [d])), st) else none) env st
  | _ => none := rfl
@[simp] theorem sFrz_ap (i : Nat) (g : SM) (env : List Sl) (st : Pen) : sFrz i g env st = match env[i]? with
  | some (.own l) => g (env.set i (.val (.lst l))) st
  | _ => g env st := rfl
@[simp] theorem sPen_ap (i k : Nat) (f : EM) : sPen i k f = liftM f fun d env st => match env[i]? with
  | some .pen => match st.put k d with
    | some st' => some (.ok .nx, env, st')
    | none => none
  | _ => none := rfl
@[simp] theorem sFor_ap (f : LM) (F : D → List Sl → Option (List Sl)) (u : SM) : sFor f F u = liftM f fun items env st => forD F u items env st := rfl
@[simp] theorem sWhile_ap (fuel : List Sl → Nat) (c : List Sl → M Bool) (u : SM) (env : List Sl) (st : Pen) : sWhile fuel c u env st = whileD c u (fuel env) env st := rfl
@[simp] theorem gNm_ap (i : Nat) (d : D) (env : List Sl) : gNm i d env = some (env.set i (.val d)) := rfl
@[simp] theorem gTp_ap (n : Nat) (F : List D → List Sl → Option (List Sl)) (ds : List D) (env : List Sl) : gTp n F (.tup ds) env = if ds.length = n then F ds env else none := rfl
@[simp] theorem gsNil_ap (env : List Sl) : gsNil [] env = some env := rfl
@[simp] theorem gsCons_ap (F : D → List Sl → Option (List Sl)) (R : List D → List Sl → Option (List Sl)) (d : D) (r : List D) (env : List Sl) : gsCons F R (d :: r) env = match F d env with
  | none => none
  | some env1 => R r env1 := rfl
@[simp] theorem argN_ap (n : Nat) (f : List Sl → M D) (as : List Sl) : argN n f as = if as.length = n then f as else failM := rfl
@[simp] theorem runF_ap (n : Nat) (u : SM) (as : List Sl) (st : Pen) : runF n u as st = match u (as ++ List.replicate (n - as.length) .no) st with
  | some (.ok (.ret d), _, st') => some (.ok d, st')
  | some (.ok .nx, _, st') => some (.ok .non, st')
  | some (.error x, _, st') => some (.error x, st')
  | _ => none := rfl
@[simp] theorem fuelV_ap (i : Nat) (env : List Sl) : fuelV i env = match env[i]? with
  | some (.val (.int n)) => n.toNat + 1
  | _ => 0 := rfl
@[simp] theorem lLc_ap (vs : List Nat) (f : LM) (F : D → List Sl → Option (List Sl)) (c : List Sl → M Bool) (g : EM) (env : List Sl) : lLc vs f F c g env = bindM (f env) fun items => if items.length ≤ sizeLine then lcD F c g (wipeE env vs) items else failM := rfl
@[simp] theorem eLc_ap (vs : List Nat) (f : LM) (F : D → List Sl → Option (List Sl)) (c : List Sl → M Bool) (g : EM) (env : List Sl) : eLc vs f F c g env = bindM (lLc vs f F c g env) fun ys => pureM (.lst ys) := rfl
/-! ### operators on ints -/
@[simp] theorem addM_int (i j : Int) : addM (.int i) (.int j) = pureM (.int (i + j)) := rfl
@[simp] theorem iaddM_int (i j : Int) : iaddM (.int i) (.int j) = pureM (.int (i + j)) := rfl
@[simp] theorem subM_int (i j : Int) : subM (.int i) (.int j) = pureM (.int (i - j)) := rfl
@[simp] theorem mulM_int (i j : Int) : mulM (.int i) (.int j) = if mulOk i j = true then pureM (.int (i * j)) else failM := rfl
@[simp] theorem fdivM_int (i j : Int) : fdivM (.int i) (.int j) = if (decide (0 < j) && decide (j.natAbs.log2 < 9000)) = true then pureM (.int (i / j)) else failM := rfl
@[simp] theorem modM_int (i j : Int) : modM (.int i) (.int j) = if decide (0 < j) = true then pureM (.int (i % j)) else failM := rfl
@[simp] theorem powM_int (i j : Int) : powM (.int i) (.int j) = if (decide (0 ≤ j) && decide (j ≤ 1000000) && decide (i.natAbs < 2 ^ 64)) = true then pureM (.int (i ^ j.toNat)) else failM := rfl
@[simp] theorem ltM_int (i j : Int) : ltM (.int i) (.int j) = pureM (.bl (decide (i < j))) := rfl
@[simp] theorem leM_int (i j : Int) : leM (.int i) (.int j) = pureM (.bl (decide (i ≤ j))) := rfl
@[simp] theorem gtM_int (i j : Int) : gtM (.int i) (.int j) = pureM (.bl (decide (j < i))) := rfl
@[simp] theorem geM_int (i j : Int) : geM (.int i) (.int j) = pureM (.bl (decide (j ≤ i))) := rfl
@[simp] theorem eqM_int (i j : Int) : eqM (.int i) (.int j) = pureM (.bl (i == j)) := rfl
@[simp] theorem neM_int (i j : Int) : neM (.int i) (.int j) = pureM (.bl (!(i == j))) := rfl
@[simp] theorem eqM_bl (i j : Bool) : eqM (.bl i) (.bl j) = pureM (.bl (i == j)) := rfl
@[simp] theorem neM_bl (i j : Bool) : neM (.bl i) (.bl j) = pureM (.bl (!(i == j))) := rfl
@[simp] theorem lenM_lst (l : List D) : lenM [.lst l] = pureM (.int l.length) := rfl
@[simp] theorem lenM_tup (l : List D) : lenM [.tup l] = pureM (.int l.length) := rfl
@[simp] theorem absM_int (i : Int) : absM [.int i] = pureM (.int (if i < 0 then -i else i)) := rfl
@[simp] theorem toIntM_int (i : Int) : toIntM [.int i] = pureM (.int i) := rfl
@[simp] theorem toIntM_bl (b : Bool) : toIntM [.bl b] = pureM (.int (if b then 1 else 0)) := rfl
@[simp] theorem gcdM_int (i j : Int) : gcdM [.int i, .int j] = pureM (.int ((Nat.gcd i.natAbs j.natAbs : Nat) : Int)) := rfl
@[simp] theorem listM_lst (l : List D) : listM [.lst l] = pureM (.lst l) := rfl
@[simp] theorem listM_tup (l : List D) : listM [.tup l] = pureM (.lst l) := rfl
@[simp] theorem tupleM_lst (l : List D) : tupleM [.lst l] = pureM (.tup l) := rfl
@[simp] theorem tupleM_tup (l : List D) : tupleM [.tup l] = pureM (.tup l) := rfl
end
end DL
set_option linter.all false
set_option maxRecDepth 100000
/-! Lem0: facts of data that hold for every program. -/
namespace DL
open PySem PySem.Spec PyProof.Rows L2
theorem plains_ints : ∀ ns : List Int, D.plains (ns.map .int) = true
  | [] => rfl
  | n :: ns => by rw [List.map_cons, D.plains, plains_ints ns]; rfl
theorem pys_ints : ∀ ns : List Int, D.pys (ns.map .int) = ns.map PyData.int
  | [] => rfl
  | n :: ns => by rw [List.map_cons, D.pys, pys_ints ns]; rfl
theorem lay_ints : ∀ ns : List Int, PyData.canLayAll0 (ns.map PyData.int) = true
  | [] => rfl
  | n :: ns => by rw [List.map_cons, PyData.canLayAll0, lay_ints ns]; rfl
theorem depth_ints : ∀ ns : List Int, PyData.depthAll (ns.map PyData.int) = 0
  | [] => rfl
  | n :: ns => by rw [List.map_cons, PyData.depthAll, depth_ints ns]; rfl
theorem fit_lst_ints (ns : List Int) : (D.lst (ns.map .int)).fit = true := by
  unfold D.fit SeqAt.shaped
  simp only [D.plain, D.py, plains_ints, pys_ints, PyData.canLay0, lay_ints, PyData.depth, depth_ints]
  rfl
theorem fit_tup_ints (ns : List Int) : (D.tup (ns.map .int)).fit = true := by
  unfold D.fit SeqAt.shaped
  simp only [D.plain, D.py, plains_ints, pys_ints, PyData.canLay0, lay_ints, PyData.depth, depth_ints]
  rfl
theorem fit_lay {d : D} (h : d.fit = true) : d.py.canLay0 = true := by
  unfold D.fit SeqAt.shaped at h
  rw [Bool.and_eq_true, Bool.and_eq_true] at h
  exact h.2.1
theorem eqD_self {d : D} (h : d.fit = true) : eqD d d = true := SeqAt.eqv_refl _ (fit_lay h)
theorem eqM_self {d : D} (h : d.fit = true) : eqM d d = pureM (.bl true) := by
  unfold eqM
  rw [h, eqD_self h]
  rfl
theorem neM_self {d : D} (h : d.fit = true) : neM d d = pureM (.bl false) := by
  unfold neM
  rw [h, eqD_self h]
  rfl
theorem eqM_ints_nil (ns : List Int) : eqM (.lst (ns.map .int)) (.lst []) = pureM (.bl ns.isEmpty) := by
  unfold eqM
  rw [fit_lst_ints, show (D.lst []).fit = true from rfl]
  cases ns <;> rfl
theorem neM_ints_nil (ns : List Int) : neM (.lst (ns.map .int)) (.lst []) = pureM (.bl (!ns.isEmpty)) := by
  unfold neM
  rw [fit_lst_ints, show (D.lst []).fit = true from rfl]
  cases ns <;> rfl
theorem ixM_lst {l : List D} {i : Int} {j : Nat} {d : D} (h : i = (j : Int)) (e : l[j]? = some d) : ixM (.lst l) (.int i) = pureM d := by
  subst h
  unfold ixM
  dsimp only
  rw [atI_nat e]
theorem ixM_tup {l : List D} {i : Int} {j : Nat} {d : D} (h : i = (j : Int)) (e : l[j]? = some d) : ixM (.tup l) (.int i) = pureM d := by
  subst h
  unfold ixM
  dsimp only
  rw [atI_nat e]
@[simp] theorem ixM_tup0 (d : D) (l : List D) : ixM (.tup (d :: l)) (.int 0) = pureM d := ixM_tup (j := 0) rfl rfl
@[simp] theorem ixM_tup1 (c d : D) (l : List D) : ixM (.tup (c :: d :: l)) (.int 1) = pureM d := ixM_tup (j := 1) rfl rfl
@[simp] theorem ixM_tup2 (b c d : D) (l : List D) : ixM (.tup (b :: c :: d :: l)) (.int 2) = pureM d := ixM_tup (j := 2) rfl rfl
@[simp] theorem ixM_lst0 (d : D) (l : List D) : ixM (.lst (d :: l)) (.int 0) = pureM d := ixM_lst (j := 0) rfl rfl
@[simp] theorem ixM_lst1 (c d : D) (l : List D) : ixM (.lst (c :: d :: l)) (.int 1) = pureM d := ixM_lst (j := 1) rfl rfl
@[simp] theorem ixM_lst2 (b c d : D) (l : List D) : ixM (.lst (b :: c :: d :: l)) (.int 2) = pureM d := ixM_lst (j := 2) rfl rfl
structure PenGood (st : Pen) (n : Nat) : Prop where
  at0 : 0 ≤ st.at_
  atn : st.at_ ≤ (n : Int)
  left : 0 ≤ st.left
theorem PenGood.mono {st : Pen} {n k : Nat} (g : PenGood st n) (h : n ≤ k) : PenGood st k := ⟨g.at0, by have := g.atn; omega, g.left⟩
end DL
set_option Elab.async false
set_option linter.all false
set_option maxRecDepth 100000
namespace Law
open PySem PySem.Spec PyProof.Rows L2 DL
def c_BASES : D := (.tup [(.int 2), (.int 3), (.int 5), (.int 7), (.int 11), (.int 13), (.int 17), (.int 19), (.int 23), (.int 29), (.int 31), (.int 37), (.int 41)])
def c_BUT : D := (.str "but")
def c_MOST : D := (.int 1000000000000000000000000)
def c_MOST_CHARACTERISTIC : D := (.int 1000000000000)
def c_ONLY : D := (.str "only")
def c_SMALL : D := (.int 100000)
def c_WORDS : D := (.tup [(.str "only"), (.str "but")])
def b__law_primes : SM := sRet (e2 addM (eLst (lCons (eC (.int 0)) (lNil))) (eLc [1] (iL (lCons (eC (.int 2)) (lCons (e2 addM (eVar 0) (eC (.int 1))) (lNil)))) (gNm 1) (eB (e2 eqM (eLc [2] (iL (lCons (eC (.int 2)) (lCons (eVar 1) (lNil)))) (gNm 2) (eB (e2 eqM (e2 modM (eL toIntM (lCons (eVar 1) (lNil))) (eVar 2)) (eC (.int 0)))) (eVar 2)) (eLst (lNil)))) (eVar 1)))
def m__law_primes : List Sl → M D := argN 1 (runF 3 b__law_primes)
def b__law_draw : SM := sSeq (sIf (eB (e2 gtM (ePen 0 2) (eC (.int 0)))) (sSeq (sAsg 2 (eL toIntM (lCons (ePen 0 2) (lNil)))) (sSeq (sPen 0 2 (e2 fdivM (eVar 2) (eVar 1))) (sRet (e2 modM (eL toIntM (lCons (eVar 2) (lNil))) (eVar 1))))) (sNx)) (sSeq (sAsg 3 (ePen 0 1)) (sSeq (sPen 0 1 (e2 addM (eVar 3) (eC (.int 1)))) (sSeq (sAsg 4 (e2 addM (e2 mulM (eC (.int 73061)) (eVar 3)) (eC (.int 15307)))) (sSeq (sIf (eB (e2 neM (ePen 0 0) (eLst (lNil)))) (sAsg 4 (e2 ixM (ePen 0 0) (e2 modM (eL toIntM (lCons (eVar 3) (lNil))) (eL lenM (lCons (ePen 0 0) (lNil)))))) (sNx)) (sSeq (sIf (bAnd (eB (e2 ltM (eVar 3) (eL lenM (lCons (ePen 0 0) (lNil))))) (eB (e2 geM (eL absM (lCons (eVar 4) (lNil))) (e2 powM (eC (.int 10)) (eC (.int 18)))))) (sSeq (sAsg 2 (e2 addM (e2 mulM (eC (.int 2)) (e2 subM (eL absM (lCons (eVar 4) (lNil))) (e2 powM (eC (.int 10)) (eC (.int 18))))) (eL toIntM (lCons (e2 ltM (eVar 4) (eC (.int 0))) (lNil))))) (sSeq (sPen 0 2 (e2 fdivM (eL toIntM (lCons (eVar 2) (lNil))) (eVar 1))) (sRet (e2 modM (eL toIntM (lCons (eVar 2) (lNil))) (eVar 1))))) (sNx)) (sSeq (sAsg 5 (e2 modM (eL toIntM (lCons (e2 powM (e2 addM (e2 addM (e2 modM (eL toIntM (lCons (eVar 4) (lNil))) (eC (.int 2147483549))) (e2 mulM (eC (.int 81239)) (eVar 3))) (eC (.int 2903))) (eC (.int 5))) (lNil))) (eC (.int 2147483563)))) (sSeq (sAsg 5 (e2 modM (eL toIntM (lCons (e2 powM (e2 addM (e2 addM (e2 mulM (eVar 5) (e2 addM (e2 mulM (eC (.int 2)) (eVar 3)) (eC (.int 2903)))) (e2 mulM (e2 mulM (eC (.int 73061)) (eVar 3)) (eVar 3))) (eC (.int 81239))) (eC (.int 3))) (lNil))) (eC (.int 2147483587)))) (sRet (e2 modM (eL toIntM (lCons (e2 fdivM (eVar 5) (eC (.int 64))) (lNil))) (eVar 1))))))))))
def m__law_draw : List Sl → M D := argN 2 (runF 6 b__law_draw)
def b__law_pick : SM := sRet (e2 ixM (eVar 1) (eCall m__law_draw (aPen 0 (aVal (eL lenM (lCons (eVar 1) (lNil))) (aNil)))))
def m__law_pick : List Sl → M D := argN 2 (runF 2 b__law_pick)
def b__law_set : SM := sSeq (sAsg 1 (eC (.int 1))) (sSeq (sFor (iL (lCons (eCall m__law_draw (aPen 0 (aVal (eC (.int 4)) (aNil)))) (lNil))) (gNm 2) (sAsg 1 (e2 mulM (eVar 1) (eCall m__law_pick (aPen 0 (aVal (eLst (lCons (eC (.int 2)) (lCons (eC (.int 2)) (lCons (eC (.int 3)) (lCons (eC (.int 3)) (lCons (eC (.int 5)) (lCons (eC (.int 7)) (lCons (eC (.int 11)) (lCons (eC (.int 13)) (lCons (eC (.int 97)) (lNil))))))))))) (aNil))))))) (sRet (eTup (lCons (eCall m__law_pick (aPen 0 (aVal (eLst (lCons (eC (.str "only")) (lCons (eC (.str "but")) (lNil)))) (aNil)))) (lCons (eVar 1) (lNil))))))
def m__law_set : List Sl → M D := argN 1 (runF 3 b__law_set)
def b_is_whole : SM := sRet (eAnd (eIsi ["int"] (eVar 0)) (eNot (eIsi ["bool"] (eVar 0))))
def m_is_whole : List Sl → M D := argN 1 (runF 1 b_is_whole)
def b_is_within : SM := sRet (eAnd (eCall m_is_whole (aVal (eVar 0) (aNil))) (eAnd (e2 geM (eVar 0) (eVar 1)) (eOr (e2 isNM (eVar 2) (eC .non)) (e2 leM (eVar 0) (eVar 2)))))
def m_is_within : List Sl → M D := argN 3 (runF 3 b_is_within)
def b_is_listed : SM := sRet (eIsi ["list", "tuple"] (eVar 0))
def m_is_listed : List Sl → M D := argN 1 (runF 1 b_is_listed)
def b_is_where : SM := sSeq (sIf (bOr (bNot (eB (eCall m_is_listed (aVal (eVar 0) (aNil))))) (bOr (eB (e2 neM (eL lenM (lCons (eVar 0) (lNil))) (eC (.int 2)))) (bOr (bNot (eB (eIsi ["str"] (e2 ixM (eVar 0) (eC (.int 0)))))) (eB (e2 notInM (e2 ixM (eVar 0) (eC (.int 0))) (eC c_WORDS)))))) (sRet (eC (.bl false))) (sNx)) (sRet (eCall m_is_within (aVal (e2 ixM (eVar 0) (eC (.int 1))) (aVal (eC (.int 1)) (aVal (eC .non) (aNil))))))
def m_is_where : List Sl → M D := argN 1 (runF 1 b_is_where)
def b_need_where : SM := sSeq (sIf (bNot (eB (eCall m_is_where (aVal (eVar 0) (aNil))))) (sNo) (sNx)) (sRet (eTup (lCons (e2 ixM (eVar 0) (eC (.int 0))) (lCons (e2 ixM (eVar 0) (eC (.int 1))) (lNil)))))
def m_need_where : List Sl → M D := argN 2 (runF 2 b_need_where)
def b_other_word : SM := sRet (eIf (eB (e2 eqM (eVar 0) (eC c_ONLY))) (eC c_BUT) (eC c_ONLY))
def m_other_word : List Sl → M D := argN 1 (runF 1 b_other_word)
def b_turned_set : SM := sRet (eTup (lCons (eCall m_other_word (aVal (e2 ixM (eVar 0) (eC (.int 0))) (aNil))) (lCons (e2 ixM (eVar 0) (eC (.int 1))) (lNil))))
def m_turned_set : List Sl → M D := argN 1 (runF 1 b_turned_set)
def b_others : SM := sRet (eCall m_turned_set (aVal (eCall m_need_where (aVal (eVar 0) (aVal (eC (.str "where")) (aNil)))) (aNil)))
def m_others : List Sl → M D := argN 1 (runF 1 b_others)
def b_without_primes : SM := sSeq (sAsg 2 (eVar 0)) (sSeq (sWhile (fuelV 2) (eB (e2 gtM (eL gcdM (lCons (eVar 2) (lCons (eVar 1) (lNil)))) (eC (.int 1)))) (sAsg 2 (e2 fdivM (eVar 2) (eL gcdM (lCons (eVar 2) (lCons (eVar 1) (lNil))))))) (sRet (eVar 2)))
def m_without_primes : List Sl → M D := argN 2 (runF 3 b_without_primes)
def b_met : SM := sSeq (sIf (bAnd (eB (e2 eqM (e2 ixM (eVar 0) (eC (.int 0))) (eC c_BUT))) (eB (e2 eqM (e2 ixM (eVar 1) (eC (.int 0))) (eC c_BUT)))) (sRet (eTup (lCons (eC c_BUT) (lCons (e2 fdivM (e2 mulM (e2 ixM (eVar 0) (eC (.int 1))) (e2 ixM (eVar 1) (eC (.int 1)))) (eL gcdM (lCons (e2 ixM (eVar 0) (eC (.int 1))) (lCons (e2 ixM (eVar 1) (eC (.int 1))) (lNil))))) (lNil))))) (sNx)) (sSeq (sIf (bAnd (eB (e2 eqM (e2 ixM (eVar 0) (eC (.int 0))) (eC c_ONLY))) (eB (e2 eqM (e2 ixM (eVar 1) (eC (.int 0))) (eC c_ONLY)))) (sRet (eTup (lCons (eC c_ONLY) (lCons (eL gcdM (lCons (e2 ixM (eVar 0) (eC (.int 1))) (lCons (e2 ixM (eVar 1) (eC (.int 1))) (lNil)))) (lNil))))) (sNx)) (sSeq (sAsgT (eIf (eB (e2 eqM (e2 ixM (eVar 0) (eC (.int 0))) (eC c_ONLY))) (eTup (lCons (eVar 0) (lCons (eVar 1) (lNil)))) (eTup (lCons (eVar 1) (lCons (eVar 0) (lNil))))) (gTp 2 (gsCons (gNm 2) (gsCons (gNm 3) (gsNil))))) (sRet (eTup (lCons (eC c_ONLY) (lCons (eCall m_without_primes (aVal (e2 ixM (eVar 2) (eC (.int 1))) (aVal (e2 ixM (eVar 3) (eC (.int 1))) (aNil)))) (lNil)))))))
def m_met : List Sl → M D := argN 2 (runF 4 b_met)
def b_joined : SM := sRet (eCall m_turned_set (aVal (eCall m_met (aVal (eCall m_turned_set (aVal (eVar 0) (aNil))) (aVal (eCall m_turned_set (aVal (eVar 1) (aNil))) (aNil)))) (aNil)))
def m_joined : List Sl → M D := argN 2 (runF 2 b_joined)
def b_join : SM := sRet (eCall m_joined (aVal (eCall m_need_where (aVal (eVar 0) (aVal (eC (.str "one")) (aNil)))) (aVal (eCall m_need_where (aVal (eVar 1) (aVal (eC (.str "other")) (aNil)))) (aNil))))
def m_join : List Sl → M D := argN 2 (runF 2 b_join)
def b_meet : SM := sRet (eCall m_met (aVal (eCall m_need_where (aVal (eVar 0) (aVal (eC (.str "one")) (aNil)))) (aVal (eCall m_need_where (aVal (eVar 1) (aVal (eC (.str "other")) (aNil)))) (aNil))))
def m_meet : List Sl → M D := argN 2 (runF 2 b_meet)
def b__law_has : SM := sSeq (sIf (eB (e2 eqM (eVar 1) (eC (.int 0)))) (sRet (e2 eqM (e2 ixM (eVar 0) (eC (.int 0))) (eC (.str "but")))) (sNx)) (sRet (e2 eqM (e2 eqM (e2 modM (eL toIntM (lCons (e2 ixM (eVar 0) (eC (.int 1))) (lNil))) (eVar 1)) (eC (.int 0))) (e2 eqM (e2 ixM (eVar 0) (eC (.int 0))) (eC (.str "only")))))
def m__law_has : List Sl → M D := argN 2 (runF 2 b__law_has)
def b_has : SM := sSeq (sIf (eB (e2 eqM (eVar 1) (eC (.int 0)))) (sRet (e2 eqM (e2 ixM (eVar 0) (eC (.int 0))) (eC c_BUT))) (sNx)) (sRet (e2 eqM (e2 eqM (e2 modM (e2 ixM (eVar 0) (eC (.int 1))) (eVar 1)) (eC (.int 0))) (e2 eqM (e2 ixM (eVar 0) (eC (.int 0))) (eC c_ONLY))))
def m_has : List Sl → M D := argN 2 (runF 2 b_has)
def b_power_below : SM := sSeq (sPar 3 4 (lCons (eC (.int 1)) (lCons (e2 modM (eVar 0) (eVar 2)) (lNil)))) (sSeq (sWhile (fuelV 1) (eB (e2 gtM (eVar 1) (eC (.int 0)))) (sSeq (sIf (eB (e2 eqM (e2 modM (eVar 1) (eC (.int 2))) (eC (.int 1)))) (sAsg 3 (e2 modM (e2 mulM (eVar 3) (eVar 4)) (eVar 2))) (sNx)) (sPar 4 1 (lCons (e2 modM (e2 mulM (eVar 4) (eVar 4)) (eVar 2)) (lCons (e2 fdivM (eVar 1) (eC (.int 2))) (lNil)))))) (sRet (eVar 3)))
def m_power_below : List Sl → M D := argN 3 (runF 5 b_power_below)
def b_stands : SM := sSeq (sPar 2 3 (lCons (e2 subM (eVar 0) (eC (.int 1))) (lCons (eC (.int 0)) (lNil)))) (sSeq (sWhile (fuelV 2) (eB (e2 eqM (e2 modM (eVar 2) (eC (.int 2))) (eC (.int 0)))) (sPar 2 3 (lCons (e2 fdivM (eVar 2) (eC (.int 2))) (lCons (e2 addM (eVar 3) (eC (.int 1))) (lNil))))) (sSeq (sAsg 4 (eCall m_power_below (aVal (eVar 1) (aVal (eVar 2) (aVal (eVar 0) (aNil)))))) (sSeq (sIf (eB (e2 isInM (eVar 4) (eTup (lCons (eC (.int 1)) (lCons (e2 subM (eVar 0) (eC (.int 1))) (lNil)))))) (sRet (eC (.bl true))) (sNx)) (sSeq (sFor (iL (lCons (e2 subM (eVar 3) (eC (.int 1))) (lNil))) (gNm 5) (sSeq (sAsg 4 (e2 modM (e2 mulM (eVar 4) (eVar 4)) (eVar 0))) (sIf (eB (e2 eqM (eVar 4) (e2 subM (eVar 0) (eC (.int 1))))) (sRet (eC (.bl true))) (sNx)))) (sRet (eC (.bl false)))))))
def m_stands : List Sl → M D := argN 2 (runF 6 b_stands)
def b_prime : SM := sSeq (sIf (eB (e2 ltM (eVar 0) (eC (.int 2)))) (sRet (eC (.bl false))) (sNx)) (sSeq (sFor (iSeq (eC c_BASES)) (gNm 1) (sIf (eB (e2 eqM (e2 modM (eVar 0) (eVar 1)) (eC (.int 0)))) (sRet (e2 eqM (eVar 0) (eVar 1))) (sNx))) (sRet (eL allTM (lCons (eLc [1] (iSeq (eC c_BASES)) (gNm 1) (fun _ => pureM true) (eCall m_stands (aVal (eVar 0) (aVal (eVar 1) (aNil))))) (lNil)))))
def m_prime : List Sl → M D := argN 1 (runF 2 b_prime)
def b_is_prime : SM := sRet (eAnd (eCall m_is_whole (aVal (eVar 0) (aNil))) (eAnd (eChain leM ltM (eC (.int 0)) (eVar 0) (eC c_MOST)) (eCall m_prime (aVal (eVar 0) (aNil)))))
def m_is_prime : List Sl → M D := argN 1 (runF 1 b_is_prime)
def b_need_prime : SM := sIf (bOr (bNot (eB (eCall m_is_within (aVal (eVar 0) (aVal (eC (.int 0)) (aVal (eC c_MOST_CHARACTERISTIC) (aNil))))))) (bAnd (eB (e2 neM (eVar 0) (eC (.int 0)))) (bNot (eB (eCall m_is_prime (aVal (eVar 0) (aNil))))))) (sNo) (sNx)
def m_need_prime : List Sl → M D := argN 2 (runF 2 b_need_prime)
def b_is_in : SM := sSeq (sAsg 2 (eCall m_need_where (aVal (eVar 0) (aVal (eC (.str "where")) (aNil))))) (sSeq (sExpr (eCall (fun as => m_need_prime (as ++ ([(.str "prime")] : List D).map .val)) (aVal (eVar 1) (aNil)))) (sRet (eCall m_has (aVal (eVar 2) (aVal (eVar 1) (aNil))))))
def m_is_in : List Sl → M D := argN 2 (runF 3 b_is_in)
def b_is_same : SM := sSeq (sIf (eB (e2 neM (e2 ixM (eVar 0) (eC (.int 0))) (e2 ixM (eVar 1) (eC (.int 0))))) (sRet (eC (.bl false))) (sNx)) (sRet (eAnd (e2 eqM (eCall m_without_primes (aVal (e2 ixM (eVar 0) (eC (.int 1))) (aVal (e2 ixM (eVar 1) (eC (.int 1))) (aNil)))) (eC (.int 1))) (e2 eqM (eCall m_without_primes (aVal (e2 ixM (eVar 1) (eC (.int 1))) (aVal (e2 ixM (eVar 0) (eC (.int 1))) (aNil)))) (eC (.int 1)))))
def m_is_same : List Sl → M D := argN 2 (runF 2 b_is_same)
def b_are_same : SM := sRet (eCall m_is_same (aVal (eCall m_need_where (aVal (eVar 0) (aVal (eC (.str "one")) (aNil)))) (aVal (eCall m_need_where (aVal (eVar 1) (aVal (eC (.str "other")) (aNil)))) (aNil))))
def m_are_same : List Sl → M D := argN 2 (runF 2 b_are_same)
def b__law_sets_alike : SM := sSeq (sIf (bOr (bNot (eB (eIsi ["tuple"] (eVar 0)))) (bOr (eB (e2 neM (eL lenM (lCons (eVar 0) (lNil))) (eC (.int 2)))) (bOr (eB (e2 notInM (e2 ixM (eVar 0) (eC (.int 0))) (eTup (lCons (eC (.str "only")) (lCons (eC (.str "but")) (lNil)))))) (bOr (eB (eIsi ["bool"] (e2 ixM (eVar 0) (eC (.int 1))))) (bOr (bNot (eB (eIsi ["int"] (e2 ixM (eVar 0) (eC (.int 1)))))) (eB (e2 ltM (e2 ixM (eVar 0) (eC (.int 1))) (eC (.int 1))))))))) (sRet (eC (.bl false))) (sNx)) (sRet (e2 eqM (eLc [2] (iSeq (eCall m__law_primes (aVal (eC (.int 97)) (aNil)))) (gNm 2) (eB (e2 neM (eCall m__law_has (aVal (eVar 0) (aVal (eVar 2) (aNil)))) (eCall m__law_has (aVal (eVar 1) (aVal (eVar 2) (aNil)))))) (eVar 2)) (eLst (lNil))))
def m__law_sets_alike : List Sl → M D := argN 2 (runF 3 b__law_sets_alike)
def b_need_whole : SM := sSeq (sIf (bNot (eB (eCall m_is_within (aVal (eVar 1) (aVal (eVar 2) (aVal (eVar 3) (aNil))))))) (sNo) (sNx)) (sRet (eVar 1))
def m_need_whole : List Sl → M D := argN 4 (runF 4 b_need_whole)
def b_parts_found : SM := sSeq (sParL 1 2 (lNil) (eC (.int 2))) (sSeq (sWhile (fuelV 0) (bAnd (eB (e2 ltM (eVar 2) (eC c_SMALL))) (eB (e2 leM (e2 mulM (eVar 2) (eVar 2)) (eVar 0)))) (sSeq (sAsg 3 (eC (.int 0))) (sSeq (sWhile (fun _ => 100000) (eB (e2 eqM (e2 modM (eVar 0) (eVar 2)) (eC (.int 0)))) (sPar 0 3 (lCons (e2 fdivM (eVar 0) (eVar 2)) (lCons (e2 addM (eVar 3) (eC (.int 1))) (lNil))))) (sSeq (sIf (eB (e2 gtM (eVar 3) (eC (.int 0)))) (sApp 1 (eTup (lCons (eVar 2) (lCons (eVar 3) (lNil))))) (sNx)) (sAug 2 iaddM (eIf (eB (e2 eqM (eVar 2) (eC (.int 2)))) (eC (.int 1)) (eC (.int 2)))))))) (sFrz 1 (sRet (eTup (lCons (eVar 1) (lCons (eVar 0) (lNil)))))))
def m_parts_found : List Sl → M D := argN 1 (runF 4 b_parts_found)
def b_parted : SM := sSeq (sExpr (eCall (fun as => m_need_whole (as ++ ([.non] : List D).map .val)) (aVal (eC (.str "number")) (aVal (eVar 0) (aVal (eC (.int 1)) (aNil)))))) (sSeq (sAsgT (eCall m_parts_found (aVal (eVar 0) (aNil))) (gTp 2 (gsCons (gNm 1) (gsCons (gNm 2) (gsNil))))) (sSeq (sIf (eB (e2 eqM (eVar 2) (eC (.int 1)))) (sRet (eL tupleM (lCons (eVar 1) (lNil)))) (sNx)) (sSeq (sIf (bOr (eB (e2 geM (eVar 2) (eC c_MOST))) (bNot (eB (eCall m_prime (aVal (eVar 2) (aNil)))))) (sNo) (sNx)) (sRet (eTup (lStar (eVar 1) (lCons (eTup (lCons (eVar 2) (lCons (eC (.int 1)) (lNil)))) (lNil))))))))
def m_parted : List Sl → M D := argN 1 (runF 3 b_parted)
def b_primes_of : SM := sRet (eL tupleM (lCons (eLc [1, 2] (iSeq (eCall m_parted (aVal (eVar 0) (aNil)))) (gTp 2 (gsCons (gNm 1) (gsCons (gNm 2) (gsNil)))) (fun _ => pureM true) (eVar 1)) (lNil)))
def m_primes_of : List Sl → M D := argN 1 (runF 3 b_primes_of)
def b_told_primes : SM := sRet (eCall m_primes_of (aVal (e2 ixM (eCall m_need_where (aVal (eVar 0) (aVal (eC (.str "where")) (aNil)))) (eC (.int 1))) (aNil)))
def m_told_primes : List Sl → M D := argN 1 (runF 1 b_told_primes)
def b_law : SM := sSeq (sAsg 2 (eCall m__law_primes (aVal (eC (.int 97)) (aNil)))) (sSeq (sFor (iL (lCons (eC (.int 8)) (lNil))) (gNm 3) (sSeq (sAsgT (eTup (lCons (eCall m__law_set (aPen 1 (aNil))) (lCons (eCall m__law_set (aPen 1 (aNil))) (lNil)))) (gTp 2 (gsCons (gNm 4) (gsCons (gNm 5) (gsNil))))) (sSeq (sPar3 6 7 8 (lCons (eCall m_meet (aVal (eVar 4) (aVal (eVar 5) (aNil)))) (lCons (eCall m_join (aVal (eVar 4) (aVal (eVar 5) (aNil)))) (lCons (eCall m_others (aVal (eVar 4) (aNil))) (lNil))))) (sSeq (sFor (iSeq (eVar 2)) (gNm 9) (sSeq (sAsg 10 (eLst (lCons (eCall m__law_has (aVal (eVar 4) (aVal (eVar 9) (aNil)))) (lCons (eCall m__law_has (aVal (eVar 5) (aVal (eVar 9) (aNil)))) (lNil))))) (sIf (bOr (eB (e2 neM (eLst (lCons (eCall m__law_has (aVal (eVar 6) (aVal (eVar 9) (aNil)))) (lCons (eCall m__law_has (aVal (eVar 7) (aVal (eVar 9) (aNil)))) (lCons (eCall m__law_has (aVal (eVar 8) (aVal (eVar 9) (aNil)))) (lNil))))) (eLst (lCons (eAnd (e2 ixM (eVar 10) (eC (.int 0))) (e2 ixM (eVar 10) (eC (.int 1)))) (lCons (eOr (e2 ixM (eVar 10) (eC (.int 0))) (e2 ixM (eVar 10) (eC (.int 1)))) (lCons (eNot (e2 ixM (eVar 10) (eC (.int 0)))) (lNil))))))) (eB (e2 neM (eL reprM (lCons (eCall m_is_in (aVal (eVar 4) (aVal (eVar 9) (aNil)))) (lNil))) (eL reprM (lCons (e2 ixM (eVar 10) (eC (.int 0))) (lNil)))))) (sRet (eC (.bl false))) (sNx)))) (sSeq (sAsg 11 (e2 eqM (eLc [9] (iSeq (eVar 2)) (gNm 9) (eB (e2 neM (eCall m__law_has (aVal (eVar 4) (aVal (eVar 9) (aNil)))) (eCall m__law_has (aVal (eVar 5) (aVal (eVar 9) (aNil)))))) (eVar 9)) (eLst (lNil)))) (sSeq (sIf (bOr (eB (e2 neM (eL reprM (lCons (eCall m_are_same (aVal (eVar 4) (aVal (eVar 5) (aNil)))) (lNil))) (eL reprM (lCons (eVar 11) (lNil))))) (bOr (eB (e2 neM (eCallK m_are_same [1, 0] (lCons (eL listM (lCons (eVar 5) (lNil))) (lCons (eL listM (lCons (eVar 4) (lNil))) (lNil)))) (eVar 11))) (bOr (bNot (eB (eCall m__law_sets_alike (aVal (eVar 6) (aVal (eVar 6) (aNil)))))) (bNot (eB (eCall m__law_sets_alike (aVal (eVar 7) (aVal (eVar 7) (aNil))))))))) (sRet (eC (.bl false))) (sNx)) (sSeq (sIf (bOr (eB (e2 neM (eCallK m_meet [1, 0] (lCons (eL listM (lCons (eVar 5) (lNil))) (lCons (eL listM (lCons (eVar 4) (lNil))) (lNil)))) (eVar 6))) (bOr (eB (e2 neM (eCallK m_join [1, 0] (lCons (eVar 5) (lCons (eVar 4) (lNil)))) (eVar 7))) (bOr (eB (e2 neM (eCallK m_others [0] (lCons (eL listM (lCons (eVar 4) (lNil))) (lNil))) (eVar 8))) (eB (e2 neM (eCallK m_is_in [1, 0] (lCons (eC (.int 13)) (lCons (eL listM (lCons (eVar 4) (lNil))) (lNil)))) (eCall m__law_has (aVal (eVar 4) (aVal (eC (.int 13)) (aNil))))))))) (sRet (eC (.bl false))) (sNx)) (sSeq (sIf (eB (e2 neM (eL reprM (lCons (eCallK m_told_primes [0] (lCons (eVar 4) (lNil))) (lNil))) (eL reprM (lCons (eL tupleM (lCons (eLc [9] (iSeq (eSlL (eVar 2) (oSome (eC (.int 1))) (oNone))) (gNm 9) (eB (e2 eqM (e2 modM (eL toIntM (lCons (e2 ixM (eVar 4) (eC (.int 1))) (lNil))) (eVar 9)) (eC (.int 0)))) (eVar 9)) (lNil))) (lNil))))) (sRet (eC (.bl false))) (sNx)) (sIf (bOr (eB (e2 notBM (eCall m_are_same (aVal (eCall m_meet (aVal (eVar 4) (aVal (eCall m_join (aVal (eVar 4) (aVal (eVar 5) (aNil)))) (aNil)))) (aVal (eVar 4) (aNil)))) (eC (.bl true)))) (eB (e2 notBM (eCall m_are_same (aVal (eCall m_others (aVal (eCall m_meet (aVal (eVar 4) (aVal (eVar 5) (aNil)))) (aNil))) (aVal (eCall m_join (aVal (eCall m_others (aVal (eVar 4) (aNil))) (aVal (eCall m_others (aVal (eVar 5) (aNil))) (aNil)))) (aNil)))) (eC (.bl true))))) (sRet (eC (.bl false))) (sNx)))))))))) (sSeq (sAsgT (eTup (lCons (eC (.int 1)) (lCons (eC (.int 1)) (lNil)))) (gTp 2 (gsCons (gNm 12) (gsCons (gNm 13) (gsNil))))) (sSeq (sFor (iL (lCons (e2 addM (eC (.int 40)) (eCall m__law_draw (aPen 1 (aVal (eC (.int 260)) (aNil))))) (lNil))) (gNm 3) (sAsg 12 (e2 mulM (eVar 12) (eC (.int 101))))) (sSeq (sFor (iL (lCons (e2 addM (eC (.int 100)) (eCall m__law_draw (aPen 1 (aVal (eC (.int 2900)) (aNil))))) (lNil))) (gNm 3) (sAsg 13 (e2 mulM (eC (.int 2)) (eVar 13)))) (sSeq (sIf (eB (e2 neM (eLst (lCons (eCall m_are_same (aVal (eTup (lCons (eC (.str "only")) (lCons (eVar 13) (lNil)))) (aVal (eTup (lCons (eC (.str "only")) (lCons (eC (.int 2)) (lNil)))) (aNil)))) (lCons (eCall m_are_same (aVal (eTup (lCons (eC (.str "but")) (lCons (eC (.int 6)) (lNil)))) (aVal (eTup (lCons (eC (.str "but")) (lCons (e2 mulM (eC (.int 3)) (eVar 13)) (lNil)))) (aNil)))) (lCons (e2 ixM (eCall m_meet (aVal (eTup (lCons (eC (.str "only")) (lCons (e2 mulM (eC (.int 3)) (eVar 13)) (lNil)))) (aVal (eTup (lCons (eC (.str "but")) (lCons (eC (.int 2)) (lNil)))) (aNil)))) (eC (.int 0))) (lNil))))) (eLst (lCons (eC (.bl true)) (lCons (eC (.bl true)) (lCons (eC (.str "only")) (lNil))))))) (sRet (eC (.bl false))) (sNx)) (sSeq (sIf (bOr (eB (e2 notBM (eCall m_are_same (aVal (eCall m_meet (aVal (eTup (lCons (eC (.str "only")) (lCons (e2 mulM (eC (.int 3)) (eVar 13)) (lNil)))) (aVal (eTup (lCons (eC (.str "but")) (lCons (eC (.int 2)) (lNil)))) (aNil)))) (aVal (eTup (lCons (eC (.str "only")) (lCons (eC (.int 3)) (lNil)))) (aNil)))) (eC (.bl true)))) (eB (e2 neM (eCall m_told_primes (aVal (eTup (lCons (eC (.str "only")) (lCons (eVar 13) (lNil)))) (aNil))) (eTup (lCons (eC (.int 2)) (lNil)))))) (sRet (eC (.bl false))) (sNx)) (sSeq (sIf (bNot (bAnd (eB (e2 isBM (eCall m_are_same (aVal (eTup (lCons (eC (.str "only")) (lCons (eVar 12) (lNil)))) (aVal (eTup (lCons (eC (.str "only")) (lCons (eC (.int 101)) (lNil)))) (aNil)))) (eC (.bl true)))) (bAnd (eB (e2 isBM (eCall m_are_same (aVal (eTup (lCons (eC (.str "but")) (lCons (e2 mulM (eVar 12) (eC (.int 3))) (lNil)))) (aVal (eTup (lCons (eC (.str "but")) (lCons (eC (.int 303)) (lNil)))) (aNil)))) (eC (.bl true)))) (eB (e2 eqM (eCall m_meet (aVal (eTup (lCons (eC (.str "only")) (lCons (eVar 12) (lNil)))) (aVal (eTup (lCons (eC (.str "but")) (lCons (eC (.int 101)) (lNil)))) (aNil)))) (eTup (lCons (eC (.str "only")) (lCons (eC (.int 1)) (lNil))))))))) (sRet (eC (.bl false))) (sNx)) (sRet (e2 isBM (eCall m_is_in (aVal (eTup (lCons (eC (.str "only")) (lCons (eVar 12) (lNil)))) (aVal (eC (.int 101)) (aNil)))) (eC (.bl true)))))))))))
end Law
set_option linter.all false
set_option maxRecDepth 100000
namespace Law
open PySem PySem.Spec PyProof.Rows L2 DL
theorem nat_small {x : Int} (h0 : 0 ≤ x) (h : x < 18446744073709551616) : x.natAbs < 18446744073709551616 := by omega
theorem mix_bounds {cell at_ : Int} {n : Nat} (hn : n ≤ 4000000) (g1 : 0 ≤ at_) (g2 : at_ ≤ (n : Int)) :
    (cell % 2147483549 + 81239 * at_ + 2903).natAbs < 18446744073709551616 ∧
    (((cell % 2147483549 + 81239 * at_ + 2903) ^ 5 % 2147483563) * (2 * at_ + 2903) + 73061 * at_ * at_ + 81239).natAbs < 18446744073709551616 ∧
    mulOk ((cell % 2147483549 + 81239 * at_ + 2903) ^ 5 % 2147483563) (2 * at_ + 2903) = true ∧ mulOk (73061 * at_) at_ = true := by
  have c1 := Int.emod_nonneg cell (show (2147483549 : Int) ≠ 0 by decide)
  have c2 := Int.emod_lt_of_pos cell (show (0 : Int) < 2147483549 by decide)
  have d1 := Int.emod_nonneg ((cell % 2147483549 + 81239 * at_ + 2903) ^ 5) (show (2147483563 : Int) ≠ 0 by decide)
  have d2 := Int.emod_lt_of_pos ((cell % 2147483549 + 81239 * at_ + 2903) ^ 5) (show (0 : Int) < 2147483563 by decide)
  generalize (cell % 2147483549 + 81239 * at_ + 2903) ^ 5 % 2147483563 = m at *
  have a1 : at_ ≤ 4000000 := by omega
  have m1 : m * (2 * at_ + 2903) ≤ 2147483563 * 8002903 := Int.mul_le_mul (by omega) (by omega) (by omega) (by omega)
  have m0 : 0 ≤ m * (2 * at_ + 2903) := Int.mul_nonneg d1 (by omega)
  have q1 : 73061 * at_ * at_ ≤ (73061 * 4000000) * 4000000 := Int.mul_le_mul (by omega) a1 g1 (by omega)
  have q0 : 0 ≤ 73061 * at_ * at_ := Int.mul_nonneg (by omega) g1
  refine ⟨by omega, by omega, ?_, ?_⟩
  · unfold mulOk
    simp
    omega
  · unfold mulOk
    simp
    omega
theorem ints_at {ns : List Int} {i : Int} (h0 : 0 ≤ i) (h1 : i < ns.length) : ∃ c, ixM (.lst (ns.map .int)) (.int i) = pureM (.int c) := by
  have hi : i.toNat < ns.length := by omega
  refine ⟨ns[i.toNat], ixM_lst (j := i.toNat) (by omega) ?_⟩
  rw [List.getElem?_map, List.getElem?_eq_getElem hi]
  rfl
theorem draw_ok {st : Pen} {n : Nat} (g : PenGood st n) (hn : n ≤ 4000000) {many : Int} (h1 : 0 < many) (h2 : many.natAbs.log2 < 9000) :
    ∃ r st', m__law_draw [.pen, .val (.int many)] st = some (.ok (.int r), st') ∧ 0 ≤ r ∧ r < many ∧ PenGood st' (n + 1) := by
  obtain ⟨cells, at_, left⟩ := st
  obtain ⟨g1, g2, g3⟩ := g
  dsimp only at g1 g2 g3
  by_cases hl : 0 < left
  · refine ⟨left % many, ⟨cells, at_, left / many⟩, ?_, Int.emod_nonneg _ (by omega), Int.emod_lt_of_pos _ h1, g1, by dsimp only; omega, Int.ediv_nonneg (by omega) (by omega)⟩
    simp [m__law_draw, b__law_draw, Pen.at', Pen.put, hl, h1, h2]
  · have mk : mulOk 73061 at_ = true := by simp [mulOk]
    have mk2 : mulOk 81239 at_ = true := by simp [mulOk]
    have mk3 : mulOk 2 at_ = true := by simp [mulOk]
    have l64 : Nat.log2 64 < 9000 := by decide
    -- what comes of the mixing
    have fin : ∀ (cell : Int), ∃ r, (let mx := ((((cell % 2147483549 + 81239 * at_ + 2903) ^ 5 % 2147483563) * (2 * at_ + 2903) + 73061 * at_ * at_ + 81239) ^ 3 % 2147483587); mx / 64 % many) = r ∧ 0 ≤ r ∧ r < many := fun cell => ⟨_, rfl, Int.emod_nonneg _ (by omega), Int.emod_lt_of_pos _ h1⟩
    by_cases hc : cells = []
    · subst hc
      obtain ⟨b1, b2, b3, b4⟩ := mix_bounds (cell := 73061 * at_ + 15307) hn g1 g2
      obtain ⟨r, hr, r0, r1⟩ := fin (73061 * at_ + 15307)
      have e0 := neM_ints_nil []
      simp only [List.map_nil, List.isEmpty_nil, Bool.not_true] at e0
      have ng : ¬ at_ < 0 := by omega
      refine ⟨r, ⟨[], at_ + 1, left⟩, ?_, r0, r1, by dsimp only; omega, by dsimp only; omega, g3⟩
      simp [m__law_draw, b__law_draw, Pen.at', Pen.put, hl, h1, h2, mk, mk2, mk3, l64, b1, b2, b3, b4, e0, ng, hr]
    · have hlen : 0 < cells.length := List.length_pos_iff.mpr hc
      obtain ⟨c, hcell⟩ := ints_at (ns := cells) (i := at_ % cells.length) (Int.emod_nonneg _ (by omega)) (Int.emod_lt_of_pos _ (by omega))
      have e0 := neM_ints_nil cells
      have e1 : cells.isEmpty = false := by simpa using hc
      rw [e1] at e0
      obtain ⟨b1, b2, b3, b4⟩ := mix_bounds (cell := c) hn g1 g2
      obtain ⟨r, hr, r0, r1⟩ := fin c
      by_cases hg : at_ < (cells.length : Int) ∧ 10 ^ 18 ≤ (if c < 0 then -c else c)
      · obtain ⟨hg1, hg2⟩ := hg
        refine ⟨(2 * ((if c < 0 then -c else c) - 1000000000000000000) + (if c < 0 then 1 else 0)) % many, ⟨cells, at_ + 1, (2 * ((if c < 0 then -c else c) - 1000000000000000000) + (if c < 0 then 1 else 0)) / many⟩, ?_, Int.emod_nonneg _ (by omega), Int.emod_lt_of_pos _ h1, by dsimp only; omega, by dsimp only; omega, ?_⟩
        · have mk5 : ∀ x, mulOk 2 x = true := fun x => by simp [mulOk]
          have hg3 : (1000000000000000000 : Int) ≤ (if c < 0 then -c else c) := by simpa using hg2
          simp [m__law_draw, b__law_draw, Pen.at', Pen.put, hl, h1, h2, mk, mk2, mk3, l64, mk5, e0, hcell, hlen, hg1, hg3]
        · dsimp only
          refine Int.ediv_nonneg ?_ (by omega)
          have hg3 : (1000000000000000000 : Int) ≤ (if c < 0 then -c else c) := by simpa using hg2
          split <;> omega
      · have hg' : ¬ (at_ < (cells.length : Int) ∧ (1000000000000000000 : Int) ≤ (if c < 0 then -c else c)) := by simpa using hg
        refine ⟨r, ⟨cells, at_ + 1, left⟩, ?_, r0, r1, by dsimp only; omega, by dsimp only; omega, g3⟩
        by_cases hg1 : at_ < (cells.length : Int)
        · have hg2 : ¬ ((1000000000000000000 : Int) ≤ (if c < 0 then -c else c)) := fun z => hg' ⟨hg1, z⟩
          simp [m__law_draw, b__law_draw, Pen.at', Pen.put, hl, h1, h2, mk, mk2, mk3, l64, b1, b2, b3, b4, e0, hcell, hlen, hg1, hg2, hr]
        · simp [m__law_draw, b__law_draw, Pen.at', Pen.put, hl, h1, h2, mk, mk2, mk3, l64, b1, b2, b3, b4, e0, hcell, hlen, hg1, hr]
end Law
set_option linter.all false
set_option maxRecDepth 100000
namespace Law
open PySem PySem.Spec PyProof.Rows L2 DL
/-! ### sets of characteristics as data -/
def wordS (b : Bool) : D := .str (if b = true then "only" else "but")
def dS (b : Bool) (n : Nat) : D := .tup [wordS b, .int n]
def dL (b : Bool) (n : Nat) : D := .lst [wordS b, .int n]
@[simp] theorem wordS_t : wordS true = .str "only" := rfl
@[simp] theorem wordS_f : wordS false = .str "but" := rfl
@[simp] theorem eIsi_ap (cs : List String) (f : EM) (env : List Sl) : eIsi cs f env = bindM (f env) fun d => match tyName d with
  | none => failM
  | some n => match kitAnyB n cs with
    | none => failM
    | some b => pureM (.bl b) := rfl
@[simp] theorem ty_int (i : Int) : tyName (.int i) = some "int" := rfl
@[simp] theorem ty_str (i : Str) : tyName (.str i) = some "str" := rfl
@[simp] theorem ty_lst (i : List D) : tyName (.lst i) = some "list" := rfl
@[simp] theorem ty_tup (i : List D) : tyName (.tup i) = some "tuple" := rfl
@[simp] theorem kit1 : kitAnyB "int" ["int"] = some true := by decide +kernel
@[simp] theorem kit2 : kitAnyB "int" ["bool"] = some false := by decide +kernel
@[simp] theorem kit3 : kitAnyB "list" ["list", "tuple"] = some true := by decide +kernel
@[simp] theorem kit4 : kitAnyB "tuple" ["list", "tuple"] = some true := by decide +kernel
@[simp] theorem kit5 : kitAnyB "str" ["str"] = some true := by decide +kernel
@[simp] theorem kit6 : kitAnyB "tuple" ["tuple"] = some true := by decide +kernel
@[simp] theorem eq_oo : eqM (.str "only") (.str "only") = pureM (.bl true) := by
  unfold eqM
  rw [if_pos (by decide +kernel), show eqD (.str "only") (.str "only") = true by decide +kernel]
@[simp] theorem eq_bb : eqM (.str "but") (.str "but") = pureM (.bl true) := by
  unfold eqM
  rw [if_pos (by decide +kernel), show eqD (.str "but") (.str "but") = true by decide +kernel]
@[simp] theorem eq_ob : eqM (.str "only") (.str "but") = pureM (.bl false) := by
  unfold eqM
  rw [if_pos (by decide +kernel), show eqD (.str "only") (.str "but") = false by decide +kernel]
@[simp] theorem eq_bo : eqM (.str "but") (.str "only") = pureM (.bl false) := by
  unfold eqM
  rw [if_pos (by decide +kernel), show eqD (.str "but") (.str "only") = false by decide +kernel]
@[simp] theorem ne_oo : neM (.str "only") (.str "only") = pureM (.bl false) := by
  unfold neM
  rw [if_pos (by decide +kernel), show eqD (.str "only") (.str "only") = true by decide +kernel]
  rfl
@[simp] theorem ne_bb : neM (.str "but") (.str "but") = pureM (.bl false) := by
  unfold neM
  rw [if_pos (by decide +kernel), show eqD (.str "but") (.str "but") = true by decide +kernel]
  rfl
@[simp] theorem ne_ob : neM (.str "only") (.str "but") = pureM (.bl true) := by
  unfold neM
  rw [if_pos (by decide +kernel), show eqD (.str "only") (.str "but") = false by decide +kernel]
  rfl
@[simp] theorem ne_bo : neM (.str "but") (.str "only") = pureM (.bl true) := by
  unfold neM
  rw [if_pos (by decide +kernel), show eqD (.str "but") (.str "only") = false by decide +kernel]
  rfl
@[simp] theorem notIn_o : notInM (.str "only") c_WORDS = pureM (.bl false) := rfl
@[simp] theorem notIn_b : notInM (.str "but") c_WORDS = pureM (.bl false) := rfl
@[simp] theorem notIn_o' : notInM (.str "only") (.tup [.str "only", .str "but"]) = pureM (.bl false) := rfl
@[simp] theorem notIn_b' : notInM (.str "but") (.tup [.str "only", .str "but"]) = pureM (.bl false) := rfl
@[simp] theorem c_BUT_eq : c_BUT = .str "but" := rfl
@[simp] theorem c_ONLY_eq : c_ONLY = .str "only" := rfl
@[simp] theorem c_MOST_eq : c_MOST = .int 1000000000000000000000000 := rfl
@[simp] theorem c_MOST_CHARACTERISTIC_eq : c_MOST_CHARACTERISTIC = .int 1000000000000 := rfl
@[simp] theorem c_SMALL_eq : c_SMALL = .int 100000 := rfl
@[simp] theorem isNM_non : isNM .non .non = pureM (.bl true) := rfl
@[simp] theorem isNM_int (i : Int) : isNM (.int i) .non = pureM (.bl false) := rfl
@[simp] theorem size2 : (2 : Nat) ≤ sizeLine := by decide
@[simp] theorem size1 : (1 : Nat) ≤ sizeLine := by decide
@[simp] theorem size3 : (3 : Nat) ≤ sizeLine := by decide
@[simp] theorem size0 : (0 : Nat) ≤ sizeLine := by decide
@[simp] theorem is_whole_int (i : Int) (st : Pen) : m_is_whole [.val (.int i)] st = some (.ok (.bl true), st) := by
  simp [m_is_whole, b_is_whole]
theorem need_where_t {b : Bool} {n : Nat} (h : 1 ≤ n) (part : D) (st : Pen) : m_need_where [.val (dS b n), .val part] st = some (.ok (dS b n), st) := by
  have h' : (1 : Int) ≤ n := by omega
  cases b <;> simp [m_need_where, b_need_where, dS, m_is_where, b_is_where, m_is_listed, b_is_listed, m_is_within, b_is_within, h']
theorem need_where_l {b : Bool} {n : Nat} (h : 1 ≤ n) (part : D) (st : Pen) : m_need_where [.val (dL b n), .val part] st = some (.ok (dS b n), st) := by
  have h' : (1 : Int) ≤ n := by omega
  cases b <;> simp [m_need_where, b_need_where, dS, dL, m_is_where, b_is_where, m_is_listed, b_is_listed, m_is_within, b_is_within, h']
theorem turned_ok (b : Bool) (n : Nat) (st : Pen) : m_turned_set [.val (dS b n)] st = some (.ok (dS (!b) n), st) := by
  cases b <;> simp [m_turned_set, b_turned_set, dS, m_other_word, b_other_word]
theorem others_t {b : Bool} {n : Nat} (h : 1 ≤ n) (st : Pen) : m_others [.val (dS b n)] st = some (.ok (dS (!b) n), st) := by
  simp [m_others, b_others, need_where_t h, turned_ok]
theorem others_l {b : Bool} {n : Nat} (h : 1 ≤ n) (st : Pen) : m_others [.val (dL b n)] st = some (.ok (dS (!b) n), st) := by
  simp [m_others, b_others, need_where_l h, turned_ok]
/-! ### loops -/
theorem whileD_true {c : List Sl → M Bool} {u : SM} {n : Nat} {env e : List Sl} {st st1 s : Pen} (hc : c env st = some (.ok true, st1)) (hb : u env st1 = some (.ok .nx, e, s)) : whileD c u (n + 1) env st = whileD c u n e s := by
  show DL.liftM c _ env st = _
  unfold DL.liftM
  rw [hc]
  dsimp only
  rw [if_pos rfl, hb]
theorem whileD_false {c : List Sl → M Bool} {u : SM} {n : Nat} {env : List Sl} {st st1 : Pen} (hc : c env st = some (.ok false, st1)) : whileD c u (n + 1) env st = some (.ok .nx, env, st1) := by
  show DL.liftM c _ env st = _
  unfold DL.liftM
  rw [hc]
  rfl
theorem forD_cons {F : D → List Sl → Option (List Sl)} {u : SM} {d : D} {ds : List D} {env env1 e : List Sl} {st s : Pen} (hF : F d env = some env1) (hb : u env1 st = some (.ok .nx, e, s)) : forD F u (d :: ds) env st = forD F u ds e s := by
  rw [forD, hF]
  dsimp only
  rw [hb]
theorem forD_inv {F : D → List Sl → Option (List Sl)} {u : SM} (I : Nat → List Sl → Pen → Prop) : ∀ (ds : List D) (k : Nat) (env : List Sl) (st : Pen), I k env st →
    (∀ d ∈ ds, ∀ j, k ≤ j → j < k + ds.length → ∀ env st, I j env st → ∃ env1 e s, F d env = some env1 ∧ u env1 st = some (.ok .nx, e, s) ∧ I (j + 1) e s) →
    ∃ e s, forD F u ds env st = some (.ok .nx, e, s) ∧ I (k + ds.length) e s
  | [], k, env, st, h, _ => ⟨env, st, rfl, h⟩
  | d :: ds, k, env, st, h, hs => by
    obtain ⟨env1, e, s, h1, h2, h3⟩ := hs d (List.mem_cons_self) k (Nat.le_refl _) (by simp) env st h
    obtain ⟨e', s', h4, h5⟩ := forD_inv I ds (k + 1) e s h3 fun d' hd j h6 h7 => hs d' (List.mem_cons_of_mem _ hd) j (by omega) (by simp only [List.length_cons]; omega)
    refine ⟨e', s', by rw [forD_cons h1 h2]; exact h4, ?_⟩
    rw [List.length_cons, show k + (ds.length + 1) = k + 1 + ds.length by omega]
    exact h5
/-! ### without the primes of another one -/
structure WP (n o r : Nat) : Prop where
  pos : 1 ≤ r
  dvd : r ∣ n
  cop : Nat.gcd r o = 1
  rest : ∃ j, n ∣ r * o ^ j
theorem wp_step {f g o r : Nat} (hg : g = Nat.gcd f o) (hf : 1 ≤ f) (w : WP (f / g) o r) : WP f o r := by
  have hgf : g ∣ f := by rw [hg]; exact Nat.gcd_dvd_left f o
  have hgo : g ∣ o := by rw [hg]; exact Nat.gcd_dvd_right f o
  obtain ⟨k, hk⟩ := hgf
  have g0 : 0 < g := by
    rcases Nat.eq_zero_or_pos g with z | z
    · rw [z, Nat.zero_mul] at hk; omega
    · exact z
  have e : f / g = k := by rw [hk, Nat.mul_div_cancel_left _ g0]
  rw [e] at w
  obtain ⟨j, hj⟩ := w.rest
  refine ⟨w.pos, ?_, w.cop, j + 1, ?_⟩
  · rw [hk]; exact Nat.dvd_trans w.dvd (Nat.dvd_mul_left k g)
  · rw [hk, Nat.pow_succ, Nat.mul_comm g k, ← Nat.mul_assoc]
    exact Nat.mul_dvd_mul hj hgo
theorem log2_le {a b : Nat} (h : a ≤ b) (hb : b.log2 < 9000) : a.log2 < 9000 := by
  rcases Nat.eq_zero_or_pos a with z | z
  · subst z; decide
  · have : a < 2 ^ 9000 := Nat.lt_of_le_of_lt h ((Nat.log2_lt (by omega)).mp hb)
    exact (Nat.log2_lt (by omega)).mpr this
def wpC : List Sl → M Bool := eB (e2 gtM (eL gcdM (lCons (eVar 2) (lCons (eVar 1) (lNil)))) (eC (.int 1)))
def wpB : SM := sAsg 2 (e2 fdivM (eVar 2) (eL gcdM (lCons (eVar 2) (lCons (eVar 1) (lNil)))))
theorem wpC_ok (n o f : Nat) (st : Pen) : wpC [.val (.int n), .val (.int o), .val (.int f)] st = some (.ok (decide ((1 : Int) < (Nat.gcd f o : Nat))), st) := by
  simp [wpC]
theorem wpB_ok (n o f : Nat) (st : Pen) (h : 0 < Nat.gcd f o) (hl : (Nat.gcd f o).log2 < 9000) : wpB [.val (.int n), .val (.int o), .val (.int f)] st = some (.ok .nx, [.val (.int n), .val (.int o), .val (.int ((f / Nat.gcd f o : Nat) : Int))], st) := by
  simp [wpB, h, hl]
theorem wp_loop {n o : Nat} (ho : 1 ≤ o) (hlo : o.log2 < 9000) (st : Pen) : ∀ (fuel f : Nat), 1 ≤ f → f < fuel → ∃ r, WP f o r ∧
    whileD wpC wpB fuel [.val (.int n), .val (.int o), .val (.int f)] st = some (.ok .nx, [.val (.int n), .val (.int o), .val (.int r)], st)
  | 0, f, _, h => absurd h (Nat.not_lt_zero _)
  | fuel + 1, f, hf, h => by
    have g0 : 0 < Nat.gcd f o := Nat.gcd_pos_of_pos_left _ hf
    have gle : Nat.gcd f o ≤ o := Nat.le_of_dvd ho (Nat.gcd_dvd_right f o)
    have hlg := log2_le gle hlo
    by_cases hg : 1 < Nat.gcd f o
    · have hd : f / Nat.gcd f o < f := Nat.div_lt_self hf hg
      have hp : 1 ≤ f / Nat.gcd f o := Nat.div_pos (Nat.le_of_dvd hf (Nat.gcd_dvd_left f o)) g0
      obtain ⟨r, w, e⟩ := wp_loop ho hlo st fuel (f / Nat.gcd f o) hp (by omega)
      refine ⟨r, wp_step rfl hf w, ?_⟩
      have hgi : decide ((1 : Int) < (Nat.gcd f o : Nat)) = true := by
        rw [decide_eq_true_iff]
        omega
      rw [whileD_true (by rw [wpC_ok, hgi]) (wpB_ok n o f st g0 hlg)]
      exact e
    · have h1 : Nat.gcd f o = 1 := by omega
      refine ⟨f, ⟨hf, Nat.dvd_refl _, h1, 0, by simp⟩, ?_⟩
      rw [whileD_false (by rw [wpC_ok, h1]; rfl)]
theorem wp_uniq {n o r r' : Nat} (w : WP n o r) (w' : WP n o r') : r' = r := by
  have c1 : r ∣ r' := by
    obtain ⟨j, hj⟩ := w'.rest
    exact Nat.Coprime.dvd_of_dvd_mul_right (Nat.Coprime.pow_right j w.cop) (Nat.dvd_trans w.dvd hj)
  have c2 : r' ∣ r := by
    obtain ⟨j, hj⟩ := w.rest
    exact Nat.Coprime.dvd_of_dvd_mul_right (Nat.Coprime.pow_right j w'.cop) (Nat.dvd_trans w'.dvd hj)
  exact Nat.dvd_antisymm c2 c1
theorem wp_ok {n o : Nat} (hn : 1 ≤ n) (ho : 1 ≤ o) (hlo : o.log2 < 9000) : ∃ r, WP n o r ∧ ∀ st : Pen, m_without_primes [.val (.int n), .val (.int o)] st = some (.ok (.int r), st) := by
  obtain ⟨r, w, e⟩ := wp_loop (n := n) ho hlo default (n + 1) n hn (by omega)
  refine ⟨r, w, fun st => ?_⟩
  obtain ⟨r', w', e'⟩ := wp_loop (n := n) ho hlo st (n + 1) n hn (by omega)
  rw [wp_uniq w w'] at e'
  have hb : b_without_primes = sSeq (sAsg 2 (eVar 0)) (sSeq (sWhile (fuelV 2) wpC wpB) (sRet (eVar 2))) := rfl
  have e2 : sSeq (sAsg 2 (eVar 0)) (sSeq (sWhile (fuelV 2) wpC wpB) (sRet (eVar 2))) [.val (.int n), .val (.int o), .no] st = some (.ok (.ret (.int r)), [.val (.int n), .val (.int o), .val (.int r)], st) := by
    simp [e']
  rw [← hb] at e2
  simp [m_without_primes, e2]
end Law
set_option linter.all false
set_option maxRecDepth 100000
namespace Law
open PySem PySem.Spec PyProof.Rows L2 DL
/-! ### the primes and what a set has -/
def PS : List Nat := [2, 3, 5, 7, 11, 13, 17, 19, 23, 29, 31, 37, 41, 43, 47, 53, 59, 61, 67, 71, 73, 79, 83, 89, 97]
def P0 : List Nat := 0 :: PS
def Q7 : List Nat := [2, 3, 5, 7, 11, 13, 97]
def bigM : Nat := 2 * 3 * 5 * 7 * 11 * 13 * 97
def IsP (p : Nat) : Prop := 2 ≤ p ∧ ∀ a b, p ∣ a * b → p ∣ a ∨ p ∣ b
theorem isP_of {p : Nat} (h : 2 ≤ p ∧ ∀ d < p + 1, p % d = 0 → d = 1 ∨ d = p) : IsP p := by
  refine ⟨h.1, fun a b hab => ?_⟩
  have hd : Nat.gcd p a ∣ p := Nat.gcd_dvd_left p a
  have hle : Nat.gcd p a ≤ p := Nat.le_of_dvd (by omega) hd
  rcases h.2 _ (by omega) (Nat.mod_eq_zero_of_dvd hd) with e | e
  · exact .inr (Nat.Coprime.dvd_of_dvd_mul_left e hab)
  · exact .inl (by rw [← e]; exact Nat.gcd_dvd_right p a)
theorem ps_isP : ∀ p ∈ PS, IsP p := by
  have h : ∀ p ∈ PS, 2 ≤ p ∧ ∀ d < p + 1, p % d = 0 → d = 1 ∨ d = p := by decide +kernel
  exact fun p hp => isP_of (h p hp)
theorem q7_sub : ∀ p ∈ Q7, p ∈ PS := by decide
theorem isP_pow {p a : Nat} (h : IsP p) : ∀ j, p ∣ a ^ j → p ∣ a
  | 0, d => by
    rw [Nat.pow_zero] at d
    have := Nat.le_of_dvd (by omega) d
    have := h.1
    omega
  | j + 1, d => by
    rw [Nat.pow_succ] at d
    rcases h.2 _ _ d with x | x
    · exact isP_pow h j x
    · exact x
theorem isP_cop {p a : Nat} (h : 2 ≤ p ∧ ∀ d < p + 1, p % d = 0 → d = 1 ∨ d = p) (hd : ¬ p ∣ a) : Nat.gcd a p = 1 := by
  have hd2 : Nat.gcd a p ∣ p := Nat.gcd_dvd_right a p
  have hle : Nat.gcd a p ≤ p := Nat.le_of_dvd (by omega) hd2
  rcases h.2 _ (by omega) (Nat.mod_eq_zero_of_dvd hd2) with e | e
  · exact e
  · exact absurd (by rw [← e]; exact Nat.gcd_dvd_left a p) hd
/-! smooth numbers -/
def Sm (n : Nat) : Prop := ∃ j, n ∣ bigM ^ j
theorem Sm.dvd {a b : Nat} (h : Sm b) (d : a ∣ b) : Sm a := by
  obtain ⟨j, hj⟩ := h
  exact ⟨j, Nat.dvd_trans d hj⟩
theorem Sm.mul {a b : Nat} (h : Sm a) (k : Sm b) : Sm (a * b) := by
  obtain ⟨j, hj⟩ := h
  obtain ⟨i, hi⟩ := k
  exact ⟨j + i, by rw [Nat.pow_add]; exact Nat.mul_dvd_mul hj hi⟩
theorem cop_big {r : Nat} (h : ∀ p ∈ Q7, ¬ p ∣ r) : Nat.gcd r bigM = 1 := by
  have f : ∀ p ∈ Q7, Nat.gcd r p = 1 := fun p hp => by
    have hh : ∀ p ∈ Q7, 2 ≤ p ∧ ∀ d < p + 1, p % d = 0 → d = 1 ∨ d = p := by decide +kernel
    exact isP_cop (hh p hp) (h p hp)
  unfold bigM
  exact Nat.Coprime.mul_right (Nat.Coprime.mul_right (Nat.Coprime.mul_right (Nat.Coprime.mul_right (Nat.Coprime.mul_right (Nat.Coprime.mul_right (f 2 (by decide)) (f 3 (by decide))) (f 5 (by decide))) (f 7 (by decide))) (f 11 (by decide))) (f 13 (by decide))) (f 97 (by decide))
theorem wp_one {n m r : Nat} (w : WP n m r) (hs : Sm n) (h : ∀ p ∈ Q7, p ∣ n → p ∣ m) : r = 1 := by
  obtain ⟨j, hj⟩ := hs
  have hr : r ∣ bigM ^ j := Nat.dvd_trans w.dvd hj
  have hc : Nat.gcd r bigM = 1 := cop_big fun p hp hd => by
    have hm := h p hp (Nat.dvd_trans hd w.dvd)
    have : p ∣ Nat.gcd r m := Nat.dvd_gcd hd hm
    rw [w.cop] at this
    have h2 := (ps_isP p (q7_sub p hp)).1
    have := Nat.le_of_dvd (by omega) this
    omega
  have := Nat.Coprime.eq_one_of_dvd (Nat.Coprime.pow_right j hc) hr
  exact this
theorem wp_one_pow {n m r j : Nat} (w : WP n m r) (h : n ∣ m ^ j) : r = 1 :=
  Nat.Coprime.eq_one_of_dvd (Nat.Coprime.pow_right j w.cop) (Nat.dvd_trans w.dvd h)
theorem of_wp_one {n m : Nat} (w : WP n m 1) {p : Nat} (hp : IsP p) (hd : p ∣ n) : p ∣ m := by
  obtain ⟨j, hj⟩ := w.rest
  rw [Nat.one_mul] at hj
  exact isP_pow hp j (Nat.dvd_trans hd hj)
theorem wp_dvd {n m r : Nat} (w : WP n m r) {p : Nat} (hp : IsP p) : p ∣ r ↔ p ∣ n ∧ ¬ p ∣ m := by
  constructor
  · intro h
    refine ⟨Nat.dvd_trans h w.dvd, fun hm => ?_⟩
    have : p ∣ Nat.gcd r m := Nat.dvd_gcd h hm
    rw [w.cop] at this
    have h2 := hp.1
    have := Nat.le_of_dvd (by omega) this
    omega
  · rintro ⟨h1, h2⟩
    obtain ⟨j, hj⟩ := w.rest
    rcases hp.2 _ _ (Nat.dvd_trans h1 hj) with x | x
    · exact x
    · exact absurd (isP_pow hp j x) h2
/-! what a set has -/
def hasN (b : Bool) (n p : Nat) : Bool := if p = 0 then !b else (decide (p ∣ n) == b)
def sameN (b : Bool) (n : Nat) (b' : Bool) (n' : Nat) : Bool := P0.all fun p => hasN b n p == hasN b' n' p
structure Gd (B n : Nat) : Prop where
  pos : 1 ≤ n
  sm : Sm n
  le : n ≤ 2 ^ B
theorem Gd.log {B n : Nat} (g : Gd B n) (h : B < 9000) : n.log2 < 9000 := by
  have h1 : n < 2 ^ (B + 1) := Nat.lt_of_le_of_lt g.le (Nat.pow_lt_pow_right (by omega) (by omega))
  have := (Nat.log2_lt (n := n) (k := B + 1) (by have := g.pos; omega)).mpr h1
  omega
theorem hasN_not (b : Bool) (n p : Nat) : hasN (!b) n p = !hasN b n p := by
  unfold hasN
  split
  · rfl
  · cases b <;> cases decide (p ∣ n) <;> rfl
theorem sameN_sym (b : Bool) (n : Nat) (b' : Bool) (n' : Nat) : sameN b n b' n' = sameN b' n' b n := by
  unfold sameN
  congr 1
  funext p
  cases hasN b n p <;> cases hasN b' n' p <;> rfl
theorem sameN_of {b : Bool} {n : Nat} {b' : Bool} {n' : Nat} (h : ∀ p ∈ P0, hasN b n p = hasN b' n' p) : sameN b n b' n' = true := by
  unfold sameN
  rw [List.all_eq_true]
  intro p hp
  rw [h p hp]
  simp
theorem lcm_dvd {p a b : Nat} (hp : IsP p) (ha : 1 ≤ a) : p ∣ a * b / Nat.gcd a b ↔ p ∣ a ∨ p ∣ b := by
  rw [show a * b / Nat.gcd a b = Nat.lcm a b from rfl]
  constructor
  · intro h
    have := Nat.dvd_trans h (Nat.lcm_dvd (Nat.dvd_mul_right a b) (Nat.dvd_mul_left b a))
    exact hp.2 _ _ this
  · rintro (h | h)
    · exact Nat.dvd_trans h (Nat.dvd_lcm_left a b)
    · exact Nat.dvd_trans h (Nat.dvd_lcm_right a b)
theorem isP_P0 {p : Nat} (h : p ∈ P0) (h0 : p ≠ 0) : IsP p := by
  rcases List.mem_cons.mp h with e | e
  · exact absurd e h0
  · exact ps_isP p e
theorem mulOk_nat {A B a b : Nat} (ga : Gd A a) (gb : Gd B b) (hA : A < 400000) (hB : B < 400000) : mulOk a b = true := by
  have h1 : a < 2 ^ (A + 1) := Nat.lt_of_le_of_lt ga.le (Nat.pow_lt_pow_right (by omega) (by omega))
  have h2 : b < 2 ^ (B + 1) := Nat.lt_of_le_of_lt gb.le (Nat.pow_lt_pow_right (by omega) (by omega))
  have e1 := (Nat.log2_lt (n := a) (k := A + 1) (by have := ga.pos; omega)).mpr h1
  have e2 := (Nat.log2_lt (n := b) (k := B + 1) (by have := gb.pos; omega)).mpr h2
  unfold mulOk
  rw [Bool.or_eq_true, Bool.or_eq_true]
  left; left
  rw [decide_eq_true_iff]
  show (a : Int).natAbs.log2 + (b : Int).natAbs.log2 < 1000000
  rw [Int.natAbs_natCast, Int.natAbs_natCast]
  omega
theorem met_ok {A B : Nat} {b c : Bool} {n m : Nat} (g : Gd A n) (h : Gd B m) (hA : A < 4000) (hB : B < 4000) :
    ∃ d k, (∀ st, m_met [.val (dS b n), .val (dS c m)] st = some (.ok (dS d k), st)) ∧ Gd (A + B) k ∧ ∀ p ∈ P0, hasN d k p = (hasN b n p && hasN c m p) := by
  have gp : 0 < Nat.gcd n m := Nat.gcd_pos_of_pos_left _ g.pos
  have gle : Nat.gcd n m ≤ n := Nat.le_of_dvd g.pos (Nat.gcd_dvd_left n m)
  have gl := log2_le gle (g.log (by omega))
  have hw : 2 ^ A ≤ 2 ^ (A + B) := Nat.pow_le_pow_right (by omega) (by omega)
  have hw' : 2 ^ B ≤ 2 ^ (A + B) := Nat.pow_le_pow_right (by omega) (by omega)
  cases b <;> cases c
  · refine ⟨false, n * m / Nat.gcd n m, fun st => ?_, ⟨?_, ?_, ?_⟩, fun p hp => ?_⟩
    · have mk := mulOk_nat g h (by omega) (by omega)
      simp [m_met, b_met, dS, mk, gp, gl]
    · exact Nat.div_pos (Nat.le_of_dvd (Nat.mul_pos g.pos h.pos) (Nat.dvd_trans (Nat.gcd_dvd_left n m) (Nat.dvd_mul_right n m))) gp
    · exact (g.sm.mul h.sm).dvd (Nat.div_dvd_of_dvd (Nat.dvd_trans (Nat.gcd_dvd_left n m) (Nat.dvd_mul_right n m)))
    · rw [Nat.pow_add]
      exact Nat.le_trans (Nat.div_le_self _ _) (Nat.mul_le_mul g.le h.le)
    · unfold hasN
      split
      · rfl
      · next h0 =>
        have := lcm_dvd (b := m) (isP_P0 hp h0) g.pos
        by_cases x : p ∣ n <;> by_cases y : p ∣ m <;> simp [this, x, y]
  · obtain ⟨r, w, e⟩ := wp_ok (n := m) (o := n) h.pos g.pos (g.log (by omega))
    refine ⟨true, r, fun st => ?_, ⟨w.pos, h.sm.dvd w.dvd, ?_⟩, fun p hp => ?_⟩
    · simp [m_met, b_met, dS, e]
    · exact Nat.le_trans (Nat.le_of_dvd h.pos w.dvd) (Nat.le_trans h.le hw')
    · unfold hasN
      split
      · rfl
      · next h0 =>
        have := wp_dvd w (isP_P0 hp h0)
        by_cases x : p ∣ n <;> by_cases y : p ∣ m <;> simp [this, x, y]
  · obtain ⟨r, w, e⟩ := wp_ok (n := n) (o := m) g.pos h.pos (h.log (by omega))
    refine ⟨true, r, fun st => ?_, ⟨w.pos, g.sm.dvd w.dvd, ?_⟩, fun p hp => ?_⟩
    · simp [m_met, b_met, dS, e]
    · exact Nat.le_trans (Nat.le_of_dvd g.pos w.dvd) (Nat.le_trans g.le hw)
    · unfold hasN
      split
      · rfl
      · next h0 =>
        have := wp_dvd w (isP_P0 hp h0)
        by_cases x : p ∣ n <;> by_cases y : p ∣ m <;> simp [this, x, y]
  · refine ⟨true, Nat.gcd n m, fun st => ?_, ⟨gp, g.sm.dvd (Nat.gcd_dvd_left n m), ?_⟩, fun p hp => ?_⟩
    · simp [m_met, b_met, dS]
    · exact Nat.le_trans gle (Nat.le_trans g.le hw)
    · unfold hasN
      split
      · rfl
      · next h0 =>
        have := Nat.dvd_gcd_iff (k := p) (m := n) (n := m)
        by_cases x : p ∣ n <;> by_cases y : p ∣ m <;> simp [this, x, y]
theorem joined_ok {A B : Nat} {b c : Bool} {n m : Nat} (g : Gd A n) (h : Gd B m) (hA : A < 4000) (hB : B < 4000) :
    ∃ d k, (∀ st, m_joined [.val (dS b n), .val (dS c m)] st = some (.ok (dS d k), st)) ∧ Gd (A + B) k ∧ ∀ p ∈ P0, hasN d k p = (hasN b n p || hasN c m p) := by
  obtain ⟨d, k, e, gk, hk⟩ := met_ok (b := !b) (c := !c) g h hA hB
  refine ⟨!d, k, fun st => ?_, gk, fun p hp => ?_⟩
  · simp [m_joined, b_joined, turned_ok, e]
  · rw [hasN_not, hk p hp, hasN_not, hasN_not]
    cases hasN b n p <;> cases hasN c m p <;> rfl
/-! each of the two readings of a set -/
inductive Set2 (b : Bool) (n : Nat) : D → Prop
  | t : Set2 b n (dS b n)
  | l : Set2 b n (dL b n)
theorem need2 {b : Bool} {n : Nat} {d : D} (s : Set2 b n d) (h : 1 ≤ n) (part : D) (st : Pen) : m_need_where [.val d, .val part] st = some (.ok (dS b n), st) := by
  cases s
  · exact need_where_t h part st
  · exact need_where_l h part st
theorem meet_ok {A B : Nat} {b c : Bool} {n m : Nat} (g : Gd A n) (h : Gd B m) (hA : A < 4000) (hB : B < 4000) :
    ∃ d k, (∀ x y, Set2 b n x → Set2 c m y → ∀ st, m_meet [.val x, .val y] st = some (.ok (dS d k), st)) ∧ Gd (A + B) k ∧ ∀ p ∈ P0, hasN d k p = (hasN b n p && hasN c m p) := by
  obtain ⟨d, k, e, gk, hk⟩ := met_ok (b := b) (c := c) g h hA hB
  refine ⟨d, k, fun x y hx hy st => ?_, gk, hk⟩
  simp [m_meet, b_meet, need2 hx g.pos, need2 hy h.pos, e]
theorem join_ok {A B : Nat} {b c : Bool} {n m : Nat} (g : Gd A n) (h : Gd B m) (hA : A < 4000) (hB : B < 4000) :
    ∃ d k, (∀ x y, Set2 b n x → Set2 c m y → ∀ st, m_join [.val x, .val y] st = some (.ok (dS d k), st)) ∧ Gd (A + B) k ∧ ∀ p ∈ P0, hasN d k p = (hasN b n p || hasN c m p) := by
  obtain ⟨d, k, e, gk, hk⟩ := joined_ok (b := b) (c := c) g h hA hB
  refine ⟨d, k, fun x y hx hy st => ?_, gk, hk⟩
  simp [m_join, b_join, need2 hx g.pos, need2 hy h.pos, e]
theorem others_ok {b : Bool} {n : Nat} {x : D} (hx : Set2 b n x) (h : 1 ≤ n) (st : Pen) : m_others [.val x] st = some (.ok (dS (!b) n), st) := by
  simp [m_others, b_others, need2 hx h, turned_ok]
theorem sameN_false {b c : Bool} {n m : Nat} (h : b ≠ c) : sameN b n c m = false := by
  unfold sameN P0
  rw [List.all_cons]
  unfold hasN
  cases b <;> cases c <;> simp at h ⊢
theorem sameN_true {b : Bool} {n m : Nat} : sameN b n b m = true ↔ ∀ p ∈ PS, p ∣ n ↔ p ∣ m := by
  unfold sameN P0
  rw [List.all_cons, Bool.and_eq_true, List.all_eq_true]
  constructor
  · rintro ⟨_, h⟩ p hp
    have h0 : p ≠ 0 := by have := (ps_isP p hp).1; omega
    have := h p hp
    unfold hasN at this
    rw [if_neg h0, if_neg h0] at this
    by_cases x : p ∣ n <;> by_cases y : p ∣ m <;> cases b <;> simp [x, y] at this ⊢
  · intro h
    refine ⟨by simp [hasN], fun p hp => ?_⟩
    have h0 : p ≠ 0 := by have := (ps_isP p hp).1; omega
    unfold hasN
    rw [if_neg h0, if_neg h0]
    have := h p hp
    by_cases x : p ∣ n <;> by_cases y : p ∣ m <;> cases b <;> simp [x, y] at this ⊢
theorem is_same_ok {A B : Nat} {b c : Bool} {n m : Nat} (g : Gd A n) (h : Gd B m) (hA : A < 4000) (hB : B < 4000) (st : Pen) :
    m_is_same [.val (dS b n), .val (dS c m)] st = some (.ok (.bl (sameN b n c m)), st) := by
  obtain ⟨r, w, e⟩ := wp_ok (n := n) (o := m) g.pos h.pos (h.log (by omega))
  obtain ⟨r', w', e'⟩ := wp_ok (n := m) (o := n) h.pos g.pos (g.log (by omega))
  by_cases hbc : b = c
  · subst hbc
    have key : sameN b n b m = ((r : Int) == 1 && ((r' : Int) == 1)) := by
      rw [Bool.eq_iff_iff, sameN_true, Bool.and_eq_true, beq_iff_eq, beq_iff_eq]
      constructor
      · intro hh
        have h1 := wp_one w g.sm fun p hp => (hh p (q7_sub p hp)).mp
        have h2 := wp_one w' h.sm fun p hp => (hh p (q7_sub p hp)).mpr
        omega
      · rintro ⟨h1, h2⟩ p hp
        have h1' : r = 1 := by omega
        have h2' : r' = 1 := by omega
        subst h1' h2'
        exact ⟨of_wp_one w (ps_isP p hp), of_wp_one w' (ps_isP p hp)⟩
    rw [key]
    cases b <;> cases hr : ((r : Int) == 1) <;> simp [m_is_same, b_is_same, dS, e, e', hr] 
  · rw [sameN_false hbc]
    cases b <;> cases c <;> first
      | exact absurd rfl hbc
      | simp [m_is_same, b_is_same, dS]
theorem are_same_ok {A B : Nat} {b c : Bool} {n m : Nat} (g : Gd A n) (h : Gd B m) (hA : A < 4000) (hB : B < 4000) {x y : D} (hx : Set2 b n x) (hy : Set2 c m y) (st : Pen) :
    m_are_same [.val x, .val y] st = some (.ok (.bl (sameN b n c m)), st) := by
  simp [m_are_same, b_are_same, need2 hx g.pos, need2 hy h.pos, is_same_ok g h hA hB]
theorem int_dvd_beq (n p : Nat) : (((n : Int) % (p : Int)) == 0) = decide (p ∣ n) := by
  rw [Bool.eq_iff_iff, beq_iff_eq, decide_eq_true_iff, ← Int.natCast_dvd_natCast]
  exact Int.dvd_iff_emod_eq_zero.symm
theorem law_has_ok (b : Bool) (n : Nat) {p : Nat} (st : Pen) : m__law_has [.val (dS b n), .val (.int p)] st = some (.ok (.bl (hasN b n p)), st) := by
  unfold hasN
  by_cases h : p = 0
  · subst h
    cases b <;> simp [m__law_has, b__law_has, dS]
  · have h0 : (0 : Int) < p := by omega
    have h1 : ((p : Int) == 0) = false := by simpa using h
    have h2 := int_dvd_beq n p
    cases b <;> simp [m__law_has, b__law_has, dS, h, h1, h2, Nat.pos_of_ne_zero h]
theorem has_ok (b : Bool) (n : Nat) {p : Nat} (st : Pen) : m_has [.val (dS b n), .val (.int p)] st = some (.ok (.bl (hasN b n p)), st) := by
  unfold hasN
  by_cases h : p = 0
  · subst h
    cases b <;> simp [m_has, b_has, dS]
  · have h0 : (0 : Int) < p := by omega
    have h1 : ((p : Int) == 0) = false := by simpa using h
    have h2 := int_dvd_beq n p
    cases b <;> simp [m_has, b_has, dS, h, h1, h2, Nat.pos_of_ne_zero h]
end Law
set_option linter.all false
set_option maxRecDepth 1000000
namespace Law
open PySem PySem.Spec PyProof.Rows L2 DL
def LL : Nat → List Nat
  | 0 => [1]
  | 1 => [1, 2, 3, 5, 7, 11, 13, 97]
  | 2 => [1, 2, 3, 4, 5, 6, 7, 9, 10, 11, 13, 14, 15, 21, 22, 25, 26, 33, 35, 39, 49, 55, 65, 77, 91, 97, 121, 143, 169, 194, 291, 485, 679, 1067, 1261, 9409]
  | _ => [1, 2, 3, 4, 5, 6, 7, 8, 9, 10, 11, 12, 13, 14, 15, 18, 20, 21, 22, 25, 26, 27, 28, 30, 33, 35, 39, 42, 44, 45, 49, 50, 52, 55, 63, 65, 66, 70, 75, 77, 78, 91, 97, 98, 99, 105, 110, 117, 121, 125, 130, 143, 147, 154, 165, 169, 175, 182, 194, 195, 231, 242, 245, 273, 275, 286, 291, 325, 338, 343, 363, 385, 388, 429, 455, 485, 507, 539, 582, 605, 637, 679, 715, 845, 847, 873, 970, 1001, 1067, 1183, 1261, 1331, 1358, 1455, 1573, 1859, 2037, 2134, 2197, 2425, 2522, 3201, 3395, 3783, 4753, 5335, 6305, 7469, 8827, 9409, 11737, 13871, 16393, 18818, 28227, 47045, 65863, 103499, 122317, 912673]
theorem ll_step : ∀ k < 3, ∀ n ∈ LL k, ∀ q ∈ Q7, n * q ∈ LL (k + 1) := by decide +kernel
theorem ll_mono : ∀ k < 3, ∀ n ∈ LL k, n ∈ LL 3 := by decide +kernel
theorem ll_good : ∀ n ∈ LL 3, 1 ≤ n ∧ n ∣ bigM ^ 3 ∧ n ≤ 2 ^ 20 := by decide +kernel
theorem ll_gd {n : Nat} (h : n ∈ LL 3) : Gd 20 n := by
  obtain ⟨h1, h2, h3⟩ := ll_good n h
  exact ⟨h1, ⟨3, h2⟩, h3⟩
def told (n : Nat) : List Nat := PS.filter fun p => n % p == 0
def dn (p : Nat) : D := .int p
theorem lc_nat {F : D → List Sl → Option (List Sl)} {c : List Sl → M Bool} {g : EM} {env : List Sl} {st : Pen} (P : Nat → Bool) : ∀ (l : List Nat),
    (∀ p ∈ l, ∃ env1, F (dn p) env = some env1 ∧ c env1 st = some (.ok (P p), st) ∧ g env1 st = some (.ok (dn p), st)) →
    lcD F c g env (l.map dn) st = some (.ok ((l.filter P).map dn), st)
  | [], _ => rfl
  | p :: l, h => by
    obtain ⟨env1, h1, h2, h3⟩ := h p (List.mem_cons_self)
    have ih := lc_nat (F := F) (c := c) (g := g) (env := env) (st := st) P l fun q hq => h q (List.mem_cons_of_mem _ hq)
    rw [List.map_cons, lcD, h1]
    dsimp only
    rw [List.filter_cons]
    cases hp : P p
    · rw [hp] at h2
      simp [h2, ih]
    · rw [hp] at h2
      simp [h2, h3, ih]
theorem ints_dn (l : List Nat) : l.map dn = (l.map fun (p : Nat) => (p : Int)).map D.int := by
  rw [List.map_map]
  rfl
theorem eqM_dn_nil (l : List Nat) : eqM (.lst (l.map dn)) (.lst []) = pureM (.bl l.isEmpty) := by
  rw [ints_dn, eqM_ints_nil]
  cases l <;> rfl
theorem rangeL_nat (a n : Nat) : rangeL a n = (List.range' a n).map dn := by
  unfold rangeL
  rw [List.range'_eq_map_range, List.map_map]
  apply List.map_congr_left
  intro i _
  simp [dn]
theorem rangeL_two (n : Nat) : rangeL 2 n = (List.range' 2 n).map dn := rangeL_nat 2 n
theorem eLc_nat {vs : List Nat} {f : LM} {F : D → List Sl → Option (List Sl)} {c : List Sl → M Bool} {g : EM} {env : List Sl} {st : Pen} (P : Nat → Bool) (l : List Nat) (hi : f env st = some (.ok (l.map dn), st)) (hs : l.length ≤ sizeLine)
    (h : ∀ p ∈ l, ∃ env1, F (dn p) (wipeE env vs) = some env1 ∧ c env1 st = some (.ok (P p), st) ∧ g env1 st = some (.ok (dn p), st)) :
    eLc vs f F c g env st = some (.ok (.lst ((l.filter P).map dn)), st) := by
  unfold eLc lLc DL.bindM
  rw [hi]
  dsimp only
  rw [if_pos (by rw [List.length_map]; exact hs), lc_nat P l h]
  rfl
theorem nil_ap (env : List Sl) (st : Pen) : eLst lNil env st = some (.ok (.lst []), st) := rfl
theorem eE2 {F : D → D → M D} {f g : EM} {env : List Sl} {st : Pen} {x y : D} (h1 : f env st = some (.ok x, st)) (h2 : g env st = some (.ok y, st)) : e2 F f g env st = F x y st := by
  unfold e2 DL.bindM
  rw [h1]
  dsimp only
  rw [h2]
theorem eBe {f : EM} {env : List Sl} {st : Pen} {b : Bool} (h1 : f env st = some (.ok (.bl b), st)) : eB f env st = some (.ok b, st) := by
  unfold eB DL.bindM
  rw [h1]
  rfl
theorem isEmpty_lc {f : EM} {env : List Sl} {st : Pen} {l : List Nat} (h1 : f env st = some (.ok (.lst (l.map dn)), st)) : e2 eqM f (eLst lNil) env st = some (.ok (.bl l.isEmpty), st) := by
  rw [eE2 h1 (nil_ap env st), eqM_dn_nil]
  rfl
def isPr (n : Nat) : Bool := ((List.range' 2 (n - 2)).filter fun q => n % q == 0).isEmpty
theorem two_range {f g : EM} {env : List Sl} {st : Pen} {n : Nat} {k : Int} (h1 : f env st = some (.ok (.int 2), st)) (h2 : g env st = some (.ok (.int k), st)) (hk : k = n) (h3 : 2 ≤ n) (h4 : n < 100) : iL (lCons f (lCons g lNil)) env st = some (.ok ((List.range' 2 (n - 2)).map dn), st) := by
  have hr : iRange [.int 2, .int k] = pureM ((List.range' 2 (n - 2)).map dn) := by
    unfold iRange
    dsimp only
    rw [if_pos (by omega), ← rangeL_two]
    congr 2
    omega
  simp only [iL_ap, bindM_ap, lCons_ap, h1, h2, lNil_ap]
  simp only [pureM]
  rw [hr]
  rfl
theorem argN_run {n k : Nat} {b : SM} {as e : List Sl} {st st' : Pen} {d : D} (hn : as.length = n) (hb : b (as ++ List.replicate (k - as.length) .no) st = some (.ok (.ret d), e, st')) : argN n (runF k b) as st = some (.ok d, st') := by
  have h1 : argN n (runF k b) as = runF k b as := if_pos hn
  rw [h1]
  unfold runF
  rw [hb]
theorem primes_k (st : Pen) : m__law_primes [.val (.int 97)] st = some (.ok (.lst (P0.map dn)), st) := by
  have e : ((List.range' 2 96).filter isPr) = PS := by decide +kernel
  have big : (96 : Nat) ≤ sizeLine := by decide
  have inner : ∀ n, 2 ≤ n → n < 98 → ∀ st, (eB (e2 eqM (eLc [2] (iL (lCons (eC (.int 2)) (lCons (eVar 1) (lNil)))) (gNm 2) (eB (e2 eqM (e2 modM (eL toIntM (lCons (eVar 1) (lNil))) (eVar 2)) (eC (.int 0)))) (eVar 2)) (eLst (lNil)))) [.val (.int 97), .val (dn n), .no] st = some (.ok (isPr n), st) := by
    intro n h2 h98 st
    have hs : (List.range' 2 (n - 2)).length ≤ sizeLine := by
      rw [List.length_range']
      exact Nat.le_trans (show n - 2 ≤ 96 by omega) big
    refine eBe (isEmpty_lc (eLc_nat (fun q => n % q == 0) _ (two_range (n := n) rfl rfl rfl h2 (by omega)) hs ?_))
    intro q hq
    have q2 : 2 ≤ q := (List.mem_range'_1.mp hq).1
    have hm := int_dvd_beq n q
    have hm2 : decide (q ∣ n) = (n % q == 0) := by
      rw [Bool.eq_iff_iff, beq_iff_eq, decide_eq_true_iff]
      exact Nat.dvd_iff_mod_eq_zero
    refine ⟨[.val (.int 97), .val (dn n), .val (dn q)], rfl, ?_, rfl⟩
    refine eBe ?_
    rw [← hm2, ← hm]
    have q0 : decide ((0 : Int) < q) = true := by
      rw [decide_eq_true_iff]
      omega
    show DL.bindM (modM (.int n) (.int q)) (fun x => eqM x (.int 0)) st = _
    rw [modM_int, if_pos q0]
    rfl
  have outer := eLc_nat (vs := [1]) (f := iL (lCons (eC (.int 2)) (lCons (e2 addM (eVar 0) (eC (.int 1))) (lNil)))) (F := gNm 1) (env := [.val (.int 97), .no, .no]) (st := st)
    (c := (eB (e2 eqM (eLc [2] (iL (lCons (eC (.int 2)) (lCons (eVar 1) (lNil)))) (gNm 2) (eB (e2 eqM (e2 modM (eL toIntM (lCons (eVar 1) (lNil))) (eVar 2)) (eC (.int 0)))) (eVar 2)) (eLst (lNil))))) (g := eVar 1) isPr (List.range' 2 96)
    (two_range (n := 98) rfl rfl rfl (by decide) (by decide)) (by rw [List.length_range']; exact big)
    (fun q hq => ⟨[.val (.int 97), .val (dn q), .no], rfl, inner q (List.mem_range'_1.mp hq).1 (by have := (List.mem_range'_1.mp hq).2; omega) st, rfl⟩)
  rw [e] at outer
  have hb : b__law_primes [.val (.int 97), .no, .no] st = some (.ok (.ret (.lst (P0.map dn))), [.val (.int 97), .no, .no], st) := by
    unfold b__law_primes
    rw [sRet_ap, liftM_ap, e2_ap]
    unfold DL.bindM
    rw [show eLst (lCons (eC (.int 0)) lNil) [.val (.int 97), .no, .no] st = some (.ok (.lst [.int 0]), st) from rfl]
    dsimp only
    rw [outer]
    rfl
  exact argN_run rfl hb
end Law
set_option linter.all false
set_option maxRecDepth 1000000
namespace Law
open PySem PySem.Spec PyProof.Rows L2 DL
theorem is_prime_k (st : Pen) : ∀ p ∈ PS, m_is_prime [.val (.int p)] st = some (.ok (.bl true), st) := by
  unfold PS
  repeat (refine List.forall_mem_cons.mpr ⟨by kernel_rfl, ?_⟩)
  exact fun _ h => absurd h List.not_mem_nil
theorem told_k (st : Pen) : ∀ n ∈ LL 3, m_primes_of [.val (.int n)] st = some (.ok (.tup ((told n).map dn)), st) := by
  unfold LL
  repeat (refine List.forall_mem_cons.mpr ⟨by kernel_rfl, ?_⟩)
  exact fun _ h => absurd h List.not_mem_nil
end Law
set_option linter.all false
set_option maxRecDepth 100000
namespace Law
open PySem PySem.Spec PyProof.Rows L2 DL
def B3u (FI : List Sl → M D) : SM := (sSeq (sAsg 10 (eLst (lCons (eCall m__law_has (aVal (eVar 4) (aVal (eVar 9) (aNil)))) (lCons (eCall m__law_has (aVal (eVar 5) (aVal (eVar 9) (aNil)))) (lNil))))) (sIf (bOr (eB (e2 neM (eLst (lCons (eCall m__law_has (aVal (eVar 6) (aVal (eVar 9) (aNil)))) (lCons (eCall m__law_has (aVal (eVar 7) (aVal (eVar 9) (aNil)))) (lCons (eCall m__law_has (aVal (eVar 8) (aVal (eVar 9) (aNil)))) (lNil))))) (eLst (lCons (eAnd (e2 ixM (eVar 10) (eC (.int 0))) (e2 ixM (eVar 10) (eC (.int 1)))) (lCons (eOr (e2 ixM (eVar 10) (eC (.int 0))) (e2 ixM (eVar 10) (eC (.int 1)))) (lCons (eNot (e2 ixM (eVar 10) (eC (.int 0)))) (lNil))))))) (eB (e2 neM (eL reprM (lCons (eCall FI (aVal (eVar 4) (aVal (eVar 9) (aNil)))) (lNil))) (eL reprM (lCons (e2 ixM (eVar 10) (eC (.int 0))) (lNil)))))) (sRet (eC (.bl false))) (sNx)))
def B1 : SM := (sAsgT (eTup (lCons (eCall m__law_set (aPen 1 (aNil))) (lCons (eCall m__law_set (aPen 1 (aNil))) (lNil)))) (gTp 2 (gsCons (gNm 4) (gsCons (gNm 5) (gsNil)))))
def B2 : SM := (sPar3 6 7 8 (lCons (eCall m_meet (aVal (eVar 4) (aVal (eVar 5) (aNil)))) (lCons (eCall m_join (aVal (eVar 4) (aVal (eVar 5) (aNil)))) (lCons (eCall m_others (aVal (eVar 4) (aNil))) (lNil)))))
def B3 : SM := sFor (iSeq (eVar 2)) (gNm 9) (B3u m_is_in)
def B4 : SM := (sAsg 11 (e2 eqM (eLc [9] (iSeq (eVar 2)) (gNm 9) (eB (e2 neM (eCall m__law_has (aVal (eVar 4) (aVal (eVar 9) (aNil)))) (eCall m__law_has (aVal (eVar 5) (aVal (eVar 9) (aNil)))))) (eVar 9)) (eLst (lNil))))
def B5 : SM := (sIf (bOr (eB (e2 neM (eL reprM (lCons (eCall m_are_same (aVal (eVar 4) (aVal (eVar 5) (aNil)))) (lNil))) (eL reprM (lCons (eVar 11) (lNil))))) (bOr (eB (e2 neM (eCallK m_are_same [1, 0] (lCons (eL listM (lCons (eVar 5) (lNil))) (lCons (eL listM (lCons (eVar 4) (lNil))) (lNil)))) (eVar 11))) (bOr (bNot (eB (eCall m__law_sets_alike (aVal (eVar 6) (aVal (eVar 6) (aNil)))))) (bNot (eB (eCall m__law_sets_alike (aVal (eVar 7) (aVal (eVar 7) (aNil))))))))) (sRet (eC (.bl false))) (sNx))
def B6 (FI : List Sl → M D) : SM := (sIf (bOr (eB (e2 neM (eCallK m_meet [1, 0] (lCons (eL listM (lCons (eVar 5) (lNil))) (lCons (eL listM (lCons (eVar 4) (lNil))) (lNil)))) (eVar 6))) (bOr (eB (e2 neM (eCallK m_join [1, 0] (lCons (eVar 5) (lCons (eVar 4) (lNil)))) (eVar 7))) (bOr (eB (e2 neM (eCallK m_others [0] (lCons (eL listM (lCons (eVar 4) (lNil))) (lNil))) (eVar 8))) (eB (e2 neM (eCallK FI [1, 0] (lCons (eC (.int 13)) (lCons (eL listM (lCons (eVar 4) (lNil))) (lNil)))) (eCall m__law_has (aVal (eVar 4) (aVal (eC (.int 13)) (aNil))))))))) (sRet (eC (.bl false))) (sNx))
def B7 (FT : List Sl → M D) : SM := (sIf (eB (e2 neM (eL reprM (lCons (eCallK FT [0] (lCons (eVar 4) (lNil))) (lNil))) (eL reprM (lCons (eL tupleM (lCons (eLc [9] (iSeq (eSlL (eVar 2) (oSome (eC (.int 1))) (oNone))) (gNm 9) (eB (e2 eqM (e2 modM (eL toIntM (lCons (e2 ixM (eVar 4) (eC (.int 1))) (lNil))) (eVar 9)) (eC (.int 0)))) (eVar 9)) (lNil))) (lNil))))) (sRet (eC (.bl false))) (sNx))
def B8 : SM := (sIf (bOr (eB (e2 notBM (eCall m_are_same (aVal (eCall m_meet (aVal (eVar 4) (aVal (eCall m_join (aVal (eVar 4) (aVal (eVar 5) (aNil)))) (aNil)))) (aVal (eVar 4) (aNil)))) (eC (.bl true)))) (eB (e2 notBM (eCall m_are_same (aVal (eCall m_others (aVal (eCall m_meet (aVal (eVar 4) (aVal (eVar 5) (aNil)))) (aNil))) (aVal (eCall m_join (aVal (eCall m_others (aVal (eVar 4) (aNil))) (aVal (eCall m_others (aVal (eVar 5) (aNil))) (aNil)))) (aNil)))) (eC (.bl true))))) (sRet (eC (.bl false))) (sNx))
def LB : SM := sSeq B1 (sSeq B2 (sSeq B3 (sSeq B4 (sSeq B5 (sSeq (B6 m_is_in) (sSeq (B7 m_told_primes) (B8)))))))
def C0 : SM := (sAsg 2 (eCall m__law_primes (aVal (eC (.int 97)) (aNil))))
def C1 : SM := sFor (iL (lCons (eC (.int 8)) (lNil))) (gNm 3) LB
def C2 : SM := (sAsgT (eTup (lCons (eC (.int 1)) (lCons (eC (.int 1)) (lNil)))) (gTp 2 (gsCons (gNm 12) (gsCons (gNm 13) (gsNil)))))
def C3u : SM := (sAsg 12 (e2 mulM (eVar 12) (eC (.int 101))))
def C3 : SM := sFor (iL (lCons (e2 addM (eC (.int 40)) (eCall m__law_draw (aPen 1 (aVal (eC (.int 260)) (aNil))))) (lNil))) (gNm 3) C3u
def C4u : SM := (sAsg 13 (e2 mulM (eC (.int 2)) (eVar 13)))
def C4 : SM := sFor (iL (lCons (e2 addM (eC (.int 100)) (eCall m__law_draw (aPen 1 (aVal (eC (.int 2900)) (aNil))))) (lNil))) (gNm 3) C4u
def C5 : SM := (sIf (eB (e2 neM (eLst (lCons (eCall m_are_same (aVal (eTup (lCons (eC (.str "only")) (lCons (eVar 13) (lNil)))) (aVal (eTup (lCons (eC (.str "only")) (lCons (eC (.int 2)) (lNil)))) (aNil)))) (lCons (eCall m_are_same (aVal (eTup (lCons (eC (.str "but")) (lCons (eC (.int 6)) (lNil)))) (aVal (eTup (lCons (eC (.str "but")) (lCons (e2 mulM (eC (.int 3)) (eVar 13)) (lNil)))) (aNil)))) (lCons (e2 ixM (eCall m_meet (aVal (eTup (lCons (eC (.str "only")) (lCons (e2 mulM (eC (.int 3)) (eVar 13)) (lNil)))) (aVal (eTup (lCons (eC (.str "but")) (lCons (eC (.int 2)) (lNil)))) (aNil)))) (eC (.int 0))) (lNil))))) (eLst (lCons (eC (.bl true)) (lCons (eC (.bl true)) (lCons (eC (.str "only")) (lNil))))))) (sRet (eC (.bl false))) (sNx))
def C6 (FT : List Sl → M D) : SM := (sIf (bOr (eB (e2 notBM (eCall m_are_same (aVal (eCall m_meet (aVal (eTup (lCons (eC (.str "only")) (lCons (e2 mulM (eC (.int 3)) (eVar 13)) (lNil)))) (aVal (eTup (lCons (eC (.str "but")) (lCons (eC (.int 2)) (lNil)))) (aNil)))) (aVal (eTup (lCons (eC (.str "only")) (lCons (eC (.int 3)) (lNil)))) (aNil)))) (eC (.bl true)))) (eB (e2 neM (eCall FT (aVal (eTup (lCons (eC (.str "only")) (lCons (eVar 13) (lNil)))) (aNil))) (eTup (lCons (eC (.int 2)) (lNil)))))) (sRet (eC (.bl false))) (sNx))
def C7 : SM := (sIf (bNot (bAnd (eB (e2 isBM (eCall m_are_same (aVal (eTup (lCons (eC (.str "only")) (lCons (eVar 12) (lNil)))) (aVal (eTup (lCons (eC (.str "only")) (lCons (eC (.int 101)) (lNil)))) (aNil)))) (eC (.bl true)))) (bAnd (eB (e2 isBM (eCall m_are_same (aVal (eTup (lCons (eC (.str "but")) (lCons (e2 mulM (eVar 12) (eC (.int 3))) (lNil)))) (aVal (eTup (lCons (eC (.str "but")) (lCons (eC (.int 303)) (lNil)))) (aNil)))) (eC (.bl true)))) (eB (e2 eqM (eCall m_meet (aVal (eTup (lCons (eC (.str "only")) (lCons (eVar 12) (lNil)))) (aVal (eTup (lCons (eC (.str "but")) (lCons (eC (.int 101)) (lNil)))) (aNil)))) (eTup (lCons (eC (.str "only")) (lCons (eC (.int 1)) (lNil))))))))) (sRet (eC (.bl false))) (sNx))
def C8 (FI : List Sl → M D) : SM := (sRet (e2 isBM (eCall FI (aVal (eTup (lCons (eC (.str "only")) (lCons (eVar 12) (lNil)))) (aVal (eC (.int 101)) (aNil)))) (eC (.bl true))))
theorem b_law_eq : b_law = sSeq C0 (sSeq C1 (sSeq C2 (sSeq C3 (sSeq C4 (sSeq C5 (sSeq (C6 m_told_primes) (sSeq C7 (C8 m_is_in)))))))) := rfl
theorem sSeq_nx {f g : SM} {env e : List Sl} {st s : Pen} (h : f env st = some (.ok .nx, e, s)) : sSeq f g env st = g e s := by
  rw [sSeq_ap, h]
theorem fit_str {s : Str} (h : PyData.strOk s = true) : (D.str s).fit = true := by
  unfold D.fit SeqAt.shaped
  simp only [D.plain, D.py, PyData.canLay0, PyData.depth, h]
  decide
theorem neM_str {s : Str} (h : PyData.strOk s = true) : neM (.str s) (.str s) = pureM (.bl false) := neM_self (fit_str h)
theorem ne_bl2 (x y z : Bool) : neM (.lst [.bl x, .bl y, .bl z]) (.lst [.bl x, .bl y, .bl z]) = pureM (.bl false) := neM_self (by cases x <;> cases y <;> cases z <;> decide +kernel)
theorem shows_bl (b : Bool) : (D.bl b).shows = true := by cases b <;> decide +kernel
theorem repr_bl (b : Bool) : reprM [.bl b] = pureM (.str (D.bl b).py.shown) := if_pos (shows_bl b)
theorem bl_ok (b : Bool) : PyData.strOk (D.bl b).py.shown = true := by cases b <;> decide +kernel
theorem told_strs : ∀ n ∈ LL 3, PyData.strOk (D.tup ((told n).map dn)).py.shown = true := by decide +kernel
theorem told_shows : ∀ n ∈ LL 3, (D.tup ((told n).map dn)).shows = true := by decide +kernel
theorem fit_set (b : Bool) (n : Nat) : (dS b n).fit = true := by
  unfold D.fit SeqAt.shaped dS wordS
  simp only [D.plain, D.plains, D.py, D.pys, PyData.canLay0, PyData.canLayAll0, PyData.depth, PyData.depthAll]
  cases b <;> decide +kernel
theorem ne_set (b : Bool) (n : Nat) : neM (dS b n) (dS b n) = pureM (.bl false) := neM_self (fit_set b n)
theorem pick_ok {st : Pen} {n : Nat} (g : PenGood st n) (hn : n ≤ 4000000) (l : List D) (h : 0 < l.length) (hl : l.length < 1000) :
    ∃ d st', d ∈ l ∧ m__law_pick [.pen, .val (.lst l)] st = some (.ok d, st') ∧ PenGood st' (n + 1) := by
  have h0 : (0 : Int) < (l.length : Nat) := by omega
  have h1 : ((l.length : Nat) : Int).natAbs.log2 < 9000 := log2_le (show ((l.length : Nat) : Int).natAbs ≤ 1000 by omega) (by decide)
  obtain ⟨r, st', e, r0, r1, g'⟩ := draw_ok g hn h0 h1
  have hr : r.toNat < l.length := by omega
  refine ⟨l[r.toNat], st', List.getElem_mem hr, ?_, g'⟩
  have hx : ixM (.lst l) (.int r) = pureM l[r.toNat] := ixM_lst (j := r.toNat) (by omega) (List.getElem?_eq_getElem hr)
  exact argN_run rfl (e := [.pen, .val (.lst l)]) (by
    show b__law_pick [.pen, .val (.lst l)] st = _
    simp [b__law_pick, e, hx])
theorem set_ok {st : Pen} {n : Nat} (g : PenGood st n) (hn : n ≤ 3000000) :
    ∃ b m st', m ∈ LL 3 ∧ m__law_set [.pen] st = some (.ok (dS b m), st') ∧ PenGood st' (n + 5) := by
  obtain ⟨r, st1, e1, r0, r1, g1⟩ := draw_ok g (by omega) (many := 4) (by decide) (by decide)
  have hlen : (rangeL 0 r.toNat).length = r.toNat := by simp [rangeL]
  have hL := forD_inv (F := gNm 2) (u := (sAsg 1 (e2 mulM (eVar 1) (eCall m__law_pick (aPen 0 (aVal (eLst (lCons (eC (.int 2)) (lCons (eC (.int 2)) (lCons (eC (.int 3)) (lCons (eC (.int 3)) (lCons (eC (.int 5)) (lCons (eC (.int 7)) (lCons (eC (.int 11)) (lCons (eC (.int 13)) (lCons (eC (.int 97)) (lNil))))))))))) (aNil)))))))
    (fun k env st => ∃ m s, m ∈ LL k ∧ env = [.pen, .val (.int (m : Nat)), s] ∧ PenGood st (n + 1 + k)) (rangeL 0 r.toNat) 0 [.pen, .val (.int 1), .no] st1 ⟨1, .no, by decide, rfl, g1⟩ (by
      rintro d _ j _ hj env st ⟨m, s, hm, rfl, gg⟩
      rw [hlen] at hj
      obtain ⟨d', st', hd', e', g'⟩ := pick_ok gg (by omega) [.int 2, .int 2, .int 3, .int 3, .int 5, .int 7, .int 11, .int 13, .int 97] (by decide) (by decide)
      have hq : ∃ q : Nat, q ∈ Q7 ∧ d' = .int q ∧ mulOk m q = true := by
        have mk : ∀ q : Nat, q ∈ Q7 → mulOk m q = true := fun q hq => by
          have : ∀ q ∈ Q7, q < 100 := by decide
          have := this q hq
          unfold mulOk
          rw [Bool.or_eq_true]
          right
          simp
          omega
        simp only [List.mem_cons, List.not_mem_nil, or_false] at hd'
        rcases hd' with rfl | rfl | rfl | rfl | rfl | rfl | rfl | rfl | rfl
        · exact ⟨2, by decide, rfl, mk 2 (by decide)⟩
        · exact ⟨2, by decide, rfl, mk 2 (by decide)⟩
        · exact ⟨3, by decide, rfl, mk 3 (by decide)⟩
        · exact ⟨3, by decide, rfl, mk 3 (by decide)⟩
        · exact ⟨5, by decide, rfl, mk 5 (by decide)⟩
        · exact ⟨7, by decide, rfl, mk 7 (by decide)⟩
        · exact ⟨11, by decide, rfl, mk 11 (by decide)⟩
        · exact ⟨13, by decide, rfl, mk 13 (by decide)⟩
        · exact ⟨97, by decide, rfl, mk 97 (by decide)⟩
      obtain ⟨q, q7, rfl, mk⟩ := hq
      refine ⟨[.pen, .val (.int (m : Nat)), .val d], [.pen, .val (.int ((m * q : Nat) : Int)), .val d], st', rfl, ?_, m * q, _, ll_step j (by omega) m hm q q7, rfl, by rw [show n + 1 + (j + 1) = n + 1 + j + 1 by omega]; exact g'⟩
      have sz : (9 : Nat) ≤ sizeLine := by decide
      simp [e', mk, sz])
  rw [hlen] at hL
  obtain ⟨e2', st2, hf, m, s, hm, rfl, g2⟩ := hL
  have hm3 : m ∈ LL 3 := by
    by_cases h3 : r.toNat = 3
    · rw [h3] at hm
      exact hm
    · exact ll_mono (0 + r.toNat) (by omega) m hm
  obtain ⟨w, st3, hw, ew, g3⟩ := pick_ok g2 (by omega) [.str "only", .str "but"] (by decide) (by decide)
  have hb : ∃ b, w = wordS b := by
    simp only [List.mem_cons, List.not_mem_nil, or_false] at hw
    rcases hw with rfl | rfl
    · exact ⟨true, rfl⟩
    · exact ⟨false, rfl⟩
  obtain ⟨b, rfl⟩ := hb
  have hr : iRange [.int r] = pureM (rangeL 0 r.toNat) := if_pos (by omega)
  refine ⟨b, m, st3, hm3, ?_, g3.mono (by omega)⟩
  refine argN_run rfl (e := [.pen, .val (.int (m : Nat)), s]) ?_
  show b__law_set [.pen, .no, .no] st = _
  unfold b__law_set
  rw [sSeq_nx (e := [.pen, .val (.int 1), .no]) (s := st) rfl]
  rw [sSeq_nx (e := [.pen, .val (.int (m : Nat)), s]) (s := st2) (by
    rw [sFor_ap, liftM_ap]
    simp only [iL_ap, lCons_ap, lNil_ap, bindM_ap, eCall_ap, aPen_ap, aVal_ap, aNil_ap, eC_ap, pureM, List.getElem?_cons_zero, e1, hr]
    exact hf)]
  simp [ew, dS]
def npB (FP : List Sl → M D) : SM := sIf (bOr (bNot (eB (eCall m_is_within (aVal (eVar 0) (aVal (eC (.int 0)) (aVal (eC c_MOST_CHARACTERISTIC) (aNil))))))) (bAnd (eB (e2 neM (eVar 0) (eC (.int 0)))) (bNot (eB (eCall FP (aVal (eVar 0) (aNil))))))) (sNo) (sNx)
theorem np_gen {FP : List Sl → M D} {st : Pen} {p : Nat} (h : p ≠ 0 → FP [.val (.int p)] st = some (.ok (.bl true), st)) (hp : p ≤ 101) (part : D) : argN 2 (runF 2 (npB FP)) [.val (.int p), .val part] st = some (.ok .non, st) := by
  have h3 : (p : Int) ≤ 1000000000000 := by omega
  have h4 : p ≤ 1000000000000 := by omega
  by_cases h5 : p = 0
  · subst h5
    simp [npB, m_is_within, b_is_within]
  · have h1 := h h5
    simp [npB, m_is_within, b_is_within, h1, h3, h4, h5]
theorem need_prime_ok (st : Pen) {p : Nat} (hp : p ∈ P0) (part : D) : m_need_prime [.val (.int p), .val part] st = some (.ok .non, st) := by
  have h2 : ∀ p ∈ P0, p ≤ 97 := by decide
  exact np_gen (FP := m_is_prime) (fun h => is_prime_k st p (by
    rcases List.mem_cons.mp hp with e | e
    · exact absurd e h
    · exact e)) (Nat.le_trans (h2 p hp) (by decide)) part
def iiB (FN : List Sl → M D) : SM := sSeq (sAsg 2 (eCall m_need_where (aVal (eVar 0) (aVal (eC (.str "where")) (aNil))))) (sSeq (sExpr (eCall (fun as => FN (as ++ ([(.str "prime")] : List D).map .val)) (aVal (eVar 1) (aNil)))) (sRet (eCall m_has (aVal (eVar 2) (aVal (eVar 1) (aNil))))))
theorem ii_gen {FN : List Sl → M D} {b : Bool} {n p : Nat} {x : D} (hx : Set2 b n x) (hn : 1 ≤ n) {st : Pen} (h : ∀ part, FN [.val (.int p), .val part] st = some (.ok .non, st)) : argN 2 (runF 3 (iiB FN)) [.val x, .val (.int p)] st = some (.ok (.bl (hasN b n p)), st) := by
  simp [iiB, need2 hx hn, h, has_ok]
theorem is_in_ok {b : Bool} {n p : Nat} {x : D} (hx : Set2 b n x) (hn : 1 ≤ n) (hp : p ∈ P0) (st : Pen) : m_is_in [.val x, .val (.int p)] st = some (.ok (.bl (hasN b n p)), st) :=
  ii_gen (FN := m_need_prime) hx hn (need_prime_ok st hp)
theorem lenP0 : P0.length ≤ sizeLine := by decide
theorem alike_ok {b : Bool} {n : Nat} (hn : 1 ≤ n) (st : Pen) : m__law_sets_alike [.val (dS b n), .val (dS b n)] st = some (.ok (.bl true), st) := by
  have hc := isEmpty_lc (eLc_nat (vs := [2]) (f := iSeq (eCall m__law_primes (aVal (eC (.int 97)) (aNil)))) (F := gNm 2) (c := eB (e2 neM (eCall m__law_has (aVal (eVar 0) (aVal (eVar 2) (aNil)))) (eCall m__law_has (aVal (eVar 1) (aVal (eVar 2) (aNil)))))) (g := eVar 2) (env := [.val (dS b n), .val (dS b n), .no]) (st := st) (fun _ => false) P0
    (by simp [primes_k]) lenP0 (fun p hp => ⟨[.val (dS b n), .val (dS b n), .val (dn p)], rfl, by simp [dn, law_has_ok], rfl⟩))
  refine argN_run rfl (e := [.val (dS b n), .val (dS b n), .no]) ?_
  show b__law_sets_alike [.val (dS b n), .val (dS b n), .no] st = _
  unfold b__law_sets_alike
  rw [sSeq_nx (e := [.val (dS b n), .val (dS b n), .no]) (s := st) (by
    have h1 : ¬ n < 1 := by omega
    have h2 : ¬ (n : Int) < 1 := by omega
    cases b <;> simp [dS, h1, h2] <;> omega)]
  rw [sRet_ap, liftM_ap, hc]
  simp
end Law
set_option linter.all false
set_option maxRecDepth 100000
namespace Law
open PySem PySem.Spec PyProof.Rows L2 DL
def PL : D := .lst (P0.map dn)
theorem b1_ok {st : Pen} {n : Nat} (g : PenGood st n) (hn : n ≤ 2000000) (a3 a4 a5 a6 a7 a8 a9 a10 a11 : Sl) :
    ∃ b x c y st', x ∈ LL 3 ∧ y ∈ LL 3 ∧ B1 [.no, .pen, .val PL, a3, a4, a5, a6, a7, a8, a9, a10, a11, .no, .no] st = some (.ok .nx, [.no, .pen, .val PL, a3, .val (dS b x), .val (dS c y), a6, a7, a8, a9, a10, a11, .no, .no], st') ∧ PenGood st' (n + 10) := by
  obtain ⟨b, x, st1, hx, e1, g1⟩ := set_ok g (by omega)
  obtain ⟨c, y, st2, hy, e2, g2⟩ := set_ok g1 (by omega)
  refine ⟨b, x, c, y, st2, hx, hy, ?_, g2⟩
  simp [B1, e1, e2]
theorem b2_ok {b c : Bool} {x y : Nat} (gx : Gd 20 x) (gy : Gd 20 y) : ∃ d k d' k', Gd 40 k ∧ Gd 40 k' ∧
    (∀ p ∈ P0, hasN d k p = (hasN b x p && hasN c y p)) ∧ (∀ p ∈ P0, hasN d' k' p = (hasN b x p || hasN c y p)) ∧
    (∀ u v, Set2 b x u → Set2 c y v → ∀ st, m_meet [.val u, .val v] st = some (.ok (dS d k), st)) ∧
    (∀ u v, Set2 b x u → Set2 c y v → ∀ st, m_join [.val u, .val v] st = some (.ok (dS d' k'), st)) ∧
    ∀ a3 a6 a7 a8 a9 a10 a11 st, B2 [.no, .pen, .val PL, a3, .val (dS b x), .val (dS c y), a6, a7, a8, a9, a10, a11, .no, .no] st = some (.ok .nx, [.no, .pen, .val PL, a3, .val (dS b x), .val (dS c y), .val (dS d k), .val (dS d' k'), .val (dS (!b) x), a9, a10, a11, .no, .no], st) := by
  obtain ⟨d, k, e, gk, hk⟩ := meet_ok (b := b) (c := c) gx gy (by decide) (by decide)
  obtain ⟨d', k', e', gk', hk'⟩ := join_ok (b := b) (c := c) gx gy (by decide) (by decide)
  refine ⟨d, k, d', k', gk, gk', hk, hk', e, e', fun a3 a6 a7 a8 a9 a10 a11 st => ?_⟩
  have h1 := e _ _ .t .t st
  have h2 := e' _ _ .t .t st
  have h3 := others_ok (b := b) (n := x) .t gx.pos st
  simp [B2, h1, h2, h3]
section
variable {b c d d' : Bool} {x y k k' : Nat}
def env2 (b c d d' : Bool) (x y k k' : Nat) (a3 a9 a10 a11 : Sl) : List Sl := [.no, .pen, .val PL, a3, .val (dS b x), .val (dS c y), .val (dS d k), .val (dS d' k'), .val (dS (!b) x), a9, a10, a11, .no, .no]
theorem b3u_ok {FI : List Sl → M D} {st : Pen} {p : Nat} (hk : hasN d k p = (hasN b x p && hasN c y p)) (hk' : hasN d' k' p = (hasN b x p || hasN c y p))
    (hi : FI [.val (dS b x), .val (.int p)] st = some (.ok (.bl (hasN b x p)), st)) (a3 a10 a11 : Sl) :
    B3u FI (env2 b c d d' x y k k' a3 (.val (dn p)) a10 a11) st = some (.ok .nx, env2 b c d d' x y k k' a3 (.val (dn p)) (.val (.lst [.bl (hasN b x p), .bl (hasN c y p)])) a11, st) := by
  have h1 := law_has_ok b x (p := p) st
  have h2 := law_has_ok c y (p := p) st
  have h3 := law_has_ok d k (p := p) st
  have h4 := law_has_ok d' k' (p := p) st
  have h5 := law_has_ok (!b) x (p := p) st
  rw [hasN_not] at h5
  rw [hk] at h3
  rw [hk'] at h4
  have hz := neM_str (bl_ok (hasN b x p))
  have hr := repr_bl (hasN b x p)
  have hn := ne_bl2
  cases e1 : hasN b x p <;> cases e2 : hasN c y p <;> rw [e1] at h1 h3 h4 h5 hi hz hr <;> rw [e2] at h2 h3 h4 <;> simp only [Bool.and_true, Bool.and_false, Bool.or_true, Bool.or_false, Bool.not_true, Bool.not_false, Bool.true_and, Bool.false_and, Bool.true_or, Bool.false_or] at h3 h4 h5 <;> simp [B3u, env2, dn, h1, h2, h3, h4, h5, hn, hi, hz, hr]
theorem b3_ok (gx : Gd 20 x) (hk : ∀ p ∈ P0, hasN d k p = (hasN b x p && hasN c y p)) (hk' : ∀ p ∈ P0, hasN d' k' p = (hasN b x p || hasN c y p)) (st : Pen) (a3 a9 a10 a11 : Sl) :
    ∃ a9' a10', B3 (env2 b c d d' x y k k' a3 a9 a10 a11) st = some (.ok .nx, env2 b c d d' x y k k' a3 a9' a10' a11, st) := by
  have hL := forD_inv (F := gNm 9) (u := B3u m_is_in) (fun _ env s => s = st ∧ ∃ a9 a10, env = env2 b c d d' x y k k' a3 a9 a10 a11) (P0.map dn) 0 (env2 b c d d' x y k k' a3 a9 a10 a11) st ⟨rfl, _, _, rfl⟩ (by
    rintro q hq _ _ _ env _ ⟨rfl, a9, a10, rfl⟩
    obtain ⟨p, hp, rfl⟩ := List.mem_map.mp hq
    exact ⟨_, _, _, rfl, b3u_ok (hk p hp) (hk' p hp) (is_in_ok .t gx.pos hp _) a3 a10 a11, rfl, _, _, rfl⟩)
  obtain ⟨e, s, h, rfl, a9', a10', rfl⟩ := hL
  refine ⟨a9', a10', ?_⟩
  unfold B3
  rw [sFor_ap, liftM_ap]
  exact h
theorem same_filter (b c : Bool) (x y : Nat) : (P0.filter fun p => !(hasN b x p == hasN c y p)).isEmpty = sameN b x c y := by
  unfold sameN
  generalize P0 = l
  induction l with
  | nil => rfl
  | cons p l ih =>
    rw [List.filter_cons, List.all_cons, ← ih]
    cases hasN b x p == hasN c y p <;> rfl
theorem b4_ok (st : Pen) (a3 a9 a10 a11 : Sl) :
    B4 (env2 b c d d' x y k k' a3 a9 a10 a11) st = some (.ok .nx, env2 b c d d' x y k k' a3 a9 a10 (.val (.bl (sameN b x c y))), st) := by
  have hc := isEmpty_lc (eLc_nat (vs := [9]) (f := iSeq (eVar 2)) (F := gNm 9) (c := eB (e2 neM (eCall m__law_has (aVal (eVar 4) (aVal (eVar 9) (aNil)))) (eCall m__law_has (aVal (eVar 5) (aVal (eVar 9) (aNil)))))) (g := eVar 9) (env := env2 b c d d' x y k k' a3 a9 a10 a11) (st := st) (fun p => !(hasN b x p == hasN c y p)) P0
    rfl lenP0 (fun p hp => ⟨env2 b c d d' x y k k' a3 (.val (dn p)) a10 a11, rfl, by simp [env2, dn, law_has_ok], rfl⟩))
  rw [same_filter] at hc
  unfold B4
  rw [sAsg_ap, liftM_ap, hc]
  rfl
theorem b5_ok (gx : Gd 20 x) (gy : Gd 20 y) (gk : Gd 40 k) (gk' : Gd 40 k') (st : Pen) (a3 a9 a10 : Sl) :
    B5 (env2 b c d d' x y k k' a3 a9 a10 (.val (.bl (sameN b x c y)))) st = some (.ok .nx, env2 b c d d' x y k k' a3 a9 a10 (.val (.bl (sameN b x c y))), st) := by
  have h1 := are_same_ok (b := b) (c := c) gx gy (by decide) (by decide) .t .t st
  have h2 := are_same_ok (b := b) (c := c) gx gy (by decide) (by decide) .l .l st
  have h3 := alike_ok (b := d) gk.pos st
  have h4 := alike_ok (b := d') gk'.pos st
  have hz := neM_str (bl_ok (sameN b x c y))
  have hr := repr_bl (sameN b x c y)
  have l1 : listM [dS c y] = pureM (dL c y) := rfl
  have l2 : listM [dS b x] = pureM (dL b x) := rfl
  simp [B5, env2, h1, h2, h3, h4, hz, hr, l1, l2, permute]
theorem b6_ok {FI : List Sl → M D} (gx : Gd 20 x) (gy : Gd 20 y) (st : Pen)
    (hm : ∀ u v, Set2 b x u → Set2 c y v → ∀ st, m_meet [.val u, .val v] st = some (.ok (dS d k), st))
    (hj : ∀ u v, Set2 b x u → Set2 c y v → ∀ st, m_join [.val u, .val v] st = some (.ok (dS d' k'), st))
    (hi : FI [.val (dL b x), .val (.int 13)] st = some (.ok (.bl (hasN b x 13)), st)) (a3 a9 a10 a11 : Sl) :
    B6 FI (env2 b c d d' x y k k' a3 a9 a10 a11) st = some (.ok .nx, env2 b c d d' x y k k' a3 a9 a10 a11, st) := by
  have h1 := hm _ _ .l .l st
  have h2 := hj _ _ .t .t st
  have h3 := others_ok (b := b) (n := x) .l gx.pos st
  have h4 := law_has_ok b x (p := 13) st
  have h4' : m__law_has [.val (dS b x), .val (.int 13)] st = some (.ok (.bl (hasN b x 13)), st) := h4
  have l1 : listM [dS c y] = pureM (dL c y) := rfl
  have l2 : listM [dS b x] = pureM (dL b x) := rfl
  simp [B6, env2, h1, h2, h3, h4', hi, l1, l2, permute, ne_set]
theorem cut_k : cutD (P0.map dn) (some 1) none = PS.map dn := by rfl
theorem told_ok (st : Pen) (hx : x ∈ LL 3) : m_told_primes [.val (dS b x)] st = some (.ok (.tup ((told x).map dn)), st) := by
  have h1 := need_where_t (b := b) (ll_gd hx).pos (.str "where") st
  have h2 := told_k st x hx
  have gen : ∀ FP : List Sl → M D, FP [.val (.int x)] st = some (.ok (.tup ((told x).map dn)), st) → argN 1 (runF 1 (sRet (eCall FP (aVal (e2 ixM (eCall m_need_where (aVal (eVar 0) (aVal (eC (.str "where")) (aNil)))) (eC (.int 1))) (aNil))))) [.val (dS b x)] st = some (.ok (.tup ((told x).map dn)), st) := fun FP hf => by
    have hi : ixM (dS b x) (.int 1) = pureM (.int x) := rfl
    simp [h1, hf, hi]
  exact gen m_primes_of h2
theorem told_eq (n p : Nat) : decide (p ∣ n) = (n % p == 0) := by
  rw [Bool.eq_iff_iff, beq_iff_eq, decide_eq_true_iff]
  exact Nat.dvd_iff_mod_eq_zero
theorem b7_ok {FT : List Sl → M D} (hx : x ∈ LL 3) (st : Pen) (hf : FT [.val (dS b x)] st = some (.ok (.tup ((told x).map dn)), st)) (a3 a9 a10 a11 : Sl) :
    B7 FT (env2 b c d d' x y k k' a3 a9 a10 a11) st = some (.ok .nx, env2 b c d d' x y k k' a3 a9 a10 a11, st) := by
  have hsl : iSeq (eSlL (eVar 2) (oSome (eC (.int 1))) (oNone)) (env2 b c d d' x y k k' a3 a9 a10 a11) st = some (.ok (PS.map dn), st) := by
    rw [← cut_k]
    rfl
  have lenPS : PS.length ≤ sizeLine := by decide
  have hc := eLc_nat (vs := [9]) (F := gNm 9) (c := (eB (e2 eqM (e2 modM (eL toIntM (lCons (e2 ixM (eVar 4) (eC (.int 1))) (lNil))) (eVar 9)) (eC (.int 0))))) (g := eVar 9) (fun p => x % p == 0) PS hsl lenPS (by
    intro p hp
    refine ⟨env2 b c d d' x y k k' a3 (.val (dn p)) a10 a11, rfl, ?_, rfl⟩
    refine eBe ?_
    rw [← told_eq, ← int_dvd_beq]
    have q0 : decide ((0 : Int) < p) = true := by
      rw [decide_eq_true_iff]
      have := (ps_isP p hp).1
      omega
    show DL.bindM (modM (.int x) (.int p)) (fun x => eqM x (.int 0)) st = _
    rw [modM_int, if_pos q0]
    rfl)
  rw [show PS.filter (fun p => x % p == 0) = told x from rfl] at hc
  have hr : reprM [.tup ((told x).map dn)] = pureM (.str (D.tup ((told x).map dn)).py.shown) := if_pos (told_shows x hx)
  have hz := neM_str (told_strs x hx)
  have e4 : eVar 4 (env2 b c d d' x y k k' a3 a9 a10 a11) st = some (.ok (dS b x), st) := rfl
  have t1 : eL reprM (lCons (eCallK FT [0] (lCons (eVar 4) (lNil))) (lNil)) (env2 b c d d' x y k k' a3 a9 a10 a11) st = some (.ok (.str (D.tup ((told x).map dn)).py.shown), st) := by
    have e5 : eCallK FT [0] (lCons (eVar 4) (lNil)) (env2 b c d d' x y k k' a3 a9 a10 a11) st = some (.ok (.tup ((told x).map dn)), st) := hf
    rw [eL_ap]
    unfold DL.bindM
    rw [lCons_ap]
    unfold DL.bindM
    rw [e5]
    simp only [lNil_ap, pureM]
    rw [hr]
    rfl
  unfold B7
  rw [sIf_ap, liftM_ap]
  rw [eBe (b := false) (st := st) (by
    rw [eE2 t1 (y := .str (D.tup ((told x).map dn)).py.shown) (by
      rw [eL_ap]
      unfold DL.bindM
      rw [lCons_ap]
      unfold DL.bindM
      rw [eL_ap]
      unfold DL.bindM
      rw [lCons_ap]
      unfold DL.bindM
      rw [hc]
      simp only [lNil_ap, pureM, tupleM_lst]
      rw [hr]
      rfl), hz]
    rfl)]
  rfl
theorem b8_ok (gx : Gd 20 x) (gy : Gd 20 y) (gk : Gd 40 k) (gk' : Gd 40 k') (hk : ∀ p ∈ P0, hasN d k p = (hasN b x p && hasN c y p)) (hk' : ∀ p ∈ P0, hasN d' k' p = (hasN b x p || hasN c y p)) (st : Pen)
    (hm : ∀ u v, Set2 b x u → Set2 c y v → ∀ st, m_meet [.val u, .val v] st = some (.ok (dS d k), st))
    (hj : ∀ u v, Set2 b x u → Set2 c y v → ∀ st, m_join [.val u, .val v] st = some (.ok (dS d' k'), st)) (a3 a9 a10 a11 : Sl) :
    B8 (env2 b c d d' x y k k' a3 a9 a10 a11) st = some (.ok .nx, env2 b c d d' x y k k' a3 a9 a10 a11, st) := by
  have h1 := hm _ _ .t .t st
  have h2 := hj _ _ .t .t st
  obtain ⟨w, m, ew, gm, hw⟩ := meet_ok (b := b) (c := d') gx gk' (by decide) (by decide)
  have h3 := ew _ _ .t .t st
  have s1 := are_same_ok (b := w) (c := b) gm gx (by decide) (by decide) .t .t st
  rw [sameN_of (fun p hp => by rw [hw p hp, hk' p hp]; cases hasN b x p <;> cases hasN c y p <;> rfl)] at s1
  have o1 := others_ok (b := b) (n := x) .t gx.pos st
  have o2 := others_ok (b := c) (n := y) .t gy.pos st
  have o3 := others_ok (b := d) (n := k) .t gk.pos st
  obtain ⟨w', m', ew', gm', hw'⟩ := join_ok (b := !b) (c := !c) gx gy (by decide) (by decide)
  have h4 := ew' _ _ .t .t st
  have s2 := are_same_ok (b := !d) (c := w') gk gm' (by decide) (by decide) .t .t st
  rw [sameN_of (fun p hp => by rw [hw' p hp, hasN_not, hasN_not, hasN_not, hk p hp]; cases hasN b x p <;> cases hasN c y p <;> rfl)] at s2
  have nb : notBM (.bl true) (.bl true) = pureM (.bl false) := rfl
  simp [B8, env2, h1, h2, h3, h4, s1, s2, o1, o2, o3, nb]
end
theorem lb_ok {st : Pen} {n : Nat} (g : PenGood st n) (hn : n ≤ 2000000) (a3 a4 a5 a6 a7 a8 a9 a10 a11 : Sl) :
    ∃ b4 b5 b6 b7 b8 b9 b10 b11 st', LB [.no, .pen, .val PL, a3, a4, a5, a6, a7, a8, a9, a10, a11, .no, .no] st = some (.ok .nx, [.no, .pen, .val PL, a3, b4, b5, b6, b7, b8, b9, b10, b11, .no, .no], st') ∧ PenGood st' (n + 10) := by
  obtain ⟨b, x, c, y, st1, hx, hy, e1, g1⟩ := b1_ok g hn a3 a4 a5 a6 a7 a8 a9 a10 a11
  have gx := ll_gd hx
  have gy := ll_gd hy
  obtain ⟨d, k, d', k', gk, gk', hk, hk', hm, hj, e2⟩ := b2_ok (b := b) (c := c) gx gy
  obtain ⟨a9', a10', e3⟩ := b3_ok (b := b) (c := c) (d := d) (d' := d') (x := x) (y := y) (k := k) (k' := k') gx hk hk' st1 a3 a9 a10 a11
  have hi : m_is_in [.val (dL b x), .val (.int 13)] st1 = some (.ok (.bl (hasN b x 13)), st1) := is_in_ok (p := 13) .l gx.pos (by decide) st1
  have s6 : ∀ a11, sSeq (B6 m_is_in) (sSeq (B7 m_told_primes) B8) (env2 b c d d' x y k k' a3 a9' a10' a11) st1 = some (.ok .nx, env2 b c d d' x y k k' a3 a9' a10' a11, st1) := fun a11 => by
    rw [sSeq_nx (b6_ok gx gy st1 hm hj hi a3 a9' a10' a11), sSeq_nx (b7_ok hx st1 (told_ok st1 hx) a3 a9' a10' a11)]
    exact b8_ok gx gy gk gk' hk hk' st1 hm hj a3 a9' a10' a11
  have s3 : sSeq B3 (sSeq B4 (sSeq B5 (sSeq (B6 m_is_in) (sSeq (B7 m_told_primes) B8)))) (env2 b c d d' x y k k' a3 a9 a10 a11) st1 = some (.ok .nx, env2 b c d d' x y k k' a3 a9' a10' (.val (.bl (sameN b x c y))), st1) := by
    rw [sSeq_nx e3, sSeq_nx (b4_ok st1 a3 a9' a10' a11), sSeq_nx (b5_ok gx gy gk gk' st1 a3 a9' a10')]
    exact s6 _
  refine ⟨.val (dS b x), .val (dS c y), .val (dS d k), .val (dS d' k'), .val (dS (!b) x), a9', a10', .val (.bl (sameN b x c y)), st1, ?_, g1⟩
  unfold LB
  rw [sSeq_nx e1, sSeq_nx (e2 a3 a6 a7 a8 a9 a10 a11 st1)]
  exact s3
end Law
set_option linter.all false
set_option maxRecDepth 100000
namespace Law
open PySem PySem.Spec PyProof.Rows L2 DL
def cOut : List Sl → M Bool := (bAnd (eB (e2 ltM (eVar 2) (eC c_SMALL))) (eB (e2 leM (e2 mulM (eVar 2) (eVar 2)) (eVar 0))))
def cIn : List Sl → M Bool := (eB (e2 eqM (e2 modM (eVar 0) (eVar 2)) (eC (.int 0))))
def uIn : SM := (sPar 0 3 (lCons (e2 fdivM (eVar 0) (eVar 2)) (lCons (e2 addM (eVar 3) (eC (.int 1))) (lNil))))
def uTail : SM := (sSeq (sIf (eB (e2 gtM (eVar 3) (eC (.int 0)))) (sApp 1 (eTup (lCons (eVar 2) (lCons (eVar 3) (lNil))))) (sNx)) (sAug 2 iaddM (eIf (eB (e2 eqM (eVar 2) (eC (.int 2)))) (eC (.int 1)) (eC (.int 2)))))
def uOut : SM := sSeq (sAsg 3 (eC (.int 0))) (sSeq (sWhile (fun _ => 100000) cIn uIn) uTail)
theorem b_parts_eq : b_parts_found = sSeq (sParL 1 2 (lNil) (eC (.int 2))) (sSeq (sWhile (fuelV 0) cOut uOut) (sFrz 1 (sRet (eTup (lCons (eVar 1) (lCons (eVar 0) (lNil))))))) := rfl
theorem cIn_ok (N : Nat) (o a : Sl) (st : Pen) : cIn [.val (.int N), o, .val (.int 2), a] st = some (.ok (N % 2 == 0), st) := by
  have : ((N : Int) % 2 == 0) = (N % 2 == 0) := by
    rw [Bool.eq_iff_iff, beq_iff_eq, beq_iff_eq]
    omega
  simp [cIn, this]
theorem uIn_ok (N : Nat) (e : Int) (o : Sl) (st : Pen) : uIn [.val (.int N), o, .val (.int 2), .val (.int e)] st = some (.ok .nx, [.val (.int ((N / 2 : Nat) : Int)), o, .val (.int 2), .val (.int (e + 1))], st) := by
  have l2 : Nat.log2 2 < 9000 := by decide
  simp [uIn, l2]
theorem in_loop (st : Pen) (o : Sl) : ∀ (a fuel : Nat) (e : Int), a < fuel → whileD cIn uIn fuel [.val (.int ((2 ^ a : Nat) : Int)), o, .val (.int 2), .val (.int e)] st = some (.ok .nx, [.val (.int ((1 : Nat) : Int)), o, .val (.int 2), .val (.int (e + a))], st)
  | 0, fuel + 1, e, _ => by
    rw [whileD_false (by rw [cIn_ok]; rfl)]
    simp
  | a + 1, fuel + 1, e, h => by
    have h2 : (2 ^ (a + 1) : Nat) % 2 = 0 := by rw [Nat.pow_succ]; omega
    have h3 : (2 ^ (a + 1) : Nat) / 2 = 2 ^ a := by rw [Nat.pow_succ]; omega
    rw [whileD_true (by rw [cIn_ok, h2]; rfl) (uIn_ok _ e o st), h3, in_loop st o a fuel (e + 1) (by omega)]
    simp
    omega
theorem cOut_ok (N p : Nat) (o a : Sl) (st : Pen) (hp : p < 100000) : cOut [.val (.int N), o, .val (.int p), a] st = some (.ok (decide (p * p ≤ N)), st) := by
  have h1 : (p : Int) < 100000 := by omega
  have h2 : mulOk p p = true := by
    unfold mulOk
    rw [Bool.or_eq_true]
    right
    simp
    omega
  have h3 : decide ((p : Int) * (p : Int) ≤ (N : Int)) = decide (p * p ≤ N) := by
    rw [decide_eq_decide, ← Int.natCast_mul]
    exact Int.ofNat_le
  simp [cOut, h1, h2, h3]
theorem uTail_ok (N k : Nat) (hk : 0 < k) (st : Pen) : uTail [.val (.int N), .own [], .val (.int 2), .val (.int k)] st = some (.ok .nx, [.val (.int N), .own [.tup [.int 2, .int k]], .val (.int ((3 : Nat) : Int)), .val (.int k)], st) := by
  have sz : 0 < sizeLine := by decide
  simp [uTail, hk, sz]
theorem out_loop (st : Pen) (k fuel : Nat) (h2 : 2 ≤ k) (h : k < 100000) : whileD cOut uOut (fuel + 2) [.val (.int ((2 ^ k : Nat) : Int)), .own [], .val (.int ((2 : Nat) : Int)), .no] st = some (.ok .nx, [.val (.int ((1 : Nat) : Int)), .own [.tup [.int 2, .int k]], .val (.int ((3 : Nat) : Int)), .val (.int k)], st) := by
  have h4 : 2 * 2 ≤ 2 ^ k := by
    have : 2 ^ 2 ≤ 2 ^ k := Nat.pow_le_pow_right (by omega) h2
    omega
  have u : uOut [.val (.int ((2 ^ k : Nat) : Int)), .own [], .val (.int ((2 : Nat) : Int)), .no] st = some (.ok .nx, [.val (.int ((1 : Nat) : Int)), .own [.tup [.int 2, .int k]], .val (.int ((3 : Nat) : Int)), .val (.int k)], st) := by
    unfold uOut
    rw [sSeq_nx (e := [.val (.int ((2 ^ k : Nat) : Int)), .own [], .val (.int 2), .val (.int 0)]) (s := st) rfl]
    have il := in_loop st (.own []) k 100000 0 h
    rw [Int.zero_add] at il
    rw [sSeq_nx (f := sWhile (fun _ => 100000) cIn uIn) il]
    exact uTail_ok 1 k (by omega) st
  rw [whileD_true (by rw [cOut_ok _ 2 _ _ _ (by omega), decide_eq_true h4]) u]
  rw [whileD_false (by rw [cOut_ok _ 3 _ _ _ (by omega)]; rfl)]
theorem parts_ok (st : Pen) (k : Nat) (h2 : 2 ≤ k) (h : k < 100000) : m_parts_found [.val (.int ((2 ^ k : Nat) : Int))] st = some (.ok (.tup [.lst [.tup [.int 2, .int k]], .int 1]), st) := by
  have h4 : 2 ^ 2 ≤ 2 ^ k := Nat.pow_le_pow_right (by omega) h2
  have o := out_loop st k (2 ^ k - 1) h2 h
  rw [show 2 ^ k - 1 + 2 = 2 ^ k + 1 by omega] at o
  have ow : sWhile (fuelV 0) cOut uOut [.val (.int ((2 ^ k : Nat) : Int)), .own [], .val (.int ((2 : Nat) : Int)), .no] st = some (.ok .nx, [.val (.int ((1 : Nat) : Int)), .own [.tup [.int 2, .int k]], .val (.int ((3 : Nat) : Int)), .val (.int k)], st) := by
    rw [sWhile_ap, fuelV_ap]
    simp only [List.getElem?_cons_zero, Int.toNat_natCast]
    exact o
  refine argN_run rfl (e := [.val (.int ((1 : Nat) : Int)), .val (.lst [.tup [.int 2, .int k]]), .val (.int ((3 : Nat) : Int)), .val (.int k)]) ?_
  show b_parts_found [.val (.int ((2 ^ k : Nat) : Int)), .no, .no, .no] st = _
  rw [b_parts_eq, sSeq_nx (e := [.val (.int ((2 ^ k : Nat) : Int)), .own [], .val (.int ((2 : Nat) : Int)), .no]) (s := st) rfl]
  rw [sSeq_nx ow]
  rfl
def pdB (FF FP : List Sl → M D) : SM := sSeq (sExpr (eCall (fun as => m_need_whole (as ++ ([.non] : List D).map .val)) (aVal (eC (.str "number")) (aVal (eVar 0) (aVal (eC (.int 1)) (aNil)))))) (sSeq (sAsgT (eCall FF (aVal (eVar 0) (aNil))) (gTp 2 (gsCons (gNm 1) (gsCons (gNm 2) (gsNil))))) (sSeq (sIf (eB (e2 eqM (eVar 2) (eC (.int 1)))) (sRet (eL tupleM (lCons (eVar 1) (lNil)))) (sNx)) (sSeq (sIf (bOr (eB (e2 geM (eVar 2) (eC c_MOST))) (bNot (eB (eCall FP (aVal (eVar 2) (aNil)))))) (sNo) (sNx)) (sRet (eTup (lStar (eVar 1) (lCons (eTup (lCons (eVar 2) (lCons (eC (.int 1)) (lNil)))) (lNil))))))))
theorem pd_gen {FF FP : List Sl → M D} {st : Pen} {N : Nat} {d : D} (hN : 1 ≤ N) (h : FF [.val (.int N)] st = some (.ok (.tup [.lst [d], .int 1]), st)) : argN 1 (runF 3 (pdB FF FP)) [.val (.int N)] st = some (.ok (.tup [d]), st) := by
  have h1 : (1 : Int) ≤ N := by omega
  simp [pdB, m_need_whole, b_need_whole, m_is_within, b_is_within, h, h1, hN]
theorem parted_ok (st : Pen) (k : Nat) (h2 : 2 ≤ k) (h : k < 100000) : m_parted [.val (.int ((2 ^ k : Nat) : Int))] st = some (.ok (.tup [.tup [.int 2, .int k]]), st) :=
  pd_gen (FF := m_parts_found) (FP := m_prime) (Nat.one_le_two_pow) (parts_ok st k h2 h)
def poB (FP : List Sl → M D) : SM := sRet (eL tupleM (lCons (eLc [1, 2] (iSeq (eCall FP (aVal (eVar 0) (aNil)))) (gTp 2 (gsCons (gNm 1) (gsCons (gNm 2) (gsNil)))) (fun _ => pureM true) (eVar 1)) (lNil)))
theorem po_gen {FP : List Sl → M D} {st : Pen} {N : D} {k : Nat} (h : FP [.val N] st = some (.ok (.tup [.tup [.int 2, .int k]]), st)) : argN 1 (runF 3 (poB FP)) [.val N] st = some (.ok (.tup [.int 2]), st) := by
  simp [poB, h, wipeE, lcD]
theorem primes_of_ok (st : Pen) (k : Nat) (h2 : 2 ≤ k) (h : k < 100000) : m_primes_of [.val (.int ((2 ^ k : Nat) : Int))] st = some (.ok (.tup [.int 2]), st) :=
  po_gen (FP := m_parted) (parted_ok st k h2 h)
def tpB (FP : List Sl → M D) : SM := sRet (eCall FP (aVal (e2 ixM (eCall m_need_where (aVal (eVar 0) (aVal (eC (.str "where")) (aNil)))) (eC (.int 1))) (aNil)))
theorem tp_gen {FP : List Sl → M D} {st : Pen} {b : Bool} {N : Nat} {d : D} (hN : 1 ≤ N) (h : FP [.val (.int N)] st = some (.ok d, st)) : argN 1 (runF 1 (tpB FP)) [.val (dS b N)] st = some (.ok d, st) := by
  have h1 := need_where_t (b := b) hN (.str "where") st
  have hi : ixM (dS b N) (.int 1) = pureM (.int N) := rfl
  simp [tpB, h1, h, hi]
theorem told_two (st : Pen) (k : Nat) (h2 : 2 ≤ k) (h : k < 100000) : m_told_primes [.val (dS true (2 ^ k))] st = some (.ok (.tup [.int 2]), st) :=
  tp_gen (FP := m_primes_of) (Nat.one_le_two_pow) (primes_of_ok st k h2 h)
/-! great numbers -/
theorem same_true {b : Bool} {n m i j : Nat} (hn : 1 ≤ n) (hm : 1 ≤ m) (ln : n.log2 < 9000) (lm : m.log2 < 9000) (h1 : n ∣ m ^ i) (h2 : m ∣ n ^ j) (st : Pen) :
    m_are_same [.val (dS b n), .val (dS b m)] st = some (.ok (.bl true), st) := by
  obtain ⟨r, w, e⟩ := wp_ok (n := n) (o := m) hn hm lm
  obtain ⟨r', w', e'⟩ := wp_ok (n := m) (o := n) hm hn ln
  have e1 := wp_one_pow w h1
  have e2 := wp_one_pow w' h2
  subst e1 e2
  have hs : m_is_same [.val (dS b n), .val (dS b m)] st = some (.ok (.bl true), st) := by
    cases b <;> simp [m_is_same, b_is_same, dS, e, e']
  simp [m_are_same, b_are_same, need_where_t hn, need_where_t hm, hs]
theorem meet_ob {n m r : Nat} (hn : 1 ≤ n) (hm : 1 ≤ m) (lm : m.log2 < 9000) (w : WP n m r) (st : Pen) : m_meet [.val (dS true n), .val (dS false m)] st = some (.ok (dS true r), st) := by
  obtain ⟨r', w', e'⟩ := wp_ok (n := n) (o := m) hn hm lm
  rw [wp_uniq w w'] at e'
  have hs : m_met [.val (dS true n), .val (dS false m)] st = some (.ok (dS true r), st) := by
    simp [m_met, b_met, dS, e']
  simp [m_meet, b_meet, need_where_t hn, need_where_t hm, hs]
theorem log_pow {n k : Nat} (h0 : 1 ≤ n) (h : n ≤ 2 ^ k) (hk : k < 8999) : n.log2 < 9000 := by
  have h1 : n < 2 ^ (k + 1) := Nat.lt_of_le_of_lt h (Nat.pow_lt_pow_right (by omega) (by omega))
  have := (Nat.log2_lt (n := n) (k := k + 1) (by omega)).mpr h1
  omega
def envA (a3 a4 a5 a6 a7 a8 a9 a10 a11 a12 a13 : Sl) : List Sl := [.no, .pen, .val PL, a3, a4, a5, a6, a7, a8, a9, a10, a11, a12, a13]
theorem ne_c5 : neM (.lst [.bl true, .bl true, .str "only"]) (.lst [.bl true, .bl true, .str "only"]) = pureM (.bl false) := neM_self (by decide +kernel)
theorem ne_c6 : neM (.tup [.int 2]) (.tup [.int 2]) = pureM (.bl false) := neM_self (by decide +kernel)
theorem eq_c7 : eqM (.tup [.str "only", .int 1]) (.tup [.str "only", .int 1]) = pureM (.bl true) := eqM_self (by decide +kernel)
theorem nb_tt : notBM (.bl true) (.bl true) = pureM (.bl false) := rfl
theorem ib_tt : isBM (.bl true) (.bl true) = pureM (.bl true) := rfl
section
variable {a3 a4 a5 a6 a7 a8 a9 a10 a11 : Sl} {st : Pen} {T U : Nat}
structure Two (T k : Nat) : Prop where
  eq : T = 2 ^ k
  lo : 2 ≤ k
  hi : k ≤ 3000
theorem Two.pos {k : Nat} (t : Two T k) : 1 ≤ T := by rw [t.eq]; exact Nat.one_le_two_pow
theorem Two.le3 {k : Nat} (t : Two T k) : 3 * T ≤ 2 ^ (k + 2) := by rw [t.eq, Nat.pow_add]; omega
theorem two_same1 {k : Nat} (t : Two T k) (st : Pen) : m_are_same [.val (.tup [.str "only", .int T]), .val (.tup [.str "only", .int 2])] st = some (.ok (.bl true), st) :=
  same_true (b := true) (n := T) (m := 2) (i := k) (j := 1) t.pos (by decide) (log_pow t.pos (Nat.le_of_eq t.eq) (by have := t.hi; omega)) (by decide) (by rw [t.eq]; exact Nat.dvd_refl _) (by
    rw [t.eq, Nat.pow_one, show k = 1 + (k - 1) by have := t.lo; omega, Nat.pow_add]
    exact Nat.dvd_mul_right _ _) st
theorem two_same2 {k : Nat} (t : Two T k) (st : Pen) : m_are_same [.val (.tup [.str "but", .int 6]), .val (.tup [.str "but", .int (3 * (T : Int))])] st = some (.ok (.bl true), st) := by
  have h := same_true (b := false) (n := 6) (m := 3 * T) (i := 1) (j := k) (by decide) (by have := t.pos; omega) (by decide) (log_pow (by have := t.pos; omega) t.le3 (by have := t.hi; omega)) (by
    rw [t.eq, Nat.pow_one, show k = 1 + (k - 1) by have := t.lo; omega, Nat.pow_add, ← Nat.mul_assoc]
    exact Nat.dvd_mul_right _ _) (by
    rw [show 6 = 3 * 2 from rfl, Nat.mul_pow, t.eq]
    refine Nat.mul_dvd_mul ?_ (Nat.dvd_refl _)
    rw [show k = 1 + (k - 1) by have := t.lo; omega, Nat.pow_add]
    exact Nat.dvd_mul_right _ _) st
  rw [dS, dS, show ((3 * T : Nat) : Int) = 3 * (T : Int) from rfl] at h
  exact h
theorem two_meet {k : Nat} (t : Two T k) (st : Pen) : m_meet [.val (.tup [.str "only", .int (3 * (T : Int))]), .val (.tup [.str "but", .int 2])] st = some (.ok (.tup [.str "only", .int 3]), st) := by
  have h := meet_ob (n := 3 * T) (m := 2) (r := 3) (by have := t.pos; omega) (by decide) (by decide) ⟨by decide, Nat.dvd_mul_right _ _, by decide, k, by rw [t.eq]; exact Nat.dvd_refl _⟩ st
  rw [dS, dS, show ((3 * T : Nat) : Int) = 3 * (T : Int) from rfl] at h
  exact h
theorem three_same (st : Pen) : m_are_same [.val (.tup [.str "only", .int 3]), .val (.tup [.str "only", .int 3])] st = some (.ok (.bl true), st) :=
  same_true (b := true) (n := 3) (m := 3) (i := 1) (j := 1) (by decide) (by decide) (by decide) (by decide) (by decide) (by decide) st
theorem mk3 (T : Int) : mulOk 3 T = true := by simp [mulOk]
theorem mk3' (T : Int) : mulOk T 3 = true := by simp [mulOk]
theorem c5_ok {k : Nat} (t : Two T k) (a12 : Sl) : C5 (envA a3 a4 a5 a6 a7 a8 a9 a10 a11 a12 (.val (.int T))) st = some (.ok .nx, envA a3 a4 a5 a6 a7 a8 a9 a10 a11 a12 (.val (.int T)), st) := by
  have h1 := two_same1 t st
  have h2 := two_same2 t st
  have h3 := two_meet t st
  simp [C5, envA, h1, h2, h3, mk3, ne_c5]
theorem c6_ok {FT : List Sl → M D} {k : Nat} (t : Two T k) (hf : FT [.val (.tup [.str "only", .int T])] st = some (.ok (.tup [.int 2]), st)) (a12 : Sl) : C6 FT (envA a3 a4 a5 a6 a7 a8 a9 a10 a11 a12 (.val (.int T))) st = some (.ok .nx, envA a3 a4 a5 a6 a7 a8 a9 a10 a11 a12 (.val (.int T)), st) := by
  have h3 := two_meet t st
  have h4 := three_same st
  simp [C6, envA, h3, h4, mk3, hf, ne_c6, nb_tt]
structure Gr (U k : Nat) : Prop where
  eq : U = 101 ^ k
  lo : 1 ≤ k
  hi : k ≤ 300
theorem Gr.pos {k : Nat} (t : Gr U k) : 1 ≤ U := by rw [t.eq]; exact Nat.pow_pos (by decide)
theorem Gr.le {k : Nat} (t : Gr U k) : U ≤ 2 ^ (7 * k) := by
  rw [t.eq, Nat.pow_mul]
  exact Nat.pow_le_pow_left (by decide) k
theorem gr_same1 {k : Nat} (t : Gr U k) (st : Pen) : m_are_same [.val (.tup [.str "only", .int U]), .val (.tup [.str "only", .int 101])] st = some (.ok (.bl true), st) :=
  same_true (b := true) (n := U) (m := 101) (i := k) (j := 1) t.pos (by decide) (log_pow t.pos t.le (by have := t.hi; omega)) (by decide) (by rw [t.eq]; exact Nat.dvd_refl _) (by
    rw [t.eq, Nat.pow_one, show k = 1 + (k - 1) by have := t.lo; omega, Nat.pow_add]
    exact Nat.dvd_mul_right _ _) st
theorem gr_same2 {k : Nat} (t : Gr U k) (st : Pen) : m_are_same [.val (.tup [.str "but", .int ((U : Int) * 3)]), .val (.tup [.str "but", .int 303])] st = some (.ok (.bl true), st) := by
  have h := same_true (b := false) (n := U * 3) (m := 303) (i := k) (j := 1) (by have := t.pos; omega) (by decide) (log_pow (k := 7 * k + 2) (by have := t.pos; omega) (by have := t.le; rw [Nat.pow_add]; omega) (by have := t.hi; omega)) (by decide) (by
    rw [show 303 = 101 * 3 from rfl, Nat.mul_pow, t.eq]
    refine Nat.mul_dvd_mul (Nat.dvd_refl _) ?_
    rw [show k = 1 + (k - 1) by have := t.lo; omega, Nat.pow_add]
    exact Nat.dvd_mul_right _ _) (by
    rw [t.eq, Nat.pow_one, show 303 = 101 * 3 from rfl]
    refine Nat.mul_dvd_mul ?_ (Nat.dvd_refl _)
    rw [show k = 1 + (k - 1) by have := t.lo; omega, Nat.pow_add]
    exact Nat.dvd_mul_right _ _) st
  rw [dS, dS, show ((U * 3 : Nat) : Int) = (U : Int) * 3 from rfl] at h
  exact h
theorem gr_meet {k : Nat} (t : Gr U k) (st : Pen) : m_meet [.val (.tup [.str "only", .int U]), .val (.tup [.str "but", .int 101])] st = some (.ok (.tup [.str "only", .int 1]), st) :=
  meet_ob (n := U) (m := 101) (r := 1) t.pos (by decide) (by decide) ⟨by decide, Nat.one_dvd _, by decide, k, by rw [t.eq, Nat.one_mul]; exact Nat.dvd_refl _⟩ st
theorem c7_ok {k : Nat} (t : Gr U k) (a13 : Sl) : C7 (envA a3 a4 a5 a6 a7 a8 a9 a10 a11 (.val (.int U)) a13) st = some (.ok .nx, envA a3 a4 a5 a6 a7 a8 a9 a10 a11 (.val (.int U)) a13, st) := by
  have h1 := gr_same1 t st
  have h2 := gr_same2 t st
  have h3 := gr_meet t st
  simp [C7, envA, h1, h2, h3, mk3', eq_c7, ib_tt]
theorem prime101 (st : Pen) : m_is_prime [.val (.int 101)] st = some (.ok (.bl true), st) := by kernel_rfl
theorem gr_in {k : Nat} (t : Gr U k) (st : Pen) : m_is_in [.val (.tup [.str "only", .int U]), .val (.int 101)] st = some (.ok (.bl true), st) := by
  have h := ii_gen (FN := m_need_prime) (b := true) (n := U) (p := 101) .t t.pos (st := st) (fun part => np_gen (FP := m_is_prime) (p := 101) (fun _ => prime101 st) (by decide) part)
  have hh : hasN true U 101 = true := by
    unfold hasN
    rw [if_neg (by decide), decide_eq_true]
    · rfl
    · rw [t.eq, show k = 1 + (k - 1) by have := t.lo; omega, Nat.pow_add]
      exact Nat.dvd_mul_right _ _
  rw [hh] at h
  exact h
theorem c8_ok {FI : List Sl → M D} (hi : FI [.val (.tup [.str "only", .int U]), .val (.int 101)] st = some (.ok (.bl true), st)) (a13 : Sl) : C8 FI (envA a3 a4 a5 a6 a7 a8 a9 a10 a11 (.val (.int U)) a13) st = some (.ok (.ret (.bl true)), envA a3 a4 a5 a6 a7 a8 a9 a10 a11 (.val (.int U)) a13, st) := by
  simp [C8, envA, hi, ib_tt]
theorem c3u_ok (u : Nat) (a13 : Sl) : C3u (envA a3 a4 a5 a6 a7 a8 a9 a10 a11 (.val (.int u)) a13) st = some (.ok .nx, envA a3 a4 a5 a6 a7 a8 a9 a10 a11 (.val (.int ((u * 101 : Nat) : Int))) a13, st) := by
  have mk : mulOk u 101 = true := by simp [mulOk]
  simp [C3u, envA, mk]
theorem c4u_ok (t : Nat) (a12 : Sl) : C4u (envA a3 a4 a5 a6 a7 a8 a9 a10 a11 a12 (.val (.int t))) st = some (.ok .nx, envA a3 a4 a5 a6 a7 a8 a9 a10 a11 a12 (.val (.int ((2 * t : Nat) : Int))), st) := by
  have mk : mulOk 2 t = true := by simp [mulOk]
  simp [C4u, envA, mk]
end
theorem len_range (k : Nat) : (rangeL 0 k).length = k := by simp [rangeL]
theorem c3_ok {st : Pen} {n : Nat} (g : PenGood st n) (hn : n ≤ 2000000) (a3 a4 a5 a6 a7 a8 a9 a10 a11 a13 : Sl) : ∃ b3 U k st', Gr U k ∧ PenGood st' (n + 1) ∧
    C3 (envA a3 a4 a5 a6 a7 a8 a9 a10 a11 (.val (.int ((1 : Nat) : Int))) a13) st = some (.ok .nx, envA b3 a4 a5 a6 a7 a8 a9 a10 a11 (.val (.int U)) a13, st') := by
  obtain ⟨r, st1, e1, r0, r1, g1⟩ := draw_ok g (by omega) (many := 260) (by decide) (by decide)
  have hL := forD_inv (F := gNm 3) (u := C3u) (fun k env s => s = st1 ∧ ∃ b3, env = envA b3 a4 a5 a6 a7 a8 a9 a10 a11 (.val (.int ((101 ^ k : Nat) : Int))) a13) (rangeL 0 (40 + r).toNat) 0 (envA a3 a4 a5 a6 a7 a8 a9 a10 a11 (.val (.int ((1 : Nat) : Int))) a13) st1 ⟨rfl, a3, rfl⟩ (by
    rintro d _ j _ _ env _ ⟨rfl, b3, rfl⟩
    exact ⟨_, _, _, rfl, c3u_ok (101 ^ j) a13, rfl, .val d, rfl⟩)
  obtain ⟨e, s, h, rfl, b3, rfl⟩ := hL
  rw [len_range, Nat.zero_add] at h
  refine ⟨b3, 101 ^ (40 + r).toNat, (40 + r).toNat, s, ⟨rfl, by omega, by omega⟩, g1, ?_⟩
  have hr : iRange [.int (40 + r)] = pureM (rangeL 0 (40 + r).toNat) := if_pos (by omega)
  have e1' : iL (lCons (e2 addM (eC (.int 40)) (eCall m__law_draw (aPen 1 (aVal (eC (.int 260)) (aNil))))) (lNil)) (envA a3 a4 a5 a6 a7 a8 a9 a10 a11 (.val (.int ((1 : Nat) : Int))) a13) st = some (.ok (rangeL 0 (40 + r).toNat), s) := by
    simp [envA, e1, hr]
  unfold C3
  rw [sFor_ap, liftM_ap, e1']
  exact h
theorem c4_ok {st : Pen} {n : Nat} (g : PenGood st n) (hn : n ≤ 2000000) (a3 a4 a5 a6 a7 a8 a9 a10 a11 a12 : Sl) : ∃ b3 T k st', Two T k ∧ PenGood st' (n + 1) ∧
    C4 (envA a3 a4 a5 a6 a7 a8 a9 a10 a11 a12 (.val (.int ((1 : Nat) : Int)))) st = some (.ok .nx, envA b3 a4 a5 a6 a7 a8 a9 a10 a11 a12 (.val (.int T)), st') := by
  obtain ⟨r, st1, e1, r0, r1, g1⟩ := draw_ok g (by omega) (many := 2900) (by decide) (by decide)
  have hL := forD_inv (F := gNm 3) (u := C4u) (fun k env s => s = st1 ∧ ∃ b3, env = envA b3 a4 a5 a6 a7 a8 a9 a10 a11 a12 (.val (.int ((2 ^ k : Nat) : Int)))) (rangeL 0 (100 + r).toNat) 0 (envA a3 a4 a5 a6 a7 a8 a9 a10 a11 a12 (.val (.int ((1 : Nat) : Int)))) st1 ⟨rfl, a3, rfl⟩ (by
    rintro d _ j _ _ env _ ⟨rfl, b3, rfl⟩
    refine ⟨_, _, _, rfl, c4u_ok (2 ^ j) a12, rfl, .val d, ?_⟩
    rw [Nat.pow_succ, Nat.mul_comm])
  obtain ⟨e, s, h, rfl, b3, rfl⟩ := hL
  rw [len_range, Nat.zero_add] at h
  refine ⟨b3, 2 ^ (100 + r).toNat, (100 + r).toNat, s, ⟨rfl, by omega, by omega⟩, g1, ?_⟩
  have hr : iRange [.int (100 + r)] = pureM (rangeL 0 (100 + r).toNat) := if_pos (by omega)
  have e1' : iL (lCons (e2 addM (eC (.int 100)) (eCall m__law_draw (aPen 1 (aVal (eC (.int 2900)) (aNil))))) (lNil)) (envA a3 a4 a5 a6 a7 a8 a9 a10 a11 a12 (.val (.int ((1 : Nat) : Int)))) st = some (.ok (rangeL 0 (100 + r).toNat), s) := by
    simp [envA, e1, hr]
  unfold C4
  rw [sFor_ap, liftM_ap, e1']
  exact h
theorem c1_ok {st : Pen} {n : Nat} (g : PenGood st n) (hn : n ≤ 1000) : ∃ a3 a4 a5 a6 a7 a8 a9 a10 a11 st', PenGood st' (n + 80) ∧
    C1 (envA .no .no .no .no .no .no .no .no .no .no .no) st = some (.ok .nx, envA a3 a4 a5 a6 a7 a8 a9 a10 a11 .no .no, st') := by
  have hL := forD_inv (F := gNm 3) (u := LB) (fun k env s => PenGood s (n + 10 * k) ∧ ∃ a3 a4 a5 a6 a7 a8 a9 a10 a11, env = envA a3 a4 a5 a6 a7 a8 a9 a10 a11 .no .no) (rangeL 0 8) 0 (envA .no .no .no .no .no .no .no .no .no .no .no) st ⟨g, _, _, _, _, _, _, _, _, _, rfl⟩ (by
    rintro d _ j _ hj env s ⟨gs, a3, a4, a5, a6, a7, a8, a9, a10, a11, rfl⟩
    rw [len_range] at hj
    obtain ⟨b4, b5, b6, b7, b8, b9, b10, b11, st', e, g'⟩ := lb_ok gs (by omega) (.val d) a4 a5 a6 a7 a8 a9 a10 a11
    exact ⟨_, _, st', rfl, e, g'.mono (by omega), .val d, b4, b5, b6, b7, b8, b9, b10, b11, rfl⟩)
  obtain ⟨e, s, h, gs, a3, a4, a5, a6, a7, a8, a9, a10, a11, rfl⟩ := hL
  rw [len_range] at gs
  refine ⟨a3, a4, a5, a6, a7, a8, a9, a10, a11, s, gs.mono (by omega), ?_⟩
  unfold C1
  rw [sFor_ap, liftM_ap]
  exact h
theorem law_true (ns : List Int) (h : ns.length ≤ 63) : ∃ env' st', b_law (([.no, .pen] : List Sl) ++ List.replicate 12 .no) ⟨ns, 0, 0⟩ = some (.ok (.ret (.bl true)), env', st') := by
  have g0 : PenGood ⟨ns, 0, 0⟩ 0 := ⟨Int.le_refl 0, Int.le_refl 0, Int.le_refl 0⟩
  obtain ⟨a3, a4, a5, a6, a7, a8, a9, a10, a11, st1, g1, e1⟩ := c1_ok g0 (by omega)
  obtain ⟨b3, U, k, st2, gU, g2, e2⟩ := c3_ok g1 (by omega) a3 a4 a5 a6 a7 a8 a9 a10 a11 (.val (.int ((1 : Nat) : Int)))
  obtain ⟨c3, T, k', st3, gT, g3, e3⟩ := c4_ok g2 (by omega) b3 a4 a5 a6 a7 a8 a9 a10 a11 (.val (.int U))
  have hf : m_told_primes [.val (.tup [.str "only", .int T])] st3 = some (.ok (.tup [.int 2]), st3) := by
    have := told_two st3 k' gT.lo (by have := gT.hi; omega)
    rw [← gT.eq] at this
    exact this
  have fin : sSeq C5 (sSeq (C6 m_told_primes) (sSeq C7 (C8 m_is_in))) (envA c3 a4 a5 a6 a7 a8 a9 a10 a11 (.val (.int U)) (.val (.int T))) st3 = some (.ok (.ret (.bl true)), envA c3 a4 a5 a6 a7 a8 a9 a10 a11 (.val (.int U)) (.val (.int T)), st3) := by
    rw [sSeq_nx (c5_ok gT _), sSeq_nx (c6_ok gT hf _), sSeq_nx (c7_ok gU _)]
    exact c8_ok (gr_in gU st3) _
  refine ⟨envA c3 a4 a5 a6 a7 a8 a9 a10 a11 (.val (.int U)) (.val (.int T)), st3, ?_⟩
  have h0 : C0 [.no, .pen, .no, .no, .no, .no, .no, .no, .no, .no, .no, .no, .no, .no] ⟨ns, 0, 0⟩ = some (.ok .nx, envA .no .no .no .no .no .no .no .no .no .no .no, ⟨ns, 0, 0⟩) := by
    simp [C0, primes_k, envA, PL]
  have h2 : C2 (envA a3 a4 a5 a6 a7 a8 a9 a10 a11 .no .no) st1 = some (.ok .nx, envA a3 a4 a5 a6 a7 a8 a9 a10 a11 (.val (.int ((1 : Nat) : Int))) (.val (.int ((1 : Nat) : Int))), st1) := by
    simp [C2, envA]
  show b_law [.no, .pen, .no, .no, .no, .no, .no, .no, .no, .no, .no, .no, .no, .no] _ = _
  rw [b_law_eq, sSeq_nx h0, sSeq_nx e1, sSeq_nx h2, sSeq_nx e2, sSeq_nx e3]
  exact fin
end Law
set_option Elab.async false
set_option linter.all false
set_option maxRecDepth 100000
set_option maxHeartbeats 4000000
namespace Law
open PySem PySem.Spec PyProof.Rows L2 DL
def topS (i : Nat) : Stmt := PySem.Challenge.pw_closedfields_k28_sets_of_characteristics.main.body.getD i (.Pass ⟨0, 0, 0, 0⟩)
abbrev s__law_primes : Stmt := topS 49
theorem sc__law_primes : FnScope ["most", "number", "part"] ["most"] (defScope s__law_primes) := ⟨rfl, rfl, rfl, by decide +kernel, rfl, by decide +kernel, by decide +kernel⟩
abbrev s__law_draw : Stmt := topS 46
theorem sc__law_draw : FnScope ["pen", "many", "rest", "at", "cell", "mixed"] ["pen", "many"] (defScope s__law_draw) := ⟨rfl, rfl, rfl, by decide +kernel, rfl, by decide +kernel, by decide +kernel⟩
abbrev s__law_pick : Stmt := topS 47
theorem sc__law_pick : FnScope ["pen", "some"] ["pen", "some"] (defScope s__law_pick) := ⟨rfl, rfl, rfl, by decide +kernel, rfl, by decide +kernel, by decide +kernel⟩
abbrev s__law_set : Stmt := topS 50
theorem sc__law_set : FnScope ["pen", "number", "turn"] ["pen"] (defScope s__law_set) := ⟨rfl, rfl, rfl, by decide +kernel, rfl, by decide +kernel, by decide +kernel⟩
abbrev s_is_whole : Stmt := topS 7
theorem sc_is_whole : FnScope ["value"] ["value"] (defScope s_is_whole) := ⟨rfl, rfl, rfl, by decide +kernel, rfl, by decide +kernel, by decide +kernel⟩
abbrev s_is_within : Stmt := topS 8
theorem sc_is_within : FnScope ["value", "least", "most"] ["value", "least", "most"] (defScope s_is_within) := ⟨rfl, rfl, rfl, by decide +kernel, rfl, by decide +kernel, by decide +kernel⟩
abbrev s_is_listed : Stmt := topS 9
theorem sc_is_listed : FnScope ["value"] ["value"] (defScope s_is_listed) := ⟨rfl, rfl, rfl, by decide +kernel, rfl, by decide +kernel, by decide +kernel⟩
abbrev s_is_where : Stmt := topS 13
theorem sc_is_where : FnScope ["value"] ["value"] (defScope s_is_where) := ⟨rfl, rfl, rfl, by decide +kernel, rfl, by decide +kernel, by decide +kernel⟩
abbrev s_need_where : Stmt := topS 14
theorem sc_need_where : FnScope ["value", "part"] ["value", "part"] (defScope s_need_where) := ⟨rfl, rfl, rfl, by decide +kernel, rfl, by decide +kernel, by decide +kernel⟩
abbrev s_other_word : Stmt := topS 30
theorem sc_other_word : FnScope ["word"] ["word"] (defScope s_other_word) := ⟨rfl, rfl, rfl, by decide +kernel, rfl, by decide +kernel, by decide +kernel⟩
abbrev s_turned_set : Stmt := topS 32
theorem sc_turned_set : FnScope ["where"] ["where"] (defScope s_turned_set) := ⟨rfl, rfl, rfl, by decide +kernel, rfl, by decide +kernel, by decide +kernel⟩
abbrev s_others : Stmt := topS 41
theorem sc_others : FnScope ["where"] ["where"] (defScope s_others) := ⟨rfl, rfl, rfl, by decide +kernel, rfl, by decide +kernel, by decide +kernel⟩
abbrev s_without_primes : Stmt := topS 31
theorem sc_without_primes : FnScope ["number", "other", "found"] ["number", "other"] (defScope s_without_primes) := ⟨rfl, rfl, rfl, by decide +kernel, rfl, by decide +kernel, by decide +kernel⟩
abbrev s_met : Stmt := topS 33
theorem sc_met : FnScope ["one", "other", "few", "many"] ["one", "other"] (defScope s_met) := ⟨rfl, rfl, rfl, by decide +kernel, rfl, by decide +kernel, by decide +kernel⟩
abbrev s_joined : Stmt := topS 34
theorem sc_joined : FnScope ["one", "other"] ["one", "other"] (defScope s_joined) := ⟨rfl, rfl, rfl, by decide +kernel, rfl, by decide +kernel, by decide +kernel⟩
abbrev s_join : Stmt := topS 40
theorem sc_join : FnScope ["one", "other"] ["one", "other"] (defScope s_join) := ⟨rfl, rfl, rfl, by decide +kernel, rfl, by decide +kernel, by decide +kernel⟩
abbrev s_meet : Stmt := topS 39
theorem sc_meet : FnScope ["one", "other"] ["one", "other"] (defScope s_meet) := ⟨rfl, rfl, rfl, by decide +kernel, rfl, by decide +kernel, by decide +kernel⟩
abbrev s__law_has : Stmt := topS 48
theorem sc__law_has : FnScope ["where", "prime_v"] ["where", "prime_v"] (defScope s__law_has) := ⟨rfl, rfl, rfl, by decide +kernel, rfl, by decide +kernel, by decide +kernel⟩
abbrev s_has : Stmt := topS 36
theorem sc_has : FnScope ["where", "prime"] ["where", "prime"] (defScope s_has) := ⟨rfl, rfl, rfl, by decide +kernel, rfl, by decide +kernel, by decide +kernel⟩
abbrev s_power_below : Stmt := topS 19
theorem sc_power_below : FnScope ["base", "power", "number", "found", "here"] ["base", "power", "number"] (defScope s_power_below) := ⟨rfl, rfl, rfl, by decide +kernel, rfl, by decide +kernel, by decide +kernel⟩
abbrev s_stands : Stmt := topS 20
theorem sc_stands : FnScope ["number", "base", "odd", "twos", "here", "turn"] ["number", "base"] (defScope s_stands) := ⟨rfl, rfl, rfl, by decide +kernel, rfl, by decide +kernel, by decide +kernel⟩
abbrev s_prime : Stmt := topS 21
theorem sc_prime : FnScope ["number", "base"] ["number"] (defScope s_prime) := ⟨rfl, rfl, rfl, by decide +kernel, rfl, by decide +kernel, by decide +kernel⟩
abbrev s_is_prime : Stmt := topS 23
theorem sc_is_prime : FnScope ["number"] ["number"] (defScope s_is_prime) := ⟨rfl, rfl, rfl, by decide +kernel, rfl, by decide +kernel, by decide +kernel⟩
abbrev s_need_prime : Stmt := topS 37
theorem sc_need_prime : FnScope ["value", "part"] ["value", "part"] (defScope s_need_prime) := ⟨rfl, rfl, rfl, by decide +kernel, rfl, by decide +kernel, by decide +kernel⟩
abbrev s_is_in : Stmt := topS 38
theorem sc_is_in : FnScope ["where", "prime", "told"] ["where", "prime"] (defScope s_is_in) := ⟨rfl, rfl, rfl, by decide +kernel, rfl, by decide +kernel, by decide +kernel⟩
abbrev s_is_same : Stmt := topS 35
theorem sc_is_same : FnScope ["one", "other"] ["one", "other"] (defScope s_is_same) := ⟨rfl, rfl, rfl, by decide +kernel, rfl, by decide +kernel, by decide +kernel⟩
abbrev s_are_same : Stmt := topS 42
theorem sc_are_same : FnScope ["one", "other"] ["one", "other"] (defScope s_are_same) := ⟨rfl, rfl, rfl, by decide +kernel, rfl, by decide +kernel, by decide +kernel⟩
abbrev s__law_sets_alike : Stmt := topS 51
theorem sc__law_sets_alike : FnScope ["where", "other", "prime_v"] ["where", "other"] (defScope s__law_sets_alike) := ⟨rfl, rfl, rfl, by decide +kernel, rfl, by decide +kernel, by decide +kernel⟩
abbrev s_need_whole : Stmt := topS 10
theorem sc_need_whole : FnScope ["part", "value", "least", "most"] ["part", "value", "least", "most"] (defScope s_need_whole) := ⟨rfl, rfl, rfl, by decide +kernel, rfl, by decide +kernel, by decide +kernel⟩
abbrev s_parts_found : Stmt := topS 22
theorem sc_parts_found : FnScope ["number", "found", "here", "many"] ["number"] (defScope s_parts_found) := ⟨rfl, rfl, rfl, by decide +kernel, rfl, by decide +kernel, by decide +kernel⟩
abbrev s_parted : Stmt := topS 24
theorem sc_parted : FnScope ["number", "found", "left"] ["number"] (defScope s_parted) := ⟨rfl, rfl, rfl, by decide +kernel, rfl, by decide +kernel, by decide +kernel⟩
abbrev s_primes_of : Stmt := topS 25
theorem sc_primes_of : FnScope ["number", "one", "many"] ["number"] (defScope s_primes_of) := ⟨rfl, rfl, rfl, by decide +kernel, rfl, by decide +kernel, by decide +kernel⟩
abbrev s_told_primes : Stmt := topS 43
theorem sc_told_primes : FnScope ["where"] ["where"] (defScope s_told_primes) := ⟨rfl, rfl, rfl, by decide +kernel, rfl, by decide +kernel, by decide +kernel⟩
abbrev s__law_pen : Stmt := topS 45
theorem sc__law_pen : FnScope ["script", "cell"] ["script"] (defScope s__law_pen) := ⟨rfl, rfl, rfl, by decide +kernel, rfl, by decide +kernel, by decide +kernel⟩
abbrev s_law : Stmt := topS 52
theorem sc_law : FnScope ["script", "pen", "primes", "turn", "one", "other", "both", "either", "rest", "prime_v", "has_v", "due", "great", "twos"] ["script"] (defScope s_law) := ⟨rfl, rfl, rfl, by decide +kernel, rfl, by decide +kernel, by decide +kernel⟩
structure Tx (K : PySem.W.Frag) (mg : Str → Option Value) where
  fa__law_primes : Addr
  fd__law_primes : FuncData
  F__law_primes : FunD K "_law_primes" "_law_primes" (defArgs s__law_primes) (defBody s__law_primes) (defScope s__law_primes) [] [] fa__law_primes fd__law_primes
  g__law_primes : mg "_law_primes" = some (.ref fa__law_primes)
  fa__law_draw : Addr
  fd__law_draw : FuncData
  F__law_draw : FunD K "_law_draw" "_law_draw" (defArgs s__law_draw) (defBody s__law_draw) (defScope s__law_draw) [] [] fa__law_draw fd__law_draw
  g__law_draw : mg "_law_draw" = some (.ref fa__law_draw)
  fa__law_pick : Addr
  fd__law_pick : FuncData
  F__law_pick : FunD K "_law_pick" "_law_pick" (defArgs s__law_pick) (defBody s__law_pick) (defScope s__law_pick) [] [] fa__law_pick fd__law_pick
  g__law_pick : mg "_law_pick" = some (.ref fa__law_pick)
  fa__law_set : Addr
  fd__law_set : FuncData
  F__law_set : FunD K "_law_set" "_law_set" (defArgs s__law_set) (defBody s__law_set) (defScope s__law_set) [] [] fa__law_set fd__law_set
  g__law_set : mg "_law_set" = some (.ref fa__law_set)
  fa_is_whole : Addr
  fd_is_whole : FuncData
  F_is_whole : FunD K "is_whole" "is_whole" (defArgs s_is_whole) (defBody s_is_whole) (defScope s_is_whole) [] [] fa_is_whole fd_is_whole
  g_is_whole : mg "is_whole" = some (.ref fa_is_whole)
  fa_is_within : Addr
  fd_is_within : FuncData
  F_is_within : FunD K "is_within" "is_within" (defArgs s_is_within) (defBody s_is_within) (defScope s_is_within) [] [] fa_is_within fd_is_within
  g_is_within : mg "is_within" = some (.ref fa_is_within)
  fa_is_listed : Addr
  fd_is_listed : FuncData
  F_is_listed : FunD K "is_listed" "is_listed" (defArgs s_is_listed) (defBody s_is_listed) (defScope s_is_listed) [] [] fa_is_listed fd_is_listed
  g_is_listed : mg "is_listed" = some (.ref fa_is_listed)
  fa_is_where : Addr
  fd_is_where : FuncData
  F_is_where : FunD K "is_where" "is_where" (defArgs s_is_where) (defBody s_is_where) (defScope s_is_where) [] [] fa_is_where fd_is_where
  g_is_where : mg "is_where" = some (.ref fa_is_where)
  fa_need_where : Addr
  fd_need_where : FuncData
  F_need_where : FunD K "need_where" "need_where" (defArgs s_need_where) (defBody s_need_where) (defScope s_need_where) [.str "where"] [] fa_need_where fd_need_where
  g_need_where : mg "need_where" = some (.ref fa_need_where)
  fa_other_word : Addr
  fd_other_word : FuncData
  F_other_word : FunD K "other_word" "other_word" (defArgs s_other_word) (defBody s_other_word) (defScope s_other_word) [] [] fa_other_word fd_other_word
  g_other_word : mg "other_word" = some (.ref fa_other_word)
  fa_turned_set : Addr
  fd_turned_set : FuncData
  F_turned_set : FunD K "turned_set" "turned_set" (defArgs s_turned_set) (defBody s_turned_set) (defScope s_turned_set) [] [] fa_turned_set fd_turned_set
  g_turned_set : mg "turned_set" = some (.ref fa_turned_set)
  fa_others : Addr
  fd_others : FuncData
  F_others : FunD K "others" "others" (defArgs s_others) (defBody s_others) (defScope s_others) [] [] fa_others fd_others
  g_others : mg "others" = some (.ref fa_others)
  fa_without_primes : Addr
  fd_without_primes : FuncData
  F_without_primes : FunD K "without_primes" "without_primes" (defArgs s_without_primes) (defBody s_without_primes) (defScope s_without_primes) [] [] fa_without_primes fd_without_primes
  g_without_primes : mg "without_primes" = some (.ref fa_without_primes)
  fa_met : Addr
  fd_met : FuncData
  F_met : FunD K "met" "met" (defArgs s_met) (defBody s_met) (defScope s_met) [] [] fa_met fd_met
  g_met : mg "met" = some (.ref fa_met)
  fa_joined : Addr
  fd_joined : FuncData
  F_joined : FunD K "joined" "joined" (defArgs s_joined) (defBody s_joined) (defScope s_joined) [] [] fa_joined fd_joined
  g_joined : mg "joined" = some (.ref fa_joined)
  fa_join : Addr
  fd_join : FuncData
  F_join : FunD K "join" "join" (defArgs s_join) (defBody s_join) (defScope s_join) [] [] fa_join fd_join
  g_join : mg "join" = some (.ref fa_join)
  fa_meet : Addr
  fd_meet : FuncData
  F_meet : FunD K "meet" "meet" (defArgs s_meet) (defBody s_meet) (defScope s_meet) [] [] fa_meet fd_meet
  g_meet : mg "meet" = some (.ref fa_meet)
  fa__law_has : Addr
  fd__law_has : FuncData
  F__law_has : FunD K "_law_has" "_law_has" (defArgs s__law_has) (defBody s__law_has) (defScope s__law_has) [] [] fa__law_has fd__law_has
  g__law_has : mg "_law_has" = some (.ref fa__law_has)
  fa_has : Addr
  fd_has : FuncData
  F_has : FunD K "has" "has" (defArgs s_has) (defBody s_has) (defScope s_has) [] [] fa_has fd_has
  g_has : mg "has" = some (.ref fa_has)
  fa_power_below : Addr
  fd_power_below : FuncData
  F_power_below : FunD K "power_below" "power_below" (defArgs s_power_below) (defBody s_power_below) (defScope s_power_below) [] [] fa_power_below fd_power_below
  g_power_below : mg "power_below" = some (.ref fa_power_below)
  fa_stands : Addr
  fd_stands : FuncData
  F_stands : FunD K "stands" "stands" (defArgs s_stands) (defBody s_stands) (defScope s_stands) [] [] fa_stands fd_stands
  g_stands : mg "stands" = some (.ref fa_stands)
  fa_prime : Addr
  fd_prime : FuncData
  F_prime : FunD K "prime" "prime" (defArgs s_prime) (defBody s_prime) (defScope s_prime) [] [] fa_prime fd_prime
  g_prime : mg "prime" = some (.ref fa_prime)
  fa_is_prime : Addr
  fd_is_prime : FuncData
  F_is_prime : FunD K "is_prime" "is_prime" (defArgs s_is_prime) (defBody s_is_prime) (defScope s_is_prime) [] [] fa_is_prime fd_is_prime
  g_is_prime : mg "is_prime" = some (.ref fa_is_prime)
  fa_need_prime : Addr
  fd_need_prime : FuncData
  F_need_prime : FunD K "need_prime" "need_prime" (defArgs s_need_prime) (defBody s_need_prime) (defScope s_need_prime) [.str "prime"] [] fa_need_prime fd_need_prime
  g_need_prime : mg "need_prime" = some (.ref fa_need_prime)
  fa_is_in : Addr
  fd_is_in : FuncData
  F_is_in : FunD K "is_in" "is_in" (defArgs s_is_in) (defBody s_is_in) (defScope s_is_in) [] [] fa_is_in fd_is_in
  g_is_in : mg "is_in" = some (.ref fa_is_in)
  fa_is_same : Addr
  fd_is_same : FuncData
  F_is_same : FunD K "is_same" "is_same" (defArgs s_is_same) (defBody s_is_same) (defScope s_is_same) [] [] fa_is_same fd_is_same
  g_is_same : mg "is_same" = some (.ref fa_is_same)
  fa_are_same : Addr
  fd_are_same : FuncData
  F_are_same : FunD K "are_same" "are_same" (defArgs s_are_same) (defBody s_are_same) (defScope s_are_same) [] [] fa_are_same fd_are_same
  g_are_same : mg "are_same" = some (.ref fa_are_same)
  fa__law_sets_alike : Addr
  fd__law_sets_alike : FuncData
  F__law_sets_alike : FunD K "_law_sets_alike" "_law_sets_alike" (defArgs s__law_sets_alike) (defBody s__law_sets_alike) (defScope s__law_sets_alike) [] [] fa__law_sets_alike fd__law_sets_alike
  g__law_sets_alike : mg "_law_sets_alike" = some (.ref fa__law_sets_alike)
  fa_need_whole : Addr
  fd_need_whole : FuncData
  F_need_whole : FunD K "need_whole" "need_whole" (defArgs s_need_whole) (defBody s_need_whole) (defScope s_need_whole) [.non] [] fa_need_whole fd_need_whole
  g_need_whole : mg "need_whole" = some (.ref fa_need_whole)
  fa_parts_found : Addr
  fd_parts_found : FuncData
  F_parts_found : FunD K "parts_found" "parts_found" (defArgs s_parts_found) (defBody s_parts_found) (defScope s_parts_found) [] [] fa_parts_found fd_parts_found
  g_parts_found : mg "parts_found" = some (.ref fa_parts_found)
  fa_parted : Addr
  fd_parted : FuncData
  F_parted : FunD K "parted" "parted" (defArgs s_parted) (defBody s_parted) (defScope s_parted) [] [] fa_parted fd_parted
  g_parted : mg "parted" = some (.ref fa_parted)
  fa_primes_of : Addr
  fd_primes_of : FuncData
  F_primes_of : FunD K "primes_of" "primes_of" (defArgs s_primes_of) (defBody s_primes_of) (defScope s_primes_of) [] [] fa_primes_of fd_primes_of
  g_primes_of : mg "primes_of" = some (.ref fa_primes_of)
  fa_told_primes : Addr
  fd_told_primes : FuncData
  F_told_primes : FunD K "told_primes" "told_primes" (defArgs s_told_primes) (defBody s_told_primes) (defScope s_told_primes) [] [] fa_told_primes fd_told_primes
  g_told_primes : mg "told_primes" = some (.ref fa_told_primes)
  fa__law_pen : Addr
  fd__law_pen : FuncData
  F__law_pen : FunD K "_law_pen" "_law_pen" (defArgs s__law_pen) (defBody s__law_pen) (defScope s__law_pen) [] [] fa__law_pen fd__law_pen
  g__law_pen : mg "_law_pen" = some (.ref fa__law_pen)
  fa_law : Addr
  fd_law : FuncData
  F_law : FunD K "law" "law" (defArgs s_law) (defBody s_law) (defScope s_law) [] [] fa_law fd_law
  g_law : mg "law" = some (.ref fa_law)
  nb_abs : mg "abs" = none
  nb_all : mg "all" = none
  nb_bool : mg "bool" = none
  nb_int : mg "int" = none
  nb_isinstance : mg "isinstance" = none
  nb_len : mg "len" = none
  nb_list : mg "list" = none
  nb_range : mg "range" = none
  nb_repr : mg "repr" = none
  nb_str : mg "str" = none
  nb_tuple : mg "tuple" = none
  gi_gcd : mg "gcd" = some (.builtin "math.gcd")
  ca_BASES : Addr
  gc_BASES : mg "BASES" = some (.ref ca_BASES)
  rc_BASES : ∀ G, Rep ⟨K, mg⟩ G (.ref ca_BASES) c_BASES
  ct_BUT : Tok
  gc_BUT : mg "BUT" = some (.str "but" ct_BUT)
  ct_MOST : Tok
  gc_MOST : mg "MOST" = some (.int 1000000000000000000000000 ct_MOST)
  ct_MOST_CHARACTERISTIC : Tok
  gc_MOST_CHARACTERISTIC : mg "MOST_CHARACTERISTIC" = some (.int 1000000000000 ct_MOST_CHARACTERISTIC)
  ct_ONLY : Tok
  gc_ONLY : mg "ONLY" = some (.str "only" ct_ONLY)
  ct_SMALL : Tok
  gc_SMALL : mg "SMALL" = some (.int 100000 ct_SMALL)
  ca_WORDS : Addr
  gc_WORDS : mg "WORDS" = some (.ref ca_WORDS)
  rc_WORDS : ∀ G, Rep ⟨K, mg⟩ G (.ref ca_WORDS) c_WORDS
section
variable {P : Program} {w : World} {K : PySem.W.Frag} {mg : Str → Option Value} {base : Heap}
theorem Tx.dc_BASES (T : Tx K mg) {X : Cx} {W : WX} {pos : Pos} (hg : Gl X "BASES") (hmg : X.mg = mg) : PE X (.Name "BASES" pos) (tD ⟨K, mg⟩ W (eC c_BASES)) := by
  subst hmg
  exact de_glob hg (v := .ref T.ca_BASES) T.gc_BASES rfl T.rc_BASES
theorem Tx.dc_BUT (T : Tx K mg) {X : Cx} {W : WX} {pos : Pos} (hg : Gl X "BUT") (hmg : X.mg = mg) : PE X (.Name "BUT" pos) (tD ⟨K, mg⟩ W (eC c_BUT)) := by
  subst hmg
  exact de_glob hg (v := .str _) T.gc_BUT ⟨_, rfl⟩ (fun _ => .str _)
theorem Tx.dc_MOST (T : Tx K mg) {X : Cx} {W : WX} {pos : Pos} (hg : Gl X "MOST") (hmg : X.mg = mg) : PE X (.Name "MOST" pos) (tD ⟨K, mg⟩ W (eC c_MOST)) := by
  subst hmg
  exact de_glob hg (v := .int _) T.gc_MOST ⟨_, rfl⟩ (fun _ => .int _)
theorem Tx.dc_MOST_CHARACTERISTIC (T : Tx K mg) {X : Cx} {W : WX} {pos : Pos} (hg : Gl X "MOST_CHARACTERISTIC") (hmg : X.mg = mg) : PE X (.Name "MOST_CHARACTERISTIC" pos) (tD ⟨K, mg⟩ W (eC c_MOST_CHARACTERISTIC)) := by
  subst hmg
  exact de_glob hg (v := .int _) T.gc_MOST_CHARACTERISTIC ⟨_, rfl⟩ (fun _ => .int _)
theorem Tx.dc_ONLY (T : Tx K mg) {X : Cx} {W : WX} {pos : Pos} (hg : Gl X "ONLY") (hmg : X.mg = mg) : PE X (.Name "ONLY" pos) (tD ⟨K, mg⟩ W (eC c_ONLY)) := by
  subst hmg
  exact de_glob hg (v := .str _) T.gc_ONLY ⟨_, rfl⟩ (fun _ => .str _)
theorem Tx.dc_SMALL (T : Tx K mg) {X : Cx} {W : WX} {pos : Pos} (hg : Gl X "SMALL") (hmg : X.mg = mg) : PE X (.Name "SMALL" pos) (tD ⟨K, mg⟩ W (eC c_SMALL)) := by
  subst hmg
  exact de_glob hg (v := .int _) T.gc_SMALL ⟨_, rfl⟩ (fun _ => .int _)
theorem Tx.dc_WORDS (T : Tx K mg) {X : Cx} {W : WX} {pos : Pos} (hg : Gl X "WORDS") (hmg : X.mg = mg) : PE X (.Name "WORDS" pos) (tD ⟨K, mg⟩ W (eC c_WORDS)) := by
  subst hmg
  exact de_glob hg (v := .ref T.ca_WORDS) T.gc_WORDS rfl T.rc_WORDS
theorem bn__law_primes (T : Tx K mg) : Binds K T.fd__law_primes ["most"] [] := T.F__law_primes.bindsN fun _ _ _ _ _ _ us hl => match us, hl with | [_], _ => rfl
theorem bn__law_draw (T : Tx K mg) : Binds K T.fd__law_draw ["pen", "many"] [] := T.F__law_draw.bindsN fun _ _ _ _ _ _ us hl => match us, hl with | [_, _], _ => rfl
theorem bn__law_pick (T : Tx K mg) : Binds K T.fd__law_pick ["pen", "some"] [] := T.F__law_pick.bindsN fun _ _ _ _ _ _ us hl => match us, hl with | [_, _], _ => rfl
theorem bn__law_set (T : Tx K mg) : Binds K T.fd__law_set ["pen"] [] := T.F__law_set.bindsN fun _ _ _ _ _ _ us hl => match us, hl with | [_], _ => rfl
theorem bn_is_whole (T : Tx K mg) : Binds K T.fd_is_whole ["value"] [] := T.F_is_whole.bindsN fun _ _ _ _ _ _ us hl => match us, hl with | [_], _ => rfl
theorem bn_is_within (T : Tx K mg) : Binds K T.fd_is_within ["value", "least", "most"] [] := T.F_is_within.bindsN fun _ _ _ _ _ _ us hl => match us, hl with | [_, _, _], _ => rfl
theorem bn_is_listed (T : Tx K mg) : Binds K T.fd_is_listed ["value"] [] := T.F_is_listed.bindsN fun _ _ _ _ _ _ us hl => match us, hl with | [_], _ => rfl
theorem bn_is_where (T : Tx K mg) : Binds K T.fd_is_where ["value"] [] := T.F_is_where.bindsN fun _ _ _ _ _ _ us hl => match us, hl with | [_], _ => rfl
theorem bn_need_where (T : Tx K mg) : Binds K T.fd_need_where ["value", "part"] [] := by
  obtain ⟨ds, h1, h2⟩ := T.F_need_where.binds1 (ps := ["value", "part"]) 2 1 (by simp) (by decide) (fun _ _ _ _ _ _ _ us its h1 h2 => match us, its, h1, h2 with | [_, _], [_], _, _ => ⟨_, rfl, rfl⟩)
  cases h1
  exact h2
theorem bn_other_word (T : Tx K mg) : Binds K T.fd_other_word ["word"] [] := T.F_other_word.bindsN fun _ _ _ _ _ _ us hl => match us, hl with | [_], _ => rfl
theorem bn_turned_set (T : Tx K mg) : Binds K T.fd_turned_set ["where"] [] := T.F_turned_set.bindsN fun _ _ _ _ _ _ us hl => match us, hl with | [_], _ => rfl
theorem bn_others (T : Tx K mg) : Binds K T.fd_others ["where"] [] := T.F_others.bindsN fun _ _ _ _ _ _ us hl => match us, hl with | [_], _ => rfl
theorem bn_without_primes (T : Tx K mg) : Binds K T.fd_without_primes ["number", "other"] [] := T.F_without_primes.bindsN fun _ _ _ _ _ _ us hl => match us, hl with | [_, _], _ => rfl
theorem bn_met (T : Tx K mg) : Binds K T.fd_met ["one", "other"] [] := T.F_met.bindsN fun _ _ _ _ _ _ us hl => match us, hl with | [_, _], _ => rfl
theorem bn_joined (T : Tx K mg) : Binds K T.fd_joined ["one", "other"] [] := T.F_joined.bindsN fun _ _ _ _ _ _ us hl => match us, hl with | [_, _], _ => rfl
theorem bn_join (T : Tx K mg) : Binds K T.fd_join ["one", "other"] [] := T.F_join.bindsN fun _ _ _ _ _ _ us hl => match us, hl with | [_, _], _ => rfl
theorem bn_meet (T : Tx K mg) : Binds K T.fd_meet ["one", "other"] [] := T.F_meet.bindsN fun _ _ _ _ _ _ us hl => match us, hl with | [_, _], _ => rfl
theorem bn__law_has (T : Tx K mg) : Binds K T.fd__law_has ["where", "prime_v"] [] := T.F__law_has.bindsN fun _ _ _ _ _ _ us hl => match us, hl with | [_, _], _ => rfl
theorem bn_has (T : Tx K mg) : Binds K T.fd_has ["where", "prime"] [] := T.F_has.bindsN fun _ _ _ _ _ _ us hl => match us, hl with | [_, _], _ => rfl
theorem bn_power_below (T : Tx K mg) : Binds K T.fd_power_below ["base", "power", "number"] [] := T.F_power_below.bindsN fun _ _ _ _ _ _ us hl => match us, hl with | [_, _, _], _ => rfl
theorem bn_stands (T : Tx K mg) : Binds K T.fd_stands ["number", "base"] [] := T.F_stands.bindsN fun _ _ _ _ _ _ us hl => match us, hl with | [_, _], _ => rfl
theorem bn_prime (T : Tx K mg) : Binds K T.fd_prime ["number"] [] := T.F_prime.bindsN fun _ _ _ _ _ _ us hl => match us, hl with | [_], _ => rfl
theorem bn_is_prime (T : Tx K mg) : Binds K T.fd_is_prime ["number"] [] := T.F_is_prime.bindsN fun _ _ _ _ _ _ us hl => match us, hl with | [_], _ => rfl
theorem bn_need_prime (T : Tx K mg) : Binds K T.fd_need_prime ["value", "part"] [] := by
  obtain ⟨ds, h1, h2⟩ := T.F_need_prime.binds1 (ps := ["value", "part"]) 2 1 (by simp) (by decide) (fun _ _ _ _ _ _ _ us its h1 h2 => match us, its, h1, h2 with | [_, _], [_], _, _ => ⟨_, rfl, rfl⟩)
  cases h1
  exact h2
theorem bn_is_in (T : Tx K mg) : Binds K T.fd_is_in ["where", "prime"] [] := T.F_is_in.bindsN fun _ _ _ _ _ _ us hl => match us, hl with | [_, _], _ => rfl
theorem bn_is_same (T : Tx K mg) : Binds K T.fd_is_same ["one", "other"] [] := T.F_is_same.bindsN fun _ _ _ _ _ _ us hl => match us, hl with | [_, _], _ => rfl
theorem bn_are_same (T : Tx K mg) : Binds K T.fd_are_same ["one", "other"] [] := T.F_are_same.bindsN fun _ _ _ _ _ _ us hl => match us, hl with | [_, _], _ => rfl
theorem bn__law_sets_alike (T : Tx K mg) : Binds K T.fd__law_sets_alike ["where", "other"] [] := T.F__law_sets_alike.bindsN fun _ _ _ _ _ _ us hl => match us, hl with | [_, _], _ => rfl
theorem bn_need_whole (T : Tx K mg) : Binds K T.fd_need_whole ["part", "value", "least", "most"] [] := by
  obtain ⟨ds, h1, h2⟩ := T.F_need_whole.binds1 (ps := ["part", "value", "least", "most"]) 4 1 (by simp) (by decide) (fun _ _ _ _ _ _ _ us its h1 h2 => match us, its, h1, h2 with | [_, _, _, _], [_], _, _ => ⟨_, rfl, rfl⟩)
  cases h1
  exact h2
theorem bn_parts_found (T : Tx K mg) : Binds K T.fd_parts_found ["number"] [] := T.F_parts_found.bindsN fun _ _ _ _ _ _ us hl => match us, hl with | [_], _ => rfl
theorem bn_parted (T : Tx K mg) : Binds K T.fd_parted ["number"] [] := T.F_parted.bindsN fun _ _ _ _ _ _ us hl => match us, hl with | [_], _ => rfl
theorem bn_primes_of (T : Tx K mg) : Binds K T.fd_primes_of ["number"] [] := T.F_primes_of.bindsN fun _ _ _ _ _ _ us hl => match us, hl with | [_], _ => rfl
theorem bn_told_primes (T : Tx K mg) : Binds K T.fd_told_primes ["where"] [] := T.F_told_primes.bindsN fun _ _ _ _ _ _ us hl => match us, hl with | [_], _ => rfl
theorem bn__law_pen (T : Tx K mg) : Binds K T.fd__law_pen ["script"] [] := T.F__law_pen.bindsN fun _ _ _ _ _ _ us hl => match us, hl with | [_], _ => rfl
theorem ok__law_primes (T : Tx K mg) : FnOk P w K mg base (L2.CX P w) 1 T.fa__law_primes T.fd__law_primes ["most"] (spF ⟨K, mg⟩ m__law_primes) := by
  refine fn_d (N := ["most", "number", "part"]) (u := b__law_primes) T.F__law_primes sc__law_primes fun cdv A outer s H E hr => ?_
  have nd := sc__law_primes.nd
  have tk : Takes (cxOf (L2.CX P w) P w K mg base ["most", "number", "part"] "_law_primes" (defScope s__law_primes) T.fa__law_primes cdv A outer s H E) (fun c d _ H => E c d H) := takes_of rfl rfl rfl rfl
  have hx := fun σ => passAt tk σ
  have hp := passes_of (X := cxOf (L2.CX P w) P w K mg base ["most", "number", "part"] "_law_primes" (defScope s__law_primes) T.fa__law_primes cdv A outer s H E) rfl
  exact (dss_one (ds_ret (de_bin od_add (de_lst (dl_cons de_int dl_nil)) (de_lc (own := [("number", 1)]) rfl nd (di_range2 T.nb_range (dl_cons de_int (dl_cons (de_bin od_add (dv 0) de_int) dl_nil)) ltwo) (blkOk_by (own := [("number", 1)]) (N := ["most", "number", "part"]) (sc := defScope s__law_primes) (by decide +kernel)) (fun _ _ _ _ _ => (dg_name (i := 1) nd rfl (by first | exact Or.inl rfl | exact Or.inr rfl))) (fun _ _ _ _ _ => (dts_one (dt_cmp (od_eq hr.units) (de_lc (own := [("part", 2)]) rfl nd (di_range2 T.nb_range (dl_cons de_int (dl_cons (dv 1) dl_nil)) ltwo) (by simp only [cxOf, compEnvC, envOfC, relabel_eq]; exact blkOk_by (by decide +kernel)) (fun _ _ _ _ _ => (dg_name (i := 2) nd rfl (by first | exact Or.inl rfl | exact Or.inr rfl))) (fun _ _ _ _ _ => (dts_one (dt_cmp (od_eq hr.units) (de_bin od_mod (de_callTy cd_int T.nb_int boot_int (dl_cons (dv 1) dl_nil)) (dv 2)) de_int (by rfl)))) (fun _ _ _ _ _ => (dv 2))) (de_lst dl_nil) (by rfl)))) (fun _ _ _ _ _ => (dv 1))))))

theorem ok__law_draw (T : Tx K mg) : FnOk P w K mg base (L2.CX P w) 1 T.fa__law_draw T.fd__law_draw ["pen", "many"] (spF ⟨K, mg⟩ m__law_draw) := by
  refine fn_d (N := ["pen", "many", "rest", "at", "cell", "mixed"]) (u := b__law_draw) T.F__law_draw sc__law_draw fun cdv A outer s H E hr => ?_
  have nd := sc__law_draw.nd
  have tk : Takes (cxOf (L2.CX P w) P w K mg base ["pen", "many", "rest", "at", "cell", "mixed"] "_law_draw" (defScope s__law_draw) T.fa__law_draw cdv A outer s H E) (fun c d _ H => E c d H) := takes_of rfl rfl rfl rfl
  have hx := fun σ => passAt tk σ
  have hp := passes_of (X := cxOf (L2.CX P w) P w K mg base ["pen", "many", "rest", "at", "cell", "mixed"] "_law_draw" (defScope s__law_draw) T.fa__law_draw cdv A outer s H E) rfl
  exact (dss_cons (ds_if (dt_cmp od_gt (de_pen 0 2) de_int (by rfl)) (dss_cons (ds_set (i := 2) nd (de_callTy cd_int T.nb_int boot_int (dl_cons (de_pen 0 2) dl_nil)))
    (dss_cons (ds_pen 0 2 (de_bin od_fdiv (dv 2) (dv 1)))
    (dss_one (ds_ret (de_bin od_mod (de_callTy cd_int T.nb_int boot_int (dl_cons (dv 2) dl_nil)) (dv 1)))))) dss_nil)
    (dss_cons (ds_set (i := 3) nd (de_pen 0 1))
    (dss_cons (ds_pen 0 1 (de_bin od_add (dv 3) de_int))
    (dss_cons (ds_set (i := 4) nd (de_bin od_add (de_bin od_mul de_int (dv 3)) de_int))
    (dss_cons (ds_if (dt_cmp (od_ne hr.units) (de_pen 0 0) (de_lst dl_nil) (by rfl)) (dss_one (ds_set (i := 4) nd (de_ix xd_ix (de_pen 0 0) (de_bin od_mod (de_callTy cd_int T.nb_int boot_int (dl_cons (dv 3) dl_nil)) (de_callB cd_len T.nb_len PySem.boot_len (dl_cons (de_pen 0 0) dl_nil))) (fun _ _ => rfl)))) dss_nil)
    (dss_cons (ds_if ((dw_and (dt_cmp od_lt (dv 3) (de_callB cd_len T.nb_len PySem.boot_len (dl_cons (de_pen 0 0) dl_nil)) (by rfl)) (dw_and1 (dt_cmp od_ge (de_callB cd_abs T.nb_abs (by decide +kernel) (dl_cons (dv 4) dl_nil)) (de_bin od_pow de_int de_int) (by rfl))))).pt (dss_cons (ds_set (i := 2) nd (de_bin od_add (de_bin od_mul de_int (de_bin od_sub (de_callB cd_abs T.nb_abs (by decide +kernel) (dl_cons (dv 4) dl_nil)) (de_bin od_pow de_int de_int))) (de_callTy cd_int T.nb_int boot_int (dl_cons (de_cmp od_lt (dv 4) de_int (by rfl)) dl_nil))))
    (dss_cons (ds_pen 0 2 (de_bin od_fdiv (de_callTy cd_int T.nb_int boot_int (dl_cons (dv 2) dl_nil)) (dv 1)))
    (dss_one (ds_ret (de_bin od_mod (de_callTy cd_int T.nb_int boot_int (dl_cons (dv 2) dl_nil)) (dv 1)))))) dss_nil)
    (dss_cons (ds_set (i := 5) nd (de_bin od_mod (de_callTy cd_int T.nb_int boot_int (dl_cons (de_bin od_pow (de_bin od_add (de_bin od_add (de_bin od_mod (de_callTy cd_int T.nb_int boot_int (dl_cons (dv 4) dl_nil)) de_int) (de_bin od_mul de_int (dv 3))) de_int) de_int) dl_nil)) de_int))
    (dss_cons (ds_set (i := 5) nd (de_bin od_mod (de_callTy cd_int T.nb_int boot_int (dl_cons (de_bin od_pow (de_bin od_add (de_bin od_add (de_bin od_mul (dv 5) (de_bin od_add (de_bin od_mul de_int (dv 3)) de_int)) (de_bin od_mul (de_bin od_mul de_int (dv 3)) (dv 3))) de_int) de_int) dl_nil)) de_int))
    (dss_one (ds_ret (de_bin od_mod (de_callTy cd_int T.nb_int boot_int (dl_cons (de_bin od_fdiv (dv 5) de_int) dl_nil)) (dv 1))))))))))))

theorem ok__law_pick (T : Tx K mg) : FnOk P w K mg base (L2.CX P w) 2 T.fa__law_pick T.fd__law_pick ["pen", "some"] (spF ⟨K, mg⟩ m__law_pick) := by
  refine fn_d (N := ["pen", "some"]) (u := b__law_pick) T.F__law_pick sc__law_pick fun cdv A outer s H E hr => ?_
  have nd := sc__law_pick.nd
  have tk : Takes (cxOf (L2.CX P w) P w K mg base ["pen", "some"] "_law_pick" (defScope s__law_pick) T.fa__law_pick cdv A outer s H E) (fun c d _ H => E c d H) := takes_of rfl rfl rfl rfl
  have hx := fun σ => passAt tk σ
  have hp := passes_of (X := cxOf (L2.CX P w) P w K mg base ["pen", "some"] "_law_pick" (defScope s__law_pick) T.fa__law_pick cdv A outer s H E) rfl
  exact (dss_one (ds_ret (de_ix xd_ix (dv 1) (de_call' (ok__law_draw T) (hr.mono (by decide)) T.g__law_draw T.F__law_draw.kp (bn__law_draw T) hx (da_pen 0 (da_val (de_callB cd_len T.nb_len PySem.boot_len (dl_cons (dv 1) dl_nil)) da_nil))) (fun _ _ => rfl))))

theorem ok__law_set (T : Tx K mg) : FnOk P w K mg base (L2.CX P w) 3 T.fa__law_set T.fd__law_set ["pen"] (spF ⟨K, mg⟩ m__law_set) := by
  refine fn_d (N := ["pen", "number", "turn"]) (u := b__law_set) T.F__law_set sc__law_set fun cdv A outer s H E hr => ?_
  have nd := sc__law_set.nd
  have tk : Takes (cxOf (L2.CX P w) P w K mg base ["pen", "number", "turn"] "_law_set" (defScope s__law_set) T.fa__law_set cdv A outer s H E) (fun c d _ H => E c d H) := takes_of rfl rfl rfl rfl
  have hx := fun σ => passAt tk σ
  have hp := passes_of (X := cxOf (L2.CX P w) P w K mg base ["pen", "number", "turn"] "_law_set" (defScope s__law_set) T.fa__law_set cdv A outer s H E) rfl
  exact (dss_cons (ds_set (i := 1) nd de_int)
    (dss_cons (ds_for hp rfl (di_range1 T.nb_range (dl_cons (de_call' (ok__law_draw T) (hr.mono (by decide)) T.g__law_draw T.F__law_draw.kp (bn__law_draw T) hx (da_pen 0 (da_val de_int da_nil))) dl_nil) lone) (dg_name (i := 2) nd rfl (by first | exact Or.inl rfl | exact Or.inr rfl)) (dss_one (ds_set (i := 1) nd (de_bin od_mul (dv 1) (de_call' (ok__law_pick T) (hr.mono (by decide)) T.g__law_pick T.F__law_pick.kp (bn__law_pick T) hx (da_pen 0 (da_val (de_lst (dl_cons de_int (dl_cons de_int (dl_cons de_int (dl_cons de_int (dl_cons de_int (dl_cons de_int (dl_cons de_int (dl_cons de_int (dl_cons de_int dl_nil)))))))))) da_nil)))))))
    (dss_one (ds_ret (de_tup (dl_cons (de_call' (ok__law_pick T) (hr.mono (by decide)) T.g__law_pick T.F__law_pick.kp (bn__law_pick T) hx (da_pen 0 (da_val (de_lst (dl_cons de_str (dl_cons de_str dl_nil))) da_nil))) (dl_cons (dv 1) dl_nil)))))))

theorem ok_is_whole (T : Tx K mg) : FnOk P w K mg base (L2.CX P w) 1 T.fa_is_whole T.fd_is_whole ["value"] (spF ⟨K, mg⟩ m_is_whole) := by
  refine fn_d (N := ["value"]) (u := b_is_whole) T.F_is_whole sc_is_whole fun cdv A outer s H E hr => ?_
  have nd := sc_is_whole.nd
  have tk : Takes (cxOf (L2.CX P w) P w K mg base ["value"] "is_whole" (defScope s_is_whole) T.fa_is_whole cdv A outer s H E) (fun c d _ H => E c d H) := takes_of rfl rfl rfl rfl
  have hx := fun σ => passAt tk σ
  have hp := passes_of (X := cxOf (L2.CX P w) P w K mg base ["value"] "is_whole" (defScope s_is_whole) T.fa_is_whole cdv A outer s H E) rfl
  exact (dss_one (ds_ret (de_and (de_isi T.nb_isinstance (dv 0) (pe_bltn (v := .ty "int") (by rfl) T.nb_int (by decide +kernel) rfl)) (de_one (de_not (de_isi T.nb_isinstance (dv 0) (pe_bltn (v := .ty "bool") (by rfl) T.nb_bool (by decide +kernel) rfl)))))))

theorem ok_is_within (T : Tx K mg) : FnOk P w K mg base (L2.CX P w) 2 T.fa_is_within T.fd_is_within ["value", "least", "most"] (spF ⟨K, mg⟩ m_is_within) := by
  refine fn_d (N := ["value", "least", "most"]) (u := b_is_within) T.F_is_within sc_is_within fun cdv A outer s H E hr => ?_
  have nd := sc_is_within.nd
  have tk : Takes (cxOf (L2.CX P w) P w K mg base ["value", "least", "most"] "is_within" (defScope s_is_within) T.fa_is_within cdv A outer s H E) (fun c d _ H => E c d H) := takes_of rfl rfl rfl rfl
  have hx := fun σ => passAt tk σ
  have hp := passes_of (X := cxOf (L2.CX P w) P w K mg base ["value", "least", "most"] "is_within" (defScope s_is_within) T.fa_is_within cdv A outer s H E) rfl
  exact (dss_one (ds_ret (de_and (de_call' (ok_is_whole T) (hr.mono (by decide)) T.g_is_whole T.F_is_whole.kp (bn_is_whole T) hx (da_val (dv 0) da_nil)) (de_and (de_cmp od_ge (dv 0) (dv 1) (by rfl)) (de_one (de_or (de_cmp od_isN (dv 2) de_non (by rfl)) (de_one (de_cmp od_le (dv 0) (dv 2) (by rfl)))))))))

theorem ok_is_listed (T : Tx K mg) : FnOk P w K mg base (L2.CX P w) 1 T.fa_is_listed T.fd_is_listed ["value"] (spF ⟨K, mg⟩ m_is_listed) := by
  refine fn_d (N := ["value"]) (u := b_is_listed) T.F_is_listed sc_is_listed fun cdv A outer s H E hr => ?_
  have nd := sc_is_listed.nd
  have tk : Takes (cxOf (L2.CX P w) P w K mg base ["value"] "is_listed" (defScope s_is_listed) T.fa_is_listed cdv A outer s H E) (fun c d _ H => E c d H) := takes_of rfl rfl rfl rfl
  have hx := fun σ => passAt tk σ
  have hp := passes_of (X := cxOf (L2.CX P w) P w K mg base ["value"] "is_listed" (defScope s_is_listed) T.fa_is_listed cdv A outer s H E) rfl
  exact (dss_one (ds_ret (de_isiT T.nb_isinstance (dv 0) (.cons (pe_bltn (v := .ty "list") (by rfl) T.nb_list (by decide +kernel) rfl) (.cons (pe_bltn (v := .ty "tuple") (by rfl) T.nb_tuple (by decide +kernel) rfl) .nil rfl) rfl))))

theorem ok_is_where (T : Tx K mg) : FnOk P w K mg base (L2.CX P w) 3 T.fa_is_where T.fd_is_where ["value"] (spF ⟨K, mg⟩ m_is_where) := by
  refine fn_d (N := ["value"]) (u := b_is_where) T.F_is_where sc_is_where fun cdv A outer s H E hr => ?_
  have nd := sc_is_where.nd
  have tk : Takes (cxOf (L2.CX P w) P w K mg base ["value"] "is_where" (defScope s_is_where) T.fa_is_where cdv A outer s H E) (fun c d _ H => E c d H) := takes_of rfl rfl rfl rfl
  have hx := fun σ => passAt tk σ
  have hp := passes_of (X := cxOf (L2.CX P w) P w K mg base ["value"] "is_where" (defScope s_is_where) T.fa_is_where cdv A outer s H E) rfl
  exact (dss_cons (ds_if ((dw_or (dt_not (dt_val (de_call' (ok_is_listed T) (hr.mono (by decide)) T.g_is_listed T.F_is_listed.kp (bn_is_listed T) hx (da_val (dv 0) da_nil)))) (dw_or (dt_cmp (od_ne hr.units) (de_callB cd_len T.nb_len PySem.boot_len (dl_cons (dv 0) dl_nil)) de_int (by rfl)) (dw_or (dt_not (dt_val (de_isi T.nb_isinstance (de_ix xd_ix (dv 0) de_int (fun _ _ => rfl)) (pe_bltn (v := .ty "str") (by rfl) T.nb_str (by decide +kernel) rfl)))) (dw_or1 (dt_cmp od_notIn (de_ix xd_ix (dv 0) de_int (fun _ _ => rfl)) (T.dc_WORDS (by rfl) rfl) (by rfl))))))).pt (dss_one (ds_ret de_bl)) dss_nil)
    (dss_one (ds_ret (de_call' (ok_is_within T) (hr.mono (by decide)) T.g_is_within T.F_is_within.kp (bn_is_within T) hx (da_val (de_ix xd_ix (dv 0) de_int (fun _ _ => rfl)) (da_val de_int (da_val de_non da_nil)))))))

theorem ok_need_where (T : Tx K mg) : FnOk P w K mg base (L2.CX P w) 4 T.fa_need_where T.fd_need_where ["value", "part"] (spF ⟨K, mg⟩ m_need_where) := by
  refine fn_d (N := ["value", "part"]) (u := b_need_where) T.F_need_where sc_need_where fun cdv A outer s H E hr => ?_
  have nd := sc_need_where.nd
  have tk : Takes (cxOf (L2.CX P w) P w K mg base ["value", "part"] "need_where" (defScope s_need_where) T.fa_need_where cdv A outer s H E) (fun c d _ H => E c d H) := takes_of rfl rfl rfl rfl
  have hx := fun σ => passAt tk σ
  have hp := passes_of (X := cxOf (L2.CX P w) P w K mg base ["value", "part"] "need_where" (defScope s_need_where) T.fa_need_where cdv A outer s H E) rfl
  exact (dss_cons (ds_if (dt_not (dt_val (de_call' (ok_is_where T) (hr.mono (by decide)) T.g_is_where T.F_is_where.kp (bn_is_where T) hx (da_val (dv 0) da_nil)))) (dss_one ds_never) dss_nil)
    (dss_one (ds_ret (de_tup (dl_cons (de_ix xd_ix (dv 0) de_int (fun _ _ => rfl)) (dl_cons (de_ix xd_ix (dv 0) de_int (fun _ _ => rfl)) dl_nil))))))

theorem ok_other_word (T : Tx K mg) : FnOk P w K mg base (L2.CX P w) 1 T.fa_other_word T.fd_other_word ["word"] (spF ⟨K, mg⟩ m_other_word) := by
  refine fn_d (N := ["word"]) (u := b_other_word) T.F_other_word sc_other_word fun cdv A outer s H E hr => ?_
  have nd := sc_other_word.nd
  have tk : Takes (cxOf (L2.CX P w) P w K mg base ["word"] "other_word" (defScope s_other_word) T.fa_other_word cdv A outer s H E) (fun c d _ H => E c d H) := takes_of rfl rfl rfl rfl
  have hx := fun σ => passAt tk σ
  have hp := passes_of (X := cxOf (L2.CX P w) P w K mg base ["word"] "other_word" (defScope s_other_word) T.fa_other_word cdv A outer s H E) rfl
  exact (dss_one (ds_ret (de_if (dt_cmp (od_eq hr.units) (dv 0) (T.dc_ONLY (by rfl) rfl) (by rfl)) (T.dc_BUT (by rfl) rfl) (T.dc_ONLY (by rfl) rfl))))

theorem ok_turned_set (T : Tx K mg) : FnOk P w K mg base (L2.CX P w) 2 T.fa_turned_set T.fd_turned_set ["where"] (spF ⟨K, mg⟩ m_turned_set) := by
  refine fn_d (N := ["where"]) (u := b_turned_set) T.F_turned_set sc_turned_set fun cdv A outer s H E hr => ?_
  have nd := sc_turned_set.nd
  have tk : Takes (cxOf (L2.CX P w) P w K mg base ["where"] "turned_set" (defScope s_turned_set) T.fa_turned_set cdv A outer s H E) (fun c d _ H => E c d H) := takes_of rfl rfl rfl rfl
  have hx := fun σ => passAt tk σ
  have hp := passes_of (X := cxOf (L2.CX P w) P w K mg base ["where"] "turned_set" (defScope s_turned_set) T.fa_turned_set cdv A outer s H E) rfl
  exact (dss_one (ds_ret (de_tup (dl_cons (de_call' (ok_other_word T) (hr.mono (by decide)) T.g_other_word T.F_other_word.kp (bn_other_word T) hx (da_val (de_ix xd_ix (dv 0) de_int (fun _ _ => rfl)) da_nil)) (dl_cons (de_ix xd_ix (dv 0) de_int (fun _ _ => rfl)) dl_nil)))))

theorem ok_others (T : Tx K mg) : FnOk P w K mg base (L2.CX P w) 5 T.fa_others T.fd_others ["where"] (spF ⟨K, mg⟩ m_others) := by
  refine fn_d (N := ["where"]) (u := b_others) T.F_others sc_others fun cdv A outer s H E hr => ?_
  have nd := sc_others.nd
  have tk : Takes (cxOf (L2.CX P w) P w K mg base ["where"] "others" (defScope s_others) T.fa_others cdv A outer s H E) (fun c d _ H => E c d H) := takes_of rfl rfl rfl rfl
  have hx := fun σ => passAt tk σ
  have hp := passes_of (X := cxOf (L2.CX P w) P w K mg base ["where"] "others" (defScope s_others) T.fa_others cdv A outer s H E) rfl
  exact (dss_one (ds_ret (de_call' (ok_turned_set T) (hr.mono (by decide)) T.g_turned_set T.F_turned_set.kp (bn_turned_set T) hx (da_val (de_call' (ok_need_where T) (hr.mono (by decide)) T.g_need_where T.F_need_where.kp (bn_need_where T) hx (da_val (dv 0) (da_val de_str da_nil))) da_nil))))

theorem ok_without_primes (T : Tx K mg) : FnOk P w K mg base (L2.CX P w) 1 T.fa_without_primes T.fd_without_primes ["number", "other"] (spF ⟨K, mg⟩ m_without_primes) := by
  refine fn_d (N := ["number", "other", "found"]) (u := b_without_primes) T.F_without_primes sc_without_primes fun cdv A outer s H E hr => ?_
  have nd := sc_without_primes.nd
  have tk : Takes (cxOf (L2.CX P w) P w K mg base ["number", "other", "found"] "without_primes" (defScope s_without_primes) T.fa_without_primes cdv A outer s H E) (fun c d _ H => E c d H) := takes_of rfl rfl rfl rfl
  have hx := fun σ => passAt tk σ
  have hp := passes_of (X := cxOf (L2.CX P w) P w K mg base ["number", "other", "found"] "without_primes" (defScope s_without_primes) T.fa_without_primes cdv A outer s H E) rfl
  exact (dss_cons (ds_set (i := 2) nd (dv 0))
    (dss_cons (ds_while (fuelV 2) hp (dt_cmp od_gt (de_callF cd_gcd T.gi_gcd (dl_cons (dv 2) (dl_cons (dv 1) dl_nil))) de_int (by rfl)) (dss_one (ds_set (i := 2) nd (de_bin od_fdiv (dv 2) (de_callF cd_gcd T.gi_gcd (dl_cons (dv 2) (dl_cons (dv 1) dl_nil)))))))
    (dss_one (ds_ret (dv 2)))))

theorem ok_met (T : Tx K mg) : FnOk P w K mg base (L2.CX P w) 2 T.fa_met T.fd_met ["one", "other"] (spF ⟨K, mg⟩ m_met) := by
  refine fn_d (N := ["one", "other", "few", "many"]) (u := b_met) T.F_met sc_met fun cdv A outer s H E hr => ?_
  have nd := sc_met.nd
  have tk : Takes (cxOf (L2.CX P w) P w K mg base ["one", "other", "few", "many"] "met" (defScope s_met) T.fa_met cdv A outer s H E) (fun c d _ H => E c d H) := takes_of rfl rfl rfl rfl
  have hx := fun σ => passAt tk σ
  have hp := passes_of (X := cxOf (L2.CX P w) P w K mg base ["one", "other", "few", "many"] "met" (defScope s_met) T.fa_met cdv A outer s H E) rfl
  exact (dss_cons (ds_if ((dw_and (dt_cmp (od_eq hr.units) (de_ix xd_ix (dv 0) de_int (fun _ _ => rfl)) (T.dc_BUT (by rfl) rfl) (by rfl)) (dw_and1 (dt_cmp (od_eq hr.units) (de_ix xd_ix (dv 1) de_int (fun _ _ => rfl)) (T.dc_BUT (by rfl) rfl) (by rfl))))).pt (dss_one (ds_ret (de_tup (dl_cons (T.dc_BUT (by rfl) rfl) (dl_cons (de_bin od_fdiv (de_bin od_mul (de_ix xd_ix (dv 0) de_int (fun _ _ => rfl)) (de_ix xd_ix (dv 1) de_int (fun _ _ => rfl))) (de_callF cd_gcd T.gi_gcd (dl_cons (de_ix xd_ix (dv 0) de_int (fun _ _ => rfl)) (dl_cons (de_ix xd_ix (dv 1) de_int (fun _ _ => rfl)) dl_nil)))) dl_nil))))) dss_nil)
    (dss_cons (ds_if ((dw_and (dt_cmp (od_eq hr.units) (de_ix xd_ix (dv 0) de_int (fun _ _ => rfl)) (T.dc_ONLY (by rfl) rfl) (by rfl)) (dw_and1 (dt_cmp (od_eq hr.units) (de_ix xd_ix (dv 1) de_int (fun _ _ => rfl)) (T.dc_ONLY (by rfl) rfl) (by rfl))))).pt (dss_one (ds_ret (de_tup (dl_cons (T.dc_ONLY (by rfl) rfl) (dl_cons (de_callF cd_gcd T.gi_gcd (dl_cons (de_ix xd_ix (dv 0) de_int (fun _ _ => rfl)) (dl_cons (de_ix xd_ix (dv 1) de_int (fun _ _ => rfl)) dl_nil))) dl_nil))))) dss_nil)
    (dss_cons (ds_asg (de_if (dt_cmp (od_eq hr.units) (de_ix xd_ix (dv 0) de_int (fun _ _ => rfl)) (T.dc_ONLY (by rfl) rfl) (by rfl)) (de_tup (dl_cons (dv 0) (dl_cons (dv 1) dl_nil))) (de_tup (dl_cons (dv 1) (dl_cons (dv 0) dl_nil)))) (dg_tup rfl (dgs_cons (dg_name (i := 2) nd rfl (by first | exact Or.inl rfl | exact Or.inr rfl)) (dgs_cons (dg_name (i := 3) nd rfl (by first | exact Or.inl rfl | exact Or.inr rfl)) dgs_nil))))
    (dss_one (ds_ret (de_tup (dl_cons (T.dc_ONLY (by rfl) rfl) (dl_cons (de_call' (ok_without_primes T) (hr.mono (by decide)) T.g_without_primes T.F_without_primes.kp (bn_without_primes T) hx (da_val (de_ix xd_ix (dv 2) de_int (fun _ _ => rfl)) (da_val (de_ix xd_ix (dv 3) de_int (fun _ _ => rfl)) da_nil))) dl_nil))))))))

theorem ok_joined (T : Tx K mg) : FnOk P w K mg base (L2.CX P w) 3 T.fa_joined T.fd_joined ["one", "other"] (spF ⟨K, mg⟩ m_joined) := by
  refine fn_d (N := ["one", "other"]) (u := b_joined) T.F_joined sc_joined fun cdv A outer s H E hr => ?_
  have nd := sc_joined.nd
  have tk : Takes (cxOf (L2.CX P w) P w K mg base ["one", "other"] "joined" (defScope s_joined) T.fa_joined cdv A outer s H E) (fun c d _ H => E c d H) := takes_of rfl rfl rfl rfl
  have hx := fun σ => passAt tk σ
  have hp := passes_of (X := cxOf (L2.CX P w) P w K mg base ["one", "other"] "joined" (defScope s_joined) T.fa_joined cdv A outer s H E) rfl
  exact (dss_one (ds_ret (de_call' (ok_turned_set T) (hr.mono (by decide)) T.g_turned_set T.F_turned_set.kp (bn_turned_set T) hx (da_val (de_call' (ok_met T) (hr.mono (by decide)) T.g_met T.F_met.kp (bn_met T) hx (da_val (de_call' (ok_turned_set T) (hr.mono (by decide)) T.g_turned_set T.F_turned_set.kp (bn_turned_set T) hx (da_val (dv 0) da_nil)) (da_val (de_call' (ok_turned_set T) (hr.mono (by decide)) T.g_turned_set T.F_turned_set.kp (bn_turned_set T) hx (da_val (dv 1) da_nil)) da_nil))) da_nil))))

theorem ok_join (T : Tx K mg) : FnOk P w K mg base (L2.CX P w) 5 T.fa_join T.fd_join ["one", "other"] (spF ⟨K, mg⟩ m_join) := by
  refine fn_d (N := ["one", "other"]) (u := b_join) T.F_join sc_join fun cdv A outer s H E hr => ?_
  have nd := sc_join.nd
  have tk : Takes (cxOf (L2.CX P w) P w K mg base ["one", "other"] "join" (defScope s_join) T.fa_join cdv A outer s H E) (fun c d _ H => E c d H) := takes_of rfl rfl rfl rfl
  have hx := fun σ => passAt tk σ
  have hp := passes_of (X := cxOf (L2.CX P w) P w K mg base ["one", "other"] "join" (defScope s_join) T.fa_join cdv A outer s H E) rfl
  exact (dss_one (ds_ret (de_call' (ok_joined T) (hr.mono (by decide)) T.g_joined T.F_joined.kp (bn_joined T) hx (da_val (de_call' (ok_need_where T) (hr.mono (by decide)) T.g_need_where T.F_need_where.kp (bn_need_where T) hx (da_val (dv 0) (da_val de_str da_nil))) (da_val (de_call' (ok_need_where T) (hr.mono (by decide)) T.g_need_where T.F_need_where.kp (bn_need_where T) hx (da_val (dv 1) (da_val de_str da_nil))) da_nil)))))

theorem ok_meet (T : Tx K mg) : FnOk P w K mg base (L2.CX P w) 5 T.fa_meet T.fd_meet ["one", "other"] (spF ⟨K, mg⟩ m_meet) := by
  refine fn_d (N := ["one", "other"]) (u := b_meet) T.F_meet sc_meet fun cdv A outer s H E hr => ?_
  have nd := sc_meet.nd
  have tk : Takes (cxOf (L2.CX P w) P w K mg base ["one", "other"] "meet" (defScope s_meet) T.fa_meet cdv A outer s H E) (fun c d _ H => E c d H) := takes_of rfl rfl rfl rfl
  have hx := fun σ => passAt tk σ
  have hp := passes_of (X := cxOf (L2.CX P w) P w K mg base ["one", "other"] "meet" (defScope s_meet) T.fa_meet cdv A outer s H E) rfl
  exact (dss_one (ds_ret (de_call' (ok_met T) (hr.mono (by decide)) T.g_met T.F_met.kp (bn_met T) hx (da_val (de_call' (ok_need_where T) (hr.mono (by decide)) T.g_need_where T.F_need_where.kp (bn_need_where T) hx (da_val (dv 0) (da_val de_str da_nil))) (da_val (de_call' (ok_need_where T) (hr.mono (by decide)) T.g_need_where T.F_need_where.kp (bn_need_where T) hx (da_val (dv 1) (da_val de_str da_nil))) da_nil)))))

theorem ok__law_has (T : Tx K mg) : FnOk P w K mg base (L2.CX P w) 1 T.fa__law_has T.fd__law_has ["where", "prime_v"] (spF ⟨K, mg⟩ m__law_has) := by
  refine fn_d (N := ["where", "prime_v"]) (u := b__law_has) T.F__law_has sc__law_has fun cdv A outer s H E hr => ?_
  have nd := sc__law_has.nd
  have tk : Takes (cxOf (L2.CX P w) P w K mg base ["where", "prime_v"] "_law_has" (defScope s__law_has) T.fa__law_has cdv A outer s H E) (fun c d _ H => E c d H) := takes_of rfl rfl rfl rfl
  have hx := fun σ => passAt tk σ
  have hp := passes_of (X := cxOf (L2.CX P w) P w K mg base ["where", "prime_v"] "_law_has" (defScope s__law_has) T.fa__law_has cdv A outer s H E) rfl
  exact (dss_cons (ds_if (dt_cmp (od_eq hr.units) (dv 1) de_int (by rfl)) (dss_one (ds_ret (de_cmp (od_eq hr.units) (de_ix xd_ix (dv 0) de_int (fun _ _ => rfl)) de_str (by rfl)))) dss_nil)
    (dss_one (ds_ret (de_cmp (od_eq hr.units) (de_cmp (od_eq hr.units) (de_bin od_mod (de_callTy cd_int T.nb_int boot_int (dl_cons (de_ix xd_ix (dv 0) de_int (fun _ _ => rfl)) dl_nil)) (dv 1)) de_int (by rfl)) (de_cmp (od_eq hr.units) (de_ix xd_ix (dv 0) de_int (fun _ _ => rfl)) de_str (by rfl)) (by rfl)))))

theorem ok_has (T : Tx K mg) : FnOk P w K mg base (L2.CX P w) 1 T.fa_has T.fd_has ["where", "prime"] (spF ⟨K, mg⟩ m_has) := by
  refine fn_d (N := ["where", "prime"]) (u := b_has) T.F_has sc_has fun cdv A outer s H E hr => ?_
  have nd := sc_has.nd
  have tk : Takes (cxOf (L2.CX P w) P w K mg base ["where", "prime"] "has" (defScope s_has) T.fa_has cdv A outer s H E) (fun c d _ H => E c d H) := takes_of rfl rfl rfl rfl
  have hx := fun σ => passAt tk σ
  have hp := passes_of (X := cxOf (L2.CX P w) P w K mg base ["where", "prime"] "has" (defScope s_has) T.fa_has cdv A outer s H E) rfl
  exact (dss_cons (ds_if (dt_cmp (od_eq hr.units) (dv 1) de_int (by rfl)) (dss_one (ds_ret (de_cmp (od_eq hr.units) (de_ix xd_ix (dv 0) de_int (fun _ _ => rfl)) (T.dc_BUT (by rfl) rfl) (by rfl)))) dss_nil)
    (dss_one (ds_ret (de_cmp (od_eq hr.units) (de_cmp (od_eq hr.units) (de_bin od_mod (de_ix xd_ix (dv 0) de_int (fun _ _ => rfl)) (dv 1)) de_int (by rfl)) (de_cmp (od_eq hr.units) (de_ix xd_ix (dv 0) de_int (fun _ _ => rfl)) (T.dc_ONLY (by rfl) rfl) (by rfl)) (by rfl)))))

theorem ok_power_below (T : Tx K mg) : FnOk P w K mg base (L2.CX P w) 1 T.fa_power_below T.fd_power_below ["base", "power", "number"] (spF ⟨K, mg⟩ m_power_below) := by
  refine fn_d (N := ["base", "power", "number", "found", "here"]) (u := b_power_below) T.F_power_below sc_power_below fun cdv A outer s H E hr => ?_
  have nd := sc_power_below.nd
  have tk : Takes (cxOf (L2.CX P w) P w K mg base ["base", "power", "number", "found", "here"] "power_below" (defScope s_power_below) T.fa_power_below cdv A outer s H E) (fun c d _ H => E c d H) := takes_of rfl rfl rfl rfl
  have hx := fun σ => passAt tk σ
  have hp := passes_of (X := cxOf (L2.CX P w) P w K mg base ["base", "power", "number", "found", "here"] "power_below" (defScope s_power_below) T.fa_power_below cdv A outer s H E) rfl
  exact (dss_cons (ds_par (i := 3) (j := 4) rfl nd (dl_cons de_int (dl_cons (de_bin od_mod (dv 0) (dv 2)) dl_nil)))
    (dss_cons (ds_while (fuelV 1) hp (dt_cmp od_gt (dv 1) de_int (by rfl)) (dss_cons (ds_if (dt_cmp (od_eq hr.units) (de_bin od_mod (dv 1) de_int) de_int (by rfl)) (dss_one (ds_set (i := 3) nd (de_bin od_mod (de_bin od_mul (dv 3) (dv 4)) (dv 2)))) dss_nil)
    (dss_one (ds_par (i := 4) (j := 1) rfl nd (dl_cons (de_bin od_mod (de_bin od_mul (dv 4) (dv 4)) (dv 2)) (dl_cons (de_bin od_fdiv (dv 1) de_int) dl_nil))))))
    (dss_one (ds_ret (dv 3)))))

theorem ok_stands (T : Tx K mg) : FnOk P w K mg base (L2.CX P w) 2 T.fa_stands T.fd_stands ["number", "base"] (spF ⟨K, mg⟩ m_stands) := by
  refine fn_d (N := ["number", "base", "odd", "twos", "here", "turn"]) (u := b_stands) T.F_stands sc_stands fun cdv A outer s H E hr => ?_
  have nd := sc_stands.nd
  have tk : Takes (cxOf (L2.CX P w) P w K mg base ["number", "base", "odd", "twos", "here", "turn"] "stands" (defScope s_stands) T.fa_stands cdv A outer s H E) (fun c d _ H => E c d H) := takes_of rfl rfl rfl rfl
  have hx := fun σ => passAt tk σ
  have hp := passes_of (X := cxOf (L2.CX P w) P w K mg base ["number", "base", "odd", "twos", "here", "turn"] "stands" (defScope s_stands) T.fa_stands cdv A outer s H E) rfl
  exact (dss_cons (ds_par (i := 2) (j := 3) rfl nd (dl_cons (de_bin od_sub (dv 0) de_int) (dl_cons de_int dl_nil)))
    (dss_cons (ds_while (fuelV 2) hp (dt_cmp (od_eq hr.units) (de_bin od_mod (dv 2) de_int) de_int (by rfl)) (dss_one (ds_par (i := 2) (j := 3) rfl nd (dl_cons (de_bin od_fdiv (dv 2) de_int) (dl_cons (de_bin od_add (dv 3) de_int) dl_nil)))))
    (dss_cons (ds_set (i := 4) nd (de_call' (ok_power_below T) (hr.mono (by decide)) T.g_power_below T.F_power_below.kp (bn_power_below T) hx (da_val (dv 1) (da_val (dv 2) (da_val (dv 0) da_nil)))))
    (dss_cons (ds_if (dt_cmp od_in (dv 4) (de_tup (dl_cons de_int (dl_cons (de_bin od_sub (dv 0) de_int) dl_nil))) (by rfl)) (dss_one (ds_ret de_bl)) dss_nil)
    (dss_cons (ds_for hp rfl (di_range1 T.nb_range (dl_cons (de_bin od_sub (dv 3) de_int) dl_nil) lone) (dg_name (i := 5) nd rfl (by first | exact Or.inl rfl | exact Or.inr rfl)) (dss_cons (ds_set (i := 4) nd (de_bin od_mod (de_bin od_mul (dv 4) (dv 4)) (dv 0)))
    (dss_one (ds_if (dt_cmp (od_eq hr.units) (dv 4) (de_bin od_sub (dv 0) de_int) (by rfl)) (dss_one (ds_ret de_bl)) dss_nil))))
    (dss_one (ds_ret de_bl)))))))

theorem ok_prime (T : Tx K mg) : FnOk P w K mg base (L2.CX P w) 3 T.fa_prime T.fd_prime ["number"] (spF ⟨K, mg⟩ m_prime) := by
  refine fn_d (N := ["number", "base"]) (u := b_prime) T.F_prime sc_prime fun cdv A outer s H E hr => ?_
  have nd := sc_prime.nd
  have tk : Takes (cxOf (L2.CX P w) P w K mg base ["number", "base"] "prime" (defScope s_prime) T.fa_prime cdv A outer s H E) (fun c d _ H => E c d H) := takes_of rfl rfl rfl rfl
  have hx := fun σ => passAt tk σ
  have hp := passes_of (X := cxOf (L2.CX P w) P w K mg base ["number", "base"] "prime" (defScope s_prime) T.fa_prime cdv A outer s H E) rfl
  exact (dss_cons (ds_if (dt_cmp od_lt (dv 0) de_int (by rfl)) (dss_one (ds_ret de_bl)) dss_nil)
    (dss_cons (ds_for hp rfl (di_seq (T.dc_BASES (by rfl) rfl)) (dg_name (i := 1) nd rfl (by first | exact Or.inl rfl | exact Or.inr rfl)) (dss_one (ds_if (dt_cmp (od_eq hr.units) (de_bin od_mod (dv 0) (dv 1)) de_int (by rfl)) (dss_one (ds_ret (de_cmp (od_eq hr.units) (dv 0) (dv 1) (by rfl)))) dss_nil)))
    (dss_one (ds_ret (de_callB (cd_all rfl) T.nb_all (by decide +kernel) (dl_cons (de_lc (own := [("base", 1)]) rfl nd (di_seq (T.dc_BASES (by rfl) rfl)) (blkOk_by (own := [("base", 1)]) (N := ["number", "base"]) (sc := defScope s_prime) (by decide +kernel)) (fun _ _ _ _ _ => (dg_name (i := 1) nd rfl (by first | exact Or.inl rfl | exact Or.inr rfl))) (fun _ _ _ _ _ => dts_nil) (fun _ _ _ _ _ => (de_call' (ok_stands T) (hr.mono (by decide)) T.g_stands T.F_stands.kp (bn_stands T) (fun _ => passF) (da_val (dv 0) (da_val (dv 1) da_nil))))) dl_nil))))))

theorem ok_is_prime (T : Tx K mg) : FnOk P w K mg base (L2.CX P w) 4 T.fa_is_prime T.fd_is_prime ["number"] (spF ⟨K, mg⟩ m_is_prime) := by
  refine fn_d (N := ["number"]) (u := b_is_prime) T.F_is_prime sc_is_prime fun cdv A outer s H E hr => ?_
  have nd := sc_is_prime.nd
  have tk : Takes (cxOf (L2.CX P w) P w K mg base ["number"] "is_prime" (defScope s_is_prime) T.fa_is_prime cdv A outer s H E) (fun c d _ H => E c d H) := takes_of rfl rfl rfl rfl
  have hx := fun σ => passAt tk σ
  have hp := passes_of (X := cxOf (L2.CX P w) P w K mg base ["number"] "is_prime" (defScope s_is_prime) T.fa_is_prime cdv A outer s H E) rfl
  exact (dss_one (ds_ret (de_and (de_call' (ok_is_whole T) (hr.mono (by decide)) T.g_is_whole T.F_is_whole.kp (bn_is_whole T) hx (da_val (dv 0) da_nil)) (de_and (de_chain od_le od_lt de_int (dv 0) (T.dc_MOST (by rfl) rfl) (by rfl)) (de_one (de_call' (ok_prime T) (hr.mono (by decide)) T.g_prime T.F_prime.kp (bn_prime T) hx (da_val (dv 0) da_nil)))))))

theorem ok_need_prime (T : Tx K mg) : FnOk P w K mg base (L2.CX P w) 5 T.fa_need_prime T.fd_need_prime ["value", "part"] (spF ⟨K, mg⟩ m_need_prime) := by
  refine fn_d (N := ["value", "part"]) (u := b_need_prime) T.F_need_prime sc_need_prime fun cdv A outer s H E hr => ?_
  have nd := sc_need_prime.nd
  have tk : Takes (cxOf (L2.CX P w) P w K mg base ["value", "part"] "need_prime" (defScope s_need_prime) T.fa_need_prime cdv A outer s H E) (fun c d _ H => E c d H) := takes_of rfl rfl rfl rfl
  have hx := fun σ => passAt tk σ
  have hp := passes_of (X := cxOf (L2.CX P w) P w K mg base ["value", "part"] "need_prime" (defScope s_need_prime) T.fa_need_prime cdv A outer s H E) rfl
  exact (dss_one (ds_if ((dw_or (dt_not (dt_val (de_call' (ok_is_within T) (hr.mono (by decide)) T.g_is_within T.F_is_within.kp (bn_is_within T) hx (da_val (dv 0) (da_val de_int (da_val (T.dc_MOST_CHARACTERISTIC (by rfl) rfl) da_nil)))))) (dw_or1 ((dw_and (dt_cmp (od_ne hr.units) (dv 0) de_int (by rfl)) (dw_and1 (dt_not (dt_val (de_call' (ok_is_prime T) (hr.mono (by decide)) T.g_is_prime T.F_is_prime.kp (bn_is_prime T) hx (da_val (dv 0) da_nil))))))).pt))).pt (dss_one ds_never) dss_nil))
theorem dc_need_prime_1 (T : Tx K mg) {X : Cx} {W : WX} {e : Expr} {es : List Expr} {f : AM} {p pos : Pos} (hr : Room 5 X.A) (hx : ∀ σ, PassesAt (L2.CX X.prog X.w) X σ (fun c d H => W c d σ H)) (ha : PA X (e :: es) (tA ⟨K, mg⟩ W f)) (hK : X.K = K := by rfl) (hmg : X.mg = mg := by rfl) (hg : Gl X "need_prime" := by rfl)
    (he : starEach (e :: es) X.env = (false, eval e X.env) :: starEach es X.env := by rfl) (hpl : (backTo pos (starEach es X.env)).any (·.1) = false := by rfl) : PE X (.Call (.Name "need_prime" p) (e :: es) [] pos) (tD ⟨K, mg⟩ W (eCall (fun as => m_need_prime (as ++ ([(.str "prime")] : List D).map .val)) f)) := by
  subst hK hmg
  obtain ⟨ds, h1, h2⟩ := T.F_need_prime.binds1 (ps := ["value", "part"]) 1 0 (by simp) (by decide) (fun _ _ _ _ _ _ _ us its h1 h2 => match us, its, h1, h2 with | [_], [_], _, _ => ⟨_, rfl, rfl⟩)
  exact de_call (dds := [(.str "prime")]) (ok_need_prime T) hr T.g_need_prime T.F_need_prime.kp h2 h1 (fun _ => (.cons (.str _) .nil)) hx ha hg (by decide) he hpl
theorem ok_is_in (T : Tx K mg) : FnOk P w K mg base (L2.CX P w) 6 T.fa_is_in T.fd_is_in ["where", "prime"] (spF ⟨K, mg⟩ m_is_in) := by
  refine fn_d (N := ["where", "prime", "told"]) (u := b_is_in) T.F_is_in sc_is_in fun cdv A outer s H E hr => ?_
  have nd := sc_is_in.nd
  have tk : Takes (cxOf (L2.CX P w) P w K mg base ["where", "prime", "told"] "is_in" (defScope s_is_in) T.fa_is_in cdv A outer s H E) (fun c d _ H => E c d H) := takes_of rfl rfl rfl rfl
  have hx := fun σ => passAt tk σ
  have hp := passes_of (X := cxOf (L2.CX P w) P w K mg base ["where", "prime", "told"] "is_in" (defScope s_is_in) T.fa_is_in cdv A outer s H E) rfl
  exact (dss_cons (ds_set (i := 2) nd (de_call' (ok_need_where T) (hr.mono (by decide)) T.g_need_where T.F_need_where.kp (bn_need_where T) hx (da_val (dv 0) (da_val de_str da_nil))))
    (dss_cons (ds_expr (dc_need_prime_1 T (hr.mono (by decide)) hx (da_val (dv 1) da_nil)))
    (dss_one (ds_ret (de_call' (ok_has T) (hr.mono (by decide)) T.g_has T.F_has.kp (bn_has T) hx (da_val (dv 2) (da_val (dv 1) da_nil)))))))

theorem ok_is_same (T : Tx K mg) : FnOk P w K mg base (L2.CX P w) 2 T.fa_is_same T.fd_is_same ["one", "other"] (spF ⟨K, mg⟩ m_is_same) := by
  refine fn_d (N := ["one", "other"]) (u := b_is_same) T.F_is_same sc_is_same fun cdv A outer s H E hr => ?_
  have nd := sc_is_same.nd
  have tk : Takes (cxOf (L2.CX P w) P w K mg base ["one", "other"] "is_same" (defScope s_is_same) T.fa_is_same cdv A outer s H E) (fun c d _ H => E c d H) := takes_of rfl rfl rfl rfl
  have hx := fun σ => passAt tk σ
  have hp := passes_of (X := cxOf (L2.CX P w) P w K mg base ["one", "other"] "is_same" (defScope s_is_same) T.fa_is_same cdv A outer s H E) rfl
  exact (dss_cons (ds_if (dt_cmp (od_ne hr.units) (de_ix xd_ix (dv 0) de_int (fun _ _ => rfl)) (de_ix xd_ix (dv 1) de_int (fun _ _ => rfl)) (by rfl)) (dss_one (ds_ret de_bl)) dss_nil)
    (dss_one (ds_ret (de_and (de_cmp (od_eq hr.units) (de_call' (ok_without_primes T) (hr.mono (by decide)) T.g_without_primes T.F_without_primes.kp (bn_without_primes T) hx (da_val (de_ix xd_ix (dv 0) de_int (fun _ _ => rfl)) (da_val (de_ix xd_ix (dv 1) de_int (fun _ _ => rfl)) da_nil))) de_int (by rfl)) (de_one (de_cmp (od_eq hr.units) (de_call' (ok_without_primes T) (hr.mono (by decide)) T.g_without_primes T.F_without_primes.kp (bn_without_primes T) hx (da_val (de_ix xd_ix (dv 1) de_int (fun _ _ => rfl)) (da_val (de_ix xd_ix (dv 0) de_int (fun _ _ => rfl)) da_nil))) de_int (by rfl)))))))

theorem ok_are_same (T : Tx K mg) : FnOk P w K mg base (L2.CX P w) 5 T.fa_are_same T.fd_are_same ["one", "other"] (spF ⟨K, mg⟩ m_are_same) := by
  refine fn_d (N := ["one", "other"]) (u := b_are_same) T.F_are_same sc_are_same fun cdv A outer s H E hr => ?_
  have nd := sc_are_same.nd
  have tk : Takes (cxOf (L2.CX P w) P w K mg base ["one", "other"] "are_same" (defScope s_are_same) T.fa_are_same cdv A outer s H E) (fun c d _ H => E c d H) := takes_of rfl rfl rfl rfl
  have hx := fun σ => passAt tk σ
  have hp := passes_of (X := cxOf (L2.CX P w) P w K mg base ["one", "other"] "are_same" (defScope s_are_same) T.fa_are_same cdv A outer s H E) rfl
  exact (dss_one (ds_ret (de_call' (ok_is_same T) (hr.mono (by decide)) T.g_is_same T.F_is_same.kp (bn_is_same T) hx (da_val (de_call' (ok_need_where T) (hr.mono (by decide)) T.g_need_where T.F_need_where.kp (bn_need_where T) hx (da_val (dv 0) (da_val de_str da_nil))) (da_val (de_call' (ok_need_where T) (hr.mono (by decide)) T.g_need_where T.F_need_where.kp (bn_need_where T) hx (da_val (dv 1) (da_val de_str da_nil))) da_nil)))))

theorem ok__law_sets_alike (T : Tx K mg) : FnOk P w K mg base (L2.CX P w) 2 T.fa__law_sets_alike T.fd__law_sets_alike ["where", "other"] (spF ⟨K, mg⟩ m__law_sets_alike) := by
  refine fn_d (N := ["where", "other", "prime_v"]) (u := b__law_sets_alike) T.F__law_sets_alike sc__law_sets_alike fun cdv A outer s H E hr => ?_
  have nd := sc__law_sets_alike.nd
  have tk : Takes (cxOf (L2.CX P w) P w K mg base ["where", "other", "prime_v"] "_law_sets_alike" (defScope s__law_sets_alike) T.fa__law_sets_alike cdv A outer s H E) (fun c d _ H => E c d H) := takes_of rfl rfl rfl rfl
  have hx := fun σ => passAt tk σ
  have hp := passes_of (X := cxOf (L2.CX P w) P w K mg base ["where", "other", "prime_v"] "_law_sets_alike" (defScope s__law_sets_alike) T.fa__law_sets_alike cdv A outer s H E) rfl
  exact (dss_cons (ds_if ((dw_or (dt_not (dt_val (de_isi T.nb_isinstance (dv 0) (pe_bltn (v := .ty "tuple") (by rfl) T.nb_tuple (by decide +kernel) rfl)))) (dw_or (dt_cmp (od_ne hr.units) (de_callB cd_len T.nb_len PySem.boot_len (dl_cons (dv 0) dl_nil)) de_int (by rfl)) (dw_or (dt_cmp od_notIn (de_ix xd_ix (dv 0) de_int (fun _ _ => rfl)) (de_tup (dl_cons de_str (dl_cons de_str dl_nil))) (by rfl)) (dw_or (dt_val (de_isi T.nb_isinstance (de_ix xd_ix (dv 0) de_int (fun _ _ => rfl)) (pe_bltn (v := .ty "bool") (by rfl) T.nb_bool (by decide +kernel) rfl))) (dw_or (dt_not (dt_val (de_isi T.nb_isinstance (de_ix xd_ix (dv 0) de_int (fun _ _ => rfl)) (pe_bltn (v := .ty "int") (by rfl) T.nb_int (by decide +kernel) rfl)))) (dw_or1 (dt_cmp od_lt (de_ix xd_ix (dv 0) de_int (fun _ _ => rfl)) de_int (by rfl))))))))).pt (dss_one (ds_ret de_bl)) dss_nil)
    (dss_one (ds_ret (de_cmp (od_eq hr.units) (de_lc (own := [("prime_v", 2)]) rfl nd (di_seq (de_call' (ok__law_primes T) (hr.mono (by decide)) T.g__law_primes T.F__law_primes.kp (bn__law_primes T) hx (da_val de_int da_nil))) (blkOk_by (own := [("prime_v", 2)]) (N := ["where", "other", "prime_v"]) (sc := defScope s__law_sets_alike) (by decide +kernel)) (fun _ _ _ _ _ => (dg_name (i := 2) nd rfl (by first | exact Or.inl rfl | exact Or.inr rfl))) (fun _ _ _ _ _ => (dts_one (dt_cmp (od_ne hr.units) (de_call' (ok__law_has T) (hr.mono (by decide)) T.g__law_has T.F__law_has.kp (bn__law_has T) (fun _ => passF) (da_val (dv 0) (da_val (dv 2) da_nil))) (de_call' (ok__law_has T) (hr.mono (by decide)) T.g__law_has T.F__law_has.kp (bn__law_has T) (fun _ => passF) (da_val (dv 1) (da_val (dv 2) da_nil))) (by rfl)))) (fun _ _ _ _ _ => (dv 2))) (de_lst dl_nil) (by rfl)))))

theorem ok_need_whole (T : Tx K mg) : FnOk P w K mg base (L2.CX P w) 3 T.fa_need_whole T.fd_need_whole ["part", "value", "least", "most"] (spF ⟨K, mg⟩ m_need_whole) := by
  refine fn_d (N := ["part", "value", "least", "most"]) (u := b_need_whole) T.F_need_whole sc_need_whole fun cdv A outer s H E hr => ?_
  have nd := sc_need_whole.nd
  have tk : Takes (cxOf (L2.CX P w) P w K mg base ["part", "value", "least", "most"] "need_whole" (defScope s_need_whole) T.fa_need_whole cdv A outer s H E) (fun c d _ H => E c d H) := takes_of rfl rfl rfl rfl
  have hx := fun σ => passAt tk σ
  have hp := passes_of (X := cxOf (L2.CX P w) P w K mg base ["part", "value", "least", "most"] "need_whole" (defScope s_need_whole) T.fa_need_whole cdv A outer s H E) rfl
  exact (dss_cons (ds_if (dt_not (dt_val (de_call' (ok_is_within T) (hr.mono (by decide)) T.g_is_within T.F_is_within.kp (bn_is_within T) hx (da_val (dv 1) (da_val (dv 2) (da_val (dv 3) da_nil)))))) (dss_one ds_never) dss_nil)
    (dss_one (ds_ret (dv 1))))
theorem dc_need_whole_3 (T : Tx K mg) {X : Cx} {W : WX} {e : Expr} {es : List Expr} {f : AM} {p pos : Pos} (hr : Room 3 X.A) (hx : ∀ σ, PassesAt (L2.CX X.prog X.w) X σ (fun c d H => W c d σ H)) (ha : PA X (e :: es) (tA ⟨K, mg⟩ W f)) (hK : X.K = K := by rfl) (hmg : X.mg = mg := by rfl) (hg : Gl X "need_whole" := by rfl)
    (he : starEach (e :: es) X.env = (false, eval e X.env) :: starEach es X.env := by rfl) (hpl : (backTo pos (starEach es X.env)).any (·.1) = false := by rfl) : PE X (.Call (.Name "need_whole" p) (e :: es) [] pos) (tD ⟨K, mg⟩ W (eCall (fun as => m_need_whole (as ++ ([.non] : List D).map .val)) f)) := by
  subst hK hmg
  obtain ⟨ds, h1, h2⟩ := T.F_need_whole.binds1 (ps := ["part", "value", "least", "most"]) 3 0 (by simp) (by decide) (fun _ _ _ _ _ _ _ us its h1 h2 => match us, its, h1, h2 with | [_, _, _], [_], _, _ => ⟨_, rfl, rfl⟩)
  exact de_call (dds := [.non]) (ok_need_whole T) hr T.g_need_whole T.F_need_whole.kp h2 h1 (fun _ => (.cons .non .nil)) hx ha hg (by decide) he hpl
theorem ok_parts_found (T : Tx K mg) : FnOk P w K mg base (L2.CX P w) 1 T.fa_parts_found T.fd_parts_found ["number"] (spF ⟨K, mg⟩ m_parts_found) := by
  refine fn_d (N := ["number", "found", "here", "many"]) (u := b_parts_found) T.F_parts_found sc_parts_found fun cdv A outer s H E hr => ?_
  have nd := sc_parts_found.nd
  have tk : Takes (cxOf (L2.CX P w) P w K mg base ["number", "found", "here", "many"] "parts_found" (defScope s_parts_found) T.fa_parts_found cdv A outer s H E) (fun c d _ H => E c d H) := takes_of rfl rfl rfl rfl
  have hx := fun σ => passAt tk σ
  have hp := passes_of (X := cxOf (L2.CX P w) P w K mg base ["number", "found", "here", "many"] "parts_found" (defScope s_parts_found) T.fa_parts_found cdv A outer s H E) rfl
  exact (dss_cons (ds_parL (i := 1) (j := 2) rfl nd dl_nil de_int)
    (dss_cons (ds_while (fuelV 0) hp ((dw_and (dt_cmp od_lt (dv 2) (T.dc_SMALL (by rfl) rfl) (by rfl)) (dw_and1 (dt_cmp od_le (de_bin od_mul (dv 2) (dv 2)) (dv 0) (by rfl))))).pt (dss_cons (ds_set (i := 3) nd de_int)
    (dss_cons (ds_while (fun _ => 100000) hp (dt_cmp (od_eq hr.units) (de_bin od_mod (dv 0) (dv 2)) de_int (by rfl)) (dss_one (ds_par (i := 0) (j := 3) rfl nd (dl_cons (de_bin od_fdiv (dv 0) (dv 2)) (dl_cons (de_bin od_add (dv 3) de_int) dl_nil)))))
    (dss_cons (ds_if (dt_cmp od_gt (dv 3) de_int (by rfl)) (dss_one (ds_app (i := 1) (de_tup (dl_cons (dv 2) (dl_cons (dv 3) dl_nil))))) dss_nil)
    (dss_one (ds_aug (i := 2) ipd_add nd (de_if (dt_cmp (od_eq hr.units) (dv 2) de_int (by rfl)) de_int de_int)))))))
    (dss_one (ds_frz 1 (ds_ret (de_tup (dl_cons (dv 1) (dl_cons (dv 0) dl_nil))))))))

theorem ok_parted (T : Tx K mg) : FnOk P w K mg base (L2.CX P w) 4 T.fa_parted T.fd_parted ["number"] (spF ⟨K, mg⟩ m_parted) := by
  refine fn_d (N := ["number", "found", "left"]) (u := b_parted) T.F_parted sc_parted fun cdv A outer s H E hr => ?_
  have nd := sc_parted.nd
  have tk : Takes (cxOf (L2.CX P w) P w K mg base ["number", "found", "left"] "parted" (defScope s_parted) T.fa_parted cdv A outer s H E) (fun c d _ H => E c d H) := takes_of rfl rfl rfl rfl
  have hx := fun σ => passAt tk σ
  have hp := passes_of (X := cxOf (L2.CX P w) P w K mg base ["number", "found", "left"] "parted" (defScope s_parted) T.fa_parted cdv A outer s H E) rfl
  exact (dss_cons (ds_expr (dc_need_whole_3 T (hr.mono (by decide)) hx (da_val de_str (da_val (dv 0) (da_val de_int da_nil)))))
    (dss_cons (ds_asg (de_call' (ok_parts_found T) (hr.mono (by decide)) T.g_parts_found T.F_parts_found.kp (bn_parts_found T) hx (da_val (dv 0) da_nil)) (dg_tup rfl (dgs_cons (dg_name (i := 1) nd rfl (by first | exact Or.inl rfl | exact Or.inr rfl)) (dgs_cons (dg_name (i := 2) nd rfl (by first | exact Or.inl rfl | exact Or.inr rfl)) dgs_nil))))
    (dss_cons (ds_if (dt_cmp (od_eq hr.units) (dv 2) de_int (by rfl)) (dss_one (ds_ret (de_callTy cd_tuple T.nb_tuple boot_tuple (dl_cons (dv 1) dl_nil)))) dss_nil)
    (dss_cons (ds_if ((dw_or (dt_cmp od_ge (dv 2) (T.dc_MOST (by rfl) rfl) (by rfl)) (dw_or1 (dt_not (dt_val (de_call' (ok_prime T) (hr.mono (by decide)) T.g_prime T.F_prime.kp (bn_prime T) hx (da_val (dv 2) da_nil))))))).pt (dss_one ds_never) dss_nil)
    (dss_one (ds_ret (de_tup (dl_star (dv 1) (dl_cons (de_tup (dl_cons (dv 2) (dl_cons de_int dl_nil))) dl_nil)))))))))

theorem ok_primes_of (T : Tx K mg) : FnOk P w K mg base (L2.CX P w) 5 T.fa_primes_of T.fd_primes_of ["number"] (spF ⟨K, mg⟩ m_primes_of) := by
  refine fn_d (N := ["number", "one", "many"]) (u := b_primes_of) T.F_primes_of sc_primes_of fun cdv A outer s H E hr => ?_
  have nd := sc_primes_of.nd
  have tk : Takes (cxOf (L2.CX P w) P w K mg base ["number", "one", "many"] "primes_of" (defScope s_primes_of) T.fa_primes_of cdv A outer s H E) (fun c d _ H => E c d H) := takes_of rfl rfl rfl rfl
  have hx := fun σ => passAt tk σ
  have hp := passes_of (X := cxOf (L2.CX P w) P w K mg base ["number", "one", "many"] "primes_of" (defScope s_primes_of) T.fa_primes_of cdv A outer s H E) rfl
  exact (dss_one (ds_ret (de_callTy cd_tuple T.nb_tuple boot_tuple (dl_cons (de_lc (own := [("one", 1), ("many", 2)]) rfl nd (di_seq (de_call' (ok_parted T) (hr.mono (by decide)) T.g_parted T.F_parted.kp (bn_parted T) hx (da_val (dv 0) da_nil))) (blkOk_by (own := [("one", 1), ("many", 2)]) (N := ["number", "one", "many"]) (sc := defScope s_primes_of) (by decide +kernel)) (fun _ _ _ _ _ => (dg_tup rfl (dgs_cons (dg_name (i := 1) nd rfl (by first | exact Or.inl rfl | exact Or.inr rfl)) (dgs_cons (dg_name (i := 2) nd rfl (by first | exact Or.inl rfl | exact Or.inr rfl)) dgs_nil)))) (fun _ _ _ _ _ => dts_nil) (fun _ _ _ _ _ => (dv 1))) dl_nil))))

theorem ok_told_primes (T : Tx K mg) : FnOk P w K mg base (L2.CX P w) 6 T.fa_told_primes T.fd_told_primes ["where"] (spF ⟨K, mg⟩ m_told_primes) := by
  refine fn_d (N := ["where"]) (u := b_told_primes) T.F_told_primes sc_told_primes fun cdv A outer s H E hr => ?_
  have nd := sc_told_primes.nd
  have tk : Takes (cxOf (L2.CX P w) P w K mg base ["where"] "told_primes" (defScope s_told_primes) T.fa_told_primes cdv A outer s H E) (fun c d _ H => E c d H) := takes_of rfl rfl rfl rfl
  have hx := fun σ => passAt tk σ
  have hp := passes_of (X := cxOf (L2.CX P w) P w K mg base ["where"] "told_primes" (defScope s_told_primes) T.fa_told_primes cdv A outer s H E) rfl
  exact (dss_one (ds_ret (de_call' (ok_primes_of T) (hr.mono (by decide)) T.g_primes_of T.F_primes_of.kp (bn_primes_of T) hx (da_val (de_ix xd_ix (de_call' (ok_need_where T) (hr.mono (by decide)) T.g_need_where T.F_need_where.kp (bn_need_where T) hx (da_val (dv 0) (da_val de_str da_nil))) de_int (fun _ _ => rfl)) da_nil))))

/-- the pen: the cells, how many were begun, what is left of a great one -/
def spPen (K : PySem.W.Frag) : Sp := fun vs H Q _ => ∃ (a : Addr) (ns : List Int), vs = [.ref a] ∧ SqL K H a (ns.map V.int) ∧ ns.length ≤ 63 ∧
  ∀ (H' : Hp) (p q : Addr), Same H H' → H p = none → H q = none → p ≠ q → H' p = some (.lst [.ref q, .int 0, .int 0]) → H' q = some (.lst (ns.map V.int)) → Q (.ref p) H'
theorem cut_all (xs : List V) (h : xs.length ≤ 63) : cutV xs none (some 63) = xs := by
  unfold cutV
  rw [HT.sIx_none, show HT.sIx xs.length xs.length (some 63) = min 63 xs.length from HT.sIx_nat xs.length xs.length 63]
  rw [List.drop_zero]
  exact List.take_of_length_le (by omega)
theorem ok_pen (T : Tx K mg) : FnOk P w K mg base (L2.CX P w) 1 T.fa__law_pen T.fd__law_pen ["script"] (spPen K) := by
  refine T.F__law_pen.ok sc__law_pen (fun vs H Q E h => ?_) (fun cdv A outer s H vs Q E hr h => ?_)
  · obtain ⟨a, ns, rfl, _⟩ := h
    rfl
  · have nd := sc__law_pen.nd
    obtain ⟨a, ns, rfl, hS, hl, q⟩ := h
    refine ⟨_, pss_one (ps_ret (pe_lst (pa_cons (pe_lc (own := [("cell", 1)]) (g := gName 1) (tt := tYes) rfl nd (pi_list (pe_slice sl_list (pv 0) po_none (po_some pe_int))) (blkOk_by (own := [("cell", 1)]) (N := ["script", "cell"]) (sc := defScope s__law_pen) (by decide +kernel))
      (fun _ _ _ _ _ => pg_name (i := 1) nd rfl (Or.inl rfl)) (fun _ _ _ _ _ => pts_nil) (fun _ _ _ _ _ => pe_callTy call_int1 rfl T.nb_int boot_int (pa_cons (pv 1) pa_nil))) (pa_cons pe_int (pa_cons pe_int pa_nil))))), ?_⟩
    refine ⟨.ref a, rfl, 63, rfl, a, ns.map V.int, rfl, hS, fun c hc => ?_⟩
    rw [cut_all _ (by rw [List.length_map]; exact hl)]
    have s1 : Same H (upd H c (.lst (ns.map V.int))) := fun b o e => by rw [upd_ne (ne_of_none e hc)]; exact e
    refine ⟨c, rfl, ⟨_, .of upd_same⟩, fun D hD => ?_⟩
    have s2 : Same H (upd (upd H c (.lst (ns.map V.int))) D (.lst [])) := fun b o e => by rw [upd_ne (ne_of_none (s1 b o e) hD)]; exact s1 b o e
    refine lc_list (K := K) (a := c) (xs := ns.map V.int) (fun i H' => Same H H' ∧ H' c = some (.lst (ns.map V.int)) ∧ H' D = some (.lst ((ns.map V.int).take i))) ⟨s2, ?_, ?_⟩ (fun i H' _ h => .of h.2.1) ?_ ?_
    · rw [upd_ne (ne_of_none upd_same hD)]; exact upd_same
    · rw [upd_same]; rfl
    · rintro i x H' hx ⟨h1, h2, h3⟩
      rw [List.getElem?_map] at hx
      cases e : ns[i]? with
      | none => rw [e] at hx; cases hx
      | some z =>
        rw [e] at hx
        cases hx
        have hi : i < ns.length := (List.getElem?_eq_some_iff.mp e).1
        have nD : H D = none := s1.free hD
        have nc : c ≠ D := ne_of_none upd_same hD
        refine ⟨rfl, ?_⟩
        unfold tYes
        dsimp only
        rw [if_pos rfl]
        refine ⟨_, rfl, .inl ⟨z, rfl, _, h3, ?_, fun b o eb => ?_, ?_, ?_⟩⟩
        · rw [List.length_take, List.length_map]
          exact Nat.lt_of_le_of_lt (Nat.min_le_left _ _) (small1000 (by omega))
        · rw [upd_ne (ne_of_none eb nD)]; exact h1 b o eb
        · rw [upd_ne nc]; exact h2
        · rw [upd_same, List.take_add_one, List.getElem?_map, e]
          rfl
    · rintro H' ⟨h1, h2, h3⟩
      rw [List.take_length] at h3
      refine ⟨(by show 3 ≤ sizeLine; decide), fun p hp => ?_⟩
      have hne : D ≠ p := ne_of_none h3 hp
      refine q _ p D (fun b o e => ?_) (h1.free hp) (s1.free hD) (Ne.symm hne) upd_same ?_
      · rw [upd_ne (ne_of_none (h1 b o e) hp)]; exact h1 b o e
      · rw [upd_ne hne]; exact h3
end
end Law
set_option Elab.async false
set_option linter.all false
set_option maxRecDepth 100000
set_option maxHeartbeats 4000000
namespace Law
open PySem PySem.Spec PyProof.Rows L2 DL
section
variable {P : Program} {w : World} {K : PySem.W.Frag} {mg : Str → Option Value} {base : Heap}
def spLaw (K : PySem.W.Frag) : Sp := fun vs H Q _ => ∃ (a : Addr) (ns : List Int), vs = [.ref a] ∧ SqL K H a (ns.map V.int) ∧ ns.length ≤ 63 ∧ ∀ H', Q (.bl true) H'
def lawEnv : List Sl := [.no, .pen] ++ List.replicate (14 - 2) .no
theorem law_fill {vs : List V} {H : Hp} {Q : VK} {E : XK} {W : WX} (h : spLaw K vs H Q E) :
    tSeq (tAsg (tCall (spPen K) [] E0 (tCons (tVar 0) tNil)) (gName 1)) (tS ⟨K, mg⟩ W b_law) { nx := fun _ H' => Q .non H', rt := Q } (L2.start ["script", "pen", "primes", "turn", "one", "other", "both", "either", "rest", "prime_v", "has_v", "due", "great", "twos"] vs) H := by
  obtain ⟨a, ns, rfl, hS, hl, q⟩ := h
  refine ⟨_, rfl, a, ns, rfl, hS, hl, fun H' p c s1 np nc hpc h1 h2 => ?_⟩
  obtain ⟨env', st', e⟩ := law_true ns hl
  let γ : Gh := ⟨some p, fun _ => False, fun _ _ => True, fun _ _ z => z, fun _ _ _ _ _ _ _ => trivial⟩
  let G : Hp := fun b => if b = c then some (.lst (ns.map V.int)) else none
  have gc : G c = some (.lst (ns.map V.int)) := if_pos rfl
  have gp : G p = none := if_neg hpc
  have sub : Same G H' := fun b o eb => by
    by_cases z : b = c
    · subst z; rw [gc] at eb; rw [h2]; exact eb
    · rw [show G b = none from if_neg z] at eb; cases eb
  have st0 : Step γ G H' G H' := Step.refl sub trivial
  refine ⟨γ, G, H', G, lawEnv, ⟨ns, 0, 0⟩, ⟨sub, trivial, st0, ⟨fun b hb => ?_, fun b hb => False.elim hb⟩, rfl, fun i s x e1 e2 => ?_, fun i j s t x _ e1 _ o1 _ _ _ => ?_⟩, ?_⟩
  · cases hb
    exact ⟨gp, c, h1, gc⟩
  · match i, e1, e2 with
    | 0, e1, e2 => cases e1; trivial
    | 1, e1, e2 =>
      cases e1
      cases e2
      exact ⟨p, rfl, rfl⟩
    | i + 2, e1, e2 =>
      have : s = .no := by
        have z := List.mem_of_getElem? (show (List.replicate (14 - 2) Sl.no)[i]? = some s from e1)
        exact List.eq_of_mem_replicate z
      subst this
      trivial
  · match i, e1 with
    | 0, e1 => cases e1; cases o1
    | 1, e1 => cases e1; cases o1
    | i + 2, e1 =>
      have z := List.mem_of_getElem? (show (List.replicate (14 - 2) Sl.no)[i]? = some s from e1)
      rw [List.eq_of_mem_replicate z] at o1
      cases o1
  · have e' : b_law lawEnv ⟨ns, 0, 0⟩ = some (.ok (.ret (.bl true)), env', st') := e
    rw [e']
    intro σ' G' H2 _ v rv
    rw [rv.bl_inv]
    exact q H2
theorem ok_law (T : Tx K mg) : LawRun P w K mg base T.fa_law T.fd_law ["script"] (spLaw K) := by
  refine law_run (k := 7) T.F_law sc_law (fun vs H Q E h => ?_) ⟨rfl, by decide, by decide⟩ fun cdv outer s H vs Q E hr h => ⟨_, ?_, law_fill (mg := mg) (W := fun c d _ H => E c d H) h⟩
  · obtain ⟨a, ns, rfl, _⟩ := h
    rfl
  · have nd := sc_law.nd
    have tk : Takes (cxOf (L2.CX P w) P w K mg base ["script", "pen", "primes", "turn", "one", "other", "both", "either", "rest", "prime_v", "has_v", "due", "great", "twos"] "law" (defScope s_law) T.fa_law cdv callerA outer s H E) (fun c d _ H => E c d H) := takes_of rfl rfl rfl rfl
    have hx := fun σ => passAt tk σ
    have hp := passes_of (X := cxOf (L2.CX P w) P w K mg base ["script", "pen", "primes", "turn", "one", "other", "both", "either", "rest", "prime_v", "has_v", "due", "great", "twos"] "law" (defScope s_law) T.fa_law cdv callerA outer s H E) rfl
    have hgd : (callerA.deeper (envOfC "law" (defScope s_law) s.heap.objs.size T.fa_law cdv)).guards = some [] := rfl
    have hu70 : (callerA.deeper (envOfC "law" (defScope s_law) s.heap.objs.size T.fa_law cdv)).units + 70 < cLine := by have := hr.un; omega
    exact pss_cons (ps_set (i := 1) nd rfl (by first | exact Or.inl rfl | exact Or.inr rfl) (pe_call (ok_pen T) (hr.mono (by decide)) (by rfl) T.g__law_pen T.F__law_pen.kp (bn__law_pen T) .nil passL (pa_cons (pv 0) pa_nil)))
      ((dss_cons (ds_set (i := 2) nd (de_call' (ok__law_primes T) (hr.mono (by decide)) T.g__law_primes T.F__law_primes.kp (bn__law_primes T) hx (da_val de_int da_nil)))
    (dss_cons (ds_for hp rfl (di_range1 T.nb_range (dl_cons de_int dl_nil) lone) (dg_name (i := 3) nd rfl (by first | exact Or.inl rfl | exact Or.inr rfl)) (dss_cons (ds_asg (de_tup (dl_cons (de_call' (ok__law_set T) (hr.mono (by decide)) T.g__law_set T.F__law_set.kp (bn__law_set T) hx (da_pen 1 da_nil)) (dl_cons (de_call' (ok__law_set T) (hr.mono (by decide)) T.g__law_set T.F__law_set.kp (bn__law_set T) hx (da_pen 1 da_nil)) dl_nil))) (dg_tup rfl (dgs_cons (dg_name (i := 4) nd rfl (by first | exact Or.inl rfl | exact Or.inr rfl)) (dgs_cons (dg_name (i := 5) nd rfl (by first | exact Or.inl rfl | exact Or.inr rfl)) dgs_nil))))
    (dss_cons (ds_par3 (i := 6) (j := 7) (l := 8) rfl nd (dl_cons (de_call' (ok_meet T) (hr.mono (by decide)) T.g_meet T.F_meet.kp (bn_meet T) hx (da_val (dv 4) (da_val (dv 5) da_nil))) (dl_cons (de_call' (ok_join T) (hr.mono (by decide)) T.g_join T.F_join.kp (bn_join T) hx (da_val (dv 4) (da_val (dv 5) da_nil))) (dl_cons (de_call' (ok_others T) (hr.mono (by decide)) T.g_others T.F_others.kp (bn_others T) hx (da_val (dv 4) da_nil)) dl_nil))))
    (dss_cons (ds_for hp rfl (di_seq (dv 2)) (dg_name (i := 9) nd rfl (by first | exact Or.inl rfl | exact Or.inr rfl)) (dss_cons (ds_set (i := 10) nd (de_lst (dl_cons (de_call' (ok__law_has T) (hr.mono (by decide)) T.g__law_has T.F__law_has.kp (bn__law_has T) hx (da_val (dv 4) (da_val (dv 9) da_nil))) (dl_cons (de_call' (ok__law_has T) (hr.mono (by decide)) T.g__law_has T.F__law_has.kp (bn__law_has T) hx (da_val (dv 5) (da_val (dv 9) da_nil))) dl_nil))))
    (dss_one (ds_if ((dw_or (dt_cmp (od_ne hr.units) (de_lst (dl_cons (de_call' (ok__law_has T) (hr.mono (by decide)) T.g__law_has T.F__law_has.kp (bn__law_has T) hx (da_val (dv 6) (da_val (dv 9) da_nil))) (dl_cons (de_call' (ok__law_has T) (hr.mono (by decide)) T.g__law_has T.F__law_has.kp (bn__law_has T) hx (da_val (dv 7) (da_val (dv 9) da_nil))) (dl_cons (de_call' (ok__law_has T) (hr.mono (by decide)) T.g__law_has T.F__law_has.kp (bn__law_has T) hx (da_val (dv 8) (da_val (dv 9) da_nil))) dl_nil)))) (de_lst (dl_cons (de_and (de_ix xd_ix (dv 10) de_int (fun _ _ => rfl)) (de_one (de_ix xd_ix (dv 10) de_int (fun _ _ => rfl)))) (dl_cons (de_or (de_ix xd_ix (dv 10) de_int (fun _ _ => rfl)) (de_one (de_ix xd_ix (dv 10) de_int (fun _ _ => rfl)))) (dl_cons (de_not (de_ix xd_ix (dv 10) de_int (fun _ _ => rfl))) dl_nil)))) (by rfl)) (dw_or1 (dt_cmp (od_ne hr.units) (de_callB (cd_repr hgd hu70) T.nb_repr (by decide +kernel) (dl_cons (de_call' (ok_is_in T) (hr.mono (by decide)) T.g_is_in T.F_is_in.kp (bn_is_in T) hx (da_val (dv 4) (da_val (dv 9) da_nil))) dl_nil)) (de_callB (cd_repr hgd hu70) T.nb_repr (by decide +kernel) (dl_cons (de_ix xd_ix (dv 10) de_int (fun _ _ => rfl)) dl_nil)) (by rfl))))).pt (dss_one (ds_ret de_bl)) dss_nil))))
    (dss_cons (ds_set (i := 11) nd (de_cmp (od_eq hr.units) (de_lc (own := [("prime_v", 9)]) rfl nd (di_seq (dv 2)) (blkOk_by (own := [("prime_v", 9)]) (N := ["script", "pen", "primes", "turn", "one", "other", "both", "either", "rest", "prime_v", "has_v", "due", "great", "twos"]) (sc := defScope s_law) (by decide +kernel)) (fun _ _ _ _ _ => (dg_name (i := 9) nd rfl (by first | exact Or.inl rfl | exact Or.inr rfl))) (fun _ _ _ _ _ => (dts_one (dt_cmp (od_ne hr.units) (de_call' (ok__law_has T) (hr.mono (by decide)) T.g__law_has T.F__law_has.kp (bn__law_has T) (fun _ => passF) (da_val (dv 4) (da_val (dv 9) da_nil))) (de_call' (ok__law_has T) (hr.mono (by decide)) T.g__law_has T.F__law_has.kp (bn__law_has T) (fun _ => passF) (da_val (dv 5) (da_val (dv 9) da_nil))) (by rfl)))) (fun _ _ _ _ _ => (dv 9))) (de_lst dl_nil) (by rfl)))
    (dss_cons (ds_if ((dw_or (dt_cmp (od_ne hr.units) (de_callB (cd_repr hgd hu70) T.nb_repr (by decide +kernel) (dl_cons (de_call' (ok_are_same T) (hr.mono (by decide)) T.g_are_same T.F_are_same.kp (bn_are_same T) hx (da_val (dv 4) (da_val (dv 5) da_nil))) dl_nil)) (de_callB (cd_repr hgd hu70) T.nb_repr (by decide +kernel) (dl_cons (dv 11) dl_nil)) (by rfl)) (dw_or (dt_cmp (od_ne hr.units) (de_callK (ks := ["other", "one"]) (perm := [1, 0]) (ok_are_same T) (hr.mono (by decide)) T.g_are_same T.F_are_same.kp (kw_binds (ks := ["other", "one"]) (perm := [1, 0]) T.F_are_same (fun _ _ _ _ _ _ ws hl => match ws, hl with | [_, _], _ => rfl)) hx (dk_cons (de_callTy cd_list T.nb_list boot_list (dl_cons (dv 5) dl_nil)) (dk_cons (de_callTy cd_list T.nb_list boot_list (dl_cons (dv 4) dl_nil)) dk_nil)) (len_lCons (len_lCons len_lNil))) (dv 11) (by rfl)) (dw_or (dt_not (dt_val (de_call' (ok__law_sets_alike T) (hr.mono (by decide)) T.g__law_sets_alike T.F__law_sets_alike.kp (bn__law_sets_alike T) hx (da_val (dv 6) (da_val (dv 6) da_nil))))) (dw_or1 (dt_not (dt_val (de_call' (ok__law_sets_alike T) (hr.mono (by decide)) T.g__law_sets_alike T.F__law_sets_alike.kp (bn__law_sets_alike T) hx (da_val (dv 7) (da_val (dv 7) da_nil)))))))))).pt (dss_one (ds_ret de_bl)) dss_nil)
    (dss_cons (ds_if ((dw_or (dt_cmp (od_ne hr.units) (de_callK (ks := ["other", "one"]) (perm := [1, 0]) (ok_meet T) (hr.mono (by decide)) T.g_meet T.F_meet.kp (kw_binds (ks := ["other", "one"]) (perm := [1, 0]) T.F_meet (fun _ _ _ _ _ _ ws hl => match ws, hl with | [_, _], _ => rfl)) hx (dk_cons (de_callTy cd_list T.nb_list boot_list (dl_cons (dv 5) dl_nil)) (dk_cons (de_callTy cd_list T.nb_list boot_list (dl_cons (dv 4) dl_nil)) dk_nil)) (len_lCons (len_lCons len_lNil))) (dv 6) (by rfl)) (dw_or (dt_cmp (od_ne hr.units) (de_callK (ks := ["other", "one"]) (perm := [1, 0]) (ok_join T) (hr.mono (by decide)) T.g_join T.F_join.kp (kw_binds (ks := ["other", "one"]) (perm := [1, 0]) T.F_join (fun _ _ _ _ _ _ ws hl => match ws, hl with | [_, _], _ => rfl)) hx (dk_cons (dv 5) (dk_cons (dv 4) dk_nil)) (len_lCons (len_lCons len_lNil))) (dv 7) (by rfl)) (dw_or (dt_cmp (od_ne hr.units) (de_callK (ks := ["where"]) (perm := [0]) (ok_others T) (hr.mono (by decide)) T.g_others T.F_others.kp (kw_binds (ks := ["where"]) (perm := [0]) T.F_others (fun _ _ _ _ _ _ ws hl => match ws, hl with | [_], _ => rfl)) hx (dk_cons (de_callTy cd_list T.nb_list boot_list (dl_cons (dv 4) dl_nil)) dk_nil) (len_lCons len_lNil)) (dv 8) (by rfl)) (dw_or1 (dt_cmp (od_ne hr.units) (de_callK (ks := ["prime", "where"]) (perm := [1, 0]) (ok_is_in T) (hr.mono (by decide)) T.g_is_in T.F_is_in.kp (kw_binds (ks := ["prime", "where"]) (perm := [1, 0]) T.F_is_in (fun _ _ _ _ _ _ ws hl => match ws, hl with | [_, _], _ => rfl)) hx (dk_cons de_int (dk_cons (de_callTy cd_list T.nb_list boot_list (dl_cons (dv 4) dl_nil)) dk_nil)) (len_lCons (len_lCons len_lNil))) (de_call' (ok__law_has T) (hr.mono (by decide)) T.g__law_has T.F__law_has.kp (bn__law_has T) hx (da_val (dv 4) (da_val de_int da_nil))) (by rfl))))))).pt (dss_one (ds_ret de_bl)) dss_nil)
    (dss_cons (ds_if (dt_cmp (od_ne hr.units) (de_callB (cd_repr hgd hu70) T.nb_repr (by decide +kernel) (dl_cons (de_callK (ks := ["where"]) (perm := [0]) (ok_told_primes T) (hr.mono (by decide)) T.g_told_primes T.F_told_primes.kp (kw_binds (ks := ["where"]) (perm := [0]) T.F_told_primes (fun _ _ _ _ _ _ ws hl => match ws, hl with | [_], _ => rfl)) hx (dk_cons (dv 4) dk_nil) (len_lCons len_lNil)) dl_nil)) (de_callB (cd_repr hgd hu70) T.nb_repr (by decide +kernel) (dl_cons (de_callTy cd_tuple T.nb_tuple boot_tuple (dl_cons (de_lc (own := [("prime_v", 9)]) rfl nd (di_seq (de_sliceL (dv 2) (do_some de_int) do_none)) (blkOk_by (own := [("prime_v", 9)]) (N := ["script", "pen", "primes", "turn", "one", "other", "both", "either", "rest", "prime_v", "has_v", "due", "great", "twos"]) (sc := defScope s_law) (by decide +kernel)) (fun _ _ _ _ _ => (dg_name (i := 9) nd rfl (by first | exact Or.inl rfl | exact Or.inr rfl))) (fun _ _ _ _ _ => (dts_one (dt_cmp (od_eq hr.units) (de_bin od_mod (de_callTy cd_int T.nb_int boot_int (dl_cons (de_ix xd_ix (dv 4) de_int (fun _ _ => rfl)) dl_nil)) (dv 9)) de_int (by rfl)))) (fun _ _ _ _ _ => (dv 9))) dl_nil)) dl_nil)) (by rfl)) (dss_one (ds_ret de_bl)) dss_nil)
    (dss_one (ds_if ((dw_or (dt_cmp od_notB (de_call' (ok_are_same T) (hr.mono (by decide)) T.g_are_same T.F_are_same.kp (bn_are_same T) hx (da_val (de_call' (ok_meet T) (hr.mono (by decide)) T.g_meet T.F_meet.kp (bn_meet T) hx (da_val (dv 4) (da_val (de_call' (ok_join T) (hr.mono (by decide)) T.g_join T.F_join.kp (bn_join T) hx (da_val (dv 4) (da_val (dv 5) da_nil))) da_nil))) (da_val (dv 4) da_nil))) de_bl (by rfl)) (dw_or1 (dt_cmp od_notB (de_call' (ok_are_same T) (hr.mono (by decide)) T.g_are_same T.F_are_same.kp (bn_are_same T) hx (da_val (de_call' (ok_others T) (hr.mono (by decide)) T.g_others T.F_others.kp (bn_others T) hx (da_val (de_call' (ok_meet T) (hr.mono (by decide)) T.g_meet T.F_meet.kp (bn_meet T) hx (da_val (dv 4) (da_val (dv 5) da_nil))) da_nil)) (da_val (de_call' (ok_join T) (hr.mono (by decide)) T.g_join T.F_join.kp (bn_join T) hx (da_val (de_call' (ok_others T) (hr.mono (by decide)) T.g_others T.F_others.kp (bn_others T) hx (da_val (dv 4) da_nil)) (da_val (de_call' (ok_others T) (hr.mono (by decide)) T.g_others T.F_others.kp (bn_others T) hx (da_val (dv 5) da_nil)) da_nil))) da_nil))) de_bl (by rfl))))).pt (dss_one (ds_ret de_bl)) dss_nil))))))))))
    (dss_cons (ds_asg (de_tup (dl_cons de_int (dl_cons de_int dl_nil))) (dg_tup rfl (dgs_cons (dg_name (i := 12) nd rfl (by first | exact Or.inl rfl | exact Or.inr rfl)) (dgs_cons (dg_name (i := 13) nd rfl (by first | exact Or.inl rfl | exact Or.inr rfl)) dgs_nil))))
    (dss_cons (ds_for hp rfl (di_range1 T.nb_range (dl_cons (de_bin od_add de_int (de_call' (ok__law_draw T) (hr.mono (by decide)) T.g__law_draw T.F__law_draw.kp (bn__law_draw T) hx (da_pen 1 (da_val de_int da_nil)))) dl_nil) lone) (dg_name (i := 3) nd rfl (by first | exact Or.inl rfl | exact Or.inr rfl)) (dss_one (ds_set (i := 12) nd (de_bin od_mul (dv 12) de_int))))
    (dss_cons (ds_for hp rfl (di_range1 T.nb_range (dl_cons (de_bin od_add de_int (de_call' (ok__law_draw T) (hr.mono (by decide)) T.g__law_draw T.F__law_draw.kp (bn__law_draw T) hx (da_pen 1 (da_val de_int da_nil)))) dl_nil) lone) (dg_name (i := 3) nd rfl (by first | exact Or.inl rfl | exact Or.inr rfl)) (dss_one (ds_set (i := 13) nd (de_bin od_mul de_int (dv 13)))))
    (dss_cons (ds_if (dt_cmp (od_ne hr.units) (de_lst (dl_cons (de_call' (ok_are_same T) (hr.mono (by decide)) T.g_are_same T.F_are_same.kp (bn_are_same T) hx (da_val (de_tup (dl_cons de_str (dl_cons (dv 13) dl_nil))) (da_val (de_tup (dl_cons de_str (dl_cons de_int dl_nil))) da_nil))) (dl_cons (de_call' (ok_are_same T) (hr.mono (by decide)) T.g_are_same T.F_are_same.kp (bn_are_same T) hx (da_val (de_tup (dl_cons de_str (dl_cons de_int dl_nil))) (da_val (de_tup (dl_cons de_str (dl_cons (de_bin od_mul de_int (dv 13)) dl_nil))) da_nil))) (dl_cons (de_ix xd_ix (de_call' (ok_meet T) (hr.mono (by decide)) T.g_meet T.F_meet.kp (bn_meet T) hx (da_val (de_tup (dl_cons de_str (dl_cons (de_bin od_mul de_int (dv 13)) dl_nil))) (da_val (de_tup (dl_cons de_str (dl_cons de_int dl_nil))) da_nil))) de_int (fun _ _ => rfl)) dl_nil)))) (de_lst (dl_cons de_bl (dl_cons de_bl (dl_cons de_str dl_nil)))) (by rfl)) (dss_one (ds_ret de_bl)) dss_nil)
    (dss_cons (ds_if ((dw_or (dt_cmp od_notB (de_call' (ok_are_same T) (hr.mono (by decide)) T.g_are_same T.F_are_same.kp (bn_are_same T) hx (da_val (de_call' (ok_meet T) (hr.mono (by decide)) T.g_meet T.F_meet.kp (bn_meet T) hx (da_val (de_tup (dl_cons de_str (dl_cons (de_bin od_mul de_int (dv 13)) dl_nil))) (da_val (de_tup (dl_cons de_str (dl_cons de_int dl_nil))) da_nil))) (da_val (de_tup (dl_cons de_str (dl_cons de_int dl_nil))) da_nil))) de_bl (by rfl)) (dw_or1 (dt_cmp (od_ne hr.units) (de_call' (ok_told_primes T) (hr.mono (by decide)) T.g_told_primes T.F_told_primes.kp (bn_told_primes T) hx (da_val (de_tup (dl_cons de_str (dl_cons (dv 13) dl_nil))) da_nil)) (de_tup (dl_cons de_int dl_nil)) (by rfl))))).pt (dss_one (ds_ret de_bl)) dss_nil)
    (dss_cons (ds_if (dt_not ((dw_and (dt_cmp od_isB (de_call' (ok_are_same T) (hr.mono (by decide)) T.g_are_same T.F_are_same.kp (bn_are_same T) hx (da_val (de_tup (dl_cons de_str (dl_cons (dv 12) dl_nil))) (da_val (de_tup (dl_cons de_str (dl_cons de_int dl_nil))) da_nil))) de_bl (by rfl)) (dw_and (dt_cmp od_isB (de_call' (ok_are_same T) (hr.mono (by decide)) T.g_are_same T.F_are_same.kp (bn_are_same T) hx (da_val (de_tup (dl_cons de_str (dl_cons (de_bin od_mul (dv 12) de_int) dl_nil))) (da_val (de_tup (dl_cons de_str (dl_cons de_int dl_nil))) da_nil))) de_bl (by rfl)) (dw_and1 (dt_cmp (od_eq hr.units) (de_call' (ok_meet T) (hr.mono (by decide)) T.g_meet T.F_meet.kp (bn_meet T) hx (da_val (de_tup (dl_cons de_str (dl_cons (dv 12) dl_nil))) (da_val (de_tup (dl_cons de_str (dl_cons de_int dl_nil))) da_nil))) (de_tup (dl_cons de_str (dl_cons de_int dl_nil))) (by rfl)))))).pt) (dss_one (ds_ret de_bl)) dss_nil)
    (dss_one (ds_ret (de_cmp od_isB (de_call' (ok_is_in T) (hr.mono (by decide)) T.g_is_in T.F_is_in.kp (bn_is_in T) hx (da_val (de_tup (dl_cons de_str (dl_cons (dv 12) dl_nil))) (da_val de_int da_nil))) de_bl (by rfl)))))))))))))
end
theorem all_mk {P : Program} {w : World} {K : PySem.W.Frag} {h : Heap} {mg : Str → Option Value} {fa : Addr} (X : K.In h) (G : h.Ns mainGlobals mg) (hfa : mg "law" = some (.ref fa))
    {f0 : Addr} {od0 an0 : Option Addr} {sl0 : Array (Option Value)} {oc0 kV0 dc0 pm0 cd0 ct0 : Value}
    {f1 : Addr} {od1 an1 : Option Addr} {sl1 : Array (Option Value)} {oc1 kV1 dc1 pm1 cd1 ct1 : Value}
    {f2 : Addr} {od2 an2 : Option Addr} {sl2 : Array (Option Value)} {oc2 kV2 dc2 pm2 cd2 ct2 : Value}
    {f3 : Addr} {od3 an3 : Option Addr} {sl3 : Array (Option Value)} {oc3 kV3 dc3 pm3 cd3 ct3 : Value}
    {f4 : Addr} {od4 an4 : Option Addr} {sl4 : Array (Option Value)} {oc4 kV4 dc4 pm4 cd4 ct4 : Value}
    {f5 : Addr} {od5 an5 : Option Addr} {sl5 : Array (Option Value)} {oc5 kV5 dc5 pm5 cd5 ct5 : Value}
    {f6 : Addr} {od6 an6 : Option Addr} {sl6 : Array (Option Value)} {oc6 kV6 dc6 pm6 cd6 ct6 : Value}
    {f7 : Addr} {od7 an7 : Option Addr} {sl7 : Array (Option Value)} {oc7 kV7 dc7 pm7 cd7 ct7 : Value}
    {f8 : Addr} {od8 an8 : Option Addr} {sl8 : Array (Option Value)} {oc8 kV8 dc8 pm8 cd8 ct8 : Value}
    {T8 : Addr} {to8 : Value} {td8 : Option Addr} {tn8 : Nat} {ts8 : Array (Option Value)} {u8_0 : Tok}
    {f9 : Addr} {od9 an9 : Option Addr} {sl9 : Array (Option Value)} {oc9 kV9 dc9 pm9 cd9 ct9 : Value}
    {f10 : Addr} {od10 an10 : Option Addr} {sl10 : Array (Option Value)} {oc10 kV10 dc10 pm10 cd10 ct10 : Value}
    {f11 : Addr} {od11 an11 : Option Addr} {sl11 : Array (Option Value)} {oc11 kV11 dc11 pm11 cd11 ct11 : Value}
    {f12 : Addr} {od12 an12 : Option Addr} {sl12 : Array (Option Value)} {oc12 kV12 dc12 pm12 cd12 ct12 : Value}
    {f13 : Addr} {od13 an13 : Option Addr} {sl13 : Array (Option Value)} {oc13 kV13 dc13 pm13 cd13 ct13 : Value}
    {f14 : Addr} {od14 an14 : Option Addr} {sl14 : Array (Option Value)} {oc14 kV14 dc14 pm14 cd14 ct14 : Value}
    {f15 : Addr} {od15 an15 : Option Addr} {sl15 : Array (Option Value)} {oc15 kV15 dc15 pm15 cd15 ct15 : Value}
    {f16 : Addr} {od16 an16 : Option Addr} {sl16 : Array (Option Value)} {oc16 kV16 dc16 pm16 cd16 ct16 : Value}
    {f17 : Addr} {od17 an17 : Option Addr} {sl17 : Array (Option Value)} {oc17 kV17 dc17 pm17 cd17 ct17 : Value}
    {f18 : Addr} {od18 an18 : Option Addr} {sl18 : Array (Option Value)} {oc18 kV18 dc18 pm18 cd18 ct18 : Value}
    {f19 : Addr} {od19 an19 : Option Addr} {sl19 : Array (Option Value)} {oc19 kV19 dc19 pm19 cd19 ct19 : Value}
    {f20 : Addr} {od20 an20 : Option Addr} {sl20 : Array (Option Value)} {oc20 kV20 dc20 pm20 cd20 ct20 : Value}
    {f21 : Addr} {od21 an21 : Option Addr} {sl21 : Array (Option Value)} {oc21 kV21 dc21 pm21 cd21 ct21 : Value}
    {f22 : Addr} {od22 an22 : Option Addr} {sl22 : Array (Option Value)} {oc22 kV22 dc22 pm22 cd22 ct22 : Value}
    {f23 : Addr} {od23 an23 : Option Addr} {sl23 : Array (Option Value)} {oc23 kV23 dc23 pm23 cd23 ct23 : Value}
    {T23 : Addr} {to23 : Value} {td23 : Option Addr} {tn23 : Nat} {ts23 : Array (Option Value)} {u23_0 : Tok}
    {f24 : Addr} {od24 an24 : Option Addr} {sl24 : Array (Option Value)} {oc24 kV24 dc24 pm24 cd24 ct24 : Value}
    {f25 : Addr} {od25 an25 : Option Addr} {sl25 : Array (Option Value)} {oc25 kV25 dc25 pm25 cd25 ct25 : Value}
    {f26 : Addr} {od26 an26 : Option Addr} {sl26 : Array (Option Value)} {oc26 kV26 dc26 pm26 cd26 ct26 : Value}
    {f27 : Addr} {od27 an27 : Option Addr} {sl27 : Array (Option Value)} {oc27 kV27 dc27 pm27 cd27 ct27 : Value}
    {f28 : Addr} {od28 an28 : Option Addr} {sl28 : Array (Option Value)} {oc28 kV28 dc28 pm28 cd28 ct28 : Value}
    {T28 : Addr} {to28 : Value} {td28 : Option Addr} {tn28 : Nat} {ts28 : Array (Option Value)}
    {f29 : Addr} {od29 an29 : Option Addr} {sl29 : Array (Option Value)} {oc29 kV29 dc29 pm29 cd29 ct29 : Value}
    {f30 : Addr} {od30 an30 : Option Addr} {sl30 : Array (Option Value)} {oc30 kV30 dc30 pm30 cd30 ct30 : Value}
    {f31 : Addr} {od31 an31 : Option Addr} {sl31 : Array (Option Value)} {oc31 kV31 dc31 pm31 cd31 ct31 : Value}
    {f32 : Addr} {od32 an32 : Option Addr} {sl32 : Array (Option Value)} {oc32 kV32 dc32 pm32 cd32 ct32 : Value}
    {f33 : Addr} {od33 an33 : Option Addr} {sl33 : Array (Option Value)} {oc33 kV33 dc33 pm33 cd33 ct33 : Value}
    {f34 : Addr} {od34 an34 : Option Addr} {sl34 : Array (Option Value)} {oc34 kV34 dc34 pm34 cd34 ct34 : Value}
    {A_BASES : Addr} {ad_BASES : Option Addr} {an_BASES : Nat} {as_BASES : Array (Option Value)} {u_BASES_0 u_BASES_1 u_BASES_2 u_BASES_3 u_BASES_4 u_BASES_5 u_BASES_6 u_BASES_7 u_BASES_8 u_BASES_9 u_BASES_10 u_BASES_11 u_BASES_12 : Tok}
    {t_BUT : Tok}
    {t_MOST : Tok}
    {t_MOST_CHARACTERISTIC : Tok}
    {t_ONLY : Tok}
    {t_SMALL : Tok}
    {A_WORDS : Addr} {ad_WORDS : Option Addr} {an_WORDS : Nat} {as_WORDS : Array (Option Value)} {u_WORDS_0 u_WORDS_1 : Tok}
    (a0 : PySem.W.nsIn K mainGlobals "_law_primes" = some (some (.ref f0)))
    (l0 : K.lookup f0 = some ⟨oc0, od0, .func (PySem.W.fnOf "_law_primes" "_law_primes" (defArgs s__law_primes) (defBody s__law_primes) (defScope s__law_primes) .none kV0 dc0 pm0 an0 cd0 ct0), sl0⟩)
    (c0 : PySem.W.codeIn K cd0 "_law_primes" = true)
    (k0 : PySem.W.keepIn K (.ref f0) = true)
    (a1 : PySem.W.nsIn K mainGlobals "_law_draw" = some (some (.ref f1)))
    (l1 : K.lookup f1 = some ⟨oc1, od1, .func (PySem.W.fnOf "_law_draw" "_law_draw" (defArgs s__law_draw) (defBody s__law_draw) (defScope s__law_draw) .none kV1 dc1 pm1 an1 cd1 ct1), sl1⟩)
    (c1 : PySem.W.codeIn K cd1 "_law_draw" = true)
    (k1 : PySem.W.keepIn K (.ref f1) = true)
    (a2 : PySem.W.nsIn K mainGlobals "_law_pick" = some (some (.ref f2)))
    (l2 : K.lookup f2 = some ⟨oc2, od2, .func (PySem.W.fnOf "_law_pick" "_law_pick" (defArgs s__law_pick) (defBody s__law_pick) (defScope s__law_pick) .none kV2 dc2 pm2 an2 cd2 ct2), sl2⟩)
    (c2 : PySem.W.codeIn K cd2 "_law_pick" = true)
    (k2 : PySem.W.keepIn K (.ref f2) = true)
    (a3 : PySem.W.nsIn K mainGlobals "_law_set" = some (some (.ref f3)))
    (l3 : K.lookup f3 = some ⟨oc3, od3, .func (PySem.W.fnOf "_law_set" "_law_set" (defArgs s__law_set) (defBody s__law_set) (defScope s__law_set) .none kV3 dc3 pm3 an3 cd3 ct3), sl3⟩)
    (c3 : PySem.W.codeIn K cd3 "_law_set" = true)
    (k3 : PySem.W.keepIn K (.ref f3) = true)
    (a4 : PySem.W.nsIn K mainGlobals "is_whole" = some (some (.ref f4)))
    (l4 : K.lookup f4 = some ⟨oc4, od4, .func (PySem.W.fnOf "is_whole" "is_whole" (defArgs s_is_whole) (defBody s_is_whole) (defScope s_is_whole) .none kV4 dc4 pm4 an4 cd4 ct4), sl4⟩)
    (c4 : PySem.W.codeIn K cd4 "is_whole" = true)
    (k4 : PySem.W.keepIn K (.ref f4) = true)
    (a5 : PySem.W.nsIn K mainGlobals "is_within" = some (some (.ref f5)))
    (l5 : K.lookup f5 = some ⟨oc5, od5, .func (PySem.W.fnOf "is_within" "is_within" (defArgs s_is_within) (defBody s_is_within) (defScope s_is_within) .none kV5 dc5 pm5 an5 cd5 ct5), sl5⟩)
    (c5 : PySem.W.codeIn K cd5 "is_within" = true)
    (k5 : PySem.W.keepIn K (.ref f5) = true)
    (a6 : PySem.W.nsIn K mainGlobals "is_listed" = some (some (.ref f6)))
    (l6 : K.lookup f6 = some ⟨oc6, od6, .func (PySem.W.fnOf "is_listed" "is_listed" (defArgs s_is_listed) (defBody s_is_listed) (defScope s_is_listed) .none kV6 dc6 pm6 an6 cd6 ct6), sl6⟩)
    (c6 : PySem.W.codeIn K cd6 "is_listed" = true)
    (k6 : PySem.W.keepIn K (.ref f6) = true)
    (a7 : PySem.W.nsIn K mainGlobals "is_where" = some (some (.ref f7)))
    (l7 : K.lookup f7 = some ⟨oc7, od7, .func (PySem.W.fnOf "is_where" "is_where" (defArgs s_is_where) (defBody s_is_where) (defScope s_is_where) .none kV7 dc7 pm7 an7 cd7 ct7), sl7⟩)
    (c7 : PySem.W.codeIn K cd7 "is_where" = true)
    (k7 : PySem.W.keepIn K (.ref f7) = true)
    (a8 : PySem.W.nsIn K mainGlobals "need_where" = some (some (.ref f8)))
    (l8 : K.lookup f8 = some ⟨oc8, od8, .func (PySem.W.fnOf "need_where" "need_where" (defArgs s_need_where) (defBody s_need_where) (defScope s_need_where) (.ref T8) kV8 dc8 pm8 an8 cd8 ct8), sl8⟩)
    (c8 : PySem.W.codeIn K cd8 "need_where" = true)
    (k8 : PySem.W.keepIn K (.ref f8) = true)
    (d8 : K.lookup T8 = some ⟨to8, td8, .seq #[.str "where" u8_0] tn8, ts8⟩)
    (a9 : PySem.W.nsIn K mainGlobals "other_word" = some (some (.ref f9)))
    (l9 : K.lookup f9 = some ⟨oc9, od9, .func (PySem.W.fnOf "other_word" "other_word" (defArgs s_other_word) (defBody s_other_word) (defScope s_other_word) .none kV9 dc9 pm9 an9 cd9 ct9), sl9⟩)
    (c9 : PySem.W.codeIn K cd9 "other_word" = true)
    (k9 : PySem.W.keepIn K (.ref f9) = true)
    (a10 : PySem.W.nsIn K mainGlobals "turned_set" = some (some (.ref f10)))
    (l10 : K.lookup f10 = some ⟨oc10, od10, .func (PySem.W.fnOf "turned_set" "turned_set" (defArgs s_turned_set) (defBody s_turned_set) (defScope s_turned_set) .none kV10 dc10 pm10 an10 cd10 ct10), sl10⟩)
    (c10 : PySem.W.codeIn K cd10 "turned_set" = true)
    (k10 : PySem.W.keepIn K (.ref f10) = true)
    (a11 : PySem.W.nsIn K mainGlobals "others" = some (some (.ref f11)))
    (l11 : K.lookup f11 = some ⟨oc11, od11, .func (PySem.W.fnOf "others" "others" (defArgs s_others) (defBody s_others) (defScope s_others) .none kV11 dc11 pm11 an11 cd11 ct11), sl11⟩)
    (c11 : PySem.W.codeIn K cd11 "others" = true)
    (k11 : PySem.W.keepIn K (.ref f11) = true)
    (a12 : PySem.W.nsIn K mainGlobals "without_primes" = some (some (.ref f12)))
    (l12 : K.lookup f12 = some ⟨oc12, od12, .func (PySem.W.fnOf "without_primes" "without_primes" (defArgs s_without_primes) (defBody s_without_primes) (defScope s_without_primes) .none kV12 dc12 pm12 an12 cd12 ct12), sl12⟩)
    (c12 : PySem.W.codeIn K cd12 "without_primes" = true)
    (k12 : PySem.W.keepIn K (.ref f12) = true)
    (a13 : PySem.W.nsIn K mainGlobals "met" = some (some (.ref f13)))
    (l13 : K.lookup f13 = some ⟨oc13, od13, .func (PySem.W.fnOf "met" "met" (defArgs s_met) (defBody s_met) (defScope s_met) .none kV13 dc13 pm13 an13 cd13 ct13), sl13⟩)
    (c13 : PySem.W.codeIn K cd13 "met" = true)
    (k13 : PySem.W.keepIn K (.ref f13) = true)
    (a14 : PySem.W.nsIn K mainGlobals "joined" = some (some (.ref f14)))
    (l14 : K.lookup f14 = some ⟨oc14, od14, .func (PySem.W.fnOf "joined" "joined" (defArgs s_joined) (defBody s_joined) (defScope s_joined) .none kV14 dc14 pm14 an14 cd14 ct14), sl14⟩)
    (c14 : PySem.W.codeIn K cd14 "joined" = true)
    (k14 : PySem.W.keepIn K (.ref f14) = true)
    (a15 : PySem.W.nsIn K mainGlobals "join" = some (some (.ref f15)))
    (l15 : K.lookup f15 = some ⟨oc15, od15, .func (PySem.W.fnOf "join" "join" (defArgs s_join) (defBody s_join) (defScope s_join) .none kV15 dc15 pm15 an15 cd15 ct15), sl15⟩)
    (c15 : PySem.W.codeIn K cd15 "join" = true)
    (k15 : PySem.W.keepIn K (.ref f15) = true)
    (a16 : PySem.W.nsIn K mainGlobals "meet" = some (some (.ref f16)))
    (l16 : K.lookup f16 = some ⟨oc16, od16, .func (PySem.W.fnOf "meet" "meet" (defArgs s_meet) (defBody s_meet) (defScope s_meet) .none kV16 dc16 pm16 an16 cd16 ct16), sl16⟩)
    (c16 : PySem.W.codeIn K cd16 "meet" = true)
    (k16 : PySem.W.keepIn K (.ref f16) = true)
    (a17 : PySem.W.nsIn K mainGlobals "_law_has" = some (some (.ref f17)))
    (l17 : K.lookup f17 = some ⟨oc17, od17, .func (PySem.W.fnOf "_law_has" "_law_has" (defArgs s__law_has) (defBody s__law_has) (defScope s__law_has) .none kV17 dc17 pm17 an17 cd17 ct17), sl17⟩)
    (c17 : PySem.W.codeIn K cd17 "_law_has" = true)
    (k17 : PySem.W.keepIn K (.ref f17) = true)
    (a18 : PySem.W.nsIn K mainGlobals "has" = some (some (.ref f18)))
    (l18 : K.lookup f18 = some ⟨oc18, od18, .func (PySem.W.fnOf "has" "has" (defArgs s_has) (defBody s_has) (defScope s_has) .none kV18 dc18 pm18 an18 cd18 ct18), sl18⟩)
    (c18 : PySem.W.codeIn K cd18 "has" = true)
    (k18 : PySem.W.keepIn K (.ref f18) = true)
    (a19 : PySem.W.nsIn K mainGlobals "power_below" = some (some (.ref f19)))
    (l19 : K.lookup f19 = some ⟨oc19, od19, .func (PySem.W.fnOf "power_below" "power_below" (defArgs s_power_below) (defBody s_power_below) (defScope s_power_below) .none kV19 dc19 pm19 an19 cd19 ct19), sl19⟩)
    (c19 : PySem.W.codeIn K cd19 "power_below" = true)
    (k19 : PySem.W.keepIn K (.ref f19) = true)
    (a20 : PySem.W.nsIn K mainGlobals "stands" = some (some (.ref f20)))
    (l20 : K.lookup f20 = some ⟨oc20, od20, .func (PySem.W.fnOf "stands" "stands" (defArgs s_stands) (defBody s_stands) (defScope s_stands) .none kV20 dc20 pm20 an20 cd20 ct20), sl20⟩)
    (c20 : PySem.W.codeIn K cd20 "stands" = true)
    (k20 : PySem.W.keepIn K (.ref f20) = true)
    (a21 : PySem.W.nsIn K mainGlobals "prime" = some (some (.ref f21)))
    (l21 : K.lookup f21 = some ⟨oc21, od21, .func (PySem.W.fnOf "prime" "prime" (defArgs s_prime) (defBody s_prime) (defScope s_prime) .none kV21 dc21 pm21 an21 cd21 ct21), sl21⟩)
    (c21 : PySem.W.codeIn K cd21 "prime" = true)
    (k21 : PySem.W.keepIn K (.ref f21) = true)
    (a22 : PySem.W.nsIn K mainGlobals "is_prime" = some (some (.ref f22)))
    (l22 : K.lookup f22 = some ⟨oc22, od22, .func (PySem.W.fnOf "is_prime" "is_prime" (defArgs s_is_prime) (defBody s_is_prime) (defScope s_is_prime) .none kV22 dc22 pm22 an22 cd22 ct22), sl22⟩)
    (c22 : PySem.W.codeIn K cd22 "is_prime" = true)
    (k22 : PySem.W.keepIn K (.ref f22) = true)
    (a23 : PySem.W.nsIn K mainGlobals "need_prime" = some (some (.ref f23)))
    (l23 : K.lookup f23 = some ⟨oc23, od23, .func (PySem.W.fnOf "need_prime" "need_prime" (defArgs s_need_prime) (defBody s_need_prime) (defScope s_need_prime) (.ref T23) kV23 dc23 pm23 an23 cd23 ct23), sl23⟩)
    (c23 : PySem.W.codeIn K cd23 "need_prime" = true)
    (k23 : PySem.W.keepIn K (.ref f23) = true)
    (d23 : K.lookup T23 = some ⟨to23, td23, .seq #[.str "prime" u23_0] tn23, ts23⟩)
    (a24 : PySem.W.nsIn K mainGlobals "is_in" = some (some (.ref f24)))
    (l24 : K.lookup f24 = some ⟨oc24, od24, .func (PySem.W.fnOf "is_in" "is_in" (defArgs s_is_in) (defBody s_is_in) (defScope s_is_in) .none kV24 dc24 pm24 an24 cd24 ct24), sl24⟩)
    (c24 : PySem.W.codeIn K cd24 "is_in" = true)
    (k24 : PySem.W.keepIn K (.ref f24) = true)
    (a25 : PySem.W.nsIn K mainGlobals "is_same" = some (some (.ref f25)))
    (l25 : K.lookup f25 = some ⟨oc25, od25, .func (PySem.W.fnOf "is_same" "is_same" (defArgs s_is_same) (defBody s_is_same) (defScope s_is_same) .none kV25 dc25 pm25 an25 cd25 ct25), sl25⟩)
    (c25 : PySem.W.codeIn K cd25 "is_same" = true)
    (k25 : PySem.W.keepIn K (.ref f25) = true)
    (a26 : PySem.W.nsIn K mainGlobals "are_same" = some (some (.ref f26)))
    (l26 : K.lookup f26 = some ⟨oc26, od26, .func (PySem.W.fnOf "are_same" "are_same" (defArgs s_are_same) (defBody s_are_same) (defScope s_are_same) .none kV26 dc26 pm26 an26 cd26 ct26), sl26⟩)
    (c26 : PySem.W.codeIn K cd26 "are_same" = true)
    (k26 : PySem.W.keepIn K (.ref f26) = true)
    (a27 : PySem.W.nsIn K mainGlobals "_law_sets_alike" = some (some (.ref f27)))
    (l27 : K.lookup f27 = some ⟨oc27, od27, .func (PySem.W.fnOf "_law_sets_alike" "_law_sets_alike" (defArgs s__law_sets_alike) (defBody s__law_sets_alike) (defScope s__law_sets_alike) .none kV27 dc27 pm27 an27 cd27 ct27), sl27⟩)
    (c27 : PySem.W.codeIn K cd27 "_law_sets_alike" = true)
    (k27 : PySem.W.keepIn K (.ref f27) = true)
    (a28 : PySem.W.nsIn K mainGlobals "need_whole" = some (some (.ref f28)))
    (l28 : K.lookup f28 = some ⟨oc28, od28, .func (PySem.W.fnOf "need_whole" "need_whole" (defArgs s_need_whole) (defBody s_need_whole) (defScope s_need_whole) (.ref T28) kV28 dc28 pm28 an28 cd28 ct28), sl28⟩)
    (c28 : PySem.W.codeIn K cd28 "need_whole" = true)
    (k28 : PySem.W.keepIn K (.ref f28) = true)
    (d28 : K.lookup T28 = some ⟨to28, td28, .seq #[.none] tn28, ts28⟩)
    (a29 : PySem.W.nsIn K mainGlobals "parts_found" = some (some (.ref f29)))
    (l29 : K.lookup f29 = some ⟨oc29, od29, .func (PySem.W.fnOf "parts_found" "parts_found" (defArgs s_parts_found) (defBody s_parts_found) (defScope s_parts_found) .none kV29 dc29 pm29 an29 cd29 ct29), sl29⟩)
    (c29 : PySem.W.codeIn K cd29 "parts_found" = true)
    (k29 : PySem.W.keepIn K (.ref f29) = true)
    (a30 : PySem.W.nsIn K mainGlobals "parted" = some (some (.ref f30)))
    (l30 : K.lookup f30 = some ⟨oc30, od30, .func (PySem.W.fnOf "parted" "parted" (defArgs s_parted) (defBody s_parted) (defScope s_parted) .none kV30 dc30 pm30 an30 cd30 ct30), sl30⟩)
    (c30 : PySem.W.codeIn K cd30 "parted" = true)
    (k30 : PySem.W.keepIn K (.ref f30) = true)
    (a31 : PySem.W.nsIn K mainGlobals "primes_of" = some (some (.ref f31)))
    (l31 : K.lookup f31 = some ⟨oc31, od31, .func (PySem.W.fnOf "primes_of" "primes_of" (defArgs s_primes_of) (defBody s_primes_of) (defScope s_primes_of) .none kV31 dc31 pm31 an31 cd31 ct31), sl31⟩)
    (c31 : PySem.W.codeIn K cd31 "primes_of" = true)
    (k31 : PySem.W.keepIn K (.ref f31) = true)
    (a32 : PySem.W.nsIn K mainGlobals "told_primes" = some (some (.ref f32)))
    (l32 : K.lookup f32 = some ⟨oc32, od32, .func (PySem.W.fnOf "told_primes" "told_primes" (defArgs s_told_primes) (defBody s_told_primes) (defScope s_told_primes) .none kV32 dc32 pm32 an32 cd32 ct32), sl32⟩)
    (c32 : PySem.W.codeIn K cd32 "told_primes" = true)
    (k32 : PySem.W.keepIn K (.ref f32) = true)
    (a33 : PySem.W.nsIn K mainGlobals "_law_pen" = some (some (.ref f33)))
    (l33 : K.lookup f33 = some ⟨oc33, od33, .func (PySem.W.fnOf "_law_pen" "_law_pen" (defArgs s__law_pen) (defBody s__law_pen) (defScope s__law_pen) .none kV33 dc33 pm33 an33 cd33 ct33), sl33⟩)
    (c33 : PySem.W.codeIn K cd33 "_law_pen" = true)
    (k33 : PySem.W.keepIn K (.ref f33) = true)
    (a34 : PySem.W.nsIn K mainGlobals "law" = some (some (.ref f34)))
    (l34 : K.lookup f34 = some ⟨oc34, od34, .func (PySem.W.fnOf "law" "law" (defArgs s_law) (defBody s_law) (defScope s_law) .none kV34 dc34 pm34 an34 cd34 ct34), sl34⟩)
    (c34 : PySem.W.codeIn K cd34 "law" = true)
    (k34 : PySem.W.keepIn K (.ref f34) = true)
    (z_abs : PySem.W.nsIn K mainGlobals "abs" = some none)
    (z_all : PySem.W.nsIn K mainGlobals "all" = some none)
    (z_bool : PySem.W.nsIn K mainGlobals "bool" = some none)
    (z_int : PySem.W.nsIn K mainGlobals "int" = some none)
    (z_isinstance : PySem.W.nsIn K mainGlobals "isinstance" = some none)
    (z_len : PySem.W.nsIn K mainGlobals "len" = some none)
    (z_list : PySem.W.nsIn K mainGlobals "list" = some none)
    (z_range : PySem.W.nsIn K mainGlobals "range" = some none)
    (z_repr : PySem.W.nsIn K mainGlobals "repr" = some none)
    (z_str : PySem.W.nsIn K mainGlobals "str" = some none)
    (z_tuple : PySem.W.nsIn K mainGlobals "tuple" = some none)
    (i_gcd : PySem.W.nsIn K mainGlobals "gcd" = some (some (.builtin "math.gcd")))
    (v_BASES : PySem.W.nsIn K mainGlobals "BASES" = some (some (.ref A_BASES)))
    (w_BASES : K.lookup A_BASES = some ⟨.type "tuple", ad_BASES, .seq #[.int 2 u_BASES_0, .int 3 u_BASES_1, .int 5 u_BASES_2, .int 7 u_BASES_3, .int 11 u_BASES_4, .int 13 u_BASES_5, .int 17 u_BASES_6, .int 19 u_BASES_7, .int 23 u_BASES_8, .int 29 u_BASES_9, .int 31 u_BASES_10, .int 37 u_BASES_11, .int 41 u_BASES_12] an_BASES, as_BASES⟩)
    (v_BUT : PySem.W.nsIn K mainGlobals "BUT" = some (some (.str "but" t_BUT)))
    (v_MOST : PySem.W.nsIn K mainGlobals "MOST" = some (some (.int 1000000000000000000000000 t_MOST)))
    (v_MOST_CHARACTERISTIC : PySem.W.nsIn K mainGlobals "MOST_CHARACTERISTIC" = some (some (.int 1000000000000 t_MOST_CHARACTERISTIC)))
    (v_ONLY : PySem.W.nsIn K mainGlobals "ONLY" = some (some (.str "only" t_ONLY)))
    (v_SMALL : PySem.W.nsIn K mainGlobals "SMALL" = some (some (.int 100000 t_SMALL)))
    (v_WORDS : PySem.W.nsIn K mainGlobals "WORDS" = some (some (.ref A_WORDS)))
    (w_WORDS : K.lookup A_WORDS = some ⟨.type "tuple", ad_WORDS, .seq #[.str "only" u_WORDS_0, .str "but" u_WORDS_1] an_WORDS, as_WORDS⟩) :
    ∃ fd : FuncData, (∀ (s : Shared) (v : Value), BindsTo s fd ⟨[v], []⟩ [("script", v)]) ∧ ∀ base : Heap, K.In base → base.Ns mainGlobals mg → LawRun P w K mg base fa fd ["script"] (spLaw K) := by
  have e := hfa.symm.trans (PySem.W.mg_of X G a34)
  cases e
  let T : Tx K mg := { fa__law_primes := f0, fd__law_primes := _, F__law_primes := ⟨⟨oc0, od0, _, kV0, dc0, pm0, an0, cd0, ct0, sl0, rfl, l0, c0, .inl ⟨rfl, rfl⟩, .inl rfl⟩, k0⟩, g__law_primes := PySem.W.mg_of X G a0, fa__law_draw := f1, fd__law_draw := _, F__law_draw := ⟨⟨oc1, od1, _, kV1, dc1, pm1, an1, cd1, ct1, sl1, rfl, l1, c1, .inl ⟨rfl, rfl⟩, .inl rfl⟩, k1⟩, g__law_draw := PySem.W.mg_of X G a1, fa__law_pick := f2, fd__law_pick := _, F__law_pick := ⟨⟨oc2, od2, _, kV2, dc2, pm2, an2, cd2, ct2, sl2, rfl, l2, c2, .inl ⟨rfl, rfl⟩, .inl rfl⟩, k2⟩, g__law_pick := PySem.W.mg_of X G a2, fa__law_set := f3, fd__law_set := _, F__law_set := ⟨⟨oc3, od3, _, kV3, dc3, pm3, an3, cd3, ct3, sl3, rfl, l3, c3, .inl ⟨rfl, rfl⟩, .inl rfl⟩, k3⟩, g__law_set := PySem.W.mg_of X G a3, fa_is_whole := f4, fd_is_whole := _, F_is_whole := ⟨⟨oc4, od4, _, kV4, dc4, pm4, an4, cd4, ct4, sl4, rfl, l4, c4, .inl ⟨rfl, rfl⟩, .inl rfl⟩, k4⟩, g_is_whole := PySem.W.mg_of X G a4, fa_is_within := f5, fd_is_within := _, F_is_within := ⟨⟨oc5, od5, _, kV5, dc5, pm5, an5, cd5, ct5, sl5, rfl, l5, c5, .inl ⟨rfl, rfl⟩, .inl rfl⟩, k5⟩, g_is_within := PySem.W.mg_of X G a5, fa_is_listed := f6, fd_is_listed := _, F_is_listed := ⟨⟨oc6, od6, _, kV6, dc6, pm6, an6, cd6, ct6, sl6, rfl, l6, c6, .inl ⟨rfl, rfl⟩, .inl rfl⟩, k6⟩, g_is_listed := PySem.W.mg_of X G a6, fa_is_where := f7, fd_is_where := _, F_is_where := ⟨⟨oc7, od7, _, kV7, dc7, pm7, an7, cd7, ct7, sl7, rfl, l7, c7, .inl ⟨rfl, rfl⟩, .inl rfl⟩, k7⟩, g_is_where := PySem.W.mg_of X G a7, fa_need_where := f8, fd_need_where := _, F_need_where := ⟨⟨oc8, od8, _, kV8, dc8, pm8, an8, cd8, ct8, sl8, rfl, l8, c8, .inr ⟨by simp, T8, _, _, _, rfl, d8, rfl, (.cons ⟨_, rfl⟩ .nil)⟩, .inl rfl⟩, k8⟩, g_need_where := PySem.W.mg_of X G a8, fa_other_word := f9, fd_other_word := _, F_other_word := ⟨⟨oc9, od9, _, kV9, dc9, pm9, an9, cd9, ct9, sl9, rfl, l9, c9, .inl ⟨rfl, rfl⟩, .inl rfl⟩, k9⟩, g_other_word := PySem.W.mg_of X G a9, fa_turned_set := f10, fd_turned_set := _, F_turned_set := ⟨⟨oc10, od10, _, kV10, dc10, pm10, an10, cd10, ct10, sl10, rfl, l10, c10, .inl ⟨rfl, rfl⟩, .inl rfl⟩, k10⟩, g_turned_set := PySem.W.mg_of X G a10, fa_others := f11, fd_others := _, F_others := ⟨⟨oc11, od11, _, kV11, dc11, pm11, an11, cd11, ct11, sl11, rfl, l11, c11, .inl ⟨rfl, rfl⟩, .inl rfl⟩, k11⟩, g_others := PySem.W.mg_of X G a11, fa_without_primes := f12, fd_without_primes := _, F_without_primes := ⟨⟨oc12, od12, _, kV12, dc12, pm12, an12, cd12, ct12, sl12, rfl, l12, c12, .inl ⟨rfl, rfl⟩, .inl rfl⟩, k12⟩, g_without_primes := PySem.W.mg_of X G a12, fa_met := f13, fd_met := _, F_met := ⟨⟨oc13, od13, _, kV13, dc13, pm13, an13, cd13, ct13, sl13, rfl, l13, c13, .inl ⟨rfl, rfl⟩, .inl rfl⟩, k13⟩, g_met := PySem.W.mg_of X G a13, fa_joined := f14, fd_joined := _, F_joined := ⟨⟨oc14, od14, _, kV14, dc14, pm14, an14, cd14, ct14, sl14, rfl, l14, c14, .inl ⟨rfl, rfl⟩, .inl rfl⟩, k14⟩, g_joined := PySem.W.mg_of X G a14, fa_join := f15, fd_join := _, F_join := ⟨⟨oc15, od15, _, kV15, dc15, pm15, an15, cd15, ct15, sl15, rfl, l15, c15, .inl ⟨rfl, rfl⟩, .inl rfl⟩, k15⟩, g_join := PySem.W.mg_of X G a15, fa_meet := f16, fd_meet := _, F_meet := ⟨⟨oc16, od16, _, kV16, dc16, pm16, an16, cd16, ct16, sl16, rfl, l16, c16, .inl ⟨rfl, rfl⟩, .inl rfl⟩, k16⟩, g_meet := PySem.W.mg_of X G a16, fa__law_has := f17, fd__law_has := _, F__law_has := ⟨⟨oc17, od17, _, kV17, dc17, pm17, an17, cd17, ct17, sl17, rfl, l17, c17, .inl ⟨rfl, rfl⟩, .inl rfl⟩, k17⟩, g__law_has := PySem.W.mg_of X G a17, fa_has := f18, fd_has := _, F_has := ⟨⟨oc18, od18, _, kV18, dc18, pm18, an18, cd18, ct18, sl18, rfl, l18, c18, .inl ⟨rfl, rfl⟩, .inl rfl⟩, k18⟩, g_has := PySem.W.mg_of X G a18, fa_power_below := f19, fd_power_below := _, F_power_below := ⟨⟨oc19, od19, _, kV19, dc19, pm19, an19, cd19, ct19, sl19, rfl, l19, c19, .inl ⟨rfl, rfl⟩, .inl rfl⟩, k19⟩, g_power_below := PySem.W.mg_of X G a19, fa_stands := f20, fd_stands := _, F_stands := ⟨⟨oc20, od20, _, kV20, dc20, pm20, an20, cd20, ct20, sl20, rfl, l20, c20, .inl ⟨rfl, rfl⟩, .inl rfl⟩, k20⟩, g_stands := PySem.W.mg_of X G a20, fa_prime := f21, fd_prime := _, F_prime := ⟨⟨oc21, od21, _, kV21, dc21, pm21, an21, cd21, ct21, sl21, rfl, l21, c21, .inl ⟨rfl, rfl⟩, .inl rfl⟩, k21⟩, g_prime := PySem.W.mg_of X G a21, fa_is_prime := f22, fd_is_prime := _, F_is_prime := ⟨⟨oc22, od22, _, kV22, dc22, pm22, an22, cd22, ct22, sl22, rfl, l22, c22, .inl ⟨rfl, rfl⟩, .inl rfl⟩, k22⟩, g_is_prime := PySem.W.mg_of X G a22, fa_need_prime := f23, fd_need_prime := _, F_need_prime := ⟨⟨oc23, od23, _, kV23, dc23, pm23, an23, cd23, ct23, sl23, rfl, l23, c23, .inr ⟨by simp, T23, _, _, _, rfl, d23, rfl, (.cons ⟨_, rfl⟩ .nil)⟩, .inl rfl⟩, k23⟩, g_need_prime := PySem.W.mg_of X G a23, fa_is_in := f24, fd_is_in := _, F_is_in := ⟨⟨oc24, od24, _, kV24, dc24, pm24, an24, cd24, ct24, sl24, rfl, l24, c24, .inl ⟨rfl, rfl⟩, .inl rfl⟩, k24⟩, g_is_in := PySem.W.mg_of X G a24, fa_is_same := f25, fd_is_same := _, F_is_same := ⟨⟨oc25, od25, _, kV25, dc25, pm25, an25, cd25, ct25, sl25, rfl, l25, c25, .inl ⟨rfl, rfl⟩, .inl rfl⟩, k25⟩, g_is_same := PySem.W.mg_of X G a25, fa_are_same := f26, fd_are_same := _, F_are_same := ⟨⟨oc26, od26, _, kV26, dc26, pm26, an26, cd26, ct26, sl26, rfl, l26, c26, .inl ⟨rfl, rfl⟩, .inl rfl⟩, k26⟩, g_are_same := PySem.W.mg_of X G a26, fa__law_sets_alike := f27, fd__law_sets_alike := _, F__law_sets_alike := ⟨⟨oc27, od27, _, kV27, dc27, pm27, an27, cd27, ct27, sl27, rfl, l27, c27, .inl ⟨rfl, rfl⟩, .inl rfl⟩, k27⟩, g__law_sets_alike := PySem.W.mg_of X G a27, fa_need_whole := f28, fd_need_whole := _, F_need_whole := ⟨⟨oc28, od28, _, kV28, dc28, pm28, an28, cd28, ct28, sl28, rfl, l28, c28, .inr ⟨by simp, T28, _, _, _, rfl, d28, rfl, (.cons rfl .nil)⟩, .inl rfl⟩, k28⟩, g_need_whole := PySem.W.mg_of X G a28, fa_parts_found := f29, fd_parts_found := _, F_parts_found := ⟨⟨oc29, od29, _, kV29, dc29, pm29, an29, cd29, ct29, sl29, rfl, l29, c29, .inl ⟨rfl, rfl⟩, .inl rfl⟩, k29⟩, g_parts_found := PySem.W.mg_of X G a29, fa_parted := f30, fd_parted := _, F_parted := ⟨⟨oc30, od30, _, kV30, dc30, pm30, an30, cd30, ct30, sl30, rfl, l30, c30, .inl ⟨rfl, rfl⟩, .inl rfl⟩, k30⟩, g_parted := PySem.W.mg_of X G a30, fa_primes_of := f31, fd_primes_of := _, F_primes_of := ⟨⟨oc31, od31, _, kV31, dc31, pm31, an31, cd31, ct31, sl31, rfl, l31, c31, .inl ⟨rfl, rfl⟩, .inl rfl⟩, k31⟩, g_primes_of := PySem.W.mg_of X G a31, fa_told_primes := f32, fd_told_primes := _, F_told_primes := ⟨⟨oc32, od32, _, kV32, dc32, pm32, an32, cd32, ct32, sl32, rfl, l32, c32, .inl ⟨rfl, rfl⟩, .inl rfl⟩, k32⟩, g_told_primes := PySem.W.mg_of X G a32, fa__law_pen := f33, fd__law_pen := _, F__law_pen := ⟨⟨oc33, od33, _, kV33, dc33, pm33, an33, cd33, ct33, sl33, rfl, l33, c33, .inl ⟨rfl, rfl⟩, .inl rfl⟩, k33⟩, g__law_pen := PySem.W.mg_of X G a33, fa_law := fa, fd_law := _, F_law := ⟨⟨oc34, od34, _, kV34, dc34, pm34, an34, cd34, ct34, sl34, rfl, l34, c34, .inl ⟨rfl, rfl⟩, .inl rfl⟩, k34⟩, g_law := PySem.W.mg_of X G a34, nb_abs := PySem.W.mg_none_of X G z_abs, nb_all := PySem.W.mg_none_of X G z_all, nb_bool := PySem.W.mg_none_of X G z_bool, nb_int := PySem.W.mg_none_of X G z_int, nb_isinstance := PySem.W.mg_none_of X G z_isinstance, nb_len := PySem.W.mg_none_of X G z_len, nb_list := PySem.W.mg_none_of X G z_list, nb_range := PySem.W.mg_none_of X G z_range, nb_repr := PySem.W.mg_none_of X G z_repr, nb_str := PySem.W.mg_none_of X G z_str, nb_tuple := PySem.W.mg_none_of X G z_tuple, gi_gcd := PySem.W.mg_of X G i_gcd, ca_BASES := A_BASES, gc_BASES := PySem.W.mg_of X G v_BASES, rc_BASES := fun _ => .tup (xs := [.int 2, .int 3, .int 5, .int 7, .int 11, .int 13, .int 17, .int 19, .int 23, .int 29, .int 31, .int 37, .int 41]) (.inr ⟨_, _, _, w_BASES, rfl, rfl, (by show 13 ≤ sizeLine; decide), (.cons ⟨_, rfl⟩ (.cons ⟨_, rfl⟩ (.cons ⟨_, rfl⟩ (.cons ⟨_, rfl⟩ (.cons ⟨_, rfl⟩ (.cons ⟨_, rfl⟩ (.cons ⟨_, rfl⟩ (.cons ⟨_, rfl⟩ (.cons ⟨_, rfl⟩ (.cons ⟨_, rfl⟩ (.cons ⟨_, rfl⟩ (.cons ⟨_, rfl⟩ (.cons ⟨_, rfl⟩ .nil)))))))))))))⟩) (.cons (.int _) (.cons (.int _) (.cons (.int _) (.cons (.int _) (.cons (.int _) (.cons (.int _) (.cons (.int _) (.cons (.int _) (.cons (.int _) (.cons (.int _) (.cons (.int _) (.cons (.int _) (.cons (.int _) .nil))))))))))))), ct_BUT := t_BUT, gc_BUT := PySem.W.mg_of X G v_BUT, ct_MOST := t_MOST, gc_MOST := PySem.W.mg_of X G v_MOST, ct_MOST_CHARACTERISTIC := t_MOST_CHARACTERISTIC, gc_MOST_CHARACTERISTIC := PySem.W.mg_of X G v_MOST_CHARACTERISTIC, ct_ONLY := t_ONLY, gc_ONLY := PySem.W.mg_of X G v_ONLY, ct_SMALL := t_SMALL, gc_SMALL := PySem.W.mg_of X G v_SMALL, ca_WORDS := A_WORDS, gc_WORDS := PySem.W.mg_of X G v_WORDS, rc_WORDS := fun _ => .tup (xs := [.str "only", .str "but"]) (.inr ⟨_, _, _, w_WORDS, rfl, rfl, (by show 2 ≤ sizeLine; decide), (.cons ⟨_, rfl⟩ (.cons ⟨_, rfl⟩ .nil))⟩) (.cons (.str _) (.cons (.str _) .nil)) }
  exact ⟨T.fd_law, fun s v => .of_eq rfl, fun base _ _ => ok_law T⟩
end Law
set_option Elab.async false
set_option linter.all false
set_option maxRecDepth 100000
open PySem PySem.W PyProof.Rows
set_option maxHeartbeats 0 in
theorem PySem.Challenge.cw_closedfields_k28_sets_of_characteristics_holds : PySem.Challenge.rw_closedfields_k28_sets_of_characteristics.Holds := by
  w_on; o_law; k_head; (case hw => w_witness2)
  k_fill
  refine DL.walk_law (l := PySem.Challenge.rw_closedfields_k28_sets_of_characteristics) (n := 63) (x := "script") (sp := fun w => Law.spLaw _) rfl (by decide) rfl (fun w h Y => PySem.W.kIn_of Y) ?F (fun _ _ a ns hl _ hS => ⟨a, ns, rfl, hS, hl, fun _ => rfl⟩)
  case F =>
    intro w mg fa h KX G hmg
    refine' Law.all_mk KX G hmg ?a0 ?l0 ?c0 ?k0 ?a1 ?l1 ?c1 ?k1 ?a2 ?l2 ?c2 ?k2 ?a3 ?l3 ?c3 ?k3 ?a4 ?l4 ?c4 ?k4 ?a5 ?l5 ?c5 ?k5 ?a6 ?l6 ?c6 ?k6 ?a7 ?l7 ?c7 ?k7 ?a8 ?l8 ?c8 ?k8 ?d8 ?a9 ?l9 ?c9 ?k9 ?a10 ?l10 ?c10 ?k10 ?a11 ?l11 ?c11 ?k11 ?a12 ?l12 ?c12 ?k12 ?a13 ?l13 ?c13 ?k13 ?a14 ?l14 ?c14 ?k14 ?a15 ?l15 ?c15 ?k15 ?a16 ?l16 ?c16 ?k16 ?a17 ?l17 ?c17 ?k17 ?a18 ?l18 ?c18 ?k18 ?a19 ?l19 ?c19 ?k19 ?a20 ?l20 ?c20 ?k20 ?a21 ?l21 ?c21 ?k21 ?a22 ?l22 ?c22 ?k22 ?a23 ?l23 ?c23 ?k23 ?d23 ?a24 ?l24 ?c24 ?k24 ?a25 ?l25 ?c25 ?k25 ?a26 ?l26 ?c26 ?k26 ?a27 ?l27 ?c27 ?k27 ?a28 ?l28 ?c28 ?k28 ?d28 ?a29 ?l29 ?c29 ?k29 ?a30 ?l30 ?c30 ?k30 ?a31 ?l31 ?c31 ?k31 ?a32 ?l32 ?c32 ?k32 ?a33 ?l33 ?c33 ?k33 ?a34 ?l34 ?c34 ?k34 ?z_abs ?z_all ?z_bool ?z_int ?z_isinstance ?z_len ?z_list ?z_range ?z_repr ?z_str ?z_tuple ?i_gcd ?v_BASES ?w_BASES ?v_BUT ?v_MOST ?v_MOST_CHARACTERISTIC ?v_ONLY ?v_SMALL ?v_WORDS ?w_WORDS
    (case a0 => k_is); (case l0 => k_is); (case c0 => k_is); (case k0 => k_is); (case a1 => k_is); (case l1 => k_is)
    (case c1 => k_is); (case k1 => k_is); (case a2 => k_is); (case l2 => k_is); (case c2 => k_is); (case k2 => k_is)
    (case a3 => k_is); (case l3 => k_is); (case c3 => k_is); (case k3 => k_is); (case a4 => k_is); (case l4 => k_is)
    (case c4 => k_is); (case k4 => k_is); (case a5 => k_is); (case l5 => k_is); (case c5 => k_is); (case k5 => k_is)
    (case a6 => k_is); (case l6 => k_is); (case c6 => k_is); (case k6 => k_is); (case a7 => k_is); (case l7 => k_is)
    (case c7 => k_is); (case k7 => k_is); (case a8 => k_is); (case l8 => k_is); (case c8 => k_is); (case k8 => k_is)
    (case d8 => k_is); (case a9 => k_is); (case l9 => k_is); (case c9 => k_is); (case k9 => k_is); (case a10 => k_is)
    (case l10 => k_is); (case c10 => k_is); (case k10 => k_is); (case a11 => k_is); (case l11 => k_is); (case c11 => k_is)
    (case k11 => k_is); (case a12 => k_is); (case l12 => k_is); (case c12 => k_is); (case k12 => k_is); (case a13 => k_is)
    (case l13 => k_is); (case c13 => k_is); (case k13 => k_is); (case a14 => k_is); (case l14 => k_is); (case c14 => k_is)
    (case k14 => k_is); (case a15 => k_is); (case l15 => k_is); (case c15 => k_is); (case k15 => k_is); (case a16 => k_is)
    (case l16 => k_is); (case c16 => k_is); (case k16 => k_is); (case a17 => k_is); (case l17 => k_is); (case c17 => k_is)
    (case k17 => k_is); (case a18 => k_is); (case l18 => k_is); (case c18 => k_is); (case k18 => k_is); (case a19 => k_is)
    (case l19 => k_is); (case c19 => k_is); (case k19 => k_is); (case a20 => k_is); (case l20 => k_is); (case c20 => k_is)
    (case k20 => k_is); (case a21 => k_is); (case l21 => k_is); (case c21 => k_is); (case k21 => k_is); (case a22 => k_is)
    (case l22 => k_is); (case c22 => k_is); (case k22 => k_is); (case a23 => k_is); (case l23 => k_is); (case c23 => k_is)
    (case k23 => k_is); (case d23 => k_is); (case a24 => k_is); (case l24 => k_is); (case c24 => k_is); (case k24 => k_is)
    (case a25 => k_is); (case l25 => k_is); (case c25 => k_is); (case k25 => k_is); (case a26 => k_is); (case l26 => k_is)
    (case c26 => k_is); (case k26 => k_is); (case a27 => k_is); (case l27 => k_is); (case c27 => k_is); (case k27 => k_is)
    (case a28 => k_is); (case l28 => k_is); (case c28 => k_is); (case k28 => k_is); (case d28 => k_is); (case a29 => k_is)
    (case l29 => k_is); (case c29 => k_is); (case k29 => k_is); (case a30 => k_is); (case l30 => k_is); (case c30 => k_is)
    (case k30 => k_is); (case a31 => k_is); (case l31 => k_is); (case c31 => k_is); (case k31 => k_is); (case a32 => k_is)
    (case l32 => k_is); (case c32 => k_is); (case k32 => k_is); (case a33 => k_is); (case l33 => k_is); (case c33 => k_is)
    (case k33 => k_is); (case a34 => k_is); (case l34 => k_is); (case c34 => k_is); (case k34 => k_is); (case z_abs => k_is)
    (case z_all => k_is); (case z_bool => k_is); (case z_int => k_is); (case z_isinstance => k_is); (case z_len => k_is); (case z_list => k_is)
    (case z_range => k_is); (case z_repr => k_is); (case z_str => k_is); (case z_tuple => k_is); (case i_gcd => k_is); (case v_BASES => k_is)
    (case w_BASES => k_is); (case v_BUT => k_is); (case v_MOST => k_is); (case v_MOST_CHARACTERISTIC => k_is); (case v_ONLY => k_is); (case v_SMALL => k_is)
    (case v_WORDS => k_is); (case w_WORDS => k_is)
